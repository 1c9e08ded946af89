import PyProof.Rows.All
import Wide.All
import OpenK.AllK
import Wide.FinOn
import HandS.ForMost
import HandS.Deep
import HandS.IsInst
import HandS.Walk
import HandS.Wide
import HandS.WideBits
import HandS.NoneIn
import HandS.Codes
import HandS.Style
import KE.KTupSum
import HandS.TupLe
import KE.GoesMore
import HandS.Sort
import HandS.Ends
import PyProof.ReprRoads
import PyProof.ReprLen
import PySem.Challenge.RW_healwires_k65_whole_harm_of_webs
set_option Elab.async false
set_option linter.all false
set_option maxRecDepth 100000
set_option maxHeartbeats 2000000
/-! A layer of data over HandS: readings are run on abstract states: slots hold data, lists that change are cells. -/
namespace DL
open PySem PySem.Spec PyProof.Rows L2

inductive D where
  | dat (d : PyData)
  | cel (i : Nat)
  | val (v : V)

abbrev Ms := Nat → Option (List PyData)
abbrev Cs := Nat → Option Addr
abbrev Ds := List (Option D)
def put (M : Ms) (i : Nat) (xs : List PyData) : Ms := fun j => if j = i then some xs else M j
def del (M : Ms) (i : Nat) : Ms := fun j => if j = i then none else M j
@[simp] theorem put_same (M : Ms) (i : Nat) (xs : List PyData) : put M i xs i = some xs := if_pos rfl
theorem put_ne {M : Ms} {i j : Nat} {xs : List PyData} (h : j ≠ i) : put M i xs j = M j := if_neg h
@[simp] theorem del_same (M : Ms) (i : Nat) : del M i i = none := if_pos rfl
theorem del_ne {M : Ms} {i j : Nat} (h : j ≠ i) : del M i j = M j := if_neg h
theorem del_put {M : Ms} {i : Nat} {xs : List PyData} (h : M i = none) : del (put M i xs) i = M := by
  funext j
  unfold del put
  by_cases e : j = i
  · rw [if_pos e, e, h]
  · rw [if_neg e, if_neg e]
@[simp] theorem put_put (M : Ms) (i : Nat) (xs ys : List PyData) : put (put M i xs) i ys = put M i ys := by
  funext j
  unfold put
  by_cases e : j = i
  · rw [if_pos e, if_pos e]
  · rw [if_neg e, if_neg e, if_neg e]
theorem put_comm {M : Ms} {i j : Nat} {xs ys : List PyData} (h : i ≠ j) : put (put M i xs) j ys = put (put M j ys) i xs := by
  funext k
  unfold put
  by_cases e : k = j
  · rw [if_pos e]
    by_cases e2 : k = i
    · exact absurd (e2.symm.trans e) h
    · rw [if_neg e2, if_pos e]
  · rw [if_neg e, if_neg e]

structure Wd where
  F : Hp
  c : Cs
structure Wd.le (w w' : Wd) : Prop where
  F : Same w.F w'.F
  c : ∀ i a, w.c i = some a → w'.c i = some a
theorem Wd.le.refl (w : Wd) : w.le w := ⟨Same.refl _, fun _ _ h => h⟩
theorem Wd.le.trans {a b c : Wd} (x : a.le b) (y : b.le c) : a.le c := ⟨x.F.trans y.F, fun i r h => y.c i r (x.c i r h)⟩

theorem sqL_mono {K : PySem.W.Frag} {H H' : Hp} {a : Addr} {xs : List V} (e : Same H H') (h : SqL K H a xs) : SqL K H' a xs := e.seq h
theorem sqT_mono {K : PySem.W.Frag} {H H' : Hp} {a : Addr} {xs : List V} (e : Same H H') (h : SqT K H a xs) : SqT K H' a xs := by
  rcases h with (h | ⟨o, h⟩) | h
  · exact .inl (.inl (e _ _ h))
  · exact .inl (.inr ⟨o, e _ _ h⟩)
  · exact .inr h
mutual
theorem dp_mono {K : PySem.W.Frag} {H H' : Hp} (e : Same H H') : ∀ (d : PyData) (v : V), Dp K H v d → Dp K H' v d
  | .none, _, h => by cases h; exact .non
  | .bool b, _, h => by cases h; exact .bl b
  | .int i, _, h => by cases h; exact .int i
  | .str x, _, h => by cases h; exact .str x
  | .list ds, _, h => by
    cases h with
    | lst hs ha => exact .lst (sqL_mono e hs) (dpAll_mono e ds _ ha)
  | .tuple ds, _, h => by
    cases h with
    | tup hs ha => exact .tup (sqT_mono e hs) (dpAll_mono e ds _ ha)
  | .dict _, _, h => by cases h
theorem dpAll_mono {K : PySem.W.Frag} {H H' : Hp} (e : Same H H') : ∀ (ds : List PyData) (vs : List V), DpAll K H vs ds → DpAll K H' vs ds
  | [], _, h => by cases h; exact .nil
  | d :: ds, _, h => by
    cases h with
    | cons h1 h2 => exact .cons (dp_mono e d _ h1) (dpAll_mono e ds _ h2)
end

end DL
namespace L2
open PySem PySem.Spec PyProof.Rows
section
variable {K : PySem.W.Frag}
theorem DpAll.len {H : Hp} : ∀ {vs : List V} {ds : List PyData}, DpAll K H vs ds → vs.length = ds.length
  | _, _, .nil => rfl
  | _, _, .cons _ t => congrArg (· + 1) (DpAll.len t)
theorem DpAll.get {H : Hp} : ∀ {vs : List V} {ds : List PyData} {i : Nat} {d : PyData}, DpAll K H vs ds → ds[i]? = some d → ∃ v, vs[i]? = some v ∧ Dp K H v d
  | _, _, _, _, .nil, e => by simp at e
  | _, _, 0, _, .cons r _, e => by
    simp at e
    subst e
    exact ⟨_, rfl, r⟩
  | _, _, i + 1, d, .cons _ t, e => by
    obtain ⟨v, h1, h2⟩ := DpAll.get (i := i) (d := d) t (by simpa using e)
    exact ⟨v, by simpa using h1, h2⟩
theorem DpAll.app {H : Hp} : ∀ {vs us : List V} {ds es : List PyData}, DpAll K H vs ds → DpAll K H us es → DpAll K H (vs ++ us) (ds ++ es)
  | _, _, _, _, .nil, s => s
  | _, _, _, _, .cons r t, s => .cons r (DpAll.app t s)
theorem DpAll.set {H : Hp} {v : V} {d : PyData} (r : Dp K H v d) : ∀ {vs : List V} {ds : List PyData} (i : Nat), DpAll K H vs ds → DpAll K H (vs.set i v) (ds.set i d)
  | _, _, _, .nil => .nil
  | _, _, 0, .cons _ t => .cons r t
  | _, _, i + 1, .cons q t => .cons q (DpAll.set r i t)
theorem DpAll.tk {H : Hp} : ∀ {vs : List V} {ds : List PyData} (n : Nat), DpAll K H vs ds → DpAll K H (vs.take n) (ds.take n)
  | _, _, 0, _ => .nil
  | _, _, _ + 1, .nil => .nil
  | _, _, n + 1, .cons r t => .cons r (DpAll.tk n t)
theorem DpAll.dr {H : Hp} : ∀ {vs : List V} {ds : List PyData} (n : Nat), DpAll K H vs ds → DpAll K H (vs.drop n) (ds.drop n)
  | _, _, 0, r => r
  | _, _, _ + 1, .nil => .nil
  | _, _, n + 1, .cons _ t => DpAll.dr n t
theorem DpAll.ints {H : Hp} : ∀ {vs : List V} {ns : List Int}, DpAll K H vs (ns.map PyData.int) → vs = ns.map V.int
  | _, [], .nil => rfl
  | _, n :: ns, .cons r t => by
    cases r
    show V.int n :: _ = V.int n :: _
    rw [DpAll.ints t]

end
end L2
namespace DL
open PySem PySem.Spec PyProof.Rows L2
section
variable {K : PySem.W.Frag}
def RelD (K : PySem.W.Frag) (w : Wd) : V → D → Prop
  | v, .dat d => Dp K w.F v d
  | v, .cel i => ∃ a, w.c i = some a ∧ v = .ref a
  | v, .val u => v = u
def RelAll (K : PySem.W.Frag) (w : Wd) : List V → List D → Prop
  | [], [] => True
  | v :: vs, d :: ds => RelD K w v d ∧ RelAll K w vs ds
  | _, _ => False
theorem RelD.mono {w w' : Wd} (e : w.le w') : ∀ {v : V} {d : D}, RelD K w v d → RelD K w' v d
  | v, .dat d, h => dp_mono e.F d v h
  | v, .cel i, ⟨a, h1, h2⟩ => ⟨a, e.c i a h1, h2⟩
  | v, .val u, h => h
theorem RelAll.mono {w w' : Wd} (e : w.le w') : ∀ {vs : List V} {ds : List D}, RelAll K w vs ds → RelAll K w' vs ds
  | [], [], _ => True.intro
  | _ :: _, _ :: _, ⟨a, b⟩ => ⟨a.mono e, RelAll.mono e b⟩
  | [], _ :: _, h => h.elim
  | _ :: _, [], h => h.elim
theorem RelAll.len {w : Wd} : ∀ {vs : List V} {ds : List D}, RelAll K w vs ds → vs.length = ds.length
  | [], [], _ => rfl
  | _ :: _, _ :: _, ⟨_, b⟩ => congrArg (· + 1) (RelAll.len b)
  | [], _ :: _, h => h.elim
  | _ :: _, [], h => h.elim
theorem RelAll.get {w : Wd} : ∀ {vs : List V} {ds : List D} {i : Nat} {d : D}, RelAll K w vs ds → ds[i]? = some d → ∃ v, vs[i]? = some v ∧ RelD K w v d
  | [], [], _, _, _, e => by simp at e
  | v :: _, _ :: _, 0, _, ⟨a, _⟩, e => by
    simp at e
    subst e
    exact ⟨v, rfl, a⟩
  | _ :: vs, _ :: _, i + 1, d, ⟨_, b⟩, e => by
    obtain ⟨u, h1, h2⟩ := RelAll.get (i := i) (d := d) b (by simpa using e)
    exact ⟨u, by simpa using h1, h2⟩
  | [], _ :: _, _, _, h, _ => h.elim
  | _ :: _, [], _, _, h, _ => h.elim
theorem RelAll.dats {w : Wd} : ∀ {vs : List V} {ds : List PyData}, RelAll K w vs (ds.map D.dat) → DpAll K w.F vs ds
  | [], [], _ => .nil
  | _ :: _, _ :: _, ⟨a, b⟩ => .cons a (RelAll.dats b)
  | [], _ :: _, h => h.elim
  | _ :: _, [], h => h.elim
theorem RelAll.c1 {w : Wd} {vs : List V} {d : D} (h : RelAll K w vs [d]) : ∃ v, vs = [v] ∧ RelD K w v d := by
  match vs, h with
  | [v], ⟨a, _⟩ => exact ⟨v, rfl, a⟩
theorem RelAll.c2 {w : Wd} {vs : List V} {d e : D} (h : RelAll K w vs [d, e]) : ∃ v u, vs = [v, u] ∧ RelD K w v d ∧ RelD K w u e := by
  match vs, h with
  | [v, u], ⟨a, b, _⟩ => exact ⟨v, u, rfl, a, b⟩

structure SatH (K : PySem.W.Frag) (w : Wd) (H : Hp) (M : Ms) : Prop where
  sub : Same w.F H
  fin : ∃ n, ∀ j, n ≤ j → w.c j = none
  inj : ∀ i j a, M i ≠ none → M j ≠ none → w.c i = some a → w.c j = some a → i = j
  cell : ∀ i xs, M i = some xs → ∃ a vs, w.c i = some a ∧ w.F a = none ∧ H a = some (.lst vs) ∧ DpAll K w.F vs xs
structure Slots (K : PySem.W.Frag) (w : Wd) (σ : L2.St) (ds : Ds) : Prop where
  len : σ.length = ds.length
  slot : ∀ (i : Nat) (d : D), ds[i]? = some (some d) → ∃ v, σ[i]? = some (some v) ∧ RelD K w v d
theorem Slots.mono {w w' : Wd} {σ : L2.St} {ds : Ds} (e : w.le w') (s : Slots K w σ ds) : Slots K w' σ ds :=
  ⟨s.len, fun i d h => let ⟨v, h1, h2⟩ := s.slot i d h; ⟨v, h1, h2.mono e⟩⟩
theorem Slots.set {w : Wd} {σ : L2.St} {ds : Ds} {v : V} {d : D} (s : Slots K w σ ds) (i : Nat) (r : RelD K w v d) : Slots K w (σ.set i (some v)) (ds.set i (some d)) := by
  refine ⟨by rw [List.length_set, List.length_set]; exact s.len, fun j e h => ?_⟩
  by_cases hj : i = j
  · subst hj
    by_cases hl : i < ds.length
    · rw [List.getElem?_set_self hl] at h
      cases h
      exact ⟨v, by rw [List.getElem?_set_self (by rw [s.len]; exact hl)], r⟩
    · rw [List.getElem?_eq_none (by rw [List.length_set]; omega)] at h
      cases h
  · rw [List.getElem?_set_ne hj] at h
    obtain ⟨u, h1, h2⟩ := s.slot j e h
    exact ⟨u, by rw [List.getElem?_set_ne hj]; exact h1, h2⟩
/-- a slot's word is forgotten on both sides -/
theorem Slots.setN {w : Wd} {σ : L2.St} {ds : Ds} (s : Slots K w σ ds) (i : Nat) : Slots K w (σ.set i none) (ds.set i none) := by
  refine ⟨by rw [List.length_set, List.length_set]; exact s.len, fun j e h => ?_⟩
  by_cases hj : i = j
  · subst hj
    by_cases hl : i < ds.length
    · rw [List.getElem?_set_self hl] at h
      cases h
    · rw [List.getElem?_eq_none (by rw [List.length_set]; omega)] at h
      cases h
  · rw [List.getElem?_set_ne hj] at h
    obtain ⟨u, h1, h2⟩ := s.slot j e h
    exact ⟨u, by rw [List.getElem?_set_ne hj]; exact h1, h2⟩
def wipeD (ds : Ds) : List Nat → Ds
  | [] => ds
  | v :: vs => (wipeD ds vs).set v none
theorem Slots.wipe {w : Wd} {σ : L2.St} {ds : Ds} (s : Slots K w σ ds) : ∀ vs : List Nat, Slots K w (L2.wipe σ vs) (wipeD ds vs)
  | [] => s
  | v :: vs => (Slots.wipe s vs).setN v

/-! ### the heap's steps -/
/-- a new object that is kept -/
theorem SatH.new {w : Wd} {H : Hp} {M : Ms} (s : SatH K w H M) {p : Addr} {o : HO} (n : H p = none) : (w.le ⟨upd w.F p o, w.c⟩) ∧ SatH K ⟨upd w.F p o, w.c⟩ (upd H p o) M := by
  have nF : w.F p = none := s.sub.free n
  have sF : Same w.F (upd w.F p o) := fun b u e => by
    rw [upd_ne (ne_of_none e nF)]
    exact e
  refine ⟨⟨sF, fun _ _ h => h⟩, fun b u e => ?_, s.fin, s.inj, fun i xs h => ?_⟩
  · by_cases hb : b = p
    · subst hb
      have e' : upd w.F b o b = some u := e
      rw [upd_same] at e' ⊢
      exact e'
    · have e' : upd w.F p o b = some u := e
      rw [upd_ne hb] at e' ⊢
      exact s.sub b u e'
  · obtain ⟨a, vs, h1, h2, h3, h4⟩ := s.cell i xs h
    have ne : a ≠ p := ne_of_none h3 n
    exact ⟨a, vs, h1, by show upd w.F p o a = none; rw [upd_ne ne]; exact h2, by rw [upd_ne ne]; exact h3, dpAll_mono sF xs vs h4⟩
/-- a new list as a cell -/
theorem SatH.newCell {w : Wd} {H : Hp} {M : Ms} (s : SatH K w H M) {p : Addr} {vs : List V} {xs : List PyData} (n : H p = none) (r : DpAll K w.F vs xs) :
    ∃ i c', M i = none ∧ w.le ⟨w.F, c'⟩ ∧ c' i = some p ∧ SatH K ⟨w.F, c'⟩ (upd H p (.lst vs)) (put M i xs) := by
  obtain ⟨m, hm⟩ := s.fin
  have hMm : M m = none := by
    cases e : M m with
    | none => rfl
    | some xs =>
      obtain ⟨a, _, h1, _⟩ := s.cell m xs e
      rw [hm m (Nat.le_refl _)] at h1
      cases h1
  have old : ∀ i a, w.c i = some a → i ≠ m := fun i a h e => by
    rw [e, hm m (Nat.le_refl _)] at h
    cases h
  have live : ∀ i, M i ≠ none → ∃ a, w.c i = some a ∧ a ≠ p := fun i h => by
    cases e : M i with
    | none => exact absurd e h
    | some xs =>
      obtain ⟨a, vs, h1, _, h3, _⟩ := s.cell i xs e
      exact ⟨a, h1, ne_of_none h3 n⟩
  refine ⟨m, fun j => if j = m then some p else w.c j, hMm, ⟨Same.refl _, fun i a h => by show (if i = m then some p else w.c i) = some a; rw [if_neg (old i a h)]; exact h⟩, if_pos rfl, ?_⟩
  refine ⟨fun b u e => ?_, ⟨m + 1, fun j hj => ?_⟩, fun i j a hi hj ci cj => ?_, fun i ys h => ?_⟩
  · rw [upd_ne (ne_of_none (s.sub b u e) n)]
    exact s.sub b u e
  · show (if j = m then some p else w.c j) = none
    rw [if_neg (by omega)]
    exact hm j (by omega)
  · have ci' : (if i = m then some p else w.c i) = some a := ci
    have cj' : (if j = m then some p else w.c j) = some a := cj
    by_cases hi' : i = m
    · by_cases hj' : j = m
      · rw [hi', hj']
      · rw [if_pos hi'] at ci'
        rw [if_neg hj'] at cj'
        have hMj : M j ≠ none := by rw [← put_ne (M := M) (xs := xs) hj']; exact hj
        obtain ⟨b, h1, h2⟩ := live j hMj
        rw [h1] at cj'
        cases cj'
        cases ci'
        exact absurd rfl h2
    · by_cases hj' : j = m
      · rw [if_neg hi'] at ci'
        rw [if_pos hj'] at cj'
        have hMi : M i ≠ none := by rw [← put_ne (M := M) (xs := xs) hi']; exact hi
        obtain ⟨b, h1, h2⟩ := live i hMi
        rw [h1] at ci'
        cases ci'
        cases cj'
        exact absurd rfl h2
      · rw [if_neg hi'] at ci'
        rw [if_neg hj'] at cj'
        exact s.inj i j a (by rw [← put_ne (M := M) (xs := xs) hi']; exact hi) (by rw [← put_ne (M := M) (xs := xs) hj']; exact hj) ci' cj'
  · by_cases hi : i = m
    · rw [hi, put_same] at h
      cases h
      exact ⟨p, vs, by rw [hi]; exact if_pos rfl, s.sub.free n, upd_same, r⟩
    · rw [put_ne hi] at h
      obtain ⟨a, us, h1, h2, h3, h4⟩ := s.cell i ys h
      exact ⟨a, us, by show (if i = m then some p else w.c i) = some a; rw [if_neg hi]; exact h1, h2, by rw [upd_ne (ne_of_none h3 n)]; exact h3, h4⟩
/-- a cell is written -/
theorem SatH.write {w : Wd} {H : Hp} {M : Ms} (s : SatH K w H M) {i : Nat} {xs ys : List PyData} {a : Addr} {vs : List V} (hi : M i = some xs) (ha : w.c i = some a) (r : DpAll K w.F vs ys) : SatH K w (upd H a (.lst vs)) (put M i ys) := by
  obtain ⟨a', us, h1, h2, h3, h4⟩ := s.cell i xs hi
  rw [ha] at h1
  cases h1
  have hiN : M i ≠ none := by rw [hi]; simp
  have live : ∀ j, put M i ys j ≠ none → M j ≠ none := fun j h => by
    by_cases e : j = i
    · rw [e]; exact hiN
    · rw [put_ne e] at h; exact h
  refine ⟨fun b u e => ?_, s.fin, fun j k b hj hk => s.inj j k b (live j hj) (live k hk), fun j zs h => ?_⟩
  · rw [upd_ne (ne_of_none e h2)]
    exact s.sub b u e
  · by_cases e : j = i
    · rw [e, put_same] at h
      cases h
      exact ⟨a, vs, by rw [e]; exact ha, h2, upd_same, r⟩
    · rw [put_ne e] at h
      obtain ⟨b, us', k1, k2, k3, k4⟩ := s.cell j zs h
      have ne : b ≠ a := fun q => e (s.inj j i b (by rw [h]; simp) hiN k1 (by rw [q]; exact ha))
      exact ⟨b, us', k1, k2, by rw [upd_ne ne]; exact k3, k4⟩
/-- a cell stands still from now on -/
theorem SatH.freeze {w : Wd} {H : Hp} {M : Ms} (s : SatH K w H M) {i : Nat} {xs : List PyData} (hi : M i = some xs) : ∃ w', w.le w' ∧ SatH K w' H (del M i) ∧ ∀ v, RelD K w v (.cel i) → Dp K w'.F v (.list xs) := by
  obtain ⟨a, us, h1, h2, h3, h4⟩ := s.cell i xs hi
  have hiN : M i ≠ none := by rw [hi]; simp
  have sF : Same w.F (upd w.F a (.lst us)) := fun b u e => by
    rw [upd_ne (ne_of_none e h2)]
    exact e
  have live : ∀ j, del M i j ≠ none → M j ≠ none ∧ j ≠ i := fun j h => by
    by_cases e : j = i
    · rw [e, del_same] at h; exact absurd rfl h
    · rw [del_ne e] at h; exact ⟨h, e⟩
  refine ⟨⟨upd w.F a (.lst us), w.c⟩, ⟨sF, fun _ _ h => h⟩, ⟨fun b u e => ?_, s.fin, fun j k b hj hk => s.inj j k b (live j hj).1 (live k hk).1, fun j zs h => ?_⟩, fun v r => ?_⟩
  · have e' : upd w.F a (.lst us) b = some u := e
    by_cases hb : b = a
    · subst hb
      rw [upd_same] at e'
      cases e'
      exact h3
    · rw [upd_ne hb] at e'
      exact s.sub b u e'
  · have hj : j ≠ i := (live j (by rw [h]; simp)).2
    rw [del_ne hj] at h
    obtain ⟨b, us', k1, k2, k3, k4⟩ := s.cell j zs h
    have ne : b ≠ a := fun q => hj (s.inj j i b (by rw [h]; simp) hiN k1 (by rw [q]; exact h1))
    exact ⟨b, us', k1, by show upd w.F a (.lst us) b = none; rw [upd_ne ne]; exact k2, k3, dpAll_mono sF zs us' k4⟩
  · obtain ⟨b, k1, k2⟩ := r
    rw [h1] at k1
    cases k1
    rw [k2]
    exact .lst (SqL.of upd_same) (dpAll_mono sF xs us h4)
/-- cells are forgotten -/
theorem SatH.weak {w : Wd} {H : Hp} {M M' : Ms} (s : SatH K w H M) (h : ∀ i xs, M' i = some xs → M i = some xs) : SatH K w H M' := by
  have live : ∀ i, M' i ≠ none → M i ≠ none := fun i q => by
    cases e : M' i with
    | none => exact absurd e q
    | some xs => rw [h i xs e]; simp
  exact ⟨s.sub, s.fin, fun i j a hi hj => s.inj i j a (live i hi) (live j hj), fun i xs e => s.cell i xs (h i xs e)⟩
/-- what is read of a value -/
theorem SatH.dp {w : Wd} {H : Hp} {M : Ms} (s : SatH K w H M) {v : V} {d : PyData} (h : Dp K w.F v d) : Dp K H v d := dp_mono s.sub d v h
theorem SatH.seqL {w : Wd} {H : Hp} {M : Ms} (s : SatH K w H M) {v : V} {xs : List PyData} (h : Dp K w.F v (.list xs)) : ∃ a vs, v = .ref a ∧ SqL K H a vs ∧ DpAll K w.F vs xs := by
  cases h with
  | lst hs ha => exact ⟨_, _, rfl, sqL_mono s.sub hs, ha⟩
theorem SatH.seqT {w : Wd} {H : Hp} {M : Ms} (s : SatH K w H M) {v : V} {xs : List PyData} (h : Dp K w.F v (.tuple xs)) : ∃ a vs, v = .ref a ∧ SqT K H a vs ∧ DpAll K w.F vs xs := by
  cases h with
  | tup hs ha => exact ⟨_, _, rfl, sqT_mono s.sub hs, ha⟩
end
end DL

/-! Judgements on abstract states. -/
namespace DL
open PySem PySem.Spec PyProof.Rows L2

section
variable (K : PySem.W.Frag)
def EJ (t : TE) (ds : Ds) (M : Ms) (Q : D → Ms → Prop) : Prop := ∀ (w : Wd) (σ : L2.St) (H : Hp), SatH K w H M → Slots K w σ ds → ∀ R : VK,
  (∀ (w' : Wd) (v : V) (H' : Hp) (d : D) (M' : Ms), w.le w' → RelD K w' v d → SatH K w' H' M' → Q d M' → R v H') → t σ H R
def TJ (t : TT) (ds : Ds) (M : Ms) (Q : Bool → Ms → Prop) : Prop := ∀ (w : Wd) (σ : L2.St) (H : Hp), SatH K w H M → Slots K w σ ds → ∀ R : Bool → Hp → Prop,
  (∀ (w' : Wd) (b : Bool) (H' : Hp) (M' : Ms), w.le w' → SatH K w' H' M' → Q b M' → R b H') → t σ H R
def AJ (t : TA) (ds : Ds) (M : Ms) (Q : List D → Ms → Prop) : Prop := ∀ (w : Wd) (σ : L2.St) (H : Hp), SatH K w H M → Slots K w σ ds → ∀ R : List V → Hp → Prop,
  (∀ (w' : Wd) (vs : List V) (H' : Hp) (xs : List D) (M' : Ms), w.le w' → RelAll K w' vs xs → SatH K w' H' M' → Q xs M' → R vs H') → t σ H R
def PJ (t : TO) (ds : Ds) (M : Ms) (Q : Option Int → Ms → Prop) : Prop := ∀ (w : Wd) (σ : L2.St) (H : Hp), SatH K w H M → Slots K w σ ds → ∀ R : Option Int → Hp → Prop,
  (∀ (w' : Wd) (o : Option Int) (H' : Hp) (M' : Ms), w.le w' → SatH K w' H' M' → Q o M' → R o H') → t σ H R
def OJ (r : R2) (x y : D) (M : Ms) (Q : D → Ms → Prop) : Prop := ∀ (w : Wd) (H : Hp) (u v : V), SatH K w H M → RelD K w u x → RelD K w v y → ∀ R : VK,
  (∀ (w' : Wd) (v : V) (H' : Hp) (d : D) (M' : Ms), w.le w' → RelD K w' v d → SatH K w' H' M' → Q d M' → R v H') → r u v H R
def UJ (r : V → Hp → VK → Prop) (x : D) (M : Ms) (Q : D → Ms → Prop) : Prop := ∀ (w : Wd) (H : Hp) (u : V), SatH K w H M → RelD K w u x → ∀ R : VK,
  (∀ (w' : Wd) (v : V) (H' : Hp) (d : D) (M' : Ms), w.le w' → RelD K w' v d → SatH K w' H' M' → Q d M' → R v H') → r u H R
def CJ (r : List V → Hp → VK → Prop) (xs : List D) (M : Ms) (Q : D → Ms → Prop) : Prop := ∀ (w : Wd) (H : Hp) (us : List V), SatH K w H M → RelAll K w us xs → ∀ R : VK,
  (∀ (w' : Wd) (v : V) (H' : Hp) (d : D) (M' : Ms), w.le w' → RelD K w' v d → SatH K w' H' M' → Q d M' → R v H') → r us H R
def MJ (r : V → List V → Hp → VK → Prop) (x : D) (xs : List D) (M : Ms) (Q : D → Ms → Prop) : Prop := ∀ (w : Wd) (H : Hp) (u : V) (us : List V), SatH K w H M → RelD K w u x → RelAll K w us xs → ∀ R : VK,
  (∀ (w' : Wd) (v : V) (H' : Hp) (d : D) (M' : Ms), w.le w' → RelD K w' v d → SatH K w' H' M' → Q d M' → R v H') → r u us H R
def FJ (sp : Sp) (xs : List D) (M : Ms) (Q : D → Ms → Prop) : Prop := ∀ (w : Wd) (H : Hp) (us : List V), SatH K w H M → RelAll K w us xs → ∀ R : VK,
  (∀ (w' : Wd) (v : V) (H' : Hp) (d : D) (M' : Ms), w.le w' → RelD K w' v d → SatH K w' H' M' → Q d M' → R v H') → sp us H R E0
/-- targets; vs: the slots that may be touched -/
def GJ (g : TG) (x : D) (ds : Ds) (M : Ms) (N : Ds → Ms → Prop) : Prop := ∀ (w : Wd) (v : V) (σ : L2.St) (H : Hp), SatH K w H M → Slots K w σ ds → RelD K w v x → ∀ R : L2.St → Hp → Prop,
  (∀ (w' : Wd) (σ' : L2.St) (H' : Hp) (ds' : Ds) (M' : Ms), w.le w' → SatH K w' H' M' → Slots K w' σ' ds' → N ds' M' → R σ' H') → g v σ H R
def GsJ (g : TGs) (xs : List D) (ds : Ds) (M : Ms) (N : Ds → Ms → Prop) : Prop := ∀ (w : Wd) (vs : List V) (σ : L2.St) (H : Hp), SatH K w H M → Slots K w σ ds → RelAll K w vs xs → ∀ R : L2.St → Hp → Prop,
  (∀ (w' : Wd) (σ' : L2.St) (H' : Hp) (ds' : Ds) (M' : Ms), w.le w' → SatH K w' H' M' → Slots K w' σ' ds' → N ds' M' → R σ' H') → g vs σ H R
/-- targets in a comprehension: only the block's own slots change -/
def LJ (ix : List Nat) (g : TG) (x : D) (ds : Ds) (N : Ds → Prop) : Prop := ∀ (w : Wd) (v : V) (σ : L2.St) (H : Hp) (M : Ms), SatH K w H M → Slots K w σ ds → RelD K w v x → ∀ R : L2.St → Hp → Prop,
  (∀ (σ' : L2.St) (ds' : Ds), Slots K w σ' ds' → L2.wipe σ' ix = L2.wipe σ ix → N ds' → R σ' H) → g v σ H R
def LsJ (ix : List Nat) (g : TGs) (xs : List D) (ds : Ds) (N : Ds → Prop) : Prop := ∀ (w : Wd) (vs : List V) (σ : L2.St) (H : Hp) (M : Ms), SatH K w H M → Slots K w σ ds → RelAll K w vs xs → ∀ R : L2.St → Hp → Prop,
  (∀ (σ' : L2.St) (ds' : Ds), Slots K w σ' ds' → L2.wipe σ' ix = L2.wipe σ ix → N ds' → R σ' H) → g vs σ H R
structure Pst where
  nx : Ds → Ms → Prop
  rt : D → Ms → Prop
  bk : Ds → Ms → Prop := fun _ _ => False
  ct : Ds → Ms → Prop := fun _ _ => False
def SJ (t : TS) (ds : Ds) (M : Ms) (P : Pst) : Prop := ∀ (w : Wd) (σ : L2.St) (H : Hp), SatH K w H M → Slots K w σ ds → ∀ E : Ends,
  (∀ (w' : Wd) (σ' : L2.St) (H' : Hp) (ds' : Ds) (M' : Ms), w.le w' → SatH K w' H' M' → Slots K w' σ' ds' → P.nx ds' M' → E.nx σ' H') →
  (∀ (w' : Wd) (v : V) (H' : Hp) (d : D) (M' : Ms), w.le w' → RelD K w' v d → SatH K w' H' M' → P.rt d M' → E.rt v H') →
  (∀ (w' : Wd) (σ' : L2.St) (H' : Hp) (ds' : Ds) (M' : Ms), w.le w' → SatH K w' H' M' → Slots K w' σ' ds' → P.bk ds' M' → E.bk σ' H') →
  (∀ (w' : Wd) (σ' : L2.St) (H' : Hp) (ds' : Ds) (M' : Ms), w.le w' → SatH K w' H' M' → Slots K w' σ' ds' → P.ct ds' M' → E.ct σ' H') → t E σ H
structure IOk (w : Wd) (J : It) (its : List PyData) : Prop where
  goes : ∀ (w' : Wd) (H : Hp) (M : Ms) (i : Nat), w.le w' → SatH K w' H M → i < its.length → J.go i H
  stop : ∀ (w' : Wd) (H : Hp) (M : Ms), w.le w' → SatH K w' H M → J.stop its.length H
  yld : ∀ (w' : Wd) (H : Hp) (M : Ms) (i : Nat) (d : PyData) (x : V) (H' : Hp), w.le w' → SatH K w' H M → its[i]? = some d → J.yld i H x H' → ∃ w'' : Wd, w'.le w'' ∧ SatH K w'' H' M ∧ Dp K w''.F x d
def IJ (wi : TI) (ds : Ds) (M : Ms) (Q : List PyData → Ms → Prop) : Prop := ∀ (w : Wd) (σ : L2.St) (H : Hp), SatH K w H M → Slots K w σ ds → ∀ R : It → Hp → Prop,
  (∀ (w' : Wd) (J : It) (H' : Hp) (its : List PyData) (M' : Ms), w.le w' → SatH K w' H' M' → IOk K w' J its → Q its M' → R J H') → wi σ H R
/-- a def's promise, by what it does to abstract states -/
abbrev TF := List D → Ms → (D → Ms → Prop) → Prop
def spA (n : Nat) (T : TF) : Sp := fun vs H R E => ∃ (w : Wd) (M : Ms) (xs : List D) (Q : D → Ms → Prop), SatH K w H M ∧ RelAll K w vs xs ∧ xs.length = n ∧ T xs M Q ∧
  ∀ (w' : Wd) (v : V) (H' : Hp) (d : D) (M' : Ms), w.le w' → RelD K w' v d → SatH K w' H' M' → Q d M' → R v H'
end

section
variable {K : PySem.W.Frag} {ds : Ds} {M : Ms} {Q : D → Ms → Prop} {ta tb te : TE} {tt tu : TT} {tr : TA}
theorem EJ.imp {Q' : D → Ms → Prop} (h : EJ K te ds M Q) (k : ∀ d M', Q d M' → Q' d M') : EJ K te ds M Q' := fun w σ H s sl R c => h w σ H s sl R fun w' v H' d M' a b e q => c w' v H' d M' a b e (k d M' q)
theorem TJ.imp {Q Q' : Bool → Ms → Prop} (h : TJ K tt ds M Q) (k : ∀ d M', Q d M' → Q' d M') : TJ K tt ds M Q' := fun w σ H s sl R c => h w σ H s sl R fun w' v H' M' a e q => c w' v H' M' a e (k v M' q)
theorem ej_var {i : Nat} {d : D} (h : ds[i]? = some (some d)) (q : Q d M) : EJ K (tVar i) ds M Q := fun w σ H s sl R c =>
  let ⟨v, h1, h2⟩ := sl.slot i d h
  ⟨v, h1, c w v H d M (Wd.le.refl w) h2 s q⟩
theorem ej_int {i : Int} (q : Q (.dat (.int i)) M) : EJ K (tC (.int i)) ds M Q := fun w σ H s sl R c => c w _ H (.dat (.int i)) M (Wd.le.refl w) (show Dp K w.F (.int i) (.int i) from .int i) s q
theorem ej_bl {b : Bool} (q : Q (.dat (.bool b)) M) : EJ K (tC (.bl b)) ds M Q := fun w σ H s sl R c => c w _ H (.dat (.bool b)) M (Wd.le.refl w) (show Dp K w.F (.bl b) (.bool b) from .bl b) s q
theorem ej_non (q : Q (.dat .none) M) : EJ K (tC .non) ds M Q := fun w σ H s sl R c => c w _ H (.dat .none) M (Wd.le.refl w) (show Dp K w.F .non .none from .non) s q
theorem ej_str {x : Str} (q : Q (.dat (.str x)) M) : EJ K (tC (.str x)) ds M Q := fun w σ H s sl R c => c w _ H (.dat (.str x)) M (Wd.le.refl w) (show Dp K w.F (.str x) (.str x) from .str x) s q
theorem ej_val {v : V} (q : Q (.val v) M) : EJ K (tC v) ds M Q := fun w σ H s sl R c => c w v H (.val v) M (Wd.le.refl w) rfl s q
theorem ej_op {r : R2} (h : EJ K ta ds M fun x M1 => EJ K tb ds M1 fun y M2 => OJ K r x y M2 Q) : EJ K (tOp r ta tb) ds M Q := fun w σ H s sl R c =>
  h w σ H s sl _ fun w1 u H1 x M1 e1 r1 s1 h1 => h1 w1 σ H1 s1 (sl.mono e1) _ fun w2 v H2 y M2 e2 r2 s2 h2 => h2 w2 H2 u v s2 (r1.mono e2) r2 R fun w3 z H3 d M3 e3 r3 s3 q => c w3 z H3 d M3 ((e1.trans e2).trans e3) r3 s3 q
theorem ej_un {r : V → Hp → VK → Prop} (h : EJ K ta ds M fun x M1 => UJ K r x M1 Q) : EJ K (tUn r ta) ds M Q := fun w σ H s sl R c =>
  h w σ H s sl _ fun w1 u H1 x M1 e1 r1 s1 h1 => h1 w1 H1 u s1 r1 R fun w3 z H3 d M3 e3 r3 s3 q => c w3 z H3 d M3 (e1.trans e3) r3 s3 q
theorem ej_bits (h : EJ K ta ds M fun x M1 => ∃ i, x = .dat (.int i) ∧ Q (.dat (.int (Builtin.Int.intBits i : Nat))) M1) : EJ K (tBits ta) ds M Q := fun w σ H s sl R c =>
  h w σ H s sl _ fun w1 u H1 x M1 e1 r1 s1 h1 => by
    obtain ⟨i, rfl, q⟩ := h1
    cases (show Dp K w1.F u (.int i) from r1)
    exact ⟨i, rfl, c w1 _ H1 (.dat (.int _)) M1 e1 (show Dp K w1.F _ _ from .int _) s1 q⟩
theorem aj_nil {Q : List D → Ms → Prop} (q : Q [] M) : AJ K tNil ds M Q := fun w σ H s sl R c => c w [] H [] M (Wd.le.refl w) True.intro s q
theorem aj_cons {Q : List D → Ms → Prop} (h : EJ K ta ds M fun x M1 => AJ K tr ds M1 fun xs M2 => Q (x :: xs) M2) : AJ K (tCons ta tr) ds M Q := fun w σ H s sl R c =>
  h w σ H s sl _ fun w1 u H1 x M1 e1 r1 s1 h1 => h1 w1 σ H1 s1 (sl.mono e1) _ fun w2 vs H2 xs M2 e2 r2 s2 h2 => c w2 (u :: vs) H2 (x :: xs) M2 (e1.trans e2) ⟨r1.mono e2, r2⟩ s2 h2
theorem ej_cb {r : List V → Hp → VK → Prop} (h : AJ K tr ds M fun xs M1 => CJ K r xs M1 Q) : EJ K (tCB r tr) ds M Q := fun w σ H s sl R c =>
  h w σ H s sl _ fun w1 us H1 xs M1 e1 r1 s1 h1 => h1 w1 H1 us s1 r1 R fun w3 z H3 d M3 e3 r3 s3 q => c w3 z H3 d M3 (e1.trans e3) r3 s3 q
theorem ej_call {sp : Sp} (h : AJ K tr ds M fun xs M1 => FJ K sp xs M1 Q) : EJ K (tCall sp [] E0 tr) ds M Q := fun w σ H s sl R c =>
  h w σ H s sl _ fun w1 us H1 xs M1 e1 r1 s1 h1 => by
    show sp (us ++ []) H1 R E0
    rw [List.append_nil]
    exact h1 w1 H1 us s1 r1 R fun w3 z H3 d M3 e3 r3 s3 q => c w3 z H3 d M3 (e1.trans e3) r3 s3 q
theorem fj_A {n : Nat} {T : TF} {xs : List D} (hn : xs.length = n) (h : T xs M Q) : FJ K (spA K n T) xs M Q := fun w H us s r R c => ⟨w, M, xs, Q, s, r, hn, h, c⟩
theorem ej_tup (h : AJ K tr ds M fun xs M1 => ∃ ps : List PyData, xs = ps.map D.dat ∧ ps.length ≤ 100000 ∧ Q (.dat (.tuple ps)) M1) : EJ K (tTup tr) ds M Q := fun w σ H s sl R c =>
  h w σ H s sl _ fun w1 us H1 xs M1 e1 r1 s1 h1 => by
    obtain ⟨ps, rfl, hz, q⟩ := h1
    have r2 := RelAll.dats r1
    refine ⟨Nat.le_trans (by rw [r2.len]; exact hz) (by decide), fun p hp => ?_⟩
    obtain ⟨le, s2⟩ := s1.new (o := .tup us) hp
    exact c _ _ _ (.dat (.tuple ps)) M1 (e1.trans le) (show Dp K _ _ _ from .tup (SqT.of upd_same) (dpAll_mono le.F ps us r2)) s2 q
theorem ej_lst (h : AJ K tr ds M fun xs M1 => ∃ ps : List PyData, xs = ps.map D.dat ∧ ps.length ≤ 100000 ∧ Q (.dat (.list ps)) M1) : EJ K (tLst tr) ds M Q := fun w σ H s sl R c =>
  h w σ H s sl _ fun w1 us H1 xs M1 e1 r1 s1 h1 => by
    obtain ⟨ps, rfl, hz, q⟩ := h1
    have r2 := RelAll.dats r1
    refine ⟨Nat.le_trans (by rw [r2.len]; exact hz) (by decide), fun p hp => ?_⟩
    obtain ⟨le, s2⟩ := s1.new (o := .lst us) hp
    exact c _ _ _ (.dat (.list ps)) M1 (e1.trans le) (show Dp K _ _ _ from .lst (SqL.of upd_same) (dpAll_mono le.F ps us r2)) s2 q
/-- a new list as a cell -/
theorem ej_lstM (h : AJ K tr ds M fun xs M1 => ∃ ps : List PyData, xs = ps.map D.dat ∧ ps.length ≤ 100000 ∧ ∀ i, M1 i = none → Q (.cel i) (put M1 i ps)) : EJ K (tLst tr) ds M Q := fun w σ H s sl R c =>
  h w σ H s sl _ fun w1 us H1 xs M1 e1 r1 s1 h1 => by
    obtain ⟨ps, rfl, hz, q⟩ := h1
    have r2 := RelAll.dats r1
    refine ⟨Nat.le_trans (by rw [r2.len]; exact hz) (by decide), fun p hp => ?_⟩
    obtain ⟨i, c', hi, le, hc, s2⟩ := s1.newCell hp r2
    exact c _ _ _ (.cel i) _ (e1.trans le) ⟨p, hc, rfl⟩ s2 (q i hi)
theorem ej_freeze (h : EJ K te ds M fun d M1 => ∃ i xs, d = .cel i ∧ M1 i = some xs ∧ Q (.dat (.list xs)) (del M1 i)) : EJ K te ds M Q := fun w σ H s sl R c =>
  h w σ H s sl _ fun w1 u H1 x M1 e1 r1 s1 h1 => by
    obtain ⟨i, xs, rfl, hi, q⟩ := h1
    obtain ⟨w2, le, s2, f⟩ := s1.freeze hi
    exact c w2 u H1 (.dat (.list xs)) _ (e1.trans le) (f u r1) s2 q
theorem ej_if (h : TJ K tt ds M fun b M1 => (b = true → EJ K ta ds M1 Q) ∧ (b = false → EJ K tb ds M1 Q)) : EJ K (tIf tt ta tb) ds M Q := fun w σ H s sl R c =>
  h w σ H s sl _ fun w1 b H1 M1 e1 s1 h1 => by
    cases b with
    | true => exact (h1.1 rfl) w1 σ H1 s1 (sl.mono e1) R fun w3 z H3 d M3 e3 r3 s3 q => c w3 z H3 d M3 (e1.trans e3) r3 s3 q
    | false => exact (h1.2 rfl) w1 σ H1 s1 (sl.mono e1) R fun w3 z H3 d M3 e3 r3 s3 q => c w3 z H3 d M3 (e1.trans e3) r3 s3 q
theorem ej_andV (h : EJ K ta ds M fun d M1 => ∃ b, d = .dat (.bool b) ∧ (b = true → EJ K tb ds M1 Q) ∧ (b = false → Q (.dat (.bool false)) M1)) : EJ K (tAndV ta tb) ds M Q := fun w σ H s sl R c =>
  h w σ H s sl _ fun w1 u H1 x M1 e1 r1 s1 h1 => by
    obtain ⟨b, rfl, h2, h3⟩ := h1
    cases (show Dp K w1.F u (.bool b) from r1)
    refine ⟨b, rfl, ?_⟩
    cases b with
    | true => exact (h2 rfl) w1 σ H1 s1 (sl.mono e1) R fun w3 z H3 d M3 e3 r3 s3 q => c w3 z H3 d M3 (e1.trans e3) r3 s3 q
    | false => exact c w1 _ H1 (.dat (.bool false)) M1 e1 (show Dp K _ _ _ from .bl _) s1 (h3 rfl)
theorem ej_orV (h : EJ K ta ds M fun d M1 => ∃ b, d = .dat (.bool b) ∧ (b = true → Q (.dat (.bool true)) M1) ∧ (b = false → EJ K tb ds M1 Q)) : EJ K (tOrV ta tb) ds M Q := fun w σ H s sl R c =>
  h w σ H s sl _ fun w1 u H1 x M1 e1 r1 s1 h1 => by
    obtain ⟨b, rfl, h2, h3⟩ := h1
    cases (show Dp K w1.F u (.bool b) from r1)
    refine ⟨b, rfl, ?_⟩
    cases b with
    | false => exact (h3 rfl) w1 σ H1 s1 (sl.mono e1) R fun w3 z H3 d M3 e3 r3 s3 q => c w3 z H3 d M3 (e1.trans e3) r3 s3 q
    | true => exact c w1 _ H1 (.dat (.bool true)) M1 e1 (show Dp K _ _ _ from .bl _) s1 (h2 rfl)
theorem ej_notV (h : EJ K ta ds M fun d M1 => ∃ b, d = .dat (.bool b) ∧ Q (.dat (.bool (!b))) M1) : EJ K (tNotV ta) ds M Q := fun w σ H s sl R c =>
  h w σ H s sl _ fun w1 u H1 x M1 e1 r1 s1 h1 => by
    obtain ⟨b, rfl, q⟩ := h1
    cases (show Dp K w1.F u (.bool b) from r1)
    exact ⟨b, rfl, c w1 _ H1 (.dat (.bool (!b))) M1 e1 (show Dp K _ _ _ from .bl _) s1 q⟩

/-! ### tests -/
theorem tj_test {Q : Bool → Ms → Prop} (h : EJ K te ds M fun d M1 => ∃ b, d = .dat (.bool b) ∧ Q b M1) : TJ K (tTest te) ds M Q := fun w σ H s sl R c =>
  h w σ H s sl _ fun w1 u H1 x M1 e1 r1 s1 h1 => by
    obtain ⟨b, rfl, q⟩ := h1
    cases (show Dp K w1.F u (.bool b) from r1)
    exact ⟨b, rfl, c w1 b H1 M1 e1 s1 q⟩
theorem tj_B {Q : Bool → Ms → Prop} (h : EJ K te ds M fun d M1 => ∃ b, d = .dat (.bool b) ∧ Q b M1) : TJ K (tB te) ds M Q := tj_test h
theorem tj_and {Q : Bool → Ms → Prop} (h : TJ K tt ds M fun b M1 => (b = true → TJ K tu ds M1 Q) ∧ (b = false → Q false M1)) : TJ K (tAnd tt tu) ds M Q := fun w σ H s sl R c =>
  h w σ H s sl _ fun w1 b H1 M1 e1 s1 h1 => by
    cases b with
    | true => exact (h1.1 rfl) w1 σ H1 s1 (sl.mono e1) R fun w3 z H3 M3 e3 s3 q => c w3 z H3 M3 (e1.trans e3) s3 q
    | false => exact c w1 false H1 M1 e1 s1 (h1.2 rfl)
theorem tj_or {Q : Bool → Ms → Prop} (h : TJ K tt ds M fun b M1 => (b = true → Q true M1) ∧ (b = false → TJ K tu ds M1 Q)) : TJ K (tOr tt tu) ds M Q := fun w σ H s sl R c =>
  h w σ H s sl _ fun w1 b H1 M1 e1 s1 h1 => by
    cases b with
    | false => exact (h1.2 rfl) w1 σ H1 s1 (sl.mono e1) R fun w3 z H3 M3 e3 s3 q => c w3 z H3 M3 (e1.trans e3) s3 q
    | true => exact c w1 true H1 M1 e1 s1 (h1.1 rfl)
theorem tj_not {Q : Bool → Ms → Prop} (h : TJ K tt ds M fun b M1 => Q (!b) M1) : TJ K (tNot tt) ds M Q := fun w σ H s sl R c =>
  h w σ H s sl _ fun w1 b H1 M1 e1 s1 h1 => c w1 (!b) H1 M1 e1 s1 h1
theorem tj_yes {Q : Bool → Ms → Prop} (h : Q true M) : TJ K tYes ds M Q := fun w σ H s sl R c => c w true H M (Wd.le.refl w) s h

/-! ### statements -/
variable {P : Pst} {ts tz : TS} {g : TG}
theorem sj_next (h : P.nx ds M) : SJ K tNext ds M P := fun w σ H s sl E n r b t => n w σ H ds M (Wd.le.refl w) s sl h
theorem sj_seq (h : SJ K ts ds M { P with nx := fun ds' M' => SJ K tz ds' M' P }) : SJ K (tSeq ts tz) ds M P := fun w σ H s sl E n r b t =>
  h w σ H s sl { E with nx := tz E } (fun w1 σ1 H1 ds1 M1 e1 s1 sl1 q => q w1 σ1 H1 s1 sl1 E (fun w2 σ2 H2 ds2 M2 e2 => n w2 σ2 H2 ds2 M2 (e1.trans e2)) (fun w2 v H2 d M2 e2 => r w2 v H2 d M2 (e1.trans e2)) (fun w2 σ2 H2 ds2 M2 e2 => b w2 σ2 H2 ds2 M2 (e1.trans e2)) fun w2 σ2 H2 ds2 M2 e2 => t w2 σ2 H2 ds2 M2 (e1.trans e2)) r b t
theorem sj_asg (h : EJ K te ds M fun d M1 => GJ K g d ds M1 P.nx) : SJ K (tAsg te g) ds M P := fun w σ H s sl E n r b t =>
  h w σ H s sl _ fun w1 v H1 d M1 e1 r1 s1 q => q w1 v σ H1 s1 (sl.mono e1) r1 E.nx fun w2 σ2 H2 ds2 M2 e2 => n w2 σ2 H2 ds2 M2 (e1.trans e2)
theorem gj_name {i : Nat} {x : D} {N : Ds → Ms → Prop} (h : N (ds.set i (some x)) M) : GJ K (gName i) x ds M N := fun w v σ H s sl r R c => c w (σ.set i (some v)) H _ M (Wd.le.refl w) s (sl.set i r) h
theorem sj_set {i : Nat} (h : EJ K te ds M fun d M1 => P.nx (ds.set i (some d)) M1) : SJ K (tAsg te (gName i)) ds M P := sj_asg (h.imp fun _ _ q => gj_name q)
theorem sj_drop (h : EJ K te ds M fun _ M1 => P.nx ds M1) : SJ K (tDrop te) ds M P := fun w σ H s sl E n r b t =>
  h w σ H s sl _ fun w1 v H1 d M1 e1 r1 s1 q => n w1 σ H1 ds M1 e1 s1 (sl.mono e1) q
theorem sj_ret (h : EJ K te ds M P.rt) : SJ K (tRet te) ds M P := fun w σ H s sl E n r b t =>
  h w σ H s sl _ fun w1 v H1 d M1 e1 r1 s1 q => r w1 v H1 d M1 e1 r1 s1 q
theorem sj_if (h : TJ K tt ds M fun b M1 => (b = true → SJ K ts ds M1 P) ∧ (b = false → SJ K tz ds M1 P)) : SJ K (tIfS tt ts tz) ds M P := fun w σ H s sl E n r b t =>
  h w σ H s sl _ fun w1 k H1 M1 e1 s1 h1 => by
    cases k with
    | true => exact (h1.1 rfl) w1 σ H1 s1 (sl.mono e1) E (fun w2 σ2 H2 ds2 M2 e2 => n w2 σ2 H2 ds2 M2 (e1.trans e2)) (fun w2 v H2 d M2 e2 => r w2 v H2 d M2 (e1.trans e2)) (fun w2 σ2 H2 ds2 M2 e2 => b w2 σ2 H2 ds2 M2 (e1.trans e2)) fun w2 σ2 H2 ds2 M2 e2 => t w2 σ2 H2 ds2 M2 (e1.trans e2)
    | false => exact (h1.2 rfl) w1 σ H1 s1 (sl.mono e1) E (fun w2 σ2 H2 ds2 M2 e2 => n w2 σ2 H2 ds2 M2 (e1.trans e2)) (fun w2 v H2 d M2 e2 => r w2 v H2 d M2 (e1.trans e2)) (fun w2 σ2 H2 ds2 M2 e2 => b w2 σ2 H2 ds2 M2 (e1.trans e2)) fun w2 σ2 H2 ds2 M2 e2 => t w2 σ2 H2 ds2 M2 (e1.trans e2)
theorem sj_par {i j : Nat} (h : AJ K tr ds M fun xs M1 => ∃ x y, xs = [x, y] ∧ P.nx ((ds.set i (some x)).set j (some y)) M1) : SJ K (tPar i j tr) ds M P := fun w σ H s sl E n r b t =>
  h w σ H s sl _ fun w1 us H1 xs M1 e1 r1 s1 q => by
    obtain ⟨x, y, rfl, q⟩ := q
    match us, r1 with
    | [u, v], ⟨ru, rv, _⟩ => exact ⟨u, v, rfl, n w1 _ H1 _ M1 e1 s1 (((sl.mono e1).set i ru).set j rv) q⟩
theorem sj_par3 {i j l : Nat} (h : AJ K tr ds M fun xs M1 => ∃ x y z, xs = [x, y, z] ∧ P.nx (((ds.set i (some x)).set j (some y)).set l (some z)) M1) : SJ K (tPar3 i j l tr) ds M P := fun w σ H s sl E n r b t =>
  h w σ H s sl _ fun w1 us H1 xs M1 e1 r1 s1 q => by
    obtain ⟨x, y, z, rfl, q⟩ := q
    match us, r1 with
    | [u, v, k], ⟨ru, rv, rk, _⟩ => exact ⟨u, v, k, rfl, n w1 _ H1 _ M1 e1 s1 ((((sl.mono e1).set i ru).set j rv).set l rk) q⟩
theorem sj_for {wi : TI} {tb : TS} (h : IJ K wi ds M fun its M1 => ∃ I : Nat → Ds → Ms → Prop, I 0 ds M1 ∧
    (∀ (i : Nat) (d : PyData) (ds' : Ds) (M' : Ms), its[i]? = some d → I i ds' M' → GJ K g (.dat d) ds' M' fun ds2 M2 => SJ K tb ds2 M2 ⟨I (i + 1), P.rt, P.nx, I (i + 1)⟩) ∧
    ∀ (ds' : Ds) (M' : Ms), I its.length ds' M' → P.nx ds' M') : SJ K (tFor wi g tb) ds M P := fun w σ H s sl E n r b t =>
  h w σ H s sl _ fun w1 J H1 its M1 e1 s1 ok q => by
    obtain ⟨I, i0, turn, fin⟩ := q
    refine ⟨fun i m σ' H' => m = its.length - i ∧ i ≤ its.length ∧ ∃ (w' : Wd) (ds' : Ds) (M' : Ms), w1.le w' ∧ SatH K w' H' M' ∧ Slots K w' σ' ds' ∧ I i ds' M', ⟨its.length, by simp, Nat.zero_le _, w1, ds, M1, Wd.le.refl _, s1, sl.mono e1, i0⟩, ?_⟩
    rintro i m σ' H' ⟨rfl, hi, w', ds', M', le, s', sl', hI⟩
    by_cases hlt : i < its.length
    · have hd : its[i]? = some its[i] := List.getElem?_eq_getElem hlt
      refine .inr ⟨ok.goes w' H' M' i le s' hlt, fun σ2 H2 => ∃ (w2 : Wd) (ds2 : Ds) (M2 : Ms), w1.le w2 ∧ SatH K w2 H2 M2 ∧ Slots K w2 σ2 ds2 ∧ I (i + 1) ds2 M2, fun σ2 H2 q => ⟨its.length - (i + 1), by omega, rfl, hlt, q⟩, fun x H2 hy => ?_⟩
      obtain ⟨w2, le2, s2, dx⟩ := ok.yld w' H' M' i its[i] x H2 le s' hd hy
      refine turn i its[i] ds' M' hd hI w2 x σ' H2 s2 (sl'.mono le2) dx _ fun w3 σ3 H3 ds3 M3 e3 s3 sl3 q3 => ?_
      have le3 : w1.le w3 := (le.trans le2).trans e3
      exact q3 w3 σ3 H3 s3 sl3 _ (fun w4 σ4 H4 ds4 M4 e4 s4 sl4 q4 => ⟨w4, ds4, M4, le3.trans e4, s4, sl4, q4⟩) (fun w4 v H4 d M4 e4 => r w4 v H4 d M4 (e1.trans (le3.trans e4)))
        (fun w4 σ4 H4 ds4 M4 e4 => n w4 σ4 H4 ds4 M4 (e1.trans (le3.trans e4))) fun w4 σ4 H4 ds4 M4 e4 s4 sl4 q4 => ⟨w4, ds4, M4, le3.trans e4, s4, sl4, q4⟩
    · have e : i = its.length := by omega
      subst e
      exact .inl ⟨ok.stop w' H' M' le s', n w' σ' H' ds' M' (e1.trans le) s' sl' (fin ds' M' hI)⟩

/-! ### targets -/
theorem gsj_nil {N : Ds → Ms → Prop} (h : N ds M) : GsJ K gNil [] ds M N := fun w vs σ H s sl r R c => by
  match vs, r with
  | [], _ => exact ⟨rfl, c w σ H ds M (Wd.le.refl w) s sl h⟩
theorem gsj_cons {x : D} {xs : List D} {u : TGs} {N : Ds → Ms → Prop} (h : GJ K g x ds M fun ds' M' => GsJ K u xs ds' M' N) : GsJ K (gCons g u) (x :: xs) ds M N := fun w vs σ H s sl r R c => by
  match vs, r with
  | v :: vs, ⟨r1, r2⟩ =>
    exact ⟨v, vs, rfl, h w v σ H s sl r1 _ fun w1 σ1 H1 ds1 M1 e1 s1 sl1 q => q w1 vs σ1 H1 s1 sl1 (r2.mono e1) R fun w2 σ2 H2 ds2 M2 e2 => c w2 σ2 H2 ds2 M2 (e1.trans e2)⟩
theorem relAll_dats {w : Wd} : ∀ {vs : List V} {ps : List PyData}, DpAll K w.F vs ps → RelAll K w vs (ps.map D.dat)
  | _, _, .nil => True.intro
  | _, _, .cons a b => ⟨a, relAll_dats b⟩
theorem gj_tup {n : Nat} {u : TGs} {ps : List PyData} {N : Ds → Ms → Prop} (hn : ps.length = n) (h : GsJ K u (ps.map D.dat) ds M N) : GJ K (gTup K n u) (.dat (.tuple ps)) ds M N := fun w v σ H s sl r R c => by
  obtain ⟨a, vs, rfl, hs, ha⟩ := s.seqT r
  exact ⟨a, vs, rfl, hs, by rw [ha.len]; exact hn, h w vs σ H s sl (relAll_dats ha) R c⟩
theorem gj_unl {n : Nat} {u : TGs} {ps : List PyData} {N : Ds → Ms → Prop} (hn : ps.length = n) (h : GsJ K u (ps.map D.dat) ds M N) : GJ K (gUnl K n u) (.dat (.list ps)) ds M N := fun w v σ H s sl r R c => by
  obtain ⟨a, vs, rfl, hs, ha⟩ := s.seqL r
  exact ⟨a, vs, rfl, hs, by rw [ha.len]; exact hn, h w vs σ H s sl (relAll_dats ha) R c⟩
/-- xs[k] = x, xs a cell -/
theorem gj_sub {to ti : TE} {x : PyData} {N : Ds → Ms → Prop} (h : EJ K to ds M fun o M1 => EJ K ti ds M1 fun y M2 => ∃ i xs k j, o = .cel i ∧ y = .dat (.int k) ∧ M2 i = some xs ∧ ixN xs.length k = some j ∧ N ds (put M2 i (xs.set j x))) :
    GJ K (gSub to ti rSetL) (.dat x) ds M N := fun w v σ H s sl r R c =>
  h w σ H s sl _ fun w1 o H1 od M1 e1 r1 s1 h1 => h1 w1 σ H1 s1 (sl.mono e1) _ fun w2 y H2 yd M2 e2 r2 s2 h2 => by
    obtain ⟨i, xs, k, j, rfl, rfl, hi, hj, q⟩ := h2
    cases (show Dp K w2.F y (.int k) from r2)
    obtain ⟨a, hc, rfl⟩ := r1.mono e2
    obtain ⟨a', us, k1, k2, k3, k4⟩ := s2.cell i xs hi
    rw [hc] at k1
    cases k1
    have hx : Dp K w2.F v x := dp_mono (e1.trans e2).F x v r
    refine ⟨a, us, k, j, rfl, rfl, k3, by rw [k4.len]; exact hj, ?_⟩
    exact c w2 σ _ ds _ (e1.trans e2) (s2.write hi hc (k4.set hx j)) (sl.mono (e1.trans e2)) q

theorem wipe_set {σ : L2.St} {i : Nat} {x : Option V} : ∀ {ix : List Nat}, i ∈ ix → L2.wipe (σ.set i x) ix = L2.wipe σ ix
  | [], h => nomatch h
  | v :: vs, h => by
    by_cases e : i ∈ vs
    · show (L2.wipe (σ.set i x) vs).set v none = (L2.wipe σ vs).set v none
      rw [wipe_set e]
    · have ev : i = v := by
        rcases List.mem_cons.mp h with q | q
        · exact q
        · exact absurd q e
      subst ev
      have com : ∀ (us : List Nat) (τ : L2.St), L2.wipe (τ.set i x) us = L2.wipe (τ.set i x) us := fun _ _ => rfl
      have key : ∀ us : List Nat, (L2.wipe (σ.set i x) us).set i none = (L2.wipe σ us).set i none := fun us => by
        induction us with
        | nil =>
          show (σ.set i x).set i none = σ.set i none
          rw [List.set_set]
        | cons u us ih =>
          show ((L2.wipe (σ.set i x) us).set u none).set i none = ((L2.wipe σ us).set u none).set i none
          by_cases hu : u = i
          · rw [hu, List.set_set, List.set_set]
            exact ih
          · rw [List.set_comm _ _ hu, ih, List.set_comm _ _ hu]
      exact key vs
theorem lj_name {ix : List Nat} {i : Nat} {x : D} {N : Ds → Prop} (hi : i ∈ ix) (h : N (ds.set i (some x))) : LJ K ix (gName i) x ds N := fun w v σ H M s sl r R c => c (σ.set i (some v)) _ (sl.set i r) (wipe_set hi) h
theorem lsj_nil {ix : List Nat} {N : Ds → Prop} (h : N ds) : LsJ K ix gNil [] ds N := fun w vs σ H M s sl r R c => by
  match vs, r with
  | [], _ => exact ⟨rfl, c σ ds sl rfl h⟩
theorem lsj_cons {ix : List Nat} {x : D} {xs : List D} {u : TGs} {N : Ds → Prop} (h : LJ K ix g x ds fun ds' => LsJ K ix u xs ds' N) : LsJ K ix (gCons g u) (x :: xs) ds N := fun w vs σ H M s sl r R c => by
  match vs, r with
  | v :: vs, ⟨r1, r2⟩ => exact ⟨v, vs, rfl, h w v σ H M s sl r1 _ fun σ1 ds1 sl1 e1 q => q w vs σ1 H M s sl1 r2 R fun σ2 ds2 sl2 e2 q2 => c σ2 ds2 sl2 (e2.trans e1) q2⟩
theorem lj_tup {ix : List Nat} {n : Nat} {u : TGs} {ps : List PyData} {N : Ds → Prop} (hn : ps.length = n) (h : LsJ K ix u (ps.map D.dat) ds N) : LJ K ix (gTup K n u) (.dat (.tuple ps)) ds N := fun w v σ H M s sl r R c => by
  obtain ⟨a, vs, rfl, hs, ha⟩ := s.seqT r
  exact ⟨a, vs, rfl, hs, by rw [ha.len]; exact hn, h w vs σ H M s sl (relAll_dats ha) R c⟩

/-! ### comprehensions -/
theorem wipe_idem {σ : L2.St} : ∀ {ix : List Nat}, L2.wipe (L2.wipe σ ix) ix = L2.wipe σ ix
  | [] => rfl
  | v :: vs => by
    have aux : ∀ (us : List Nat) (τ : L2.St), L2.wipe (τ.set v none) us = (L2.wipe τ us).set v none := fun us => by
      induction us with
      | nil => intro τ; rfl
      | cons u us ih =>
        intro τ
        show (L2.wipe (τ.set v none) us).set u none = ((L2.wipe τ us).set u none).set v none
        rw [ih]
        by_cases hu : u = v
        · rw [hu]
        · rw [List.set_comm _ _ (Ne.symm hu)]
    show (L2.wipe ((L2.wipe σ vs).set v none) vs).set v none = (L2.wipe σ vs).set v none
    rw [aux, wipe_idem, List.set_set]
theorem ej_lc {wi : TI} {ix : List Nat} (h : IJ K wi ds M fun its M1 => ∀ k, M1 k = none → ∃ I : Nat → Ms → Prop, I 0 (put M1 k []) ∧
    (∀ (i : Nat) (d : PyData) (M' : Ms), its[i]? = some d → I i M' → LJ K ix g (.dat d) (wipeD ds ix) fun ds2 => TJ K tt ds2 M' fun b M3 =>
      (b = true → EJ K te ds2 M3 fun y M4 => ∃ z acc, y = .dat z ∧ M4 k = some acc ∧ acc.length < 100000 ∧ I (i + 1) (put M4 k (acc ++ [z]))) ∧ (b = false → I (i + 1) M3)) ∧
    ∀ M' : Ms, I its.length M' → Q (.cel k) M') : EJ K (tLc wi g tt te ix) ds M Q := fun w σ H s sl R c =>
  h w σ H s sl _ fun w1 J H1 its M1 e1 s1 ok q => fun Dl hD => by
    obtain ⟨k, c', hk, le0, hc, s2⟩ := s1.newCell hD .nil
    obtain ⟨I, i0, turn, fin⟩ := q k hk
    generalize hw2 : (⟨w1.F, c'⟩ : Wd) = w2 at le0 s2
    have hc2 : w2.c k = some Dl := by rw [← hw2]; exact hc
    refine ⟨fun i m H' => m = its.length - i ∧ i ≤ its.length ∧ ∃ (w' : Wd) (M' : Ms), w2.le w' ∧ SatH K w' H' M' ∧ I i M', ⟨its.length, by simp, Nat.zero_le _, w2, _, Wd.le.refl _, s2, i0⟩, ?_⟩
    rintro i m H' ⟨rfl, hi, w', M', le, s', hI⟩
    have e2 : w.le w' := (e1.trans le0).trans le
    by_cases hlt : i < its.length
    · have hd : its[i]? = some its[i] := List.getElem?_eq_getElem hlt
      refine .inr ⟨ok.goes w' H' M' i (le0.trans le) s' hlt, fun H2 => ∃ (w2' : Wd) (M2 : Ms), w2.le w2' ∧ SatH K w2' H2 M2 ∧ I (i + 1) M2, fun H2 q => ⟨its.length - (i + 1), by omega, rfl, hlt, q⟩, fun x H2 hy => ?_⟩
      obtain ⟨w3, le3, s3, dx⟩ := ok.yld w' H' M' i its[i] x H2 (le0.trans le) s' hd hy
      have sl3 : Slots K w3 (L2.wipe σ ix) (wipeD ds ix) := (sl.mono (e2.trans le3)).wipe ix
      refine turn i its[i] M' hd hI w3 x _ H2 M' s3 sl3 dx _ fun σ4 ds4 sl4 ew q4 => ⟨ew.trans wipe_idem, ?_⟩
      refine q4 w3 σ4 H2 s3 sl4 _ fun w5 b H5 M5 e5 s5 q5 => ?_
      have le5 : w2.le w5 := (le.trans le3).trans e5
      cases b with
      | false => exact ⟨w5, M5, le5, s5, q5.2 rfl⟩
      | true =>
        refine q5.1 rfl w5 σ4 H5 s5 (sl4.mono e5) _ fun w6 y H6 yd M6 e6 r6 s6 q6 => ?_
        obtain ⟨z, acc, rfl, hM, hz, q7⟩ := q6
        obtain ⟨a, us, k1, k2, k3, k4⟩ := s6.cell k acc hM
        have ck : w6.c k = some Dl := (le5.trans e6).c k Dl hc2
        rw [ck] at k1
        cases k1
        refine ⟨us, k3, Nat.lt_of_lt_of_le (by rw [k4.len]; exact hz) (by decide), w6, _, le5.trans e6, s6.write hM ck (k4.app (.cons r6 .nil)), q7⟩
    · have e : i = its.length := by omega
      subst e
      exact .inl ⟨ok.stop w' H' M' (le0.trans le) s', c w' (.ref Dl) H' (.cel k) M' e2 ⟨Dl, le.c k Dl hc2, rfl⟩ s' (fin M' hI)⟩

/-! ### iterables -/
theorem iok_list {w : Wd} {a : Addr} {vs : List V} {xs : List PyData} (hs : SqL K w.F a vs) (ha : DpAll K w.F vs xs) : IOk K w (Itl K a) xs where
  goes := fun w' H M i le s hi => ⟨vs, vs[i]'(by rw [ha.len]; exact hi), sqL_mono (le.F.trans s.sub) hs, by simp⟩
  stop := fun w' H M le s => ⟨vs, sqL_mono (le.F.trans s.sub) hs, Nat.le_of_eq ha.len⟩
  yld := fun w' H M i d x H' le s hd hy => by
    obtain ⟨rfl, hx⟩ := hy
    obtain ⟨v, h1, h2⟩ := ha.get hd
    have e := hx vs (sqL_mono (le.F.trans s.sub) hs)
    rw [h1] at e
    cases e
    exact ⟨w', Wd.le.refl _, s, dp_mono le.F d _ h2⟩
theorem iok_tup {w : Wd} {a : Addr} {vs : List V} {xs : List PyData} (hs : SqT K w.F a vs) (ha : DpAll K w.F vs xs) : IOk K w (Itt K a) xs where
  goes := fun w' H M i le s hi => ⟨vs, vs[i]'(by rw [ha.len]; exact hi), sqT_mono (le.F.trans s.sub) hs, by simp⟩
  stop := fun w' H M le s => ⟨vs, sqT_mono (le.F.trans s.sub) hs, Nat.le_of_eq ha.len⟩
  yld := fun w' H M i d x H' le s hd hy => by
    obtain ⟨rfl, hx⟩ := hy
    obtain ⟨v, h1, h2⟩ := ha.get hd
    have e := hx vs (sqT_mono (le.F.trans s.sub) hs)
    rw [h1] at e
    cases e
    exact ⟨w', Wd.le.refl _, s, dp_mono le.F d _ h2⟩
def rngI (lo : Int) (n : Nat) : List PyData := (List.range n).map fun (i : Nat) => PyData.int (lo + i)
@[simp] theorem rngI_length {lo : Int} {n : Nat} : (rngI lo n).length = n := by simp [rngI]
theorem rngI_get {lo : Int} {n i : Nat} {d : PyData} (h : (rngI lo n)[i]? = some d) : i < n ∧ d = .int (lo + i) := by
  unfold rngI at h
  by_cases hi : i < n
  · rw [List.getElem?_map, List.getElem?_range hi] at h
    exact ⟨hi, (Option.some.inj h).symm⟩
  · rw [List.getElem?_eq_none (by simp; omega)] at h
    cases h
theorem iok_range {w : Wd} {lo : Int} {n : Nat} : IOk K w (Itr lo n) (rngI lo n) where
  goes := fun w' H M i le s hi => by rw [rngI_length] at hi; exact hi
  stop := fun w' H M le s => Nat.le_of_eq rngI_length.symm
  yld := fun w' H M i d x H' le s hd hy => by
    obtain ⟨rfl, rfl⟩ := hy
    obtain ⟨_, rfl⟩ := rngI_get hd
    exact ⟨w', Wd.le.refl _, s, .int _⟩
def enums : Nat → List PyData → List PyData
  | _, [] => []
  | n, x :: xs => .tuple [.int (n : Nat), x] :: enums (n + 1) xs
theorem enums_length : ∀ {xs : List PyData} {n : Nat}, (enums n xs).length = xs.length
  | [], _ => rfl
  | _ :: _, _ => congrArg (· + 1) enums_length
theorem enums_get : ∀ {xs : List PyData} {n i : Nat} {d : PyData}, (enums n xs)[i]? = some d → ∃ x, xs[i]? = some x ∧ d = .tuple [.int ((n + i : Nat) : Int), x]
  | [], _, _, _, h => by simp [enums] at h
  | x :: xs, n, 0, d, h => by
    simp [enums] at h
    exact ⟨x, rfl, h.symm⟩
  | x :: xs, n, i + 1, d, h => by
    simp only [enums, List.getElem?_cons_succ] at h
    obtain ⟨y, h1, h2⟩ := enums_get h
    refine ⟨y, by simpa using h1, ?_⟩
    rw [h2, show n + 1 + i = n + (i + 1) by omega]
theorem pair_new {w' : Wd} {H : Hp} {M : Ms} (s : SatH K w' H M) {T : Addr} {x y : V} {d e : PyData} (hT : H T = none) (hx : Dp K w'.F x d) (hy : Dp K w'.F y e) :
    ∃ w'' : Wd, w'.le w'' ∧ SatH K w'' (upd H T (.tup [x, y])) M ∧ Dp K w''.F (.ref T) (.tuple [d, e]) := by
  obtain ⟨le, s2⟩ := s.new (o := .tup [x, y]) hT
  exact ⟨_, le, s2, .tup (SqT.of upd_same) (.cons (dp_mono le.F d x hx) (.cons (dp_mono le.F e y hy) .nil))⟩
theorem iok_enum {w : Wd} {a : Addr} {vs : List V} {xs : List PyData} (hs : SqL K w.F a vs) (ha : DpAll K w.F vs xs) : IOk K w (Ite K a) (enums 0 xs) where
  goes := fun w' H M i le s hi => by
    rw [enums_length] at hi
    exact ⟨vs, vs[i]'(by rw [ha.len]; exact hi), sqL_mono (le.F.trans s.sub) hs, by simp⟩
  stop := fun w' H M le s => ⟨vs, sqL_mono (le.F.trans s.sub) hs, by rw [enums_length]; exact Nat.le_of_eq ha.len⟩
  yld := fun w' H M i d x H' le s hd hy => by
    obtain ⟨T, y, rfl, hT, rfl, hx⟩ := hy
    obtain ⟨z, h0, rfl⟩ := enums_get hd
    obtain ⟨v, h1, h2⟩ := ha.get h0
    have e := hx vs (sqL_mono (le.F.trans s.sub) hs)
    rw [h1] at e
    cases e
    rw [Nat.zero_add]
    exact pair_new s hT (.int _) (dp_mono le.F z _ h2)
def zips : List PyData → List PyData → List PyData
  | x :: xs, y :: ys => .tuple [x, y] :: zips xs ys
  | _, _ => []
theorem zips_length : ∀ {xs ys : List PyData}, (zips xs ys).length = min xs.length ys.length
  | [], ys => by simp [zips]
  | _ :: _, [] => by simp [zips]
  | _ :: xs, _ :: ys => by
    show (zips xs ys).length + 1 = _
    rw [zips_length, List.length_cons, List.length_cons]
    omega
theorem zips_get : ∀ {xs ys : List PyData} {i : Nat} {d : PyData}, (zips xs ys)[i]? = some d → ∃ x y, xs[i]? = some x ∧ ys[i]? = some y ∧ d = .tuple [x, y]
  | [], ys, _, _, h => by simp [zips] at h
  | _ :: _, [], _, _, h => by simp [zips] at h
  | x :: xs, y :: ys, 0, d, h => by
    simp [zips] at h
    exact ⟨x, y, rfl, rfl, h.symm⟩
  | x :: xs, y :: ys, i + 1, d, h => by
    simp only [zips, List.getElem?_cons_succ] at h
    obtain ⟨u, v, h1, h2, h3⟩ := zips_get h
    exact ⟨u, v, by simpa using h1, by simpa using h2, h3⟩
theorem iok_zip {w : Wd} {a b : Addr} {vs us : List V} {xs ys : List PyData} (hs : SqL K w.F a vs) (ha : DpAll K w.F vs xs) (ht : SqL K w.F b us) (hb : DpAll K w.F us ys) : IOk K w (Itz K a b) (zips xs ys) where
  goes := fun w' H M i le s hi => by
    rw [zips_length] at hi
    have h1 := ha.len
    have h2 := hb.len
    exact ⟨vs, us, vs[i]'(by omega), us[i]'(by omega), sqL_mono (le.F.trans s.sub) hs, sqL_mono (le.F.trans s.sub) ht, by simp, by simp⟩
  stop := fun w' H M le s => ⟨vs, us, sqL_mono (le.F.trans s.sub) hs, sqL_mono (le.F.trans s.sub) ht, by
    rw [zips_length]
    have h1 := ha.len
    have h2 := hb.len
    omega⟩
  yld := fun w' H M i d x H' le s hd hy => by
    obtain ⟨T, y, z, rfl, hT, rfl, hx, hz⟩ := hy
    obtain ⟨p, q, h0, h0', rfl⟩ := zips_get hd
    obtain ⟨v, h1, h2⟩ := ha.get h0
    obtain ⟨u, h3, h4⟩ := hb.get h0'
    have e := hx vs (sqL_mono (le.F.trans s.sub) hs)
    rw [h1] at e
    cases e
    have e := hz us (sqL_mono (le.F.trans s.sub) ht)
    rw [h3] at e
    cases e
    exact pair_new s hT (dp_mono le.F p _ h2) (dp_mono le.F q _ h4)
theorem ij_list {Q : List PyData → Ms → Prop} (h : EJ K te ds M fun d M1 => ∃ xs, d = .dat (.list xs) ∧ Q xs M1) : IJ K (iList K te) ds M Q := fun w σ H s sl R c =>
  h w σ H s sl _ fun w1 u H1 x M1 e1 r1 s1 h1 => by
    obtain ⟨xs, rfl, q⟩ := h1
    cases (show Dp K w1.F u (.list xs) from r1) with
    | lst hs ha => exact ⟨_, rfl, ⟨_, sqL_mono s1.sub hs⟩, c w1 _ H1 xs M1 e1 s1 (iok_list hs ha) q⟩
theorem ij_tup {Q : List PyData → Ms → Prop} (h : EJ K te ds M fun d M1 => ∃ xs, d = .dat (.tuple xs) ∧ Q xs M1) : IJ K (iTup K te) ds M Q := fun w σ H s sl R c =>
  h w σ H s sl _ fun w1 u H1 x M1 e1 r1 s1 h1 => by
    obtain ⟨xs, rfl, q⟩ := h1
    cases (show Dp K w1.F u (.tuple xs) from r1) with
    | tup hs ha => exact ⟨_, rfl, ⟨_, sqT_mono s1.sub hs⟩, c w1 _ H1 xs M1 e1 s1 (iok_tup hs ha) q⟩
theorem ij_range1 {Q : List PyData → Ms → Prop} (h : AJ K tr ds M fun xs M1 => ∃ n : Int, xs = [.dat (.int n)] ∧ n.natAbs < 2 ^ 62 ∧ Q (rngI 0 n.toNat) M1) : IJ K (iRng1 tr) ds M Q := fun w σ H s sl R c =>
  h w σ H s sl _ fun w1 us H1 xs M1 e1 r1 s1 h1 => by
    obtain ⟨n, rfl, hz, q⟩ := h1
    obtain ⟨v, rfl, rv⟩ := r1.c1
    cases (show Dp K w1.F v (.int n) from rv)
    exact ⟨n, rfl, by omega, by omega, c w1 _ H1 _ M1 e1 s1 iok_range q⟩
theorem ij_range2 {Q : List PyData → Ms → Prop} (h : AJ K tr ds M fun xs M1 => ∃ m n : Int, xs = [.dat (.int m), .dat (.int n)] ∧ m.natAbs < 2 ^ 62 ∧ n.natAbs < 2 ^ 62 ∧ Q (rngI m (n - m).toNat) M1) : IJ K (iRng2 tr) ds M Q := fun w σ H s sl R c =>
  h w σ H s sl _ fun w1 us H1 xs M1 e1 r1 s1 h1 => by
    obtain ⟨m, n, rfl, hm, hn, q⟩ := h1
    obtain ⟨v, u, rfl, rv, ru⟩ := r1.c2
    cases (show Dp K w1.F v (.int m) from rv)
    cases (show Dp K w1.F u (.int n) from ru)
    exact ⟨m, n, rfl, ⟨by omega, by omega, by omega, by omega⟩, c w1 _ H1 _ M1 e1 s1 iok_range q⟩
theorem ij_enum {Q : List PyData → Ms → Prop} (h : AJ K tr ds M fun xs M1 => ∃ ps, xs = [.dat (.list ps)] ∧ Q (enums 0 ps) M1) : IJ K (iEnum K tr) ds M Q := fun w σ H s sl R c =>
  h w σ H s sl _ fun w1 us H1 xs M1 e1 r1 s1 h1 => by
    obtain ⟨ps, rfl, q⟩ := h1
    obtain ⟨v, rfl, rv⟩ := r1.c1
    cases (show Dp K w1.F v (.list ps) from rv) with
    | lst hs ha => exact ⟨_, _, rfl, sqL_mono s1.sub hs, c w1 _ H1 _ M1 e1 s1 (iok_enum hs ha) q⟩
theorem ij_zip {Q : List PyData → Ms → Prop} (h : AJ K tr ds M fun xs M1 => ∃ ps qs, xs = [.dat (.list ps), .dat (.list qs)] ∧ Q (zips ps qs) M1) : IJ K (iZip K tr) ds M Q := fun w σ H s sl R c =>
  h w σ H s sl _ fun w1 us H1 xs M1 e1 r1 s1 h1 => by
    obtain ⟨ps, qs, rfl, q⟩ := h1
    obtain ⟨v, u, rfl, rv, ru⟩ := r1.c2
    cases (show Dp K w1.F v (.list ps) from rv) with
    | lst hs ha =>
      cases (show Dp K w1.F u (.list qs) from ru) with
      | lst ht hb => exact ⟨_, _, _, _, rfl, sqL_mono s1.sub hs, sqL_mono s1.sub ht, c w1 _ H1 _ M1 e1 s1 (iok_zip hs ha ht hb) q⟩
end
end DL

/-! Operators, calls on data. -/
namespace DL
open PySem PySem.Spec PyProof.Rows L2

/-! ### rules of the machine that the layer lacks -/
section
variable {X : Cx}
def rIsNone : R2 := fun x y H Q => y = .non ∧ Q (.bl (decide (x = .non))) H
def rNotNone : R2 := fun x y H Q => y = .non ∧ Q (.bl (!decide (x = .non))) H
theorem op_isNone : OpR X (compareOp .Is) rIsNone := op_isN
theorem op_notNone : OpR X (compareOp .IsNot) rNotNone := op_notN
def rIxLT (K : PySem.W.Frag) : R2 := fun x y H Q => rIxL K x y H Q ∨ rIxT K x y H Q
theorem ix_LT : IxR X (rIxLT X.K) := ix_list.or ix_tup
def rLenLT (K : PySem.W.Frag) : List V → Hp → VK → Prop := fun xs H Q => ∃ p ys, xs = [.ref p] ∧ (SqL K H p ys ∨ SqT K H p ys) ∧ Q (.int ys.length) H
theorem call_lenLT : CallR X (.builtin "len") (rLenLT X.K) := call_len_seq
def rInt1 : List V → Hp → VK → Prop := fun xs H Q => (∃ i, xs = [.int i] ∧ Q (.int i) H) ∨ ∃ k, xs = [.bl k] ∧ Q (.int (if k then 1 else 0)) H
theorem call_int : CallR X (.type "int") rInt1 := call_int1
def rMx2 : List V → Hp → VK → Prop := fun xs H Q => ∃ i j, xs = [.int i, .int j] ∧ Q (.int (if j > i then j else i)) H
def rMn2 : List V → Hp → VK → Prop := fun xs H Q => ∃ i j, xs = [.int i, .int j] ∧ Q (.int (if j < i then j else i)) H
theorem call_mx2 (hc : X.calm = true) : CallR X (.builtin "max") rMx2 := call_max2 hc
theorem call_mn2 (hc : X.calm = true) : CallR X (.builtin "min") rMn2 := call_min2 hc
def rLstOf (K : PySem.W.Frag) : List V → Hp → VK → Prop := fun xs H Q => ∃ p ys, xs = [.ref p] ∧ (SqL K H p ys ∨ SqT K H p ys) ∧ ∀ l, H l = none → Q (.ref l) (upd H l (.lst ys))
theorem call_lstOf : CallR X (.type "list") (rLstOf X.K) := call_list_of
def rTupOf (K : PySem.W.Frag) : List V → Hp → VK → Prop := fun xs H Q => ∃ p ys, xs = [.ref p] ∧ ((SqL K H p ys ∧ ∀ l, H l = none → Q (.ref l) (upd H l (.tup ys))) ∨ (SqT K H p ys ∧ Q (.ref p) H))
theorem call_tupOf : CallR X (.type "tuple") (rTupOf X.K) := call_tuple_of
def rReprI : List V → Hp → VK → Prop := fun xs H Q => ∃ i, xs = [.int i] ∧ i.natAbs.log2 < 1920 ∧ Q (.str (toString i)) H
theorem call_reprI : CallR X (.builtin "repr") rReprI := by
  intro pins s σ H xs us Q I r h
  obtain ⟨i, rfl, hz, q⟩ := h
  obtain ⟨u, rfl, t, rfl⟩ := vals1 r
  refine PySem.P.repr_of_int hz ?_
  exact ⟨.str _, H, I.tok _, ⟨_, rfl⟩, q⟩
/-- sum of a tuple of ints -/
def rSumT (K : PySem.W.Frag) : List V → Hp → VK → Prop := fun vs H Q => ∃ (a : Addr) (ns : List Int), vs = [V.ref a] ∧ SqT K H a (ns.map V.int) ∧ Q (.int ns.sum) H
theorem cr_sumT (hc : X.calm = true) : CallR X (.builtin "sum") (rSumT X.K) := by
  intro pins s σ H vs us Q I r h
  obtain ⟨a, ns, rfl, hs, q⟩ := h
  obtain ⟨its, rv, ht, _⟩ := I.tuple hs
  rw [Vals.ref1 r]
  have hi := rv.ints
  obtain ⟨xs, hx⟩ := hi.allInts.items
  have hn : numsOf its.toArray.toList = ns := by rw [show its.toArray.toList = its from rfl, hi.numsOf]
  have hl : s.heap.IsTuple a its.toArray := by
    obtain ⟨o, h1, h2, n, h3⟩ := ht
    exact ⟨o, h1, h2, n, h3⟩
  rw [hx] at hl hn
  rw [nums_intItems] at hn
  refine PySem.W.ktm_sumG (I.ok.hd hc) hl fun h' tk t' hk => ?_
  rw [preSum_eq, List.take_of_length_le (by simp), hn]
  exact ⟨.int _, H, I.kept hk, ⟨_, rfl⟩, q⟩
def rSumLT (K : PySem.W.Frag) : List V → Hp → VK → Prop := fun vs H Q => rSum K vs H Q ∨ rSumT K vs H Q
theorem cr_sumLT (hc : X.calm = true) : CallR X (.builtin "sum") (rSumLT X.K) := (cr_sum hc).or (cr_sumT hc)
def CPowW (i j : Int) : Prop := 0 ≤ j ∧ (Builtin.Int.intBits i : Int) * j ≤ 2 ^ 27
theorem op_powW : OpR X (binaryOp .Pow) (rI CPowW fun i j => .int (i ^ j.toNat)) := opI fun _ _ _ _ _ _ _ hc q => pow_int hc.1 hc.2 q
end

section
variable {K : PySem.W.Frag} {ds : Ds} {M : Ms} {Q : D → Ms → Prop} {ta tb te : TE} {tr : TA}
theorem oj_I0i {g : Int → Int → Int} {i j : Int} (q : Q (.dat (.int (g i j))) M) : OJ K (rI0 fun a b => .int (g a b)) (.dat (.int i)) (.dat (.int j)) M Q := fun w H u v s r1 r2 R c => by
  cases (show Dp K w.F u (.int i) from r1)
  cases (show Dp K w.F v (.int j) from r2)
  exact ⟨i, j, rfl, rfl, c w _ H (.dat (.int _)) M (Wd.le.refl w) (show Dp K _ _ _ from .int _) s q⟩
theorem oj_I0b {g : Int → Int → Bool} {i j : Int} (q : Q (.dat (.bool (g i j))) M) : OJ K (rI0 fun a b => .bl (g a b)) (.dat (.int i)) (.dat (.int j)) M Q := fun w H u v s r1 r2 R c => by
  cases (show Dp K w.F u (.int i) from r1)
  cases (show Dp K w.F v (.int j) from r2)
  exact ⟨i, j, rfl, rfl, c w _ H (.dat (.bool _)) M (Wd.le.refl w) (show Dp K _ _ _ from .bl _) s q⟩
theorem oj_Ii {C : Int → Int → Prop} {g : Int → Int → Int} {i j : Int} (hc : C i j) (q : Q (.dat (.int (g i j))) M) : OJ K (rI C fun a b => .int (g a b)) (.dat (.int i)) (.dat (.int j)) M Q := fun w H u v s r1 r2 R c => by
  cases (show Dp K w.F u (.int i) from r1)
  cases (show Dp K w.F v (.int j) from r2)
  exact ⟨i, j, rfl, rfl, hc, c w _ H (.dat (.int _)) M (Wd.le.refl w) (show Dp K _ _ _ from .int _) s q⟩
theorem uj_neg {g : Int → Int} {i : Int} (q : Q (.dat (.int (g i))) M) : UJ K (rU fun a => .int (g a)) (.dat (.int i)) M Q := fun w H u s r1 R c => by
  cases (show Dp K w.F u (.int i) from r1)
  exact ⟨i, rfl, c w _ H (.dat (.int _)) M (Wd.le.refl w) (show Dp K _ _ _ from .int _) s q⟩
def isNon : PyData → Bool
  | .none => true
  | _ => false
theorem isNon_dp {F : Hp} {v : V} {d : PyData} (h : Dp K F v d) : decide (v = .non) = isNon d := by
  cases h <;> simp [isNon]
theorem oj_isNone {d : PyData} (q : Q (.dat (.bool (isNon d))) M) : OJ K rIsNone (.dat d) (.dat .none) M Q := fun w H u v s r1 r2 R c => by
  cases (show Dp K w.F v .none from r2)
  refine ⟨rfl, ?_⟩
  rw [isNon_dp (show Dp K w.F u d from r1)]
  exact c w _ H (.dat (.bool _)) M (Wd.le.refl w) (show Dp K _ _ _ from .bl _) s q
theorem oj_notNone {d : PyData} (q : Q (.dat (.bool (!isNon d))) M) : OJ K rNotNone (.dat d) (.dat .none) M Q := fun w H u v s r1 r2 R c => by
  cases (show Dp K w.F v .none from r2)
  refine ⟨rfl, ?_⟩
  rw [isNon_dp (show Dp K w.F u d from r1)]
  exact c w _ H (.dat (.bool _)) M (Wd.le.refl w) (show Dp K _ _ _ from .bl _) s q
theorem oj_eqD {d e : PyData} (hd : SeqAt.shaped d = true) (he : SeqAt.shaped e = true) (q : Q (.dat (.bool (PyData.eqv d e))) M) : OJ K (rEqD K) (.dat d) (.dat e) M Q := fun w H u v s r1 r2 R c =>
  ⟨d, e, s.dp r1, s.dp r2, hd, he, c w _ H (.dat (.bool _)) M (Wd.le.refl w) (show Dp K _ _ _ from .bl _) s q⟩
theorem oj_neD {d e : PyData} (hd : SeqAt.shaped d = true) (he : SeqAt.shaped e = true) (q : Q (.dat (.bool (!PyData.eqv d e))) M) : OJ K (rNeD K) (.dat d) (.dat e) M Q := fun w H u v s r1 r2 R c =>
  ⟨d, e, s.dp r1, s.dp r2, hd, he, c w _ H (.dat (.bool _)) M (Wd.le.refl w) (show Dp K _ _ _ from .bl _) s q⟩
theorem shaped_int {i : Int} : SeqAt.shaped (.int i) = true := by simp [SeqAt.shaped, PyData.canLay0, PyData.depth]
theorem shaped_bool {i : Bool} : SeqAt.shaped (.bool i) = true := by simp [SeqAt.shaped, PyData.canLay0, PyData.depth]
theorem shaped_none : SeqAt.shaped .none = true := by simp [SeqAt.shaped, PyData.canLay0, PyData.depth]
theorem oj_eqi {i j : Int} (q : Q (.dat (.bool (decide (i = j)))) M) : OJ K (rEqD K) (.dat (.int i)) (.dat (.int j)) M Q := oj_eqD shaped_int shaped_int (by
  have e : PyData.eqv (.int i) (.int j) = decide (i = j) := by simp only [PyData.eqv]; exact Bool.beq_eq_decide_eq i j
  rw [e]
  exact q)
theorem oj_nei {i j : Int} (q : Q (.dat (.bool (!decide (i = j)))) M) : OJ K (rNeD K) (.dat (.int i)) (.dat (.int j)) M Q := oj_neD shaped_int shaped_int (by
  have e : PyData.eqv (.int i) (.int j) = decide (i = j) := by simp only [PyData.eqv]; exact Bool.beq_eq_decide_eq i j
  rw [e]
  exact q)
theorem oj_eqb {i j : Bool} (q : Q (.dat (.bool (i == j))) M) : OJ K (rEqD K) (.dat (.bool i)) (.dat (.bool j)) M Q := oj_eqD shaped_bool shaped_bool (by
  have e : PyData.eqv (.bool i) (.bool j) = (i == j) := by simp only [PyData.eqv]
  rw [e]
  exact q)
/-- texts -/
theorem shaped_str {x : Str} (h : PyData.strOk x = true) : SeqAt.shaped (.str x) = true := by simp [SeqAt.shaped, PyData.canLay0, PyData.depth, h]
theorem oj_eqs {x y : Str} {b : Bool} (hx : PyData.strOk x = true) (hy : PyData.strOk y = true) (hb : decide (x = y) = b) (q : Q (.dat (.bool b)) M) : OJ K (rEqD K) (.dat (.str x)) (.dat (.str y)) M Q := oj_eqD (shaped_str hx) (shaped_str hy) (by
  have e : PyData.eqv (.str x) (.str y) = b := by
    rw [← hb]
    simp only [PyData.eqv]
    exact Bool.beq_eq_decide_eq x y
  rw [e]
  exact q)
theorem oj_nes {x y : Str} {b : Bool} (hx : PyData.strOk x = true) (hy : PyData.strOk y = true) (hb : decide (x = y) = b) (q : Q (.dat (.bool (!b))) M) : OJ K (rNeD K) (.dat (.str x)) (.dat (.str y)) M Q := oj_neD (shaped_str hx) (shaped_str hy) (by
  have e : PyData.eqv (.str x) (.str y) = b := by
    rw [← hb]
    simp only [PyData.eqv]
    exact Bool.beq_eq_decide_eq x y
  rw [e]
  exact q)
theorem oj_eqsT {x : Str} (hx : PyData.strOk x = true) (q : Q (.dat (.bool true)) M) : OJ K (rEqD K) (.dat (.str x)) (.dat (.str x)) M Q := oj_eqs hx hx (decide_eq_true rfl) q
theorem oj_eqsF {x y : Str} (hx : PyData.strOk x = true) (hy : PyData.strOk y = true) (hb : decide (x = y) = false) (q : Q (.dat (.bool false)) M) : OJ K (rEqD K) (.dat (.str x)) (.dat (.str y)) M Q := oj_eqs hx hy hb q
theorem shaped_nil : SeqAt.shaped (.list []) = true := by simp [SeqAt.shaped, PyData.canLay0, PyData.canLayAll0, PyData.depth, PyData.depthAll]
theorem oj_eq_nil (q : Q (.dat (.bool true)) M) : OJ K (rEqD K) (.dat (.list [])) (.dat (.list [])) M Q := oj_eqD shaped_nil shaped_nil (by
  have e : PyData.eqv (.list []) (.list []) = true := by simp only [PyData.eqv, PyData.eqvAll]
  rw [e]
  exact q)
theorem oj_ne_nil (q : Q (.dat (.bool false)) M) : OJ K (rNeD K) (.dat (.list [])) (.dat (.list [])) M Q := oj_neD shaped_nil shaped_nil (by
  have e : PyData.eqv (.list []) (.list []) = true := by simp only [PyData.eqv, PyData.eqvAll]
  rw [e]
  exact q)
theorem oj_ne_lnil {xs : List PyData} (h : SeqAt.shaped (.list xs) = true) (q : Q (.dat (.bool (!xs.isEmpty))) M) : OJ K (rNeD K) (.dat (.list xs)) (.dat (.list [])) M Q := oj_neD h shaped_nil (by
  have e : PyData.eqv (.list xs) (.list []) = xs.isEmpty := by cases xs <;> simp [PyData.eqv, PyData.eqvAll]
  rw [e]
  exact q)
theorem atI_dp {F : Hp} {vs : List V} {xs : List PyData} {k : Int} {d : PyData} (h : DpAll K F vs xs) (e : atI xs k = some d) : ∃ v, atI vs k = some v ∧ Dp K F v d := by
  have hl := h.len
  unfold atI at e ⊢
  rw [← hl] at e
  cases q : ixN vs.length k with
  | none =>
    rw [q] at e
    cases e
  | some j =>
    rw [q] at e
    exact h.get e
theorem oj_ixL {xs : List PyData} {k : Int} {d : PyData} (e : atI xs k = some d) (q : Q (.dat d) M) : OJ K (rIxLT K) (.dat (.list xs)) (.dat (.int k)) M Q := fun w H u v s r1 r2 R c => by
  cases (show Dp K w.F v (.int k) from r2)
  obtain ⟨a, vs, rfl, hs, ha⟩ := s.seqL r1
  obtain ⟨x, h1, h2⟩ := atI_dp ha e
  exact .inl ⟨a, vs, k, x, rfl, rfl, hs, h1, c w x H (.dat d) M (Wd.le.refl w) h2 s q⟩
theorem oj_ixT {xs : List PyData} {k : Int} {d : PyData} (e : atI xs k = some d) (q : Q (.dat d) M) : OJ K (rIxLT K) (.dat (.tuple xs)) (.dat (.int k)) M Q := fun w H u v s r1 r2 R c => by
  cases (show Dp K w.F v (.int k) from r2)
  obtain ⟨a, vs, rfl, hs, ha⟩ := s.seqT r1
  obtain ⟨x, h1, h2⟩ := atI_dp ha e
  exact .inr ⟨a, vs, k, x, rfl, rfl, hs, h1, c w x H (.dat d) M (Wd.le.refl w) h2 s q⟩
theorem oj_ixM {i : Nat} {xs : List PyData} {k : Int} {d : PyData} (hi : M i = some xs) (e : atI xs k = some d) (q : Q (.dat d) M) : OJ K (rIxLT K) (.cel i) (.dat (.int k)) M Q := fun w H u v s r1 r2 R c => by
  cases (show Dp K w.F v (.int k) from r2)
  obtain ⟨a, vs, h1, h2, h3, h4⟩ := s.cell i xs hi
  obtain ⟨b, hb, rfl⟩ := r1
  rw [hb] at h1
  cases h1
  obtain ⟨x, k1, k2⟩ := atI_dp h4 e
  exact .inl ⟨a, vs, k, x, rfl, rfl, SqL.of h3, k1, c w x H (.dat d) M (Wd.le.refl w) k2 s q⟩
theorem oj_inD {d : PyData} {xs : List PyData} {b : Bool} (hd : SeqAt.shaped d = true) (he : SeqAt.shaped (.list xs) = true) (hb : (xs.any fun z => PyData.eqv z d) = b) (q : Q (.dat (.bool b)) M) : OJ K (rInD K) (.dat d) (.dat (.list xs)) M Q := fun w H u v s r1 r2 R c =>
  ⟨d, xs, s.dp r1, s.dp r2, hd, he, by rw [hb]; exact c w _ H (.dat (.bool _)) M (Wd.le.refl w) (show Dp K _ _ _ from .bl _) s q⟩
theorem oj_ninD {d : PyData} {xs : List PyData} {b : Bool} (hd : SeqAt.shaped d = true) (he : SeqAt.shaped (.list xs) = true) (hb : (xs.any fun z => PyData.eqv z d) = b) (q : Q (.dat (.bool (!b))) M) : OJ K (rNotInD K) (.dat d) (.dat (.list xs)) M Q := fun w H u v s r1 r2 R c =>
  ⟨d, xs, s.dp r1, s.dp r2, hd, he, by rw [hb]; exact c w _ H (.dat (.bool _)) M (Wd.le.refl w) (show Dp K _ _ _ from .bl _) s q⟩
theorem oj_cat {i j : Nat} {xs ys : List PyData} (hi : M i = some xs) (hj : M j = some ys) (hz : xs.length + ys.length ≤ 100000) (q : ∀ k, M k = none → Q (.cel k) (put M k (xs ++ ys))) : OJ K rCat (.cel i) (.cel j) M Q := fun w H u v s r1 r2 R c => by
  obtain ⟨a, vs, h1, h2, h3, h4⟩ := s.cell i xs hi
  obtain ⟨b, us, k1, k2, k3, k4⟩ := s.cell j ys hj
  obtain ⟨a', ha, rfl⟩ := r1
  obtain ⟨b', hb, rfl⟩ := r2
  rw [ha] at h1
  cases h1
  rw [hb] at k1
  cases k1
  refine ⟨a, b, vs, us, rfl, rfl, h3, k3, Nat.le_trans (by rw [h4.len, k4.len]; exact hz) (by decide), fun p hp => ?_⟩
  obtain ⟨k, c', hk, le, hc, s2⟩ := s.newCell hp (h4.app k4)
  exact c _ _ _ (.cel k) _ le ⟨p, hc, rfl⟩ s2 (q k hk)
theorem DpAll_rep {F : Hp} {vs : List V} {xs : List PyData} (h : DpAll K F vs xs) : ∀ n : Nat, DpAll K F (List.replicate n vs).flatten (List.replicate n xs).flatten
  | 0 => .nil
  | n + 1 => by
    simp only [List.replicate_succ, List.flatten_cons]
    exact h.app (DpAll_rep h n)
theorem oj_rep {i : Nat} {xs : List PyData} {n : Nat} (hi : M i = some xs) (hn : n ≤ 1000) (hx : xs.length ≤ 1000) (q : Q (.dat (.list (List.replicate n xs).flatten)) M) : OJ K rRep (.cel i) (.dat (.int (n : Nat))) M Q := fun w H u v s r1 r2 R c => by
  cases (show Dp K w.F v (.int n) from r2)
  obtain ⟨a, vs, h1, h2, h3, h4⟩ := s.cell i xs hi
  obtain ⟨a', ha, rfl⟩ := r1
  rw [ha] at h1
  cases h1
  refine ⟨a, n, vs, rfl, rfl, h3, by omega, by omega, ?_, fun p hp => ?_⟩
  · have : vs.length * n ≤ 1000 * 1000 := Nat.mul_le_mul (by rw [h4.len]; exact hx) hn
    exact Nat.le_trans this (by decide)
  · obtain ⟨le, s2⟩ := s.new (o := .lst (List.replicate (n : Int).toNat vs).flatten) hp
    exact c _ _ _ (.dat (.list _)) M le (show Dp K _ _ _ from .lst (SqL.of upd_same) (dpAll_mono le.F _ _ (DpAll_rep h4 n))) s2 q

/-! ### calls -/
theorem cj_lenL {xs : List PyData} (q : Q (.dat (.int (xs.length : Nat))) M) : CJ K (rLenLT K) [.dat (.list xs)] M Q := fun w H us s r R c => by
  obtain ⟨v, rfl, rv⟩ := r.c1
  obtain ⟨a, vs, rfl, hs, ha⟩ := s.seqL rv
  refine ⟨a, vs, rfl, .inl hs, ?_⟩
  rw [ha.len]
  exact c w _ H (.dat (.int _)) M (Wd.le.refl w) (show Dp K _ _ _ from .int _) s q
theorem cj_lenT {xs : List PyData} (q : Q (.dat (.int (xs.length : Nat))) M) : CJ K (rLenLT K) [.dat (.tuple xs)] M Q := fun w H us s r R c => by
  obtain ⟨v, rfl, rv⟩ := r.c1
  obtain ⟨a, vs, rfl, hs, ha⟩ := s.seqT rv
  refine ⟨a, vs, rfl, .inr hs, ?_⟩
  rw [ha.len]
  exact c w _ H (.dat (.int _)) M (Wd.le.refl w) (show Dp K _ _ _ from .int _) s q
theorem cj_lenM {i : Nat} {xs : List PyData} (hi : M i = some xs) (q : Q (.dat (.int (xs.length : Nat))) M) : CJ K (rLenLT K) [.cel i] M Q := fun w H us s r R c => by
  obtain ⟨v, rfl, b, hb, rfl⟩ := r.c1
  obtain ⟨a, vs, h1, h2, h3, h4⟩ := s.cell i xs hi
  rw [hb] at h1
  obtain rfl : b = a := Option.some.inj h1
  refine ⟨b, vs, rfl, .inl (SqL.of h3), ?_⟩
  rw [h4.len]
  exact c w _ H (.dat (.int _)) M (Wd.le.refl w) (show Dp K _ _ _ from .int _) s q
theorem cj_sumL {ns : List Int} (q : Q (.dat (.int ns.sum)) M) : CJ K (rSumLT K) [.dat (.list (ns.map PyData.int))] M Q := fun w H us s r R c => by
  obtain ⟨v, rfl, rv⟩ := r.c1
  obtain ⟨a, vs, rfl, hs, ha⟩ := s.seqL rv
  rw [ha.ints] at hs
  exact .inl ⟨a, ns, rfl, hs, c w _ H (.dat (.int _)) M (Wd.le.refl w) (show Dp K _ _ _ from .int _) s q⟩
theorem cj_sumM {i : Nat} {ns : List Int} (hi : M i = some (ns.map PyData.int)) (q : Q (.dat (.int ns.sum)) M) : CJ K (rSumLT K) [.cel i] M Q := fun w H us s r R c => by
  obtain ⟨v, rfl, b, hb, rfl⟩ := r.c1
  obtain ⟨a, vs, h1, h2, h3, h4⟩ := s.cell i _ hi
  rw [hb] at h1
  obtain rfl : b = a := Option.some.inj h1
  rw [h4.ints] at h3
  exact .inl ⟨b, ns, rfl, SqL.of h3, c w _ H (.dat (.int _)) M (Wd.le.refl w) (show Dp K _ _ _ from .int _) s q⟩
theorem cj_sumT {ns : List Int} (q : Q (.dat (.int ns.sum)) M) : CJ K (rSumLT K) [.dat (.tuple (ns.map PyData.int))] M Q := fun w H us s r R c => by
  obtain ⟨v, rfl, rv⟩ := r.c1
  obtain ⟨a, vs, rfl, hs, ha⟩ := s.seqT rv
  rw [ha.ints] at hs
  exact .inr ⟨a, ns, rfl, hs, c w _ H (.dat (.int _)) M (Wd.le.refl w) (show Dp K _ _ _ from .int _) s q⟩
theorem cj_int {i : Int} (q : Q (.dat (.int i)) M) : CJ K rInt1 [.dat (.int i)] M Q := fun w H us s r R c => by
  obtain ⟨v, rfl, rv⟩ := r.c1
  cases (show Dp K w.F v (.int i) from rv)
  exact .inl ⟨i, rfl, c w _ H (.dat (.int _)) M (Wd.le.refl w) (show Dp K _ _ _ from .int _) s q⟩
theorem cj_intb {b : Bool} (q : Q (.dat (.int (if b then 1 else 0))) M) : CJ K rInt1 [.dat (.bool b)] M Q := fun w H us s r R c => by
  obtain ⟨v, rfl, rv⟩ := r.c1
  cases (show Dp K w.F v (.bool b) from rv)
  exact .inr ⟨b, rfl, c w _ H (.dat (.int _)) M (Wd.le.refl w) (show Dp K _ _ _ from .int _) s q⟩
theorem cj_max {i j : Int} (q : Q (.dat (.int (max i j))) M) : CJ K rMx2 [.dat (.int i), .dat (.int j)] M Q := fun w H us s r R c => by
  obtain ⟨v, u, rfl, rv, ru⟩ := r.c2
  cases (show Dp K w.F v (.int i) from rv)
  cases (show Dp K w.F u (.int j) from ru)
  have e : (if j > i then j else i) = max i j := by
    by_cases h : j > i
    · rw [if_pos h]; omega
    · rw [if_neg h]; omega
  refine ⟨i, j, rfl, ?_⟩
  rw [e]
  exact c w _ H (.dat (.int _)) M (Wd.le.refl w) (show Dp K _ _ _ from .int _) s q
theorem cj_min {i j : Int} (q : Q (.dat (.int (min i j))) M) : CJ K rMn2 [.dat (.int i), .dat (.int j)] M Q := fun w H us s r R c => by
  obtain ⟨v, u, rfl, rv, ru⟩ := r.c2
  cases (show Dp K w.F v (.int i) from rv)
  cases (show Dp K w.F u (.int j) from ru)
  have e : (if j < i then j else i) = min i j := by
    by_cases h : j < i
    · rw [if_pos h]; omega
    · rw [if_neg h]; omega
  refine ⟨i, j, rfl, ?_⟩
  rw [e]
  exact c w _ H (.dat (.int _)) M (Wd.le.refl w) (show Dp K _ _ _ from .int _) s q
theorem cj_listL {xs : List PyData} (q : ∀ k, M k = none → Q (.cel k) (put M k xs)) : CJ K (rLstOf K) [.dat (.list xs)] M Q := fun w H us s r R c => by
  obtain ⟨v, rfl, rv⟩ := r.c1
  obtain ⟨a, vs, rfl, hs, ha⟩ := s.seqL rv
  refine ⟨a, vs, rfl, .inl hs, fun p hp => ?_⟩
  obtain ⟨k, c', hk, le, hc, s2⟩ := s.newCell hp ha
  exact c _ _ _ (.cel k) _ le ⟨p, hc, rfl⟩ s2 (q k hk)
theorem cj_tupM {i : Nat} {xs : List PyData} (hi : M i = some xs) (q : Q (.dat (.tuple xs)) M) : CJ K (rTupOf K) [.cel i] M Q := fun w H us s r R c => by
  obtain ⟨v, rfl, b, hb, rfl⟩ := r.c1
  obtain ⟨a, vs, h1, h2, h3, h4⟩ := s.cell i xs hi
  rw [hb] at h1
  obtain rfl : b = a := Option.some.inj h1
  refine ⟨b, vs, rfl, .inl ⟨SqL.of h3, fun p hp => ?_⟩⟩
  obtain ⟨le, s2⟩ := s.new (o := .tup vs) hp
  exact c _ _ _ (.dat (.tuple xs)) M le (show Dp K _ _ _ from .tup (SqT.of upd_same) (dpAll_mono le.F _ _ h4)) s2 q
theorem cj_repr {i : Int} (hz : i.natAbs.log2 < 1920) (q : Q (.dat (.str (toString i))) M) : CJ K rReprI [.dat (.int i)] M Q := fun w H us s r R c => by
  obtain ⟨v, rfl, rv⟩ := r.c1
  cases (show Dp K w.F v (.int i) from rv)
  exact ⟨i, rfl, hz, c w _ H (.dat (.str _)) M (Wd.le.refl w) (show Dp K _ _ _ from .str _) s q⟩
def tyName : PyData → String
  | .none => "NoneType"
  | .bool _ => "bool"
  | .int _ => "int"
  | .str _ => "str"
  | .list _ => "list"
  | .tuple _ => "tuple"
  | .dict _ => "dict"
theorem tyX_dp {H : Hp} {v : V} {d : PyData} (h : Dp K H v d) : TyX K H v (.type (tyName d)) := by
  cases h with
  | non => exact .base .non
  | bl b => exact .base (.bl b)
  | int i => exact .base (.int i)
  | str x => exact .base (.str x)
  | lst hs _ =>
    rcases hs with (h | ⟨o, h⟩) | ⟨o, its, n, h1, h2, _⟩
    · exact .base (.lst h)
    · exact .base (.frz h)
    · exact .kList h1 h2
  | tup hs _ =>
    rcases hs with (h | ⟨o, h⟩) | ⟨o, its, n, h1, h2, _⟩
    · exact .base (.tup h)
    · exact .fTuple h
    · exact .kTuple h1 h2
theorem cj_isi {d : PyData} {c : String} {b : Bool} (hk : kitB (tyName d) c = some b) (q : Q (.dat (.bool b)) M) : CJ K (rIsi K) [.dat d, .val (.ty c)] M Q := fun w H us s r R k => by
  obtain ⟨v, u, rfl, rv, ru⟩ := r.c2
  cases (show u = .ty c from ru)
  exact ⟨v, .ty c, .type (tyName d), .type c, b, rfl, .ty c, tyX_dp (s.dp rv), kit_ty hk, k w _ H (.dat (.bool b)) M (Wd.le.refl w) (show Dp K _ _ _ from .bl _) s q⟩
theorem kitB_same (c : String) : kitB c c = some true := by
  unfold kitB
  rw [if_pos (by simp)]
theorem kitB_ib : kitB "int" "bool" = some false := by decide +kernel
theorem cj_isi_same {d : PyData} {c : String} (e : tyName d = c) (q : Q (.dat (.bool true)) M) : CJ K (rIsi K) [.dat d, .val (.ty c)] M Q := cj_isi (by rw [e]; exact kitB_same c) q
theorem cj_isi_ib {i : Int} (q : Q (.dat (.bool false)) M) : CJ K (rIsi K) [.dat (.int i), .val (.ty "bool")] M Q := cj_isi kitB_ib q
/-- xs.append(x) -/
theorem ej_append (h : EJ K te ds M fun o M1 => ∃ i, o = .cel i ∧ (M1 i).isSome = true ∧ AJ K tr ds M1 fun zs M2 => ∃ xs x, zs = [.dat x] ∧ M2 i = some xs ∧ xs.length < 100000 ∧ Q (.dat .none) (put M2 i (xs ++ [x]))) : EJ K (tBM K "list" rAppend te tr) ds M Q := fun w σ H s sl R c =>
  h w σ H s sl _ fun w1 u H1 od M1 e1 r1 s1 h1 => by
    obtain ⟨i, rfl, hs, h1⟩ := h1
    obtain ⟨ys, hy⟩ := Option.isSome_iff_exists.mp hs
    obtain ⟨a, us, j1, j2, j3, j4⟩ := s1.cell i ys hy
    obtain ⟨b, hb, rfl⟩ := r1
    rw [hb] at j1
    cases j1
    refine ⟨.inl ⟨rfl, _, SqL.of j3⟩, ?_⟩
    refine h1 w1 σ H1 s1 (sl.mono e1) _ fun w2 us H2 zs M2 e2 r2 s2 h2 => ?_
    obtain ⟨xs, x, rfl, hi, hz, q⟩ := h2
    obtain ⟨v, rfl, rv⟩ := r2.c1
    obtain ⟨a', vs, k1, k2, k3, k4⟩ := s2.cell i xs hi
    have hb2 := e2.c i a hb
    rw [hb2] at k1
    cases k1
    exact ⟨a, vs, v, rfl, rfl, k3, Nat.lt_of_lt_of_le (by rw [k4.len]; exact hz) (by decide), c w2 .non _ (.dat .none) _ (e1.trans e2) (show Dp K _ _ _ from .non) (s2.write hi hb2 (k4.app (.cons rv .nil))) q⟩
/-- xs.index(x), xs a written list -/
theorem ej_index (h : EJ K te ds M fun o M1 => ∃ xs, o = .dat (.list xs) ∧ AJ K tr ds M1 fun zs M2 => ∃ (x : PyData) (j : Nat) (z : PyData), zs = [.dat x] ∧ SeqAt.shaped (.list xs) = true ∧ SeqAt.shaped x = true ∧ xs[j]? = some z ∧ PyData.eqv z x = true ∧
    (∀ (m : Nat) (z' : PyData), m < j → xs[m]? = some z' → PyData.eqv z' x = false) ∧ Q (.dat (.int (j : Nat))) M2) : EJ K (tBM K "list" (rIndexD K) te tr) ds M Q := fun w σ H s sl R c =>
  h w σ H s sl _ fun w1 u H1 od M1 e1 r1 s1 h1 => by
    obtain ⟨xs, rfl, h1⟩ := h1
    have hd := s1.dp r1
    obtain ⟨a, vs, rfl, hs, ha⟩ := s1.seqL r1
    refine ⟨.inl ⟨rfl, _, hs⟩, ?_⟩
    refine h1 w1 σ H1 s1 (sl.mono e1) _ fun w2 us H2 zs M2 e2 r2 s2 h2 => ?_
    obtain ⟨x, j, z, rfl, sx, sz, hj, hz, hno, q⟩ := h2
    obtain ⟨v, rfl, rv⟩ := r2.c1
    exact ⟨a, v, x, xs, j, z, rfl, rfl, s2.dp (RelD.mono e2 r1), s2.dp rv, sx, sz, hj, hz, hno, c w2 _ _ (.dat (.int _)) _ (e1.trans e2) (show Dp K _ _ _ from .int _) s2 q⟩

/-! ### slices -/
theorem pj_none {Q : Option Int → Ms → Prop} (q : Q none M) : PJ K tNoPart ds M Q := fun w σ H s sl R c => c w none H M (Wd.le.refl w) s q
theorem pj_some {Q : Option Int → Ms → Prop} (h : EJ K te ds M fun d M1 => ∃ i, d = .dat (.int i) ∧ Q (some i) M1) : PJ K (tPart te) ds M Q := fun w σ H s sl R c =>
  h w σ H s sl _ fun w1 u H1 od M1 e1 r1 s1 h1 => by
    obtain ⟨i, rfl, q⟩ := h1
    cases (show Dp K w1.F u (.int i) from r1)
    exact ⟨i, rfl, c w1 _ H1 M1 e1 s1 q⟩
/-- the first n of a list -/
theorem ej_headL {tl th : TO} (h : EJ K te ds M fun d M1 => ∃ xs, d = .dat (.list xs) ∧ PJ K tl ds M1 fun lo M2 => lo = none ∧ PJ K th ds M2 fun hi M3 => ∃ n : Nat, hi = some (n : Int) ∧ Q (.dat (.list (xs.take n))) M3) : EJ K (tSl (rSlL K) te tl th) ds M Q := fun w σ H s sl R c =>
  h w σ H s sl _ fun w1 u H1 od M1 e1 r1 s1 h1 => by
    obtain ⟨xs, rfl, h1⟩ := h1
    refine h1 w1 σ H1 s1 (sl.mono e1) _ fun w2 lo H2 M2 e2 s2 h2 => ?_
    obtain ⟨rfl, h2⟩ := h2
    refine h2 w2 σ H2 s2 (sl.mono (e1.trans e2)) _ fun w3 hi H3 M3 e3 s3 h3 => ?_
    obtain ⟨n, rfl, q⟩ := h3
    obtain ⟨a, vs, rfl, hs, ha⟩ := s3.seqL (RelD.mono (e2.trans e3) r1)
    refine ⟨a, vs, rfl, hs, fun p hp => ?_⟩
    obtain ⟨le, s4⟩ := s3.new (o := .lst (cutV vs none (some (n : Int)))) hp
    have e : cutV vs none (some (n : Int)) = vs.take n := by
      unfold cutV
      rw [HT.sIx_none, HT.sIx_nat, List.drop_zero, Nat.sub_zero]
      by_cases hn : n ≤ vs.length
      · rw [Nat.min_eq_left hn]
      · rw [Nat.min_eq_right (by omega), List.take_of_length_le (by omega), List.take_of_length_le (by omega)]
    refine c _ _ _ (.dat (.list (xs.take n))) M3 (((e1.trans e2).trans e3).trans le) (show Dp K _ _ _ from .lst (SqL.of upd_same) (dpAll_mono le.F _ _ ?_)) s4 q
    rw [e]
    exact ha.tk n
/-- the first n of a tuple, not all -/
theorem ej_headT {tl th : TO} (h : EJ K te ds M fun d M1 => ∃ xs, d = .dat (.tuple xs) ∧ PJ K tl ds M1 fun lo M2 => lo = none ∧ PJ K th ds M2 fun hi M3 => ∃ n : Nat, hi = some (n : Int) ∧ n < xs.length ∧ Q (.dat (.tuple (xs.take n))) M3) : EJ K (tSl (rSlT K) te tl th) ds M Q := fun w σ H s sl R c =>
  h w σ H s sl _ fun w1 u H1 od M1 e1 r1 s1 h1 => by
    obtain ⟨xs, rfl, h1⟩ := h1
    refine h1 w1 σ H1 s1 (sl.mono e1) _ fun w2 lo H2 M2 e2 s2 h2 => ?_
    obtain ⟨rfl, h2⟩ := h2
    refine h2 w2 σ H2 s2 (sl.mono (e1.trans e2)) _ fun w3 hi H3 M3 e3 s3 h3 => ?_
    obtain ⟨n, rfl, hn, q⟩ := h3
    obtain ⟨a, vs, rfl, hs, ha⟩ := s3.seqT (RelD.mono (e2.trans e3) r1)
    have hl := ha.len
    refine ⟨a, vs, rfl, hs, ?_, fun p hp => ?_⟩
    · rw [HT.sIx_nat]
      intro z
      omega
    obtain ⟨le, s4⟩ := s3.new (o := .tup (cutV vs none (some (n : Int)))) hp
    have e : cutV vs none (some (n : Int)) = vs.take n := by
      unfold cutV
      rw [HT.sIx_none, HT.sIx_nat, List.drop_zero, Nat.sub_zero, Nat.min_eq_left (by omega)]
    refine c _ _ _ (.dat (.tuple (xs.take n))) M3 (((e1.trans e2).trans e3).trans le) (show Dp K _ _ _ from .tup (SqT.of upd_same) (dpAll_mono le.F _ _ ?_)) s4 q
    rw [e]
    exact ha.tk n
end

section
variable {K : PySem.W.Frag} {ds : Ds} {M : Ms} {Q : D → Ms → Prop} {ta tb te : TE} {tr : TA}
/-! ### comprehensions that change nothing: outs tells of each item what it gives -/
theorem ej_lc_cell {wi : TI} {g : TG} {tt : TT} {ix : List Nat} (h : IJ K wi ds M fun its M1 => ∃ outs : List (Option PyData), outs.length = its.length ∧ its.length ≤ 10000 ∧
    (∀ (i : Nat) (d : PyData) (o : Option PyData), its[i]? = some d → outs[i]? = some o → LJ K ix g (.dat d) (wipeD ds ix) fun ds2 => ∀ M' : Ms, TJ K tt ds2 M' fun b M3 => M3 = M' ∧ b = o.isSome ∧ ∀ y, o = some y → EJ K te ds2 M' fun z M4 => z = .dat y ∧ M4 = M') ∧
    ∀ k, M1 k = none → Q (.cel k) (put M1 k (outs.filterMap id))) : EJ K (tLc wi g tt te ix) ds M Q := by
  refine ej_lc fun w σ H s sl R c => h w σ H s sl R fun w' J H' its M1 e s' ok q => c w' J H' its M1 e s' ok fun k hk => ?_
  obtain ⟨outs, hl, hz, turn, fin⟩ := q
  refine ⟨fun i M' => M' = put M1 k ((outs.take i).filterMap id), rfl, fun i d M' hd hM => ?_, fun M' hM => ?_⟩
  · subst hM
    have hi : i < outs.length := by rw [hl]; exact (List.getElem?_eq_some_iff.mp hd).1
    have ho : outs[i]? = some outs[i] := List.getElem?_eq_getElem hi
    have et : outs.take (i + 1) = outs.take i ++ [outs[i]] := by rw [List.take_add_one, ho]; rfl
    intro w2 v σ2 H2 M2 s2 sl2 r2 R2 c2
    refine turn i d outs[i] hd ho w2 v σ2 H2 M2 s2 sl2 r2 R2 fun σ3 ds3 sl3 ew q3 => c2 σ3 ds3 sl3 ew ((q3 _).imp fun b M3 hb => ?_)
    obtain ⟨rfl, rfl, hy⟩ := hb
    refine ⟨fun hb => ?_, fun hb => ?_⟩
    · obtain ⟨y, ey⟩ := Option.isSome_iff_exists.mp hb
      refine (hy y ey).imp fun z M4 hz' => ?_
      obtain ⟨rfl, rfl⟩ := hz'
      refine ⟨y, _, rfl, put_same _ _ _, ?_, ?_⟩
      · have h1 : ((outs.take i).filterMap id).length ≤ (outs.take i).length := List.length_filterMap_le _ _
        have h2 : (outs.take i).length ≤ i := by rw [List.length_take]; exact Nat.min_le_left _ _
        omega
      · show put (put M1 k _) k _ = put M1 k ((outs.take (i + 1)).filterMap id)
        rw [put_put, et, List.filterMap_append, ey]
        rfl
    · have en : outs[i] = none := by
        cases e : outs[i] with
        | none => rfl
        | some y => rw [e] at hb; cases hb
      show put M1 k _ = put M1 k ((outs.take (i + 1)).filterMap id)
      rw [et, List.filterMap_append, en]
      simp
  · have hM' : M' = put M1 k ((outs.take its.length).filterMap id) := hM
    rw [hM', ← hl, List.take_length]
    exact fin k hk
theorem ej_lc_dat {wi : TI} {g : TG} {tt : TT} {ix : List Nat} (h : IJ K wi ds M fun its M1 => ∃ outs : List (Option PyData), outs.length = its.length ∧ its.length ≤ 10000 ∧
    (∀ (i : Nat) (d : PyData) (o : Option PyData), its[i]? = some d → outs[i]? = some o → LJ K ix g (.dat d) (wipeD ds ix) fun ds2 => ∀ M' : Ms, TJ K tt ds2 M' fun b M3 => M3 = M' ∧ b = o.isSome ∧ ∀ y, o = some y → EJ K te ds2 M' fun z M4 => z = .dat y ∧ M4 = M') ∧
    Q (.dat (.list (outs.filterMap id))) M1) : EJ K (tLc wi g tt te ix) ds M Q := by
  refine ej_freeze (ej_lc_cell fun w σ H s sl R c => h w σ H s sl R fun w' J H' its M1 e s' ok q => c w' J H' its M1 e s' ok ?_)
  obtain ⟨outs, hl, hz, turn, fin⟩ := q
  exact ⟨outs, hl, hz, turn, fun k hk => ⟨k, _, rfl, put_same _ _ _, by rw [del_put hk]; exact fin⟩⟩
/-- nothing passes the test -/
theorem ej_lc_none {wi : TI} {g : TG} {tt : TT} {ix : List Nat} (h : IJ K wi ds M fun its M1 => its.length ≤ 10000 ∧
    (∀ (i : Nat) (d : PyData), its[i]? = some d → LJ K ix g (.dat d) (wipeD ds ix) fun ds2 => ∀ M' : Ms, TJ K tt ds2 M' fun b M3 => M3 = M' ∧ b = false) ∧ Q (.dat (.list [])) M1) : EJ K (tLc wi g tt te ix) ds M Q := by
  refine ej_lc_dat fun w σ H s sl R c => h w σ H s sl R fun w' J H' its M1 e s' ok q => c w' J H' its M1 e s' ok ?_
  obtain ⟨hz, turn, fin⟩ := q
  refine ⟨List.replicate its.length none, by simp, hz, fun i d o hd ho => ?_, ?_⟩
  · have e : o = none := by
      rw [List.getElem?_replicate] at ho
      split at ho <;> first | exact (Option.some.inj ho).symm | cases ho
    subst e
    intro w2 v σ2 H2 M2 s2 sl2 r2 R2 c2
    refine turn i d hd w2 v σ2 H2 M2 s2 sl2 r2 R2 fun σ3 ds3 sl3 ew q3 => c2 σ3 ds3 sl3 ew fun M' => (q3 M').imp fun b M3 hb => ?_
    exact ⟨hb.1, hb.2, fun y z => nomatch z⟩
  · have e : ∀ n : Nat, (List.replicate n (none : Option PyData)).filterMap id = [] := fun n => by
      induction n with
      | zero => rfl
      | succ n ih => rw [List.replicate_succ, List.filterMap_cons]; exact ih
    rw [e]
    exact fin

end
/-! ### the slots written out -/
section
variable {K : PySem.W.Frag} {ds ds' : Ds} {M : Ms}
theorem sj_ds {t : TS} {P : Pst} (e : ds = ds') (h : SJ K t ds' M P) : SJ K t ds M P := e ▸ h
theorem sj_dsS {t : TS} {P : Pst} {i : Nat} {x : Option D} (e : List.set ds i x = ds') (h : SJ K t ds' M P) : SJ K t (List.set ds i x) M P := e ▸ h
theorem ej_dsS {t : TE} {Q : D → Ms → Prop} {i : Nat} {x : Option D} (e : List.set ds i x = ds') (h : EJ K t ds' M Q) : EJ K t (List.set ds i x) M Q := e ▸ h
theorem tj_dsS {t : TT} {Q : Bool → Ms → Prop} {i : Nat} {x : Option D} (e : List.set ds i x = ds') (h : TJ K t ds' M Q) : TJ K t (List.set ds i x) M Q := e ▸ h
theorem ej_ds {t : TE} {Q : D → Ms → Prop} (e : ds = ds') (h : EJ K t ds' M Q) : EJ K t ds M Q := e ▸ h
theorem tj_ds {t : TT} {Q : Bool → Ms → Prop} (e : ds = ds') (h : TJ K t ds' M Q) : TJ K t ds M Q := e ▸ h
end
/-! ### which word a goal is -/
section
variable {K : PySem.W.Frag} {ds : Ds} {M : Ms}
theorem isSJ {t : TS} {P : Pst} (h : SJ K t ds M P) : SJ K t ds M P := h
theorem isEJ {t : TE} {Q : D → Ms → Prop} (h : EJ K t ds M Q) : EJ K t ds M Q := h
theorem isVar {i : Nat} {Q : D → Ms → Prop} (h : EJ K (tVar i) ds M Q) : EJ K (tVar i) ds M Q := h
theorem isTC {v : V} {Q : D → Ms → Prop} (h : EJ K (tC v) ds M Q) : EJ K (tC v) ds M Q := h
theorem isAJ {t : TA} {Q : List D → Ms → Prop} (h : AJ K t ds M Q) : AJ K t ds M Q := h
theorem isTJ {t : TT} {Q : Bool → Ms → Prop} (h : TJ K t ds M Q) : TJ K t ds M Q := h
theorem isOJ {r : R2} {x y : D} {Q : D → Ms → Prop} (h : OJ K r x y M Q) : OJ K r x y M Q := h
theorem isIx {x y : D} {Q : D → Ms → Prop} (h : OJ K (rIxLT K) x y M Q) : OJ K (rIxLT K) x y M Q := h
theorem isCJ {r : List V → Hp → VK → Prop} {xs : List D} {Q : D → Ms → Prop} (h : CJ K r xs M Q) : CJ K r xs M Q := h
theorem isGJ {g : TG} {x : D} {N : Ds → Ms → Prop} (h : GJ K g x ds M N) : GJ K g x ds M N := h
theorem isGs {g : TGs} {xs : List D} {N : Ds → Ms → Prop} (h : GsJ K g xs ds M N) : GsJ K g xs ds M N := h
theorem isLJ {ix : List Nat} {g : TG} {x : D} {N : Ds → Prop} (h : LJ K ix g x ds N) : LJ K ix g x ds N := h
theorem isLs {ix : List Nat} {g : TGs} {xs : List D} {N : Ds → Prop} (h : LsJ K ix g xs ds N) : LsJ K ix g xs ds N := h
theorem isIJ {wi : TI} {Q : List PyData → Ms → Prop} (h : IJ K wi ds M Q) : IJ K wi ds M Q := h
end
/-! ### tests whose answer is known -/
theorem brT {b : Bool} {A B : Prop} (h : b = true) (a : A) : (b = true → A) ∧ (b = false → B) := ⟨fun _ => a, fun h' => absurd (h.symm.trans h') (by decide)⟩
theorem brF {b : Bool} {A B : Prop} (h : b = false) (a : B) : (b = true → A) ∧ (b = false → B) := ⟨fun h' => absurd (h.symm.trans h') (by decide), fun _ => a⟩
theorem brD {p : Prop} [Decidable p] {A B : Prop} (a : p → A) (b : ¬ p → B) : (decide p = true → A) ∧ (decide p = false → B) := ⟨fun h => a (of_decide_eq_true h), fun h => b (of_decide_eq_false h)⟩
theorem brN {p : Prop} [Decidable p] {A B : Prop} (a : p → B) (b : ¬ p → A) : ((!decide p) = true → A) ∧ ((!decide p) = false → B) :=
  ⟨fun h => b (fun hp => by rw [decide_eq_true hp] at h; cases h), fun h => a (by
    by_cases hp : p
    · exact hp
    · rw [decide_eq_false hp] at h
      cases h)⟩

/-! ### defs -/
def startD (n : Nat) (xs : List D) : Ds := xs.map some ++ List.replicate (n - xs.length) none
section
variable {K : PySem.W.Frag} {P : Program} {w : World} {base : Heap} {mg : Str → Option Value}
theorem slots_start {W : Wd} {N : List Str} {vs : List V} {xs : List D} (r : RelAll K W vs xs) : Slots K W (start N vs) (startD N.length xs) := by
  have hl := r.len
  refine ⟨by unfold L2.start startD; simp [hl], fun i d h => ?_⟩
  unfold startD at h
  by_cases hi : i < xs.length
  · rw [List.getElem?_append_left (by simpa using hi), List.getElem?_map] at h
    cases e : xs[i]? with
    | none =>
      rw [e] at h
      cases h
    | some x =>
      rw [e] at h
      cases h
      obtain ⟨v, h1, h2⟩ := r.get e
      refine ⟨v, ?_, h2⟩
      unfold L2.start
      rw [List.getElem?_append_left (by simpa [hl] using hi), List.getElem?_map, h1]
      rfl
  · rw [List.getElem?_append_right (by simpa using hi), List.getElem?_replicate] at h
    split at h <;> cases h
/-- a def keeps its promise: its body's term and what that does to abstract states -/
theorem fnA {x qual : Str} {st : Stmt} {f : Addr} {fd : FuncData} {N ps : List Str} {k n : Nat} {T : TF} (F : Fun K x qual st f fd) (S : FnScope N ps (defScope st)) (hn : n = ps.length)
    (hbody : ∀ (cdv : Value) (A : Around) (outer : List Env) (s : Shared) (H : Hp) (E : XK), Room k (A.deeper (envOfC qual (defScope st) s.heap.objs.size f cdv)) →
      ∃ t, PSs (cxOf CX0 P w K mg base N qual (defScope st) f cdv A outer s H E).nox (defBody st) t ∧ ∀ (xs : List D) (M : Ms) (Q : D → Ms → Prop), xs.length = n → T xs M Q → SJ K t (startD N.length xs) M ⟨fun _ M' => Q (.dat .none) M', Q, fun _ _ => False, fun _ _ => False⟩) :
    FnOk P w K mg base CX0 (k + 1) f fd ps (spA K n T) := by
  refine F.ok S (fun vs H Q E h => ?_) (fun cdv A outer s H vs Q E hr h => ?_)
  · obtain ⟨w, M, xs, Q', _, r, hl, _⟩ := h
    rw [r.len, hl, hn]
  · obtain ⟨t, ht, hq⟩ := hbody cdv A outer s H E hr
    obtain ⟨W, M, xs, Q', sH, r, hl, hT, c⟩ := h
    refine ⟨t, ht, ?_⟩
    refine hq xs M Q' hl hT W (start N vs) H sH (slots_start r) _ (fun w' σ' H' ds' M' le s' sl' q => ?_) (fun w' v H' d M' le r' s' q => ?_) (fun _ _ _ _ _ _ _ _ q => q.elim) (fun _ _ _ _ _ _ _ _ q => q.elim)
    · exact c w' .non H' (.dat .none) M' le (show Dp K _ _ _ from .non) s' q
    · exact c w' v H' d M' le r' s' q
end
end DL

/-! Rules of the machine that the hand layer lacks: pairs compared, enumerate of a tuple. -/
namespace PySem
open Sem (wp)
open AutoSeq1 (wpAny_loadPart')
theorem dl_enum_newT (a : Addr) (items : Array Value) (n : Nat) (dct : Option Addr) (sl : Array (Option Value)) :
    Meets (Builtin.«enumerate.__new__» ⟨[.type "enumerate", .ref a], []⟩) (fun _ R s => s.heap.get? a = some { cls := .type "tuple", dict := dct, data := .seq items n, slots := sl } ∧
      R (.ok (.ret (.ref (s.heap.push { cls := .type "tuple_iterator", data := .fields #[.ref a, .int 0 0] }).objs.size)))
        { s with heap := (s.heap.push { cls := .type "tuple_iterator", data := .fields #[.ref a, .int 0 0] }).push { cls := .type "enumerate", data := .fields #[.none, .bool false, .ref s.heap.objs.size, rawInt 0, .none, .none] } }) := .of_wp fun prog w A R s h => by
    obtain ⟨hp, g, d, tk, os⟩ := s
    obtain ⟨ht, h⟩ := h
    have f1 := sub_enumerate
    have hT : Heap.IsTuple (Shared.heap ⟨hp, g, d, tk, os⟩) a items := ⟨_, ht, rfl, n, rfl⟩
    wp_walk using wpAny_loadPart' ht
    refine wpAny_stack_any fun st => wpAny_pure ?_
    split
    · rename_i c _ _ _ _ _
      cases (c == Value.type "enumerate") <;> (wp_walk using wpAny_loadPart' ht, wpAny_pyIter_tuple hT; exact ⟨_, rfl, h⟩)
    · wp_walk using wpAny_loadPart' ht, wpAny_pyIter_tuple hT
      exact ⟨_, rfl, h⟩
theorem dl_call_enumT {prog : Program} {w : World} {A : Around} {E : Value → Shared → Prop} {s : Shared} {a : Addr} {items : Array Value} {Q : Value → Shared → Prop} (hT : s.heap.IsTuple a items)
    (h : ∀ h', IsEnum h' (s.heap.objs.size + 1) s.heap.objs.size 0 .none → h'.IsTupleIter s.heap.objs.size a 0 → (∀ b o, s.heap.get? b = some o → h'.get? b = some o) → Q (.ref (s.heap.objs.size + 1)) { s with heap := h' }) :
    wpAny (model prog w) A (call (.type "enumerate") [.ref a]) Q E s := by
  obtain ⟨⟨c, dct, dt, sl⟩, ht, hc, n, hd⟩ := hT
  obtain rfl : c = .type "tuple" := hc
  obtain rfl : dt = .seq items n := hd
  refine callType_new F.called_enumerate (by decide) (F.typeCall_enumerate_1 _) (F.newCall_enumerate_1 _) (fun ob => F.args_object_init_2 ob _) F.entry_enumerate_new (dl_enum_newT a items n dct sl) ⟨ht, ?_⟩
  generalize hit : ({ cls := .type "tuple_iterator", data := .fields #[.ref a, .int 0 0] } : Obj) = ob
  have hz : (s.heap.push ob).objs.size = s.heap.objs.size + 1 := Heap.size_push ..
  have he : IsEnum ((s.heap.push ob).push { cls := .type "enumerate", data := .fields #[.none, .bool false, .ref s.heap.objs.size, rawInt 0, .none, .none] }) (s.heap.objs.size + 1) s.heap.objs.size 0 .none := by
    have q := Heap.get?_push_size (s.heap.push ob) (o := { cls := .type "enumerate", data := .fields #[.none, .bool false, .ref s.heap.objs.size, rawInt 0, .none, .none] }) rfl
    rw [hz] at q
    exact q
  show _ ∧ _
  rw [hz]
  refine ⟨⟨_, he, rfl⟩, h _ he ?_ fun b o x => Heap.get?_push_of_some _ (Heap.get?_push_of_some _ x)⟩
  subst hit
  exact ⟨_, Heap.get?_push_of_some _ (Heap.get?_push_size _ rfl), rfl, rfl⟩
end PySem

namespace DL
open PySem PySem.Spec PyProof.Rows L2
/-- enumerate of the tuple at a, each item in a new pair -/
def IteT (K : PySem.W.Frag) (a : Addr) : It :=
  ⟨fun i H => ∃ (xs : List V) (x : V), SqT K H a xs ∧ xs[i]? = some x, fun i H v H' => ∃ T x, v = .ref T ∧ H T = none ∧ H' = upd H T (.tup [.int (i : Nat), x]) ∧ ∀ xs, SqT K H a xs → xs[i]? = some x, fun i H => ∃ xs : List V, SqT K H a xs ∧ xs.length = i⟩
theorem turn_enumT {P : Program} {w : World} {K : PySem.W.Frag} {elts : List Expr} {kk : Nat} {tpos : Pos} (a e it : Addr) :
    Turn P w K (.Tuple elts kk tpos) (IteT K a) [e, it] e (fun i h => (∃ was, IsEnum h e it ((i : Nat) : Int) was) ∧ h.IsTupleIter it a i ∧ e ≠ it) where
  mem := by simp
  obj := fun i h stt b hb => by
    obtain ⟨⟨was, en⟩, ⟨o, ho, hc, hd⟩, _⟩ := stt
    rcases (show b = e ∨ b = it by simpa using hb) with z | z
    · rw [z]
      exact ⟨_, en, fun v q => nomatch q⟩
    · rw [z]
      exact ⟨o, ho, fun v q => by rw [hd] at q; cases q⟩
  keep := fun i h h' stt k => let ⟨⟨was, en⟩, hi, apart⟩ := stt; ⟨⟨was, k e (by simp) _ en⟩, hi.at fun o q => k it (by simp) o q, apart⟩
  item := by
    intro X hP hw hK hc i pins s σ H E I hf stt hg
    subst hP hw hK
    obtain ⟨⟨was, en⟩, atIt, apart⟩ := stt
    obtain ⟨xs, x, sq, nx0⟩ := hg
    obtain ⟨its, rl, p, hz⟩ := I.tuple sq
    obtain ⟨u, nu, rlu⟩ := rl.get nx0
    have eLt : e < s.heap.objs.size := Heap.lt_size en
    have iLt : it < s.heap.objs.size := by obtain ⟨_, q, _⟩ := atIt; exact Heap.lt_size q
    have tupT : s.heap.IsTuple a its.toArray := by
      obtain ⟨o, h1, h2, n, h3⟩ := p
      exact ⟨o, h1, h2, n, h3⟩
    have aNe : a ≠ it := fun z => by
      obtain ⟨o, h1, h2, _⟩ := id tupT
      obtain ⟨o', h3, h4, _⟩ := id atIt
      rw [z, h3] at h1
      cases h1
      rw [h4] at h2
      simp at h2
    have eNe : e ≠ a := fun z => by
      obtain ⟨o, h1, h2, _⟩ := id tupT
      have en' : s.heap.get? e = some _ := en
      rw [z, h1] at en'
      cases en'
      simp at h2
    have iLs : i < its.toArray.size := by
      have q := (List.getElem?_eq_some_iff.mp nu).1
      simpa using q
    refine wpAny_pyNext_enum_itemD (Draws.tuple (prog := X.prog) (w := X.w) (A := X.A.in1) (I.ok.hd hc) it a aNe its.toArray) en ⟨atIt, tupT⟩ iLs apart (by simp; exact ⟨apart, eNe⟩) fun y h' tk hP ho stt2 fr szz hk => ?_
    have yu : y = u := by
      have gotY : its.toArray[i]? = some y := hP
      have nu' : its.toArray[i]? = some u := by simpa using nu
      rw [gotY] at nu'
      exact Option.some.inj nu'
    subst yu
    refine ⟨_, rfl, wpAny_letOwnedTupleGo_enum (s := { s with heap := h', toks := tk + 1 }) ho fun h'' en' kpt => ?_⟩
    have tupA : h''.get? s.heap.objs.size = some { cls := .type "tuple", data := .seq #[.int i tk, y] } := (kpt.2 _ (Nat.ne_of_gt eLt)).trans fr
    have pairOk : ObjOk X.prog X.w (upd H s.heap.objs.size (.tup [.int (i : Nat), x])) h'' s.heap.objs.size (.tup [.int (i : Nat), x]) :=
      ⟨by show 2 ≤ sizeLine; decide, [.int i tk, y], .cons ⟨_, rfl⟩ (.cons rlu .nil), ⟨_, tupA, rfl, _, rfl⟩⟩
    have J1 : Inv X pins σ (upd H s.heap.objs.size (.tup [.int (i : Nat), x])) { s with heap := h'', toks := tk + 1 } :=
      I.turnedNew (ch := [e, it]) (fun b oo hb q => (kpt.2 b (fun z => hb (by simp [z]))).trans (hk b oo (fun z => hb (by simp [z])) (fun z => hb (by simp [z])) q)) hf (Nat.le_refl _) pairOk
    refine ⟨.ref s.heap.objs.size, _, J1, rfl, ⟨_, x, rfl, I.hok.fresh (Nat.le_refl _), rfl, fun ys hy => by rw [I.tuple_inj hy sq]; exact nx0⟩, ⟨⟨y, ?_⟩, stt2.1.at fun o q => (kpt.2 it (Ne.symm apart)).trans q, apart⟩, fun b hb => ?_⟩
    · rw [show ((i + 1 : Nat) : Int) = (i : Int) + 1 by omega]
      exact en'
    · have bLt : b < s.heap.objs.size := by
        rcases (show b = e ∨ b = it by simpa using hb) with z | z
        · rw [z]; exact eLt
        · rw [z]; exact iLt
      rw [upd_ne (Nat.ne_of_lt bLt)]
      exact (hf b hb).1
  done := by
    intro X hP hw hK hc i pins s σ H E I hf stt hg
    subst hP hw hK
    obtain ⟨⟨was, en⟩, atIt, apart⟩ := stt
    obtain ⟨xs, sq, nx0⟩ := hg
    obtain ⟨its, rl, p, hz⟩ := I.tuple sq
    obtain ⟨z0, z1, z2, z3, z4, z5⟩ := hf it (by simp)
    have tupT : s.heap.IsTuple a its.toArray := by
      obtain ⟨o, h1, h2, n, h3⟩ := p
      exact ⟨o, h1, h2, n, h3⟩
    have hi : its.toArray.size = i := by
      rw [List.size_toArray, ← rl.length]
      exact nx0
    have aNe : a ≠ it := fun z => by
      obtain ⟨o, h1, h2, _⟩ := id tupT
      obtain ⟨o', h3, h4, _⟩ := id atIt
      rw [z, h3] at h1
      cases h1
      rw [h4] at h2
      simp at h2
    exact wpAny_pyNext_enum_endD (Draws.tuple (prog := X.prog) (w := X.w) (A := X.A.in1) (I.ok.hd hc) it a aNe its.toArray) en ⟨by rw [hi]; exact atIt, tupT⟩ fun h' eb => ⟨rfl, I.turned (t' := s.toks) (fun b o hb q => eb b o hb q) z0 z1 z3 z4 z5⟩
  self := fun A i s Q E stt h => let ⟨⟨_, en⟩, _⟩ := stt; wpAny_pyIter_enum en h
def iEnumT (K : PySem.W.Frag) (ta : TA) : TI := fun σ H R => ta σ H fun vs H1 => ∃ a xs, vs = [.ref a] ∧ SqT K H1 a xs ∧ R (IteT K a) H1
theorem pi_enumT {X : Cx} {e : Expr} {ta : TA} {p pos tpos : Pos} {elts : List Expr} {kk : Nat} (hg : Gl X "enumerate") (hm : X.mg "enumerate" = none) (ha : PA X [e] ta) (hs : starEach [e] X.env = [(false, eval e X.env)] := by rfl) :
    PI X (.Tuple elts kk tpos) (.Call (.Name "enumerate" p) [e] [] pos) (iEnumT X.K ta) := by
  refine ⟨fun pins s σ H R I h => ?_⟩
  refine Call_ (ld_blt I hg hm boot_enumerate (PyProof.Rows.callWith_type1 (thn (ha.run pos pins s σ H _ I h) fun us s1 ⟨vs, H1, J1, rl1, w1⟩ => ?_) hs rfl))
  obtain ⟨a, xs, evs, sq, q⟩ := w1
  subst evs
  cases rl1 with
  | cons r rr =>
    cases rr
    cases r
    obtain ⟨its, rl, pl, hz⟩ := J1.tuple sq
    have tupT : s1.heap.IsTuple a its.toArray := by
      obtain ⟨o, h1, h2, n, h3⟩ := pl
      exact ⟨o, h1, h2, n, h3⟩
    refine dl_call_enumT tupT fun h' en atIt hk => wpAny_pyIter_enum en ?_
    have J2 : Inv X pins σ H1 { s1 with heap := h' } := J1.kept (t' := s1.toks) hk
    refine ⟨s1.heap.objs.size + 1, [s1.heap.objs.size + 1, s1.heap.objs.size], _, _, H1, rfl, J2, turn_enumT a (s1.heap.objs.size + 1) s1.heap.objs.size, ⟨⟨.none, en⟩, atIt, Nat.succ_ne_self _⟩, fun b hb => ?_, q⟩
    have leB : s1.heap.objs.size ≤ b := by
      rcases (show b = s1.heap.objs.size + 1 ∨ b = s1.heap.objs.size by simpa using hb) with z | z
      · rw [z]; exact Nat.le_add_right _ _
      · rw [z]; exact Nat.le_refl _
    exact J1.fpOk leB (J1.hok.fresh leB)
theorem iok_enumT {K : PySem.W.Frag} {w : Wd} {a : Addr} {vs : List V} {xs : List PyData} (hs : SqT K w.F a vs) (ha : DpAll K w.F vs xs) : IOk K w (IteT K a) (enums 0 xs) where
  goes := fun w' H M i le s hi => by
    rw [enums_length] at hi
    exact ⟨vs, vs[i]'(by rw [ha.len]; exact hi), sqT_mono (le.F.trans s.sub) hs, by simp⟩
  stop := fun w' H M le s => ⟨vs, sqT_mono (le.F.trans s.sub) hs, by rw [enums_length]; exact ha.len⟩
  yld := fun w' H M i d x H' le s hd hy => by
    obtain ⟨T, y, rfl, hT, rfl, hx⟩ := hy
    obtain ⟨z, h0, rfl⟩ := enums_get hd
    obtain ⟨v, h1, h2⟩ := ha.get h0
    have e := hx vs (sqT_mono (le.F.trans s.sub) hs)
    rw [h1] at e
    cases e
    rw [Nat.zero_add]
    exact pair_new s hT (.int _) (dp_mono le.F z _ h2)
theorem ij_enumT {K : PySem.W.Frag} {ds : Ds} {M : Ms} {tr : TA} {Q : List PyData → Ms → Prop} (h : AJ K tr ds M fun xs M1 => ∃ ps, xs = [.dat (.tuple ps)] ∧ Q (enums 0 ps) M1) : IJ K (iEnumT K tr) ds M Q := fun w σ H s sl R c =>
  h w σ H s sl _ fun w1 us H1 xs M1 e1 r1 s1 h1 => by
    obtain ⟨ps, rfl, q⟩ := h1
    obtain ⟨v, rfl, rv⟩ := r1.c1
    cases (show Dp K w1.F v (.tuple ps) from rv) with
    | tup hs ha => exact ⟨_, _, rfl, sqT_mono s1.sub hs, c w1 _ H1 _ M1 e1 s1 (iok_enumT hs ha) q⟩

/-! ### pairs of ints, >= -/
def rGeP (K : PySem.W.Frag) : R2 := fun x y H Q => ∃ (t u : Addr) (a b c d : Int), x = .ref t ∧ y = .ref u ∧ SqT K H t [.int a, .int b] ∧ SqT K H u [.int c, .int d] ∧ Q (.bl (if a = c then decide (d ≤ b) else decide (c ≤ a))) H
theorem eqAt_ii {A : Around} {s : Shared} (a b : Int) (t u : Tok) : SeqAt.EqAt A s (.int a t) (.int b u) (decide (a = b)) := by
  rw [← Bool.beq_eq_decide_eq]
  exact SeqAt.EqAt.int_int _ _ _ _
theorem op_geT {X : Cx} {k : Nat} (hr : Room k X.A) : OpR X (compareOp .GtE) (rGeP X.K) := by
  intro pins s σ H x y v u Q I rx ry h
  obtain ⟨t, u', a, b, c, d, rfl, rfl, h1, h2, q⟩ := h
  cases rx
  cases ry
  obtain ⟨its, r1, p1, _⟩ := I.tuple h1
  obtain ⟨its2, r2, p2, _⟩ := I.tuple h2
  obtain ⟨ta, tb, rfl⟩ := Vals.int2 r1
  obtain ⟨tc, td, rfl⟩ := Vals.int2 r2
  have R := Ob.RcOp.tuples_ge (A := X.A) (s := s) (e := fun j => if j = 0 then decide (a = c) else decide (b = d)) (r := fun j => if j = 0 then decide (c ≤ a) else decide (d ≤ b)) p1 p2 hr.units0
    (fun j h1 h2 => by
      have hj : j = 0 ∨ j = 1 := by
        have h1' : j < 2 := h1
        omega
      rcases hj with rfl | rfl
      · exact eqAt_ii a c ta tc
      · exact eqAt_ii b d tb td)
    (fun j h1 h2 _ => by
      have hj : j = 0 ∨ j = 1 := by
        have h1' : j < 2 := h1
        omega
      rcases hj with rfl | rfl
      · exact Ob.RcOp.ge_int a c ta tc
      · exact Ob.RcOp.ge_int b d tb td)
  have e : Ob.lexAt (fun j => if j = 0 then decide (a = c) else decide (b = d)) (fun j => if j = 0 then decide (c ≤ a) else decide (d ≤ b)) (decide ([Value.int a ta, Value.int b tb].toArray.size ≥ [Value.int c tc, Value.int d td].toArray.size)) 0 (min [Value.int a ta, Value.int b tb].toArray.size [Value.int c tc, Value.int d td].toArray.size) = (if a = c then decide (d ≤ b) else decide (c ≤ a)) := by
    show (if decide (a = c) = true then (if decide (b = d) = true then decide (2 ≥ 2) else decide (d ≤ b)) else decide (c ≤ a)) = _
    by_cases h1 : a = c
    · rw [if_pos (decide_eq_true h1), if_pos h1]
      by_cases h2 : b = d
      · rw [if_pos (decide_eq_true h2), h2]
        simp
      · rw [if_neg (by rw [decide_eq_false h2]; exact Bool.false_ne_true)]
    · rw [if_neg (by rw [decide_eq_false h1]; exact Bool.false_ne_true), if_neg h1]
  rw [e] at R
  exact R X.prog X.w X.xe (EP X pins σ Q) ⟨.bl _, H, I, rfl, q⟩
theorem oj_geP {K : PySem.W.Frag} {M : Ms} {Q : D → Ms → Prop} {a b c d : Int} (q : Q (.dat (.bool (if a = c then decide (d ≤ b) else decide (c ≤ a)))) M) : OJ K (rGeP K) (.dat (.tuple [.int a, .int b])) (.dat (.tuple [.int c, .int d])) M Q := fun w H u v s r1 r2 R k => by
  obtain ⟨t, vs, rfl, hs, ha⟩ := s.seqT r1
  obtain ⟨t', vs', rfl, hs', ha'⟩ := s.seqT r2
  rw [ha.ints (ns := [a, b])] at hs
  rw [ha'.ints (ns := [c, d])] at hs'
  exact ⟨t, t', a, b, c, d, rfl, rfl, hs, hs', k w _ H (.dat (.bool _)) M (Wd.le.refl w) (show Dp K _ _ _ from .bl _) s q⟩
end DL

/-! The rules with the written part named: K as it stands outside a comprehension's block. -/
namespace DL
open PySem PySem.Spec PyProof.Rows L2
section
variable {X : Cx} (K : PySem.W.Frag) {k : Nat}
theorem ixK (h : X.K = K := by rfl) : IxR X (rIxLT K) := h ▸ ix_LT
theorem lenK (h : X.K = K := by rfl) : CallR X (.builtin "len") (rLenLT K) := h ▸ call_lenLT
theorem isiK (h : X.K = K := by rfl) : CallR X (.builtin "isinstance") (rIsi K) := h ▸ call_isi
theorem sumK (hc : X.calm = true) (h : X.K = K := by rfl) : CallR X (.builtin "sum") (rSumLT K) := h ▸ cr_sumLT hc
theorem lstK (h : X.K = K := by rfl) : CallR X (.type "list") (rLstOf K) := h ▸ call_lstOf
theorem tupK (h : X.K = K := by rfl) : CallR X (.type "tuple") (rTupOf K) := h ▸ call_tupOf
theorem eqK (hr : Room k X.A) (h : X.K = K := by rfl) : OpR X (compareOp .Eq) (rEqD K) := h ▸ op_eqD hr.units
theorem neK (hr : Room k X.A) (h : X.K = K := by rfl) : OpR X (compareOp .NotEq) (rNeD K) := h ▸ op_neD hr.units
theorem inK (hr : Room k X.A) (h : X.K = K := by rfl) : OpR X (compareOp .In) (rInD K) := h ▸ op_inD (by have := hr.un; omega)
theorem ninK (hr : Room k X.A) (h : X.K = K := by rfl) : OpR X (compareOp .NotIn) (rNotInD K) := h ▸ op_notInD (by have := hr.un; omega)
theorem geK (hr : Room k X.A) (h : X.K = K := by rfl) : OpR X (compareOp .GtE) (rGeP K) := h ▸ op_geT hr
theorem slLK (h : X.K = K := by rfl) : SlR X (rSlL K) := h ▸ sl_list
theorem slTK (h : X.K = K := by rfl) : SlR X (rSlT K) := h ▸ sl_tup
theorem indexK (hr : Room k X.A) (h : X.K = K := by rfl) : MtR X "list.index" (rIndexD K) := h ▸ mt_indexD (by have := hr.un; omega)
variable {o e e2 l tg : Expr} {es : List Expr} {to te tl : TE} {t ta : TA} {pos apos cpos tpos p : Pos} {kk : Nat} {n : Nat} {elts : List Expr} {u : TGs}
theorem pe_appK (ho : PE X o to) (ha : PA X (e :: es) t) (h : X.K = K := by rfl)
    (hbase : attributeBase o "append" X.env (eval o X.env) = eval o X.env := by rfl)
    (hfew : ((backTo cpos (starEach (e :: es) X.env)).all (fun x => !x.1) && (backToKw cpos (keywordEach [] X.env)).all (fun x => x.1.isSome) && decide ((e :: es).length + ([] : List Keyword).length + (if ([] : List Keyword).isEmpty then 0 else 1) < 30)) = true := by rfl)
    (one : (apos.endLine == cpos.line) = true := by rfl) (each : starEach (e :: es) X.env = (false, eval e X.env) :: starEach es X.env := by rfl) (plain : (backTo cpos (starEach es X.env)).any (·.1) = false := by rfl) :
    PE X (.Call (.Attribute o "append" apos) (e :: es) [] cpos) (tBM K "list" rAppend to t) :=
  h ▸ pe_bm PySem.F.plainAttrs_list PySem.F.slot_list_append PySem.F.type_list_append mt_append ho ha hbase hfew one each plain
theorem pe_idxK (hr : Room k X.A) (ho : PE X o to) (ha : PA X (e :: es) t) (h : X.K = K := by rfl)
    (hbase : attributeBase o "index" X.env (eval o X.env) = eval o X.env := by rfl)
    (hfew : ((backTo cpos (starEach (e :: es) X.env)).all (fun x => !x.1) && (backToKw cpos (keywordEach [] X.env)).all (fun x => x.1.isSome) && decide ((e :: es).length + ([] : List Keyword).length + (if ([] : List Keyword).isEmpty then 0 else 1) < 30)) = true := by rfl)
    (one : (apos.endLine == cpos.line) = true := by rfl) (each : starEach (e :: es) X.env = (false, eval e X.env) :: starEach es X.env := by rfl) (plain : (backTo cpos (starEach es X.env)).any (·.1) = false := by rfl) :
    PE X (.Call (.Attribute o "index" apos) (e :: es) [] cpos) (tBM K "list" (rIndexD K) to t) := by
  have q := pe_bm (X := X) PySem.F.plainAttrs_list PySem.F.slot_list_index PySem.F.type_list_index (indexK (X := X) X.K hr rfl) ho ha hbase hfew one each plain
  rw [h] at q
  exact q
theorem pi_listK (hl : PE X l tl) (h : X.K = K := by rfl) : PI X tg l (iList K tl) := h ▸ pi_list hl
theorem pi_tupK (hl : PE X l tl) (h : X.K = K := by rfl) : PI X tg l (iTup K tl) := h ▸ pi_tup hl
theorem pi_enumK (hg : Gl X "enumerate") (hm : X.mg "enumerate" = none) (ha : PA X [e] ta) (h : X.K = K := by rfl) (hs : starEach [e] X.env = [(false, eval e X.env)] := by rfl) :
    PI X (.Tuple elts kk tpos) (.Call (.Name "enumerate" p) [e] [] pos) (iEnum K ta) := h ▸ pi_enum hg hm ha hs
theorem pi_enumTK (hg : Gl X "enumerate") (hm : X.mg "enumerate" = none) (ha : PA X [e] ta) (h : X.K = K := by rfl) (hs : starEach [e] X.env = [(false, eval e X.env)] := by rfl) :
    PI X (.Tuple elts kk tpos) (.Call (.Name "enumerate" p) [e] [] pos) (iEnumT K ta) := h ▸ pi_enumT hg hm ha hs
theorem pi_zipK (hg : Gl X "zip") (hm : X.mg "zip" = none) (ha : PA X [e, e2] ta) (h : X.K = K := by rfl)
    (each : starEach [e, e2] X.env = (false, eval e X.env) :: starEach [e2] X.env := by rfl) (plain : (backTo pos (starEach [e2] X.env)).any (·.1) = false := by rfl) :
    PI X (.Tuple elts kk tpos) (.Call (.Name "zip" p) [e, e2] [] pos) (iZip K ta) := h ▸ pi_zip hg hm ha each plain
theorem pg_tupK (hc : X.calm = true) (g : PGs X es u) (h : X.K = K := by rfl) (hn : (assignEach es X.env).length = n := by rfl) (hst : (assignEach es X.env).findIdx? (·.1) = none := by rfl) : PG X (.Tuple es kk pos) (gTup K n u) := h ▸ pg_tup hc g hn hst
theorem pg_unlK (hc : X.calm = true) (g : PGs X es u) (h : X.K = K := by rfl) (hn : (assignEach es X.env).length = n := by rfl) (hst : (assignEach es X.env).findIdx? (·.1) = none := by rfl) : PG X (.Tuple es kk pos) (gUnl K n u) := h ▸ pg_unl hc g hn hst
end
end DL

/-! Cells that are no longer of use are let go. -/
namespace DL
open PySem PySem.Spec PyProof.Rows L2
section
variable {K : PySem.W.Frag} {te : TE} {ts : TS} {ds : Ds} {M : Ms} {Q : D → Ms → Prop} {P : Pst}
/-- all that M has, M' has -/
def Ext (M M' : Ms) : Prop := ∀ i xs, M i = some xs → M' i = some xs
theorem Ext.refl (M : Ms) : Ext M M := fun _ _ h => h
theorem Ext.trans {M M1 M2 : Ms} (a : Ext M M1) (b : Ext M1 M2) : Ext M M2 := fun i xs h => b i xs (a i xs h)
theorem Ext.none {M M' : Ms} (e : Ext M M') {i : Nat} (h : M' i = none) : M i = none := by
  cases hm : M i with
  | none => rfl
  | some xs => rw [e i xs hm] at h; cases h
theorem Ext.put {M M' : Ms} (e : Ext M M') {i : Nat} {xs : List PyData} (h : M i = Option.none) : Ext M (put M' i xs) := fun j ys hj => by
  have ne : j ≠ i := fun z => by rw [z, h] at hj; cases hj
  rw [put_ne ne]
  exact e j ys hj
theorem Ext.del {M M' : Ms} (e : Ext M M') {i : Nat} (h : M i = Option.none) : Ext M (del M' i) := fun j ys hj => by
  have ne : j ≠ i := fun z => by rw [z, h] at hj; cases hj
  rw [del_ne ne]
  exact e j ys hj
theorem ej_weak (h : EJ K te ds M fun d M1 => ∃ M2, Ext M2 M1 ∧ Q d M2) : EJ K te ds M Q := fun w σ H s sl R c =>
  h w σ H s sl R fun w' v H' d M' a b e q => let ⟨M2, hm, q⟩ := q; c w' v H' d M2 a b (e.weak hm) q
theorem sj_weak {M2 : Ms} (hm : Ext M2 M) (h : SJ K ts ds M2 P) : SJ K ts ds M P := fun w σ H s sl E n r b t => h w σ H (s.weak hm) sl E n r b t
theorem ej_weakI {M2 : Ms} (hm : Ext M2 M) (h : EJ K te ds M2 Q) : EJ K te ds M Q := fun w σ H s sl R c => h w σ H (s.weak hm) sl R c
end
end DL

set_option maxHeartbeats 4000000
/-! The text by its places, what the top leaves. -/
namespace HW
open PySem PySem.Spec PyProof.Rows L2 DL
def topS (i : Nat) : Stmt := PySem.Challenge.pw_healwires_k65_whole_harm_of_webs.main.body.getD i (.Pass ⟨0, 0, 0, 0⟩)
theorem u65 {k : Nat} {A : Around} (r : Room k A) : A.units + 65 < cLine := by have := r.un; omega
theorem bt_len : bootBuiltins "len" = some (.builtin "len") := by decide +kernel
theorem bt_isinstance : bootBuiltins "isinstance" = some (.builtin "isinstance") := by decide +kernel
theorem bt_sum : bootBuiltins "sum" = some (.builtin "sum") := by decide +kernel
theorem bt_max : bootBuiltins "max" = some (.builtin "max") := by decide +kernel
theorem bt_min : bootBuiltins "min" = some (.builtin "min") := by decide +kernel
theorem bt_repr : bootBuiltins "repr" = some (.builtin "repr") := by decide +kernel
theorem bt_sorted : bootBuiltins "sorted" = some (.builtin "sorted") := by decide +kernel
theorem bt_int : bootBuiltins "int" = some (.type "int") := by decide +kernel
theorem bt_bool : bootBuiltins "bool" = some (.type "bool") := by decide +kernel
theorem bt_list : bootBuiltins "list" = some (.type "list") := by decide +kernel
theorem bt_tuple : bootBuiltins "tuple" = some (.type "tuple") := by decide +kernel
theorem bt_str : bootBuiltins "str" = some (.type "str") := by decide +kernel
/-- a def that may be called by its name -/
structure Cal (P : Program) (w : World) (K : PySem.W.Frag) (mg : Str → Option Value) (base : Heap) (k : Nat) (x : Str) (sp : Sp) : Prop where
  ex : ∃ (f : Addr) (fd : FuncData) (ps : List Str), FnOk P w K mg base CX0 k f fd ps sp ∧ mg x = some (.ref f) ∧ PySem.W.keepIn K (.ref f) = true ∧ Binds K fd ps []
section
variable {X : Cx} {k j : Nat} {x : Str} {sp : Sp} {p pos : Pos} {e : Expr} {es : List Expr} {t : TA} {v : V}
theorem pe_c (c : Cal X.prog X.w X.K X.mg X.base k x sp) (hr : Room j X.A) (hk : k ≤ j) (hg : Gl X x) (ha : PA X (e :: es) t)
    (nodbg : (x == ("__debug__" : Str)) = false := by decide) (each : starEach (e :: es) X.env = (false, eval e X.env) :: starEach es X.env := by rfl) (plain : (backTo pos (starEach es X.env)).any (·.1) = false := by rfl) :
    PE X (.Call (.Name x p) (e :: es) [] pos) (tCall sp [] E0 t) := by
  obtain ⟨f, fd, ps, F, hm, kp, b⟩ := c.ex
  exact pe_call F (hr.mono hk) hg hm kp b .nil pass0 ha nodbg each plain
theorem pe_gc (hg : Gl X x) (h : ∃ u, X.mg x = some u ∧ RelV v u) (hd : (x == ("__debug__" : Str)) = false := by decide) : PE X (.Name x p) (tC v) := by
  obtain ⟨u, hm, r⟩ := h
  exact pe_glob hg hm r hd
end
/-- a def of the top as it stands behind it -/
structure Df (K : PySem.W.Frag) (mg : Str → Option Value) (x : Str) (st : Stmt) (ps : List Str) : Prop where
  ex : ∃ (f : Addr) (fd : FuncData), Fun K x x st f fd ∧ mg x = some (.ref f) ∧ Binds K fd ps []
abbrev s_is_whole : Stmt := topS 7
abbrev N_is_whole : List Str := ["value"]
theorem sc_is_whole : FnScope N_is_whole ["value"] (defScope s_is_whole) := ⟨rfl, rfl, rfl, by decide +kernel, rfl, by decide +kernel, by decide +kernel⟩
abbrev s_is_between : Stmt := topS 8
abbrev N_is_between : List Str := ["value", "low", "high"]
theorem sc_is_between : FnScope N_is_between ["value", "low", "high"] (defScope s_is_between) := ⟨rfl, rfl, rfl, by decide +kernel, rfl, by decide +kernel, by decide +kernel⟩
abbrev s_check_number : Stmt := topS 9
abbrev N_check_number : List Str := ["number", "low", "high"]
theorem sc_check_number : FnScope N_check_number ["number", "low", "high"] (defScope s_check_number) := ⟨rfl, rfl, rfl, by decide +kernel, rfl, by decide +kernel, by decide +kernel⟩
abbrev s_link_fits : Stmt := topS 10
abbrev N_link_fits : List Str := ["value", "item"]
theorem sc_link_fits : FnScope N_link_fits ["value"] (defScope s_link_fits) := ⟨rfl, rfl, rfl, by decide +kernel, rfl, by decide +kernel, by decide +kernel⟩
abbrev s_sound_fits : Stmt := topS 11
abbrev N_sound_fits : List Str := ["link", "places", "back", "copies", "answers"]
theorem sc_sound_fits : FnScope N_sound_fits ["link"] (defScope s_sound_fits) := ⟨rfl, rfl, rfl, by decide +kernel, rfl, by decide +kernel, by decide +kernel⟩
abbrev s_check_sound : Stmt := topS 12
abbrev N_check_sound : List Str := ["link"]
theorem sc_check_sound : FnScope N_check_sound ["link"] (defScope s_check_sound) := ⟨rfl, rfl, rfl, by decide +kernel, rfl, by decide +kernel, by decide +kernel⟩
abbrev s_bit_fits : Stmt := topS 13
abbrev N_bit_fits : List Str := ["value"]
theorem sc_bit_fits : FnScope N_bit_fits ["value"] (defScope s_bit_fits) := ⟨rfl, rfl, rfl, by decide +kernel, rfl, by decide +kernel, by decide +kernel⟩
abbrev s_counts_fit : Stmt := topS 14
abbrev N_counts_fit : List Str := ["value", "size", "most", "item"]
theorem sc_counts_fit : FnScope N_counts_fit ["value", "size", "most"] (defScope s_counts_fit) := ⟨rfl, rfl, rfl, by decide +kernel, rfl, by decide +kernel, by decide +kernel⟩
abbrev s_lot_fits : Stmt := topS 15
abbrev N_lot_fits : List Str := ["link", "value", "alike"]
theorem sc_lot_fits : FnScope N_lot_fits ["link", "value", "alike"] (defScope s_lot_fits) := ⟨rfl, rfl, rfl, by decide +kernel, rfl, by decide +kernel, by decide +kernel⟩
abbrev s_hosts_fit : Stmt := topS 16
abbrev N_hosts_fit : List Str := ["link", "sender", "receiver"]
theorem sc_hosts_fit : FnScope N_hosts_fit ["link", "sender", "receiver"] (defScope s_hosts_fit) := ⟨rfl, rfl, rfl, by decide +kernel, rfl, by decide +kernel, by decide +kernel⟩
abbrev s_contents_fit : Stmt := topS 17
abbrev N_contents_fit : List Str := ["link", "value"]
theorem sc_contents_fit : FnScope N_contents_fit ["link", "value"] (defScope s_contents_fit) := ⟨rfl, rfl, rfl, by decide +kernel, rfl, by decide +kernel, by decide +kernel⟩
abbrev s_even_fits : Stmt := topS 18
abbrev N_even_fits : List Str := ["contents"]
theorem sc_even_fits : FnScope N_even_fits ["contents"] (defScope s_even_fits) := ⟨rfl, rfl, rfl, by decide +kernel, rfl, by decide +kernel, by decide +kernel⟩
abbrev s_old_of : Stmt := topS 19
abbrev N_old_of : List Str := ["contents", "bit"]
theorem sc_old_of : FnScope N_old_of ["contents", "bit"] (defScope s_old_of) := ⟨rfl, rfl, rfl, by decide +kernel, rfl, by decide +kernel, by decide +kernel⟩
abbrev s_answers_of : Stmt := topS 20
abbrev N_answers_of : List Str := ["contents", "bit"]
theorem sc_answers_of : FnScope N_answers_of ["contents", "bit"] (defScope s_answers_of) := ⟨rfl, rfl, rfl, by decide +kernel, rfl, by decide +kernel, by decide +kernel⟩
abbrev s_answers_in : Stmt := topS 22
abbrev N_answers_in : List Str := ["contents"]
theorem sc_answers_in : FnScope N_answers_in ["contents"] (defScope s_answers_in) := ⟨rfl, rfl, rfl, by decide +kernel, rfl, by decide +kernel, by decide +kernel⟩
abbrev s_old_in : Stmt := topS 23
abbrev N_old_in : List Str := ["contents", "bit", "lot", "done", "kept"]
theorem sc_old_in : FnScope N_old_in ["contents"] (defScope s_old_in) := ⟨rfl, rfl, rfl, by decide +kernel, rfl, by decide +kernel, by decide +kernel⟩
abbrev s_signs_in : Stmt := topS 24
abbrev N_signs_in : List Str := ["link", "contents"]
theorem sc_signs_in : FnScope N_signs_in ["link", "contents"] (defScope s_signs_in) := ⟨rfl, rfl, rfl, by decide +kernel, rfl, by decide +kernel, by decide +kernel⟩
abbrev s_harm_of_signs : Stmt := topS 25
abbrev N_harm_of_signs : List Str := ["told", "even", "done", "answers", "old"]
theorem sc_harm_of_signs : FnScope N_harm_of_signs ["told"] (defScope s_harm_of_signs) := ⟨rfl, rfl, rfl, by decide +kernel, rfl, by decide +kernel, by decide +kernel⟩
abbrev s_harm_in : Stmt := topS 26
abbrev N_harm_in : List Str := ["link", "contents"]
theorem sc_harm_in : FnScope N_harm_in ["link", "contents"] (defScope s_harm_in) := ⟨rfl, rfl, rfl, by decide +kernel, rfl, by decide +kernel, by decide +kernel⟩
abbrev s_way_fits : Stmt := topS 29
abbrev N_way_fits : List Str := ["hosts", "value", "host"]
theorem sc_way_fits : FnScope N_way_fits ["hosts", "value"] (defScope s_way_fits) := ⟨rfl, rfl, rfl, by decide +kernel, rfl, by decide +kernel, by decide +kernel⟩
abbrev s_web_fits : Stmt := topS 30
abbrev N_web_fits : List Str := ["value", "pairs", "way", "at"]
theorem sc_web_fits : FnScope N_web_fits ["value"] (defScope s_web_fits) := ⟨rfl, rfl, rfl, by decide +kernel, rfl, by decide +kernel, by decide +kernel⟩
abbrev s_web_contents_fit : Stmt := topS 31
abbrev N_web_contents_fit : List Str := ["web", "value", "at", "way"]
theorem sc_web_contents_fit : FnScope N_web_contents_fit ["web", "value"] (defScope s_web_contents_fit) := ⟨rfl, rfl, rfl, by decide +kernel, rfl, by decide +kernel, by decide +kernel⟩
abbrev s_check_web : Stmt := topS 32
abbrev N_check_web : List Str := ["web"]
theorem sc_check_web : FnScope N_check_web ["web"] (defScope s_check_web) := ⟨rfl, rfl, rfl, by decide +kernel, rfl, by decide +kernel, by decide +kernel⟩
abbrev s_check_web_contents : Stmt := topS 33
abbrev N_check_web_contents : List Str := ["web", "contents"]
theorem sc_check_web_contents : FnScope N_check_web_contents ["web", "contents"] (defScope s_check_web_contents) := ⟨rfl, rfl, rfl, by decide +kernel, rfl, by decide +kernel, by decide +kernel⟩
abbrev s_check_all_sound : Stmt := topS 34
abbrev N_check_all_sound : List Str := ["web", "way"]
theorem sc_check_all_sound : FnScope N_check_all_sound ["web"] (defScope s_check_all_sound) := ⟨rfl, rfl, rfl, by decide +kernel, rfl, by decide +kernel, by decide +kernel⟩
abbrev s_harms_of : Stmt := topS 35
abbrev N_harms_of : List Str := ["web", "contents", "at", "way"]
theorem sc_harms_of : FnScope N_harms_of ["web", "contents"] (defScope s_harms_of) := ⟨rfl, rfl, rfl, by decide +kernel, rfl, by decide +kernel, by decide +kernel⟩
abbrev s_web_harm : Stmt := topS 36
abbrev N_web_harm : List Str := ["web", "contents"]
theorem sc_web_harm : FnScope N_web_harm ["web", "contents"] (defScope s_web_harm) := ⟨rfl, rfl, rfl, by decide +kernel, rfl, by decide +kernel, by decide +kernel⟩
abbrev s_harm_at : Stmt := topS 37
abbrev N_harm_at : List Str := ["web", "contents", "host", "way", "harm"]
theorem sc_harm_at : FnScope N_harm_at ["web", "contents", "host"] (defScope s_harm_at) := ⟨rfl, rfl, rfl, by decide +kernel, rfl, by decide +kernel, by decide +kernel⟩
abbrev s_ways_by_harm : Stmt := topS 38
abbrev N_ways_by_harm : List Str := ["web", "contents", "harms", "many", "harm"]
theorem sc_ways_by_harm : FnScope N_ways_by_harm ["web", "contents"] (defScope s_ways_by_harm) := ⟨rfl, rfl, rfl, by decide +kernel, rfl, by decide +kernel, by decide +kernel⟩
abbrev s_law_cell : Stmt := topS 40
abbrev N_law_cell : List Str := ["_law_script", "_law_index"]
theorem sc_law_cell : FnScope N_law_cell ["_law_script", "_law_index"] (defScope s_law_cell) := ⟨rfl, rfl, rfl, by decide +kernel, rfl, by decide +kernel, by decide +kernel⟩
abbrev s_law_hash : Stmt := topS 41
abbrev N_law_hash : List Str := ["_law_seed", "_law_index", "_law_mixed"]
theorem sc_law_hash : FnScope N_law_hash ["_law_seed", "_law_index"] (defScope s_law_hash) := ⟨rfl, rfl, rfl, by decide +kernel, rfl, by decide +kernel, by decide +kernel⟩
abbrev s_law_generator : Stmt := topS 42
abbrev N_law_generator : List Str := ["_law_script", "_law_index", "_law_seed"]
theorem sc_law_generator : FnScope N_law_generator ["_law_script", "_law_index"] (defScope s_law_generator) := ⟨rfl, rfl, rfl, by decide +kernel, rfl, by decide +kernel, by decide +kernel⟩
abbrev s_law_random : Stmt := topS 43
abbrev N_law_random : List Str := ["_law_generator_here", "_law_limit", "_law_drawn", "_law_turn"]
theorem sc_law_random : FnScope N_law_random ["_law_generator_here", "_law_limit"] (defScope s_law_random) := ⟨rfl, rfl, rfl, by decide +kernel, rfl, by decide +kernel, by decide +kernel⟩
abbrev s_law_link : Stmt := topS 44
abbrev N_law_link : List Str := ["_law_generator_here", "_law_most", "_law_places", "_law_back"]
theorem sc_law_link : FnScope N_law_link ["_law_generator_here", "_law_most"] (defScope s_law_link) := ⟨rfl, rfl, rfl, by decide +kernel, rfl, by decide +kernel, by decide +kernel⟩
abbrev s_law_great : Stmt := topS 45
abbrev N_law_great : List Str := ["_law_generator_here", "_law_places", "_law_back", "_law_more"]
theorem sc_law_great : FnScope N_law_great ["_law_generator_here"] (defScope s_law_great) := ⟨rfl, rfl, rfl, by decide +kernel, rfl, by decide +kernel, by decide +kernel⟩
abbrev s_law_few : Stmt := topS 46
abbrev N_law_few : List Str := ["_law_generator_here", "_law_most", "_law_menu"]
theorem sc_law_few : FnScope N_law_few ["_law_generator_here", "_law_most"] (defScope s_law_few) := ⟨rfl, rfl, rfl, by decide +kernel, rfl, by decide +kernel, by decide +kernel⟩
abbrev s_law_contents : Stmt := topS 47
abbrev N_law_contents : List Str := ["_law_generator_here", "_law_link_here", "_law_places", "_law_back", "_law_copies", "_law_answers", "_law_bit", "_law_other", "_law_heard_here", "_law_lot", "_law_sort", "_law_first", "_law_second", "_law_third", "_law_there", "_law_low", "_law_high"]
theorem sc_law_contents : FnScope N_law_contents ["_law_generator_here", "_law_link_here"] (defScope s_law_contents) := ⟨rfl, rfl, rfl, by decide +kernel, rfl, by decide +kernel, by decide +kernel⟩
abbrev s_law_signs : Stmt := topS 48
abbrev N_law_signs : List Str := ["_law_link_here", "_law_contents_here", "_law_bit", "_law_heard_here", "_law_other", "_law_lot", "_law_done", "_law_there", "_law_back", "_law_old"]
theorem sc_law_signs : FnScope N_law_signs ["_law_link_here", "_law_contents_here"] (defScope s_law_signs) := ⟨rfl, rfl, rfl, by decide +kernel, rfl, by decide +kernel, by decide +kernel⟩
abbrev s_law_harm : Stmt := topS 49
abbrev N_law_harm : List Str := ["_law_link_here", "_law_contents_here", "_law_even", "_law_done", "_law_answers", "_law_old"]
theorem sc_law_harm : FnScope N_law_harm ["_law_link_here", "_law_contents_here"] (defScope s_law_harm) := ⟨rfl, rfl, rfl, by decide +kernel, rfl, by decide +kernel, by decide +kernel⟩
abbrev s_law_events : Stmt := topS 50
abbrev N_law_events : List Str := ["_law_link_here", "_law_contents_here", "_law_found", "_law_there", "_law_back", "_law_at", "_law_copy", "_law_bit"]
theorem sc_law_events : FnScope N_law_events ["_law_link_here", "_law_contents_here"] (defScope s_law_events) := ⟨rfl, rfl, rfl, by decide +kernel, rfl, by decide +kernel, by decide +kernel⟩
abbrev s_law_moved : Stmt := topS 51
abbrev N_law_moved : List Str := ["_law_counts", "_law_place", "_law_more", "_law_at", "_law_count"]
theorem sc_law_moved : FnScope N_law_moved ["_law_counts", "_law_place", "_law_more"] (defScope s_law_moved) := ⟨rfl, rfl, rfl, by decide +kernel, rfl, by decide +kernel, by decide +kernel⟩
abbrev s_law_brought : Stmt := topS 52
abbrev N_law_brought : List Str := ["_law_link_here", "_law_contents_here", "_law_place", "_law_bit", "_law_heard_here", "_law_other", "_law_lot", "_law_done", "_law_there", "_law_back", "_law_wrong", "_law_sort", "_law_mark"]
theorem sc_law_brought : FnScope N_law_brought ["_law_link_here", "_law_contents_here", "_law_place"] (defScope s_law_brought) := ⟨rfl, rfl, rfl, by decide +kernel, rfl, by decide +kernel, by decide +kernel⟩
abbrev s_law_heard : Stmt := topS 53
abbrev N_law_heard : List Str := ["_law_link_here", "_law_contents_here", "_law_mark", "_law_bit", "_law_heard_here", "_law_other", "_law_lot", "_law_done", "_law_there", "_law_back"]
theorem sc_law_heard : FnScope N_law_heard ["_law_link_here", "_law_contents_here", "_law_mark"] (defScope s_law_heard) := ⟨rfl, rfl, rfl, by decide +kernel, rfl, by decide +kernel, by decide +kernel⟩
abbrev s_law_behind : Stmt := topS 54
abbrev N_law_behind : List Str := ["_law_link_here", "_law_contents_here", "_law_event", "_law_sender", "_law_receiver", "_law_there", "_law_back", "_law_place"]
theorem sc_law_behind : FnScope N_law_behind ["_law_link_here", "_law_contents_here", "_law_event"] (defScope s_law_behind) := ⟨rfl, rfl, rfl, by decide +kernel, rfl, by decide +kernel, by decide +kernel⟩
abbrev s_law_web : Stmt := topS 55
abbrev N_law_web : List Str := ["_law_generator_here", "_law_most", "_law_hosts", "_law_ways", "_law_one", "_law_other"]
theorem sc_law_web : FnScope N_law_web ["_law_generator_here", "_law_most"] (defScope s_law_web) := ⟨rfl, rfl, rfl, by decide +kernel, rfl, by decide +kernel, by decide +kernel⟩
abbrev s_law_web_contents : Stmt := topS 56
abbrev N_law_web_contents : List Str := ["_law_generator_here", "_law_web_here", "_law_clean", "_law_found", "_law_one", "_law_other", "_law_link_here", "_law_bit"]
theorem sc_law_web_contents : FnScope N_law_web_contents ["_law_generator_here", "_law_web_here"] (defScope s_law_web_contents) := ⟨rfl, rfl, rfl, by decide +kernel, rfl, by decide +kernel, by decide +kernel⟩
abbrev s_law_web_run : Stmt := topS 57
abbrev N_law_web_run : List Str := ["_law_generator_here", "_law_web_here", "_law_contents_here", "_law_most", "_law_here", "_law_found", "_law_turn", "_law_number", "_law_link_here", "_law_events_here", "_law_event"]
theorem sc_law_web_run : FnScope N_law_web_run ["_law_generator_here", "_law_web_here", "_law_contents_here", "_law_most"] (defScope s_law_web_run) := ⟨rfl, rfl, rfl, by decide +kernel, rfl, by decide +kernel, by decide +kernel⟩
abbrev s_law_web_played : Stmt := topS 58
abbrev N_law_web_played : List Str := ["_law_web_here", "_law_contents_here", "_law_run", "_law_here", "_law_wrongs", "_law_number", "_law_event", "_law_link_here", "_law_wrong"]
theorem sc_law_web_played : FnScope N_law_web_played ["_law_web_here", "_law_contents_here", "_law_run"] (defScope s_law_web_played) := ⟨rfl, rfl, rfl, by decide +kernel, rfl, by decide +kernel, by decide +kernel⟩
abbrev s_law_right : Stmt := topS 59
abbrev N_law_right : List Str := ["_law_generator_here", "_law_hosts", "_law_ways", "_law_web_here", "_law_contents_here", "_law_kept", "_law_harms", "_law_due", "_law_told", "_law_host", "_law_here", "_law_run", "_law_later", "_law_wrongs", "_law_one", "_law_other", "_law_link_here", "_law_at", "_law_way", "_law_many", "_law_harm_here"]
theorem sc_law_right : FnScope N_law_right ["_law_generator_here"] (defScope s_law_right) := ⟨rfl, rfl, rfl, by decide +kernel, rfl, by decide +kernel, by decide +kernel⟩
abbrev s_law : Stmt := topS 60
abbrev N_law : List Str := ["_law_script", "_law_index", "_law_one", "_law_web_here", "_law_odd", "_law_worst"]
theorem sc_law : FnScope N_law ["_law_script"] (defScope s_law) := ⟨rfl, rfl, rfl, by decide +kernel, rfl, by decide +kernel, by decide +kernel⟩
structure Top (K : PySem.W.Frag) (mg : Str → Option Value) : Prop where
  d_is_whole : Df K mg "is_whole" s_is_whole ["value"]
  d_is_between : Df K mg "is_between" s_is_between ["value", "low", "high"]
  d_check_number : Df K mg "check_number" s_check_number ["number", "low", "high"]
  d_link_fits : Df K mg "link_fits" s_link_fits ["value"]
  d_sound_fits : Df K mg "sound_fits" s_sound_fits ["link"]
  d_check_sound : Df K mg "check_sound" s_check_sound ["link"]
  d_bit_fits : Df K mg "bit_fits" s_bit_fits ["value"]
  d_counts_fit : Df K mg "counts_fit" s_counts_fit ["value", "size", "most"]
  d_lot_fits : Df K mg "lot_fits" s_lot_fits ["link", "value", "alike"]
  d_hosts_fit : Df K mg "hosts_fit" s_hosts_fit ["link", "sender", "receiver"]
  d_contents_fit : Df K mg "contents_fit" s_contents_fit ["link", "value"]
  d_even_fits : Df K mg "even_fits" s_even_fits ["contents"]
  d_old_of : Df K mg "old_of" s_old_of ["contents", "bit"]
  d_answers_of : Df K mg "answers_of" s_answers_of ["contents", "bit"]
  d_answers_in : Df K mg "answers_in" s_answers_in ["contents"]
  d_old_in : Df K mg "old_in" s_old_in ["contents"]
  d_signs_in : Df K mg "signs_in" s_signs_in ["link", "contents"]
  d_harm_of_signs : Df K mg "harm_of_signs" s_harm_of_signs ["told"]
  d_harm_in : Df K mg "harm_in" s_harm_in ["link", "contents"]
  d_way_fits : Df K mg "way_fits" s_way_fits ["hosts", "value"]
  d_web_fits : Df K mg "web_fits" s_web_fits ["value"]
  d_web_contents_fit : Df K mg "web_contents_fit" s_web_contents_fit ["web", "value"]
  d_check_web : Df K mg "check_web" s_check_web ["web"]
  d_check_web_contents : Df K mg "check_web_contents" s_check_web_contents ["web", "contents"]
  d_check_all_sound : Df K mg "check_all_sound" s_check_all_sound ["web"]
  d_harms_of : Df K mg "harms_of" s_harms_of ["web", "contents"]
  d_web_harm : Df K mg "web_harm" s_web_harm ["web", "contents"]
  d_harm_at : Df K mg "harm_at" s_harm_at ["web", "contents", "host"]
  d_ways_by_harm : Df K mg "ways_by_harm" s_ways_by_harm ["web", "contents"]
  d__law_cell : Df K mg "_law_cell" s_law_cell ["_law_script", "_law_index"]
  d__law_hash : Df K mg "_law_hash" s_law_hash ["_law_seed", "_law_index"]
  d__law_generator : Df K mg "_law_generator" s_law_generator ["_law_script", "_law_index"]
  d__law_random : Df K mg "_law_random" s_law_random ["_law_generator_here", "_law_limit"]
  d__law_link : Df K mg "_law_link" s_law_link ["_law_generator_here", "_law_most"]
  d__law_great : Df K mg "_law_great" s_law_great ["_law_generator_here"]
  d__law_few : Df K mg "_law_few" s_law_few ["_law_generator_here", "_law_most"]
  d__law_contents : Df K mg "_law_contents" s_law_contents ["_law_generator_here", "_law_link_here"]
  d__law_signs : Df K mg "_law_signs" s_law_signs ["_law_link_here", "_law_contents_here"]
  d__law_harm : Df K mg "_law_harm" s_law_harm ["_law_link_here", "_law_contents_here"]
  d__law_events : Df K mg "_law_events" s_law_events ["_law_link_here", "_law_contents_here"]
  d__law_moved : Df K mg "_law_moved" s_law_moved ["_law_counts", "_law_place", "_law_more"]
  d__law_brought : Df K mg "_law_brought" s_law_brought ["_law_link_here", "_law_contents_here", "_law_place"]
  d__law_heard : Df K mg "_law_heard" s_law_heard ["_law_link_here", "_law_contents_here", "_law_mark"]
  d__law_behind : Df K mg "_law_behind" s_law_behind ["_law_link_here", "_law_contents_here", "_law_event"]
  d__law_web : Df K mg "_law_web" s_law_web ["_law_generator_here", "_law_most"]
  d__law_web_contents : Df K mg "_law_web_contents" s_law_web_contents ["_law_generator_here", "_law_web_here"]
  d__law_web_run : Df K mg "_law_web_run" s_law_web_run ["_law_generator_here", "_law_web_here", "_law_contents_here", "_law_most"]
  d__law_web_played : Df K mg "_law_web_played" s_law_web_played ["_law_web_here", "_law_contents_here", "_law_run"]
  d__law_right : Df K mg "_law_right" s_law_right ["_law_generator_here"]
  d_law : Df K mg "law" s_law ["_law_script"]
  b_bool : mg "bool" = none
  b_enumerate : mg "enumerate" = none
  b_int : mg "int" = none
  b_isinstance : mg "isinstance" = none
  b_len : mg "len" = none
  b_list : mg "list" = none
  b_max : mg "max" = none
  b_min : mg "min" = none
  b_range : mg "range" = none
  b_repr : mg "repr" = none
  b_sorted : mg "sorted" = none
  b_str : mg "str" = none
  b_sum : mg "sum" = none
  b_tuple : mg "tuple" = none
  b_zip : mg "zip" = none
  most : ∃ u, mg "MOST_HARM" = some u ∧ RelV (.int 3) u

/-- .. with its parameters -/
structure CalP (P : Program) (w : World) (K : PySem.W.Frag) (mg : Str → Option Value) (base : Heap) (k : Nat) (x : Str) (st : Stmt) (ps : List Str) (sp : Sp) : Prop where
  ex : ∃ (f : Addr) (fd : FuncData), Fun K x x st f fd ∧ FnOk P w K mg base CX0 k f fd ps sp ∧ mg x = some (.ref f) ∧ Binds K fd ps []
section
variable {K : PySem.W.Frag} {P : Program} {w : World} {base : Heap} {mg : Str → Option Value}
/-- the promise of a def by its name -/
theorem Df.cal {x : Str} {st : Stmt} {N ps : List Str} {k n : Nat} {T : TF} (F : Df K mg x st ps) (S : FnScope N ps (defScope st)) (hn : n = ps.length)
    (hbody : ∀ (f : Addr) (cdv : Value) (A : Around) (outer : List Env) (s : Shared) (H : Hp) (E : XK), Room k (A.deeper (envOfC x (defScope st) s.heap.objs.size f cdv)) →
      ∃ t, PSs (cxOf CX0 P w K mg base N x (defScope st) f cdv A outer s H E).nox (defBody st) t ∧ ∀ (xs : List D) (M : Ms) (Q : D → Ms → Prop), xs.length = n → T xs M Q → SJ K t (startD N.length xs) M ⟨fun _ M' => Q (.dat .none) M', Q, fun _ _ => False, fun _ _ => False⟩) :
    Cal P w K mg base (k + 1) x (spA K n T) := by
  obtain ⟨f, fd, F, hm, hb⟩ := F.ex
  exact ⟨f, fd, ps, fnA F S hn fun cdv A outer s H E hr => hbody f cdv A outer s H E hr, hm, F.kp, hb⟩
theorem Df.calP {x : Str} {st : Stmt} {N ps : List Str} {k n : Nat} {T : TF} (F : Df K mg x st ps) (S : FnScope N ps (defScope st)) (hn : n = ps.length)
    (hbody : ∀ (f : Addr) (cdv : Value) (A : Around) (outer : List Env) (s : Shared) (H : Hp) (E : XK), Room k (A.deeper (envOfC x (defScope st) s.heap.objs.size f cdv)) →
      ∃ t, PSs (cxOf CX0 P w K mg base N x (defScope st) f cdv A outer s H E).nox (defBody st) t ∧ ∀ (xs : List D) (M : Ms) (Q : D → Ms → Prop), xs.length = n → T xs M Q → SJ K t (startD N.length xs) M ⟨fun _ M' => Q (.dat .none) M', Q, fun _ _ => False, fun _ _ => False⟩) :
    CalP P w K mg base (k + 1) x st ps (spA K n T) := by
  obtain ⟨f, fd, F, hm, hb⟩ := F.ex
  exact ⟨f, fd, F, fnA F S hn fun cdv A outer s H E hr => hbody f cdv A outer s H E hr, hm, hb⟩
theorem CalP.cal {x : Str} {st : Stmt} {k : Nat} {ps : List Str} {sp : Sp} (c : CalP P w K mg base k x st ps sp) : Cal P w K mg base k x sp := by
  obtain ⟨f, fd, F, ok, hm, hb⟩ := c.ex
  exact ⟨f, fd, ps, ok, hm, F.kp, hb⟩
end
/-- a def that only reads: R what it hands back of what -/
def pureT (R : List PyData → PyData → Prop) : TF := fun xs M Q => ∃ (ps : List PyData) (r : PyData), xs = ps.map D.dat ∧ R ps r ∧ Q (.dat r) M
end HW

/-! The mathematics of links: contents, events, what is left of the harm. -/
namespace HW
open PySem PySem.Spec PyProof.Rows L2 DL
theorem sk_new : PyData.strOk "new" = true := by decide +kernel
theorem sk_old : PyData.strOk "old" = true := by decide +kernel
theorem sk_send : PyData.strOk "send" = true := by decide +kernel
theorem sk_drop : PyData.strOk "drop" = true := by decide +kernel
theorem sk_bring : PyData.strOk "bring" = true := by decide +kernel
theorem sk_miss : PyData.strOk "miss" = true := by decide +kernel
theorem sk_hear : PyData.strOk "hear" = true := by decide +kernel
theorem sk_made : PyData.strOk "made" = true := by decide +kernel
theorem sk_twice : PyData.strOk "twice" = true := by decide +kernel
theorem sk_lost : PyData.strOk "lost" = true := by decide +kernel
theorem sk_zero : PyData.strOk "zero" = true := by decide +kernel
theorem sk_one : PyData.strOk "one" = true := by decide +kernel
structure Lk where
  c : Int
  d : Int
  p : Int
  q : Int
def Lk.D (l : Lk) : PyData := .tuple [.int l.c, .int l.d, .int l.p, .int l.q]
def Lk.Ok (l : Lk) : Prop := 1 ≤ l.c ∧ 1 ≤ l.d ∧ 1 ≤ l.p ∧ 1 ≤ l.q
def Lk.Sound (l : Lk) : Prop := l.c ≤ l.p ∧ l.d ≤ l.q
/-- what lies in a link; lot: whether it is an old one, how many -/
structure Ct where
  bit : Int
  hd : Int
  ot : Int
  lot : Option (Bool × Int)
  dn : Bool
  n0 : Int
  n1 : Int
  n2 : Int
  b0 : Int
  b1 : Int
def sortS : Bool → Str
  | true => "old"
  | false => "new"
def lotD : Option (Bool × Int) → PyData
  | none => .none
  | some (s, m) => .tuple [.str (sortS s), .int m]
def Ct.sd (c : Ct) : PyData := .tuple [.int c.bit, .int c.hd]
def Ct.rc (c : Ct) : PyData := .tuple [.int c.ot, lotD c.lot, .bool c.dn]
def Ct.th (c : Ct) : PyData := .tuple [.int c.n0, .int c.n1, .int c.n2]
def Ct.bk (c : Ct) : PyData := .tuple [.int c.b0, .int c.b1]
def Ct.D (c : Ct) : PyData := .tuple [c.sd, c.rc, c.th, c.bk]
def lotOk (l : Lk) (even : Prop) : Option (Bool × Int) → Prop
  | none => True
  | some (s, m) => 1 ≤ m ∧ m ≤ l.p - 1 ∧ (s = false → ¬ even)
structure Fits (l : Lk) (c : Ct) : Prop where
  bit : c.bit = 0 ∨ c.bit = 1
  hd0 : 0 ≤ c.hd
  hd1 : c.hd ≤ l.q - 1
  ot : c.ot = 0 ∨ c.ot = 1
  lot : lotOk l (c.bit = c.ot) c.lot
  n0 : 0 ≤ c.n0
  n1 : 0 ≤ c.n1
  n2 : 0 ≤ c.n2
  ns : c.n0 + c.n1 + c.n2 ≤ l.c
  b0 : 0 ≤ c.b0
  b1 : 0 ≤ c.b1
  bs : c.b0 + c.b1 ≤ l.d
def Ct.ans (c : Ct) : Int := c.hd + if c.bit = 0 then c.b0 else c.b1
def keptOf : Option (Bool × Int) → Int
  | some (true, m) => m
  | _ => 0
def Ct.old (c : Ct) : Int := (if c.ot = 0 then c.n2 else c.n1) + keptOf c.lot
def harmOf (even done ans old : Bool) : Int :=
  if done then (if even then (if old then 2 else 0) else 1) else if even then (if ans && old then 3 else 1) else if ans || old then 2 else 0
def harm (l : Lk) (c : Ct) : Int := harmOf (decide (c.bit = c.ot)) c.dn (decide (l.q ≤ c.ans)) (decide (l.p ≤ c.old))
theorem harmOf_bounds (a b c d : Bool) : 0 ≤ harmOf a b c d ∧ harmOf a b c d ≤ 3 := by
  cases a <;> cases b <;> cases c <;> cases d <;> simp [harmOf]
inductive Cp where
  | new | zero | one
inductive Ev where
  | send
  | bring (k : Cp)
  | drop (k : Cp)
  | hear (b : Bool)
  | miss (b : Bool)
def Cp.S : Cp → Str
  | .new => "new"
  | .zero => "zero"
  | .one => "one"
def bI (b : Bool) : Int := if b then 1 else 0
def Ev.D : Ev → PyData
  | .send => .tuple [.str "send"]
  | .bring k => .tuple [.str "bring", .str k.S]
  | .drop k => .tuple [.str "drop", .str k.S]
  | .hear b => .tuple [.str "hear", .int (bI b)]
  | .miss b => .tuple [.str "miss", .int (bI b)]
def Ct.cnt (c : Ct) : Cp → Int
  | .new => c.n0
  | .zero => c.n1
  | .one => c.n2
def Ct.ban (c : Ct) : Bool → Int
  | false => c.b0
  | true => c.b1
def Poss (l : Lk) (c : Ct) : Ev → Prop
  | .send => c.n0 + c.n1 + c.n2 < l.c
  | .bring k => 0 < c.cnt k
  | .drop k => 0 < c.cnt k
  | .hear b => 0 < c.ban b
  | .miss b => 0 < c.ban b
def Ct.thAdd (c : Ct) (x : Int) : Cp → Ct
  | .new => { c with n0 := c.n0 + x }
  | .zero => { c with n1 := c.n1 + x }
  | .one => { c with n2 := c.n2 + x }
def Ct.bkAdd (c : Ct) (x : Int) : Bool → Ct
  | false => { c with b0 := c.b0 + x }
  | true => { c with b1 := c.b1 + x }
def Ct.mark (c : Ct) : Cp → Int
  | .new => c.bit
  | .zero => 0
  | .one => 1
def Cp.isOld : Cp → Bool
  | .new => false
  | _ => true
/-- how many a lot counts behind one more of a sort -/
def lotMore (s : Bool) : Option (Bool × Int) → Int
  | none => 1
  | some (t, m) => if t = s then m + 1 else 1
def answer (l : Lk) (m : Int) (c : Ct) : Ct := if m = c.ot ∧ c.b0 + c.b1 < l.d then c.bkAdd 1 (decide (m = 1)) else c
def brought (l : Lk) (c : Ct) (k : Cp) : Ct × Option Str :=
  let e := c.thAdd (-1) k
  if c.mark k = c.ot then (answer l (c.mark k) { e with lot := none }, none)
  else if l.p ≤ lotMore k.isOld c.lot then (answer l (c.mark k) { e with lot := none, ot := c.mark k, dn := c.dn || !k.isOld }, if k.isOld then some "made" else if c.dn then some "twice" else none)
  else (answer l (c.mark k) { e with lot := some (k.isOld, lotMore k.isOld c.lot) }, none)
def lotTurn : Option (Bool × Int) → Option (Bool × Int)
  | none => none
  | some (_, m) => some (true, m)
def heard (l : Lk) (c : Ct) (b : Bool) : Ct × Option Str :=
  let e := c.bkAdd (-1) b
  if bI b ≠ c.bit ∨ c.hd + 1 < l.q then ({ e with hd := c.hd + if bI b = c.bit then 1 else 0 }, none)
  else ({ e with bit := 1 - c.bit, hd := 0, lot := lotTurn c.lot, dn := false, n0 := 0, n1 := c.n1 + (if c.bit = 0 then c.n0 else 0), n2 := c.n2 + if c.bit = 0 then 0 else c.n0 }, if c.dn then none else some "lost")
def behind (l : Lk) (c : Ct) : Ev → Ct × Option Str
  | .send => (c.thAdd 1 .new, none)
  | .miss b => (c.bkAdd (-1) b, none)
  | .hear b => heard l c b
  | .drop k => (c.thAdd (-1) k, none)
  | .bring k => brought l c k
def wr : Option Str → Int
  | none => 0
  | some _ => 1
theorem harm_eq (l : Lk) (c : Ct) : harm l c = if c.dn = true then (if c.bit = c.ot then (if l.p ≤ c.old then 2 else 0) else 1) else if c.bit = c.ot then (if l.q ≤ c.ans ∧ l.p ≤ c.old then 3 else 1) else if l.q ≤ c.ans ∨ l.p ≤ c.old then 2 else 0 := by
  unfold harm harmOf
  simp only [decide_eq_true_eq, Bool.and_eq_true, Bool.or_eq_true]
theorem harm_mono {l : Lk} {c c' : Ct} (h1 : c'.bit = c.bit) (h2 : c'.ot = c.ot) (h3 : c'.dn = c.dn) (h4 : c'.ans ≤ c.ans) (h5 : c'.old ≤ c.old) : harm l c' ≤ harm l c := by
  unfold harm
  rw [h1, h2, h3]
  generalize decide (c.bit = c.ot) = a
  generalize c.dn = b
  have e1 : decide (l.q ≤ c'.ans) = true → decide (l.q ≤ c.ans) = true := fun h => decide_eq_true (by have := of_decide_eq_true h; omega)
  have e2 : decide (l.p ≤ c'.old) = true → decide (l.p ≤ c.old) = true := fun h => decide_eq_true (by have := of_decide_eq_true h; omega)
  generalize decide (l.q ≤ c'.ans) = x at *
  generalize decide (l.q ≤ c.ans) = x' at *
  generalize decide (l.p ≤ c'.old) = y at *
  generalize decide (l.p ≤ c.old) = y' at *
  cases a <;> cases b <;> cases x <;> cases x' <;> cases y <;> cases y' <;> simp_all [harmOf]
theorem ok_send {l : Lk} {c : Ct} (f : Fits l c) (po : Poss l c .send) : Fits l (behind l c .send).1 ∧ harm l (behind l c .send).1 + wr (behind l c .send).2 ≤ harm l c := by
  obtain ⟨f1, f2, f3, f4, f5, f6, f7, f8, f9, f10, f11, f12⟩ := f
  have po : c.n0 + c.n1 + c.n2 < l.c := po
  refine ⟨⟨f1, f2, f3, f4, f5, ?_, f7, f8, ?_, f10, f11, f12⟩, ?_⟩
  · show 0 ≤ c.n0 + 1
    omega
  · show c.n0 + 1 + c.n1 + c.n2 ≤ l.c
    omega
  · show harm l _ + 0 ≤ harm l c
    rw [Int.add_zero]
    exact harm_mono rfl rfl rfl (Int.le_refl _) (Int.le_refl _)
theorem fits_bk {l : Lk} {c : Ct} {b : Bool} (f : Fits l c) (po : 0 < c.ban b) : Fits l (c.bkAdd (-1) b) := by
  obtain ⟨f1, f2, f3, f4, f5, f6, f7, f8, f9, f10, f11, f12⟩ := f
  cases b
  · have po : 0 < c.b0 := po
    exact ⟨f1, f2, f3, f4, f5, f6, f7, f8, f9, by show 0 ≤ c.b0 + -1; omega, f11, by show c.b0 + -1 + c.b1 ≤ l.d; omega⟩
  · have po : 0 < c.b1 := po
    exact ⟨f1, f2, f3, f4, f5, f6, f7, f8, f9, f10, by show 0 ≤ c.b1 + -1; omega, by show c.b0 + (c.b1 + -1) ≤ l.d; omega⟩
theorem fits_th {l : Lk} {c : Ct} {k : Cp} (f : Fits l c) (po : 0 < c.cnt k) : Fits l (c.thAdd (-1) k) := by
  obtain ⟨f1, f2, f3, f4, f5, f6, f7, f8, f9, f10, f11, f12⟩ := f
  cases k
  · have po : 0 < c.n0 := po
    exact ⟨f1, f2, f3, f4, f5, by show 0 ≤ c.n0 + -1; omega, f7, f8, by show c.n0 + -1 + c.n1 + c.n2 ≤ l.c; omega, f10, f11, f12⟩
  · have po : 0 < c.n1 := po
    exact ⟨f1, f2, f3, f4, f5, f6, by show 0 ≤ c.n1 + -1; omega, f8, by show c.n0 + (c.n1 + -1) + c.n2 ≤ l.c; omega, f10, f11, f12⟩
  · have po : 0 < c.n2 := po
    exact ⟨f1, f2, f3, f4, f5, f6, f7, by show 0 ≤ c.n2 + -1; omega, by show c.n0 + c.n1 + (c.n2 + -1) ≤ l.c; omega, f10, f11, f12⟩
theorem ans_bk (c : Ct) (b : Bool) : (c.bkAdd (-1) b).ans ≤ c.ans := by
  cases b
  · show c.hd + (if c.bit = 0 then c.b0 + -1 else c.b1) ≤ c.hd + (if c.bit = 0 then c.b0 else c.b1)
    split <;> omega
  · show c.hd + (if c.bit = 0 then c.b0 else c.b1 + -1) ≤ c.hd + (if c.bit = 0 then c.b0 else c.b1)
    split <;> omega
theorem old_th (c : Ct) (k : Cp) : (c.thAdd (-1) k).old ≤ c.old := by
  cases k
  · exact Int.le_refl _
  · show (if c.ot = 0 then c.n2 else c.n1 + -1) + keptOf c.lot ≤ (if c.ot = 0 then c.n2 else c.n1) + keptOf c.lot
    split <;> omega
  · show (if c.ot = 0 then c.n2 + -1 else c.n1) + keptOf c.lot ≤ (if c.ot = 0 then c.n2 else c.n1) + keptOf c.lot
    split <;> omega
theorem th_same (c : Ct) (k : Cp) : (c.thAdd (-1) k).bit = c.bit ∧ (c.thAdd (-1) k).ot = c.ot ∧ (c.thAdd (-1) k).dn = c.dn ∧ (c.thAdd (-1) k).ans = c.ans := by
  cases k <;> exact ⟨rfl, rfl, rfl, rfl⟩
theorem bk_same (c : Ct) (b : Bool) : (c.bkAdd (-1) b).bit = c.bit ∧ (c.bkAdd (-1) b).ot = c.ot ∧ (c.bkAdd (-1) b).dn = c.dn ∧ (c.bkAdd (-1) b).old = c.old := by
  cases b <;> exact ⟨rfl, rfl, rfl, rfl⟩
theorem ok_miss {l : Lk} {c : Ct} {b : Bool} (f : Fits l c) (po : Poss l c (.miss b)) : Fits l (behind l c (.miss b)).1 ∧ harm l (behind l c (.miss b)).1 + wr (behind l c (.miss b)).2 ≤ harm l c := by
  refine ⟨fits_bk f po, ?_⟩
  show harm l (c.bkAdd (-1) b) + 0 ≤ harm l c
  rw [Int.add_zero]
  obtain ⟨h1, h2, h3, h4⟩ := bk_same c b
  exact harm_mono h1 h2 h3 (ans_bk c b) (Int.le_of_eq h4)
theorem ok_drop {l : Lk} {c : Ct} {k : Cp} (f : Fits l c) (po : Poss l c (.drop k)) : Fits l (behind l c (.drop k)).1 ∧ harm l (behind l c (.drop k)).1 + wr (behind l c (.drop k)).2 ≤ harm l c := by
  refine ⟨fits_th f po, ?_⟩
  show harm l (c.thAdd (-1) k) + 0 ≤ harm l c
  rw [Int.add_zero]
  obtain ⟨h1, h2, h3, h4⟩ := th_same c k
  exact harm_mono h1 h2 h3 (Int.le_of_eq h4) (old_th c k)
theorem harm_by {l : Lk} {c : Ct} {e d a o : Bool} (he : decide (c.bit = c.ot) = e) (hd : c.dn = d) (ha : decide (l.q ≤ c.ans) = a) (ho : decide (l.p ≤ c.old) = o) : harm l c = harmOf e d a o := by
  unfold harm
  rw [he, hd, ha, ho]
theorem heard_on {l : Lk} {c : Ct} {b : Bool} (h : bI b ≠ c.bit ∨ c.hd + 1 < l.q) : heard l c b = ({ c.bkAdd (-1) b with hd := c.hd + if bI b = c.bit then 1 else 0 }, none) := if_pos h
theorem heard_end {l : Lk} {c : Ct} {b : Bool} (h : ¬ (bI b ≠ c.bit ∨ c.hd + 1 < l.q)) : heard l c b = ({ c.bkAdd (-1) b with bit := 1 - c.bit, hd := 0, lot := lotTurn c.lot, dn := false, n0 := 0, n1 := c.n1 + (if c.bit = 0 then c.n0 else 0), n2 := c.n2 + if c.bit = 0 then 0 else c.n0 }, if c.dn then none else some ("lost" : Str)) := if_neg h
theorem kept_turn {l : Lk} {lot : Option (Bool × Int)} {e : Prop} (h : lotOk l e lot) (he : e) : keptOf (lotTurn lot) = keptOf lot := by
  rcases lot with _ | ⟨_ | _, m⟩
  · rfl
  · exact absurd he (h.2.2 rfl)
  · rfl
theorem lot_turn {l : Lk} {lot : Option (Bool × Int)} {e e' : Prop} (h : lotOk l e lot) : lotOk l e' (lotTurn lot) := by
  rcases lot with _ | ⟨s, m⟩
  · exact True.intro
  · exact ⟨h.1, h.2.1, fun z => nomatch z⟩
theorem ok_hear {l : Lk} {c : Ct} {b : Bool} (so : l.Sound) (f : Fits l c) (po : Poss l c (.hear b)) : Fits l (behind l c (.hear b)).1 ∧ harm l (behind l c (.hear b)).1 + wr (behind l c (.hear b)).2 ≤ harm l c := by
  have po : 0 < c.ban b := po
  have fb := fits_bk f po
  obtain ⟨s1, s2⟩ := so
  show Fits l (heard l c b).1 ∧ harm l (heard l c b).1 + wr (heard l c b).2 ≤ harm l c
  by_cases hc : bI b ≠ c.bit ∨ c.hd + 1 < l.q
  · rw [heard_on hc]
    constructor
    · refine ⟨?_, ?_, ?_, ?_, ?_, fb.n0, fb.n1, fb.n2, fb.ns, fb.b0, fb.b1, fb.bs⟩
      · cases b <;> exact f.bit
      · show 0 ≤ c.hd + if bI b = c.bit then 1 else 0
        have := f.hd0
        split <;> omega
      · show (c.hd + if bI b = c.bit then 1 else 0) ≤ l.q - 1
        have := f.hd1
        split
        · rename_i h
          rcases hc with z | z
          · exact absurd h z
          · omega
        · omega
      · cases b <;> exact f.ot
      · cases b <;> exact f.lot
    · show harm l _ + 0 ≤ harm l c
      rw [Int.add_zero]
      refine harm_mono ?_ ?_ ?_ ?_ ?_
      · cases b <;> rfl
      · cases b <;> rfl
      · cases b <;> rfl
      · rcases f.bit with h | h
        · cases b
          · show (c.hd + (if (0 : Int) = c.bit then 1 else 0)) + (if c.bit = 0 then c.b0 + -1 else c.b1) ≤ c.hd + (if c.bit = 0 then c.b0 else c.b1)
            simp only [h]
            simp
            omega
          · show (c.hd + (if (1 : Int) = c.bit then 1 else 0)) + (if c.bit = 0 then c.b0 else c.b1 + -1) ≤ c.hd + (if c.bit = 0 then c.b0 else c.b1)
            simp only [h]
            simp
        · cases b
          · show (c.hd + (if (0 : Int) = c.bit then 1 else 0)) + (if c.bit = 0 then c.b0 + -1 else c.b1) ≤ c.hd + (if c.bit = 0 then c.b0 else c.b1)
            simp only [h]
            simp
          · show (c.hd + (if (1 : Int) = c.bit then 1 else 0)) + (if c.bit = 0 then c.b0 else c.b1 + -1) ≤ c.hd + (if c.bit = 0 then c.b0 else c.b1)
            simp only [h]
            simp
            omega
      · cases b <;> exact Int.le_refl _
  · rw [heard_end hc]
    have hb : bI b = c.bit := Decidable.byContradiction fun z => hc (.inl z)
    have hq : l.q ≤ c.hd + 1 := Int.not_lt.mp fun z => hc (.inr z)
    have g1 := f.n0
    have g2 := f.n1
    have g3 := f.n2
    have g4 := f.ns
    have g5 := f.b0
    have g6 := f.b1
    have g7 := f.bs
    have g8 := f.hd0
    have g9 := f.hd1
    constructor
    · refine ⟨?_, Int.le_refl _, ?_, ?_, ?_, Int.le_refl _, ?_, ?_, ?_, fb.b0, fb.b1, fb.bs⟩
      · show 1 - c.bit = 0 ∨ 1 - c.bit = 1
        have := f.bit
        omega
      · show 0 ≤ l.q - 1
        omega
      · cases b <;> exact f.ot
      · cases b <;> exact lot_turn f.lot
      · show 0 ≤ c.n1 + if c.bit = 0 then c.n0 else 0
        split <;> omega
      · show 0 ≤ c.n2 + if c.bit = 0 then 0 else c.n0
        split <;> omega
      · show 0 + (c.n1 + if c.bit = 0 then c.n0 else 0) + (c.n2 + if c.bit = 0 then 0 else c.n0) ≤ l.c
        split <;> omega
    · -- the answers suffice ahead, not behind
      generalize hc' : ({ c.bkAdd (-1) b with bit := 1 - c.bit, hd := 0, lot := lotTurn c.lot, dn := false, n0 := 0, n1 := c.n1 + (if c.bit = 0 then c.n0 else 0), n2 := c.n2 + if c.bit = 0 then 0 else c.n0 } : Ct) = c'
      have e1 : c'.bit = 1 - c.bit := by rw [← hc']
      have e2 : c'.ot = c.ot := by rw [← hc']; cases b <;> rfl
      have e3 : c'.dn = false := by rw [← hc']
      have hA : decide (l.q ≤ c.ans) = true := decide_eq_true (by
        have hb' : bI b = c.bit := hb
        unfold Ct.ans
        cases b
        · have h0 : c.bit = 0 := hb'.symm
          have p0 : 0 < c.b0 := po
          rw [if_pos h0]
          omega
        · have h0 : c.bit = 1 := hb'.symm
          have p0 : 0 < c.b1 := po
          rw [if_neg (by omega)]
          omega)
      have hA' : decide (l.q ≤ c'.ans) = false := decide_eq_false (by
        have hb' : bI b = c.bit := hb
        rw [← hc']
        unfold Ct.ans
        cases b
        · have h0 : c.bit = 0 := hb'.symm
          have p0 : 0 < c.b0 := po
          show ¬ l.q ≤ 0 + if 1 - c.bit = 0 then c.b0 + -1 else c.b1
          rw [if_neg (by omega)]
          omega
        · have h0 : c.bit = 1 := hb'.symm
          have p0 : 0 < c.b1 := po
          show ¬ l.q ≤ 0 + if 1 - c.bit = 0 then c.b0 else c.b1 + -1
          rw [if_pos (by omega)]
          omega)
      have hw : wr (if c.dn = true then none else some ("lost" : Str)) = if c.dn = true then 0 else 1 := by cases c.dn <;> rfl
      show harm l c' + wr (if c.dn = true then none else some ("lost" : Str)) ≤ harm l c
      rw [hw]
      by_cases ev : c.bit = c.ot
      · have eo : c'.old = c.old := by
          unfold Ct.old
          rw [e2, ← hc']
          show (if c.ot = 0 then c.n2 + (if c.bit = 0 then 0 else c.n0) else c.n1 + (if c.bit = 0 then c.n0 else 0)) + keptOf (lotTurn c.lot) = (if c.ot = 0 then c.n2 else c.n1) + keptOf c.lot
          rw [kept_turn f.lot ev, ev]
          rcases f.ot with z | z
          · rw [if_pos z, if_pos z, if_pos z]
            omega
          · have z' : ¬ c.ot = 0 := by omega
            rw [if_neg z', if_neg z', if_neg z']
            omega
        rw [harm_by (c := c') (decide_eq_false (by rw [e1, e2]; have := f.bit; omega)) e3 hA' (by rw [eo]), harm_by (c := c) (decide_eq_true ev) rfl hA rfl]
        generalize decide (l.p ≤ c.old) = o
        cases c.dn <;> cases o <;> simp [harmOf]
      · rw [harm_by (c := c') (decide_eq_true (by rw [e1, e2]; have := f.bit; have := f.ot; omega)) e3 hA' rfl, harm_by (c := c) (decide_eq_false ev) rfl hA rfl]
        generalize decide (l.p ≤ c.old) = o
        generalize decide (l.p ≤ c'.old) = o'
        cases c.dn <;> cases o <;> cases o' <;> simp [harmOf]
theorem answer_same (l : Lk) (m : Int) (c : Ct) (hb : c.bit = 0 ∨ c.bit = 1) : (answer l m c).bit = c.bit ∧ (answer l m c).ot = c.ot ∧ (answer l m c).dn = c.dn ∧ (answer l m c).old = c.old ∧ (m ≠ c.bit → (m = 0 ∨ m = 1) → (answer l m c).ans = c.ans) := by
  unfold answer
  by_cases h : m = c.ot ∧ c.b0 + c.b1 < l.d
  · rw [if_pos h]
    by_cases hm : m = 1
    · rw [decide_eq_true hm]
      refine ⟨rfl, rfl, rfl, rfl, fun z _ => ?_⟩
      show c.hd + (if c.bit = 0 then c.b0 else c.b1 + 1) = c.hd + (if c.bit = 0 then c.b0 else c.b1)
      rw [if_pos (by omega), if_pos (by omega)]
    · rw [decide_eq_false hm]
      refine ⟨rfl, rfl, rfl, rfl, fun z _ => ?_⟩
      show c.hd + (if c.bit = 0 then c.b0 + 1 else c.b1) = c.hd + (if c.bit = 0 then c.b0 else c.b1)
      rw [if_neg (by omega), if_neg (by omega)]
  · rw [if_neg h]
    exact ⟨rfl, rfl, rfl, rfl, fun _ _ => rfl⟩
theorem fits_answer {l : Lk} {m : Int} {c : Ct} (f : Fits l c) (hm : m = 0 ∨ m = 1) : Fits l (answer l m c) := by
  unfold answer
  by_cases h : m = c.ot ∧ c.b0 + c.b1 < l.d
  · rw [if_pos h]
    obtain ⟨f1, f2, f3, f4, f5, f6, f7, f8, f9, f10, f11, f12⟩ := f
    obtain ⟨h1, h2⟩ := h
    by_cases hm : m = 1
    · rw [decide_eq_true hm]
      exact ⟨f1, f2, f3, f4, f5, f6, f7, f8, f9, f10, by show 0 ≤ c.b1 + 1; omega, by show c.b0 + (c.b1 + 1) ≤ l.d; omega⟩
    · rw [decide_eq_false hm]
      exact ⟨f1, f2, f3, f4, f5, f6, f7, f8, f9, by show 0 ≤ c.b0 + 1; omega, f11, by show c.b0 + 1 + c.b1 ≤ l.d; omega⟩
  · rw [if_neg h]
    exact f
theorem mark_bit {l : Lk} {c : Ct} (f : Fits l c) (k : Cp) : c.mark k = 0 ∨ c.mark k = 1 := by
  cases k
  · exact f.bit
  · exact .inl rfl
  · exact .inr rfl
theorem other_small {l : Lk} {c : Ct} {k : Cp} (f : Fits l c) (po : 0 < c.cnt k) : (if c.mark k = 0 then (c.thAdd (-1) k).n2 else (c.thAdd (-1) k).n1) ≤ l.c - 1 := by
  have g1 := f.n0
  have g2 := f.n1
  have g3 := f.n2
  have g4 := f.ns
  cases k
  · have p0 : 0 < c.n0 := po
    show (if c.bit = 0 then c.n2 else c.n1) ≤ l.c - 1
    split <;> omega
  · have p0 : 0 < c.n1 := po
    show (if (0 : Int) = 0 then c.n2 else c.n1 + -1) ≤ l.c - 1
    rw [if_pos rfl]
    omega
  · have p0 : 0 < c.n2 := po
    show (if (1 : Int) = 0 then c.n2 + -1 else c.n1) ≤ l.c - 1
    rw [if_neg (by decide)]
    omega
theorem kept_nn {l : Lk} {e : Prop} {lot : Option (Bool × Int)} (h : lotOk l e lot) : 0 ≤ keptOf lot := by
  rcases lot with _ | ⟨_ | _, m⟩
  · exact Int.le_refl 0
  · exact Int.le_refl 0
  · have := h.1
    show 0 ≤ m
    omega
theorem more_old (lot : Option (Bool × Int)) : lotMore true lot = keptOf lot + 1 := by
  rcases lot with _ | ⟨_ | _, m⟩ <;> simp [lotMore, keptOf]
theorem more_pos {l : Lk} {e : Prop} {lot : Option (Bool × Int)} (h : lotOk l e lot) (s : Bool) : 1 ≤ lotMore s lot := by
  rcases lot with _ | ⟨t, m⟩
  · exact Int.le_refl 1
  · have := h.1
    show 1 ≤ if t = s then m + 1 else 1
    split <;> omega
theorem th_old (c : Ct) (k : Cp) : (c.thAdd (-1) k).old = (if c.ot = 0 then (c.thAdd (-1) k).n2 else (c.thAdd (-1) k).n1) + keptOf c.lot := by
  cases k <;> rfl
theorem ok_bring {l : Lk} {c : Ct} {k : Cp} (so : l.Sound) (f : Fits l c) (po : Poss l c (.bring k)) : Fits l (behind l c (.bring k)).1 ∧ harm l (behind l c (.bring k)).1 + wr (behind l c (.bring k)).2 ≤ harm l c := by
  have po : 0 < c.cnt k := po
  have fe := fits_th f po
  obtain ⟨t1, t2, t3, t4⟩ := th_same c k
  have hm := mark_bit f k
  have sm := other_small f po
  have kn := kept_nn f.lot
  obtain ⟨s1, s2⟩ := so
  show Fits l (brought l c k).1 ∧ harm l (brought l c k).1 + wr (brought l c k).2 ≤ harm l c
  unfold brought
  dsimp only
  by_cases h1 : c.mark k = c.ot
  · rw [if_pos h1]
    generalize hc1 : ({ c.thAdd (-1) k with lot := none } : Ct) = c1
    have f1 : Fits l c1 := by
      rw [← hc1]
      exact ⟨fe.bit, fe.hd0, fe.hd1, fe.ot, True.intro, fe.n0, fe.n1, fe.n2, fe.ns, fe.b0, fe.b1, fe.bs⟩
    have b1 : c1.bit = c.bit := by rw [← hc1]; exact t1
    have o1 : c1.ot = c.ot := by rw [← hc1]; exact t2
    have d1 : c1.dn = c.dn := by rw [← hc1]; exact t3
    have a1 : c1.ans = c.ans := by rw [← t4, ← hc1]; rfl
    have k1 : c1.old = if c.ot = 0 then (c.thAdd (-1) k).n2 else (c.thAdd (-1) k).n1 := by
      rw [← hc1]
      show (if (c.thAdd (-1) k).ot = 0 then _ else _) + 0 = _
      rw [t2, Int.add_zero]
    obtain ⟨q1, q2, q3, q4, q5⟩ := answer_same l (c.mark k) c1 f1.bit
    refine ⟨fits_answer f1 hm, ?_⟩
    show harm l (answer l (c.mark k) c1) + 0 ≤ harm l c
    rw [Int.add_zero]
    by_cases ev : c.bit = c.ot
    · have oF : decide (l.p ≤ (answer l (c.mark k) c1).old) = false := decide_eq_false (by
        rw [q4, k1, ← h1]
        omega)
      rw [harm_by (c := answer l (c.mark k) c1) (decide_eq_true (by rw [q1, q2, b1, o1]; exact ev)) (q3.trans d1) rfl oF, harm_by (c := c) (decide_eq_true ev) rfl rfl rfl]
      generalize decide (l.q ≤ (answer l (c.mark k) c1).ans) = x
      generalize decide (l.q ≤ c.ans) = y
      generalize decide (l.p ≤ c.old) = z
      cases c.dn <;> cases x <;> cases y <;> cases z <;> simp [harmOf]
    · refine harm_mono (q1.trans b1) (q2.trans o1) (q3.trans d1) (Int.le_of_eq ((q5 (by rw [b1, h1]; exact fun z => ev z.symm) hm).trans a1)) ?_
      rw [q4, k1]
      have := old_th c k
      rw [th_old] at this
      omega
  · rw [if_neg h1]
    by_cases h2 : l.p ≤ lotMore k.isOld c.lot
    · rw [if_pos h2]
      generalize hc1 : ({ c.thAdd (-1) k with lot := none, ot := c.mark k, dn := c.dn || !k.isOld } : Ct) = c1
      have f1 : Fits l c1 := by
        rw [← hc1]
        exact ⟨fe.bit, fe.hd0, fe.hd1, hm, True.intro, fe.n0, fe.n1, fe.n2, fe.ns, fe.b0, fe.b1, fe.bs⟩
      have b1 : c1.bit = c.bit := by rw [← hc1]; exact t1
      have o1 : c1.ot = c.mark k := by rw [← hc1]
      have d1 : c1.dn = (c.dn || !k.isOld) := by rw [← hc1]
      have a1 : c1.ans = c.ans := by rw [← t4, ← hc1]; rfl
      have k1 : c1.old = if c.mark k = 0 then (c.thAdd (-1) k).n2 else (c.thAdd (-1) k).n1 := by
        rw [← hc1]
        exact Int.add_zero _
      obtain ⟨q1, q2, q3, q4, q5⟩ := answer_same l (c.mark k) c1 f1.bit
      refine ⟨fits_answer f1 hm, ?_⟩
      have oF : decide (l.p ≤ (answer l (c.mark k) c1).old) = false := decide_eq_false (by
        rw [q4, k1]
        omega)
      cases hk : k.isOld with
      | false =>
        have hkn : k = .new := by cases k <;> first | rfl | cases hk
        subst hkn
        have ev : ¬ c.bit = c.ot := h1
        show harm l (answer l (c.mark .new) c1) + wr (if c.dn = true then some ("twice" : Str) else none) ≤ harm l c
        have d2 : (answer l (c.mark .new) c1).dn = true := by rw [q3, d1]; simp [Cp.isOld]
        rw [harm_by (c := answer l (c.mark .new) c1) (decide_eq_true (by rw [q1, q2, b1, o1]; rfl)) d2 rfl oF, harm_by (c := c) (decide_eq_false ev) rfl rfl rfl]
        generalize decide (l.q ≤ c.ans) = y
        generalize decide (l.p ≤ c.old) = z
        cases c.dn <;> cases y <;> cases z <;> simp [harmOf, wr]
      | true =>
        rw [hk] at d1 h2
        rw [more_old] at h2
        have d2 : (answer l (c.mark k) c1).dn = c.dn := by rw [q3, d1]; simp
        have oT : decide (l.p ≤ c.old) = true := decide_eq_true (by
          unfold Ct.old
          cases k with
          | new => cases hk
          | zero =>
            have p0 : 0 < c.n1 := po
            have z : ¬ c.ot = 0 := fun z => h1 z.symm
            rw [if_neg z]
            omega
          | one =>
            have p0 : 0 < c.n2 := po
            have z : c.ot = 0 := by
              have := f.ot
              have h1' : ¬ (1 : Int) = c.ot := h1
              omega
            rw [if_pos z]
            omega)
        show harm l (answer l (c.mark k) c1) + 1 ≤ harm l c
        by_cases ev : c.bit = c.ot
        · have hne : c.mark k ≠ c.bit := fun z => h1 (z.trans ev)
          have aE : (answer l (c.mark k) c1).ans = c.ans := (q5 (by rw [b1]; exact hne) hm).trans a1
          rw [harm_by (c := answer l (c.mark k) c1) (decide_eq_false (by rw [q1, q2, b1, o1]; exact fun z => hne z.symm)) d2 (by rw [aE]) oF, harm_by (c := c) (decide_eq_true ev) rfl rfl oT]
          generalize decide (l.q ≤ c.ans) = y
          cases c.dn <;> cases y <;> simp [harmOf]
        · have he : c.mark k = c.bit := by
            have := f.bit
            have := f.ot
            omega
          rw [harm_by (c := answer l (c.mark k) c1) (decide_eq_true (by rw [q1, q2, b1, o1]; exact he.symm)) d2 rfl oF, harm_by (c := c) (decide_eq_false ev) rfl rfl oT]
          generalize decide (l.q ≤ c.ans) = y
          generalize decide (l.q ≤ (answer l (c.mark k) c1).ans) = x
          cases c.dn <;> cases y <;> cases x <;> simp [harmOf]
    · rw [if_neg h2]
      generalize hc1 : ({ c.thAdd (-1) k with lot := some (k.isOld, lotMore k.isOld c.lot) } : Ct) = c1
      have b1 : c1.bit = c.bit := by rw [← hc1]; exact t1
      have o1 : c1.ot = c.ot := by rw [← hc1]; exact t2
      have d1 : c1.dn = c.dn := by rw [← hc1]; exact t3
      have a1 : c1.ans = c.ans := by rw [← t4, ← hc1]; rfl
      have na : answer l (c.mark k) c1 = c1 := if_neg fun z => h1 (z.1.trans o1)
      rw [na]
      constructor
      · show Fits l c1
        rw [← hc1]
        refine ⟨fe.bit, fe.hd0, fe.hd1, fe.ot, ⟨more_pos f.lot _, by omega, fun z => ?_⟩, fe.n0, fe.n1, fe.n2, fe.ns, fe.b0, fe.b1, fe.bs⟩
        show ¬ (c.thAdd (-1) k).bit = (c.thAdd (-1) k).ot
        rw [t1, t2]
        cases k
        · exact h1
        · cases z
        · cases z
      · show harm l c1 + 0 ≤ harm l c
        rw [Int.add_zero]
        refine harm_mono b1 o1 d1 (Int.le_of_eq a1) ?_
        rw [← hc1]
        unfold Ct.old
        show (if (c.thAdd (-1) k).ot = 0 then (c.thAdd (-1) k).n2 else (c.thAdd (-1) k).n1) + keptOf (some (k.isOld, lotMore k.isOld c.lot)) ≤ (if c.ot = 0 then c.n2 else c.n1) + keptOf c.lot
        rw [t2]
        cases k with
        | new =>
          show (if c.ot = 0 then c.n2 else c.n1) + 0 ≤ _
          omega
        | zero =>
          show (if c.ot = 0 then c.n2 else c.n1 + -1) + lotMore true c.lot ≤ _
          have z : ¬ c.ot = 0 := fun z => h1 z.symm
          rw [more_old, if_neg z, if_neg z]
          omega
        | one =>
          show (if c.ot = 0 then c.n2 + -1 else c.n1) + lotMore true c.lot ≤ _
          have z : c.ot = 0 := by
            have := f.ot
            have h1' : ¬ (1 : Int) = c.ot := h1
            omega
          rw [more_old, if_pos z, if_pos z]
          omega
/-- THE LAW of one step -/
theorem step_ok {l : Lk} {c : Ct} {e : Ev} (so : l.Sound) (f : Fits l c) (po : Poss l c e) : Fits l (behind l c e).1 ∧ harm l (behind l c e).1 + wr (behind l c e).2 ≤ harm l c := by
  cases e
  · exact ok_send f po
  · exact ok_bring so f po
  · exact ok_drop f po
  · exact ok_hear so f po
  · exact ok_miss f po
end HW

namespace HW
open PySem PySem.Spec PyProof.Rows L2 DL
section
variable {K : PySem.W.Frag} {P : Program} {w : World} {base : Heap} {mg : Str → Option Value}
local macro_rules | `(tactic| walk_at "sk") => `(tactic| with_reducible first | exact sk_new | exact sk_old | exact sk_send | exact sk_drop | exact sk_bring | exact sk_miss | exact sk_hear | exact sk_made | exact sk_twice | exact sk_lost | exact sk_zero | exact sk_one)
local macro_rules | `(tactic| walk_at "st") => `(tactic| first
  | ((with_reducible refine isVar ?_); first | refine ej_var rfl ?_)
  | ((with_reducible refine isTC ?_); first | with_reducible refine ej_int ?_ | with_reducible refine ej_str ?_ | with_reducible refine ej_non ?_ | with_reducible refine ej_bl ?_ | with_reducible refine ej_val ?_)
  | ((with_reducible refine isEJ ?_); first | with_reducible refine ej_op ?_ | with_reducible refine ej_call ?_ | with_reducible refine ej_cb ?_ | with_reducible refine ej_if ?_ | with_reducible refine ej_tup ?_ | with_reducible refine ej_andV ?_ | with_reducible refine ej_orV ?_ | with_reducible refine ej_notV ?_ | with_reducible refine ej_un ?_ | with_reducible refine ej_bits ?_ | with_reducible refine ej_dsS (by dsimp only [wipeD, List.map_cons, List.map_nil, List.set_cons_succ, List.set_cons_zero]; rfl) ?_)
  | ((with_reducible refine isAJ ?_); first | with_reducible refine aj_cons ?_ | with_reducible refine aj_nil ?_)
  | ((with_reducible refine isIx ?_); first | refine oj_ixT rfl ?_ | refine oj_ixL rfl ?_ | refine oj_ixM (by first | assumption | exact put_same _ _ _) rfl ?_)
  | ((with_reducible refine isOJ ?_); first | with_reducible refine oj_I0i ?_ | with_reducible refine oj_I0b ?_ | with_reducible refine oj_eqi ?_ | with_reducible refine oj_nei ?_ | with_reducible refine oj_eqb ?_ | with_reducible refine oj_eqsT (by walk_at "sk") ?_ | refine oj_eqsF (by walk_at "sk") (by walk_at "sk") (by decide +kernel) ?_ | with_reducible refine oj_isNone ?_ | with_reducible refine oj_notNone ?_ | with_reducible refine oj_eq_nil ?_ | with_reducible refine oj_ne_nil ?_ | refine oj_ninD (b := true) (by decide +kernel) (by decide +kernel) (by decide +kernel) ?_ | refine oj_ninD (b := false) (by decide +kernel) (by decide +kernel) (by decide +kernel) ?_)
  | ((with_reducible refine isTJ ?_); first | with_reducible refine tj_test ?_ | with_reducible refine tj_B ?_ | with_reducible refine tj_and ?_ | with_reducible refine tj_or ?_ | with_reducible refine tj_not ?_ | with_reducible refine tj_yes ?_ | with_reducible refine tj_dsS (by dsimp only [wipeD, List.map_cons, List.map_nil, List.set_cons_succ, List.set_cons_zero]; rfl) ?_)
  | ((with_reducible refine isSJ ?_); first | with_reducible refine sj_dsS (by dsimp only [wipeD, List.map_cons, List.map_nil, List.set_cons_succ, List.set_cons_zero]; rfl) ?_ | with_reducible refine sj_seq ?_ | with_reducible refine sj_set ?_ | with_reducible refine sj_ret ?_ | with_reducible refine sj_if ?_ | with_reducible refine sj_drop ?_ | with_reducible refine sj_par ?_ | with_reducible refine sj_par3 ?_ | with_reducible refine sj_asg ?_ | with_reducible refine sj_next ?_)
  | ((with_reducible refine isCJ ?_); first | with_reducible refine cj_isi_ib ?_ | refine cj_isi_same rfl ?_ | with_reducible refine cj_lenL ?_ | with_reducible refine cj_lenT ?_ | with_reducible refine cj_int ?_ | with_reducible refine cj_intb ?_ | with_reducible refine cj_max ?_ | with_reducible refine cj_min ?_)
  | ((with_reducible refine isGJ ?_); first | with_reducible refine gj_name ?_ | refine gj_tup rfl ?_ | refine gj_unl rfl ?_)
  | ((with_reducible refine isGs ?_); first | refine gsj_cons ?_ | refine gsj_nil ?_)
  | ((with_reducible refine isLJ ?_); first | with_reducible refine lj_name (by decide) ?_ | refine lj_tup rfl ?_)
  | ((with_reducible refine isLs ?_); first | refine lsj_cons ?_ | refine lsj_nil ?_)
  | ((with_reducible refine isIJ ?_); first | with_reducible refine ij_list ?_ | with_reducible refine ij_tup ?_ | with_reducible refine ij_range1 ?_ | with_reducible refine ij_range2 ?_ | with_reducible refine ij_enum ?_ | with_reducible refine ij_enumT ?_ | with_reducible refine ij_zip ?_)
  | with_reducible refine uj_neg ?_ | with_reducible refine fj_A rfl ?_ | with_reducible refine ⟨_, rfl, ?_⟩ | with_reducible refine ⟨_, _, rfl, ?_⟩ | with_reducible refine ⟨_, _, _, rfl, ?_⟩ | refine brT rfl ?_ | refine brF rfl ?_ | refine ⟨[_, _], rfl, Nat.le_of_ble_eq_true rfl, ?_⟩ | refine ⟨[_, _, _], rfl, Nat.le_of_ble_eq_true rfl, ?_⟩ | refine ⟨[_, _, _, _], rfl, Nat.le_of_ble_eq_true rfl, ?_⟩ | refine ⟨[], rfl, Nat.le_of_ble_eq_true rfl, ?_⟩ | refine ⟨[_], rfl, Nat.le_of_ble_eq_true rfl, ?_⟩ | refine ⟨[_, _, _, _, _], rfl, Nat.le_of_ble_eq_true rfl, ?_⟩)
local macro_rules | `(tactic| walk_at "sl") => `(tactic| first | walk_at "st" | with_reducible refine ej_lst ?_)
local macro_rules | `(tactic| walk_at "sd") => `(tactic| first | walk_at "st" | dsimp only [sortS, lotD])

def T_is_whole : TF := pureT fun ps r => ∃ i, ps = [.int i] ∧ r = .bool true
theorem c_is_whole (T : Top K mg) : Cal P w K mg base 1 "is_whole" (spA K 1 T_is_whole) := by
  refine T.d_is_whole.cal sc_is_whole rfl fun f cdv A outer s H E hr => ⟨_, (pss_one (ps_ret (pe_and (pe_callB (isiK K) (by rfl) T.b_isinstance bt_isinstance (pa_cons (pv 0) (pa_cons (pe_bltn (v := .ty "int") (by rfl) T.b_int bt_int rfl) pa_nil))) (pe_one (pe_not (pe_callB (isiK K) (by rfl) T.b_isinstance bt_isinstance (pa_cons (pv 0) (pa_cons (pe_bltn (v := .ty "bool") (by rfl) T.b_bool bt_bool rfl) pa_nil)))))))), ?_⟩
  rintro xs M Q - ⟨ps, r, rfl, ⟨i, rfl, rfl⟩, q⟩
  refine sj_ds (ds' := [some _]) rfl ?_
  repeat walk_at "st"
  exact q
def loOk (v : Int) : PyData → Prop
  | .none => True
  | .int l => l ≤ v
  | _ => False
def hiOk (v : Int) : PyData → Prop
  | .none => True
  | .int l => v ≤ l
  | _ => False
def T_is_between : TF := pureT fun ps r => ∃ i lo hi, ps = [.int i, lo, hi] ∧ loOk i lo ∧ hiOk i hi ∧ r = .bool true
theorem c_is_between (T : Top K mg) : Cal P w K mg base 2 "is_between" (spA K 3 T_is_between) := by
  refine T.d_is_between.cal sc_is_between rfl fun f cdv A outer s H E hr => ⟨_, (pss_cons (ps_if (pt_not (pt_val (pe_c (c_is_whole (K := K) T) hr (by decide) (by rfl) (pa_cons (pv 0) pa_nil)))) (pss_one (ps_ret pe_bl)) pss_nil)
      (pss_one (ps_ret (pe_and (pe_or (pe_cmpR op_isNone (pv 1) pe_non (nomark _)) (pe_one (pe_cmpR op_ge (pv 0) (pv 1) (nomark _)))) (pe_one (pe_or (pe_cmpR op_isNone (pv 2) pe_non (nomark _)) (pe_one (pe_cmpR op_le (pv 0) (pv 2) (nomark _))))))))), ?_⟩
  rintro xs M Q - ⟨ps, r, rfl, ⟨i, lo, hi, rfl, hl, hh, rfl⟩, q⟩
  refine sj_ds (ds' := [some _, some _, some _]) rfl ?_
  repeat walk_at "st"
  refine ⟨[_], _, rfl, ⟨_, rfl, rfl⟩, ?_⟩
  repeat walk_at "st"
  cases lo <;> (try exact hl.elim)
  · repeat walk_at "st"
    cases hi <;> (try exact hh.elim)
    · repeat walk_at "st"
      exact q
    · repeat walk_at "st"
      have e := decide_eq_true (show i ≤ _ from hh)
      rw [e]
      exact q
  · have e := decide_eq_true (show _ ≤ i from hl)
    repeat walk_at "st"
    refine brT e ?_
    repeat walk_at "st"
    cases hi <;> (try exact hh.elim)
    · repeat walk_at "st"
      exact q
    · repeat walk_at "st"
      have e := decide_eq_true (show i ≤ _ from hh)
      rw [e]
      exact q
def T_check_number : TF := pureT fun ps r => ∃ i lo hi, ps = [.int i, lo, hi] ∧ loOk i lo ∧ hiOk i hi ∧ r = .none
theorem c_check_number (T : Top K mg) : Cal P w K mg base 3 "check_number" (spA K 3 T_check_number) := by
  refine T.d_check_number.cal sc_check_number rfl fun f cdv A outer s H E hr => ⟨_, (pss_one (ps_if (pt_not (pt_val (pe_c (c_is_between (K := K) T) hr (by decide) (by rfl) (pa_cons (pv 0) (pa_cons (pv 1) (pa_cons (pv 2) pa_nil)))))) (pss_one ps_never) pss_nil)), ?_⟩
  rintro xs M Q - ⟨ps, r, rfl, ⟨i, lo, hi, rfl, hl, hh, rfl⟩, q⟩
  refine sj_ds (ds' := [some _, some _, some _]) rfl ?_
  repeat walk_at "st"
  refine ⟨[_, _, _], _, rfl, ⟨_, _, _, rfl, hl, hh, rfl⟩, ?_⟩
  repeat walk_at "st"
  exact q
def T_bit_fits : TF := pureT fun ps r => ∃ i : Int, ps = [.int i] ∧ (i = 0 ∨ i = 1) ∧ r = .bool true
theorem c_bit_fits (T : Top K mg) : Cal P w K mg base 3 "bit_fits" (spA K 1 T_bit_fits) := by
  refine T.d_bit_fits.cal sc_bit_fits rfl fun f cdv A outer s H E hr => ⟨_, (pss_one (ps_ret (pe_c (c_is_between (K := K) T) hr (by decide) (by rfl) (pa_cons (pv 0) (pa_cons pe_int (pa_cons pe_int pa_nil)))))), ?_⟩
  rintro xs M Q - ⟨ps, r, rfl, ⟨i, rfl, hi, rfl⟩, q⟩
  refine sj_ds (ds' := [some _]) rfl ?_
  repeat walk_at "st"
  exact ⟨[_, _, _], _, rfl, ⟨_, _, _, rfl, (by show (0 : Int) ≤ i; omega), (by show i ≤ (1 : Int); omega), rfl⟩, q⟩
theorem mem_get {d : PyData} {its : List PyData} {i : Nat} (h : its[i]? = some d) : d ∈ its := List.mem_of_getElem? h
def T_link_fits : TF := pureT fun ps r => ∃ l : Lk, ps = [l.D] ∧ l.Ok ∧ r = .bool true
theorem c_link_fits (T : Top K mg) : Cal P w K mg base 3 "link_fits" (spA K 1 T_link_fits) := by
  refine T.d_link_fits.cal sc_link_fits rfl fun f cdv A outer s H E hr => ⟨_, (pss_cons (ps_if (PW.pt (pw_or (pt_not (pt_val (pe_callB (isiK K) (by rfl) T.b_isinstance bt_isinstance (pa_cons (pv 0) (pa_cons (pe_bltn (v := .ty "tuple") (by rfl) T.b_tuple bt_tuple rfl) pa_nil))))) (pw_or1 (pt_cmpR (neK K hr) (pe_callB (lenK K) (by rfl) T.b_len bt_len (pa_cons (pv 0) pa_nil)) pe_int (nomark _))))) (pss_one (ps_ret pe_bl)) pss_nil)
      (pss_one (ps_ret (pe_cmpR (eqK K hr) (pe_lc (own := [("item", 1)]) rfl sc_link_fits.nd (pi_tupK K (pv 0)) (blkOk_by (N := N_link_fits) (sc := defScope s_link_fits) (by decide +kernel)) (fun _ _ _ _ _ => (pg_name (i := 1) sc_link_fits.nd rfl (by first | exact .inl rfl | exact .inr rfl))) (fun _ _ _ _ _ => (pts_one (pt_not (pt_val (pe_c (c_is_between (K := K) T) hr (by decide) (by rfl) (pa_cons (pv 1) (pa_cons pe_int (pa_cons pe_non pa_nil)))))))) (fun _ _ _ _ _ => (pv 1))) (pe_lst pa_nil) (nomark _))))), ?_⟩
  rintro xs M Q - ⟨ps, r, rfl, ⟨⟨c, d, p, q'⟩, rfl, ⟨h1, h2, h3, h4⟩, rfl⟩, q⟩
  refine sj_ds (ds' := [some _, none]) rfl ?_
  dsimp only [Lk.D] at *
  repeat walk_at "st"
  refine ej_lc_none (ij_tup ?_)
  repeat walk_at "st"
  refine ⟨by show 4 ≤ 10000; decide, fun i x hx => ?_, ?_⟩
  · have hm := mem_get hx
    have hi : ∃ j, x = .int j ∧ 1 ≤ j := by
      simp only [List.mem_cons, List.not_mem_nil, or_false] at hm
      rcases hm with rfl | rfl | rfl | rfl
      · exact ⟨_, rfl, h1⟩
      · exact ⟨_, rfl, h2⟩
      · exact ⟨_, rfl, h3⟩
      · exact ⟨_, rfl, h4⟩
    obtain ⟨j, rfl, hj⟩ := hi
    repeat walk_at "st"
    intro M'
    repeat walk_at "st"
    refine ⟨[_, _, _], _, rfl, ⟨_, _, _, rfl, hj, True.intro, rfl⟩, ?_⟩
    repeat walk_at "st"
    exact ⟨rfl, rfl⟩
  · repeat walk_at "sl"
    exact q
def T_sound_fits : TF := pureT fun ps r => ∃ l : Lk, ps = [l.D] ∧ l.Sound ∧ r = .bool true
theorem c_sound_fits (T : Top K mg) : Cal P w K mg base 1 "sound_fits" (spA K 1 T_sound_fits) := by
  refine T.d_sound_fits.cal sc_sound_fits rfl fun f cdv A outer s H E hr => ⟨_, (pss_cons (ps_asg (pv 0) (pg_tupK K (n := 4) rfl (pgs_cons (pg_name (i := 1) sc_sound_fits.nd rfl (.inl rfl)) (pgs_cons (pg_name (i := 2) sc_sound_fits.nd rfl (.inl rfl)) (pgs_cons (pg_name (i := 3) sc_sound_fits.nd rfl (.inl rfl)) (pgs_cons (pg_name (i := 4) sc_sound_fits.nd rfl (.inl rfl)) pgs_nil))))))
      (pss_one (ps_ret (pe_and (pe_cmpR op_ge (pv 3) (pv 1) (nomark _)) (pe_one (pe_cmpR op_ge (pv 4) (pv 2) (nomark _))))))), ?_⟩
  rintro xs M Q - ⟨ps, r, rfl, ⟨⟨c, d, p, q'⟩, rfl, ⟨h1, h2⟩, rfl⟩, q⟩
  refine sj_ds (ds' := [some _, none, none, none, none]) rfl ?_
  dsimp only [Lk.D] at *
  repeat walk_at "st"
  refine brT (decide_eq_true h1) ?_
  repeat walk_at "st"
  rw [decide_eq_true h2]
  exact q
def T_check_sound : TF := pureT fun ps r => ∃ l : Lk, ps = [l.D] ∧ l.Sound ∧ r = .none
theorem c_check_sound (T : Top K mg) : Cal P w K mg base 2 "check_sound" (spA K 1 T_check_sound) := by
  refine T.d_check_sound.cal sc_check_sound rfl fun f cdv A outer s H E hr => ⟨_, (pss_one (ps_if (pt_not (pt_val (pe_c (c_sound_fits (K := K) T) hr (by decide) (by rfl) (pa_cons (pv 0) pa_nil)))) (pss_one ps_never) pss_nil)), ?_⟩
  rintro xs M Q - ⟨ps, r, rfl, ⟨l, rfl, hs, rfl⟩, q⟩
  refine sj_ds (ds' := [some _]) rfl ?_
  repeat walk_at "st"
  refine ⟨[_], _, rfl, ⟨l, rfl, hs, rfl⟩, ?_⟩
  repeat walk_at "st"
  exact q
def T_counts_fit : TF := pureT fun ps r => ∃ (ns : List Int) (n most : Int), ps = [.tuple (ns.map .int), .int n, .int most] ∧ (ns.length : Int) = n ∧ ns.length ≤ 10 ∧ (∀ x ∈ ns, 0 ≤ x) ∧ ns.sum ≤ most ∧ r = .bool true
theorem c_counts_fit (T : Top K mg) : Cal P w K mg base 3 "counts_fit" (spA K 3 T_counts_fit) := by
  refine T.d_counts_fit.cal sc_counts_fit rfl fun f cdv A outer s H E hr => ⟨_, (pss_cons (ps_if (PW.pt (pw_or (pt_not (pt_val (pe_callB (isiK K) (by rfl) T.b_isinstance bt_isinstance (pa_cons (pv 0) (pa_cons (pe_bltn (v := .ty "tuple") (by rfl) T.b_tuple bt_tuple rfl) pa_nil))))) (pw_or1 (pt_cmpR (neK K hr) (pe_callB (lenK K) (by rfl) T.b_len bt_len (pa_cons (pv 0) pa_nil)) (pv 1) (nomark _))))) (pss_one (ps_ret pe_bl)) pss_nil)
      (pss_cons (ps_if (pt_cmpR (neK K hr) (pe_lc (own := [("item", 3)]) rfl sc_counts_fit.nd (pi_tupK K (pv 0)) (blkOk_by (N := N_counts_fit) (sc := defScope s_counts_fit) (by decide +kernel)) (fun _ _ _ _ _ => (pg_name (i := 3) sc_counts_fit.nd rfl (by first | exact .inl rfl | exact .inr rfl))) (fun _ _ _ _ _ => (pts_one (pt_not (pt_val (pe_c (c_is_between (K := K) T) hr (by decide) (by rfl) (pa_cons (pv 3) (pa_cons pe_int (pa_cons pe_non pa_nil)))))))) (fun _ _ _ _ _ => (pv 3))) (pe_lst pa_nil) (nomark _)) (pss_one (ps_ret pe_bl)) pss_nil)
      (pss_one (ps_ret (pe_cmpR op_le (pe_callB (sumK K rfl) (by rfl) T.b_sum bt_sum (pa_cons (pv 0) pa_nil)) (pv 2) (nomark _)))))), ?_⟩
  rintro xs M Q - ⟨ps, r, rfl, ⟨ns, n, most, rfl, hn, hz, h0, hs, rfl⟩, q⟩
  refine sj_ds (ds' := [some _, some _, some _, none]) rfl ?_
  repeat walk_at "st"
  refine brF (by rw [List.length_map, decide_eq_true hn]; rfl) ?_
  repeat walk_at "st"
  refine ej_lc_none (ij_tup ?_)
  repeat walk_at "st"
  refine ⟨by rw [List.length_map]; omega, fun i x hx => ?_, ?_⟩
  · obtain ⟨j, hj, rfl⟩ := List.mem_map.mp (mem_get hx)
    repeat walk_at "st"
    intro M'
    repeat walk_at "st"
    refine ⟨[_, _, _], _, rfl, ⟨_, _, _, rfl, h0 j hj, True.intro, rfl⟩, ?_⟩
    repeat walk_at "st"
    exact ⟨rfl, rfl⟩
  · repeat walk_at "sl"
    refine cj_sumT ?_
    repeat walk_at "st"
    rw [decide_eq_true hs]
    exact q
def T_even_fits : TF := pureT fun ps r => ∃ c : Ct, ps = [c.D] ∧ r = .bool (decide (c.bit = c.ot))
theorem c_even_fits (T : Top K mg) : Cal P w K mg base 1 "even_fits" (spA K 1 T_even_fits) := by
  refine T.d_even_fits.cal sc_even_fits rfl fun f cdv A outer s H E hr => ⟨_, (pss_one (ps_ret (pe_cmpR (eqK K hr) (pe_ix (ixK K) (pe_ix (ixK K) (pv 0) pe_int (fun _ _ => rfl)) pe_int (fun _ _ => rfl)) (pe_ix (ixK K) (pe_ix (ixK K) (pv 0) pe_int (fun _ _ => rfl)) pe_int (fun _ _ => rfl)) (nomark _)))), ?_⟩
  rintro xs M Q - ⟨ps, r, rfl, ⟨c, rfl, rfl⟩, q⟩
  refine sj_ds (ds' := [some _]) rfl ?_
  dsimp only [Ct.D, Ct.sd, Ct.rc] at *
  repeat walk_at "st"
  exact q
def T_old_of : TF := pureT fun ps r => ∃ (c : Ct) (b : Int), ps = [c.D, .int b] ∧ (b = 0 ∨ b = 1) ∧ r = .int (if b = 0 then c.n1 else c.n2)
theorem c_old_of (T : Top K mg) : Cal P w K mg base 1 "old_of" (spA K 2 T_old_of) := by
  refine T.d_old_of.cal sc_old_of rfl fun f cdv A outer s H E hr => ⟨_, (pss_one (ps_ret (pe_ix (ixK K) (pe_ix (ixK K) (pv 0) pe_int (fun _ _ => rfl)) (pe_op op_add pe_int (pv 1)) (fun _ _ => rfl)))), ?_⟩
  rintro xs M Q - ⟨ps, r, rfl, ⟨c, b, rfl, hb, rfl⟩, q⟩
  refine sj_ds (ds' := [some _, some _]) rfl ?_
  dsimp only [Ct.D, Ct.th] at *
  rcases hb with rfl | rfl
  · repeat walk_at "st"
    exact q
  · repeat walk_at "st"
    exact q
def T_answers_of : TF := pureT fun ps r => ∃ (c : Ct) (b : Int), ps = [c.D, .int b] ∧ (b = 0 ∨ b = 1) ∧ r = .int (if b = 0 then c.b0 else c.b1)
theorem c_answers_of (T : Top K mg) : Cal P w K mg base 1 "answers_of" (spA K 2 T_answers_of) := by
  refine T.d_answers_of.cal sc_answers_of rfl fun f cdv A outer s H E hr => ⟨_, (pss_one (ps_ret (pe_ix (ixK K) (pe_ix (ixK K) (pv 0) pe_int (fun _ _ => rfl)) (pv 1) (fun _ _ => rfl)))), ?_⟩
  rintro xs M Q - ⟨ps, r, rfl, ⟨c, b, rfl, hb, rfl⟩, q⟩
  refine sj_ds (ds' := [some _, some _]) rfl ?_
  dsimp only [Ct.D, Ct.bk] at *
  rcases hb with rfl | rfl
  · repeat walk_at "st"
    exact q
  · repeat walk_at "st"
    exact q
def T_answers_in : TF := pureT fun ps r => ∃ (l : Lk) (c : Ct), ps = [c.D] ∧ Fits l c ∧ r = .int c.ans
theorem c_answers_in (T : Top K mg) : Cal P w K mg base 2 "answers_in" (spA K 1 T_answers_in) := by
  refine T.d_answers_in.cal sc_answers_in rfl fun f cdv A outer s H E hr => ⟨_, (pss_one (ps_ret (pe_op op_add (pe_ix (ixK K) (pe_ix (ixK K) (pv 0) pe_int (fun _ _ => rfl)) pe_int (fun _ _ => rfl)) (pe_c (c_answers_of (K := K) T) hr (by decide) (by rfl) (pa_cons (pv 0) (pa_cons (pe_ix (ixK K) (pe_ix (ixK K) (pv 0) pe_int (fun _ _ => rfl)) pe_int (fun _ _ => rfl)) pa_nil)))))), ?_⟩
  rintro xs M Q - ⟨ps, r, rfl, ⟨l, c, rfl, fc, rfl⟩, q⟩
  refine sj_ds (ds' := [some _]) rfl ?_
  repeat walk_at "st"
  refine ⟨[c.D, .int c.bit], _, rfl, ⟨c, c.bit, rfl, fc.bit, rfl⟩, ?_⟩
  repeat walk_at "st"
  exact q
end
end HW

namespace HW
open PySem PySem.Spec PyProof.Rows L2 DL
section
variable {K : PySem.W.Frag} {P : Program} {w : World} {base : Heap} {mg : Str → Option Value}
local macro_rules | `(tactic| walk_at "sk") => `(tactic| with_reducible first | exact sk_new | exact sk_old | exact sk_send | exact sk_drop | exact sk_bring | exact sk_miss | exact sk_hear | exact sk_made | exact sk_twice | exact sk_lost | exact sk_zero | exact sk_one)
local macro_rules | `(tactic| walk_at "st") => `(tactic| first
  | ((with_reducible refine isVar ?_); first | refine ej_var rfl ?_)
  | ((with_reducible refine isTC ?_); first | with_reducible refine ej_int ?_ | with_reducible refine ej_str ?_ | with_reducible refine ej_non ?_ | with_reducible refine ej_bl ?_ | with_reducible refine ej_val ?_)
  | ((with_reducible refine isEJ ?_); first | with_reducible refine ej_op ?_ | with_reducible refine ej_call ?_ | with_reducible refine ej_cb ?_ | with_reducible refine ej_if ?_ | with_reducible refine ej_tup ?_ | with_reducible refine ej_andV ?_ | with_reducible refine ej_orV ?_ | with_reducible refine ej_notV ?_ | with_reducible refine ej_un ?_ | with_reducible refine ej_bits ?_ | with_reducible refine ej_dsS (by dsimp only [wipeD, List.map_cons, List.map_nil, List.set_cons_succ, List.set_cons_zero]; rfl) ?_)
  | ((with_reducible refine isAJ ?_); first | with_reducible refine aj_cons ?_ | with_reducible refine aj_nil ?_)
  | ((with_reducible refine isIx ?_); first | refine oj_ixT rfl ?_ | refine oj_ixL rfl ?_ | refine oj_ixM (by first | assumption | exact put_same _ _ _) rfl ?_)
  | ((with_reducible refine isOJ ?_); first | with_reducible refine oj_I0i ?_ | with_reducible refine oj_I0b ?_ | with_reducible refine oj_eqi ?_ | with_reducible refine oj_nei ?_ | with_reducible refine oj_eqb ?_ | with_reducible refine oj_eqsT (by walk_at "sk") ?_ | refine oj_eqsF (by walk_at "sk") (by walk_at "sk") (by decide +kernel) ?_ | with_reducible refine oj_isNone ?_ | with_reducible refine oj_notNone ?_ | with_reducible refine oj_eq_nil ?_ | with_reducible refine oj_ne_nil ?_ | refine oj_ninD (b := true) (by decide +kernel) (by decide +kernel) (by decide +kernel) ?_ | refine oj_ninD (b := false) (by decide +kernel) (by decide +kernel) (by decide +kernel) ?_)
  | ((with_reducible refine isTJ ?_); first | with_reducible refine tj_test ?_ | with_reducible refine tj_B ?_ | with_reducible refine tj_and ?_ | with_reducible refine tj_or ?_ | with_reducible refine tj_not ?_ | with_reducible refine tj_yes ?_ | with_reducible refine tj_dsS (by dsimp only [wipeD, List.map_cons, List.map_nil, List.set_cons_succ, List.set_cons_zero]; rfl) ?_)
  | ((with_reducible refine isSJ ?_); first | with_reducible refine sj_dsS (by dsimp only [wipeD, List.map_cons, List.map_nil, List.set_cons_succ, List.set_cons_zero]; rfl) ?_ | with_reducible refine sj_seq ?_ | with_reducible refine sj_set ?_ | with_reducible refine sj_ret ?_ | with_reducible refine sj_if ?_ | with_reducible refine sj_drop ?_ | with_reducible refine sj_par ?_ | with_reducible refine sj_par3 ?_ | with_reducible refine sj_asg ?_ | with_reducible refine sj_next ?_)
  | ((with_reducible refine isCJ ?_); first | with_reducible refine cj_isi_ib ?_ | refine cj_isi_same rfl ?_ | with_reducible refine cj_lenL ?_ | with_reducible refine cj_lenT ?_ | with_reducible refine cj_int ?_ | with_reducible refine cj_intb ?_ | with_reducible refine cj_max ?_ | with_reducible refine cj_min ?_)
  | ((with_reducible refine isGJ ?_); first | with_reducible refine gj_name ?_ | refine gj_tup rfl ?_ | refine gj_unl rfl ?_)
  | ((with_reducible refine isGs ?_); first | refine gsj_cons ?_ | refine gsj_nil ?_)
  | ((with_reducible refine isLJ ?_); first | with_reducible refine lj_name (by decide) ?_ | refine lj_tup rfl ?_)
  | ((with_reducible refine isLs ?_); first | refine lsj_cons ?_ | refine lsj_nil ?_)
  | ((with_reducible refine isIJ ?_); first | with_reducible refine ij_list ?_ | with_reducible refine ij_tup ?_ | with_reducible refine ij_range1 ?_ | with_reducible refine ij_range2 ?_ | with_reducible refine ij_enum ?_ | with_reducible refine ij_enumT ?_ | with_reducible refine ij_zip ?_)
  | with_reducible refine uj_neg ?_ | with_reducible refine fj_A rfl ?_ | with_reducible refine ⟨_, rfl, ?_⟩ | with_reducible refine ⟨_, _, rfl, ?_⟩ | with_reducible refine ⟨_, _, _, rfl, ?_⟩ | refine brT rfl ?_ | refine brF rfl ?_ | refine ⟨[_, _], rfl, Nat.le_of_ble_eq_true rfl, ?_⟩ | refine ⟨[_, _, _], rfl, Nat.le_of_ble_eq_true rfl, ?_⟩ | refine ⟨[_, _, _, _], rfl, Nat.le_of_ble_eq_true rfl, ?_⟩ | refine ⟨[], rfl, Nat.le_of_ble_eq_true rfl, ?_⟩ | refine ⟨[_], rfl, Nat.le_of_ble_eq_true rfl, ?_⟩ | refine ⟨[_, _, _, _, _], rfl, Nat.le_of_ble_eq_true rfl, ?_⟩)
local macro_rules | `(tactic| walk_at "sl") => `(tactic| first | walk_at "st" | with_reducible refine ej_lst ?_)
local macro_rules | `(tactic| walk_at "sd") => `(tactic| first | walk_at "st" | dsimp only [sortS, lotD])

def T_lot_fits : TF := pureT fun ps r => ∃ (l : Lk) (lot : Option (Bool × Int)) (e : Bool), ps = [l.D, lotD lot, .bool e] ∧ lotOk l (e = true) lot ∧ r = .bool true
theorem c_lot_fits (T : Top K mg) : Cal P w K mg base 3 "lot_fits" (spA K 3 T_lot_fits) := by
  refine T.d_lot_fits.cal sc_lot_fits rfl fun f cdv A outer s H E hr => ⟨_, (pss_cons (ps_if (pt_cmpR op_isNone (pv 1) pe_non (nomark _)) (pss_one (ps_ret pe_bl)) pss_nil)
      (pss_cons (ps_if (PW.pt (pw_or (pt_not (pt_val (pe_callB (isiK K) (by rfl) T.b_isinstance bt_isinstance (pa_cons (pv 1) (pa_cons (pe_bltn (v := .ty "tuple") (by rfl) T.b_tuple bt_tuple rfl) pa_nil))))) (pw_or (pt_cmpR (neK K hr) (pe_callB (lenK K) (by rfl) T.b_len bt_len (pa_cons (pv 1) pa_nil)) pe_int (nomark _)) (pw_or1 (pt_not (pt_val (pe_callB (isiK K) (by rfl) T.b_isinstance bt_isinstance (pa_cons (pe_ix (ixK K) (pv 1) pe_int (fun _ _ => rfl)) (pa_cons (pe_bltn (v := .ty "str") (by rfl) T.b_str bt_str rfl) pa_nil))))))))) (pss_one (ps_ret pe_bl)) pss_nil)
      (pss_cons (ps_if (PW.pt (pw_or (pt_cmpR (ninK K hr) (pe_ix (ixK K) (pv 1) pe_int (fun _ _ => rfl)) (pe_lst (pa_cons pe_str (pa_cons pe_str pa_nil))) rfl) (pw_or1 (PW.pt (pw_and (pt_cmpR (eqK K hr) (pe_ix (ixK K) (pv 1) pe_int (fun _ _ => rfl)) pe_str (nomark _)) (pw_and1 (pt_val (pv 2)))))))) (pss_one (ps_ret pe_bl)) pss_nil)
      (pss_one (ps_ret (pe_c (c_is_between (K := K) T) hr (by decide) (by rfl) (pa_cons (pe_ix (ixK K) (pv 1) pe_int (fun _ _ => rfl)) (pa_cons pe_int (pa_cons (pe_op op_sub (pe_ix (ixK K) (pv 0) pe_int (fun _ _ => rfl)) pe_int) pa_nil))))))))), ?_⟩
  rintro xs M Q - ⟨ps, r, rfl, ⟨⟨c, d, p, q'⟩, lot, e, rfl, hl, rfl⟩, q⟩
  refine sj_ds (ds' := [some _, some _, some _]) rfl ?_
  dsimp only [Lk.D] at *
  rcases lot with _ | ⟨_ | _, m⟩
  · dsimp only [lotD]
    repeat walk_at "st"
    exact q
  · obtain ⟨h1, h2, h3⟩ := hl
    have he : e = false := by
      cases e
      · rfl
      · exact absurd rfl (h3 rfl)
    subst he
    dsimp only [lotD, sortS]
    repeat walk_at "sl"
    exact ⟨[_, _, _], _, rfl, ⟨_, _, _, rfl, h1, h2, rfl⟩, q⟩
  · obtain ⟨h1, h2, h3⟩ := hl
    dsimp only [lotD, sortS]
    repeat walk_at "sl"
    exact ⟨[_, _, _], _, rfl, ⟨_, _, _, rfl, h1, h2, rfl⟩, q⟩
def T_hosts_fit : TF := pureT fun ps r => ∃ (l : Lk) (c : Ct), ps = [l.D, c.sd, c.rc] ∧ Fits l c ∧ r = .bool true
theorem c_hosts_fit (T : Top K mg) : Cal P w K mg base 4 "hosts_fit" (spA K 3 T_hosts_fit) := by
  refine T.d_hosts_fit.cal sc_hosts_fit rfl fun f cdv A outer s H E hr => ⟨_, (pss_cons (ps_if (PW.pt (pw_or (pt_not (pt_val (pe_callB (isiK K) (by rfl) T.b_isinstance bt_isinstance (pa_cons (pv 1) (pa_cons (pe_bltn (v := .ty "tuple") (by rfl) T.b_tuple bt_tuple rfl) pa_nil))))) (pw_or (pt_cmpR (neK K hr) (pe_callB (lenK K) (by rfl) T.b_len bt_len (pa_cons (pv 1) pa_nil)) pe_int (nomark _)) (pw_or (pt_not (pt_val (pe_callB (isiK K) (by rfl) T.b_isinstance bt_isinstance (pa_cons (pv 2) (pa_cons (pe_bltn (v := .ty "tuple") (by rfl) T.b_tuple bt_tuple rfl) pa_nil))))) (pw_or1 (pt_cmpR (neK K hr) (pe_callB (lenK K) (by rfl) T.b_len bt_len (pa_cons (pv 2) pa_nil)) pe_int (nomark _))))))) (pss_one (ps_ret pe_bl)) pss_nil)
      (pss_cons (ps_if (PW.pt (pw_or (pt_not (pt_val (pe_c (c_bit_fits (K := K) T) hr (by decide) (by rfl) (pa_cons (pe_ix (ixK K) (pv 1) pe_int (fun _ _ => rfl)) pa_nil)))) (pw_or1 (pt_not (pt_val (pe_c (c_is_between (K := K) T) hr (by decide) (by rfl) (pa_cons (pe_ix (ixK K) (pv 1) pe_int (fun _ _ => rfl)) (pa_cons pe_int (pa_cons (pe_op op_sub (pe_ix (ixK K) (pv 0) pe_int (fun _ _ => rfl)) pe_int) pa_nil))))))))) (pss_one (ps_ret pe_bl)) pss_nil)
      (pss_cons (ps_if (PW.pt (pw_or (pt_not (pt_val (pe_c (c_bit_fits (K := K) T) hr (by decide) (by rfl) (pa_cons (pe_ix (ixK K) (pv 2) pe_int (fun _ _ => rfl)) pa_nil)))) (pw_or1 (pt_not (pt_val (pe_callB (isiK K) (by rfl) T.b_isinstance bt_isinstance (pa_cons (pe_ix (ixK K) (pv 2) pe_int (fun _ _ => rfl)) (pa_cons (pe_bltn (v := .ty "bool") (by rfl) T.b_bool bt_bool rfl) pa_nil)))))))) (pss_one (ps_ret pe_bl)) pss_nil)
      (pss_one (ps_ret (pe_c (c_lot_fits (K := K) T) hr (by decide) (by rfl) (pa_cons (pv 0) (pa_cons (pe_ix (ixK K) (pv 2) pe_int (fun _ _ => rfl)) (pa_cons (pe_cmpR (eqK K hr) (pe_ix (ixK K) (pv 1) pe_int (fun _ _ => rfl)) (pe_ix (ixK K) (pv 2) pe_int (fun _ _ => rfl)) (nomark _)) pa_nil))))))))), ?_⟩
  rintro xs M Q - ⟨ps, r, rfl, ⟨l, c, rfl, fc, rfl⟩, q⟩
  refine sj_ds (ds' := [some _, some _, some _]) rfl ?_
  dsimp only [Ct.sd, Ct.rc] at *
  repeat walk_at "st"
  refine ⟨[_], _, rfl, ⟨_, rfl, fc.bit, rfl⟩, ?_⟩
  repeat walk_at "st"
  refine ⟨[_, _, _], _, rfl, ⟨_, _, _, rfl, fc.hd0, fc.hd1, rfl⟩, ?_⟩
  repeat walk_at "st"
  refine ⟨[_], _, rfl, ⟨_, rfl, fc.ot, rfl⟩, ?_⟩
  repeat walk_at "st"
  refine ⟨[_, _, _], _, rfl, ⟨_, _, _, rfl, ?_, rfl⟩, q⟩
  have h := fc.lot
  simpa using h
def T_contents_fit : TF := pureT fun ps r => ∃ (l : Lk) (c : Ct), ps = [l.D, c.D] ∧ Fits l c ∧ r = .bool true
theorem c_contents_fit (T : Top K mg) : Cal P w K mg base 5 "contents_fit" (spA K 2 T_contents_fit) := by
  refine T.d_contents_fit.cal sc_contents_fit rfl fun f cdv A outer s H E hr => ⟨_, (pss_cons (ps_if (PW.pt (pw_or (pt_not (pt_val (pe_callB (isiK K) (by rfl) T.b_isinstance bt_isinstance (pa_cons (pv 1) (pa_cons (pe_bltn (v := .ty "tuple") (by rfl) T.b_tuple bt_tuple rfl) pa_nil))))) (pw_or (pt_cmpR (neK K hr) (pe_callB (lenK K) (by rfl) T.b_len bt_len (pa_cons (pv 1) pa_nil)) pe_int (nomark _)) (pw_or1 (pt_not (pt_val (pe_c (c_hosts_fit (K := K) T) hr (by decide) (by rfl) (pa_cons (pv 0) (pa_cons (pe_ix (ixK K) (pv 1) pe_int (fun _ _ => rfl)) (pa_cons (pe_ix (ixK K) (pv 1) pe_int (fun _ _ => rfl)) pa_nil)))))))))) (pss_one (ps_ret pe_bl)) pss_nil)
      (pss_one (ps_ret (pe_and (pe_c (c_counts_fit (K := K) T) hr (by decide) (by rfl) (pa_cons (pe_ix (ixK K) (pv 1) pe_int (fun _ _ => rfl)) (pa_cons pe_int (pa_cons (pe_ix (ixK K) (pv 0) pe_int (fun _ _ => rfl)) pa_nil)))) (pe_one (pe_c (c_counts_fit (K := K) T) hr (by decide) (by rfl) (pa_cons (pe_ix (ixK K) (pv 1) pe_int (fun _ _ => rfl)) (pa_cons pe_int (pa_cons (pe_ix (ixK K) (pv 0) pe_int (fun _ _ => rfl)) pa_nil))))))))), ?_⟩
  rintro xs M Q - ⟨ps, r, rfl, ⟨l, c, rfl, fc, rfl⟩, q⟩
  refine sj_ds (ds' := [some _, some _]) rfl ?_
  dsimp only [Ct.D] at *
  repeat walk_at "st"
  refine ⟨[_, _, _], _, rfl, ⟨l, c, rfl, fc, rfl⟩, ?_⟩
  repeat walk_at "st"
  refine ⟨[_, _, _], _, rfl, ⟨[c.n0, c.n1, c.n2], 3, l.c, rfl, rfl, (by show 3 ≤ 10; decide), ?_, ?_, rfl⟩, ?_⟩
  · intro x hx
    simp only [List.mem_cons, List.not_mem_nil, or_false] at hx
    have := fc.n0
    have := fc.n1
    have := fc.n2
    rcases hx with rfl | rfl | rfl <;> assumption
  · have := fc.ns
    simp only [List.sum_cons, List.sum_nil]
    omega
  repeat walk_at "st"
  refine ⟨[_, _, _], _, rfl, ⟨[c.b0, c.b1], 2, l.d, rfl, rfl, (by show 2 ≤ 10; decide), ?_, ?_, rfl⟩, q⟩
  · intro x hx
    simp only [List.mem_cons, List.not_mem_nil, or_false] at hx
    have := fc.b0
    have := fc.b1
    rcases hx with rfl | rfl <;> assumption
  · have := fc.bs
    simp only [List.sum_cons, List.sum_nil]
    omega
def T_old_in : TF := pureT fun ps r => ∃ (l : Lk) (c : Ct), ps = [c.D] ∧ Fits l c ∧ r = .int c.old
theorem c_old_in (T : Top K mg) : Cal P w K mg base 2 "old_in" (spA K 1 T_old_in) := by
  refine T.d_old_in.cal sc_old_in rfl fun f cdv A outer s H E hr => ⟨_, (pss_cons (ps_asg (pe_ix (ixK K) (pv 0) pe_int (fun _ _ => rfl)) (pg_tupK K (n := 3) rfl (pgs_cons (pg_name (i := 1) sc_old_in.nd rfl (.inl rfl)) (pgs_cons (pg_name (i := 2) sc_old_in.nd rfl (.inl rfl)) (pgs_cons (pg_name (i := 3) sc_old_in.nd rfl (.inl rfl)) pgs_nil)))))
      (pss_cons (ps_set (i := 4) sc_old_in.nd rfl (.inl rfl) (pe_ifExp (PW.pt (pw_and (pt_cmpR op_notNone (pv 2) pe_non (nomark _)) (pw_and1 (pt_cmpR (eqK K hr) (pe_ix (ixK K) (pv 2) pe_int (fun _ _ => rfl)) pe_str (nomark _))))) (pe_ix (ixK K) (pv 2) pe_int (fun _ _ => rfl)) pe_int))
      (pss_one (ps_ret (pe_op op_add (pe_c (c_old_of (K := K) T) hr (by decide) (by rfl) (pa_cons (pv 0) (pa_cons (pe_op op_sub pe_int (pv 1)) pa_nil))) (pv 4)))))), ?_⟩
  rintro xs M Q - ⟨ps, r, rfl, ⟨l, c, rfl, fc, rfl⟩, q⟩
  refine sj_ds (ds' := [some _, none, none, none, none]) rfl ?_
  have e : c.old = (if 1 - c.ot = 0 then c.n1 else c.n2) + keptOf c.lot := by
    unfold Ct.old
    rcases fc.ot with z | z
    · rw [z, if_pos rfl, if_neg (by decide)]
    · rw [z, if_neg (by decide), if_pos (by decide)]
  rw [e] at q
  have fo : 1 - c.ot = 0 ∨ 1 - c.ot = 1 := by have := fc.ot; omega
  clear fc e
  obtain ⟨bit, hd, ot, lot, dn, n0, n1, n2, b0, b1⟩ := c
  rcases lot with _ | ⟨_ | _, m⟩ <;> (repeat walk_at "sd") <;> (refine ⟨[_, _], _, rfl, ⟨_, _, rfl, fo, rfl⟩, ?_⟩) <;> (repeat walk_at "st") <;> exact q
def T_signs_in : TF := pureT fun ps r => ∃ (l : Lk) (c : Ct), ps = [l.D, c.D] ∧ Fits l c ∧ r = .tuple [.bool (decide (c.bit = c.ot)), .bool c.dn, .bool (decide (l.q ≤ c.ans)), .bool (decide (l.p ≤ c.old))]
theorem c_signs_in (T : Top K mg) : Cal P w K mg base 3 "signs_in" (spA K 2 T_signs_in) := by
  refine T.d_signs_in.cal sc_signs_in rfl fun f cdv A outer s H E hr => ⟨_, (pss_one (ps_ret (pe_tup (pa_cons (pe_c (c_even_fits (K := K) T) hr (by decide) (by rfl) (pa_cons (pv 1) pa_nil)) (pa_cons (pe_ix (ixK K) (pe_ix (ixK K) (pv 1) pe_int (fun _ _ => rfl)) pe_int (fun _ _ => rfl)) (pa_cons (pe_cmpR op_ge (pe_c (c_answers_in (K := K) T) hr (by decide) (by rfl) (pa_cons (pv 1) pa_nil)) (pe_ix (ixK K) (pv 0) pe_int (fun _ _ => rfl)) (nomark _)) (pa_cons (pe_cmpR op_ge (pe_c (c_old_in (K := K) T) hr (by decide) (by rfl) (pa_cons (pv 1) pa_nil)) (pe_ix (ixK K) (pv 0) pe_int (fun _ _ => rfl)) (nomark _)) pa_nil))))))), ?_⟩
  rintro xs M Q - ⟨ps, r, rfl, ⟨l, c, rfl, fc, rfl⟩, q⟩
  refine sj_ds (ds' := [some _, some _]) rfl ?_
  repeat walk_at "st"
  refine ⟨[_], _, rfl, ⟨c, rfl, rfl⟩, ?_⟩
  repeat walk_at "st"
  refine ⟨[_], _, rfl, ⟨l, c, rfl, fc, rfl⟩, ?_⟩
  repeat walk_at "st"
  refine ⟨[_], _, rfl, ⟨l, c, rfl, fc, rfl⟩, ?_⟩
  repeat walk_at "st"
  exact q
def T_harm_of_signs : TF := pureT fun ps r => ∃ (a b c d : Bool), ps = [.tuple [.bool a, .bool b, .bool c, .bool d]] ∧ r = .int (harmOf a b c d)
theorem c_harm_of_signs (T : Top K mg) : Cal P w K mg base 1 "harm_of_signs" (spA K 1 T_harm_of_signs) := by
  refine T.d_harm_of_signs.cal sc_harm_of_signs rfl fun f cdv A outer s H E hr => ⟨_, (pss_cons (ps_asg (pv 0) (pg_tupK K (n := 4) rfl (pgs_cons (pg_name (i := 1) sc_harm_of_signs.nd rfl (.inl rfl)) (pgs_cons (pg_name (i := 2) sc_harm_of_signs.nd rfl (.inl rfl)) (pgs_cons (pg_name (i := 3) sc_harm_of_signs.nd rfl (.inl rfl)) (pgs_cons (pg_name (i := 4) sc_harm_of_signs.nd rfl (.inl rfl)) pgs_nil))))))
      (pss_cons (ps_if (pt_val (pv 2)) (pss_one (ps_ret (pe_ifExp (pt_val (pv 1)) (pe_ifExp (pt_val (pv 4)) pe_int pe_int) pe_int))) pss_nil)
      (pss_cons (ps_if (pt_val (pv 1)) (pss_one (ps_ret (pe_ifExp (PW.pt (pw_and (pt_val (pv 3)) (pw_and1 (pt_val (pv 4))))) pe_int pe_int))) pss_nil)
      (pss_one (ps_ret (pe_ifExp (PW.pt (pw_or (pt_val (pv 3)) (pw_or1 (pt_val (pv 4))))) pe_int pe_int)))))), ?_⟩
  rintro xs M Q - ⟨ps, r, rfl, ⟨a, b, c, d, rfl, rfl⟩, q⟩
  refine sj_ds (ds' := [some _, none, none, none, none]) rfl ?_
  cases a <;> cases b <;> cases c <;> cases d <;> ((repeat walk_at "st"); exact q)
def T_harm_in : TF := pureT fun ps r => ∃ (l : Lk) (c : Ct), ps = [l.D, c.D] ∧ Fits l c ∧ r = .int (harm l c)
theorem c_harm_in (T : Top K mg) : Cal P w K mg base 4 "harm_in" (spA K 2 T_harm_in) := by
  refine T.d_harm_in.cal sc_harm_in rfl fun f cdv A outer s H E hr => ⟨_, (pss_one (ps_ret (pe_c (c_harm_of_signs (K := K) T) hr (by decide) (by rfl) (pa_cons (pe_c (c_signs_in (K := K) T) hr (by decide) (by rfl) (pa_cons (pv 0) (pa_cons (pv 1) pa_nil))) pa_nil)))), ?_⟩
  rintro xs M Q - ⟨ps, r, rfl, ⟨l, c, rfl, fc, rfl⟩, q⟩
  refine sj_ds (ds' := [some _, some _]) rfl ?_
  repeat walk_at "st"
  refine ⟨[_, _], _, rfl, ⟨l, c, rfl, fc, rfl⟩, ?_⟩
  repeat walk_at "st"
  exact ⟨[_], _, rfl, ⟨_, _, _, _, rfl, rfl⟩, q⟩
end
end HW

namespace HW
open PySem PySem.Spec PyProof.Rows L2 DL
section
variable {K : PySem.W.Frag} {P : Program} {w : World} {base : Heap} {mg : Str → Option Value}
local macro_rules | `(tactic| walk_at "sk") => `(tactic| with_reducible first | exact sk_new | exact sk_old | exact sk_send | exact sk_drop | exact sk_bring | exact sk_miss | exact sk_hear | exact sk_made | exact sk_twice | exact sk_lost | exact sk_zero | exact sk_one)
local macro_rules | `(tactic| walk_at "st") => `(tactic| first
  | ((with_reducible refine isVar ?_); first | refine ej_var rfl ?_)
  | ((with_reducible refine isTC ?_); first | with_reducible refine ej_int ?_ | with_reducible refine ej_str ?_ | with_reducible refine ej_non ?_ | with_reducible refine ej_bl ?_ | with_reducible refine ej_val ?_)
  | ((with_reducible refine isEJ ?_); first | with_reducible refine ej_op ?_ | with_reducible refine ej_call ?_ | with_reducible refine ej_cb ?_ | with_reducible refine ej_if ?_ | with_reducible refine ej_tup ?_ | with_reducible refine ej_andV ?_ | with_reducible refine ej_orV ?_ | with_reducible refine ej_notV ?_ | with_reducible refine ej_un ?_ | with_reducible refine ej_bits ?_ | with_reducible refine ej_dsS (by dsimp only [wipeD, List.map_cons, List.map_nil, List.set_cons_succ, List.set_cons_zero]; rfl) ?_)
  | ((with_reducible refine isAJ ?_); first | with_reducible refine aj_cons ?_ | with_reducible refine aj_nil ?_)
  | ((with_reducible refine isIx ?_); first | refine oj_ixT rfl ?_ | refine oj_ixL rfl ?_ | refine oj_ixM (by first | assumption | exact put_same _ _ _) rfl ?_)
  | ((with_reducible refine isOJ ?_); first | with_reducible refine oj_I0i ?_ | with_reducible refine oj_I0b ?_ | with_reducible refine oj_eqi ?_ | with_reducible refine oj_nei ?_ | with_reducible refine oj_eqb ?_ | with_reducible refine oj_eqsT (by walk_at "sk") ?_ | refine oj_eqsF (by walk_at "sk") (by walk_at "sk") (by decide +kernel) ?_ | with_reducible refine oj_isNone ?_ | with_reducible refine oj_notNone ?_ | with_reducible refine oj_eq_nil ?_ | with_reducible refine oj_ne_nil ?_ | refine oj_ninD (b := true) (by decide +kernel) (by decide +kernel) (by decide +kernel) ?_ | refine oj_ninD (b := false) (by decide +kernel) (by decide +kernel) (by decide +kernel) ?_)
  | ((with_reducible refine isTJ ?_); first | with_reducible refine tj_test ?_ | with_reducible refine tj_B ?_ | with_reducible refine tj_and ?_ | with_reducible refine tj_or ?_ | with_reducible refine tj_not ?_ | with_reducible refine tj_yes ?_ | with_reducible refine tj_dsS (by dsimp only [wipeD, List.map_cons, List.map_nil, List.set_cons_succ, List.set_cons_zero]; rfl) ?_)
  | ((with_reducible refine isSJ ?_); first | with_reducible refine sj_dsS (by dsimp only [wipeD, List.map_cons, List.map_nil, List.set_cons_succ, List.set_cons_zero]; rfl) ?_ | with_reducible refine sj_seq ?_ | with_reducible refine sj_set ?_ | with_reducible refine sj_ret ?_ | with_reducible refine sj_if ?_ | with_reducible refine sj_drop ?_ | with_reducible refine sj_par ?_ | with_reducible refine sj_par3 ?_ | with_reducible refine sj_asg ?_ | with_reducible refine sj_next ?_)
  | ((with_reducible refine isCJ ?_); first | with_reducible refine cj_isi_ib ?_ | refine cj_isi_same rfl ?_ | with_reducible refine cj_lenL ?_ | with_reducible refine cj_lenT ?_ | with_reducible refine cj_int ?_ | with_reducible refine cj_intb ?_ | with_reducible refine cj_max ?_ | with_reducible refine cj_min ?_)
  | ((with_reducible refine isGJ ?_); first | with_reducible refine gj_name ?_ | refine gj_tup rfl ?_ | refine gj_unl rfl ?_)
  | ((with_reducible refine isGs ?_); first | refine gsj_cons ?_ | refine gsj_nil ?_)
  | ((with_reducible refine isLJ ?_); first | with_reducible refine lj_name (by decide) ?_ | refine lj_tup rfl ?_)
  | ((with_reducible refine isLs ?_); first | refine lsj_cons ?_ | refine lsj_nil ?_)
  | ((with_reducible refine isIJ ?_); first | with_reducible refine ij_list ?_ | with_reducible refine ij_tup ?_ | with_reducible refine ij_range1 ?_ | with_reducible refine ij_range2 ?_ | with_reducible refine ij_enum ?_ | with_reducible refine ij_enumT ?_ | with_reducible refine ij_zip ?_)
  | with_reducible refine uj_neg ?_ | with_reducible refine fj_A rfl ?_ | with_reducible refine ⟨_, rfl, ?_⟩ | with_reducible refine ⟨_, _, rfl, ?_⟩ | with_reducible refine ⟨_, _, _, rfl, ?_⟩ | refine brT rfl ?_ | refine brF rfl ?_ | refine ⟨[_, _], rfl, Nat.le_of_ble_eq_true rfl, ?_⟩ | refine ⟨[_, _, _], rfl, Nat.le_of_ble_eq_true rfl, ?_⟩ | refine ⟨[_, _, _, _], rfl, Nat.le_of_ble_eq_true rfl, ?_⟩ | refine ⟨[], rfl, Nat.le_of_ble_eq_true rfl, ?_⟩ | refine ⟨[_], rfl, Nat.le_of_ble_eq_true rfl, ?_⟩ | refine ⟨[_, _, _, _, _], rfl, Nat.le_of_ble_eq_true rfl, ?_⟩)
local macro_rules | `(tactic| walk_at "sl") => `(tactic| first | walk_at "st" | with_reducible refine ej_lst ?_)
local macro_rules | `(tactic| walk_at "sd") => `(tactic| first | walk_at "st" | dsimp only [sortS, lotD])

structure Wy where
  a : Int
  b : Int
  l : Lk
def Wy.D (x : Wy) : PyData := .tuple [.int x.a, .int x.b, x.l.D]
structure WyOk (h : Int) (x : Wy) : Prop where
  a0 : 0 ≤ x.a
  a1 : x.a ≤ h - 1
  b0 : 0 ≤ x.b
  b1 : x.b ≤ h - 1
  ne : x.a ≠ x.b
  l : x.l.Ok
def webD (h : Int) (ws : List Wy) : PyData := .tuple [.int h, .list (ws.map Wy.D)]
def Asc (ws : List Wy) : Prop := ∀ (i : Nat) (x y : Wy), ws[i]? = some x → ws[i + 1]? = some y → x.a < y.a ∨ (x.a = y.a ∧ x.b < y.b)
structure WebOk (h : Int) (ws : List Wy) : Prop where
  h1 : 1 ≤ h
  ways : ∀ x ∈ ws, WyOk h x
  asc : Asc ws
  len : ws.length ≤ 100
structure CsOk (ws : List Wy) (cs : List Ct) : Prop where
  len : cs.length = ws.length
  fit : ∀ (i : Nat) (x : Wy) (c : Ct), ws[i]? = some x → cs[i]? = some c → Fits x.l c
theorem map_get {α : Type} {f : α → PyData} {l : List α} {i : Nat} {d : PyData} (h : (l.map f)[i]? = some d) : ∃ x, l[i]? = some x ∧ d = f x := by
  rw [List.getElem?_map] at h
  cases e : l[i]? with
  | none => rw [e] at h; cases h
  | some x => rw [e] at h; exact ⟨x, rfl, (Option.some.inj h).symm⟩
theorem get_map {α : Type} {f : α → PyData} {l : List α} {i : Nat} {x : α} (h : l[i]? = some x) : (l.map f)[i]? = some (f x) := by
  rw [List.getElem?_map, h]
  rfl
theorem CsOk.at {ws : List Wy} {cs : List Ct} (k : CsOk ws cs) {i : Nat} {x : Wy} (h : ws[i]? = some x) : ∃ c, cs[i]? = some c ∧ Fits x.l c := by
  have hi := (List.getElem?_eq_some_iff.mp h).1
  have hc : cs[i]? = some (cs[i]'(by rw [k.len]; exact hi)) := List.getElem?_eq_getElem _
  exact ⟨_, hc, k.fit i x _ h hc⟩
def T_way_fits : TF := pureT fun ps r => ∃ (h : Int) (x : Wy), ps = [.int h, x.D] ∧ WyOk h x ∧ r = .bool true
theorem c_way_fits (T : Top K mg) : Cal P w K mg base 4 "way_fits" (spA K 2 T_way_fits) := by
  refine T.d_way_fits.cal sc_way_fits rfl fun f cdv A outer s H E hr => ⟨_, (pss_cons (ps_if (PW.pt (pw_or (pt_not (pt_val (pe_callB (isiK K) (by rfl) T.b_isinstance bt_isinstance (pa_cons (pv 1) (pa_cons (pe_bltn (v := .ty "tuple") (by rfl) T.b_tuple bt_tuple rfl) pa_nil))))) (pw_or1 (pt_cmpR (neK K hr) (pe_callB (lenK K) (by rfl) T.b_len bt_len (pa_cons (pv 1) pa_nil)) pe_int (nomark _))))) (pss_one (ps_ret pe_bl)) pss_nil)
      (pss_cons (ps_if (pt_cmpR (neK K hr) (pe_lc (own := [("host", 2)]) rfl sc_way_fits.nd (pi_tupK K (pe_slice (slTK K) (pv 1) po_none (po_some pe_int))) (blkOk_by (N := N_way_fits) (sc := defScope s_way_fits) (by decide +kernel)) (fun _ _ _ _ _ => (pg_name (i := 2) sc_way_fits.nd rfl (by first | exact .inl rfl | exact .inr rfl))) (fun _ _ _ _ _ => (pts_one (pt_not (pt_val (pe_c (c_is_between (K := K) T) hr (by decide) (by rfl) (pa_cons (pv 2) (pa_cons pe_int (pa_cons (pe_op op_sub (pv 0) pe_int) pa_nil)))))))) (fun _ _ _ _ _ => (pv 2))) (pe_lst pa_nil) (nomark _)) (pss_one (ps_ret pe_bl)) pss_nil)
      (pss_one (ps_ret (pe_and (pe_cmpR (neK K hr) (pe_ix (ixK K) (pv 1) pe_int (fun _ _ => rfl)) (pe_ix (ixK K) (pv 1) pe_int (fun _ _ => rfl)) (nomark _)) (pe_one (pe_c (c_link_fits (K := K) T) hr (by decide) (by rfl) (pa_cons (pe_ix (ixK K) (pv 1) pe_int (fun _ _ => rfl)) pa_nil)))))))), ?_⟩
  rintro xs M Q - ⟨ps, r, rfl, ⟨h, x, rfl, ok, rfl⟩, q⟩
  refine sj_ds (ds' := [some _, some _, none]) rfl ?_
  dsimp only [Wy.D] at *
  repeat walk_at "st"
  refine ej_lc_none (ij_tup (ej_headT ?_))
  repeat walk_at "st"
  refine pj_none ⟨rfl, pj_some ?_⟩
  repeat walk_at "st"
  refine ⟨(by show 2 < 3; decide), ?_⟩
  repeat walk_at "st"
  refine ⟨by show 2 ≤ 10000; decide, fun i d hd => ?_, ?_⟩
  · have hm := mem_get hd
    have hi : ∃ j, d = .int j ∧ 0 ≤ j ∧ j ≤ h - 1 := by
      have hm : d ∈ [PyData.int x.a, PyData.int x.b] := hm
      simp only [List.mem_cons, List.not_mem_nil, or_false] at hm
      rcases hm with rfl | rfl
      · exact ⟨_, rfl, ok.a0, ok.a1⟩
      · exact ⟨_, rfl, ok.b0, ok.b1⟩
    obtain ⟨j, rfl, h0, h1⟩ := hi
    repeat walk_at "st"
    intro M'
    repeat walk_at "st"
    refine ⟨[_, _, _], _, rfl, ⟨_, _, _, rfl, h0, h1, rfl⟩, ?_⟩
    repeat walk_at "st"
    exact ⟨rfl, rfl⟩
  · repeat walk_at "sl"
    refine brT (by rw [decide_eq_false ok.ne]; rfl) ?_
    repeat walk_at "st"
    exact ⟨[_], _, rfl, ⟨_, rfl, ok.l, rfl⟩, q⟩
def pairD (x : Wy) : PyData := .tuple [.int x.a, .int x.b]
def T_web_fits : TF := pureT fun ps r => ∃ (h : Int) (ws : List Wy), ps = [webD h ws] ∧ WebOk h ws ∧ r = .bool true
theorem filterMap_some {α : Type} (f : α → PyData) (l : List α) : (l.map fun x => some (f x)).filterMap id = l.map f := by
  induction l with
  | nil => rfl
  | cons x l ih =>
    show f x :: (l.map fun x => some (f x)).filterMap id = _
    rw [ih]
    rfl
theorem some_get {α : Type} {f : α → PyData} {l : List α} {i : Nat} {o : Option PyData} {x : α} (h : (l.map fun x => some (f x))[i]? = some o) (hx : l[i]? = some x) : o = some (f x) := by
  rw [List.getElem?_map, hx] at h
  exact (Option.some.inj h).symm
theorem c_web_fits (T : Top K mg) : Cal P w K mg base 5 "web_fits" (spA K 1 T_web_fits) := by
  refine T.d_web_fits.cal sc_web_fits rfl fun f cdv A outer s H E hr => ⟨_, (pss_cons (ps_if (PW.pt (pw_or (pt_not (pt_val (pe_callB (isiK K) (by rfl) T.b_isinstance bt_isinstance (pa_cons (pv 0) (pa_cons (pe_bltn (v := .ty "tuple") (by rfl) T.b_tuple bt_tuple rfl) pa_nil))))) (pw_or (pt_cmpR (neK K hr) (pe_callB (lenK K) (by rfl) T.b_len bt_len (pa_cons (pv 0) pa_nil)) pe_int (nomark _)) (pw_or1 (pt_not (pt_val (pe_c (c_is_between (K := K) T) hr (by decide) (by rfl) (pa_cons (pe_ix (ixK K) (pv 0) pe_int (fun _ _ => rfl)) (pa_cons pe_int (pa_cons pe_non pa_nil)))))))))) (pss_one (ps_ret pe_bl)) pss_nil)
      (pss_cons (ps_if (PW.pt (pw_or (pt_not (pt_val (pe_callB (isiK K) (by rfl) T.b_isinstance bt_isinstance (pa_cons (pe_ix (ixK K) (pv 0) pe_int (fun _ _ => rfl)) (pa_cons (pe_bltn (v := .ty "list") (by rfl) T.b_list bt_list rfl) pa_nil))))) (pw_or1 (pt_cmpR (neK K hr) (pe_lc (own := [("way", 2)]) rfl sc_web_fits.nd (pi_listK K (pe_ix (ixK K) (pv 0) pe_int (fun _ _ => rfl))) (blkOk_by (N := N_web_fits) (sc := defScope s_web_fits) (by decide +kernel)) (fun _ _ _ _ _ => (pg_name (i := 2) sc_web_fits.nd rfl (by first | exact .inl rfl | exact .inr rfl))) (fun _ _ _ _ _ => (pts_one (pt_not (pt_val (pe_c (c_way_fits (K := K) T) hr (by decide) (by rfl) (pa_cons (pe_ix (ixK K) (pv 0) pe_int (fun _ _ => rfl)) (pa_cons (pv 2) pa_nil))))))) (fun _ _ _ _ _ => (pv 2))) (pe_lst pa_nil) (nomark _))))) (pss_one (ps_ret pe_bl)) pss_nil)
      (pss_cons (ps_set (i := 1) sc_web_fits.nd rfl (.inr rfl) (pe_lc (own := [("way", 2)]) rfl sc_web_fits.nd (pi_listK K (pe_ix (ixK K) (pv 0) pe_int (fun _ _ => rfl))) (blkOk_by (N := N_web_fits) (sc := defScope s_web_fits) (by decide +kernel)) (fun _ _ _ _ _ => (pg_name (i := 2) sc_web_fits.nd rfl (by first | exact .inl rfl | exact .inr rfl))) (fun _ _ _ _ _ => pts_nil) (fun _ _ _ _ _ => (pe_slice (slTK K) (pv 2) po_none (po_some pe_int)))))
      (pss_one (ps_ret (pe_cmpR (eqK K hr) (pe_lc (own := [("at", 3)]) rfl sc_web_fits.nd (pi_range2 (by rfl) T.b_range (pa_cons pe_int (pa_cons (pe_callB (lenK K) (by rfl) T.b_len bt_len (pa_cons (pv 1) pa_nil)) pa_nil))) (blkOk_by (N := N_web_fits) (sc := defScope s_web_fits) (by decide +kernel)) (fun _ _ _ _ _ => (pg_name (i := 3) sc_web_fits.nd rfl (by first | exact .inl rfl | exact .inr rfl))) (fun _ _ _ _ _ => (pts_one (pt_cmpR (geK K hr) (pe_ix (ixK K) (pv 1) (pe_op op_sub (pv 3) pe_int) (fun _ _ => rfl)) (pe_ix (ixK K) (pv 1) (pv 3) (fun _ _ => rfl)) (nomark _)))) (fun _ _ _ _ _ => (pv 3))) (pe_lst pa_nil) (nomark _))))))), ?_⟩
  rintro xs M Q - ⟨ps, r, rfl, ⟨h, ws, rfl, ok, rfl⟩, q⟩
  refine sj_ds (ds' := [some _, none, none, none]) rfl ?_
  dsimp only [webD] at *
  repeat walk_at "st"
  refine ⟨[_, _, _], _, rfl, ⟨_, _, _, rfl, ok.h1, True.intro, rfl⟩, ?_⟩
  repeat walk_at "st"
  refine ej_lc_none (ij_list ?_)
  repeat walk_at "st"
  refine ⟨by rw [List.length_map]; have := ok.len; omega, fun i d hd => ?_, ?_⟩
  · obtain ⟨x, hx, rfl⟩ := map_get hd
    repeat walk_at "st"
    intro M'
    repeat walk_at "st"
    refine ⟨[_, _], _, rfl, ⟨_, x, rfl, ok.ways x (List.mem_of_getElem? hx), rfl⟩, ?_⟩
    repeat walk_at "st"
    exact ⟨rfl, rfl⟩
  · repeat walk_at "sl"
    refine ej_lc_dat (ij_list ?_)
    repeat walk_at "st"
    refine ⟨ws.map fun x => some (pairD x), by rw [List.length_map, List.length_map], by rw [List.length_map]; have := ok.len; omega, fun i d o hd ho => ?_, ?_⟩
    · obtain ⟨x, hx, rfl⟩ := map_get hd
      obtain rfl := some_get ho hx
      repeat walk_at "st"
      intro M'
      repeat walk_at "st"
      refine ⟨rfl, rfl, fun y hy => ?_⟩
      cases hy
      refine ej_headT ?_
      repeat walk_at "st"
      dsimp only [Wy.D]
      repeat walk_at "st"
      refine pj_none ⟨rfl, pj_some ?_⟩
      repeat walk_at "st"
      exact ⟨(by show 2 < 3; decide), rfl, rfl⟩
    rw [filterMap_some]
    repeat walk_at "st"
    refine ej_lc_none ?_
    repeat walk_at "st"
    rw [List.length_map]
    have hl := ok.len
    refine ⟨by decide, by omega, by rw [rngI_length]; omega, fun i d hd => ?_, ?_⟩
    · obtain ⟨hi, rfl⟩ := rngI_get hd
      have h1 : i < ws.length := by omega
      have h2 : i + 1 < ws.length := by omega
      have g1 : ws[i]? = some ws[i] := List.getElem?_eq_getElem h1
      have g2 : ws[i + 1]? = some ws[i + 1] := List.getElem?_eq_getElem h2
      have as := ok.asc i _ _ g1 g2
      repeat walk_at "st"
      intro M'
      repeat walk_at "st"
      have e1 : ((1 : Int) + (i : Int)) - 1 = (i : Int) := by omega
      have e2 : ((1 : Int) + (i : Int)) = ((i + 1 : Nat) : Int) := by omega
      rw [e1]
      refine oj_ixL (atI_nat (get_map g1)) ?_
      repeat walk_at "st"
      rw [e2]
      refine oj_ixL (atI_nat (get_map g2)) ?_
      dsimp only [pairD]
      refine oj_geP ?_
      refine ⟨_, rfl, rfl, ?_⟩
      by_cases z : ws[i].a = ws[i + 1].a
      · rw [if_pos z]
        exact decide_eq_false (by omega)
      · rw [if_neg z]
        exact decide_eq_false (by omega)
    · repeat walk_at "sl"
      exact q
end
end HW

namespace HW
open PySem PySem.Spec PyProof.Rows L2 DL
section
variable {K : PySem.W.Frag} {P : Program} {w : World} {base : Heap} {mg : Str → Option Value}
local macro_rules | `(tactic| walk_at "sk") => `(tactic| with_reducible first | exact sk_new | exact sk_old | exact sk_send | exact sk_drop | exact sk_bring | exact sk_miss | exact sk_hear | exact sk_made | exact sk_twice | exact sk_lost | exact sk_zero | exact sk_one)
local macro_rules | `(tactic| walk_at "st") => `(tactic| first
  | ((with_reducible refine isVar ?_); first | refine ej_var rfl ?_)
  | ((with_reducible refine isTC ?_); first | with_reducible refine ej_int ?_ | with_reducible refine ej_str ?_ | with_reducible refine ej_non ?_ | with_reducible refine ej_bl ?_ | with_reducible refine ej_val ?_)
  | ((with_reducible refine isEJ ?_); first | with_reducible refine ej_op ?_ | with_reducible refine ej_call ?_ | with_reducible refine ej_cb ?_ | with_reducible refine ej_if ?_ | with_reducible refine ej_tup ?_ | with_reducible refine ej_andV ?_ | with_reducible refine ej_orV ?_ | with_reducible refine ej_notV ?_ | with_reducible refine ej_un ?_ | with_reducible refine ej_bits ?_ | with_reducible refine ej_dsS (by dsimp only [wipeD, List.map_cons, List.map_nil, List.set_cons_succ, List.set_cons_zero]; rfl) ?_)
  | ((with_reducible refine isAJ ?_); first | with_reducible refine aj_cons ?_ | with_reducible refine aj_nil ?_)
  | ((with_reducible refine isIx ?_); first | refine oj_ixT rfl ?_ | refine oj_ixL rfl ?_ | refine oj_ixM (by first | assumption | exact put_same _ _ _) rfl ?_)
  | ((with_reducible refine isOJ ?_); first | with_reducible refine oj_I0i ?_ | with_reducible refine oj_I0b ?_ | with_reducible refine oj_eqi ?_ | with_reducible refine oj_nei ?_ | with_reducible refine oj_eqb ?_ | with_reducible refine oj_eqsT (by walk_at "sk") ?_ | refine oj_eqsF (by walk_at "sk") (by walk_at "sk") (by decide +kernel) ?_ | with_reducible refine oj_isNone ?_ | with_reducible refine oj_notNone ?_ | with_reducible refine oj_eq_nil ?_ | with_reducible refine oj_ne_nil ?_ | refine oj_ninD (b := true) (by decide +kernel) (by decide +kernel) (by decide +kernel) ?_ | refine oj_ninD (b := false) (by decide +kernel) (by decide +kernel) (by decide +kernel) ?_)
  | ((with_reducible refine isTJ ?_); first | with_reducible refine tj_test ?_ | with_reducible refine tj_B ?_ | with_reducible refine tj_and ?_ | with_reducible refine tj_or ?_ | with_reducible refine tj_not ?_ | with_reducible refine tj_yes ?_ | with_reducible refine tj_dsS (by dsimp only [wipeD, List.map_cons, List.map_nil, List.set_cons_succ, List.set_cons_zero]; rfl) ?_)
  | ((with_reducible refine isSJ ?_); first | with_reducible refine sj_dsS (by dsimp only [wipeD, List.map_cons, List.map_nil, List.set_cons_succ, List.set_cons_zero]; rfl) ?_ | with_reducible refine sj_seq ?_ | with_reducible refine sj_set ?_ | with_reducible refine sj_ret ?_ | with_reducible refine sj_if ?_ | with_reducible refine sj_drop ?_ | with_reducible refine sj_par ?_ | with_reducible refine sj_par3 ?_ | with_reducible refine sj_asg ?_ | with_reducible refine sj_next ?_)
  | ((with_reducible refine isCJ ?_); first | with_reducible refine cj_isi_ib ?_ | refine cj_isi_same rfl ?_ | with_reducible refine cj_lenL ?_ | with_reducible refine cj_lenT ?_ | with_reducible refine cj_int ?_ | with_reducible refine cj_intb ?_ | with_reducible refine cj_max ?_ | with_reducible refine cj_min ?_)
  | ((with_reducible refine isGJ ?_); first | with_reducible refine gj_name ?_ | refine gj_tup rfl ?_ | refine gj_unl rfl ?_)
  | ((with_reducible refine isGs ?_); first | refine gsj_cons ?_ | refine gsj_nil ?_)
  | ((with_reducible refine isLJ ?_); first | with_reducible refine lj_name (by decide) ?_ | refine lj_tup rfl ?_)
  | ((with_reducible refine isLs ?_); first | refine lsj_cons ?_ | refine lsj_nil ?_)
  | ((with_reducible refine isIJ ?_); first | with_reducible refine ij_list ?_ | with_reducible refine ij_tup ?_ | with_reducible refine ij_range1 ?_ | with_reducible refine ij_range2 ?_ | with_reducible refine ij_enum ?_ | with_reducible refine ij_enumT ?_ | with_reducible refine ij_zip ?_)
  | with_reducible refine uj_neg ?_ | with_reducible refine fj_A rfl ?_ | with_reducible refine ⟨_, rfl, ?_⟩ | with_reducible refine ⟨_, _, rfl, ?_⟩ | with_reducible refine ⟨_, _, _, rfl, ?_⟩ | refine brT rfl ?_ | refine brF rfl ?_ | refine ⟨[_, _], rfl, Nat.le_of_ble_eq_true rfl, ?_⟩ | refine ⟨[_, _, _], rfl, Nat.le_of_ble_eq_true rfl, ?_⟩ | refine ⟨[_, _, _, _], rfl, Nat.le_of_ble_eq_true rfl, ?_⟩ | refine ⟨[], rfl, Nat.le_of_ble_eq_true rfl, ?_⟩ | refine ⟨[_], rfl, Nat.le_of_ble_eq_true rfl, ?_⟩ | refine ⟨[_, _, _, _, _], rfl, Nat.le_of_ble_eq_true rfl, ?_⟩)
local macro_rules | `(tactic| walk_at "sl") => `(tactic| first | walk_at "st" | with_reducible refine ej_lst ?_)
local macro_rules | `(tactic| walk_at "sd") => `(tactic| first | walk_at "st" | dsimp only [sortS, lotD])

theorem enums_get0 {α : Type} {f : α → PyData} {l : List α} {i : Nat} {d : PyData} (h : (enums 0 (l.map f))[i]? = some d) : ∃ x, l[i]? = some x ∧ d = .tuple [.int (i : Nat), f x] := by
  obtain ⟨y, h1, h2⟩ := enums_get h
  obtain ⟨x, hx, rfl⟩ := map_get h1
  rw [Nat.zero_add] at h2
  exact ⟨x, hx, h2⟩
def T_web_contents_fit : TF := pureT fun ps r => ∃ (h : Int) (ws : List Wy) (cs : List Ct), ps = [webD h ws, .list (cs.map Ct.D)] ∧ ws.length ≤ 100 ∧ CsOk ws cs ∧ r = .bool true
theorem c_web_contents_fit (T : Top K mg) : Cal P w K mg base 6 "web_contents_fit" (spA K 2 T_web_contents_fit) := by
  refine T.d_web_contents_fit.cal sc_web_contents_fit rfl fun f cdv A outer s H E hr => ⟨_, (pss_cons (ps_if (PW.pt (pw_or (pt_not (pt_val (pe_callB (isiK K) (by rfl) T.b_isinstance bt_isinstance (pa_cons (pv 1) (pa_cons (pe_bltn (v := .ty "list") (by rfl) T.b_list bt_list rfl) pa_nil))))) (pw_or1 (pt_cmpR (neK K hr) (pe_callB (lenK K) (by rfl) T.b_len bt_len (pa_cons (pv 1) pa_nil)) (pe_callB (lenK K) (by rfl) T.b_len bt_len (pa_cons (pe_ix (ixK K) (pv 0) pe_int (fun _ _ => rfl)) pa_nil)) (nomark _))))) (pss_one (ps_ret pe_bl)) pss_nil)
      (pss_one (ps_ret (pe_cmpR (eqK K hr) (pe_lc (own := [("at", 2), ("way", 3)]) rfl sc_web_contents_fit.nd (pi_enumK K (by rfl) T.b_enumerate (pa_cons (pe_ix (ixK K) (pv 0) pe_int (fun _ _ => rfl)) pa_nil)) (blkOk_by (N := N_web_contents_fit) (sc := defScope s_web_contents_fit) (by decide +kernel)) (fun _ _ _ _ _ => (pg_tupK K (n := 2) rfl (pgs_cons (pg_name (i := 2) sc_web_contents_fit.nd rfl (by first | exact .inl rfl | exact .inr rfl)) (pgs_cons (pg_name (i := 3) sc_web_contents_fit.nd rfl (by first | exact .inl rfl | exact .inr rfl)) pgs_nil)))) (fun _ _ _ _ _ => (pts_one (pt_not (pt_val (pe_c (c_contents_fit (K := K) T) hr (by decide) (by rfl) (pa_cons (pe_ix (ixK K) (pv 3) pe_int (fun _ _ => rfl)) (pa_cons (pe_ix (ixK K) (pv 1) (pv 2) (fun _ _ => rfl)) pa_nil))))))) (fun _ _ _ _ _ => (pv 2))) (pe_lst pa_nil) (nomark _))))), ?_⟩
  rintro xs M Q - ⟨ps, r, rfl, ⟨h, ws, cs, rfl, hl, ok, rfl⟩, q⟩
  refine sj_ds (ds' := [some _, some _, none, none]) rfl ?_
  dsimp only [webD] at *
  repeat walk_at "st"
  refine brF (by rw [List.length_map, List.length_map, ok.len, decide_eq_true rfl]; rfl) ?_
  repeat walk_at "st"
  refine ej_lc_none ?_
  repeat walk_at "st"
  refine ⟨by rw [enums_length, List.length_map]; omega, fun i d hd => ?_, ?_⟩
  · obtain ⟨x, hx, rfl⟩ := enums_get0 hd
    obtain ⟨c, hc, fc⟩ := ok.at hx
    repeat walk_at "st"
    intro M'
    repeat walk_at "st"
    refine oj_ixL (atI_nat (get_map hc)) ?_
    repeat walk_at "st"
    refine ⟨[_, _], _, rfl, ⟨x.l, c, rfl, fc, rfl⟩, ?_⟩
    repeat walk_at "st"
    exact ⟨rfl, rfl⟩
  · repeat walk_at "sl"
    exact q
def T_check_web : TF := pureT fun ps r => ∃ (h : Int) (ws : List Wy), ps = [webD h ws] ∧ WebOk h ws ∧ r = .none
theorem c_check_web (T : Top K mg) : Cal P w K mg base 6 "check_web" (spA K 1 T_check_web) := by
  refine T.d_check_web.cal sc_check_web rfl fun f cdv A outer s H E hr => ⟨_, (pss_one (ps_if (pt_not (pt_val (pe_c (c_web_fits (K := K) T) hr (by decide) (by rfl) (pa_cons (pv 0) pa_nil)))) (pss_one ps_never) pss_nil)), ?_⟩
  rintro xs M Q - ⟨ps, r, rfl, ⟨h, ws, rfl, ok, rfl⟩, q⟩
  refine sj_ds (ds' := [some _]) rfl ?_
  repeat walk_at "st"
  refine ⟨[_], _, rfl, ⟨h, ws, rfl, ok, rfl⟩, ?_⟩
  repeat walk_at "st"
  exact q
def T_check_web_contents : TF := pureT fun ps r => ∃ (h : Int) (ws : List Wy) (cs : List Ct), ps = [webD h ws, .list (cs.map Ct.D)] ∧ WebOk h ws ∧ CsOk ws cs ∧ r = .none
theorem c_check_web_contents (T : Top K mg) : Cal P w K mg base 7 "check_web_contents" (spA K 2 T_check_web_contents) := by
  refine T.d_check_web_contents.cal sc_check_web_contents rfl fun f cdv A outer s H E hr => ⟨_, (pss_cons (ps_expr (pe_c (c_check_web (K := K) T) hr (by decide) (by rfl) (pa_cons (pv 0) pa_nil)))
      (pss_one (ps_if (pt_not (pt_val (pe_c (c_web_contents_fit (K := K) T) hr (by decide) (by rfl) (pa_cons (pv 0) (pa_cons (pv 1) pa_nil))))) (pss_one ps_never) pss_nil))), ?_⟩
  rintro xs M Q - ⟨ps, r, rfl, ⟨h, ws, cs, rfl, ok, oc, rfl⟩, q⟩
  refine sj_ds (ds' := [some _, some _]) rfl ?_
  repeat walk_at "st"
  refine ⟨[_], _, rfl, ⟨h, ws, rfl, ok, rfl⟩, ?_⟩
  repeat walk_at "st"
  refine ⟨[_, _], _, rfl, ⟨h, ws, cs, rfl, ok.len, oc, rfl⟩, ?_⟩
  repeat walk_at "st"
  exact q
def T_check_all_sound : TF := pureT fun ps r => ∃ (h : Int) (ws : List Wy), ps = [webD h ws] ∧ (∀ x ∈ ws, x.l.Sound) ∧ r = .none
theorem c_check_all_sound (T : Top K mg) : Cal P w K mg base 3 "check_all_sound" (spA K 1 T_check_all_sound) := by
  refine T.d_check_all_sound.cal sc_check_all_sound rfl fun f cdv A outer s H E hr => ⟨_, (pss_one (ps_for PassesOwn.never rfl (pi_listK K (pe_ix (ixK K) (pv 0) pe_int (fun _ _ => rfl))) (pg_name (i := 1) sc_check_all_sound.nd rfl (.inl rfl)) (pss_one (ps_expr (pe_c (c_check_sound (K := K) T) hr (by decide) (by rfl) (pa_cons (pe_ix (ixK K) (pv 1) pe_int (fun _ _ => rfl)) pa_nil)))))), ?_⟩
  rintro xs M Q - ⟨ps, r, rfl, ⟨h, ws, rfl, so, rfl⟩, q⟩
  refine sj_ds (ds' := [some _, none]) rfl ?_
  dsimp only [webD] at *
  refine sj_for ?_
  repeat walk_at "st"
  refine ⟨fun i ds' M' => (∃ o, ds' = [some (.dat (.tuple [.int h, .list (ws.map Wy.D)])), o]) ∧ M' = M, ⟨⟨none, rfl⟩, rfl⟩, ?_, ?_⟩
  · rintro i d ds' M' hd ⟨⟨o, rfl⟩, rfl⟩
    obtain ⟨x, hx, rfl⟩ := map_get hd
    repeat walk_at "st"
    refine ⟨[_], _, rfl, ⟨x.l, rfl, so x (List.mem_of_getElem? hx), rfl⟩, ?_⟩
    exact ⟨⟨_, rfl⟩, rfl⟩
  · rintro ds' M' ⟨_, rfl⟩
    exact q
/-- the harms of the ways -/
def harmL (ws : List Wy) (cs : List Ct) : List Int := List.zipWith (fun x c => harm x.l c) ws cs
theorem harmL_len {ws : List Wy} {cs : List Ct} (ok : CsOk ws cs) : (harmL ws cs).length = ws.length := by
  unfold harmL
  rw [List.length_zipWith, ok.len, Nat.min_self]
theorem harmL_get {ws : List Wy} {cs : List Ct} {i : Nat} {x : Wy} {c : Ct} (h1 : ws[i]? = some x) (h2 : cs[i]? = some c) : (harmL ws cs)[i]? = some (harm x.l c) := by
  unfold harmL
  rw [List.getElem?_zipWith, h1, h2]
def intsD (ns : List Int) : PyData := .list (ns.map PyData.int)
def T_harms_of : TF := pureT fun ps r => ∃ (h : Int) (ws : List Wy) (cs : List Ct), ps = [webD h ws, .list (cs.map Ct.D)] ∧ ws.length ≤ 100 ∧ CsOk ws cs ∧ r = intsD (harmL ws cs)
theorem c_harms_of (T : Top K mg) : Cal P w K mg base 5 "harms_of" (spA K 2 T_harms_of) := by
  refine T.d_harms_of.cal sc_harms_of rfl fun f cdv A outer s H E hr => ⟨_, (pss_one (ps_ret (pe_lc (own := [("at", 2), ("way", 3)]) rfl sc_harms_of.nd (pi_enumK K (by rfl) T.b_enumerate (pa_cons (pe_ix (ixK K) (pv 0) pe_int (fun _ _ => rfl)) pa_nil)) (blkOk_by (N := N_harms_of) (sc := defScope s_harms_of) (by decide +kernel)) (fun _ _ _ _ _ => (pg_tupK K (n := 2) rfl (pgs_cons (pg_name (i := 2) sc_harms_of.nd rfl (by first | exact .inl rfl | exact .inr rfl)) (pgs_cons (pg_name (i := 3) sc_harms_of.nd rfl (by first | exact .inl rfl | exact .inr rfl)) pgs_nil)))) (fun _ _ _ _ _ => pts_nil) (fun _ _ _ _ _ => (pe_c (c_harm_in (K := K) T) hr (by decide) (by rfl) (pa_cons (pe_ix (ixK K) (pv 3) pe_int (fun _ _ => rfl)) (pa_cons (pe_ix (ixK K) (pv 1) (pv 2) (fun _ _ => rfl)) pa_nil))))))), ?_⟩
  rintro xs M Q - ⟨ps, r, rfl, ⟨h, ws, cs, rfl, hl, ok, rfl⟩, q⟩
  refine sj_ds (ds' := [some _, some _, none, none]) rfl ?_
  dsimp only [webD] at *
  refine sj_ret (ej_lc_dat ?_)
  repeat walk_at "st"
  refine ⟨(harmL ws cs).map fun n => some (.int n), by rw [List.length_map, enums_length, List.length_map, harmL_len ok], by rw [enums_length, List.length_map]; omega, fun i d o hd ho => ?_, ?_⟩
  · obtain ⟨x, hx, rfl⟩ := enums_get0 hd
    obtain ⟨c, hc, fc⟩ := ok.at hx
    obtain rfl := some_get ho (harmL_get hx hc)
    repeat walk_at "st"
    intro M'
    repeat walk_at "st"
    refine ⟨rfl, rfl, fun y hy => ?_⟩
    cases hy
    repeat walk_at "st"
    refine oj_ixL (atI_nat (get_map hc)) ?_
    repeat walk_at "st"
    exact ⟨[_, _], _, rfl, ⟨x.l, c, rfl, fc, rfl⟩, rfl, rfl⟩
  · rw [filterMap_some]
    exact q
structure WOk (h : Int) (ws : List Wy) (cs : List Ct) : Prop where
  web : WebOk h ws
  cs : CsOk ws cs
  so : ∀ x ∈ ws, x.l.Sound
def T_web_harm : TF := pureT fun ps r => ∃ (h : Int) (ws : List Wy) (cs : List Ct), ps = [webD h ws, .list (cs.map Ct.D)] ∧ WOk h ws cs ∧ r = .int (harmL ws cs).sum
theorem p_web_harm (T : Top K mg) : CalP P w K mg base 8 "web_harm" s_web_harm ["web", "contents"] (spA K 2 T_web_harm) := by
  refine T.d_web_harm.calP sc_web_harm rfl fun f cdv A outer s H E hr => ⟨_, (pss_cons (ps_expr (pe_c (c_check_web_contents (K := K) T) hr (by decide) (by rfl) (pa_cons (pv 0) (pa_cons (pv 1) pa_nil))))
      (pss_cons (ps_expr (pe_c (c_check_all_sound (K := K) T) hr (by decide) (by rfl) (pa_cons (pv 0) pa_nil)))
      (pss_one (ps_ret (pe_callB (sumK K rfl) (by rfl) T.b_sum bt_sum (pa_cons (pe_c (c_harms_of (K := K) T) hr (by decide) (by rfl) (pa_cons (pv 0) (pa_cons (pv 1) pa_nil))) pa_nil)))))), ?_⟩
  rintro xs M Q - ⟨ps, r, rfl, ⟨h, ws, cs, rfl, ok, rfl⟩, q⟩
  refine sj_ds (ds' := [some _, some _]) rfl ?_
  repeat walk_at "st"
  refine ⟨[_, _], _, rfl, ⟨h, ws, cs, rfl, ok.web, ok.cs, rfl⟩, ?_⟩
  repeat walk_at "st"
  refine ⟨[_], _, rfl, ⟨h, ws, rfl, ok.so, rfl⟩, ?_⟩
  repeat walk_at "st"
  refine ⟨[_, _], _, rfl, ⟨h, ws, cs, rfl, ok.web.len, ok.cs, rfl⟩, ?_⟩
  repeat walk_at "st"
  exact cj_sumL q
theorem c_web_harm (T : Top K mg) : Cal P w K mg base 8 "web_harm" (spA K 2 T_web_harm) := (p_web_harm T).cal
end
end HW

namespace HW
open PySem PySem.Spec PyProof.Rows L2 DL
section
variable {K : PySem.W.Frag} {P : Program} {w : World} {base : Heap} {mg : Str → Option Value}
local macro_rules | `(tactic| walk_at "sk") => `(tactic| with_reducible first | exact sk_new | exact sk_old | exact sk_send | exact sk_drop | exact sk_bring | exact sk_miss | exact sk_hear | exact sk_made | exact sk_twice | exact sk_lost | exact sk_zero | exact sk_one)
local macro_rules | `(tactic| walk_at "st") => `(tactic| first
  | ((with_reducible refine isVar ?_); first | refine ej_var rfl ?_)
  | ((with_reducible refine isTC ?_); first | with_reducible refine ej_int ?_ | with_reducible refine ej_str ?_ | with_reducible refine ej_non ?_ | with_reducible refine ej_bl ?_ | with_reducible refine ej_val ?_)
  | ((with_reducible refine isEJ ?_); first | with_reducible refine ej_op ?_ | with_reducible refine ej_call ?_ | with_reducible refine ej_cb ?_ | with_reducible refine ej_if ?_ | with_reducible refine ej_tup ?_ | with_reducible refine ej_andV ?_ | with_reducible refine ej_orV ?_ | with_reducible refine ej_notV ?_ | with_reducible refine ej_un ?_ | with_reducible refine ej_bits ?_ | with_reducible refine ej_dsS (by dsimp only [wipeD, List.map_cons, List.map_nil, List.set_cons_succ, List.set_cons_zero]; rfl) ?_)
  | ((with_reducible refine isAJ ?_); first | with_reducible refine aj_cons ?_ | with_reducible refine aj_nil ?_)
  | ((with_reducible refine isIx ?_); first | refine oj_ixT rfl ?_ | refine oj_ixL rfl ?_ | refine oj_ixM (by first | assumption | exact put_same _ _ _) rfl ?_)
  | ((with_reducible refine isOJ ?_); first | with_reducible refine oj_I0i ?_ | with_reducible refine oj_I0b ?_ | with_reducible refine oj_eqi ?_ | with_reducible refine oj_nei ?_ | with_reducible refine oj_eqb ?_ | with_reducible refine oj_eqsT (by walk_at "sk") ?_ | refine oj_eqsF (by walk_at "sk") (by walk_at "sk") (by decide +kernel) ?_ | with_reducible refine oj_isNone ?_ | with_reducible refine oj_notNone ?_ | with_reducible refine oj_eq_nil ?_ | with_reducible refine oj_ne_nil ?_ | refine oj_ninD (b := true) (by decide +kernel) (by decide +kernel) (by decide +kernel) ?_ | refine oj_ninD (b := false) (by decide +kernel) (by decide +kernel) (by decide +kernel) ?_)
  | ((with_reducible refine isTJ ?_); first | with_reducible refine tj_test ?_ | with_reducible refine tj_B ?_ | with_reducible refine tj_and ?_ | with_reducible refine tj_or ?_ | with_reducible refine tj_not ?_ | with_reducible refine tj_yes ?_ | with_reducible refine tj_dsS (by dsimp only [wipeD, List.map_cons, List.map_nil, List.set_cons_succ, List.set_cons_zero]; rfl) ?_)
  | ((with_reducible refine isSJ ?_); first | with_reducible refine sj_dsS (by dsimp only [wipeD, List.map_cons, List.map_nil, List.set_cons_succ, List.set_cons_zero]; rfl) ?_ | with_reducible refine sj_seq ?_ | with_reducible refine sj_set ?_ | with_reducible refine sj_ret ?_ | with_reducible refine sj_if ?_ | with_reducible refine sj_drop ?_ | with_reducible refine sj_par ?_ | with_reducible refine sj_par3 ?_ | with_reducible refine sj_asg ?_ | with_reducible refine sj_next ?_)
  | ((with_reducible refine isCJ ?_); first | with_reducible refine cj_isi_ib ?_ | refine cj_isi_same rfl ?_ | with_reducible refine cj_lenL ?_ | with_reducible refine cj_lenT ?_ | with_reducible refine cj_int ?_ | with_reducible refine cj_intb ?_ | with_reducible refine cj_max ?_ | with_reducible refine cj_min ?_)
  | ((with_reducible refine isGJ ?_); first | with_reducible refine gj_name ?_ | refine gj_tup rfl ?_ | refine gj_unl rfl ?_)
  | ((with_reducible refine isGs ?_); first | refine gsj_cons ?_ | refine gsj_nil ?_)
  | ((with_reducible refine isLJ ?_); first | with_reducible refine lj_name (by decide) ?_ | refine lj_tup rfl ?_)
  | ((with_reducible refine isLs ?_); first | refine lsj_cons ?_ | refine lsj_nil ?_)
  | ((with_reducible refine isIJ ?_); first | with_reducible refine ij_list ?_ | with_reducible refine ij_tup ?_ | with_reducible refine ij_range1 ?_ | with_reducible refine ij_range2 ?_ | with_reducible refine ij_enum ?_ | with_reducible refine ij_enumT ?_ | with_reducible refine ij_zip ?_)
  | with_reducible refine uj_neg ?_ | with_reducible refine fj_A rfl ?_ | with_reducible refine ⟨_, rfl, ?_⟩ | with_reducible refine ⟨_, _, rfl, ?_⟩ | with_reducible refine ⟨_, _, _, rfl, ?_⟩ | refine brT rfl ?_ | refine brF rfl ?_ | refine ⟨[_, _], rfl, Nat.le_of_ble_eq_true rfl, ?_⟩ | refine ⟨[_, _, _], rfl, Nat.le_of_ble_eq_true rfl, ?_⟩ | refine ⟨[_, _, _, _], rfl, Nat.le_of_ble_eq_true rfl, ?_⟩ | refine ⟨[], rfl, Nat.le_of_ble_eq_true rfl, ?_⟩ | refine ⟨[_], rfl, Nat.le_of_ble_eq_true rfl, ?_⟩ | refine ⟨[_, _, _, _, _], rfl, Nat.le_of_ble_eq_true rfl, ?_⟩)
local macro_rules | `(tactic| walk_at "sl") => `(tactic| first | walk_at "st" | with_reducible refine ej_lst ?_)
local macro_rules | `(tactic| walk_at "sd") => `(tactic| first | walk_at "st" | dsimp only [sortS, lotD])

/-- the harms of the ways that lead to a host -/
def atL (ws : List Wy) (ns : List Int) (host : Int) : List Int := (ws.zip ns).filterMap fun p => if p.1.b = host then some p.2 else none
theorem zips_get0 {ws : List Wy} {ns : List Int} {i : Nat} {d : PyData} (h : (zips (ws.map Wy.D) (ns.map PyData.int))[i]? = some d) : ∃ x n, (ws.zip ns)[i]? = some (x, n) ∧ d = .tuple [x.D, .int n] := by
  obtain ⟨u, v, h1, h2, rfl⟩ := zips_get h
  obtain ⟨x, hx, rfl⟩ := map_get h1
  obtain ⟨n, hn, rfl⟩ := map_get h2
  exact ⟨x, n, by rw [List.getElem?_zip_eq_some]; exact ⟨hx, hn⟩, rfl⟩
theorem filterMap_at (l : List (Wy × Int)) (host : Int) : (l.map fun p => if p.1.b = host then some (PyData.int p.2) else none).filterMap id = (l.filterMap fun p => if p.1.b = host then some p.2 else none).map PyData.int := by
  induction l with
  | nil => rfl
  | cons p l ih =>
    rw [List.map_cons, List.filterMap_cons, List.filterMap_cons]
    by_cases h : p.1.b = host
    · rw [if_pos h, if_pos h]
      show PyData.int p.2 :: _ = PyData.int p.2 :: _
      rw [ih]
    · rw [if_neg h, if_neg h]
      exact ih
theorem at_get {α : Type} {f : α → Option PyData} {l : List α} {i : Nat} {o : Option PyData} {x : α} (h : (l.map f)[i]? = some o) (hx : l[i]? = some x) : o = f x := by
  rw [List.getElem?_map, hx] at h
  exact (Option.some.inj h).symm
def T_harm_at : TF := pureT fun ps r => ∃ (h host : Int) (ws : List Wy) (cs : List Ct), ps = [webD h ws, .list (cs.map Ct.D), .int host] ∧ WOk h ws cs ∧ 0 ≤ host ∧ host ≤ h - 1 ∧ r = .int (atL ws (harmL ws cs) host).sum
theorem p_harm_at (T : Top K mg) : CalP P w K mg base 8 "harm_at" s_harm_at ["web", "contents", "host"] (spA K 3 T_harm_at) := by
  refine T.d_harm_at.calP sc_harm_at rfl fun f cdv A outer s H E hr => ⟨_, (pss_cons (ps_expr (pe_c (c_check_web_contents (K := K) T) hr (by decide) (by rfl) (pa_cons (pv 0) (pa_cons (pv 1) pa_nil))))
      (pss_cons (ps_expr (pe_c (c_check_number (K := K) T) hr (by decide) (by rfl) (pa_cons (pv 2) (pa_cons pe_int (pa_cons (pe_op op_sub (pe_ix (ixK K) (pv 0) pe_int (fun _ _ => rfl)) pe_int) pa_nil)))))
      (pss_cons (ps_expr (pe_c (c_check_all_sound (K := K) T) hr (by decide) (by rfl) (pa_cons (pv 0) pa_nil)))
      (pss_one (ps_ret (pe_callB (sumK K rfl) (by rfl) T.b_sum bt_sum (pa_cons (pe_lc (own := [("way", 3), ("harm", 4)]) rfl sc_harm_at.nd (pi_zipK K (by rfl) T.b_zip (pa_cons (pe_ix (ixK K) (pv 0) pe_int (fun _ _ => rfl)) (pa_cons (pe_c (c_harms_of (K := K) T) hr (by decide) (by rfl) (pa_cons (pv 0) (pa_cons (pv 1) pa_nil))) pa_nil))) (blkOk_by (N := N_harm_at) (sc := defScope s_harm_at) (by decide +kernel)) (fun _ _ _ _ _ => (pg_tupK K (n := 2) rfl (pgs_cons (pg_name (i := 3) sc_harm_at.nd rfl (by first | exact .inl rfl | exact .inr rfl)) (pgs_cons (pg_name (i := 4) sc_harm_at.nd rfl (by first | exact .inl rfl | exact .inr rfl)) pgs_nil)))) (fun _ _ _ _ _ => (pts_one (pt_cmpR (eqK K hr) (pe_ix (ixK K) (pv 3) pe_int (fun _ _ => rfl)) (pv 2) (nomark _)))) (fun _ _ _ _ _ => (pv 4))) pa_nil))))))), ?_⟩
  rintro xs M Q - ⟨ps, r, rfl, ⟨h, host, ws, cs, rfl, ok, h0, h1, rfl⟩, q⟩
  refine sj_ds (ds' := [some _, some _, some _, none, none]) rfl ?_
  repeat walk_at "st"
  refine ⟨[_, _], _, rfl, ⟨h, ws, cs, rfl, ok.web, ok.cs, rfl⟩, ?_⟩
  repeat walk_at "st"
  refine ⟨[_, _, _], _, rfl, ⟨_, _, _, rfl, h0, h1, rfl⟩, ?_⟩
  repeat walk_at "st"
  refine ⟨[_], _, rfl, ⟨h, ws, rfl, ok.so, rfl⟩, ?_⟩
  repeat walk_at "st"
  refine ej_lc_dat ?_
  repeat walk_at "st"
  refine ⟨[_, _], _, rfl, ⟨h, ws, cs, rfl, ok.web.len, ok.cs, rfl⟩, ?_⟩
  repeat walk_at "st"
  have hl := harmL_len ok.cs
  have hz := ok.web.len
  refine ⟨(ws.zip (harmL ws cs)).map fun p => if p.1.b = host then some (PyData.int p.2) else none, by rw [List.length_map, zips_length, List.length_map, List.length_map, List.length_zip], by rw [zips_length, List.length_map]; omega, fun i d o hd ho => ?_, ?_⟩
  · obtain ⟨x, n, hp, rfl⟩ := zips_get0 hd
    obtain rfl := at_get ho hp
    repeat walk_at "st"
    intro M'
    repeat walk_at "st"
    by_cases hb : x.b = host
    · simp only [if_pos hb]
      refine ⟨True.intro, decide_eq_true hb, fun y hy => ?_⟩
      cases hy
      repeat walk_at "st"
      exact ⟨rfl, rfl⟩
    · simp only [if_neg hb]
      exact ⟨True.intro, decide_eq_false hb, fun y hy => nomatch hy⟩
  · rw [filterMap_at]
    repeat walk_at "st"
    exact cj_sumL q
theorem c_harm_at (T : Top K mg) : Cal P w K mg base 8 "harm_at" (spA K 3 T_harm_at) := (p_harm_at T).cal
def cnt (ns : List Int) (m : Int) : Int := ((ns.filter fun n => decide (n = m)).length : Nat)
def cntD (ns : List Int) : List PyData := [.int (cnt ns 0), .int (cnt ns 1), .int (cnt ns 2), .int (cnt ns 3)]
def T_ways_by_harm : TF := fun xs M Q => ∃ (h : Int) (ws : List Wy) (cs : List Ct), xs = [.dat (webD h ws), .dat (.list (cs.map Ct.D))] ∧ WOk h ws cs ∧ ∀ k, M k = none → Q (.cel k) (put M k (cntD (harmL ws cs)))
theorem filterMap_cnt (ns : List Int) (m : Int) : ((ns.map fun n => if n = m then some (PyData.int n) else none).filterMap id).length = (ns.filter fun n => decide (n = m)).length := by
  induction ns with
  | nil => rfl
  | cons n ns ih =>
    rw [List.map_cons, List.filterMap_cons, List.filter_cons]
    by_cases h : n = m
    · rw [if_pos h, if_pos (decide_eq_true h)]
      show ((ns.map fun n => if n = m then some (PyData.int n) else none).filterMap id).length + 1 = (ns.filter fun n => decide (n = m)).length + 1
      rw [ih]
    · rw [if_neg h, if_neg (by rw [decide_eq_false h]; exact Bool.false_ne_true)]
      exact ih
theorem p_ways_by_harm (T : Top K mg) : CalP P w K mg base 8 "ways_by_harm" s_ways_by_harm ["web", "contents"] (spA K 2 T_ways_by_harm) := by
  refine T.d_ways_by_harm.calP sc_ways_by_harm rfl fun f cdv A outer s H E hr => ⟨_, (pss_cons (ps_expr (pe_c (c_check_web_contents (K := K) T) hr (by decide) (by rfl) (pa_cons (pv 0) (pa_cons (pv 1) pa_nil))))
      (pss_cons (ps_expr (pe_c (c_check_all_sound (K := K) T) hr (by decide) (by rfl) (pa_cons (pv 0) pa_nil)))
      (pss_cons (ps_set (i := 2) sc_ways_by_harm.nd rfl (.inr rfl) (pe_c (c_harms_of (K := K) T) hr (by decide) (by rfl) (pa_cons (pv 0) (pa_cons (pv 1) pa_nil))))
      (pss_one (ps_ret (pe_lc (own := [("many", 3)]) rfl sc_ways_by_harm.nd (pi_range1 (by rfl) T.b_range (pa_cons (pe_op op_add (pe_gc (v := .int 3) (by rfl) T.most) pe_int) pa_nil)) (blkOk_by (N := N_ways_by_harm) (sc := defScope s_ways_by_harm) (by decide +kernel)) (fun _ _ _ _ _ => (pg_name (i := 3) sc_ways_by_harm.nd rfl (by first | exact .inl rfl | exact .inr rfl))) (fun _ _ _ _ _ => pts_nil) (fun _ _ _ _ _ => (pe_callB (lenK K) (by rfl) T.b_len bt_len (pa_cons (pe_lc (own := [("harm", 4)]) rfl sc_ways_by_harm.nd (pi_listK K (pv 2)) (blkOk_by (by rfl)) (fun _ _ _ _ _ => (pg_name (i := 4) sc_ways_by_harm.nd rfl (by first | exact .inl rfl | exact .inr rfl))) (fun _ _ _ _ _ => (pts_one (pt_cmpR (eqK K hr) (pv 4) (pv 3) (nomark _)))) (fun _ _ _ _ _ => (pv 4))) pa_nil))))))))), ?_⟩
  rintro xs M Q - ⟨h, ws, cs, rfl, ok, q⟩
  refine sj_ds (ds' := [some _, some _, none, none, none]) rfl ?_
  repeat walk_at "st"
  refine ⟨[_, _], _, rfl, ⟨h, ws, cs, rfl, ok.web, ok.cs, rfl⟩, ?_⟩
  repeat walk_at "st"
  refine ⟨[_], _, rfl, ⟨h, ws, rfl, ok.so, rfl⟩, ?_⟩
  repeat walk_at "st"
  refine ⟨[_, _], _, rfl, ⟨h, ws, cs, rfl, ok.web.len, ok.cs, rfl⟩, ?_⟩
  have hl := harmL_len ok.cs
  have hz := ok.web.len
  generalize harmL ws cs = ns at *
  repeat walk_at "st"
  refine ej_lc_cell ?_
  repeat walk_at "st"
  refine ⟨by decide, ⟨(cntD ns).map some, rfl, by show 4 ≤ 10000; decide, fun i d o hd ho => ?_, fun k hk => ?_⟩⟩
  · obtain ⟨hi, rfl⟩ := rngI_get hd
    have ho' : o = some (.int (cnt ns (0 + (i : Int)))) := by
      have hi : i < 4 := hi
      have hc : i = 0 ∨ i = 1 ∨ i = 2 ∨ i = 3 := by omega
      rcases hc with rfl | rfl | rfl | rfl <;> exact (Option.some.inj ho).symm
    subst ho'
    repeat walk_at "st"
    intro M'
    repeat walk_at "st"
    refine ⟨rfl, rfl, fun y hy => ?_⟩
    cases hy
    repeat walk_at "st"
    refine ej_lc_dat ?_
    repeat walk_at "st"
    refine ⟨ns.map fun n => if n = 0 + (i : Int) then some (PyData.int n) else none, by rw [List.length_map, List.length_map], by rw [List.length_map]; omega, fun j d o hd ho => ?_, ?_⟩
    · obtain ⟨n, hn, rfl⟩ := map_get hd
      obtain rfl := at_get ho hn
      repeat walk_at "st"
      intro M''
      repeat walk_at "st"
      by_cases hb : n = 0 + (i : Int)
      · simp only [if_pos hb]
        refine ⟨True.intro, decide_eq_true hb, fun y hy => ?_⟩
        cases hy
        repeat walk_at "st"
        exact ⟨rfl, rfl⟩
      · simp only [if_neg hb]
        exact ⟨True.intro, decide_eq_false hb, fun y hy => nomatch hy⟩
    · repeat walk_at "st"
      rw [filterMap_cnt]
      rw [Int.zero_add]
      exact ⟨rfl, rfl⟩
  · exact q k hk
theorem c_ways_by_harm (T : Top K mg) : Cal P w K mg base 8 "ways_by_harm" (spA K 2 T_ways_by_harm) := (p_ways_by_harm T).cal
end
end HW

namespace HW
open PySem PySem.Spec PyProof.Rows L2 DL
section
variable {K : PySem.W.Frag} {P : Program} {w : World} {base : Heap} {mg : Str → Option Value}
local macro_rules | `(tactic| walk_at "sk") => `(tactic| with_reducible first | exact sk_new | exact sk_old | exact sk_send | exact sk_drop | exact sk_bring | exact sk_miss | exact sk_hear | exact sk_made | exact sk_twice | exact sk_lost | exact sk_zero | exact sk_one)
local macro_rules | `(tactic| walk_at "st") => `(tactic| first
  | ((with_reducible refine isVar ?_); first | refine ej_var rfl ?_)
  | ((with_reducible refine isTC ?_); first | with_reducible refine ej_int ?_ | with_reducible refine ej_str ?_ | with_reducible refine ej_non ?_ | with_reducible refine ej_bl ?_ | with_reducible refine ej_val ?_)
  | ((with_reducible refine isEJ ?_); first | with_reducible refine ej_op ?_ | with_reducible refine ej_call ?_ | with_reducible refine ej_cb ?_ | with_reducible refine ej_if ?_ | with_reducible refine ej_tup ?_ | with_reducible refine ej_andV ?_ | with_reducible refine ej_orV ?_ | with_reducible refine ej_notV ?_ | with_reducible refine ej_un ?_ | with_reducible refine ej_bits ?_ | with_reducible refine ej_dsS (by dsimp only [wipeD, List.map_cons, List.map_nil, List.set_cons_succ, List.set_cons_zero]; rfl) ?_)
  | ((with_reducible refine isAJ ?_); first | with_reducible refine aj_cons ?_ | with_reducible refine aj_nil ?_)
  | ((with_reducible refine isIx ?_); first | refine oj_ixT rfl ?_ | refine oj_ixL rfl ?_ | refine oj_ixM (by first | assumption | exact put_same _ _ _) rfl ?_)
  | ((with_reducible refine isOJ ?_); first | with_reducible refine oj_I0i ?_ | with_reducible refine oj_I0b ?_ | with_reducible refine oj_eqi ?_ | with_reducible refine oj_nei ?_ | with_reducible refine oj_eqb ?_ | with_reducible refine oj_eqsT (by walk_at "sk") ?_ | refine oj_eqsF (by walk_at "sk") (by walk_at "sk") (by decide +kernel) ?_ | with_reducible refine oj_isNone ?_ | with_reducible refine oj_notNone ?_ | with_reducible refine oj_eq_nil ?_ | with_reducible refine oj_ne_nil ?_ | refine oj_ninD (b := true) (by decide +kernel) (by decide +kernel) (by decide +kernel) ?_ | refine oj_ninD (b := false) (by decide +kernel) (by decide +kernel) (by decide +kernel) ?_)
  | ((with_reducible refine isTJ ?_); first | with_reducible refine tj_test ?_ | with_reducible refine tj_B ?_ | with_reducible refine tj_and ?_ | with_reducible refine tj_or ?_ | with_reducible refine tj_not ?_ | with_reducible refine tj_yes ?_ | with_reducible refine tj_dsS (by dsimp only [wipeD, List.map_cons, List.map_nil, List.set_cons_succ, List.set_cons_zero]; rfl) ?_)
  | ((with_reducible refine isSJ ?_); first | with_reducible refine sj_dsS (by dsimp only [wipeD, List.map_cons, List.map_nil, List.set_cons_succ, List.set_cons_zero]; rfl) ?_ | with_reducible refine sj_seq ?_ | with_reducible refine sj_set ?_ | with_reducible refine sj_ret ?_ | with_reducible refine sj_if ?_ | with_reducible refine sj_drop ?_ | with_reducible refine sj_par ?_ | with_reducible refine sj_par3 ?_ | with_reducible refine sj_asg ?_ | with_reducible refine sj_next ?_)
  | ((with_reducible refine isCJ ?_); first | with_reducible refine cj_isi_ib ?_ | refine cj_isi_same rfl ?_ | with_reducible refine cj_lenL ?_ | with_reducible refine cj_lenT ?_ | with_reducible refine cj_int ?_ | with_reducible refine cj_intb ?_ | with_reducible refine cj_max ?_ | with_reducible refine cj_min ?_)
  | ((with_reducible refine isGJ ?_); first | with_reducible refine gj_name ?_ | refine gj_tup rfl ?_ | refine gj_unl rfl ?_)
  | ((with_reducible refine isGs ?_); first | refine gsj_cons ?_ | refine gsj_nil ?_)
  | ((with_reducible refine isLJ ?_); first | with_reducible refine lj_name (by decide) ?_ | refine lj_tup rfl ?_)
  | ((with_reducible refine isLs ?_); first | refine lsj_cons ?_ | refine lsj_nil ?_)
  | ((with_reducible refine isIJ ?_); first | with_reducible refine ij_list ?_ | with_reducible refine ij_tup ?_ | with_reducible refine ij_range1 ?_ | with_reducible refine ij_range2 ?_ | with_reducible refine ij_enum ?_ | with_reducible refine ij_enumT ?_ | with_reducible refine ij_zip ?_)
  | with_reducible refine uj_neg ?_ | with_reducible refine fj_A rfl ?_ | with_reducible refine ⟨_, rfl, ?_⟩ | with_reducible refine ⟨_, _, rfl, ?_⟩ | with_reducible refine ⟨_, _, _, rfl, ?_⟩ | refine brT rfl ?_ | refine brF rfl ?_ | refine ⟨[_, _], rfl, Nat.le_of_ble_eq_true rfl, ?_⟩ | refine ⟨[_, _, _], rfl, Nat.le_of_ble_eq_true rfl, ?_⟩ | refine ⟨[_, _, _, _], rfl, Nat.le_of_ble_eq_true rfl, ?_⟩ | refine ⟨[], rfl, Nat.le_of_ble_eq_true rfl, ?_⟩ | refine ⟨[_], rfl, Nat.le_of_ble_eq_true rfl, ?_⟩ | refine ⟨[_, _, _, _, _], rfl, Nat.le_of_ble_eq_true rfl, ?_⟩)
local macro_rules | `(tactic| walk_at "sl") => `(tactic| first | walk_at "st" | with_reducible refine ej_lst ?_)
local macro_rules | `(tactic| walk_at "sd") => `(tactic| first | walk_at "st" | dsimp only [sortS, lotD])

/-- the generator's list: what of the seed is left, the small seed, the count of draws (at most n) -/
def GenOk (n : Int) (xs : List PyData) : Prop := ∃ a b c : Int, xs = [.int a, .int b, .int c] ∧ 0 ≤ a ∧ 0 ≤ b ∧ b < 2147483648 ∧ 0 ≤ c ∧ c ≤ n
theorem mulOk {i j : Int} (hi : i.natAbs < 2 ^ 200) (hj : j.natAbs < 2 ^ 200) : CMulW i j := wide_mul hi hj (by decide) (by decide) (by decide)
theorem nb {i : Int} (h0 : -(2 ^ 64) < i) (h1 : i < 2 ^ 64) : i.natAbs < 2 ^ 200 := by omega
def T_cell : TF := fun xs M Q => ∃ (ns : List Int) (i : Int), xs = [.dat (.list (ns.map PyData.int)), .dat (.int i)] ∧ 0 ≤ i ∧ ∀ r : Int, Q (.dat (.int r)) M
theorem c__law_cell (T : Top K mg) : Cal P w K mg base 1 "_law_cell" (spA K 2 T_cell) := by
  refine T.d__law_cell.cal sc_law_cell rfl fun f cdv A outer s H E hr => ⟨_, (pss_cons (ps_if (pt_cmpR op_lt (pv 1) (pe_callB (lenK K) (by rfl) T.b_len bt_len (pa_cons (pv 0) pa_nil)) (nomark _)) (pss_one (ps_ret (pe_ix (ixK K) (pv 0) (pv 1) (fun _ _ => rfl)))) pss_nil)
      (pss_one (ps_ret (pe_op op_mod (pe_callB (sumK K rfl) (by rfl) T.b_sum bt_sum (pa_cons (pe_slice (slLK K) (pv 0) po_none (po_some pe_int)) pa_nil)) pe_int)))), ?_⟩
  rintro xs M Q - ⟨ns, i, rfl, hi, q⟩
  refine sj_ds (ds' := [some _, some _]) rfl ?_
  obtain ⟨k, rfl⟩ := Int.eq_ofNat_of_zero_le hi
  repeat walk_at "st"
  refine brD (fun hl => ?_) (fun hl => ?_)
  · rw [List.length_map] at hl
    have hlt : k < ns.length := by omega
    repeat walk_at "st"
    refine oj_ixL (atI_nat (get_map (List.getElem?_eq_getElem hlt))) ?_
    exact q _
  · repeat walk_at "st"
    refine ej_headL ?_
    repeat walk_at "st"
    refine pj_none ⟨rfl, pj_some ?_⟩
    repeat walk_at "st"
    rw [← List.map_take]
    refine cj_sumL ?_
    repeat walk_at "st"
    refine oj_Ii (by decide) ?_
    exact q _
def T_hash : TF := fun xs M Q => ∃ s i : Int, xs = [.dat (.int s), .dat (.int i)] ∧ 0 ≤ s ∧ s < 2147483648 ∧ 0 ≤ i ∧ i ≤ 1000000 ∧ ∀ r : Int, 0 ≤ r → r < 2147483647 → Q (.dat (.int r)) M
theorem c__law_hash (T : Top K mg) : Cal P w K mg base 1 "_law_hash" (spA K 2 T_hash) := by
  refine T.d__law_hash.cal sc_law_hash rfl fun f cdv A outer s H E hr => ⟨_, (pss_cons (ps_set (i := 2) sc_law_hash.nd rfl (.inl rfl) (pe_op op_mod (pe_callTy call_int (by rfl) T.b_int bt_int (pa_cons (pe_op op_add (pe_op op_add (pe_op op_add (pe_op op_mulW (pv 0) pe_int) (pe_op op_mulW (pe_op op_mulW pe_int (pv 1)) (pv 1))) (pe_op op_mulW pe_int (pv 1))) pe_int) pa_nil)) pe_int))
      (pss_cons (ps_set (i := 2) sc_law_hash.nd rfl (.inl rfl) (pe_op op_mod (pe_callTy call_int (by rfl) T.b_int bt_int (pa_cons (pe_op op_add (pe_op op_add (pe_op op_mulW (pv 2) (pv 2)) (pe_op op_mulW pe_int (pv 1))) pe_int) pa_nil)) pe_int))
      (pss_one (ps_ret (pe_op op_mod (pe_callTy call_int (by rfl) T.b_int bt_int (pa_cons (pe_op op_mulW (pv 2) pe_int) pa_nil)) pe_int))))), ?_⟩
  rintro xs M Q - ⟨s, i, rfl, h1, h2, h3, h4, q⟩
  refine sj_ds (ds' := [some _, some _, none]) rfl ?_
  repeat walk_at "st"
  refine oj_Ii (mulOk (nb (by omega) (by omega)) (nb (by decide) (by decide))) ?_
  repeat walk_at "st"
  refine oj_Ii (mulOk (nb (by decide) (by decide)) (nb (by omega) (by omega))) ?_
  repeat walk_at "st"
  refine oj_Ii (mulOk (nb (by omega) (by omega)) (nb (by omega) (by omega))) ?_
  repeat walk_at "st"
  refine oj_Ii (mulOk (nb (by decide) (by decide)) (nb (by omega) (by omega))) ?_
  repeat walk_at "st"
  refine oj_Ii (by decide) ?_
  generalize hm : (s * 1140671 + 27644437 * i * i + 131 * i + 19) % 2147483629 = m
  have m0 : 0 ≤ m := by rw [← hm]; exact Int.emod_nonneg _ (by decide)
  have m1 : m < 2147483629 := by rw [← hm]; exact Int.emod_lt_of_pos _ (by decide)
  clear hm
  repeat walk_at "st"
  refine oj_Ii (mulOk (nb (by omega) (by omega)) (nb (by omega) (by omega))) ?_
  repeat walk_at "st"
  refine oj_Ii (mulOk (nb (by decide) (by decide)) (nb (by omega) (by omega))) ?_
  repeat walk_at "st"
  refine oj_Ii (by decide) ?_
  generalize hk : (m * m + 62089 * i + 32416187) % 2147483587 = k
  have k0 : 0 ≤ k := by rw [← hk]; exact Int.emod_nonneg _ (by decide)
  have k1 : k < 2147483587 := by rw [← hk]; exact Int.emod_lt_of_pos _ (by decide)
  clear hk
  repeat walk_at "st"
  refine oj_Ii (mulOk (nb (by omega) (by omega)) (nb (by decide) (by decide))) ?_
  repeat walk_at "st"
  refine oj_Ii (by decide) ?_
  exact q _ (Int.emod_nonneg _ (by decide)) (Int.emod_lt_of_pos _ (by decide))

def T_generator : TF := fun xs M Q => ∃ (ns : List Int) (i : Int), xs = [.dat (.list (ns.map PyData.int)), .dat (.int i)] ∧ 0 ≤ i ∧ i ≤ 10 ∧ ∀ g zs, M g = none → GenOk (1000 * i) zs → Q (.cel g) (put M g zs)
theorem c__law_generator (T : Top K mg) : Cal P w K mg base 2 "_law_generator" (spA K 2 T_generator) := by
  refine T.d__law_generator.cal sc_law_generator rfl fun f cdv A outer s H E hr => ⟨_, (pss_cons (ps_set (i := 2) sc_law_generator.nd rfl (.inl rfl) (pe_c (c__law_cell (K := K) T) hr (by decide) (by rfl) (pa_cons (pv 0) (pa_cons (pv 1) pa_nil))))
      (pss_one (ps_ret (pe_lst (pa_cons (pe_op op_mod (pe_callTy call_int (by rfl) T.b_int bt_int (pa_cons (pe_callB (call_mx2 rfl) (by rfl) T.b_max bt_max (pa_cons (pe_op op_sub (pv 2) (pe_op op_powW pe_int pe_int)) (pa_cons pe_int pa_nil))) pa_nil)) (pe_op op_powW (pe_op op_powW pe_int pe_int) pe_int)) (pa_cons (pe_op op_mod (pe_callTy call_int (by rfl) T.b_int bt_int (pa_cons (pv 2) pa_nil)) pe_int) (pa_cons (pe_op op_mulW pe_int (pv 1)) pa_nil))))))), ?_⟩
  rintro xs M Q - ⟨ns, i, rfl, h0, h1, q⟩
  refine sj_ds (ds' := [some _, some _, none]) rfl ?_
  repeat walk_at "st"
  refine ⟨ns, i, rfl, h0, fun r => ?_⟩
  repeat walk_at "st"
  refine ej_lstM ?_
  repeat walk_at "st"
  refine oj_Ii ⟨by decide, by decide +kernel⟩ ?_
  repeat walk_at "st"
  refine oj_Ii ⟨by decide, by decide +kernel⟩ ?_
  repeat walk_at "st"
  refine oj_Ii ⟨by decide, by decide +kernel⟩ ?_
  refine oj_Ii (by decide +kernel) ?_
  generalize ha : (max (r - 10 ^ (18 : Int).toNat) 0) % ((10 ^ (60 : Int).toNat) ^ (10 : Int).toNat : Int) = a
  have a0 : 0 ≤ a := by rw [← ha]; exact Int.emod_nonneg _ (by decide +kernel)
  clear ha
  repeat walk_at "st"
  refine oj_Ii (by decide) ?_
  generalize hb : r % 2147483647 = b
  have b0 : 0 ≤ b := by rw [← hb]; exact Int.emod_nonneg _ (by decide)
  have b1 : b < 2147483647 := by rw [← hb]; exact Int.emod_lt_of_pos _ (by decide)
  clear hb
  repeat walk_at "st"
  refine oj_Ii (mulOk (nb (by decide) (by decide)) (nb (by omega) (by omega))) ?_
  repeat walk_at "st"
  exact fun g hg => q g _ hg ⟨a, b, 1000 * i, rfl, a0, b0, by omega, by omega, Int.le_refl _⟩
def T_random : TF := fun xs M Q => ∃ (g : Nat) (lim : Int) (zs : List PyData) (n : Int), xs = [.cel g, .dat (.int lim)] ∧ M g = some zs ∧ GenOk n zs ∧ n ≤ 900000 ∧ 1 ≤ lim ∧ lim ≤ 10 ^ 30 ∧
  ∀ ys (r : Int), GenOk (n + 4) ys → 0 ≤ r → r < lim → Q (.dat (.int r)) (put M g ys)
theorem c__law_random (T : Top K mg) : Cal P w K mg base 2 "_law_random" (spA K 2 T_random) := by
  refine T.d__law_random.cal sc_law_random rfl fun f cdv A outer s H E hr => ⟨_, (pss_cons (ps_if (pt_cmpR op_gt (pe_ix (ixK K) (pv 0) pe_int (fun _ _ => rfl)) pe_int (nomark _)) (pss_cons (ps_set (i := 2) sc_law_random.nd rfl (.inl rfl) (pe_op op_mod (pe_callTy call_int (by rfl) T.b_int bt_int (pa_cons (pe_ix (ixK K) (pv 0) pe_int (fun _ _ => rfl)) pa_nil)) (pv 1)))
      (pss_cons (ps_asg (pe_op op_fdivW (pe_ix (ixK K) (pv 0) pe_int (fun _ _ => rfl)) (pv 1)) (pg_sub (pv 0) pe_int set_list))
      (pss_one (ps_ret (pv 2))))) pss_nil)
      (pss_cons (ps_set (i := 2) sc_law_random.nd rfl (.inl rfl) pe_int)
      (pss_cons (ps_for PassesOwn.never rfl (pi_range1 (by rfl) T.b_range (pa_cons (pe_op op_add pe_int (pe_op op_fdivW (pe_bits (pv 1)) pe_int)) pa_nil)) (pg_name (i := 3) sc_law_random.nd rfl (.inl rfl)) (pss_cons (ps_asg (pe_op op_add (pe_ix (ixK K) (pv 0) pe_int (fun _ _ => rfl)) pe_int) (pg_sub (pv 0) pe_int set_list))
      (pss_one (ps_set (i := 2) sc_law_random.nd rfl (.inl rfl) (pe_op op_add (pe_op op_mulW (pv 2) pe_int) (pe_c (c__law_hash (K := K) T) hr (by decide) (by rfl) (pa_cons (pe_ix (ixK K) (pv 0) pe_int (fun _ _ => rfl)) (pa_cons (pe_ix (ixK K) (pv 0) pe_int (fun _ _ => rfl)) pa_nil))))))))
      (pss_one (ps_ret (pe_op op_mod (pe_callTy call_int (by rfl) T.b_int bt_int (pa_cons (pv 2) pa_nil)) (pv 1))))))), ?_⟩
  rintro xs M Q - ⟨g, lim, zs, n, rfl, hg, ⟨a, b, c, rfl, a0, b0, b1, c0, c1⟩, hn, l0, l1, q⟩
  refine sj_ds (ds' := [some _, some _, none, none]) rfl ?_
  repeat walk_at "st"
  refine brD (fun ha => ?_) (fun ha => ?_)
  · repeat walk_at "st"
    refine oj_Ii (by omega) ?_
    repeat walk_at "st"
    refine oj_Ii (wide_div (by omega) (show lim.natAbs < 2 ^ 200 by omega) (by decide) (by decide)) ?_
    refine gj_sub ?_
    repeat walk_at "st"
    refine ⟨g, _, 0, 0, rfl, rfl, hg, rfl, ?_⟩
    repeat walk_at "st"
    exact q _ _ ⟨a / lim, b, c, rfl, Int.ediv_nonneg a0 (by omega), b0, b1, c0, by omega⟩ (Int.emod_nonneg _ (by omega)) (Int.emod_lt_of_pos _ (by omega))
  · have hbits : Builtin.Int.intBits lim ≤ 100 := PyProof.Rows.intBits_le (show lim.natAbs < 2 ^ 100 by omega)
    repeat walk_at "st"
    refine sj_for ?_
    repeat walk_at "st"
    refine oj_Ii ⟨by decide, by decide⟩ ?_
    repeat walk_at "st"
    refine ⟨by omega, ?_⟩
    generalize hN : (1 + (Builtin.Int.intBits lim : Int) / 30).toNat = N
    have hN4 : N ≤ 4 := by omega
    refine ⟨fun i ds' M' => i ≤ 4 ∧ ∃ (dr : Int) (o : Option D), 0 ≤ dr ∧ dr < 4294967296 ^ i ∧ ds' = [some (.cel g), some (.dat (.int lim)), some (.dat (.int dr)), o] ∧ M' = put M g [.int a, .int b, .int (c + i)], ⟨by omega, 0, none, by decide, by decide, rfl, ?_⟩, ?_, ?_⟩
    · funext j
      unfold put
      by_cases e : j = g
      · rw [if_pos e, e, hg, show c + ((0 : Nat) : Int) = c by omega]
      · rw [if_neg e]
    · rintro i d ds' M' hd ⟨hi4, dr, o, d0, d1, rfl, rfl⟩
      obtain ⟨hi, rfl⟩ := rngI_get hd
      have hi5 : i < 4 := by omega
      repeat walk_at "st"
      refine gj_sub ?_
      repeat walk_at "st"
      refine ⟨g, _, 2, 2, rfl, rfl, put_same _ _ _, rfl, ?_⟩
      rw [put_put]
      show SJ K _ _ (put M g [.int a, .int b, .int (c + i + 1)]) _
      repeat walk_at "st"
      have hp : (4294967296 : Int) ^ i < 2 ^ 200 := by
        have hc : i = 0 ∨ i = 1 ∨ i = 2 ∨ i = 3 := by omega
        rcases hc with rfl | rfl | rfl | rfl <;> decide
      refine oj_Ii (mulOk (by omega) (nb (by decide) (by decide))) ?_
      repeat walk_at "st"
      refine ⟨b, c + i + 1, rfl, b0, b1, by omega, by omega, fun r r0 r1 => ?_⟩
      repeat walk_at "st"
      refine ⟨by omega, _, _, ?_, ?_, rfl, ?_⟩
      · omega
      · rw [Int.pow_succ]
        omega
      · rw [show c + i + 1 = c + ((i + 1 : Nat) : Int) by omega]
    · rintro ds' M' ⟨hi4, dr, o, d0, d1, rfl, rfl⟩
      rw [rngI_length] at hi4
      rw [rngI_length]
      repeat walk_at "st"
      refine oj_Ii (by omega) ?_
      exact q _ _ ⟨a, b, c + N, rfl, a0, b0, b1, by omega, by omega⟩ (Int.emod_nonneg _ (by omega)) (Int.emod_lt_of_pos _ (by omega))
end
end HW

namespace HW
open PySem PySem.Spec PyProof.Rows L2 DL
section
variable {K : PySem.W.Frag} {P : Program} {w : World} {base : Heap} {mg : Str → Option Value}
local macro_rules | `(tactic| walk_at "sk") => `(tactic| with_reducible first | exact sk_new | exact sk_old | exact sk_send | exact sk_drop | exact sk_bring | exact sk_miss | exact sk_hear | exact sk_made | exact sk_twice | exact sk_lost | exact sk_zero | exact sk_one)
local macro_rules | `(tactic| walk_at "st") => `(tactic| first
  | ((with_reducible refine isVar ?_); first | refine ej_var rfl ?_)
  | ((with_reducible refine isTC ?_); first | with_reducible refine ej_int ?_ | with_reducible refine ej_str ?_ | with_reducible refine ej_non ?_ | with_reducible refine ej_bl ?_ | with_reducible refine ej_val ?_)
  | ((with_reducible refine isEJ ?_); first | with_reducible refine ej_op ?_ | with_reducible refine ej_call ?_ | with_reducible refine ej_cb ?_ | with_reducible refine ej_if ?_ | with_reducible refine ej_tup ?_ | with_reducible refine ej_andV ?_ | with_reducible refine ej_orV ?_ | with_reducible refine ej_notV ?_ | with_reducible refine ej_un ?_ | with_reducible refine ej_bits ?_ | with_reducible refine ej_dsS (by dsimp only [wipeD, List.map_cons, List.map_nil, List.set_cons_succ, List.set_cons_zero]; rfl) ?_)
  | ((with_reducible refine isAJ ?_); first | with_reducible refine aj_cons ?_ | with_reducible refine aj_nil ?_)
  | ((with_reducible refine isIx ?_); first | refine oj_ixT rfl ?_ | refine oj_ixL rfl ?_ | refine oj_ixM (by first | assumption | exact put_same _ _ _) rfl ?_)
  | ((with_reducible refine isOJ ?_); first | with_reducible refine oj_I0i ?_ | with_reducible refine oj_I0b ?_ | with_reducible refine oj_eqi ?_ | with_reducible refine oj_nei ?_ | with_reducible refine oj_eqb ?_ | with_reducible refine oj_eqsT (by walk_at "sk") ?_ | refine oj_eqsF (by walk_at "sk") (by walk_at "sk") (by decide +kernel) ?_ | with_reducible refine oj_isNone ?_ | with_reducible refine oj_notNone ?_ | with_reducible refine oj_eq_nil ?_ | with_reducible refine oj_ne_nil ?_ | refine oj_ninD (b := true) (by decide +kernel) (by decide +kernel) (by decide +kernel) ?_ | refine oj_ninD (b := false) (by decide +kernel) (by decide +kernel) (by decide +kernel) ?_)
  | ((with_reducible refine isTJ ?_); first | with_reducible refine tj_test ?_ | with_reducible refine tj_B ?_ | with_reducible refine tj_and ?_ | with_reducible refine tj_or ?_ | with_reducible refine tj_not ?_ | with_reducible refine tj_yes ?_ | with_reducible refine tj_dsS (by dsimp only [wipeD, List.map_cons, List.map_nil, List.set_cons_succ, List.set_cons_zero]; rfl) ?_)
  | ((with_reducible refine isSJ ?_); first | with_reducible refine sj_dsS (by dsimp only [wipeD, List.map_cons, List.map_nil, List.set_cons_succ, List.set_cons_zero]; rfl) ?_ | with_reducible refine sj_seq ?_ | with_reducible refine sj_set ?_ | with_reducible refine sj_ret ?_ | with_reducible refine sj_if ?_ | with_reducible refine sj_drop ?_ | with_reducible refine sj_par ?_ | with_reducible refine sj_par3 ?_ | with_reducible refine sj_asg ?_ | with_reducible refine sj_next ?_)
  | ((with_reducible refine isCJ ?_); first | with_reducible refine cj_isi_ib ?_ | refine cj_isi_same rfl ?_ | with_reducible refine cj_lenL ?_ | with_reducible refine cj_lenT ?_ | with_reducible refine cj_int ?_ | with_reducible refine cj_intb ?_ | with_reducible refine cj_max ?_ | with_reducible refine cj_min ?_)
  | ((with_reducible refine isGJ ?_); first | with_reducible refine gj_name ?_ | refine gj_tup rfl ?_ | refine gj_unl rfl ?_)
  | ((with_reducible refine isGs ?_); first | refine gsj_cons ?_ | refine gsj_nil ?_)
  | ((with_reducible refine isLJ ?_); first | with_reducible refine lj_name (by decide) ?_ | refine lj_tup rfl ?_)
  | ((with_reducible refine isLs ?_); first | refine lsj_cons ?_ | refine lsj_nil ?_)
  | ((with_reducible refine isIJ ?_); first | with_reducible refine ij_list ?_ | with_reducible refine ij_tup ?_ | with_reducible refine ij_range1 ?_ | with_reducible refine ij_range2 ?_ | with_reducible refine ij_enum ?_ | with_reducible refine ij_enumT ?_ | with_reducible refine ij_zip ?_)
  | with_reducible refine uj_neg ?_ | with_reducible refine fj_A rfl ?_ | with_reducible refine ⟨_, rfl, ?_⟩ | with_reducible refine ⟨_, _, rfl, ?_⟩ | with_reducible refine ⟨_, _, _, rfl, ?_⟩ | refine brT rfl ?_ | refine brF rfl ?_ | refine ⟨[_, _], rfl, Nat.le_of_ble_eq_true rfl, ?_⟩ | refine ⟨[_, _, _], rfl, Nat.le_of_ble_eq_true rfl, ?_⟩ | refine ⟨[_, _, _, _], rfl, Nat.le_of_ble_eq_true rfl, ?_⟩ | refine ⟨[], rfl, Nat.le_of_ble_eq_true rfl, ?_⟩ | refine ⟨[_], rfl, Nat.le_of_ble_eq_true rfl, ?_⟩ | refine ⟨[_, _, _, _, _], rfl, Nat.le_of_ble_eq_true rfl, ?_⟩)
local macro_rules | `(tactic| walk_at "sl") => `(tactic| first | walk_at "st" | with_reducible refine ej_lst ?_)
local macro_rules | `(tactic| walk_at "sd") => `(tactic| first | walk_at "st" | dsimp only [sortS, lotD])

theorem sj_cut {t u : TS} {ds : Ds} {M : Ms} {P : Pst} (J : Ds → Ms → Prop) (h : SJ K t ds M { P with nx := J }) (k : ∀ ds' M', J ds' M' → SJ K u ds' M' P) : SJ K (tSeq t u) ds M P :=
  sj_seq fun w σ H s sl E n r b c => h w σ H s sl E (fun w' σ' H' ds' M' e s' sl' q => n w' σ' H' ds' M' e s' sl' (k ds' M' q)) r b c
theorem GenOk.mono {n m : Int} {xs : List PyData} (h : GenOk n xs) (le : n ≤ m) : GenOk m xs := by
  obtain ⟨a, b, c, e, h1, h2, h3, h4, h5⟩ := h
  exact ⟨a, b, c, e, h1, h2, h3, h4, by omega⟩
def genT (cost : Int) (pre : List PyData → Prop) (post : List PyData → PyData → Prop) : TF := fun xs M Q => ∃ (g : Nat) (ps zs : List PyData) (n : Int), xs = .cel g :: ps.map D.dat ∧ M g = some zs ∧ GenOk n zs ∧ n + cost ≤ 900000 ∧ pre ps ∧
  ∀ ys r, GenOk (n + cost) ys → post ps r → Q (.dat r) (put M g ys)
def big : Int := 1000000000000000000000000000000
structure Small (l : Lk) : Prop where
  c : l.c < big
  d : l.d < big
  p : l.p < big
  q : l.q < big
structure LkOk (l : Lk) : Prop where
  ok : l.Ok
  so : l.Sound
  sm : Small l
def T_link : TF := genT 16 (fun ps => ps = [.int 2]) (fun _ r => ∃ l : Lk, r = l.D ∧ LkOk l)
theorem c__law_link (T : Top K mg) : Cal P w K mg base 3 "_law_link" (spA K 2 T_link) := by
  refine T.d__law_link.cal sc_law_link rfl fun f cdv A outer s H E hr => ⟨_, (pss_cons (ps_par (i := 2) (j := 3) rfl sc_law_link.nd rfl rfl (by decide) rfl rfl (pa_cons (pe_op op_add pe_int (pe_c (c__law_random (K := K) T) hr (by decide) (by rfl) (pa_cons (pv 0) (pa_cons (pv 1) pa_nil)))) (pa_cons (pe_op op_add pe_int (pe_c (c__law_random (K := K) T) hr (by decide) (by rfl) (pa_cons (pv 0) (pa_cons (pv 1) pa_nil)))) pa_nil)) rfl)
      (pss_one (ps_ret (pe_tup (pa_cons (pv 2) (pa_cons (pv 3) (pa_cons (pe_op op_add (pv 2) (pe_c (c__law_random (K := K) T) hr (by decide) (by rfl) (pa_cons (pv 0) (pa_cons pe_int pa_nil)))) (pa_cons (pe_op op_add (pv 3) (pe_c (c__law_random (K := K) T) hr (by decide) (by rfl) (pa_cons (pv 0) (pa_cons pe_int pa_nil)))) pa_nil)))))))), ?_⟩
  rintro xs M Q - ⟨g, ps, zs, n, rfl, hg, hz, hn, rfl, q⟩
  refine sj_ds (ds' := [some _, some _, none, none]) rfl ?_
  repeat walk_at "st"
  refine ⟨g, _, _, _, rfl, hg, hz, by omega, by decide, by decide, fun y1 a h1 a0 a1 => ?_⟩
  repeat walk_at "st"
  refine ⟨g, _, _, _, rfl, put_same _ _ _, h1, by omega, by decide, by decide, fun y2 b h2 b0 b1 => ?_⟩
  simp only [put_put]
  repeat walk_at "st"
  refine ⟨g, _, _, _, rfl, put_same _ _ _, h2, by omega, by decide, by decide, fun y3 c h3 c0 c1 => ?_⟩
  simp only [put_put]
  repeat walk_at "st"
  refine ⟨g, _, _, _, rfl, put_same _ _ _, h3, by omega, by decide, by decide, fun y4 d h4 d0 d1 => ?_⟩
  simp only [put_put]
  repeat walk_at "st"
  refine q _ _ (h4.mono (by omega)) ⟨⟨1 + a, 1 + b, 1 + a + c, 1 + b + d⟩, rfl, ⟨⟨?_, ?_, ?_, ?_⟩, ⟨?_, ?_⟩, ⟨?_, ?_, ?_, ?_⟩⟩⟩ <;> (try unfold big) <;> dsimp only <;> omega
def T_great : TF := genT 16 (fun ps => ps = []) (fun _ r => ∃ l : Lk, r = l.D ∧ LkOk l)
theorem c__law_great (T : Top K mg) : Cal P w K mg base 3 "_law_great" (spA K 1 T_great) := by
  refine T.d__law_great.cal sc_law_great rfl fun f cdv A outer s H E hr => ⟨_, (pss_cons (ps_par (i := 1) (j := 2) rfl sc_law_great.nd rfl rfl (by decide) rfl rfl (pa_cons (pe_op op_add pe_int (pe_c (c__law_random (K := K) T) hr (by decide) (by rfl) (pa_cons (pv 0) (pa_cons (pe_op op_powW pe_int pe_int) pa_nil)))) (pa_cons (pe_op op_add pe_int (pe_c (c__law_random (K := K) T) hr (by decide) (by rfl) (pa_cons (pv 0) (pa_cons (pe_op op_powW pe_int pe_int) pa_nil)))) pa_nil)) rfl)
      (pss_cons (ps_set (i := 3) sc_law_great.nd rfl (.inl rfl) (pe_lst (pa_cons pe_int (pa_cons pe_int (pa_cons (pe_op op_powW pe_int pe_int) pa_nil)))))
      (pss_one (ps_ret (pe_tup (pa_cons (pv 1) (pa_cons (pv 2) (pa_cons (pe_op op_add (pv 1) (pe_ix (ixK K) (pv 3) (pe_c (c__law_random (K := K) T) hr (by decide) (by rfl) (pa_cons (pv 0) (pa_cons pe_int pa_nil))) (fun _ _ => rfl))) (pa_cons (pe_op op_add (pv 2) (pe_ix (ixK K) (pv 3) (pe_c (c__law_random (K := K) T) hr (by decide) (by rfl) (pa_cons (pv 0) (pa_cons pe_int pa_nil))) (fun _ _ => rfl))) pa_nil))))))))), ?_⟩
  rintro xs M Q - ⟨g, ps, zs, n, rfl, hg, hz, hn, rfl, q⟩
  refine sj_ds (ds' := [some _, none, none, none]) rfl ?_
  have e28 : (10 : Int) ^ (28 : Int).toNat = 10000000000000000000000000000 := by decide
  have e27 : (10 : Int) ^ (27 : Int).toNat = 1000000000000000000000000000 := by decide
  have ix : ∀ r : Int, 0 ≤ r → r < 3 → ∃ v : Int, atI [PyData.int 0, PyData.int 1, PyData.int (10 ^ (27 : Int).toNat)] r = some (.int v) ∧ 0 ≤ v ∧ v ≤ 1000000000000000000000000000 := fun r h0 h1 => by
    have hc : r = 0 ∨ r = 1 ∨ r = 2 := by omega
    rcases hc with rfl | rfl | rfl
    · exact ⟨_, rfl, by decide, by decide⟩
    · exact ⟨_, rfl, by decide, by decide⟩
    · exact ⟨_, rfl, by decide, by decide⟩
  repeat walk_at "st"
  refine oj_Ii ⟨by decide, by decide +kernel⟩ ?_
  repeat walk_at "st"
  refine ⟨g, _, _, _, rfl, hg, hz, by omega, by decide, by decide, fun y1 a h1 a0 a1 => ?_⟩
  rw [e28] at a1
  repeat walk_at "st"
  refine oj_Ii ⟨by decide, by decide +kernel⟩ ?_
  repeat walk_at "st"
  refine ⟨g, _, _, _, rfl, put_same _ _ _, h1, by omega, by decide, by decide, fun y2 b h2 b0 b1 => ?_⟩
  rw [e28] at b1
  simp only [put_put]
  repeat walk_at "sl"
  refine oj_Ii ⟨by decide, by decide +kernel⟩ ?_
  repeat walk_at "st"
  refine ⟨g, _, _, _, rfl, put_same _ _ _, h2, by omega, by decide, by decide, fun y3 c h3 c0 c1 => ?_⟩
  simp only [put_put]
  obtain ⟨v, hv, v0, v1⟩ := ix c c0 c1
  refine oj_ixL hv ?_
  repeat walk_at "st"
  refine ⟨g, _, _, _, rfl, put_same _ _ _, h3, by omega, by decide, by decide, fun y4 d h4 d0 d1 => ?_⟩
  simp only [put_put]
  obtain ⟨u, hu, u0, u1⟩ := ix d d0 d1
  refine oj_ixL hu ?_
  repeat walk_at "st"
  refine q _ _ (h4.mono (by omega)) ⟨⟨1 + a, 1 + b, 1 + a + v, 1 + b + u⟩, rfl, ⟨⟨?_, ?_, ?_, ?_⟩, ⟨?_, ?_⟩, ⟨?_, ?_, ?_, ?_⟩⟩⟩ <;> (try unfold big) <;> dsimp only <;> omega
def T_few : TF := fun xs M Q => ∃ (g : Nat) (m : Int) (zs : List PyData) (n : Int), xs = [.cel g, .dat (.int m)] ∧ M g = some zs ∧ GenOk n zs ∧ n + 8 ≤ 900000 ∧ 0 ≤ m ∧ m < big ∧ ∀ ys (r : Int), GenOk (n + 8) ys → 0 ≤ r → r ≤ m → Q (.dat (.int r)) (put M g ys)
theorem c__law_few (T : Top K mg) : Cal P w K mg base 3 "_law_few" (spA K 2 T_few) := by
  refine T.d__law_few.cal sc_law_few rfl fun f cdv A outer s H E hr => ⟨_, (pss_cons (ps_set (i := 2) sc_law_few.nd rfl (.inl rfl) (pe_lst (pa_cons pe_int (pa_cons pe_int (pa_cons (pe_op op_sub (pv 1) pe_int) (pa_cons (pv 1) (pa_cons (pe_c (c__law_random (K := K) T) hr (by decide) (by rfl) (pa_cons (pv 0) (pa_cons (pe_op op_add (pv 1) pe_int) pa_nil))) pa_nil)))))))
      (pss_one (ps_ret (pe_callB (call_mn2 rfl) (by rfl) T.b_min bt_min (pa_cons (pe_callB (call_mx2 rfl) (by rfl) T.b_max bt_max (pa_cons (pe_ix (ixK K) (pv 2) (pe_c (c__law_random (K := K) T) hr (by decide) (by rfl) (pa_cons (pv 0) (pa_cons pe_int pa_nil))) (fun _ _ => rfl)) (pa_cons pe_int pa_nil))) (pa_cons (pv 1) pa_nil)))))), ?_⟩
  rintro xs M Q - ⟨g, m, zs, n, rfl, hg, hz, hn, m0, m1, q⟩
  refine sj_ds (ds' := [some _, some _, none]) rfl ?_
  unfold big at m1
  repeat walk_at "sl"
  refine ⟨g, _, _, _, rfl, hg, hz, by omega, by omega, by omega, fun y1 a h1 a0 a1 => ?_⟩
  repeat walk_at "sl"
  refine ⟨g, _, _, _, rfl, put_same _ _ _, h1, by omega, by decide, by decide, fun y2 b h2 b0 b1 => ?_⟩
  simp only [put_put]
  have ix : ∃ v : Int, atI [PyData.int 0, PyData.int 1, PyData.int (m - 1), PyData.int m, PyData.int a] b = some (.int v) := by
    have hc : b = 0 ∨ b = 1 ∨ b = 2 ∨ b = 3 ∨ b = 4 := by omega
    rcases hc with rfl | rfl | rfl | rfl | rfl <;> exact ⟨_, rfl⟩
  obtain ⟨v, hv⟩ := ix
  refine oj_ixL hv ?_
  repeat walk_at "st"
  exact q _ _ (h2.mono (by omega)) (by omega) (by omega)
end
end HW

namespace HW
open PySem PySem.Spec PyProof.Rows L2 DL
section
variable {K : PySem.W.Frag} {P : Program} {w : World} {base : Heap} {mg : Str → Option Value}
local macro_rules | `(tactic| walk_at "sk") => `(tactic| with_reducible first | exact sk_new | exact sk_old | exact sk_send | exact sk_drop | exact sk_bring | exact sk_miss | exact sk_hear | exact sk_made | exact sk_twice | exact sk_lost | exact sk_zero | exact sk_one)
local macro_rules | `(tactic| walk_at "st") => `(tactic| first
  | ((with_reducible refine isVar ?_); first | refine ej_var rfl ?_)
  | ((with_reducible refine isTC ?_); first | with_reducible refine ej_int ?_ | with_reducible refine ej_str ?_ | with_reducible refine ej_non ?_ | with_reducible refine ej_bl ?_ | with_reducible refine ej_val ?_)
  | ((with_reducible refine isEJ ?_); first | with_reducible refine ej_op ?_ | with_reducible refine ej_call ?_ | with_reducible refine ej_cb ?_ | with_reducible refine ej_if ?_ | with_reducible refine ej_tup ?_ | with_reducible refine ej_andV ?_ | with_reducible refine ej_orV ?_ | with_reducible refine ej_notV ?_ | with_reducible refine ej_un ?_ | with_reducible refine ej_bits ?_ | with_reducible refine ej_dsS (by dsimp only [wipeD, List.map_cons, List.map_nil, List.set_cons_succ, List.set_cons_zero]; rfl) ?_)
  | ((with_reducible refine isAJ ?_); first | with_reducible refine aj_cons ?_ | with_reducible refine aj_nil ?_)
  | ((with_reducible refine isIx ?_); first | refine oj_ixT rfl ?_ | refine oj_ixL rfl ?_ | refine oj_ixM (by first | assumption | exact put_same _ _ _) rfl ?_)
  | ((with_reducible refine isOJ ?_); first | with_reducible refine oj_I0i ?_ | with_reducible refine oj_I0b ?_ | with_reducible refine oj_eqi ?_ | with_reducible refine oj_nei ?_ | with_reducible refine oj_eqb ?_ | with_reducible refine oj_eqsT (by walk_at "sk") ?_ | refine oj_eqsF (by walk_at "sk") (by walk_at "sk") (by decide +kernel) ?_ | with_reducible refine oj_isNone ?_ | with_reducible refine oj_notNone ?_ | with_reducible refine oj_eq_nil ?_ | with_reducible refine oj_ne_nil ?_ | refine oj_ninD (b := true) (by decide +kernel) (by decide +kernel) (by decide +kernel) ?_ | refine oj_ninD (b := false) (by decide +kernel) (by decide +kernel) (by decide +kernel) ?_)
  | ((with_reducible refine isTJ ?_); first | with_reducible refine tj_test ?_ | with_reducible refine tj_B ?_ | with_reducible refine tj_and ?_ | with_reducible refine tj_or ?_ | with_reducible refine tj_not ?_ | with_reducible refine tj_yes ?_ | with_reducible refine tj_dsS (by dsimp only [wipeD, List.map_cons, List.map_nil, List.set_cons_succ, List.set_cons_zero]; rfl) ?_)
  | ((with_reducible refine isSJ ?_); first | with_reducible refine sj_dsS (by dsimp only [wipeD, List.map_cons, List.map_nil, List.set_cons_succ, List.set_cons_zero]; rfl) ?_ | with_reducible refine sj_seq ?_ | with_reducible refine sj_set ?_ | with_reducible refine sj_ret ?_ | with_reducible refine sj_if ?_ | with_reducible refine sj_drop ?_ | with_reducible refine sj_par ?_ | with_reducible refine sj_par3 ?_ | with_reducible refine sj_asg ?_ | with_reducible refine sj_next ?_)
  | ((with_reducible refine isCJ ?_); first | with_reducible refine cj_isi_ib ?_ | refine cj_isi_same rfl ?_ | with_reducible refine cj_lenL ?_ | with_reducible refine cj_lenT ?_ | with_reducible refine cj_int ?_ | with_reducible refine cj_intb ?_ | with_reducible refine cj_max ?_ | with_reducible refine cj_min ?_)
  | ((with_reducible refine isGJ ?_); first | with_reducible refine gj_name ?_ | refine gj_tup rfl ?_ | refine gj_unl rfl ?_)
  | ((with_reducible refine isGs ?_); first | refine gsj_cons ?_ | refine gsj_nil ?_)
  | ((with_reducible refine isLJ ?_); first | with_reducible refine lj_name (by decide) ?_ | refine lj_tup rfl ?_)
  | ((with_reducible refine isLs ?_); first | refine lsj_cons ?_ | refine lsj_nil ?_)
  | ((with_reducible refine isIJ ?_); first | with_reducible refine ij_list ?_ | with_reducible refine ij_tup ?_ | with_reducible refine ij_range1 ?_ | with_reducible refine ij_range2 ?_ | with_reducible refine ij_enum ?_ | with_reducible refine ij_enumT ?_ | with_reducible refine ij_zip ?_)
  | with_reducible refine uj_neg ?_ | with_reducible refine fj_A rfl ?_ | with_reducible refine ⟨_, rfl, ?_⟩ | with_reducible refine ⟨_, _, rfl, ?_⟩ | with_reducible refine ⟨_, _, _, rfl, ?_⟩ | refine brT rfl ?_ | refine brF rfl ?_ | refine ⟨[_, _], rfl, Nat.le_of_ble_eq_true rfl, ?_⟩ | refine ⟨[_, _, _], rfl, Nat.le_of_ble_eq_true rfl, ?_⟩ | refine ⟨[_, _, _, _], rfl, Nat.le_of_ble_eq_true rfl, ?_⟩ | refine ⟨[], rfl, Nat.le_of_ble_eq_true rfl, ?_⟩ | refine ⟨[_], rfl, Nat.le_of_ble_eq_true rfl, ?_⟩ | refine ⟨[_, _, _, _, _], rfl, Nat.le_of_ble_eq_true rfl, ?_⟩)
local macro_rules | `(tactic| walk_at "sl") => `(tactic| first | walk_at "st" | with_reducible refine ej_lst ?_)
local macro_rules | `(tactic| walk_at "sd") => `(tactic| first | walk_at "st" | dsimp only [sortS, lotD])

def T_contents : TF := fun xs M Q => ∃ (g : Nat) (l : Lk) (zs : List PyData) (n : Int), xs = [.cel g, .dat l.D] ∧ M g = some zs ∧ GenOk n zs ∧ n + 84 ≤ 900000 ∧ LkOk l ∧ ∀ ys (c : Ct), GenOk (n + 84) ys → Fits l c → Q (.dat c.D) (put M g ys)
theorem c__law_contents (T : Top K mg) : Cal P w K mg base 4 "_law_contents" (spA K 2 T_contents) := by
  refine T.d__law_contents.cal sc_law_contents rfl fun f cdv A outer s H E hr => ⟨_, (pss_cons (ps_asg (pv 1) (pg_tupK K (n := 4) rfl (pgs_cons (pg_name (i := 2) sc_law_contents.nd rfl (.inl rfl)) (pgs_cons (pg_name (i := 3) sc_law_contents.nd rfl (.inl rfl)) (pgs_cons (pg_name (i := 4) sc_law_contents.nd rfl (.inl rfl)) (pgs_cons (pg_name (i := 5) sc_law_contents.nd rfl (.inl rfl)) pgs_nil))))))
      (pss_cons (ps_par (i := 6) (j := 7) rfl sc_law_contents.nd rfl rfl (by decide) rfl rfl (pa_cons (pe_c (c__law_random (K := K) T) hr (by decide) (by rfl) (pa_cons (pv 0) (pa_cons pe_int pa_nil))) (pa_cons (pe_c (c__law_random (K := K) T) hr (by decide) (by rfl) (pa_cons (pv 0) (pa_cons pe_int pa_nil))) pa_nil)) rfl)
      (pss_cons (ps_par (i := 8) (j := 9) rfl sc_law_contents.nd rfl rfl (by decide) rfl rfl (pa_cons (pe_c (c__law_few (K := K) T) hr (by decide) (by rfl) (pa_cons (pv 0) (pa_cons (pe_op op_sub (pv 5) pe_int) pa_nil))) (pa_cons pe_non pa_nil)) rfl)
      (pss_cons (ps_if (PW.pt (pw_and (pt_cmpR op_gt (pv 4) pe_int (nomark _)) (pw_and1 (pt_cmpR op_gt (pe_c (c__law_random (K := K) T) hr (by decide) (by rfl) (pa_cons (pv 0) (pa_cons pe_int pa_nil))) pe_int (nomark _))))) (pss_cons (ps_set (i := 10) sc_law_contents.nd rfl (.inl rfl) (pe_ifExp (PW.pt (pw_or (pt_cmpR (eqK K hr) (pv 6) (pv 7) (nomark _)) (pw_or1 (pt_cmpR op_gt (pe_c (c__law_random (K := K) T) hr (by decide) (by rfl) (pa_cons (pv 0) (pa_cons pe_int pa_nil))) pe_int (nomark _))))) pe_str pe_str))
      (pss_one (ps_set (i := 9) sc_law_contents.nd rfl (.inl rfl) (pe_tup (pa_cons (pv 10) (pa_cons (pe_callB (call_mx2 rfl) (by rfl) T.b_max bt_max (pa_cons pe_int (pa_cons (pe_c (c__law_few (K := K) T) hr (by decide) (by rfl) (pa_cons (pv 0) (pa_cons (pe_op op_sub (pv 4) pe_int) pa_nil))) pa_nil))) pa_nil)))))) pss_nil)
      (pss_cons (ps_set (i := 11) sc_law_contents.nd rfl (.inl rfl) (pe_c (c__law_few (K := K) T) hr (by decide) (by rfl) (pa_cons (pv 0) (pa_cons (pv 2) pa_nil))))
      (pss_cons (ps_set (i := 12) sc_law_contents.nd rfl (.inl rfl) (pe_c (c__law_few (K := K) T) hr (by decide) (by rfl) (pa_cons (pv 0) (pa_cons (pe_op op_sub (pv 2) (pv 11)) pa_nil))))
      (pss_cons (ps_set (i := 13) sc_law_contents.nd rfl (.inl rfl) (pe_c (c__law_few (K := K) T) hr (by decide) (by rfl) (pa_cons (pv 0) (pa_cons (pe_op op_sub (pe_op op_sub (pv 2) (pv 11)) (pv 12)) pa_nil))))
      (pss_cons (ps_set (i := 14) sc_law_contents.nd rfl (.inl rfl) (pe_ix (ixK K) (pe_lst (pa_cons (pe_tup (pa_cons (pv 13) (pa_cons (pv 11) (pa_cons (pv 12) pa_nil)))) (pa_cons (pe_tup (pa_cons (pv 13) (pa_cons (pv 12) (pa_cons (pv 11) pa_nil)))) (pa_cons (pe_tup (pa_cons (pv 11) (pa_cons (pv 12) (pa_cons (pv 13) pa_nil)))) pa_nil)))) (pe_c (c__law_random (K := K) T) hr (by decide) (by rfl) (pa_cons (pv 0) (pa_cons pe_int pa_nil))) (fun _ _ => rfl)))
      (pss_cons (ps_set (i := 15) sc_law_contents.nd rfl (.inl rfl) (pe_c (c__law_few (K := K) T) hr (by decide) (by rfl) (pa_cons (pv 0) (pa_cons (pv 3) pa_nil))))
      (pss_cons (ps_set (i := 16) sc_law_contents.nd rfl (.inl rfl) (pe_c (c__law_few (K := K) T) hr (by decide) (by rfl) (pa_cons (pv 0) (pa_cons (pe_op op_sub (pv 3) (pv 15)) pa_nil))))
      (pss_one (ps_ret (pe_tup (pa_cons (pe_tup (pa_cons (pv 6) (pa_cons (pv 8) pa_nil))) (pa_cons (pe_tup (pa_cons (pv 7) (pa_cons (pv 9) (pa_cons (pe_cmpR (eqK K hr) (pe_c (c__law_random (K := K) T) hr (by decide) (by rfl) (pa_cons (pv 0) (pa_cons pe_int pa_nil))) pe_int (nomark _)) pa_nil)))) (pa_cons (pv 14) (pa_cons (pe_ix (ixK K) (pe_lst (pa_cons (pe_tup (pa_cons (pv 15) (pa_cons (pv 16) pa_nil))) (pa_cons (pe_tup (pa_cons (pv 16) (pa_cons (pv 15) pa_nil))) pa_nil))) (pe_c (c__law_random (K := K) T) hr (by decide) (by rfl) (pa_cons (pv 0) (pa_cons pe_int pa_nil))) (fun _ _ => rfl)) pa_nil))))))))))))))))), ?_⟩
  rintro xs M Q - ⟨g, ⟨lc, ld, lp, lq⟩, zs, n, rfl, hg, hz, hn, ⟨⟨k1, k2, k3, k4⟩, ⟨s1, s2⟩, ⟨z1, z2, z3, z4⟩⟩, q⟩
  refine sj_ds (ds' := [some _, some _, none, none, none, none, none, none, none, none, none, none, none, none, none, none, none]) rfl ?_
  dsimp only at k1 k2 k3 k4 s1 s2 z1 z2 z3 z4
  repeat walk_at "st"
  refine ⟨g, _, _, _, rfl, hg, hz, by omega, by decide, by decide, fun y1 bit h1 a0 a1 => ?_⟩
  repeat walk_at "st"
  refine ⟨g, _, _, _, rfl, put_same _ _ _, h1, by omega, by decide, by decide, fun y2 ot h2 b0 b1 => ?_⟩
  simp only [put_put]
  repeat walk_at "st"
  refine ⟨g, _, _, _, rfl, put_same _ _ _, h2, by omega, by omega, by omega, fun y3 hd h3 c0 c1 => ?_⟩
  simp only [put_put]
  refine aj_cons (ej_non (aj_nil ⟨_, _, rfl, ?_⟩))
  refine sj_cut (fun ds' M' => ∃ (lot : Option (Bool × Int)) (o : Option D) (ys : List PyData), lotOk ⟨lc, ld, lp, lq⟩ (bit = ot) lot ∧ GenOk (n + 4 + 4 + 8 + 16) ys ∧
    ds' = [some (.cel g), some (.dat (Lk.D ⟨lc, ld, lp, lq⟩)), some (.dat (.int lc)), some (.dat (.int ld)), some (.dat (.int lp)), some (.dat (.int lq)), some (.dat (.int bit)), some (.dat (.int ot)), some (.dat (.int hd)), some (.dat (lotD lot)), o, none, none, none, none, none, none] ∧ M' = put M g ys) ?_ ?_
  · repeat walk_at "st"
    refine brD (fun hp => ?_) (fun hp => ?_)
    · repeat walk_at "st"
      refine ⟨g, _, _, _, rfl, put_same _ _ _, h3, by omega, by decide, by decide, fun y4 r h4 d0 d1 => ?_⟩
      simp only [put_put]
      repeat walk_at "st"
      refine brD (fun hr0 => ?_) (fun hr0 => ?_)
      · refine sj_cut (fun ds' M' => ∃ (so : Bool) (ys : List PyData), (so = false → ¬ bit = ot) ∧ GenOk (n + 4 + 4 + 8 + 8) ys ∧
          ds' = [some (.cel g), some (.dat (Lk.D ⟨lc, ld, lp, lq⟩)), some (.dat (.int lc)), some (.dat (.int ld)), some (.dat (.int lp)), some (.dat (.int lq)), some (.dat (.int bit)), some (.dat (.int ot)), some (.dat (.int hd)), some (.dat .none), some (.dat (.str (sortS so))), none, none, none, none, none, none] ∧ M' = put M g ys) ?_ ?_
        · repeat walk_at "st"
          refine brD (fun he => ?_) (fun he => ?_)
          · repeat walk_at "st"
            exact ⟨true, y4, (fun z => nomatch z), h4.mono (by omega), rfl, rfl⟩
          · repeat walk_at "st"
            refine ⟨g, _, _, _, rfl, put_same _ _ _, h4, by omega, by decide, by decide, fun y5 r5 h5 e0 e1 => ?_⟩
            simp only [put_put]
            repeat walk_at "st"
            refine brD (fun hr1 => ?_) (fun hr1 => ?_)
            · repeat walk_at "st"
              exact ⟨true, y5, (fun z => nomatch z), h5.mono (by omega), rfl, rfl⟩
            · repeat walk_at "st"
              exact ⟨false, y5, fun _ => he, h5.mono (by omega), rfl, rfl⟩
        · rintro ds' M' ⟨so, y5, hso, h5, rfl, rfl⟩
          repeat walk_at "st"
          refine ⟨g, _, _, _, rfl, put_same _ _ _, h5, by omega, by omega, by omega, fun y6 m h6 m0 m1 => ?_⟩
          simp only [put_put]
          repeat walk_at "st"
          exact ⟨some (so, max 1 m), _, y6, ⟨by omega, by dsimp only; omega, hso⟩, h6.mono (by omega), rfl, rfl⟩
      · repeat walk_at "st"
        exact ⟨none, _, y4, True.intro, h4.mono (by omega), rfl, rfl⟩
    · repeat walk_at "st"
      exact ⟨none, _, y3, True.intro, h3.mono (by omega), rfl, rfl⟩
  rintro ds' M' ⟨lot, o, y4, hlot, h4, rfl, rfl⟩
  repeat walk_at "st"
  refine ⟨g, _, _, _, rfl, put_same _ _ _, h4, by omega, by omega, by omega, fun y5 n1 h5 e0 e1 => ?_⟩
  simp only [put_put]
  repeat walk_at "st"
  refine ⟨g, _, _, _, rfl, put_same _ _ _, h5, by omega, by omega, by omega, fun y6 n2 h6 f0 f1 => ?_⟩
  simp only [put_put]
  repeat walk_at "st"
  refine ⟨g, _, _, _, rfl, put_same _ _ _, h6, by omega, by omega, by omega, fun y7 n3 h7 g0 g1 => ?_⟩
  simp only [put_put]
  repeat walk_at "sl"
  refine ⟨g, _, _, _, rfl, put_same _ _ _, h7, by omega, by decide, by decide, fun y8 r8 h8 i0 i1 => ?_⟩
  simp only [put_put]
  have hx : ∃ a b c : Int, atI [PyData.tuple [.int n3, .int n1, .int n2], PyData.tuple [.int n3, .int n2, .int n1], PyData.tuple [.int n1, .int n2, .int n3]] r8 = some (.tuple [.int a, .int b, .int c]) ∧ 0 ≤ a ∧ 0 ≤ b ∧ 0 ≤ c ∧ a + b + c ≤ lc := by
    have hc : r8 = 0 ∨ r8 = 1 ∨ r8 = 2 := by omega
    rcases hc with rfl | rfl | rfl <;> exact ⟨_, _, _, rfl, by omega, by omega, by omega, by omega⟩
  obtain ⟨a, b, c, hv, j0, j1, j2, j3⟩ := hx
  refine oj_ixL hv ?_
  repeat walk_at "st"
  refine ⟨g, _, _, _, rfl, put_same _ _ _, h8, by omega, by omega, by omega, fun y9 lo h9 k0 kk1 => ?_⟩
  simp only [put_put]
  repeat walk_at "st"
  refine ⟨g, _, _, _, rfl, put_same _ _ _, h9, by omega, by omega, by omega, fun y10 hi h10 l0 l1 => ?_⟩
  simp only [put_put]
  repeat walk_at "st"
  refine ⟨g, _, _, _, rfl, put_same _ _ _, h10, by omega, by decide, by decide, fun y11 dn h11 o0 o1 => ?_⟩
  simp only [put_put]
  repeat walk_at "sl"
  refine ⟨g, _, _, _, rfl, put_same _ _ _, h11, by omega, by decide, by decide, fun y12 r12 h12 p0 p1 => ?_⟩
  simp only [put_put]
  have hx : ∃ a b : Int, atI [PyData.tuple [.int lo, .int hi], PyData.tuple [.int hi, .int lo]] r12 = some (.tuple [.int a, .int b]) ∧ 0 ≤ a ∧ 0 ≤ b ∧ a + b ≤ ld := by
    have hc : r12 = 0 ∨ r12 = 1 := by omega
    rcases hc with rfl | rfl <;> exact ⟨_, _, rfl, by omega, by omega, by omega⟩
  obtain ⟨b', b'', hv', q0, q1, q2⟩ := hx
  refine oj_ixL hv' ?_
  repeat walk_at "st"
  exact q y12 ⟨bit, hd, ot, lot, decide (dn = 0), a, b, c, b', b''⟩ (h12.mono (by omega)) ⟨by dsimp only; omega, c0, by dsimp only; omega, by dsimp only; omega, hlot, j0, j1, j2, j3, q0, q1, q2⟩
end
end HW

namespace HW
open PySem PySem.Spec PyProof.Rows L2 DL
section
variable {K : PySem.W.Frag} {P : Program} {w : World} {base : Heap} {mg : Str → Option Value}
local macro_rules | `(tactic| walk_at "sk") => `(tactic| with_reducible first | exact sk_new | exact sk_old | exact sk_send | exact sk_drop | exact sk_bring | exact sk_miss | exact sk_hear | exact sk_made | exact sk_twice | exact sk_lost | exact sk_zero | exact sk_one)
local macro_rules | `(tactic| walk_at "st") => `(tactic| first
  | ((with_reducible refine isVar ?_); first | refine ej_var rfl ?_)
  | ((with_reducible refine isTC ?_); first | with_reducible refine ej_int ?_ | with_reducible refine ej_str ?_ | with_reducible refine ej_non ?_ | with_reducible refine ej_bl ?_ | with_reducible refine ej_val ?_)
  | ((with_reducible refine isEJ ?_); first | with_reducible refine ej_op ?_ | with_reducible refine ej_call ?_ | with_reducible refine ej_cb ?_ | with_reducible refine ej_if ?_ | with_reducible refine ej_tup ?_ | with_reducible refine ej_andV ?_ | with_reducible refine ej_orV ?_ | with_reducible refine ej_notV ?_ | with_reducible refine ej_un ?_ | with_reducible refine ej_bits ?_ | with_reducible refine ej_dsS (by dsimp only [wipeD, List.map_cons, List.map_nil, List.set_cons_succ, List.set_cons_zero]; rfl) ?_)
  | ((with_reducible refine isAJ ?_); first | with_reducible refine aj_cons ?_ | with_reducible refine aj_nil ?_)
  | ((with_reducible refine isIx ?_); first | refine oj_ixT rfl ?_ | refine oj_ixL rfl ?_ | refine oj_ixM (by first | assumption | exact put_same _ _ _) rfl ?_)
  | ((with_reducible refine isOJ ?_); first | with_reducible refine oj_I0i ?_ | with_reducible refine oj_I0b ?_ | with_reducible refine oj_eqi ?_ | with_reducible refine oj_nei ?_ | with_reducible refine oj_eqb ?_ | with_reducible refine oj_eqsT (by walk_at "sk") ?_ | refine oj_eqsF (by walk_at "sk") (by walk_at "sk") (by decide +kernel) ?_ | with_reducible refine oj_isNone ?_ | with_reducible refine oj_notNone ?_ | with_reducible refine oj_eq_nil ?_ | with_reducible refine oj_ne_nil ?_ | refine oj_ninD (b := true) (by decide +kernel) (by decide +kernel) (by decide +kernel) ?_ | refine oj_ninD (b := false) (by decide +kernel) (by decide +kernel) (by decide +kernel) ?_)
  | ((with_reducible refine isTJ ?_); first | with_reducible refine tj_test ?_ | with_reducible refine tj_B ?_ | with_reducible refine tj_and ?_ | with_reducible refine tj_or ?_ | with_reducible refine tj_not ?_ | with_reducible refine tj_yes ?_ | with_reducible refine tj_dsS (by dsimp only [wipeD, List.map_cons, List.map_nil, List.set_cons_succ, List.set_cons_zero]; rfl) ?_)
  | ((with_reducible refine isSJ ?_); first | with_reducible refine sj_dsS (by dsimp only [wipeD, List.map_cons, List.map_nil, List.set_cons_succ, List.set_cons_zero]; rfl) ?_ | with_reducible refine sj_seq ?_ | with_reducible refine sj_set ?_ | with_reducible refine sj_ret ?_ | with_reducible refine sj_if ?_ | with_reducible refine sj_drop ?_ | with_reducible refine sj_par ?_ | with_reducible refine sj_par3 ?_ | with_reducible refine sj_asg ?_ | with_reducible refine sj_next ?_)
  | ((with_reducible refine isCJ ?_); first | with_reducible refine cj_isi_ib ?_ | refine cj_isi_same rfl ?_ | with_reducible refine cj_lenL ?_ | with_reducible refine cj_lenT ?_ | with_reducible refine cj_int ?_ | with_reducible refine cj_intb ?_ | with_reducible refine cj_max ?_ | with_reducible refine cj_min ?_)
  | ((with_reducible refine isGJ ?_); first | with_reducible refine gj_name ?_ | refine gj_tup rfl ?_ | refine gj_unl rfl ?_)
  | ((with_reducible refine isGs ?_); first | refine gsj_cons ?_ | refine gsj_nil ?_)
  | ((with_reducible refine isLJ ?_); first | with_reducible refine lj_name (by decide) ?_ | refine lj_tup rfl ?_)
  | ((with_reducible refine isLs ?_); first | refine lsj_cons ?_ | refine lsj_nil ?_)
  | ((with_reducible refine isIJ ?_); first | with_reducible refine ij_list ?_ | with_reducible refine ij_tup ?_ | with_reducible refine ij_range1 ?_ | with_reducible refine ij_range2 ?_ | with_reducible refine ij_enum ?_ | with_reducible refine ij_enumT ?_ | with_reducible refine ij_zip ?_)
  | with_reducible refine uj_neg ?_ | with_reducible refine fj_A rfl ?_ | with_reducible refine ⟨_, rfl, ?_⟩ | with_reducible refine ⟨_, _, rfl, ?_⟩ | with_reducible refine ⟨_, _, _, rfl, ?_⟩ | refine brT rfl ?_ | refine brF rfl ?_ | refine ⟨[_, _], rfl, Nat.le_of_ble_eq_true rfl, ?_⟩ | refine ⟨[_, _, _], rfl, Nat.le_of_ble_eq_true rfl, ?_⟩ | refine ⟨[_, _, _, _], rfl, Nat.le_of_ble_eq_true rfl, ?_⟩ | refine ⟨[], rfl, Nat.le_of_ble_eq_true rfl, ?_⟩ | refine ⟨[_], rfl, Nat.le_of_ble_eq_true rfl, ?_⟩ | refine ⟨[_, _, _, _, _], rfl, Nat.le_of_ble_eq_true rfl, ?_⟩)
local macro_rules | `(tactic| walk_at "sl") => `(tactic| first | walk_at "st" | with_reducible refine ej_lst ?_)
local macro_rules | `(tactic| walk_at "sd") => `(tactic| first | walk_at "st" | dsimp only [sortS, lotD])

theorem ej_cut {t : TE} {ds : Ds} {M : Ms} {Q : D → Ms → Prop} (v : PyData) (h : EJ K t ds M fun d M' => d = .dat v ∧ M' = M) (q : Q (.dat v) M) : EJ K t ds M Q := h.imp fun d M' e => by
  obtain ⟨rfl, rfl⟩ := e
  exact q
theorem cj_tupL {xs : List PyData} {M : Ms} {Q : D → Ms → Prop} (q : Q (.dat (.tuple xs)) M) : CJ K (rTupOf K) [.dat (.list xs)] M Q := fun w H us s r R c => by
  obtain ⟨v, rfl, rv⟩ := r.c1
  obtain ⟨a, vs, rfl, hs, ha⟩ := s.seqL rv
  refine ⟨a, vs, rfl, .inl ⟨hs, fun p hp => ?_⟩⟩
  obtain ⟨le, s2⟩ := s.new (o := .tup vs) hp
  exact c _ _ _ (.dat (.tuple xs)) M le (show Dp K _ _ _ from .tup (SqT.of upd_same) (dpAll_mono le.F _ _ ha)) s2 q
def T_lsigns : TF := pureT fun ps r => ∃ (l : Lk) (c : Ct), ps = [l.D, c.D] ∧ Fits l c ∧ r = .list [.bool (decide (c.bit = c.ot)), .bool c.dn, .bool (decide (l.q ≤ c.ans)), .bool (decide (l.p ≤ c.old))]
theorem c__law_signs (T : Top K mg) : Cal P w K mg base 1 "_law_signs" (spA K 2 T_lsigns) := by
  refine T.d__law_signs.cal sc_law_signs rfl fun f cdv A outer s H E hr => ⟨_, (pss_cons (ps_asg (pv 1) (pg_tupK K (n := 4) rfl (pgs_cons (pg_tupK K (n := 2) rfl (pgs_cons (pg_name (i := 2) sc_law_signs.nd rfl (.inl rfl)) (pgs_cons (pg_name (i := 3) sc_law_signs.nd rfl (.inl rfl)) pgs_nil))) (pgs_cons (pg_tupK K (n := 3) rfl (pgs_cons (pg_name (i := 4) sc_law_signs.nd rfl (.inl rfl)) (pgs_cons (pg_name (i := 5) sc_law_signs.nd rfl (.inl rfl)) (pgs_cons (pg_name (i := 6) sc_law_signs.nd rfl (.inl rfl)) pgs_nil)))) (pgs_cons (pg_name (i := 7) sc_law_signs.nd rfl (.inl rfl)) (pgs_cons (pg_name (i := 8) sc_law_signs.nd rfl (.inl rfl)) pgs_nil))))))
      (pss_cons (ps_set (i := 9) sc_law_signs.nd rfl (.inl rfl) (pe_op op_add (pe_ix (ixK K) (pv 7) (pe_op op_sub pe_int (pv 4)) (fun _ _ => rfl)) (pe_ifExp (PW.pt (pw_and (pt_cmpR op_notNone (pv 5) pe_non (nomark _)) (pw_and1 (pt_cmpR (eqK K hr) (pe_ix (ixK K) (pv 5) pe_int (fun _ _ => rfl)) pe_str (nomark _))))) (pe_ix (ixK K) (pv 5) pe_int (fun _ _ => rfl)) pe_int)))
      (pss_one (ps_ret (pe_lst (pa_cons (pe_cmpR (eqK K hr) (pv 2) (pv 4) (nomark _)) (pa_cons (pv 6) (pa_cons (pe_cmpR op_ge (pe_op op_add (pv 3) (pe_ix (ixK K) (pv 8) (pv 2) (fun _ _ => rfl))) (pe_ix (ixK K) (pv 0) pe_int (fun _ _ => rfl)) (nomark _)) (pa_cons (pe_cmpR op_ge (pv 9) (pe_ix (ixK K) (pv 0) pe_int (fun _ _ => rfl)) (nomark _)) pa_nil))))))))), ?_⟩
  rintro xs M Q - ⟨ps, r, rfl, ⟨l, c, rfl, fc, rfl⟩, q⟩
  refine sj_ds (ds' := [some _, some _, none, none, none, none, none, none, none, none]) rfl ?_
  repeat walk_at "st"
  refine oj_ixT (xs := [.int c.n0, .int c.n1, .int c.n2]) (d := .int (if c.ot = 0 then c.n2 else c.n1)) (by rcases fc.ot with z | z <;> rw [z] <;> rfl) ?_
  refine ej_cut (.int (keptOf c.lot)) ?_ ?_
  · clear q fc
    obtain ⟨bit, hd, ot, lot, dn, n0, n1, n2, b0, b1⟩ := c
    rcases lot with _ | ⟨_ | _, m⟩ <;> (repeat walk_at "sd") <;> exact ⟨rfl, rfl⟩
  repeat walk_at "sl"
  refine oj_ixT (xs := [.int c.b0, .int c.b1]) (d := .int (if c.bit = 0 then c.b0 else c.b1)) (by rcases fc.bit with z | z <;> rw [z] <;> rfl) ?_
  repeat walk_at "sl"
  exact q
def T_lharm : TF := pureT fun ps r => ∃ (l : Lk) (c : Ct), ps = [l.D, c.D] ∧ Fits l c ∧ r = .int (harm l c)
theorem c__law_harm (T : Top K mg) : Cal P w K mg base 2 "_law_harm" (spA K 2 T_lharm) := by
  refine T.d__law_harm.cal sc_law_harm rfl fun f cdv A outer s H E hr => ⟨_, (pss_cons (ps_asg (pe_c (c__law_signs (K := K) T) hr (by decide) (by rfl) (pa_cons (pv 0) (pa_cons (pv 1) pa_nil))) (pg_unlK K (n := 4) rfl (pgs_cons (pg_name (i := 2) sc_law_harm.nd rfl (.inl rfl)) (pgs_cons (pg_name (i := 3) sc_law_harm.nd rfl (.inl rfl)) (pgs_cons (pg_name (i := 4) sc_law_harm.nd rfl (.inl rfl)) (pgs_cons (pg_name (i := 5) sc_law_harm.nd rfl (.inl rfl)) pgs_nil))))))
      (pss_cons (ps_if (pt_cmpR (eqK K hr) (pv 2) (pv 3) (nomark _)) (pss_one (ps_ret (pe_ifExp (PW.pt (pw_or (pt_val (pv 5)) (pw_or1 (PW.pt (pw_and (pt_val (pv 4)) (pw_and1 (pt_not (pt_val (pv 2))))))))) pe_int pe_int))) pss_nil)
      (pss_one (ps_ret (pe_op op_add pe_int (pe_op op_mulW pe_int (pe_callTy call_int (by rfl) T.b_int bt_int (pa_cons (pe_and (pv 2) (pe_and (pv 4) (pe_one (pv 5)))) pa_nil)))))))), ?_⟩
  rintro xs M Q - ⟨ps, r, rfl, ⟨l, c, rfl, fc, rfl⟩, q⟩
  refine sj_ds (ds' := [some _, some _, none, none, none, none]) rfl ?_
  repeat walk_at "st"
  refine ⟨[_, _], _, rfl, ⟨l, c, rfl, fc, rfl⟩, ?_⟩
  unfold harm at q
  generalize decide (c.bit = c.ot) = e1 at *
  generalize c.dn = e2 at *
  generalize decide (l.q ≤ c.ans) = e3 at *
  generalize decide (l.p ≤ c.old) = e4 at *
  cases e1 <;> cases e2 <;> cases e3 <;> cases e4 <;> (repeat walk_at "st") <;> first | exact q | (refine oj_Ii (mulOk (nb (by decide) (by decide)) (nb (by decide) (by decide))) ?_; (repeat walk_at "st"); exact q)
/-- one more, or x more, at place k, counted from i on -/
def mvL (k : Nat) (x : Int) : Nat → List Int → List Int
  | _, [] => []
  | i, n :: ns => (if i = k then n + x else n) :: mvL k x (i + 1) ns
theorem mvL_len {k : Nat} {x : Int} : ∀ {ns : List Int} {i : Nat}, (mvL k x i ns).length = ns.length
  | [], _ => rfl
  | _ :: _, _ => congrArg (· + 1) mvL_len
theorem mvL_get {k : Nat} {x : Int} : ∀ {ns : List Int} {i j : Nat} {n : Int}, ns[j]? = some n → (mvL k x i ns)[j]? = some (if i + j = k then n + x else n)
  | [], _, _, _, h => by simp at h
  | m :: ns, i, 0, n, h => by
    simp at h
    subst h
    simp [mvL]
  | m :: ns, i, j + 1, n, h => by
    have h' : ns[j]? = some n := by simpa using h
    have q := mvL_get (k := k) (x := x) (i := i + 1) h'
    rw [show i + 1 + j = i + (j + 1) by omega] at q
    simpa [mvL] using q
def T_moved : TF := pureT fun ps r => ∃ (ns : List Int) (k : Nat) (x : Int), ps = [.tuple (ns.map PyData.int), .int (k : Nat), .int x] ∧ ns.length ≤ 10 ∧ r = .tuple ((mvL k x 0 ns).map PyData.int)
theorem c__law_moved (T : Top K mg) : Cal P w K mg base 1 "_law_moved" (spA K 3 T_moved) := by
  refine T.d__law_moved.cal sc_law_moved rfl fun f cdv A outer s H E hr => ⟨_, (pss_one (ps_ret (pe_callTy (tupK K) (by rfl) T.b_tuple bt_tuple (pa_cons (pe_lc (own := [("_law_at", 3), ("_law_count", 4)]) rfl sc_law_moved.nd (pi_enumTK K (by rfl) T.b_enumerate (pa_cons (pv 0) pa_nil)) (blkOk_by (N := N_law_moved) (sc := defScope s_law_moved) (by decide +kernel)) (fun _ _ _ _ _ => (pg_tupK K (n := 2) rfl (pgs_cons (pg_name (i := 3) sc_law_moved.nd rfl (by first | exact .inl rfl | exact .inr rfl)) (pgs_cons (pg_name (i := 4) sc_law_moved.nd rfl (by first | exact .inl rfl | exact .inr rfl)) pgs_nil)))) (fun _ _ _ _ _ => pts_nil) (fun _ _ _ _ _ => (pe_ifExp (pt_cmpR (eqK K hr) (pv 3) (pv 1) (nomark _)) (pe_op op_add (pv 4) (pv 2)) (pv 4)))) pa_nil)))), ?_⟩
  rintro xs M Q - ⟨ps, r, rfl, ⟨ns, k, x, rfl, hl, rfl⟩, q⟩
  refine sj_ds (ds' := [some _, some _, some _, none, none]) rfl ?_
  repeat walk_at "st"
  refine ej_lc_dat ?_
  repeat walk_at "st"
  refine ⟨(mvL k x 0 ns).map fun n => some (.int n), by rw [List.length_map, enums_length, List.length_map, mvL_len], by rw [enums_length, List.length_map]; omega, fun i d o hd ho => ?_, ?_⟩
  · obtain ⟨n, hn, rfl⟩ := enums_get0 hd
    obtain rfl := some_get ho (mvL_get (i := 0) hn)
    repeat walk_at "st"
    intro M'
    repeat walk_at "st"
    refine ⟨rfl, rfl, fun y hy => ?_⟩
    cases hy
    repeat walk_at "st"
    refine brD (fun e => ?_) (fun e => ?_)
    · repeat walk_at "st"
      rw [if_pos (by omega)]
      exact ⟨rfl, rfl⟩
    · repeat walk_at "st"
      rw [if_neg (by omega)]
      exact ⟨rfl, rfl⟩
  · rw [filterMap_some]
    repeat walk_at "st"
    exact cj_tupL q
end
end HW

namespace HW
open PySem PySem.Spec PyProof.Rows L2 DL
section
variable {K : PySem.W.Frag} {P : Program} {w : World} {base : Heap} {mg : Str → Option Value}
local macro_rules | `(tactic| walk_at "sk") => `(tactic| with_reducible first | exact sk_new | exact sk_old | exact sk_send | exact sk_drop | exact sk_bring | exact sk_miss | exact sk_hear | exact sk_made | exact sk_twice | exact sk_lost | exact sk_zero | exact sk_one)
local macro_rules | `(tactic| walk_at "st") => `(tactic| first
  | ((with_reducible refine isVar ?_); first | refine ej_var rfl ?_)
  | ((with_reducible refine isTC ?_); first | with_reducible refine ej_int ?_ | with_reducible refine ej_str ?_ | with_reducible refine ej_non ?_ | with_reducible refine ej_bl ?_ | with_reducible refine ej_val ?_)
  | ((with_reducible refine isEJ ?_); first | with_reducible refine ej_op ?_ | with_reducible refine ej_call ?_ | with_reducible refine ej_cb ?_ | with_reducible refine ej_if ?_ | with_reducible refine ej_tup ?_ | with_reducible refine ej_andV ?_ | with_reducible refine ej_orV ?_ | with_reducible refine ej_notV ?_ | with_reducible refine ej_un ?_ | with_reducible refine ej_bits ?_ | with_reducible refine ej_dsS (by dsimp only [wipeD, List.map_cons, List.map_nil, List.set_cons_succ, List.set_cons_zero]; rfl) ?_)
  | ((with_reducible refine isAJ ?_); first | with_reducible refine aj_cons ?_ | with_reducible refine aj_nil ?_)
  | ((with_reducible refine isIx ?_); first | refine oj_ixT rfl ?_ | refine oj_ixL rfl ?_ | refine oj_ixM (by first | assumption | exact put_same _ _ _) rfl ?_)
  | ((with_reducible refine isOJ ?_); first | with_reducible refine oj_I0i ?_ | with_reducible refine oj_I0b ?_ | with_reducible refine oj_eqi ?_ | with_reducible refine oj_nei ?_ | with_reducible refine oj_eqb ?_ | with_reducible refine oj_eqsT (by walk_at "sk") ?_ | refine oj_eqsF (by walk_at "sk") (by walk_at "sk") (by decide +kernel) ?_ | with_reducible refine oj_isNone ?_ | with_reducible refine oj_notNone ?_ | with_reducible refine oj_eq_nil ?_ | with_reducible refine oj_ne_nil ?_ | refine oj_ninD (b := true) (by decide +kernel) (by decide +kernel) (by decide +kernel) ?_ | refine oj_ninD (b := false) (by decide +kernel) (by decide +kernel) (by decide +kernel) ?_)
  | ((with_reducible refine isTJ ?_); first | with_reducible refine tj_test ?_ | with_reducible refine tj_B ?_ | with_reducible refine tj_and ?_ | with_reducible refine tj_or ?_ | with_reducible refine tj_not ?_ | with_reducible refine tj_yes ?_ | with_reducible refine tj_dsS (by dsimp only [wipeD, List.map_cons, List.map_nil, List.set_cons_succ, List.set_cons_zero]; rfl) ?_)
  | ((with_reducible refine isSJ ?_); first | with_reducible refine sj_dsS (by dsimp only [wipeD, List.map_cons, List.map_nil, List.set_cons_succ, List.set_cons_zero]; rfl) ?_ | with_reducible refine sj_seq ?_ | with_reducible refine sj_set ?_ | with_reducible refine sj_ret ?_ | with_reducible refine sj_if ?_ | with_reducible refine sj_drop ?_ | with_reducible refine sj_par ?_ | with_reducible refine sj_par3 ?_ | with_reducible refine sj_asg ?_ | with_reducible refine sj_next ?_)
  | ((with_reducible refine isCJ ?_); first | with_reducible refine cj_isi_ib ?_ | refine cj_isi_same rfl ?_ | with_reducible refine cj_lenL ?_ | with_reducible refine cj_lenT ?_ | with_reducible refine cj_int ?_ | with_reducible refine cj_intb ?_ | with_reducible refine cj_max ?_ | with_reducible refine cj_min ?_)
  | ((with_reducible refine isGJ ?_); first | with_reducible refine gj_name ?_ | refine gj_tup rfl ?_ | refine gj_unl rfl ?_)
  | ((with_reducible refine isGs ?_); first | refine gsj_cons ?_ | refine gsj_nil ?_)
  | ((with_reducible refine isLJ ?_); first | with_reducible refine lj_name (by decide) ?_ | refine lj_tup rfl ?_)
  | ((with_reducible refine isLs ?_); first | refine lsj_cons ?_ | refine lsj_nil ?_)
  | ((with_reducible refine isIJ ?_); first | with_reducible refine ij_list ?_ | with_reducible refine ij_tup ?_ | with_reducible refine ij_range1 ?_ | with_reducible refine ij_range2 ?_ | with_reducible refine ij_enum ?_ | with_reducible refine ij_enumT ?_ | with_reducible refine ij_zip ?_)
  | with_reducible refine uj_neg ?_ | with_reducible refine fj_A rfl ?_ | with_reducible refine ⟨_, rfl, ?_⟩ | with_reducible refine ⟨_, _, rfl, ?_⟩ | with_reducible refine ⟨_, _, _, rfl, ?_⟩ | refine brT rfl ?_ | refine brF rfl ?_ | refine ⟨[_, _], rfl, Nat.le_of_ble_eq_true rfl, ?_⟩ | refine ⟨[_, _, _], rfl, Nat.le_of_ble_eq_true rfl, ?_⟩ | refine ⟨[_, _, _, _], rfl, Nat.le_of_ble_eq_true rfl, ?_⟩ | refine ⟨[], rfl, Nat.le_of_ble_eq_true rfl, ?_⟩ | refine ⟨[_], rfl, Nat.le_of_ble_eq_true rfl, ?_⟩ | refine ⟨[_, _, _, _, _], rfl, Nat.le_of_ble_eq_true rfl, ?_⟩)
local macro_rules | `(tactic| walk_at "sl") => `(tactic| first | walk_at "st" | with_reducible refine ej_lst ?_)
local macro_rules | `(tactic| walk_at "sd") => `(tactic| first | walk_at "st" | dsimp only [sortS, lotD])

def wD : Option Str → PyData
  | none => .none
  | some s => .str s
def Cp.ix : Cp → Int
  | .new => 0
  | .zero => 1
  | .one => 2
def T_brought : TF := pureT fun ps r => ∃ (l : Lk) (c : Ct) (k : Cp), ps = [l.D, c.D, .int k.ix] ∧ Fits l c ∧ r = .tuple [(brought l c k).1.D, wD (brought l c k).2]
theorem th_mv (c : Ct) (x : Int) (k : Cp) : (c.thAdd x k).th = .tuple ((mvL k.ix.toNat x 0 [c.n0, c.n1, c.n2]).map PyData.int) := by
  cases k <;> rfl
theorem bk_mv (c : Ct) (x : Int) (b : Bool) : (c.bkAdd x b).bk = .tuple ((mvL (bI b).toNat x 0 [c.b0, c.b1]).map PyData.int) := by
  cases b <;> rfl
/-- the answer at the end -/
theorem answer_bk (l : Lk) (m : Int) (c : Ct) (hm : m = 0 ∨ m = 1) : (answer l m c).bk = if m = c.ot ∧ c.b0 + c.b1 < l.d then .tuple ((mvL m.toNat 1 0 [c.b0, c.b1]).map PyData.int) else c.bk := by
  unfold answer
  by_cases h : m = c.ot ∧ c.b0 + c.b1 < l.d
  · rw [if_pos h, if_pos h, bk_mv]
    rcases hm with rfl | rfl <;> rfl
  · rw [if_neg h, if_neg h]
theorem answer_rest (l : Lk) (m : Int) (c : Ct) : (answer l m c).sd = c.sd ∧ (answer l m c).rc = c.rc ∧ (answer l m c).th = c.th := by
  unfold answer
  by_cases h : m = c.ot ∧ c.b0 + c.b1 < l.d
  · rw [if_pos h]
    cases decide (m = 1) <;> exact ⟨rfl, rfl, rfl⟩
  · rw [if_neg h]
    exact ⟨rfl, rfl, rfl⟩
theorem answer_D (l : Lk) (m : Int) (c : Ct) (hm : m = 0 ∨ m = 1) : (answer l m c).D = .tuple [c.sd, c.rc, c.th, if m = c.ot ∧ c.b0 + c.b1 < l.d then .tuple ((mvL m.toNat 1 0 [c.b0, c.b1]).map PyData.int) else c.bk] := by
  obtain ⟨h1, h2, h3⟩ := answer_rest l m c
  show PyData.tuple [(answer l m c).sd, (answer l m c).rc, (answer l m c).th, (answer l m c).bk] = _
  rw [h1, h2, h3, answer_bk l m c hm]
/-- what the receiver keeps behind a copy -/
def Mid (l : Lk) (c : Ct) (k : Cp) (lot : Option (Bool × Int)) (ot : Int) (dn : Bool) (w : Option Str) : Prop :=
  (c.mark k = c.ot ∧ lot = none ∧ ot = c.ot ∧ dn = c.dn ∧ w = none) ∨
  (¬ c.mark k = c.ot ∧ l.p ≤ lotMore k.isOld c.lot ∧ lot = none ∧ ot = c.mark k ∧ dn = (c.dn || !k.isOld) ∧ w = if k.isOld then some ("made" : Str) else if c.dn then some ("twice" : Str) else none) ∨
  (¬ c.mark k = c.ot ∧ ¬ l.p ≤ lotMore k.isOld c.lot ∧ lot = some (k.isOld, lotMore k.isOld c.lot) ∧ ot = c.ot ∧ dn = c.dn ∧ w = none)
theorem Mid.eq {l : Lk} {c : Ct} {k : Cp} {lot : Option (Bool × Int)} {ot : Int} {dn : Bool} {w : Option Str} (h : Mid l c k lot ot dn w) : brought l c k = (answer l (c.mark k) { c.thAdd (-1) k with lot := lot, ot := ot, dn := dn }, w) := by
  unfold brought
  dsimp only
  rcases h with ⟨h1, rfl, rfl, rfl, rfl⟩ | ⟨h1, h2, rfl, rfl, rfl, rfl⟩ | ⟨h1, h2, rfl, rfl, rfl, rfl⟩
  · rw [if_pos h1]
    cases k <;> rfl
  · rw [if_neg h1, if_pos h2]
  · rw [if_neg h1, if_neg h2]
    cases k <;> rfl
theorem c__law_brought (T : Top K mg) : Cal P w K mg base 2 "_law_brought" (spA K 3 T_brought) := by
  refine T.d__law_brought.cal sc_law_brought rfl fun f cdv A outer s H E hr => ⟨_, (pss_cons (ps_asg (pv 1) (pg_tupK K (n := 4) rfl (pgs_cons (pg_tupK K (n := 2) rfl (pgs_cons (pg_name (i := 3) sc_law_brought.nd rfl (.inl rfl)) (pgs_cons (pg_name (i := 4) sc_law_brought.nd rfl (.inl rfl)) pgs_nil))) (pgs_cons (pg_tupK K (n := 3) rfl (pgs_cons (pg_name (i := 5) sc_law_brought.nd rfl (.inl rfl)) (pgs_cons (pg_name (i := 6) sc_law_brought.nd rfl (.inl rfl)) (pgs_cons (pg_name (i := 7) sc_law_brought.nd rfl (.inl rfl)) pgs_nil)))) (pgs_cons (pg_name (i := 8) sc_law_brought.nd rfl (.inl rfl)) (pgs_cons (pg_name (i := 9) sc_law_brought.nd rfl (.inl rfl)) pgs_nil))))))
      (pss_cons (ps_par3 (i := 8) (j := 10) (l := 11) rfl sc_law_brought.nd rfl rfl rfl (by decide) (by decide) (by decide) rfl rfl rfl (pa_cons (pe_c (c__law_moved (K := K) T) hr (by decide) (by rfl) (pa_cons (pv 8) (pa_cons (pv 2) (pa_cons (pe_un un_neg pe_int) pa_nil)))) (pa_cons pe_non (pa_cons (pe_ifExp (pt_cmpR (eqK K hr) (pv 2) pe_int (nomark _)) pe_str pe_str) pa_nil))) rfl)
      (pss_cons (ps_set (i := 12) sc_law_brought.nd rfl (.inl rfl) (pe_ifExp (pt_cmpR (eqK K hr) (pv 2) pe_int (nomark _)) (pv 3) (pe_op op_sub (pv 2) pe_int)))
      (pss_cons (ps_if (pt_cmpR (eqK K hr) (pv 12) (pv 5) (nomark _)) (pss_one (ps_set (i := 6) sc_law_brought.nd rfl (.inl rfl) pe_non)) (pss_cons (ps_set (i := 6) sc_law_brought.nd rfl (.inl rfl) (pe_tup (pa_cons (pv 11) (pa_cons (pe_ifExp (PW.pt (pw_and (pt_cmpR op_notNone (pv 6) pe_non (nomark _)) (pw_and1 (pt_cmpR (eqK K hr) (pe_ix (ixK K) (pv 6) pe_int (fun _ _ => rfl)) (pv 11) (nomark _))))) (pe_op op_add (pe_ix (ixK K) (pv 6) pe_int (fun _ _ => rfl)) pe_int) pe_int) pa_nil))))
      (pss_one (ps_if (pt_cmpR op_ge (pe_ix (ixK K) (pv 6) pe_int (fun _ _ => rfl)) (pe_ix (ixK K) (pv 0) pe_int (fun _ _ => rfl)) (nomark _)) (pss_cons (ps_set (i := 10) sc_law_brought.nd rfl (.inl rfl) (pe_ifExp (pt_cmpR (eqK K hr) (pv 11) pe_str (nomark _)) pe_str (pe_ifExp (pt_val (pv 7)) pe_str pe_non)))
      (pss_one (ps_par3 (i := 7) (j := 5) (l := 6) rfl sc_law_brought.nd rfl rfl rfl (by decide) (by decide) (by decide) rfl rfl rfl (pa_cons (pe_or (pv 7) (pe_one (pe_cmpR (eqK K hr) (pv 11) pe_str (nomark _)))) (pa_cons (pv 12) (pa_cons pe_non pa_nil))) rfl))) pss_nil))))
      (pss_cons (ps_if (PW.pt (pw_and (pt_cmpR (eqK K hr) (pv 12) (pv 5) (nomark _)) (pw_and1 (pt_cmpR op_lt (pe_callB (sumK K rfl) (by rfl) T.b_sum bt_sum (pa_cons (pv 9) pa_nil)) (pe_ix (ixK K) (pv 0) pe_int (fun _ _ => rfl)) (nomark _))))) (pss_one (ps_set (i := 9) sc_law_brought.nd rfl (.inl rfl) (pe_c (c__law_moved (K := K) T) hr (by decide) (by rfl) (pa_cons (pv 9) (pa_cons (pv 12) (pa_cons pe_int pa_nil)))))) pss_nil)
      (pss_one (ps_ret (pe_tup (pa_cons (pe_tup (pa_cons (pe_tup (pa_cons (pv 3) (pa_cons (pv 4) pa_nil))) (pa_cons (pe_tup (pa_cons (pv 5) (pa_cons (pv 6) (pa_cons (pv 7) pa_nil)))) (pa_cons (pv 8) (pa_cons (pv 9) pa_nil))))) (pa_cons (pv 10) pa_nil)))))))))), ?_⟩
  rintro xs M Q - ⟨ps, r, rfl, ⟨l, c, k, rfl, fc, rfl⟩, q⟩
  refine sj_ds (ds' := [some _, some _, some _, none, none, none, none, none, none, none, none, none, none]) rfl ?_
  have hm := mark_bit fc k
  have hk : ((k.ix.toNat : Nat) : Int) = k.ix := by cases k <;> rfl
  refine sj_cut (fun ds' M' => ds' = [some (.dat l.D), some (.dat c.D), some (.dat (.int k.ix)), some (.dat (.int c.bit)), some (.dat (.int c.hd)), some (.dat (.int c.ot)), some (.dat (lotD c.lot)), some (.dat (.bool c.dn)),
    some (.dat c.th), some (.dat c.bk), none, none, none] ∧ M' = M) ?_ ?_
  · repeat walk_at "st"
    exact ⟨rfl, rfl⟩
  rintro ds1 M1 ⟨rfl, rfl⟩
  repeat walk_at "st"
  refine ⟨[_, _, _], _, rfl, ⟨[c.n0, c.n1, c.n2], k.ix.toNat, -1, by rw [hk]; rfl, by show 3 ≤ 10; decide, rfl⟩, ?_⟩
  rw [← th_mv]
  refine aj_cons (ej_non (aj_cons (ej_cut (.str (sortS k.isOld)) ?_ (aj_nil ⟨_, _, _, rfl, ?_⟩))))
  · cases k <;> (repeat walk_at "st") <;> exact ⟨rfl, rfl⟩
  refine sj_seq (sj_set (ej_cut (.int (c.mark k)) ?_ ?_))
  · cases k <;> (repeat walk_at "st") <;> exact ⟨rfl, rfl⟩
  refine sj_cut (fun ds' M' => ∃ lot ot dn wr, Mid l c k lot ot dn wr ∧ ds' = [some (.dat l.D), some (.dat c.D), some (.dat (.int k.ix)), some (.dat (.int c.bit)), some (.dat (.int c.hd)), some (.dat (.int ot)), some (.dat (lotD lot)), some (.dat (.bool dn)),
    some (.dat (c.thAdd (-1) k).th), some (.dat c.bk), some (.dat (wD wr)), some (.dat (.str (sortS k.isOld))), some (.dat (.int (c.mark k)))] ∧ M' = M1) ?_ ?_
  · repeat walk_at "st"
    refine brD (fun h1 => ?_) (fun h1 => ?_)
    · repeat walk_at "st"
      exact ⟨none, _, _, none, .inl ⟨h1, rfl, rfl, rfl, rfl⟩, rfl, rfl⟩
    · refine sj_seq (sj_set (ej_tup (aj_cons (ej_var rfl (aj_cons (ej_cut (.int (lotMore k.isOld c.lot)) ?_ ?_))))))
      · clear q fc hm h1
        obtain ⟨bit, hd, ot, lot, dn, n0, n1, n2, b0, b1⟩ := c
        cases k <;> rcases lot with _ | ⟨_ | _, m⟩ <;> (dsimp only [Cp.isOld, sortS]) <;> (repeat walk_at "sd") <;> exact ⟨rfl, rfl⟩
      repeat walk_at "st"
      refine brD (fun h2 => ?_) (fun h2 => ?_)
      · refine sj_seq (sj_set (ej_cut (wD (if k.isOld then some ("made" : Str) else if c.dn then some ("twice" : Str) else none)) ?_ ?_))
        · generalize c.dn = dn
          cases k <;> cases dn <;> (dsimp only [Cp.isOld, sortS]) <;> (repeat walk_at "st") <;> exact ⟨rfl, rfl⟩
        refine sj_par3 (aj_cons (ej_cut (.bool (c.dn || !k.isOld)) ?_ ?_))
        · generalize c.dn = dn
          cases k <;> cases dn <;> (dsimp only [Cp.isOld, sortS]) <;> (repeat walk_at "st") <;> exact ⟨rfl, rfl⟩
        repeat walk_at "st"
        exact ⟨none, _, _, _, .inr (.inl ⟨h1, h2, rfl, rfl, rfl, rfl⟩), rfl, rfl⟩
      · repeat walk_at "st"
        exact ⟨some (k.isOld, lotMore k.isOld c.lot), _, _, none, .inr (.inr ⟨h1, h2, rfl, rfl, rfl, rfl⟩), rfl, rfl⟩
  rintro ds1 M1 ⟨lot, ot, dn, wr, hmid, rfl, rfl⟩
  rw [hmid.eq] at q
  dsimp only at q
  rw [answer_D _ _ _ hm] at q
  generalize he : ({ c.thAdd (-1) k with lot := lot, ot := ot, dn := dn } : Ct) = e at q
  have e1 : e.sd = c.sd := by rw [← he]; cases k <;> rfl
  have e2 : e.rc = .tuple [.int ot, lotD lot, .bool dn] := by rw [← he]; rfl
  have e3 : e.th = (c.thAdd (-1) k).th := by rw [← he]; rfl
  have e4 : e.ot = ot := by rw [← he]
  have e5 : e.b0 = c.b0 := by rw [← he]; cases k <;> rfl
  have e6 : e.b1 = c.b1 := by rw [← he]; cases k <;> rfl
  have e7 : e.bk = c.bk := by unfold Ct.bk; rw [e5, e6]
  rw [e1, e2, e3, e4, e5, e6, e7] at q
  refine sj_cut (fun ds' M' => ds' = [some (.dat l.D), some (.dat c.D), some (.dat (.int k.ix)), some (.dat (.int c.bit)), some (.dat (.int c.hd)), some (.dat (.int ot)), some (.dat (lotD lot)), some (.dat (.bool dn)),
    some (.dat (c.thAdd (-1) k).th), some (.dat (if c.mark k = ot ∧ c.b0 + c.b1 < l.d then .tuple ((mvL (c.mark k).toNat 1 0 [c.b0, c.b1]).map PyData.int) else c.bk)), some (.dat (wD wr)), some (.dat (.str (sortS k.isOld))), some (.dat (.int (c.mark k)))] ∧ M' = M1) ?_ ?_
  · repeat walk_at "st"
    refine brD (fun h1 => ?_) (fun h1 => ?_)
    · repeat walk_at "st"
      refine cj_sumT (ns := [c.b0, c.b1]) ?_
      repeat walk_at "st"
      have es : [c.b0, c.b1].sum = c.b0 + c.b1 := by simp
      rw [es]
      refine brD (fun h2 => ?_) (fun h2 => ?_)
      · repeat walk_at "st"
        have hmk : (((c.mark k).toNat : Nat) : Int) = c.mark k := by rcases hm with z | z <;> rw [z] <;> rfl
        refine ⟨[_, _, _], _, rfl, ⟨[c.b0, c.b1], (c.mark k).toNat, 1, by rw [hmk]; rfl, by show 2 ≤ 10; decide, rfl⟩, ?_⟩
        rw [if_pos ⟨h1, h2⟩]
        exact ⟨rfl, rfl⟩
      · repeat walk_at "st"
        rw [if_neg fun z => h2 z.2]
        exact ⟨rfl, rfl⟩
    · repeat walk_at "st"
      rw [if_neg fun z => h1 z.1]
      exact ⟨rfl, rfl⟩
  rintro ds' M' ⟨rfl, rfl⟩
  repeat walk_at "st"
  exact q
end
end HW

/-! sorted(xs), xs a list of tuples that begin with a text: the same items in some order. -/
namespace HW
open PySem PySem.Spec PyProof.Rows L2 DL
/-- what stands behind the text -/
inductive Tl where
  | z
  | s (y : Str)
  | i (n : Int)
def Tl.V : Tl → List V
  | .z => []
  | .s y => [.str y]
  | .i n => [.int n]
def Tl.k : Tl → Nat
  | .z => 0
  | .s _ => 1
  | .i _ => 2
def IsE (h : Heap) (v : Value) (x : Str) (t : Tl) : Prop := ∃ (a : Addr) (o : Obj) (n : Nat) (its : List Value), v = .ref a ∧ h.get? a = some o ∧ o.cls = .type "tuple" ∧ o.data = .seq its.toArray n ∧ Vals (.str x :: t.V) its
theorem IsE.keeps {h h' : Heap} {v : Value} {x : Str} {t : Tl} (p : IsE h v x t) (k : ∀ b o, h.get? b = some o → o.cls = .type "tuple" → h'.get? b = some o) : IsE h' v x t := by
  obtain ⟨a, o, n, its, e, ho, hc, hd, hv⟩ := p
  exact ⟨a, o, n, its, e, k _ _ ho hc, hc, hd, hv⟩
section
open Srt PySem.W
variable {s : Shared} {prog : Program} {A : Around} {w : World}
theorem ev_tot {vs : List Value} {kd : Str → Nat} (hp : ∀ v ∈ vs, ∃ x t, IsE s.heap v x t ∧ t.k = kd x) : Tot prog w A s (tuples' true) (fun p => p.1 ∈ vs) := by
  intro p q hm hm'
  obtain ⟨x, t, ⟨a, o, n, its, e, ho, hc, hd, hv⟩, hk⟩ := hp _ hm
  obtain ⟨x', t', ⟨a', o', n', its', e', ho', hc', hd', hv'⟩, hk'⟩ := hp _ hm'
  rw [e, e']
  by_cases hx : x = x'
  · subst hx
    have kk : t.k = t'.k := hk.trans hk'.symm
    cases hv with
    | cons r1 r2 =>
    obtain ⟨tk, rfl⟩ := r1
    cases hv' with
    | cons r1' r2' =>
    obtain ⟨tk', rfl⟩ := r1'
    rcases t with _ | y | i <;> rcases t' with _ | y' | i' <;> first | (cases kk; done) | skip
    · cases r2
      cases r2'
      refine ⟨false, kat_lt ho hd ho' hd' ?_⟩
      show KatLex prog w A true (decide (1 < 1)) _ [(.str x tk, .str x tk')] 0 s
      refine kat_cons (wpAny_eqBool_str ?_)
      rw [decide_eq_true rfl]
      exact kat_yes (kat_nil ⟨rfl, rfl⟩)
    · cases r2 with
      | cons u1 u2 =>
      cases u2
      obtain ⟨tu, rfl⟩ := u1
      cases r2' with
      | cons u1' u2' =>
      cases u2'
      obtain ⟨tu', rfl⟩ := u1'
      by_cases hy : y = y'
      · refine ⟨false, kat_lt ho hd ho' hd' ?_⟩
        show KatLex prog w A true (decide (2 < 2)) _ [(.str x tk, .str x tk'), (.str y tu, .str y' tu')] 0 s
        refine kat_cons (wpAny_eqBool_str ?_)
        rw [decide_eq_true rfl]
        refine kat_yes (kat_cons (wpAny_eqBool_str ?_))
        rw [decide_eq_true hy]
        exact kat_yes (kat_nil ⟨rfl, rfl⟩)
      · refine ⟨decide (y.cps.toList < y'.cps.toList), kat_lt ho hd ho' hd' ?_⟩
        show KatLex prog w A true (decide (2 < 2)) _ [(.str x tk, .str x tk'), (.str y tu, .str y' tu')] 0 s
        refine kat_cons (wpAny_eqBool_str ?_)
        rw [decide_eq_true rfl]
        refine kat_yes (kat_cons (wpAny_eqBool_str ?_))
        rw [decide_eq_false hy]
        exact kat_no (kat_one _ _ (PyProof.Rows.lt_str (show _ ∧ _ from ⟨rfl, rfl⟩)))
    · cases r2 with
      | cons u1 u2 =>
      cases u2
      obtain ⟨tu, rfl⟩ := u1
      cases r2' with
      | cons u1' u2' =>
      cases u2'
      obtain ⟨tu', rfl⟩ := u1'
      by_cases hy : i = i'
      · refine ⟨false, kat_lt ho hd ho' hd' ?_⟩
        show KatLex prog w A true (decide (2 < 2)) _ [(.str x tk, .str x tk'), (.int i tu, .int i' tu')] 0 s
        refine kat_cons (wpAny_eqBool_str ?_)
        rw [decide_eq_true rfl]
        refine kat_yes (kat_cons (SeqAt.EqAt.int_int i tu i' tu' prog w _ _ ?_))
        refine kat_go (fun e1 => ?_) (fun e1 => ?_)
        · exact kat_yes (kat_nil ⟨rfl, rfl⟩)
        · exact absurd hy (by simpa using e1)
      · refine ⟨decide (i < i'), kat_lt ho hd ho' hd' ?_⟩
        show KatLex prog w A true (decide (2 < 2)) _ [(.str x tk, .str x tk'), (.int i tu, .int i' tu')] 0 s
        refine kat_cons (wpAny_eqBool_str ?_)
        rw [decide_eq_true rfl]
        refine kat_yes (kat_cons (SeqAt.EqAt.int_int i tu i' tu' prog w _ _ ?_))
        refine kat_go (fun e1 => ?_) (fun e1 => ?_)
        · exact absurd (by simpa using e1) hy
        · exact kat_no (kat_one _ _ (PyProof.Rows.lt_int (show _ ∧ _ from ⟨rfl, rfl⟩)))
  · cases hv with
    | cons r1 r2 =>
    obtain ⟨tk, rfl⟩ := r1
    cases hv' with
    | cons r1' r2' =>
    obtain ⟨tk', rfl⟩ := r1'
    refine ⟨decide (x.cps.toList < x'.cps.toList), kat_lt ho hd ho' hd' ?_⟩
    rename_i us us'
    show KatLex prog w A true _ _ ((.str x tk, .str x' tk') :: us.zip us') 0 s
    refine kat_cons (wpAny_eqBool_str ?_)
    rw [decide_eq_false hx]
    exact kat_no (oneLt_str ⟨rfl, rfl⟩)
theorem ev_firsts {h : Heap} : ∀ {vs : List Value}, (∀ v ∈ vs, ∃ x t, IsE h v x t) → ∃ fs : List Value, KatTups h vs fs ∧ fs.length = vs.length ∧ ∀ f ∈ fs, ∃ x t, f = Value.str x t
  | [], _ => ⟨[], KatTups.nil, rfl, fun _ hm => by simp at hm⟩
  | v :: vs, hp => by
    obtain ⟨fs, h1, h2, h3⟩ := ev_firsts (vs := vs) fun v' hm => hp v' (List.mem_cons_of_mem _ hm)
    obtain ⟨x, y, a, o, n, its, e, ho, hc, hd, hv⟩ := hp v (List.mem_cons_self ..)
    subst e
    cases hv with
    | cons r1 r2 =>
    obtain ⟨t, rfl⟩ := r1
    refine ⟨.str x t :: fs, KatTups.cons ho hc hd rfl h1, by rw [List.length_cons, List.length_cons, h2], fun f hm => ?_⟩
    rcases List.mem_cons.mp hm with rfl | hm
    · exact ⟨x, t, rfl⟩
    · exact h3 f hm
theorem ev_sortable {a : Addr} {vs : List Value} {kd : Str → Nat} (h0 : 0 < vs.length) (hp : ∀ v ∈ vs, ∃ x t, IsE s.heap v x t ∧ t.k = kd x) (ha : ∀ o, s.heap.get? a = some o → o.cls ≠ .type "tuple") : Sortable prog w A s a vs := by
  intro h' keep
  have hp' : ∀ v ∈ vs, ∃ x y, IsE h' v x y ∧ y.k = kd x := fun v hm => by
    obtain ⟨x, y, p, q⟩ := hp v hm
    exact ⟨x, y, p.keeps fun b o e c => keep b o (fun z => by subst z; exact ha o e c) e, q⟩
  obtain ⟨fs, h1, h2, h3⟩ := ev_firsts fun v hm => let ⟨x, y, p, _⟩ := hp' v hm; ⟨x, y, p⟩
  refine ⟨tuples' true, fun Q E hq => ?_, ev_tot hp'⟩
  refine kat_kind (T := .type "str") h1 (by omega) (fun f hm => ?_) (by rfl) ?_
  · obtain ⟨x, t, rfl⟩ := h3 f hm
    exact Looks.now
  · have e : (Value.type "str" != Value.type "tuple") = true := by first | decide +kernel | rfl | decide
    rw [e]
    exact hq
end
/-- sorted(xs) -/
def rSortedE (K : PySem.W.Frag) : List V → Hp → VK → Prop := fun vs H Q => ∃ (a : Addr) (xs : List V) (kd : Str → Nat), vs = [V.ref a] ∧ SqL K H a xs ∧ (∀ x ∈ xs, ∃ (t : Addr) (y : Str) (tl : Tl), x = .ref t ∧ SqT K H t (.str y :: tl.V) ∧ tl.k = kd y) ∧
  ∀ (ys : List V) (p : Addr), ys.Perm xs → H p = none → Q (.ref p) (upd H p (.lst ys))
theorem cr_sortedE {X : Cx} : CallR X (.builtin "sorted") (rSortedE X.K) := by
  intro pins s σ H vs us Q I r h
  obtain ⟨a, xs, kd, rfl, hs, hx, q⟩ := h
  obtain ⟨its, rv, hl, hz⟩ := I.list hs
  obtain ⟨u, rfl, ru⟩ := vals1 r
  obtain rfl : u = Value.ref a := ru
  obtain ⟨e1, e2⟩ := refs_back rv fun x m => by
    obtain ⟨t, _, _, e, _⟩ := hx x m
    exact ⟨t, e⟩
  have hp : ∀ v ∈ its, ∃ x t, IsE s.heap v x t ∧ t.k = kd x := fun v hv => by
    obtain ⟨t, rfl⟩ := e2 v hv
    have hm : V.ref t ∈ xs := e1 ▸ List.mem_map.mpr ⟨_, hv, rfl⟩
    obtain ⟨t', y, tl, e, ht, hk⟩ := hx _ hm
    cases e
    obtain ⟨its2, r2, ⟨o, ho, hc, n, hd⟩, _⟩ := I.tuple ht
    exact ⟨y, tl, ⟨t, o, n, its2, rfl, ho, hc, hd, r2⟩, hk⟩
  refine Srt.sorted_any hl.isList (by rw [← rv.length]; exact hz) (fun h2 h₁ a' ha kk => ?_) fun out ho => ?_
  · refine ev_sortable (s := { s with heap := h₁ }) (kd := kd) (by omega) (fun v hm => ?_) fun o e => ?_
    · obtain ⟨x, y, p, c⟩ := hp v hm
      exact ⟨x, y, p.keeps fun b o e _ => (kk b o e).2, c⟩
    · have e' : some o = some (seqObj "list" its.toArray 0) := e.symm.trans ha
      cases e'
      intro c
      exact absurd (Value.type.inj c) (by decide)
  · have h3 : ∀ u ∈ out, ∃ a, u = Value.ref a := fun u hu => e2 u (ho.mem_iff.mp hu)
    have hb : (out.map backV).Perm xs := by
      rw [e1]
      exact ho.map _
    obtain ⟨ep, at_⟩ := PyProof.Rows.sortedAll_at s.heap its out.toArray
    refine ⟨.ref (s.heap.objs.size + 1), upd H (s.heap.objs.size + 1) (.lst (out.map backV)), I.laid (t' := s.toks) (fun _ _ => PyProof.Rows.sortedAll_old) (Nat.le_succ _) ⟨?_, out, ep, vals_back h3, at_⟩, rfl, q _ _ hb (I.hok.fresh (Nat.le_succ _))⟩
    rw [hb.length_eq]
    exact hz
section
variable {X : Cx} (K : PySem.W.Frag)
theorem sortedK (h : X.K = K := by rfl) : CallR X (.builtin "sorted") (rSortedE K) := h ▸ cr_sortedE
end
section
variable {K : PySem.W.Frag} {M : Ms} {Q : D → Ms → Prop}
theorem perm_evs {F : Hp} {vs us : List V} (p : us.Perm vs) : ∀ {es : List Ev}, DpAll K F vs (es.map Ev.D) → ∃ es' : List Ev, es'.Perm es ∧ DpAll K F us (es'.map Ev.D) := by
  induction p with
  | nil =>
    intro es h
    cases es with
    | nil => exact ⟨[], .refl _, h⟩
    | cons e es => cases h
  | cons x p ih =>
    intro es h
    cases es with
    | nil => cases h
    | cons e es =>
      cases h with
      | cons a b =>
      obtain ⟨es', h1, h2⟩ := ih b
      exact ⟨e :: es', h1.cons e, .cons a h2⟩
  | swap x y l =>
    intro es h
    cases es with
    | nil => cases h
    | cons e es =>
      cases h with
      | cons a b =>
      cases es with
      | nil => cases b
      | cons e2 es =>
        cases b with
        | cons a2 b =>
        exact ⟨e2 :: e :: es, .swap e e2 es, .cons a2 (.cons a b)⟩
  | trans p1 p2 ih1 ih2 =>
    intro es h
    obtain ⟨es1, h1, h2⟩ := ih2 h
    obtain ⟨es2, h3, h4⟩ := ih1 h2
    exact ⟨es2, h3.trans h1, h4⟩
def kdE (y : Str) : Nat := if y = "send" then 0 else if y = "bring" ∨ y = "drop" then 1 else 2
theorem ev_dp {F H : Hp} (sub : Same F H) {v : V} {e : Ev} (h : Dp K F v e.D) : ∃ (t : Addr) (y : Str) (tl : Tl), v = .ref t ∧ SqT K H t (.str y :: tl.V) ∧ tl.k = kdE y := by
  have tup : ∀ {xs : List PyData}, Dp K F v (.tuple xs) → ∃ a vs, v = V.ref a ∧ SqT K H a vs ∧ DpAll K F vs xs := fun h => by
    cases h with
    | tup a b => exact ⟨_, _, rfl, sqT_mono sub a, b⟩
  rcases e with _ | k | k | b | b
  · obtain ⟨a, vs, rfl, h1, h2⟩ := tup h
    cases h2 with
    | cons x y =>
    cases x
    cases y
    exact ⟨a, "send", .z, rfl, h1, by decide +kernel⟩
  · obtain ⟨a, vs, rfl, h1, h2⟩ := tup h
    cases h2 with
    | cons x y =>
    cases x
    cases y with
    | cons x y =>
    cases x
    cases y
    exact ⟨a, "bring", .s k.S, rfl, h1, (by show 1 = kdE "bring"; decide +kernel)⟩
  · obtain ⟨a, vs, rfl, h1, h2⟩ := tup h
    cases h2 with
    | cons x y =>
    cases x
    cases y with
    | cons x y =>
    cases x
    cases y
    exact ⟨a, "drop", .s k.S, rfl, h1, (by show 1 = kdE "drop"; decide +kernel)⟩
  · obtain ⟨a, vs, rfl, h1, h2⟩ := tup h
    cases h2 with
    | cons x y =>
    cases x
    cases y with
    | cons x y =>
    cases x
    cases y
    exact ⟨a, "hear", .i (bI b), rfl, h1, (by show 2 = kdE "hear"; decide +kernel)⟩
  · obtain ⟨a, vs, rfl, h1, h2⟩ := tup h
    cases h2 with
    | cons x y =>
    cases x
    cases y with
    | cons x y =>
    cases x
    cases y
    exact ⟨a, "miss", .i (bI b), rfl, h1, (by show 2 = kdE "miss"; decide +kernel)⟩
theorem dpAll_mem {F : Hp} : ∀ {vs : List V} {es : List Ev}, DpAll K F vs (es.map Ev.D) → ∀ v ∈ vs, ∃ e : Ev, Dp K F v e.D
  | _, [], .nil, _, h => absurd h (by simp)
  | _, e :: es, .cons a b, v, h => by
    rcases List.mem_cons.mp h with rfl | h
    · exact ⟨e, a⟩
    · exact dpAll_mem b v h
theorem cj_sortedE {i : Nat} {es : List Ev} (hi : M i = some (es.map Ev.D)) (q : ∀ es' : List Ev, es'.Perm es → ∀ k, M k = none → Q (.cel k) (put M k (es'.map Ev.D))) : CJ K (rSortedE K) [.cel i] M Q := fun w H us s r R c => by
  obtain ⟨v, rfl, b, hb, rfl⟩ := r.c1
  obtain ⟨a, vs, h1, h2, h3, h4⟩ := s.cell i _ hi
  rw [hb] at h1
  obtain rfl : b = a := Option.some.inj h1
  refine ⟨b, vs, kdE, rfl, SqL.of h3, fun x hx => ?_, fun ys p hp hn => ?_⟩
  · obtain ⟨e, he⟩ := dpAll_mem h4 x hx
    exact ev_dp s.sub he
  · obtain ⟨es', h5, h6⟩ := perm_evs hp h4
    obtain ⟨k, c', hk, le, hc, s2⟩ := s.newCell hn h6
    exact c _ _ _ (.cel k) _ le ⟨p, hc, rfl⟩ s2 (q es' h5 k hk)
end
end HW

namespace HW
open PySem PySem.Spec PyProof.Rows L2 DL
section
variable {K : PySem.W.Frag} {P : Program} {w : World} {base : Heap} {mg : Str → Option Value}
local macro_rules | `(tactic| walk_at "sk") => `(tactic| with_reducible first | exact sk_new | exact sk_old | exact sk_send | exact sk_drop | exact sk_bring | exact sk_miss | exact sk_hear | exact sk_made | exact sk_twice | exact sk_lost | exact sk_zero | exact sk_one)
local macro_rules | `(tactic| walk_at "st") => `(tactic| first
  | ((with_reducible refine isVar ?_); first | refine ej_var rfl ?_)
  | ((with_reducible refine isTC ?_); first | with_reducible refine ej_int ?_ | with_reducible refine ej_str ?_ | with_reducible refine ej_non ?_ | with_reducible refine ej_bl ?_ | with_reducible refine ej_val ?_)
  | ((with_reducible refine isEJ ?_); first | with_reducible refine ej_op ?_ | with_reducible refine ej_call ?_ | with_reducible refine ej_cb ?_ | with_reducible refine ej_if ?_ | with_reducible refine ej_tup ?_ | with_reducible refine ej_andV ?_ | with_reducible refine ej_orV ?_ | with_reducible refine ej_notV ?_ | with_reducible refine ej_un ?_ | with_reducible refine ej_bits ?_ | with_reducible refine ej_dsS (by dsimp only [wipeD, List.map_cons, List.map_nil, List.set_cons_succ, List.set_cons_zero]; rfl) ?_)
  | ((with_reducible refine isAJ ?_); first | with_reducible refine aj_cons ?_ | with_reducible refine aj_nil ?_)
  | ((with_reducible refine isIx ?_); first | refine oj_ixT rfl ?_ | refine oj_ixL rfl ?_ | refine oj_ixM (by first | assumption | exact put_same _ _ _) rfl ?_)
  | ((with_reducible refine isOJ ?_); first | with_reducible refine oj_I0i ?_ | with_reducible refine oj_I0b ?_ | with_reducible refine oj_eqi ?_ | with_reducible refine oj_nei ?_ | with_reducible refine oj_eqb ?_ | with_reducible refine oj_eqsT (by walk_at "sk") ?_ | refine oj_eqsF (by walk_at "sk") (by walk_at "sk") (by decide +kernel) ?_ | with_reducible refine oj_isNone ?_ | with_reducible refine oj_notNone ?_ | with_reducible refine oj_eq_nil ?_ | with_reducible refine oj_ne_nil ?_ | refine oj_ninD (b := true) (by decide +kernel) (by decide +kernel) (by decide +kernel) ?_ | refine oj_ninD (b := false) (by decide +kernel) (by decide +kernel) (by decide +kernel) ?_)
  | ((with_reducible refine isTJ ?_); first | with_reducible refine tj_test ?_ | with_reducible refine tj_B ?_ | with_reducible refine tj_and ?_ | with_reducible refine tj_or ?_ | with_reducible refine tj_not ?_ | with_reducible refine tj_yes ?_ | with_reducible refine tj_dsS (by dsimp only [wipeD, List.map_cons, List.map_nil, List.set_cons_succ, List.set_cons_zero]; rfl) ?_)
  | ((with_reducible refine isSJ ?_); first | with_reducible refine sj_dsS (by dsimp only [wipeD, List.map_cons, List.map_nil, List.set_cons_succ, List.set_cons_zero]; rfl) ?_ | with_reducible refine sj_seq ?_ | with_reducible refine sj_set ?_ | with_reducible refine sj_ret ?_ | with_reducible refine sj_if ?_ | with_reducible refine sj_drop ?_ | with_reducible refine sj_par ?_ | with_reducible refine sj_par3 ?_ | with_reducible refine sj_asg ?_ | with_reducible refine sj_next ?_)
  | ((with_reducible refine isCJ ?_); first | with_reducible refine cj_isi_ib ?_ | refine cj_isi_same rfl ?_ | with_reducible refine cj_lenL ?_ | with_reducible refine cj_lenT ?_ | with_reducible refine cj_int ?_ | with_reducible refine cj_intb ?_ | with_reducible refine cj_max ?_ | with_reducible refine cj_min ?_)
  | ((with_reducible refine isGJ ?_); first | with_reducible refine gj_name ?_ | refine gj_tup rfl ?_ | refine gj_unl rfl ?_)
  | ((with_reducible refine isGs ?_); first | refine gsj_cons ?_ | refine gsj_nil ?_)
  | ((with_reducible refine isLJ ?_); first | with_reducible refine lj_name (by decide) ?_ | refine lj_tup rfl ?_)
  | ((with_reducible refine isLs ?_); first | refine lsj_cons ?_ | refine lsj_nil ?_)
  | ((with_reducible refine isIJ ?_); first | with_reducible refine ij_list ?_ | with_reducible refine ij_tup ?_ | with_reducible refine ij_range1 ?_ | with_reducible refine ij_range2 ?_ | with_reducible refine ij_enum ?_ | with_reducible refine ij_enumT ?_ | with_reducible refine ij_zip ?_)
  | with_reducible refine uj_neg ?_ | with_reducible refine fj_A rfl ?_ | with_reducible refine ⟨_, rfl, ?_⟩ | with_reducible refine ⟨_, _, rfl, ?_⟩ | with_reducible refine ⟨_, _, _, rfl, ?_⟩ | refine brT rfl ?_ | refine brF rfl ?_ | refine ⟨[_, _], rfl, Nat.le_of_ble_eq_true rfl, ?_⟩ | refine ⟨[_, _, _], rfl, Nat.le_of_ble_eq_true rfl, ?_⟩ | refine ⟨[_, _, _, _], rfl, Nat.le_of_ble_eq_true rfl, ?_⟩ | refine ⟨[], rfl, Nat.le_of_ble_eq_true rfl, ?_⟩ | refine ⟨[_], rfl, Nat.le_of_ble_eq_true rfl, ?_⟩ | refine ⟨[_, _, _, _, _], rfl, Nat.le_of_ble_eq_true rfl, ?_⟩)
local macro_rules | `(tactic| walk_at "sl") => `(tactic| first | walk_at "st" | with_reducible refine ej_lst ?_)
local macro_rules | `(tactic| walk_at "sd") => `(tactic| first | walk_at "st" | dsimp only [sortS, lotD])

theorem idx_no {x : PyData} {xs : List PyData} {j : Nat} (h : ((xs.take j).all fun z => !PyData.eqv z x) = true) : ∀ (m : Nat) (z' : PyData), m < j → xs[m]? = some z' → PyData.eqv z' x = false := fun m z' hm hz => by
  rw [List.all_eq_true] at h
  have hz' : (xs.take j)[m]? = some z' := by rw [List.getElem?_take]; simp [hm, hz]
  simpa using h z' (List.mem_of_getElem? hz')
def T_heard : TF := pureT fun ps r => ∃ (l : Lk) (c : Ct) (b : Bool), ps = [l.D, c.D, .int (bI b)] ∧ Fits l c ∧ r = .tuple [(heard l c b).1.D, wD (heard l c b).2]
def bkH (c : Ct) (b : Bool) : PyData := .tuple ((mvL (bI b).toNat (-1) 0 [c.b0, c.b1]).map PyData.int)
theorem heard1 {l : Lk} {c : Ct} {b : Bool} (h : bI b ≠ c.bit ∨ c.hd + 1 < l.q) : PyData.tuple [(heard l c b).1.D, wD (heard l c b).2] = .tuple [.tuple [.tuple [.int c.bit, .int (c.hd + if bI b = c.bit then 1 else 0)], c.rc, c.th, bkH c b], .none] := by
  unfold heard
  rw [if_pos h]
  cases b <;> rfl
theorem heard2 {l : Lk} {c : Ct} {b : Bool} (hb : c.bit = 0 ∨ c.bit = 1) (h : ¬ (bI b ≠ c.bit ∨ c.hd + 1 < l.q)) : PyData.tuple [(heard l c b).1.D, wD (heard l c b).2] = .tuple [.tuple [.tuple [.int (1 - c.bit), .int 0], .tuple [.int c.ot, lotD (lotTurn c.lot), .bool false], .tuple ((mvL (1 + c.bit).toNat c.n0 0 [0, c.n1, c.n2]).map PyData.int), bkH c b], wD (if c.dn then none else some ("lost" : Str))] := by
  unfold heard
  rw [if_neg h]
  have e : PyData.tuple ((mvL (1 + c.bit).toNat c.n0 0 [0, c.n1, c.n2]).map PyData.int) = .tuple [.int 0, .int (c.n1 + (if c.bit = 0 then c.n0 else 0)), .int (c.n2 + if c.bit = 0 then 0 else c.n0)] := by
    rcases hb with z | z <;> rw [z]
    · show PyData.tuple [.int 0, .int (c.n1 + c.n0), .int c.n2] = .tuple [.int 0, .int (c.n1 + c.n0), .int (c.n2 + 0)]
      rw [Int.add_zero]
    · show PyData.tuple [.int 0, .int c.n1, .int (c.n2 + c.n0)] = .tuple [.int 0, .int (c.n1 + 0), .int (c.n2 + c.n0)]
      rw [Int.add_zero]
  rw [e]
  cases b <;> rfl
theorem bIn (b : Bool) : (((bI b).toNat : Nat) : Int) = bI b := by cases b <;> rfl
theorem c__law_heard (T : Top K mg) : Cal P w K mg base 2 "_law_heard" (spA K 3 T_heard) := by
  refine T.d__law_heard.cal sc_law_heard rfl fun f cdv A outer s H E hr => ⟨_, (pss_cons (ps_asg (pv 1) (pg_tupK K (n := 4) rfl (pgs_cons (pg_tupK K (n := 2) rfl (pgs_cons (pg_name (i := 3) sc_law_heard.nd rfl (.inl rfl)) (pgs_cons (pg_name (i := 4) sc_law_heard.nd rfl (.inl rfl)) pgs_nil))) (pgs_cons (pg_tupK K (n := 3) rfl (pgs_cons (pg_name (i := 5) sc_law_heard.nd rfl (.inl rfl)) (pgs_cons (pg_name (i := 6) sc_law_heard.nd rfl (.inl rfl)) (pgs_cons (pg_name (i := 7) sc_law_heard.nd rfl (.inl rfl)) pgs_nil)))) (pgs_cons (pg_name (i := 8) sc_law_heard.nd rfl (.inl rfl)) (pgs_cons (pg_name (i := 9) sc_law_heard.nd rfl (.inl rfl)) pgs_nil))))))
      (pss_cons (ps_set (i := 9) sc_law_heard.nd rfl (.inl rfl) (pe_c (c__law_moved (K := K) T) hr (by decide) (by rfl) (pa_cons (pv 9) (pa_cons (pv 2) (pa_cons (pe_un un_neg pe_int) pa_nil)))))
      (pss_cons (ps_if (PW.pt (pw_or (pt_cmpR (neK K hr) (pv 2) (pv 3) (nomark _)) (pw_or1 (pt_cmpR op_lt (pe_op op_add (pv 4) pe_int) (pe_ix (ixK K) (pv 0) pe_int (fun _ _ => rfl)) (nomark _))))) (pss_one (ps_ret (pe_tup (pa_cons (pe_tup (pa_cons (pe_tup (pa_cons (pv 3) (pa_cons (pe_op op_add (pv 4) (pe_callTy call_int (by rfl) T.b_int bt_int (pa_cons (pe_cmpR (eqK K hr) (pv 2) (pv 3) (nomark _)) pa_nil))) pa_nil))) (pa_cons (pe_tup (pa_cons (pv 5) (pa_cons (pv 6) (pa_cons (pv 7) pa_nil)))) (pa_cons (pv 8) (pa_cons (pv 9) pa_nil))))) (pa_cons pe_non pa_nil))))) pss_nil)
      (pss_cons (ps_set (i := 8) sc_law_heard.nd rfl (.inl rfl) (pe_c (c__law_moved (K := K) T) hr (by decide) (by rfl) (pa_cons (pe_tup (pa_cons pe_int (pa_cons (pe_ix (ixK K) (pv 8) pe_int (fun _ _ => rfl)) (pa_cons (pe_ix (ixK K) (pv 8) pe_int (fun _ _ => rfl)) pa_nil)))) (pa_cons (pe_op op_add pe_int (pv 3)) (pa_cons (pe_ix (ixK K) (pv 8) pe_int (fun _ _ => rfl)) pa_nil)))))
      (pss_cons (ps_set (i := 6) sc_law_heard.nd rfl (.inl rfl) (pe_ifExp (pt_cmpR op_notNone (pv 6) pe_non (nomark _)) (pe_tup (pa_cons pe_str (pa_cons (pe_ix (ixK K) (pv 6) pe_int (fun _ _ => rfl)) pa_nil))) pe_non))
      (pss_one (ps_ret (pe_tup (pa_cons (pe_tup (pa_cons (pe_tup (pa_cons (pe_op op_sub pe_int (pv 3)) (pa_cons pe_int pa_nil))) (pa_cons (pe_tup (pa_cons (pv 5) (pa_cons (pv 6) (pa_cons pe_bl pa_nil)))) (pa_cons (pv 8) (pa_cons (pv 9) pa_nil))))) (pa_cons (pe_ifExp (pt_val (pv 7)) pe_non pe_str) pa_nil)))))))))), ?_⟩
  rintro xs M Q - ⟨ps, r, rfl, ⟨l, c, b, rfl, fc, rfl⟩, q⟩
  refine sj_ds (ds' := [some _, some _, some _, none, none, none, none, none, none, none]) rfl ?_
  refine sj_cut (fun ds' M' => ds' = [some (.dat l.D), some (.dat c.D), some (.dat (.int (bI b))), some (.dat (.int c.bit)), some (.dat (.int c.hd)), some (.dat (.int c.ot)), some (.dat (lotD c.lot)), some (.dat (.bool c.dn)),
    some (.dat c.th), some (.dat c.bk)] ∧ M' = M) ?_ ?_
  · repeat walk_at "st"
    exact ⟨rfl, rfl⟩
  rintro ds' M' ⟨rfl, rfl⟩
  repeat walk_at "st"
  refine ⟨[_, _, _], _, rfl, ⟨[c.b0, c.b1], (bI b).toNat, -1, by rw [bIn]; rfl, by show 2 ≤ 10; decide, rfl⟩, ?_⟩
  repeat walk_at "st"
  refine brN (fun h1 => ?_) (fun h1 => ?_)
  · repeat walk_at "st"
    refine brD (fun h2 => ?_) (fun h2 => ?_)
    · repeat walk_at "st"
      rw [heard1 (.inr h2), if_pos h1] at q
      rw [decide_eq_true h1]
      exact q
    · have h : ¬ (bI b ≠ c.bit ∨ c.hd + 1 < l.q) := fun z => z.elim (fun z => z h1) h2
      rw [heard2 fc.bit h] at q
      repeat walk_at "st"
      refine ⟨[_, _, _], _, rfl, ⟨[0, c.n1, c.n2], (1 + c.bit).toNat, c.n0, by rw [show (((1 + c.bit).toNat : Nat) : Int) = 1 + c.bit by rcases fc.bit with z | z <;> rw [z] <;> rfl]; rfl, by show 3 ≤ 10; decide, rfl⟩, ?_⟩
      refine sj_seq (sj_set (ej_cut (lotD (lotTurn c.lot)) ?_ ?_))
      · generalize c.lot = lot
        rcases lot with _ | ⟨s, m⟩ <;> (dsimp only [lotTurn, lotD, sortS]) <;> (repeat walk_at "st") <;> exact ⟨rfl, rfl⟩
      repeat walk_at "st"
      generalize c.dn = dn at *
      cases dn <;> (repeat walk_at "st") <;> exact q
  · repeat walk_at "st"
    rw [heard1 (.inl h1)] at q
    by_cases e : bI b = c.bit
    · exact absurd e h1
    · rw [if_neg e] at q
      rw [decide_eq_false e]
      exact q
def T_behind : TF := pureT fun ps r => ∃ (l : Lk) (c : Ct) (e : Ev), ps = [l.D, c.D, e.D] ∧ Fits l c ∧ r = .tuple [(behind l c e).1.D, wD (behind l c e).2]
theorem c__law_behind (T : Top K mg) : Cal P w K mg base 3 "_law_behind" (spA K 3 T_behind) := by
  refine T.d__law_behind.cal sc_law_behind rfl fun f cdv A outer s H E hr => ⟨_, (pss_cons (ps_asg (pv 1) (pg_tupK K (n := 4) rfl (pgs_cons (pg_name (i := 3) sc_law_behind.nd rfl (.inl rfl)) (pgs_cons (pg_name (i := 4) sc_law_behind.nd rfl (.inl rfl)) (pgs_cons (pg_name (i := 5) sc_law_behind.nd rfl (.inl rfl)) (pgs_cons (pg_name (i := 6) sc_law_behind.nd rfl (.inl rfl)) pgs_nil))))))
      (pss_cons (ps_if (pt_cmpR (eqK K hr) (pe_ix (ixK K) (pv 2) pe_int (fun _ _ => rfl)) pe_str (nomark _)) (pss_one (ps_ret (pe_tup (pa_cons (pe_tup (pa_cons (pv 3) (pa_cons (pv 4) (pa_cons (pe_c (c__law_moved (K := K) T) hr (by decide) (by rfl) (pa_cons (pv 5) (pa_cons pe_int (pa_cons pe_int pa_nil)))) (pa_cons (pv 6) pa_nil))))) (pa_cons pe_non pa_nil))))) pss_nil)
      (pss_cons (ps_if (pt_cmpR (eqK K hr) (pe_ix (ixK K) (pv 2) pe_int (fun _ _ => rfl)) pe_str (nomark _)) (pss_one (ps_ret (pe_tup (pa_cons (pe_tup (pa_cons (pv 3) (pa_cons (pv 4) (pa_cons (pv 5) (pa_cons (pe_c (c__law_moved (K := K) T) hr (by decide) (by rfl) (pa_cons (pv 6) (pa_cons (pe_ix (ixK K) (pv 2) pe_int (fun _ _ => rfl)) (pa_cons (pe_un un_neg pe_int) pa_nil)))) pa_nil))))) (pa_cons pe_non pa_nil))))) pss_nil)
      (pss_cons (ps_if (pt_cmpR (eqK K hr) (pe_ix (ixK K) (pv 2) pe_int (fun _ _ => rfl)) pe_str (nomark _)) (pss_one (ps_ret (pe_c (c__law_heard (K := K) T) hr (by decide) (by rfl) (pa_cons (pv 0) (pa_cons (pv 1) (pa_cons (pe_ix (ixK K) (pv 2) pe_int (fun _ _ => rfl)) pa_nil)))))) pss_nil)
      (pss_cons (ps_set (i := 7) sc_law_behind.nd rfl (.inl rfl) (pe_idxK K hr (pe_lst (pa_cons pe_str (pa_cons pe_str (pa_cons pe_str pa_nil)))) (pa_cons (pe_ix (ixK K) (pv 2) pe_int (fun _ _ => rfl)) pa_nil)))
      (pss_cons (ps_if (pt_cmpR (eqK K hr) (pe_ix (ixK K) (pv 2) pe_int (fun _ _ => rfl)) pe_str (nomark _)) (pss_one (ps_ret (pe_tup (pa_cons (pe_tup (pa_cons (pv 3) (pa_cons (pv 4) (pa_cons (pe_c (c__law_moved (K := K) T) hr (by decide) (by rfl) (pa_cons (pv 5) (pa_cons (pv 7) (pa_cons (pe_un un_neg pe_int) pa_nil)))) (pa_cons (pv 6) pa_nil))))) (pa_cons pe_non pa_nil))))) pss_nil)
      (pss_one (ps_ret (pe_c (c__law_brought (K := K) T) hr (by decide) (by rfl) (pa_cons (pv 0) (pa_cons (pv 1) (pa_cons (pv 7) pa_nil)))))))))))), ?_⟩
  rintro xs M Q - ⟨ps, r, rfl, ⟨l, c, e, rfl, fc, rfl⟩, q⟩
  refine sj_ds (ds' := [some _, some _, some _, none, none, none, none, none]) rfl ?_
  refine sj_cut (fun ds' M' => ds' = [some (.dat l.D), some (.dat c.D), some (.dat e.D), some (.dat c.sd), some (.dat c.rc), some (.dat c.th), some (.dat c.bk), none] ∧ M' = M) ?_ ?_
  · repeat walk_at "st"
    exact ⟨rfl, rfl⟩
  rintro ds' M' ⟨rfl, rfl⟩
  rcases e with _ | k | k | b | b
  · repeat walk_at "st"
    refine ⟨[_, _, _], _, rfl, ⟨[c.n0, c.n1, c.n2], 0, 1, rfl, by show 3 ≤ 10; decide, rfl⟩, ?_⟩
    repeat walk_at "st"
    exact q
  · cases k <;> (repeat walk_at "sl") <;> (refine ej_index ?_) <;> (repeat walk_at "sl") <;> (first | refine ⟨_, 0, _, rfl, by decide +kernel, by decide +kernel, rfl, by decide +kernel, idx_no (by decide +kernel), ?_⟩ | refine ⟨_, 1, _, rfl, by decide +kernel, by decide +kernel, rfl, by decide +kernel, idx_no (by decide +kernel), ?_⟩ | refine ⟨_, 2, _, rfl, by decide +kernel, by decide +kernel, rfl, by decide +kernel, idx_no (by decide +kernel), ?_⟩) <;> (repeat walk_at "st")
    · exact ⟨[_, _, _], _, rfl, ⟨l, c, .new, rfl, fc, rfl⟩, q⟩
    · exact ⟨[_, _, _], _, rfl, ⟨l, c, .zero, rfl, fc, rfl⟩, q⟩
    · exact ⟨[_, _, _], _, rfl, ⟨l, c, .one, rfl, fc, rfl⟩, q⟩
  · cases k <;> (repeat walk_at "sl") <;> (refine ej_index ?_) <;> (repeat walk_at "sl") <;> (first | refine ⟨_, 0, _, rfl, by decide +kernel, by decide +kernel, rfl, by decide +kernel, idx_no (by decide +kernel), ?_⟩ | refine ⟨_, 1, _, rfl, by decide +kernel, by decide +kernel, rfl, by decide +kernel, idx_no (by decide +kernel), ?_⟩ | refine ⟨_, 2, _, rfl, by decide +kernel, by decide +kernel, rfl, by decide +kernel, idx_no (by decide +kernel), ?_⟩) <;> (repeat walk_at "st")
    · refine ⟨[_, _, _], _, rfl, ⟨[c.n0, c.n1, c.n2], 0, -1, rfl, by show 3 ≤ 10; decide, rfl⟩, ?_⟩
      repeat walk_at "st"
      exact q
    · refine ⟨[_, _, _], _, rfl, ⟨[c.n0, c.n1, c.n2], 1, -1, rfl, by show 3 ≤ 10; decide, rfl⟩, ?_⟩
      repeat walk_at "st"
      exact q
    · refine ⟨[_, _, _], _, rfl, ⟨[c.n0, c.n1, c.n2], 2, -1, rfl, by show 3 ≤ 10; decide, rfl⟩, ?_⟩
      repeat walk_at "st"
      exact q
  · repeat walk_at "st"
    refine ⟨[_, _, _], _, rfl, ⟨l, c, b, rfl, fc, rfl⟩, ?_⟩
    exact q
  · repeat walk_at "st"
    refine ⟨[_, _, _], _, rfl, ⟨[c.b0, c.b1], (bI b).toNat, -1, by rw [bIn]; rfl, by show 2 ≤ 10; decide, rfl⟩, ?_⟩
    repeat walk_at "st"
    cases b <;> exact q
end
end HW

namespace HW
open PySem PySem.Spec PyProof.Rows L2 DL
section
variable {K : PySem.W.Frag} {P : Program} {w : World} {base : Heap} {mg : Str → Option Value}
local macro_rules | `(tactic| walk_at "sk") => `(tactic| with_reducible first | exact sk_new | exact sk_old | exact sk_send | exact sk_drop | exact sk_bring | exact sk_miss | exact sk_hear | exact sk_made | exact sk_twice | exact sk_lost | exact sk_zero | exact sk_one)
local macro_rules | `(tactic| walk_at "st") => `(tactic| first
  | ((with_reducible refine isVar ?_); first | refine ej_var rfl ?_)
  | ((with_reducible refine isTC ?_); first | with_reducible refine ej_int ?_ | with_reducible refine ej_str ?_ | with_reducible refine ej_non ?_ | with_reducible refine ej_bl ?_ | with_reducible refine ej_val ?_)
  | ((with_reducible refine isEJ ?_); first | with_reducible refine ej_op ?_ | with_reducible refine ej_call ?_ | with_reducible refine ej_cb ?_ | with_reducible refine ej_if ?_ | with_reducible refine ej_tup ?_ | with_reducible refine ej_andV ?_ | with_reducible refine ej_orV ?_ | with_reducible refine ej_notV ?_ | with_reducible refine ej_un ?_ | with_reducible refine ej_bits ?_ | with_reducible refine ej_dsS (by dsimp only [wipeD, List.map_cons, List.map_nil, List.set_cons_succ, List.set_cons_zero]; rfl) ?_)
  | ((with_reducible refine isAJ ?_); first | with_reducible refine aj_cons ?_ | with_reducible refine aj_nil ?_)
  | ((with_reducible refine isIx ?_); first | refine oj_ixT rfl ?_ | refine oj_ixL rfl ?_ | refine oj_ixM (by first | assumption | exact put_same _ _ _) rfl ?_)
  | ((with_reducible refine isOJ ?_); first | with_reducible refine oj_I0i ?_ | with_reducible refine oj_I0b ?_ | with_reducible refine oj_eqi ?_ | with_reducible refine oj_nei ?_ | with_reducible refine oj_eqb ?_ | with_reducible refine oj_eqsT (by walk_at "sk") ?_ | refine oj_eqsF (by walk_at "sk") (by walk_at "sk") (by decide +kernel) ?_ | with_reducible refine oj_isNone ?_ | with_reducible refine oj_notNone ?_ | with_reducible refine oj_eq_nil ?_ | with_reducible refine oj_ne_nil ?_ | refine oj_ninD (b := true) (by decide +kernel) (by decide +kernel) (by decide +kernel) ?_ | refine oj_ninD (b := false) (by decide +kernel) (by decide +kernel) (by decide +kernel) ?_)
  | ((with_reducible refine isTJ ?_); first | with_reducible refine tj_test ?_ | with_reducible refine tj_B ?_ | with_reducible refine tj_and ?_ | with_reducible refine tj_or ?_ | with_reducible refine tj_not ?_ | with_reducible refine tj_yes ?_ | with_reducible refine tj_dsS (by dsimp only [wipeD, List.map_cons, List.map_nil, List.set_cons_succ, List.set_cons_zero]; rfl) ?_)
  | ((with_reducible refine isSJ ?_); first | with_reducible refine sj_dsS (by dsimp only [wipeD, List.map_cons, List.map_nil, List.set_cons_succ, List.set_cons_zero]; rfl) ?_ | with_reducible refine sj_seq ?_ | with_reducible refine sj_set ?_ | with_reducible refine sj_ret ?_ | with_reducible refine sj_if ?_ | with_reducible refine sj_drop ?_ | with_reducible refine sj_par ?_ | with_reducible refine sj_par3 ?_ | with_reducible refine sj_asg ?_ | with_reducible refine sj_next ?_)
  | ((with_reducible refine isCJ ?_); first | with_reducible refine cj_isi_ib ?_ | refine cj_isi_same rfl ?_ | with_reducible refine cj_lenL ?_ | with_reducible refine cj_lenT ?_ | with_reducible refine cj_int ?_ | with_reducible refine cj_intb ?_ | with_reducible refine cj_max ?_ | with_reducible refine cj_min ?_)
  | ((with_reducible refine isGJ ?_); first | with_reducible refine gj_name ?_ | refine gj_tup rfl ?_ | refine gj_unl rfl ?_)
  | ((with_reducible refine isGs ?_); first | refine gsj_cons ?_ | refine gsj_nil ?_)
  | ((with_reducible refine isLJ ?_); first | with_reducible refine lj_name (by decide) ?_ | refine lj_tup rfl ?_)
  | ((with_reducible refine isLs ?_); first | refine lsj_cons ?_ | refine lsj_nil ?_)
  | ((with_reducible refine isIJ ?_); first | with_reducible refine ij_list ?_ | with_reducible refine ij_tup ?_ | with_reducible refine ij_range1 ?_ | with_reducible refine ij_range2 ?_ | with_reducible refine ij_enum ?_ | with_reducible refine ij_enumT ?_ | with_reducible refine ij_zip ?_)
  | with_reducible refine uj_neg ?_ | with_reducible refine fj_A rfl ?_ | with_reducible refine ⟨_, rfl, ?_⟩ | with_reducible refine ⟨_, _, rfl, ?_⟩ | with_reducible refine ⟨_, _, _, rfl, ?_⟩ | refine brT rfl ?_ | refine brF rfl ?_ | refine ⟨[_, _], rfl, Nat.le_of_ble_eq_true rfl, ?_⟩ | refine ⟨[_, _, _], rfl, Nat.le_of_ble_eq_true rfl, ?_⟩ | refine ⟨[_, _, _, _], rfl, Nat.le_of_ble_eq_true rfl, ?_⟩ | refine ⟨[], rfl, Nat.le_of_ble_eq_true rfl, ?_⟩ | refine ⟨[_], rfl, Nat.le_of_ble_eq_true rfl, ?_⟩ | refine ⟨[_, _, _, _, _], rfl, Nat.le_of_ble_eq_true rfl, ?_⟩)
local macro_rules | `(tactic| walk_at "sl") => `(tactic| first | walk_at "st" | with_reducible refine ej_lst ?_)
local macro_rules | `(tactic| walk_at "sd") => `(tactic| first | walk_at "st" | dsimp only [sortS, lotD])

def evCp (k : Cp) (n : Int) : List Ev := if 0 < n then [.bring k, .drop k] else []
def evBk (b : Bool) (n : Int) : List Ev := if 0 < n then [.hear b, .miss b] else []
def evs (l : Lk) (c : Ct) : List Ev := evCp .new c.n0 ++ evCp .one c.n2 ++ evCp .zero c.n1 ++ evBk false c.b0 ++ evBk true c.b1 ++ if c.n0 + c.n1 + c.n2 < l.c then [.send] else []
theorem evCp_len (k : Cp) (n : Int) : (evCp k n).length ≤ 2 := by unfold evCp; split <;> simp
theorem evBk_len (b : Bool) (n : Int) : (evBk b n).length ≤ 2 := by unfold evBk; split <;> simp
theorem evs_poss {l : Lk} {c : Ct} {e : Ev} (h : e ∈ evs l c) : Poss l c e := by
  unfold evs evCp evBk at h
  simp only [List.mem_append] at h
  rcases h with ((((h | h) | h) | h) | h) | h
  all_goals split at h
  all_goals simp only [List.mem_cons, List.not_mem_nil, or_false] at h
  all_goals rcases h with rfl | rfl
  all_goals assumption
def T_events : TF := fun xs M Q => ∃ (l : Lk) (c : Ct), xs = [.dat l.D, .dat c.D] ∧ Fits l c ∧ ∀ es : List Ev, es.Perm (evs l c) → Q (.dat (.list (es.map Ev.D))) M
def evI (M : Ms) (l : Lk) (c : Ct) (es : List Ev) (ds : Ds) (M' : Ms) : Prop := ∃ (k : Nat) (x5 x6 x7 : Option D), ds = [some (.dat l.D), some (.dat c.D), some (.cel k), some (.dat c.th), some (.dat c.bk), x5, x6, x7] ∧ M k = none ∧ Ext M M' ∧ M' k = some (es.map Ev.D)
def evP (c : Ct) : Nat → List Ev
  | 0 => []
  | 1 => evCp .new c.n0
  | 2 => evCp .new c.n0 ++ evCp .one c.n2
  | _ => evCp .new c.n0 ++ evCp .one c.n2 ++ evCp .zero c.n1
def evR (c : Ct) : Nat → List Ev
  | 0 => evP c 3
  | 1 => evP c 3 ++ evBk false c.b0
  | _ => evP c 3 ++ evBk false c.b0 ++ evBk true c.b1
theorem evP_len (c : Ct) (i : Nat) : (evP c i).length ≤ 6 := by
  have h1 := evCp_len .new c.n0
  have h2 := evCp_len .one c.n2
  have h3 := evCp_len .zero c.n1
  match i with
  | 0 => simp [evP]
  | 1 => simp [evP]; omega
  | 2 => simp [evP]; omega
  | _ + 3 => simp [evP]; omega
theorem evR_len (c : Ct) (i : Nat) : (evR c i).length ≤ 10 := by
  have h0 := evP_len c 3
  have h1 := evBk_len false c.b0
  have h2 := evBk_len true c.b1
  match i with
  | 0 => show (evP c 3).length ≤ 10; omega
  | 1 => show (evP c 3 ++ evBk false c.b0).length ≤ 10; rw [List.length_append]; omega
  | _ + 2 => show (evP c 3 ++ evBk false c.b0 ++ evBk true c.b1).length ≤ 10; rw [List.length_append, List.length_append]; omega
theorem ev_cat {M M' : Ms} {k j : Nat} {es fs : List Ev} {l : Lk} {c : Ct} {x5 x6 x7 : Option D} {N : Ds → Ms → Prop} (hn : M k = none) (he : Ext M M') (hk : M' k = some (es.map Ev.D)) (hj : M' j = none) (hz : es.length ≤ 10) (hy : fs.length ≤ 10)
    (q : ∀ ds M', evI M l c (es ++ fs) ds M' → N ds M') : OJ K rCat (.cel k) (.cel j) (put M' j (fs.map Ev.D)) fun d M2 => N [some (.dat l.D), some (.dat c.D), some d, some (.dat c.th), some (.dat c.bk), x5, x6, x7] M2 := by
  have ne : k ≠ j := fun z => by rw [z, hj] at hk; cases hk
  refine oj_cat (by rw [put_ne ne]; exact hk) (put_same _ _ _) (by rw [List.length_map, List.length_map]; omega) fun k2 hk2 => q _ _ ⟨k2, _, _, _, rfl, ?_, ?_, ?_⟩
  · exact (he.put (he.none hj)).none hk2
  · exact (he.put (he.none hj)).put ((he.put (he.none hj)).none hk2)
  · rw [put_same, List.map_append]
theorem c__law_events (T : Top K mg) : Cal P w K mg base 1 "_law_events" (spA K 2 T_events) := by
  refine T.d__law_events.cal sc_law_events rfl fun f cdv A outer s H E hr => ⟨_, (pss_cons (ps_par3 (i := 2) (j := 3) (l := 4) rfl sc_law_events.nd rfl rfl rfl (by decide) (by decide) (by decide) rfl rfl rfl (pa_cons (pe_lst pa_nil) (pa_cons (pe_ix (ixK K) (pv 1) pe_int (fun _ _ => rfl)) (pa_cons (pe_ix (ixK K) (pv 1) pe_int (fun _ _ => rfl)) pa_nil))) rfl)
      (pss_cons (ps_for PassesOwn.never rfl (pi_enumK K (by rfl) T.b_enumerate (pa_cons (pe_lst (pa_cons pe_str (pa_cons pe_str (pa_cons pe_str pa_nil)))) pa_nil)) (pg_tupK K (n := 2) rfl (pgs_cons (pg_name (i := 5) sc_law_events.nd rfl (.inl rfl)) (pgs_cons (pg_name (i := 6) sc_law_events.nd rfl (.inl rfl)) pgs_nil))) (pss_one (ps_if (pt_cmpR op_gt (pe_ix (ixK K) (pv 3) (pe_ix (ixK K) (pe_lst (pa_cons pe_int (pa_cons pe_int (pa_cons pe_int pa_nil)))) (pv 5) (fun _ _ => rfl)) (fun _ _ => rfl)) pe_int (nomark _)) (pss_one (ps_set (i := 2) sc_law_events.nd rfl (.inl rfl) (pe_op op_cat (pv 2) (pe_lst (pa_cons (pe_tup (pa_cons pe_str (pa_cons (pv 6) pa_nil))) (pa_cons (pe_tup (pa_cons pe_str (pa_cons (pv 6) pa_nil))) pa_nil)))))) pss_nil)))
      (pss_cons (ps_for PassesOwn.never rfl (pi_listK K (pe_lst (pa_cons pe_int (pa_cons pe_int pa_nil)))) (pg_name (i := 7) sc_law_events.nd rfl (.inl rfl)) (pss_one (ps_if (pt_cmpR op_gt (pe_ix (ixK K) (pv 4) (pv 7) (fun _ _ => rfl)) pe_int (nomark _)) (pss_one (ps_set (i := 2) sc_law_events.nd rfl (.inl rfl) (pe_op op_cat (pv 2) (pe_lst (pa_cons (pe_tup (pa_cons pe_str (pa_cons (pv 7) pa_nil))) (pa_cons (pe_tup (pa_cons pe_str (pa_cons (pv 7) pa_nil))) pa_nil)))))) pss_nil)))
      (pss_cons (ps_if (pt_cmpR op_lt (pe_callB (sumK K rfl) (by rfl) T.b_sum bt_sum (pa_cons (pv 3) pa_nil)) (pe_ix (ixK K) (pv 0) pe_int (fun _ _ => rfl)) (nomark _)) (pss_one (ps_expr (pe_appK K (pv 2) (pa_cons (pe_tup (pa_cons pe_str pa_nil)) pa_nil)))) pss_nil)
      (pss_one (ps_ret (pe_callB (sortedK K) (by rfl) T.b_sorted bt_sorted (pa_cons (pv 2) pa_nil)))))))), ?_⟩
  rintro xs M Q - ⟨l, c, rfl, fc, q⟩
  refine sj_ds (ds' := [some _, some _, none, none, none, none, none, none]) rfl ?_
  refine sj_cut (evI M l c []) ?_ ?_
  · refine sj_par3 (aj_cons (ej_lstM (aj_nil ⟨[], rfl, by decide, fun k hk => ?_⟩)))
    repeat walk_at "st"
    exact ⟨k, none, none, none, rfl, hk, (Ext.refl M).put hk, put_same _ _ _⟩
  rintro ds1 M1 ⟨k1, y5, y6, y7, rfl, hn1, he1, hk1⟩
  refine sj_cut (evI M l c (evP c 3)) ?_ ?_
  · refine sj_for ?_
    repeat walk_at "sl"
    refine ⟨fun i ds' M' => evI M l c (evP c i) ds' M', ⟨k1, y5, y6, y7, rfl, hn1, he1, hk1⟩, fun i d ds' M' hd hI => ?_, fun ds' M' h => h⟩
    obtain ⟨k, x5, x6, x7, rfl, hn, he, hk⟩ := hI
    have hz := evP_len c i
    obtain ⟨x, hx, rfl⟩ := enums_get hd
    have hi : i < 3 := by
      rcases Nat.lt_or_ge i 3 with h | h
      · exact h
      · rw [List.getElem?_eq_none (by simpa using h)] at hx
        cases hx
    have hc : i = 0 ∨ i = 1 ∨ i = 2 := by omega
    rcases hc with rfl | rfl | rfl
    · obtain rfl := Option.some.inj hx
      repeat walk_at "sl"
      refine brD (fun h => ?_) (fun h => ?_)
      · refine sj_set (ej_op (ej_var rfl (ej_lstM ?_)))
        repeat walk_at "st"
        intro j hj
        refine ev_cat (N := evI M l c (evP c 1)) (fs := [.bring .new, .drop .new]) hn he hk hj (by omega) (by decide) fun ds M' h' => ?_
        have e : evP c 1 = evP c 0 ++ [.bring .new, .drop .new] := by simp [evP, evCp, h]
        rw [e]
        exact h'
      · have e : evP c 1 = evP c 0 := by simp [evP, evCp, h]
        refine sj_next ?_
        show evI M l c (evP c 1) _ _
        rw [e]
        exact ⟨k, _, _, _, rfl, hn, he, hk⟩
    · obtain rfl := Option.some.inj hx
      repeat walk_at "sl"
      refine brD (fun h => ?_) (fun h => ?_)
      · refine sj_set (ej_op (ej_var rfl (ej_lstM ?_)))
        repeat walk_at "st"
        intro j hj
        refine ev_cat (N := evI M l c (evP c 2)) (fs := [.bring .one, .drop .one]) hn he hk hj (by omega) (by decide) fun ds M' h' => ?_
        have e : evP c 2 = evP c 1 ++ [.bring .one, .drop .one] := by simp [evP, evCp, h]
        rw [e]
        exact h'
      · have e : evP c 2 = evP c 1 := by simp [evP, evCp, h]
        refine sj_next ?_
        show evI M l c (evP c 2) _ _
        rw [e]
        exact ⟨k, _, _, _, rfl, hn, he, hk⟩
    · obtain rfl := Option.some.inj hx
      repeat walk_at "sl"
      refine brD (fun h => ?_) (fun h => ?_)
      · refine sj_set (ej_op (ej_var rfl (ej_lstM ?_)))
        repeat walk_at "st"
        intro j hj
        refine ev_cat (N := evI M l c (evP c 3)) (fs := [.bring .zero, .drop .zero]) hn he hk hj (by omega) (by decide) fun ds M' h' => ?_
        have e : evP c 3 = evP c 2 ++ [.bring .zero, .drop .zero] := by simp [evP, evCp, h]
        rw [e]
        exact h'
      · have e : evP c 3 = evP c 2 := by simp [evP, evCp, h]
        refine sj_next ?_
        show evI M l c (evP c 3) _ _
        rw [e]
        exact ⟨k, _, _, _, rfl, hn, he, hk⟩
  rintro ds2 M2 ⟨k2, z5, z6, z7, rfl, hn2, he2, hk2⟩
  refine sj_cut (evI M l c (evR c 2)) ?_ ?_
  · refine sj_for ?_
    repeat walk_at "sl"
    refine ⟨fun i ds' M' => evI M l c (evR c i) ds' M', ⟨k2, z5, z6, z7, rfl, hn2, he2, hk2⟩, fun i d ds' M' hd hI => ?_, fun ds' M' h => h⟩
    obtain ⟨k, x5, x6, x7, rfl, hn, he, hk⟩ := hI
    have hz := evR_len c i
    have hi : i < 2 := by
      rcases Nat.lt_or_ge i 2 with h | h
      · exact h
      · rw [List.getElem?_eq_none (by simpa using h)] at hd
        cases hd
    have hc : i = 0 ∨ i = 1 := by omega
    rcases hc with rfl | rfl
    · obtain rfl := Option.some.inj hd
      repeat walk_at "sl"
      refine brD (fun h => ?_) (fun h => ?_)
      · refine sj_set (ej_op (ej_var rfl (ej_lstM ?_)))
        repeat walk_at "st"
        intro j hj
        refine ev_cat (N := evI M l c (evR c 1)) (fs := [.hear false, .miss false]) hn he hk hj (by omega) (by decide) fun ds M' h' => ?_
        have e : evR c 1 = evR c 0 ++ [.hear false, .miss false] := by simp [evR, evBk, h]
        rw [e]
        exact h'
      · have e : evR c 1 = evR c 0 := by simp [evR, evBk, h]
        refine sj_next ?_
        show evI M l c (evR c 1) _ _
        rw [e]
        exact ⟨k, _, _, _, rfl, hn, he, hk⟩
    · obtain rfl := Option.some.inj hd
      repeat walk_at "sl"
      refine brD (fun h => ?_) (fun h => ?_)
      · refine sj_set (ej_op (ej_var rfl (ej_lstM ?_)))
        repeat walk_at "st"
        intro j hj
        refine ev_cat (N := evI M l c (evR c 2)) (fs := [.hear true, .miss true]) hn he hk hj (by omega) (by decide) fun ds M' h' => ?_
        have e : evR c 2 = evR c 1 ++ [.hear true, .miss true] := by simp [evR, evBk, h]
        rw [e]
        exact h'
      · have e : evR c 2 = evR c 1 := by simp [evR, evBk, h]
        refine sj_next ?_
        show evI M l c (evR c 2) _ _
        rw [e]
        exact ⟨k, _, _, _, rfl, hn, he, hk⟩
  rintro ds3 M3 ⟨k3, w5, w6, w7, rfl, hn3, he3, hk3⟩
  have hz := evR_len c 2
  refine sj_cut (evI M l c (evs l c)) ?_ ?_
  · repeat walk_at "st"
    refine cj_sumT (ns := [c.n0, c.n1, c.n2]) ?_
    repeat walk_at "st"
    have es : [c.n0, c.n1, c.n2].sum = c.n0 + c.n1 + c.n2 := by simp [Int.add_assoc]
    rw [es]
    refine brD (fun h => ?_) (fun h => ?_)
    · refine sj_drop (ej_append (ej_var rfl ⟨k3, rfl, by rw [hk3]; rfl, ?_⟩))
      repeat walk_at "st"
      refine ⟨_, _, rfl, hk3, by rw [List.length_map]; omega, ?_⟩
      have e : evs l c = evR c 2 ++ [.send] := by simp [evs, evR, evP, h]
      rw [e]
      exact ⟨k3, _, _, _, rfl, hn3, he3.put hn3, by rw [put_same, List.map_append]; rfl⟩
    · have e : evs l c = evR c 2 := by simp [evs, evR, evP, h]
      refine sj_next ?_
      rw [e]
      exact ⟨k3, _, _, _, rfl, hn3, he3, hk3⟩
  rintro ds4 M4 ⟨k4, v5, v6, v7, rfl, hn4, he4, hk4⟩
  refine sj_ret (ej_weak (ej_freeze (ej_cb (aj_cons (ej_var rfl (aj_nil ?_))))))
  refine cj_sortedE hk4 fun es hp k5 hk5 => ⟨k5, _, rfl, put_same _ _ _, M, ?_, q es hp⟩
  rw [del_put hk5]
  exact he4
end
end HW

namespace HW
open PySem PySem.Spec PyProof.Rows L2 DL
section
variable {K : PySem.W.Frag} {P : Program} {w : World} {base : Heap} {mg : Str → Option Value}
local macro_rules | `(tactic| walk_at "sk") => `(tactic| with_reducible first | exact sk_new | exact sk_old | exact sk_send | exact sk_drop | exact sk_bring | exact sk_miss | exact sk_hear | exact sk_made | exact sk_twice | exact sk_lost | exact sk_zero | exact sk_one)
local macro_rules | `(tactic| walk_at "st") => `(tactic| first
  | ((with_reducible refine isVar ?_); first | refine ej_var rfl ?_)
  | ((with_reducible refine isTC ?_); first | with_reducible refine ej_int ?_ | with_reducible refine ej_str ?_ | with_reducible refine ej_non ?_ | with_reducible refine ej_bl ?_ | with_reducible refine ej_val ?_)
  | ((with_reducible refine isEJ ?_); first | with_reducible refine ej_op ?_ | with_reducible refine ej_call ?_ | with_reducible refine ej_cb ?_ | with_reducible refine ej_if ?_ | with_reducible refine ej_tup ?_ | with_reducible refine ej_andV ?_ | with_reducible refine ej_orV ?_ | with_reducible refine ej_notV ?_ | with_reducible refine ej_un ?_ | with_reducible refine ej_bits ?_ | with_reducible refine ej_dsS (by dsimp only [wipeD, List.map_cons, List.map_nil, List.set_cons_succ, List.set_cons_zero]; rfl) ?_)
  | ((with_reducible refine isAJ ?_); first | with_reducible refine aj_cons ?_ | with_reducible refine aj_nil ?_)
  | ((with_reducible refine isIx ?_); first | refine oj_ixT rfl ?_ | refine oj_ixL rfl ?_ | refine oj_ixM (by first | assumption | exact put_same _ _ _) rfl ?_)
  | ((with_reducible refine isOJ ?_); first | with_reducible refine oj_I0i ?_ | with_reducible refine oj_I0b ?_ | with_reducible refine oj_eqi ?_ | with_reducible refine oj_nei ?_ | with_reducible refine oj_eqb ?_ | with_reducible refine oj_eqsT (by walk_at "sk") ?_ | refine oj_eqsF (by walk_at "sk") (by walk_at "sk") (by decide +kernel) ?_ | with_reducible refine oj_isNone ?_ | with_reducible refine oj_notNone ?_ | with_reducible refine oj_eq_nil ?_ | with_reducible refine oj_ne_nil ?_ | refine oj_ninD (b := true) (by decide +kernel) (by decide +kernel) (by decide +kernel) ?_ | refine oj_ninD (b := false) (by decide +kernel) (by decide +kernel) (by decide +kernel) ?_)
  | ((with_reducible refine isTJ ?_); first | with_reducible refine tj_test ?_ | with_reducible refine tj_B ?_ | with_reducible refine tj_and ?_ | with_reducible refine tj_or ?_ | with_reducible refine tj_not ?_ | with_reducible refine tj_yes ?_ | with_reducible refine tj_dsS (by dsimp only [wipeD, List.map_cons, List.map_nil, List.set_cons_succ, List.set_cons_zero]; rfl) ?_)
  | ((with_reducible refine isSJ ?_); first | with_reducible refine sj_dsS (by dsimp only [wipeD, List.map_cons, List.map_nil, List.set_cons_succ, List.set_cons_zero]; rfl) ?_ | with_reducible refine sj_seq ?_ | with_reducible refine sj_set ?_ | with_reducible refine sj_ret ?_ | with_reducible refine sj_if ?_ | with_reducible refine sj_drop ?_ | with_reducible refine sj_par ?_ | with_reducible refine sj_par3 ?_ | with_reducible refine sj_asg ?_ | with_reducible refine sj_next ?_)
  | ((with_reducible refine isCJ ?_); first | with_reducible refine cj_isi_ib ?_ | refine cj_isi_same rfl ?_ | with_reducible refine cj_lenL ?_ | with_reducible refine cj_lenT ?_ | with_reducible refine cj_int ?_ | with_reducible refine cj_intb ?_ | with_reducible refine cj_max ?_ | with_reducible refine cj_min ?_)
  | ((with_reducible refine isGJ ?_); first | with_reducible refine gj_name ?_ | refine gj_tup rfl ?_ | refine gj_unl rfl ?_)
  | ((with_reducible refine isGs ?_); first | refine gsj_cons ?_ | refine gsj_nil ?_)
  | ((with_reducible refine isLJ ?_); first | with_reducible refine lj_name (by decide) ?_ | refine lj_tup rfl ?_)
  | ((with_reducible refine isLs ?_); first | refine lsj_cons ?_ | refine lsj_nil ?_)
  | ((with_reducible refine isIJ ?_); first | with_reducible refine ij_list ?_ | with_reducible refine ij_tup ?_ | with_reducible refine ij_range1 ?_ | with_reducible refine ij_range2 ?_ | with_reducible refine ij_enum ?_ | with_reducible refine ij_enumT ?_ | with_reducible refine ij_zip ?_)
  | with_reducible refine uj_neg ?_ | with_reducible refine fj_A rfl ?_ | with_reducible refine ⟨_, rfl, ?_⟩ | with_reducible refine ⟨_, _, rfl, ?_⟩ | with_reducible refine ⟨_, _, _, rfl, ?_⟩ | refine brT rfl ?_ | refine brF rfl ?_ | refine ⟨[_, _], rfl, Nat.le_of_ble_eq_true rfl, ?_⟩ | refine ⟨[_, _, _], rfl, Nat.le_of_ble_eq_true rfl, ?_⟩ | refine ⟨[_, _, _, _], rfl, Nat.le_of_ble_eq_true rfl, ?_⟩ | refine ⟨[], rfl, Nat.le_of_ble_eq_true rfl, ?_⟩ | refine ⟨[_], rfl, Nat.le_of_ble_eq_true rfl, ?_⟩ | refine ⟨[_, _, _, _, _], rfl, Nat.le_of_ble_eq_true rfl, ?_⟩)
local macro_rules | `(tactic| walk_at "sl") => `(tactic| first | walk_at "st" | with_reducible refine ej_lst ?_)
local macro_rules | `(tactic| walk_at "sd") => `(tactic| first | walk_at "st" | dsimp only [sortS, lotD])

theorem put_gk {M : Ms} {g k : Nat} {xs ys zs : List PyData} (h : k ≠ g) : put (put (put M g ys) k xs) g zs = put (put M g zs) k xs := by
  rw [put_comm h, put_put]
/-- the ways that are kept ahead of the pair (i, j) -/
structure WInv (h : Int) (i j : Int) (ws : List Wy) : Prop where
  len : ws.length ≤ 6
  ok : ∀ x ∈ ws, WyOk h x ∧ LkOk x.l
  asc : Asc ws
  below : ∀ x ∈ ws, x.a < i ∨ (x.a = i ∧ x.b < j)
theorem WInv.nil {h i j : Int} : WInv h i j [] := ⟨by decide, fun x hx => absurd hx (by simp), fun n x y hx _ => absurd hx (by simp), fun x hx => absurd hx (by simp)⟩
theorem WInv.skip {h i j : Int} {ws : List Wy} (v : WInv h i j ws) : WInv h i (j + 1) ws := ⟨v.len, v.ok, v.asc, fun x hx => by have := v.below x hx; omega⟩
theorem WInv.row {h i j : Int} {ws : List Wy} (v : WInv h i j ws) : WInv h (i + 1) 0 ws := ⟨v.len, v.ok, v.asc, fun x hx => by have := v.below x hx; omega⟩
theorem WInv.push {h i j : Int} {ws : List Wy} {l : Lk} (v : WInv h i j ws) (hl : ws.length < 6) (hi : 0 ≤ i) (hi' : i ≤ h - 1) (hj : 0 ≤ j) (hj' : j ≤ h - 1) (ne : i ≠ j) (ol : LkOk l) : WInv h i (j + 1) (ws ++ [⟨i, j, l⟩]) := by
  refine ⟨by simp; omega, fun x hx => ?_, fun n x y hx hy => ?_, fun x hx => ?_⟩
  · rcases List.mem_append.mp hx with hx | hx
    · exact v.ok x hx
    · obtain rfl := List.mem_singleton.mp hx
      exact ⟨⟨hi, hi', hj, hj', ne, ol.ok⟩, ol⟩
  · have hb := (List.getElem?_eq_some_iff.mp hy).1
    simp only [List.length_append, List.length_cons, List.length_nil] at hb
    rw [List.getElem?_append_left (by omega)] at hx
    rcases Nat.lt_or_ge (n + 1) ws.length with hn | hn
    · rw [List.getElem?_append_left hn] at hy
      exact v.asc n x y hx hy
    · rw [List.getElem?_append_right hn, show n + 1 - ws.length = 0 by omega] at hy
      obtain rfl := Option.some.inj hy
      exact v.below x (List.mem_of_getElem? hx)
  · rcases List.mem_append.mp hx with hx | hx
    · have := v.below x hx
      omega
    · obtain rfl := List.mem_singleton.mp hx
      dsimp only
      omega
structure NewWeb (h : Int) (ws : List Wy) : Prop where
  h2 : 2 ≤ h
  h4 : h ≤ 4
  web : WebOk h ws
  len : ws.length ≤ 6
  lk : ∀ x ∈ ws, LkOk x.l
theorem WInv.new {h i j : Int} {ws : List Wy} (v : WInv h i j ws) (h2 : 2 ≤ h) (h4 : h ≤ 4) : NewWeb h ws := ⟨h2, h4, ⟨by omega, fun x hx => (v.ok x hx).1, v.asc, by have := v.len; omega⟩, v.len, fun x hx => (v.ok x hx).2⟩
def T_web : TF := genT 330 (fun ps => ps = [.int 6]) (fun _ r => ∃ h ws, r = webD h ws ∧ NewWeb h ws)
theorem c__law_web (T : Top K mg) : Cal P w K mg base 4 "_law_web" (spA K 2 T_web) := by
  refine T.d__law_web.cal sc_law_web rfl fun f cdv A outer s H E hr => ⟨_, (pss_cons (ps_par (i := 2) (j := 3) rfl sc_law_web.nd rfl rfl (by decide) rfl rfl (pa_cons (pe_op op_add pe_int (pe_c (c__law_random (K := K) T) hr (by decide) (by rfl) (pa_cons (pv 0) (pa_cons pe_int pa_nil)))) (pa_cons (pe_lst pa_nil) pa_nil)) rfl)
      (pss_cons (ps_for PassesOwn.never rfl (pi_range1 (by rfl) T.b_range (pa_cons (pv 2) pa_nil)) (pg_name (i := 4) sc_law_web.nd rfl (.inl rfl)) (pss_one (ps_for PassesOwn.never rfl (pi_range1 (by rfl) T.b_range (pa_cons (pv 2) pa_nil)) (pg_name (i := 5) sc_law_web.nd rfl (.inl rfl)) (pss_one (ps_if (PW.pt (pw_and (pt_cmpR (neK K hr) (pv 4) (pv 5) (nomark _)) (pw_and (pt_cmpR op_lt (pe_callB (lenK K) (by rfl) T.b_len bt_len (pa_cons (pv 3) pa_nil)) (pv 1) (nomark _)) (pw_and1 (pt_cmpR (eqK K hr) (pe_c (c__law_random (K := K) T) hr (by decide) (by rfl) (pa_cons (pv 0) (pa_cons pe_int pa_nil))) pe_int (nomark _)))))) (pss_one (ps_expr (pe_appK K (pv 3) (pa_cons (pe_tup (pa_cons (pv 4) (pa_cons (pv 5) (pa_cons (pe_c (c__law_link (K := K) T) hr (by decide) (by rfl) (pa_cons (pv 0) (pa_cons pe_int pa_nil))) pa_nil)))) pa_nil)))) pss_nil)))))
      (pss_one (ps_ret (pe_tup (pa_cons (pv 2) (pa_cons (pv 3) pa_nil))))))), ?_⟩
  rintro xs M Q - ⟨g, ps, zs, n, rfl, hg, hz, hn, rfl, q⟩
  refine sj_ds (ds' := [some _, some _, none, none, none, none]) rfl ?_
  refine sj_seq (sj_par ?_)
  repeat walk_at "st"
  refine ⟨g, _, _, _, rfl, hg, hz, by omega, by decide, by decide, fun y0 h0 g0 a0 a1 => ?_⟩
  repeat walk_at "st"
  refine ej_lstM (aj_nil ⟨[], rfl, by decide, fun k hk => aj_nil ⟨_, _, rfl, ?_⟩⟩)
  have hkg : k ≠ g := fun e => by rw [e, put_same] at hk; cases hk
  generalize hh : 2 + h0 = h
  have h2 : 2 ≤ h := by omega
  have h4 : h ≤ 4 := by omega
  refine sj_seq (sj_for ?_)
  repeat walk_at "st"
  refine ⟨by omega, fun (i : Nat) ds' M' => ∃ (ws : List Wy) (ys : List PyData) (x4 x5 : Option D), GenOk (n + 4 + 80 * i) ys ∧ WInv h i 0 ws ∧ ds' = [some (.cel g), some (.dat (.int 6)), some (.dat (.int h)), some (.cel k), x4, x5] ∧ M' = put (put M g ys) k (ws.map Wy.D),
    ⟨[], y0, none, none, g0.mono (by omega), WInv.nil, rfl, rfl⟩, fun i d ds' M' hd hI => ?_, fun ds' M' hI => ?_⟩
  · obtain ⟨hi, rfl⟩ := rngI_get hd
    rw [Int.zero_add]
    obtain ⟨ws, ys, x4, x5, hg1, hw, rfl, rfl⟩ := hI
    refine gj_name (sj_for ?_)
    repeat walk_at "st"
    refine ⟨by omega, fun (j : Nat) ds' M' => ∃ (ws : List Wy) (ys : List PyData) (x5 : Option D), GenOk (n + 4 + 80 * i + 20 * j) ys ∧ WInv h i j ws ∧ ds' = [some (.cel g), some (.dat (.int 6)), some (.dat (.int h)), some (.cel k), some (.dat (.int i)), x5] ∧ M' = put (put M g ys) k (ws.map Wy.D),
      ⟨ws, ys, x5, hg1.mono (by omega), hw, rfl, rfl⟩, fun j d ds' M' hd hI => ?_, fun ds' M' hI => ?_⟩
    · obtain ⟨hj, rfl⟩ := rngI_get hd
      rw [Int.zero_add]
      obtain ⟨ws, ys, x5, hg1, hw, rfl, rfl⟩ := hI
      have keep : ∀ ys', GenOk (n + 4 + 80 * i + 20 * (j + 1)) ys' → ∃ (ws' : List Wy) (ys2 : List PyData) (x5 : Option D), GenOk (n + 4 + 80 * i + 20 * ((j + 1 : Nat) : Int)) ys2 ∧ WInv h i ((j + 1 : Nat) : Int) ws' ∧
          [some (D.cel g), some (.dat (.int 6)), some (.dat (.int h)), some (.cel k), some (.dat (.int i)), some (.dat (.int j))] = [some (.cel g), some (.dat (.int 6)), some (.dat (.int h)), some (.cel k), some (.dat (.int i)), x5] ∧ put (put M g ys') k (ws.map Wy.D) = put (put M g ys2) k (ws'.map Wy.D) := fun ys' h' => by
        refine ⟨ws, ys', _, ?_, ?_, rfl, rfl⟩
        · exact h'.mono (by omega)
        · exact hw.skip
      refine gj_name (sj_if ?_)
      repeat walk_at "st"
      refine brN (fun he => ?_) (fun he => ?_)
      · repeat walk_at "st"
        exact keep ys (hg1.mono (by omega))
      · repeat walk_at "st"
        refine cj_lenM (put_same _ _ _) ?_
        rw [List.length_map]
        repeat walk_at "st"
        refine brD (fun hl => ?_) (fun hl => ?_)
        · repeat walk_at "st"
          refine ⟨g, _, _, _, rfl, by rw [put_ne (Ne.symm hkg)]; exact put_same _ _ _, hg1, by omega, by decide, by decide, fun y1 r h1 r0 r1 => ?_⟩
          rw [put_gk hkg]
          repeat walk_at "st"
          refine brD (fun hr0 => ?_) (fun hr0 => ?_)
          · refine sj_drop (ej_append (ej_var rfl ⟨k, rfl, by rw [put_same]; rfl, ?_⟩))
            repeat walk_at "st"
            refine ⟨g, [_], _, _, rfl, by rw [put_ne (Ne.symm hkg)]; exact put_same _ _ _, h1, by omega, rfl, fun y2 r2 g2 hr2 => ?_⟩
            obtain ⟨lk, rfl, ol⟩ := hr2
            rw [put_gk hkg]
            repeat walk_at "st"
            refine ⟨_, _, rfl, put_same _ _ _, by rw [List.length_map]; omega, ?_⟩
            rw [put_put]
            refine ⟨ws ++ [(⟨i, j, lk⟩ : Wy)], y2, _, g2.mono (by omega), (by rw [show (((j + 1 : Nat)) : Int) = (j : Int) + 1 by omega]; exact hw.push (by omega) (by omega) (by omega) (by omega) (by omega) he ol), rfl, ?_⟩
            rw [List.map_append]
            rfl
          · repeat walk_at "st"
            exact keep y1 (h1.mono (by omega))
        · repeat walk_at "st"
          exact keep ys (hg1.mono (by omega))
    · obtain ⟨ws, ys, x5, hg1, hw, rfl, rfl⟩ := hI
      rw [rngI_length] at hg1
      exact ⟨ws, ys, _, _, hg1.mono (by omega), hw.row, rfl, rfl⟩
  · obtain ⟨ws, ys, x4, x5, hg1, hw, rfl, rfl⟩ := hI
    rw [rngI_length] at hg1
    refine sj_ret (ej_tup (aj_cons (ej_var rfl (aj_cons (ej_freeze (ej_var rfl ⟨k, _, rfl, put_same _ _ _, aj_nil ?_⟩))))))
    refine ⟨[_, _], rfl, Nat.le_of_ble_eq_true rfl, ?_⟩
    rw [del_put (by rw [put_ne hkg]; rw [put_ne hkg] at hk; exact hk)]
    exact q _ _ (hg1.mono (by omega)) ⟨h, ws, rfl, hw.new h2 h4⟩
end
end HW

namespace HW
open PySem PySem.Spec PyProof.Rows L2 DL
section
variable {K : PySem.W.Frag} {P : Program} {w : World} {base : Heap} {mg : Str → Option Value}
local macro_rules | `(tactic| walk_at "sk") => `(tactic| with_reducible first | exact sk_new | exact sk_old | exact sk_send | exact sk_drop | exact sk_bring | exact sk_miss | exact sk_hear | exact sk_made | exact sk_twice | exact sk_lost | exact sk_zero | exact sk_one)
local macro_rules | `(tactic| walk_at "st") => `(tactic| first
  | ((with_reducible refine isVar ?_); first | refine ej_var rfl ?_)
  | ((with_reducible refine isTC ?_); first | with_reducible refine ej_int ?_ | with_reducible refine ej_str ?_ | with_reducible refine ej_non ?_ | with_reducible refine ej_bl ?_ | with_reducible refine ej_val ?_)
  | ((with_reducible refine isEJ ?_); first | with_reducible refine ej_op ?_ | with_reducible refine ej_call ?_ | with_reducible refine ej_cb ?_ | with_reducible refine ej_if ?_ | with_reducible refine ej_tup ?_ | with_reducible refine ej_andV ?_ | with_reducible refine ej_orV ?_ | with_reducible refine ej_notV ?_ | with_reducible refine ej_un ?_ | with_reducible refine ej_bits ?_ | with_reducible refine ej_dsS (by dsimp only [wipeD, List.map_cons, List.map_nil, List.set_cons_succ, List.set_cons_zero]; rfl) ?_)
  | ((with_reducible refine isAJ ?_); first | with_reducible refine aj_cons ?_ | with_reducible refine aj_nil ?_)
  | ((with_reducible refine isIx ?_); first | refine oj_ixT rfl ?_ | refine oj_ixL rfl ?_ | refine oj_ixM (by first | assumption | exact put_same _ _ _) rfl ?_)
  | ((with_reducible refine isOJ ?_); first | with_reducible refine oj_I0i ?_ | with_reducible refine oj_I0b ?_ | with_reducible refine oj_eqi ?_ | with_reducible refine oj_nei ?_ | with_reducible refine oj_eqb ?_ | with_reducible refine oj_eqsT (by walk_at "sk") ?_ | refine oj_eqsF (by walk_at "sk") (by walk_at "sk") (by decide +kernel) ?_ | with_reducible refine oj_isNone ?_ | with_reducible refine oj_notNone ?_ | with_reducible refine oj_eq_nil ?_ | with_reducible refine oj_ne_nil ?_ | refine oj_ninD (b := true) (by decide +kernel) (by decide +kernel) (by decide +kernel) ?_ | refine oj_ninD (b := false) (by decide +kernel) (by decide +kernel) (by decide +kernel) ?_)
  | ((with_reducible refine isTJ ?_); first | with_reducible refine tj_test ?_ | with_reducible refine tj_B ?_ | with_reducible refine tj_and ?_ | with_reducible refine tj_or ?_ | with_reducible refine tj_not ?_ | with_reducible refine tj_yes ?_ | with_reducible refine tj_dsS (by dsimp only [wipeD, List.map_cons, List.map_nil, List.set_cons_succ, List.set_cons_zero]; rfl) ?_)
  | ((with_reducible refine isSJ ?_); first | with_reducible refine sj_dsS (by dsimp only [wipeD, List.map_cons, List.map_nil, List.set_cons_succ, List.set_cons_zero]; rfl) ?_ | with_reducible refine sj_seq ?_ | with_reducible refine sj_set ?_ | with_reducible refine sj_ret ?_ | with_reducible refine sj_if ?_ | with_reducible refine sj_drop ?_ | with_reducible refine sj_par ?_ | with_reducible refine sj_par3 ?_ | with_reducible refine sj_asg ?_ | with_reducible refine sj_next ?_)
  | ((with_reducible refine isCJ ?_); first | with_reducible refine cj_isi_ib ?_ | refine cj_isi_same rfl ?_ | with_reducible refine cj_lenL ?_ | with_reducible refine cj_lenT ?_ | with_reducible refine cj_int ?_ | with_reducible refine cj_intb ?_ | with_reducible refine cj_max ?_ | with_reducible refine cj_min ?_)
  | ((with_reducible refine isGJ ?_); first | with_reducible refine gj_name ?_ | refine gj_tup rfl ?_ | refine gj_unl rfl ?_)
  | ((with_reducible refine isGs ?_); first | refine gsj_cons ?_ | refine gsj_nil ?_)
  | ((with_reducible refine isLJ ?_); first | with_reducible refine lj_name (by decide) ?_ | refine lj_tup rfl ?_)
  | ((with_reducible refine isLs ?_); first | refine lsj_cons ?_ | refine lsj_nil ?_)
  | ((with_reducible refine isIJ ?_); first | with_reducible refine ij_list ?_ | with_reducible refine ij_tup ?_ | with_reducible refine ij_range1 ?_ | with_reducible refine ij_range2 ?_ | with_reducible refine ij_enum ?_ | with_reducible refine ij_enumT ?_ | with_reducible refine ij_zip ?_)
  | with_reducible refine uj_neg ?_ | with_reducible refine fj_A rfl ?_ | with_reducible refine ⟨_, rfl, ?_⟩ | with_reducible refine ⟨_, _, rfl, ?_⟩ | with_reducible refine ⟨_, _, _, rfl, ?_⟩ | refine brT rfl ?_ | refine brF rfl ?_ | refine ⟨[_, _], rfl, Nat.le_of_ble_eq_true rfl, ?_⟩ | refine ⟨[_, _, _], rfl, Nat.le_of_ble_eq_true rfl, ?_⟩ | refine ⟨[_, _, _, _], rfl, Nat.le_of_ble_eq_true rfl, ?_⟩ | refine ⟨[], rfl, Nat.le_of_ble_eq_true rfl, ?_⟩ | refine ⟨[_], rfl, Nat.le_of_ble_eq_true rfl, ?_⟩ | refine ⟨[_, _, _, _, _], rfl, Nat.le_of_ble_eq_true rfl, ?_⟩)
local macro_rules | `(tactic| walk_at "sl") => `(tactic| first | walk_at "st" | with_reducible refine ej_lst ?_)
local macro_rules | `(tactic| walk_at "sd") => `(tactic| first | walk_at "st" | dsimp only [sortS, lotD])

def T_web_contents : TF := fun xs M Q => ∃ (g : Nat) (h : Int) (ws : List Wy) (zs : List PyData) (n : Int), xs = [.cel g, .dat (webD h ws)] ∧ M g = some zs ∧ GenOk n zs ∧ n + 540 ≤ 900000 ∧ ws.length ≤ 6 ∧ (∀ x ∈ ws, LkOk x.l) ∧
  ∀ ys (cs : List Ct), GenOk (n + 540) ys → CsOk ws cs → Q (.dat (.list (cs.map Ct.D))) (put M g ys)
def cleanC (b : Int) : Ct := ⟨b, 0, 1 - b, none, false, 0, 0, 0, 0, 0⟩
theorem clean_fits {l : Lk} {b : Int} (hb : 0 ≤ b) (hb' : b < 2) (ol : l.Ok) : Fits l (cleanC b) := by
  obtain ⟨o1, o2, o3, o4⟩ := ol
  exact ⟨(by show b = 0 ∨ b = 1; omega), Int.le_refl 0, (by show (0 : Int) ≤ l.q - 1; omega), (by show 1 - b = 0 ∨ 1 - b = 1; omega), True.intro, Int.le_refl 0, Int.le_refl 0, Int.le_refl 0, (by show (0 : Int) + 0 + 0 ≤ l.c; omega), Int.le_refl 0, Int.le_refl 0, (by show (0 : Int) + 0 ≤ l.d; omega)⟩
/-- the contents of the first of the ways -/
structure CsTo (ws : List Wy) (i : Nat) (cs : List Ct) : Prop where
  len : cs.length = i
  fit : ∀ (j : Nat) (x : Wy) (c : Ct), ws[j]? = some x → cs[j]? = some c → Fits x.l c
theorem CsTo.push {ws : List Wy} {i : Nat} {cs : List Ct} {x : Wy} {c : Ct} (v : CsTo ws i cs) (hx : ws[i]? = some x) (f : Fits x.l c) : CsTo ws (i + 1) (cs ++ [c]) := by
  refine ⟨by rw [List.length_append, v.len]; rfl, fun j y e hy he => ?_⟩
  rcases Nat.lt_or_ge j cs.length with hj | hj
  · rw [List.getElem?_append_left hj] at he
    exact v.fit j y e hy he
  · have hb := (List.getElem?_eq_some_iff.mp he).1
    simp only [List.length_append, List.length_cons, List.length_nil] at hb
    rw [List.getElem?_append_right hj, show j - cs.length = 0 by omega] at he
    obtain rfl := Option.some.inj he
    rw [show j = i by have := v.len; omega, hx] at hy
    obtain rfl := Option.some.inj hy
    exact f
theorem c__law_web_contents (T : Top K mg) : Cal P w K mg base 5 "_law_web_contents" (spA K 2 T_web_contents) := by
  refine T.d__law_web_contents.cal sc_law_web_contents rfl fun f cdv A outer s H E hr => ⟨_, (pss_cons (ps_par (i := 2) (j := 3) rfl sc_law_web_contents.nd rfl rfl (by decide) rfl rfl (pa_cons (pe_cmpR (eqK K hr) (pe_c (c__law_random (K := K) T) hr (by decide) (by rfl) (pa_cons (pv 0) (pa_cons pe_int pa_nil))) pe_int (nomark _)) (pa_cons (pe_lst pa_nil) pa_nil)) rfl)
      (pss_cons (ps_for PassesOwn.never rfl (pi_listK K (pe_ix (ixK K) (pv 1) pe_int (fun _ _ => rfl))) (pg_tupK K (n := 3) rfl (pgs_cons (pg_name (i := 4) sc_law_web_contents.nd rfl (.inl rfl)) (pgs_cons (pg_name (i := 5) sc_law_web_contents.nd rfl (.inl rfl)) (pgs_cons (pg_name (i := 6) sc_law_web_contents.nd rfl (.inl rfl)) pgs_nil)))) (pss_cons (ps_set (i := 7) sc_law_web_contents.nd rfl (.inl rfl) (pe_c (c__law_random (K := K) T) hr (by decide) (by rfl) (pa_cons (pv 0) (pa_cons pe_int pa_nil))))
      (pss_one (ps_expr (pe_appK K (pv 3) (pa_cons (pe_ifExp (pt_val (pv 2)) (pe_tup (pa_cons (pe_tup (pa_cons (pv 7) (pa_cons pe_int pa_nil))) (pa_cons (pe_tup (pa_cons (pe_op op_sub pe_int (pv 7)) (pa_cons pe_non (pa_cons pe_bl pa_nil)))) (pa_cons (pe_tup (pa_cons pe_int (pa_cons pe_int (pa_cons pe_int pa_nil)))) (pa_cons (pe_tup (pa_cons pe_int (pa_cons pe_int pa_nil))) pa_nil))))) (pe_c (c__law_contents (K := K) T) hr (by decide) (by rfl) (pa_cons (pv 0) (pa_cons (pv 6) pa_nil)))) pa_nil))))))
      (pss_one (ps_ret (pv 3))))), ?_⟩
  rintro xs M Q - ⟨g, h, ws, zs, n, rfl, hg, hz, hn, h6, hok, q⟩
  refine sj_ds (ds' := [some _, some _, none, none, none, none, none, none]) rfl ?_
  refine sj_seq (sj_par ?_)
  repeat walk_at "st"
  refine ⟨g, _, _, _, rfl, hg, hz, by omega, by decide, by decide, fun y0 h0 g0 a0 a1 => ?_⟩
  repeat walk_at "st"
  refine ej_lstM (aj_nil ⟨[], rfl, by decide, fun k hk => aj_nil ⟨_, _, rfl, ?_⟩⟩)
  have hkg : k ≠ g := fun e => by rw [e, put_same] at hk; cases hk
  generalize decide (h0 = 0) = clean
  refine sj_seq (sj_for ?_)
  repeat walk_at "st"
  refine ⟨fun (i : Nat) ds' M' => ∃ (cs : List Ct) (ys : List PyData) (x4 x5 x6 x7 : Option D), GenOk (n + 4 + 88 * i) ys ∧ CsTo ws i cs ∧ ds' = [some (.cel g), some (.dat (webD h ws)), some (.dat (.bool clean)), some (.cel k), x4, x5, x6, x7] ∧ M' = put (put M g ys) k (cs.map Ct.D),
    ⟨[], y0, none, none, none, none, g0.mono (by omega), ⟨rfl, fun _ _ _ _ h => absurd h (by simp)⟩, rfl, rfl⟩, fun i d ds' M' hd hI => ?_, fun ds' M' hI => ?_⟩
  · obtain ⟨x, hx, rfl⟩ := map_get hd
    have hi : i < ws.length := (List.getElem?_eq_some_iff.mp hx).1
    have ox := hok x (List.mem_of_getElem? hx)
    obtain ⟨cs, ys, x4, x5, x6, x7, hg1, hw, rfl, rfl⟩ := hI
    refine gj_tup rfl (gsj_cons (gj_name (gsj_cons (gj_name (gsj_cons (gj_name (gsj_nil ?_)))))))
    repeat walk_at "st"
    refine ⟨g, _, _, _, rfl, by rw [put_ne (Ne.symm hkg)]; exact put_same _ _ _, hg1, by omega, by decide, by decide, fun y1 b h1 b0 b1 => ?_⟩
    rw [put_gk hkg]
    refine sj_drop (ej_append (ej_var rfl ⟨k, rfl, by rw [put_same]; rfl, ?_⟩))
    have hl := hw.len
    repeat walk_at "st"
    cases clean
    · repeat walk_at "st"
      refine ⟨g, _, _, _, rfl, by rw [put_ne (Ne.symm hkg)]; exact put_same _ _ _, h1, by omega, ox, fun y2 c g2 fc => ?_⟩
      rw [put_gk hkg]
      repeat walk_at "st"
      refine ⟨_, _, rfl, put_same _ _ _, by rw [List.length_map]; omega, ?_⟩
      rw [put_put]
      refine ⟨cs ++ [c], y2, _, _, _, _, g2.mono (by omega), hw.push hx fc, rfl, ?_⟩
      rw [List.map_append]
      rfl
    · repeat walk_at "st"
      refine ⟨_, _, rfl, put_same _ _ _, by rw [List.length_map]; omega, ?_⟩
      rw [put_put]
      refine ⟨cs ++ [cleanC b], y1, _, _, _, _, h1.mono (by omega), hw.push hx (clean_fits b0 b1 ox.ok), rfl, ?_⟩
      rw [List.map_append]
      rfl
  · obtain ⟨cs, ys, x4, x5, x6, x7, hg1, hw, rfl, rfl⟩ := hI
    rw [List.length_map] at hg1 hw
    refine sj_ret (ej_freeze (ej_var rfl ⟨k, _, rfl, put_same _ _ _, ?_⟩))
    rw [del_put (by rw [put_ne hkg]; rw [put_ne hkg] at hk; exact hk)]
    exact q _ _ (hg1.mono (by omega)) ⟨hw.len, hw.fit⟩
end
end HW

namespace HW
open PySem PySem.Spec PyProof.Rows L2 DL
section
variable {K : PySem.W.Frag} {P : Program} {w : World} {base : Heap} {mg : Str → Option Value}
theorem harmL_set {x : Wy} {c c' : Ct} : ∀ {i : Nat} {ws : List Wy} {cs : List Ct}, ws[i]? = some x → cs[i]? = some c → (harmL ws (cs.set i c')).sum = (harmL ws cs).sum - harm x.l c + harm x.l c'
  | _, [], _, h, _ => by simp at h
  | _, _ :: _, [], _, h => by simp at h
  | 0, y :: ws, e :: cs, h1, h2 => by
    simp at h1 h2
    subst h1
    subst h2
    show (harm y.l c' :: harmL ws cs).sum = (harm y.l e :: harmL ws cs).sum - harm y.l e + harm y.l c'
    rw [List.sum_cons, List.sum_cons]
    omega
  | i + 1, y :: ws, e :: cs, h1, h2 => by
    have h1' : ws[i]? = some x := by simpa using h1
    have h2' : cs[i]? = some c := by simpa using h2
    have ih := harmL_set (c' := c') h1' h2'
    show (harm y.l e :: harmL ws (cs.set i c')).sum = (harm y.l e :: harmL ws cs).sum - harm x.l c + harm x.l c'
    rw [List.sum_cons, List.sum_cons, ih]
    omega
abbrev St := Nat × Ev
def stD (p : St) : PyData := .tuple [.int (p.1 : Nat), p.2.D]
def step1 (ws : List Wy) (cs : List Ct) (p : St) : List Ct :=
  match ws[p.1]?, cs[p.1]? with
  | some x, some c => cs.set p.1 (behind x.l c p.2).1
  | _, _ => cs
theorem step1_eq {ws : List Wy} {cs : List Ct} {p : St} {x : Wy} {c : Ct} (h1 : ws[p.1]? = some x) (h2 : cs[p.1]? = some c) : step1 ws cs p = cs.set p.1 (behind x.l c p.2).1 := by
  unfold step1
  rw [h1, h2]
def after (ws : List Wy) (cs : List Ct) (r : List St) : List Ct := r.foldl (step1 ws) cs
theorem after_snoc {ws : List Wy} {cs : List Ct} {r : List St} {p : St} : after ws cs (r ++ [p]) = step1 ws (after ws cs r) p := by
  unfold after
  rw [List.foldl_append]
  rfl
structure Turn (ws : List Wy) (cs : List Ct) (p : St) (x : Wy) (c : Ct) : Prop where
  way : ws[p.1]? = some x
  ct : cs[p.1]? = some c
  ev : p.2 ∈ evs x.l c
def RunOk (ws : List Wy) (cs : List Ct) (r : List St) : Prop := ∀ n p, r[n]? = some p → ∃ x c, Turn ws (after ws cs (r.take n)) p x c
theorem RunOk.nil {ws : List Wy} {cs : List Ct} : RunOk ws cs [] := fun n p h => by simp at h
theorem RunOk.snoc {ws : List Wy} {cs : List Ct} {r : List St} {p : St} {x : Wy} {c : Ct} (h : RunOk ws cs r) (t : Turn ws (after ws cs r) p x c) : RunOk ws cs (r ++ [p]) := fun n q hq => by
  rcases Nat.lt_or_ge n r.length with hn | hn
  · rw [List.getElem?_append_left hn] at hq
    rw [List.take_append_of_le_length (by omega)]
    exact h n q hq
  · have hb := (List.getElem?_eq_some_iff.mp hq).1
    simp only [List.length_append, List.length_cons, List.length_nil] at hb
    rw [List.getElem?_append_right hn, show n - r.length = 0 by omega] at hq
    obtain rfl := Option.some.inj hq
    have e : (r ++ [p]).take n = r := by
      rw [show n = r.length by omega, List.take_left]
    rw [e]
    exact ⟨x, c, t⟩
theorem turn_ok {ws : List Wy} {cs : List Ct} {p : St} {x : Wy} {c : Ct} (ok : CsOk ws cs) (lk : ∀ x ∈ ws, LkOk x.l) (t : Turn ws cs p x c) : CsOk ws (step1 ws cs p) ∧ (harmL ws (step1 ws cs p)).sum + wr (behind x.l c p.2).2 ≤ (harmL ws cs).sum := by
  have f := ok.fit p.1 x c t.way t.ct
  obtain ⟨f', hh⟩ := step_ok (lk x (List.mem_of_getElem? t.way)).so f (evs_poss t.ev)
  rw [step1_eq t.way t.ct]
  refine ⟨⟨by rw [List.length_set, ok.len], fun i y e hy he => ?_⟩, ?_⟩
  · by_cases hi : p.1 = i
    · subst hi
      have hb : p.1 < cs.length := (List.getElem?_eq_some_iff.mp t.ct).1
      rw [List.getElem?_set_self hb] at he
      obtain rfl := Option.some.inj he
      rw [t.way] at hy
      obtain rfl := Option.some.inj hy
      exact f'
    · rw [List.getElem?_set_ne hi] at he
      exact ok.fit i y e hy he
  · rw [harmL_set t.way t.ct]
    omega
/-! ### data of little depth -/
def Shp (n : Nat) (d : PyData) : Prop := d.canLay0 = true ∧ d.depth ≤ n
theorem Shp.shaped {n : Nat} {d : PyData} (h : Shp n d) (hn : n ≤ 64) : SeqAt.shaped d = true := by
  unfold SeqAt.shaped
  rw [h.1, decide_eq_true (Nat.le_trans h.2 hn)]
  rfl
theorem shpAll {n : Nat} : ∀ {xs : List PyData}, (∀ x ∈ xs, Shp n x) → PyData.canLayAll0 xs = true ∧ PyData.depthAll xs ≤ n
  | [], _ => ⟨by rw [PyData.canLayAll0], by rw [PyData.depthAll]; exact Nat.zero_le _⟩
  | x :: xs, h => by
    obtain ⟨a, b⟩ := h x List.mem_cons_self
    obtain ⟨c, d⟩ := shpAll (xs := xs) fun y hy => h y (List.mem_cons_of_mem _ hy)
    refine ⟨by rw [PyData.canLayAll0, a, c]; rfl, by rw [PyData.depthAll]; omega⟩
theorem Shp.list {n : Nat} {xs : List PyData} (h : ∀ x ∈ xs, Shp n x) : Shp (n + 1) (.list xs) := by
  obtain ⟨a, b⟩ := shpAll h
  exact ⟨by rw [PyData.canLay0]; exact a, by rw [PyData.depth]; omega⟩
theorem Shp.tup {n : Nat} {xs : List PyData} (h : ∀ x ∈ xs, Shp n x) : Shp (n + 1) (.tuple xs) := by
  obtain ⟨a, b⟩ := shpAll h
  exact ⟨by rw [PyData.canLay0]; exact a, by rw [PyData.depth]; omega⟩
theorem Shp.int {n : Nat} {i : Int} : Shp n (.int i) := ⟨by rw [PyData.canLay0], by rw [PyData.depth]; exact Nat.zero_le _⟩
theorem Shp.bool {n : Nat} {i : Bool} : Shp n (.bool i) := ⟨by rw [PyData.canLay0], by rw [PyData.depth]; exact Nat.zero_le _⟩
theorem Shp.none {n : Nat} : Shp n .none := ⟨by rw [PyData.canLay0], by rw [PyData.depth]; exact Nat.zero_le _⟩
theorem Shp.str {n : Nat} {x : Str} (h : PyData.strOk x = true) : Shp n (.str x) := ⟨by rw [PyData.canLay0]; exact h, by rw [PyData.depth]; exact Nat.zero_le _⟩
theorem Cp.shp {n : Nat} (k : Cp) : Shp n (.str k.S) := by
  cases k
  · exact .str sk_new
  · exact .str sk_zero
  · exact .str sk_one
theorem Ev.shp (e : Ev) : Shp 1 e.D := by
  rcases e with _ | k | k | b | b <;> refine Shp.tup fun x hx => ?_
  · obtain rfl := List.mem_singleton.mp hx
    exact .str sk_send
  all_goals
    simp only [List.mem_cons, List.not_mem_nil, or_false] at hx
    rcases hx with rfl | rfl
  · exact .str sk_bring
  · exact k.shp
  · exact .str sk_drop
  · exact k.shp
  · exact .str sk_hear
  · exact .int
  · exact .str sk_miss
  · exact .int
theorem evs_shp (es : List Ev) : Shp 2 (.list (es.map Ev.D)) := Shp.list fun x hx => by
  obtain ⟨e, _, rfl⟩ := List.mem_map.mp hx
  exact e.shp
theorem Lk.shp (l : Lk) : Shp 1 l.D := Shp.tup fun x hx => by
  simp only [List.mem_cons, List.not_mem_nil, or_false] at hx
  rcases hx with rfl | rfl | rfl | rfl <;> exact .int
theorem Wy.shp (x : Wy) : Shp 2 x.D := Shp.tup fun y hy => by
  simp only [List.mem_cons, List.not_mem_nil, or_false] at hy
  rcases hy with rfl | rfl | rfl
  · exact .int
  · exact .int
  · exact x.l.shp
theorem ways_shp (ws : List Wy) : Shp 3 (.list (ws.map Wy.D)) := Shp.list fun x hx => by
  obtain ⟨e, _, rfl⟩ := List.mem_map.mp hx
  exact e.shp
theorem ints_shp (ns : List Int) : Shp 1 (.list (ns.map PyData.int)) := Shp.list fun x hx => by
  obtain ⟨e, _, rfl⟩ := List.mem_map.mp hx
  exact .int
end
end HW

namespace HW
open PySem PySem.Spec PyProof.Rows L2 DL
section
variable {K : PySem.W.Frag} {P : Program} {w : World} {base : Heap} {mg : Str → Option Value}
local macro_rules | `(tactic| walk_at "sk") => `(tactic| with_reducible first | exact sk_new | exact sk_old | exact sk_send | exact sk_drop | exact sk_bring | exact sk_miss | exact sk_hear | exact sk_made | exact sk_twice | exact sk_lost | exact sk_zero | exact sk_one)
local macro_rules | `(tactic| walk_at "st") => `(tactic| first
  | ((with_reducible refine isVar ?_); first | refine ej_var rfl ?_)
  | ((with_reducible refine isTC ?_); first | with_reducible refine ej_int ?_ | with_reducible refine ej_str ?_ | with_reducible refine ej_non ?_ | with_reducible refine ej_bl ?_ | with_reducible refine ej_val ?_)
  | ((with_reducible refine isEJ ?_); first | with_reducible refine ej_op ?_ | with_reducible refine ej_call ?_ | with_reducible refine ej_cb ?_ | with_reducible refine ej_if ?_ | with_reducible refine ej_tup ?_ | with_reducible refine ej_andV ?_ | with_reducible refine ej_orV ?_ | with_reducible refine ej_notV ?_ | with_reducible refine ej_un ?_ | with_reducible refine ej_bits ?_ | with_reducible refine ej_dsS (by dsimp only [wipeD, List.map_cons, List.map_nil, List.set_cons_succ, List.set_cons_zero]; rfl) ?_)
  | ((with_reducible refine isAJ ?_); first | with_reducible refine aj_cons ?_ | with_reducible refine aj_nil ?_)
  | ((with_reducible refine isIx ?_); first | refine oj_ixT rfl ?_ | refine oj_ixL rfl ?_ | refine oj_ixM (by first | assumption | exact put_same _ _ _) rfl ?_)
  | ((with_reducible refine isOJ ?_); first | with_reducible refine oj_I0i ?_ | with_reducible refine oj_I0b ?_ | with_reducible refine oj_eqi ?_ | with_reducible refine oj_nei ?_ | with_reducible refine oj_eqb ?_ | with_reducible refine oj_eqsT (by walk_at "sk") ?_ | refine oj_eqsF (by walk_at "sk") (by walk_at "sk") (by decide +kernel) ?_ | with_reducible refine oj_isNone ?_ | with_reducible refine oj_notNone ?_ | with_reducible refine oj_eq_nil ?_ | with_reducible refine oj_ne_nil ?_ | refine oj_ninD (b := true) (by decide +kernel) (by decide +kernel) (by decide +kernel) ?_ | refine oj_ninD (b := false) (by decide +kernel) (by decide +kernel) (by decide +kernel) ?_)
  | ((with_reducible refine isTJ ?_); first | with_reducible refine tj_test ?_ | with_reducible refine tj_B ?_ | with_reducible refine tj_and ?_ | with_reducible refine tj_or ?_ | with_reducible refine tj_not ?_ | with_reducible refine tj_yes ?_ | with_reducible refine tj_dsS (by dsimp only [wipeD, List.map_cons, List.map_nil, List.set_cons_succ, List.set_cons_zero]; rfl) ?_)
  | ((with_reducible refine isSJ ?_); first | with_reducible refine sj_dsS (by dsimp only [wipeD, List.map_cons, List.map_nil, List.set_cons_succ, List.set_cons_zero]; rfl) ?_ | with_reducible refine sj_seq ?_ | with_reducible refine sj_set ?_ | with_reducible refine sj_ret ?_ | with_reducible refine sj_if ?_ | with_reducible refine sj_drop ?_ | with_reducible refine sj_par ?_ | with_reducible refine sj_par3 ?_ | with_reducible refine sj_asg ?_ | with_reducible refine sj_next ?_)
  | ((with_reducible refine isCJ ?_); first | with_reducible refine cj_isi_ib ?_ | refine cj_isi_same rfl ?_ | with_reducible refine cj_lenL ?_ | with_reducible refine cj_lenT ?_ | with_reducible refine cj_int ?_ | with_reducible refine cj_intb ?_ | with_reducible refine cj_max ?_ | with_reducible refine cj_min ?_)
  | ((with_reducible refine isGJ ?_); first | with_reducible refine gj_name ?_ | refine gj_tup rfl ?_ | refine gj_unl rfl ?_)
  | ((with_reducible refine isGs ?_); first | refine gsj_cons ?_ | refine gsj_nil ?_)
  | ((with_reducible refine isLJ ?_); first | with_reducible refine lj_name (by decide) ?_ | refine lj_tup rfl ?_)
  | ((with_reducible refine isLs ?_); first | refine lsj_cons ?_ | refine lsj_nil ?_)
  | ((with_reducible refine isIJ ?_); first | with_reducible refine ij_list ?_ | with_reducible refine ij_tup ?_ | with_reducible refine ij_range1 ?_ | with_reducible refine ij_range2 ?_ | with_reducible refine ij_enum ?_ | with_reducible refine ij_enumT ?_ | with_reducible refine ij_zip ?_)
  | with_reducible refine uj_neg ?_ | with_reducible refine fj_A rfl ?_ | with_reducible refine ⟨_, rfl, ?_⟩ | with_reducible refine ⟨_, _, rfl, ?_⟩ | with_reducible refine ⟨_, _, _, rfl, ?_⟩ | refine brT rfl ?_ | refine brF rfl ?_ | refine ⟨[_, _], rfl, Nat.le_of_ble_eq_true rfl, ?_⟩ | refine ⟨[_, _, _], rfl, Nat.le_of_ble_eq_true rfl, ?_⟩ | refine ⟨[_, _, _, _], rfl, Nat.le_of_ble_eq_true rfl, ?_⟩ | refine ⟨[], rfl, Nat.le_of_ble_eq_true rfl, ?_⟩ | refine ⟨[_], rfl, Nat.le_of_ble_eq_true rfl, ?_⟩ | refine ⟨[_, _, _, _, _], rfl, Nat.le_of_ble_eq_true rfl, ?_⟩)
local macro_rules | `(tactic| walk_at "sl") => `(tactic| first | walk_at "st" | with_reducible refine ej_lst ?_)
local macro_rules | `(tactic| walk_at "sd") => `(tactic| first | walk_at "st" | dsimp only [sortS, lotD])

/-- the generator, what is here, what is found; and the rest as it was -/
structure Mem3 (M : Ms) (g kh kf : Nat) (a b c : List PyData) (M' : Ms) : Prop where
  cg : M' g = some a
  ch : M' kh = some b
  cf : M' kf = some c
  ext : ∀ i xs, i ≠ g → M i = some xs → M' i = some xs
structure Dis (M : Ms) (g kh kf : Nat) : Prop where
  hg : kh ≠ g
  fg : kf ≠ g
  hf : kh ≠ kf
  nh : M kh = none
  nf : M kf = none
section
variable {M M' : Ms} {g kh kf : Nat} {a b c : List PyData}
theorem Mem3.putg (m : Mem3 M g kh kf a b c M') (d : Dis M g kh kf) (a' : List PyData) : Mem3 M g kh kf a' b c (put M' g a') :=
  ⟨put_same _ _ _, by rw [put_ne d.hg]; exact m.ch, by rw [put_ne d.fg]; exact m.cf, fun i xs hi h => by rw [put_ne hi]; exact m.ext i xs hi h⟩
theorem Mem3.puth (m : Mem3 M g kh kf a b c M') (d : Dis M g kh kf) (b' : List PyData) : Mem3 M g kh kf a b' c (put M' kh b') :=
  ⟨by rw [put_ne (Ne.symm d.hg)]; exact m.cg, put_same _ _ _, by rw [put_ne (Ne.symm d.hf)]; exact m.cf, fun i xs hi h => by
    have ne : i ≠ kh := fun e => by rw [e, d.nh] at h; cases h
    rw [put_ne ne]
    exact m.ext i xs hi h⟩
theorem Mem3.putf (m : Mem3 M g kh kf a b c M') (d : Dis M g kh kf) (c' : List PyData) : Mem3 M g kh kf a b c' (put M' kf c') :=
  ⟨by rw [put_ne (Ne.symm d.fg)]; exact m.cg, by rw [put_ne d.hf]; exact m.ch, put_same _ _ _, fun i xs hi h => by
    have ne : i ≠ kf := fun e => by rw [e, d.nf] at h; cases h
    rw [put_ne ne]
    exact m.ext i xs hi h⟩
theorem ne_fresh {M' : Ms} {i k : Nat} {xs : List PyData} (h : M' i = some xs) (hk : M' k = none) : i ≠ k := fun e => by rw [e, hk] at h; cases h
/-- one more cell -/
theorem Mem3.putk (m : Mem3 M g kh kf a b c M') {k : Nat} (hk : k ≠ g ∧ k ≠ kh ∧ k ≠ kf ∧ M k = none) (x : List PyData) : Mem3 M g kh kf a b c (put M' k x) :=
  ⟨by rw [put_ne (Ne.symm hk.1)]; exact m.cg, by rw [put_ne (Ne.symm hk.2.1)]; exact m.ch, by rw [put_ne (Ne.symm hk.2.2.1)]; exact m.cf, fun i xs hi h => by
    have ne : i ≠ k := fun e => by rw [e, hk.2.2.2] at h; cases h
    rw [put_ne ne]
    exact m.ext i xs hi h⟩
theorem Mem3.delk (m : Mem3 M g kh kf a b c M') {k : Nat} (hk : k ≠ g ∧ k ≠ kh ∧ k ≠ kf ∧ M k = none) : Mem3 M g kh kf a b c (del M' k) :=
  ⟨by rw [del_ne (Ne.symm hk.1)]; exact m.cg, by rw [del_ne (Ne.symm hk.2.1)]; exact m.ch, by rw [del_ne (Ne.symm hk.2.2.1)]; exact m.cf, fun i xs hi h => by
    have ne : i ≠ k := fun e => by rw [e, hk.2.2.2] at h; cases h
    rw [del_ne ne]
    exact m.ext i xs hi h⟩
theorem Mem3.fresh (m : Mem3 M g kh kf a b c M') {k : Nat} (hk : M' k = none) : k ≠ g ∧ k ≠ kh ∧ k ≠ kf ∧ M k = none := by
  have h1 : k ≠ g := Ne.symm (ne_fresh m.cg hk)
  refine ⟨h1, Ne.symm (ne_fresh m.ch hk), Ne.symm (ne_fresh m.cf hk), ?_⟩
  cases e : M k with
  | none => rfl
  | some xs => rw [m.ext k xs h1 e] at hk; cases hk
theorem Mem3.out (m : Mem3 M g kh kf a b c M') (d : Dis M g kh kf) : Ext (put M g a) (del M' kf) := fun i xs h => by
  by_cases hi : i = g
  · subst hi
    rw [put_same] at h
    rw [del_ne (Ne.symm d.fg), m.cg]
    exact h
  · rw [put_ne hi] at h
    have ne : i ≠ kf := fun e => by rw [e, d.nf] at h; cases h
    rw [del_ne ne]
    exact m.ext i xs hi h
end
theorem ixNn {n j : Nat} (hj : j < n) : ixN n (j : Int) = some j := by
  unfold ixN
  rw [if_pos (by omega), if_pos (by omega)]
  rfl
def T_web_run : TF := fun xs M Q => ∃ (g : Nat) (h : Int) (ws : List Wy) (cs : List Ct) (zs : List PyData) (n : Int), xs = [.cel g, .dat (webD h ws), .dat (.list (cs.map Ct.D)), .dat (.int 60)] ∧ M g = some zs ∧ GenOk n zs ∧ n + 3200 ≤ 900000 ∧
  ws.length ≤ 6 ∧ (∀ x ∈ ws, LkOk x.l) ∧ CsOk ws cs ∧ ∀ ys (r : List St), GenOk (n + 3200) ys → RunOk ws cs r → r.length ≤ 60 → Q (.dat (.list (r.map stD))) (put M g ys)
theorem evs_len (l : Lk) (c : Ct) : (evs l c).length ≤ 11 := by
  have h := evR_len c 2
  have e : evs l c = evR c 2 ++ if c.n0 + c.n1 + c.n2 < l.c then [.send] else [] := by simp [evs, evR, evP]
  rw [e, List.length_append]
  split <;> simp <;> omega
theorem c__law_web_run (T : Top K mg) : Cal P w K mg base 4 "_law_web_run" (spA K 4 T_web_run) := by
  refine T.d__law_web_run.cal sc_law_web_run rfl fun f cdv A outer s H E hr => ⟨_, (pss_cons (ps_par (i := 4) (j := 5) rfl sc_law_web_run.nd rfl rfl (by decide) rfl rfl (pa_cons (pe_callTy (lstK K) (by rfl) T.b_list bt_list (pa_cons (pv 2) pa_nil)) (pa_cons (pe_lst pa_nil) pa_nil)) rfl)
      (pss_cons (ps_for PassesOwn.never rfl (pi_range1 (by rfl) T.b_range (pa_cons (pe_ifExp (pt_cmpR (neK K hr) (pe_ix (ixK K) (pv 1) pe_int (fun _ _ => rfl)) (pe_lst pa_nil) (nomark _)) (pe_c (c__law_random (K := K) T) hr (by decide) (by rfl) (pa_cons (pv 0) (pa_cons (pe_op op_add (pv 3) pe_int) pa_nil))) pe_int) pa_nil)) (pg_name (i := 6) sc_law_web_run.nd rfl (.inl rfl)) (pss_cons (ps_set (i := 7) sc_law_web_run.nd rfl (.inl rfl) (pe_c (c__law_random (K := K) T) hr (by decide) (by rfl) (pa_cons (pv 0) (pa_cons (pe_callB (lenK K) (by rfl) T.b_len bt_len (pa_cons (pe_ix (ixK K) (pv 1) pe_int (fun _ _ => rfl)) pa_nil)) pa_nil))))
      (pss_cons (ps_set (i := 8) sc_law_web_run.nd rfl (.inl rfl) (pe_ix (ixK K) (pe_ix (ixK K) (pe_ix (ixK K) (pv 1) pe_int (fun _ _ => rfl)) (pv 7) (fun _ _ => rfl)) pe_int (fun _ _ => rfl)))
      (pss_cons (ps_setLc (i := 9) (own := [("_law_event", 10)]) rfl sc_law_web_run.nd rfl rfl (sw_true rfl rfl rfl (by decide +kernel)) (pi_listK K (pe_c (c__law_events (K := K) T) hr (by decide) (by rfl) (pa_cons (pv 8) (pa_cons (pe_ix (ixK K) (pv 4) (pv 7) (fun _ _ => rfl)) pa_nil)))) (blkOk_by (N := N_law_web_run) (sc := defScope s_law_web_run) (by decide +kernel)) (fun _ _ _ _ _ => (pg_name (i := 10) sc_law_web_run.nd rfl (by first | exact .inl rfl | exact .inr rfl))) (fun _ _ _ _ _ => (pts_one (PW.pt (pw_or (pt_cmpR (ninK K hr) (pe_ix (ixK K) (pv 10) pe_int (fun _ _ => rfl)) (pe_lst (pa_cons pe_str (pa_cons pe_str pa_nil))) rfl) (pw_or1 (pt_cmpR (eqK K hr) (pe_c (c__law_random (K := K) T) hr (by decide) (by rfl) (pa_cons (pv 0) (pa_cons pe_int pa_nil))) pe_int (nomark _))))))) (fun _ _ _ _ _ => (pv 10)))
      (pss_one (ps_if (pt_cmpR (neK K hr) (pv 9) (pe_lst pa_nil) (nomark _)) (pss_cons (ps_set (i := 10) sc_law_web_run.nd rfl (.inl rfl) (pe_ix (ixK K) (pv 9) (pe_c (c__law_random (K := K) T) hr (by decide) (by rfl) (pa_cons (pv 0) (pa_cons (pe_callB (lenK K) (by rfl) T.b_len bt_len (pa_cons (pv 9) pa_nil)) pa_nil))) (fun _ _ => rfl)))
      (pss_cons (ps_asg (pe_ix (ixK K) (pe_c (c__law_behind (K := K) T) hr (by decide) (by rfl) (pa_cons (pv 8) (pa_cons (pe_ix (ixK K) (pv 4) (pv 7) (fun _ _ => rfl)) (pa_cons (pv 10) pa_nil)))) pe_int (fun _ _ => rfl)) (pg_sub (pv 4) (pv 7) set_list))
      (pss_one (ps_expr (pe_appK K (pv 5) (pa_cons (pe_tup (pa_cons (pv 7) (pa_cons (pv 10) pa_nil))) pa_nil)))))) pss_nil))))))
      (pss_one (ps_ret (pv 5))))), ?_⟩
  rintro xs M Q - ⟨g, h, ws, cs, zs, n, rfl, hg, hz, hn, h6, hok, kcs, q⟩
  refine sj_ds (ds' := [some _, some _, some _, some _, none, none, none, none, none, none, none]) rfl ?_
  have shw := (ways_shp ws).shaped (by decide)
  refine sj_seq (sj_par ?_)
  refine aj_cons (ej_cb (aj_cons (ej_var rfl (aj_nil (cj_listL fun kh hkh => ?_)))))
  refine aj_cons (ej_lstM (aj_nil ⟨[], rfl, by decide, fun kf hkf => aj_nil ⟨_, _, rfl, ?_⟩⟩))
  have hfh : kh ≠ kf := ne_fresh (put_same _ _ _) hkf
  have hkf' : M kf = none := by rw [put_ne (Ne.symm hfh)] at hkf; exact hkf
  have dis : Dis M g kh kf := ⟨Ne.symm (ne_fresh hg hkh), Ne.symm (ne_fresh hg hkf'), hfh, hkh, hkf'⟩
  have m0 : Mem3 M g kh kf zs (cs.map Ct.D) [] (put (put M kh (cs.map Ct.D)) kf []) := by
    refine ⟨?_, ?_, put_same _ _ _, fun i xs hi h => ?_⟩
    · rw [put_ne (Ne.symm dis.fg), put_ne (Ne.symm dis.hg)]
      exact hg
    · rw [put_ne dis.hf]
      exact put_same _ _ _
    · rw [put_ne (ne_fresh h hkf'), put_ne (ne_fresh h hkh)]
      exact h
  generalize put (put M kh (cs.map Ct.D)) kf [] = M0 at m0
  refine sj_seq (sj_for (ij_range1 (aj_cons (EJ.imp (Q := fun d M1 => ∃ (t : Int) (ys : List PyData), d = .dat (.int t) ∧ 0 ≤ t ∧ t ≤ 60 ∧ (ws = [] → t = 0) ∧ GenOk (n + 4) ys ∧ Mem3 M g kh kf ys (cs.map Ct.D) [] M1) ?_ fun d M1 hd => ?_))))
  · repeat walk_at "sl"
    refine oj_ne_lnil shw ?_
    rcases ws with _ | ⟨w0, ws⟩
    · repeat walk_at "st"
      exact ⟨0, zs, rfl, by decide, by decide, fun _ => rfl, hz.mono (by omega), m0⟩
    · repeat walk_at "st"
      refine ⟨g, _, _, _, rfl, m0.cg, hz, by omega, by decide, by decide, fun y0 t g0 a0 a1 => ?_⟩
      exact ⟨t, y0, rfl, a0, by omega, (fun e => nomatch e), g0, m0.putg dis _⟩
  obtain ⟨t, y0, rfl, t0, t1, te, g0, m1⟩ := hd
  refine aj_nil ⟨t, rfl, by omega, fun (i : Nat) ds' M' => ∃ (r : List St) (ys : List PyData) (x6 x7 x8 x9 x10 : Option D), RunOk ws cs r ∧ r.length ≤ i ∧ CsOk ws (after ws cs r) ∧ GenOk (n + 4 + 52 * i) ys ∧ Mem3 M g kh kf ys ((after ws cs r).map Ct.D) (r.map stD) M' ∧
    ds' = [some (.cel g), some (.dat (webD h ws)), some (.dat (.list (cs.map Ct.D))), some (.dat (.int 60)), some (.cel kh), some (.cel kf), x6, x7, x8, x9, x10],
    ⟨[], y0, _, _, _, _, _, RunOk.nil, Nat.zero_le _, kcs, g0.mono (by omega), m1, rfl⟩, fun i d ds' M' hd hI => ?_, fun ds' M' hI => ?_⟩
  · obtain ⟨hi, rfl⟩ := rngI_get hd
    obtain ⟨r, ys, x6, x7, x8, x9, x10, hr1, hrl, kc, hg1, m2, rfl⟩ := hI
    have hne : 1 ≤ ws.length := by
      rcases ws with _ | ⟨w0, ws⟩
      · have := te rfl
        omega
      · simp
    refine gj_name (sj_seq (sj_set ?_))
    repeat walk_at "st"
    rw [List.length_map]
    refine ⟨g, _, _, _, rfl, m2.cg, hg1, by omega, by omega, by omega, fun y1 b g1 b0 b1 => ?_⟩
    have m3 := m2.putg dis y1
    generalize put M' g y1 = M3 at m3
    obtain ⟨j, rfl⟩ := Int.eq_ofNat_of_zero_le b0
    have hj : j < ws.length := by omega
    obtain ⟨x, hx⟩ : ∃ x, ws[j]? = some x := ⟨_, List.getElem?_eq_getElem hj⟩
    obtain ⟨c, hc, fc⟩ := kc.at hx
    refine sj_seq (sj_set ?_)
    repeat walk_at "st"
    refine oj_ixL (atI_nat (get_map hx)) ?_
    repeat walk_at "st"
    refine EJ.imp (Q := fun d M1 => ∃ (fs : List Ev) (ys : List PyData), d = .dat (.list (fs.map Ev.D)) ∧ (∀ e ∈ fs, e ∈ evs x.l c) ∧ fs.length ≤ 11 ∧ GenOk (n + 4 + 52 * i + 48) ys ∧ Mem3 M g kh kf ys ((after ws cs r).map Ct.D) (r.map stD) M1) ?_ fun d M1 hd => ?_
    · refine ej_freeze (ej_lc ?_)
      repeat walk_at "st"
      refine oj_ixM m3.ch (atI_nat (get_map hc)) ?_
      repeat walk_at "st"
      refine ⟨x.l, c, rfl, fc, fun es hp => ⟨_, rfl, fun k hk => ?_⟩⟩
      have fr := m3.fresh hk
      have he : es.length ≤ 11 := by
        rw [hp.length_eq]
        exact evs_len _ _
      refine ⟨fun a M' => ∃ (fs : List Ev) (ys : List PyData), (∀ e ∈ fs, e ∈ evs x.l c) ∧ fs.length ≤ a ∧ GenOk (n + 4 + 52 * i + 4 + 4 * a) ys ∧ Mem3 M g kh kf ys ((after ws cs r).map Ct.D) (r.map stD) M' ∧ M' k = some (fs.map Ev.D),
        ⟨[], y1, (fun e h => absurd h (by simp)), Nat.zero_le _, g1.mono (by omega), m3.putk fr _, put_same _ _ _⟩, fun a d M' hd hI => ?_, fun M' hI => ?_⟩
      · obtain ⟨e, hea, rfl⟩ := map_get hd
        have hin : e ∈ evs x.l c := hp.mem_iff.mp (List.mem_of_getElem? hea)
        have ha : a < es.length := (List.getElem?_eq_some_iff.mp hea).1
        obtain ⟨fs, y2, hfs, hfl, g2, m4, hk2⟩ := hI
        refine lj_name (by decide) ?_
        have go : ∀ (M5 : Ms) (y5 : List PyData), GenOk (n + 4 + 52 * i + 4 + 4 * ((a + 1 : Nat) : Int)) y5 → Mem3 M g kh kf y5 ((after ws cs r).map Ct.D) (r.map stD) M5 → M5 k = some (fs.map Ev.D) →
            ∃ (z : PyData) (acc : List PyData), D.dat e.D = .dat z ∧ M5 k = some acc ∧ acc.length < 100000 ∧ ∃ (fs : List Ev) (ys : List PyData), (∀ e ∈ fs, e ∈ evs x.l c) ∧ fs.length ≤ a + 1 ∧ GenOk (n + 4 + 52 * i + 4 + 4 * ((a + 1 : Nat) : Int)) ys ∧ Mem3 M g kh kf ys ((after ws cs r).map Ct.D) (r.map stD) (put M5 k (acc ++ [z])) ∧ (put M5 k (acc ++ [z])) k = some (fs.map Ev.D) := fun M5 y5 g5 m5 hk5 => by
          refine ⟨_, _, rfl, hk5, by rw [List.length_map]; omega, fs ++ [e], y5, fun e' he' => ?_, by simp; omega, g5, m5.putk fr _, by rw [put_same, List.map_append]; rfl⟩
          rcases List.mem_append.mp he' with he' | he'
          · exact hfs e' he'
          · obtain rfl := List.mem_singleton.mp he'
            exact hin
        have no : ∀ (M5 : Ms) (y5 : List PyData), GenOk (n + 4 + 52 * i + 4 + 4 * ((a + 1 : Nat) : Int)) y5 → Mem3 M g kh kf y5 ((after ws cs r).map Ct.D) (r.map stD) M5 → M5 k = some (fs.map Ev.D) →
            ∃ (fs : List Ev) (ys : List PyData), (∀ e ∈ fs, e ∈ evs x.l c) ∧ fs.length ≤ a + 1 ∧ GenOk (n + 4 + 52 * i + 4 + 4 * ((a + 1 : Nat) : Int)) ys ∧ Mem3 M g kh kf ys ((after ws cs r).map Ct.D) (r.map stD) M5 ∧ M5 k = some (fs.map Ev.D) := fun M5 y5 g5 m5 hk5 => ⟨fs, y5, hfs, by omega, g5, m5, hk5⟩
        have rnd : ∀ (y3 : List PyData), (put M' g y3) k = some (fs.map Ev.D) := fun y3 => by
          rw [put_ne fr.1]
          exact hk2
        rcases e with _ | kk | kk | b | b
        · repeat walk_at "sl"
          exact go M' y2 (g2.mono (by omega)) m4 hk2
        · repeat walk_at "sl"
          exact go M' y2 (g2.mono (by omega)) m4 hk2
        · repeat walk_at "sl"
          refine ⟨g, _, _, _, rfl, m4.cg, g2, by omega, by decide, by decide, fun y3 v g3 v0 v1 => ?_⟩
          repeat walk_at "st"
          refine brD (fun hv => ?_) (fun hv => ?_)
          · repeat walk_at "st"
            exact go _ y3 (g3.mono (by omega)) (m4.putg dis _) (rnd _)
          · exact no _ y3 (g3.mono (by omega)) (m4.putg dis _) (rnd _)
        · repeat walk_at "sl"
          exact go M' y2 (g2.mono (by omega)) m4 hk2
        · repeat walk_at "sl"
          refine ⟨g, _, _, _, rfl, m4.cg, g2, by omega, by decide, by decide, fun y3 v g3 v0 v1 => ?_⟩
          repeat walk_at "st"
          refine brD (fun hv => ?_) (fun hv => ?_)
          · repeat walk_at "st"
            exact go _ y3 (g3.mono (by omega)) (m4.putg dis _) (rnd _)
          · exact no _ y3 (g3.mono (by omega)) (m4.putg dis _) (rnd _)
      · obtain ⟨fs, y2, hfs, hfl, g2, m4, hk2⟩ := hI
        rw [List.length_map] at hfl g2
        exact ⟨k, _, rfl, hk2, fs, y2, rfl, hfs, by omega, g2.mono (by omega), m4.delk fr⟩
    obtain ⟨fs, y2, rfl, hfs, hfl, g2, m4⟩ := hd
    refine sj_if ?_
    repeat walk_at "sl"
    refine oj_ne_lnil ((evs_shp fs).shaped (by decide)) ?_
    rcases fs with _ | ⟨e0, fs⟩
    · repeat walk_at "st"
      exact ⟨r, y2, _, _, _, _, _, hr1, by omega, kc, g2.mono (by omega), m4, rfl⟩
    · repeat walk_at "st"
      have hl1 : ((e0 :: fs).map Ev.D).length = (e0 :: fs).length := List.length_map _
      have hl2 : 1 ≤ (e0 :: fs).length := by simp
      refine ⟨g, _, _, _, rfl, m4.cg, g2, by omega, by omega, by omega, fun y3 v g3 v0 v1 => ?_⟩
      obtain ⟨a, rfl⟩ := Int.eq_ofNat_of_zero_le v0
      obtain ⟨e, he⟩ : ∃ e, (e0 :: fs)[a]? = some e := ⟨_, List.getElem?_eq_getElem (by omega)⟩
      have hin := hfs e (List.mem_of_getElem? he)
      refine oj_ixL (atI_nat (get_map he)) ?_
      have m5 := m4.putg dis y3
      generalize put M1 g y3 = M5 at m5 ⊢
      repeat walk_at "st"
      refine oj_ixM m5.ch (atI_nat (get_map hc)) ?_
      repeat walk_at "st"
      refine ⟨[_, _, _], _, rfl, ⟨x.l, c, e, rfl, fc, rfl⟩, ?_⟩
      repeat walk_at "st"
      have tn : Turn ws (after ws cs r) (j, e) x c := ⟨hx, hc, hin⟩
      refine gj_sub (ej_var rfl (ej_var rfl ⟨kh, _, _, j, rfl, rfl, m5.ch, ?_, ?_⟩))
      · exact ixNn (by rw [List.length_map, kc.len]; exact hj)
      have m6 := m5.puth dis (((after ws cs r).map Ct.D).set j (behind x.l c e).1.D)
      generalize put M5 kh _ = M6 at m6 ⊢
      refine sj_drop (ej_append (ej_var rfl ⟨kf, rfl, by rw [m6.cf]; rfl, ?_⟩))
      repeat walk_at "st"
      refine ⟨_, _, rfl, m6.cf, by rw [List.length_map]; omega, ?_⟩
      have m7 := m6.putf dis (r.map stD ++ [stD (j, e)])
      obtain ⟨kc2, _⟩ := turn_ok kc hok tn
      refine ⟨r ++ [(j, e)], y3, _, _, _, _, _, hr1.snoc tn, by simp; omega, by rw [after_snoc]; exact kc2, g3.mono (by omega), ?_, rfl⟩
      rw [after_snoc, step1_eq tn.way tn.ct, List.map_append, List.map_set]
      exact m7
  · obtain ⟨r, ys, x6, x7, x8, x9, x10, hr1, hrl, kc, hg1, m2, rfl⟩ := hI
    rw [rngI_length] at hg1 hrl
    refine sj_ret (ej_weak (ej_freeze (ej_var rfl ⟨kf, _, rfl, m2.cf, _, m2.out dis, q _ _ (hg1.mono (by omega)) hr1 (by omega)⟩)))
end
end HW

namespace HW
open PySem PySem.Spec PyProof.Rows L2 DL
section
variable {K : PySem.W.Frag} {P : Program} {w : World} {base : Heap} {mg : Str → Option Value}
local macro_rules | `(tactic| walk_at "sk") => `(tactic| with_reducible first | exact sk_new | exact sk_old | exact sk_send | exact sk_drop | exact sk_bring | exact sk_miss | exact sk_hear | exact sk_made | exact sk_twice | exact sk_lost | exact sk_zero | exact sk_one)
local macro_rules | `(tactic| walk_at "st") => `(tactic| first
  | ((with_reducible refine isVar ?_); first | refine ej_var rfl ?_)
  | ((with_reducible refine isTC ?_); first | with_reducible refine ej_int ?_ | with_reducible refine ej_str ?_ | with_reducible refine ej_non ?_ | with_reducible refine ej_bl ?_ | with_reducible refine ej_val ?_)
  | ((with_reducible refine isEJ ?_); first | with_reducible refine ej_op ?_ | with_reducible refine ej_call ?_ | with_reducible refine ej_cb ?_ | with_reducible refine ej_if ?_ | with_reducible refine ej_tup ?_ | with_reducible refine ej_andV ?_ | with_reducible refine ej_orV ?_ | with_reducible refine ej_notV ?_ | with_reducible refine ej_un ?_ | with_reducible refine ej_bits ?_ | with_reducible refine ej_dsS (by dsimp only [wipeD, List.map_cons, List.map_nil, List.set_cons_succ, List.set_cons_zero]; rfl) ?_)
  | ((with_reducible refine isAJ ?_); first | with_reducible refine aj_cons ?_ | with_reducible refine aj_nil ?_)
  | ((with_reducible refine isIx ?_); first | refine oj_ixT rfl ?_ | refine oj_ixL rfl ?_ | refine oj_ixM (by first | assumption | exact put_same _ _ _) rfl ?_)
  | ((with_reducible refine isOJ ?_); first | with_reducible refine oj_I0i ?_ | with_reducible refine oj_I0b ?_ | with_reducible refine oj_eqi ?_ | with_reducible refine oj_nei ?_ | with_reducible refine oj_eqb ?_ | with_reducible refine oj_eqsT (by walk_at "sk") ?_ | refine oj_eqsF (by walk_at "sk") (by walk_at "sk") (by decide +kernel) ?_ | with_reducible refine oj_isNone ?_ | with_reducible refine oj_notNone ?_ | with_reducible refine oj_eq_nil ?_ | with_reducible refine oj_ne_nil ?_ | refine oj_ninD (b := true) (by decide +kernel) (by decide +kernel) (by decide +kernel) ?_ | refine oj_ninD (b := false) (by decide +kernel) (by decide +kernel) (by decide +kernel) ?_)
  | ((with_reducible refine isTJ ?_); first | with_reducible refine tj_test ?_ | with_reducible refine tj_B ?_ | with_reducible refine tj_and ?_ | with_reducible refine tj_or ?_ | with_reducible refine tj_not ?_ | with_reducible refine tj_yes ?_ | with_reducible refine tj_dsS (by dsimp only [wipeD, List.map_cons, List.map_nil, List.set_cons_succ, List.set_cons_zero]; rfl) ?_)
  | ((with_reducible refine isSJ ?_); first | with_reducible refine sj_dsS (by dsimp only [wipeD, List.map_cons, List.map_nil, List.set_cons_succ, List.set_cons_zero]; rfl) ?_ | with_reducible refine sj_seq ?_ | with_reducible refine sj_set ?_ | with_reducible refine sj_ret ?_ | with_reducible refine sj_if ?_ | with_reducible refine sj_drop ?_ | with_reducible refine sj_par ?_ | with_reducible refine sj_par3 ?_ | with_reducible refine sj_asg ?_ | with_reducible refine sj_next ?_)
  | ((with_reducible refine isCJ ?_); first | with_reducible refine cj_isi_ib ?_ | refine cj_isi_same rfl ?_ | with_reducible refine cj_lenL ?_ | with_reducible refine cj_lenT ?_ | with_reducible refine cj_int ?_ | with_reducible refine cj_intb ?_ | with_reducible refine cj_max ?_ | with_reducible refine cj_min ?_)
  | ((with_reducible refine isGJ ?_); first | with_reducible refine gj_name ?_ | refine gj_tup rfl ?_ | refine gj_unl rfl ?_)
  | ((with_reducible refine isGs ?_); first | refine gsj_cons ?_ | refine gsj_nil ?_)
  | ((with_reducible refine isLJ ?_); first | with_reducible refine lj_name (by decide) ?_ | refine lj_tup rfl ?_)
  | ((with_reducible refine isLs ?_); first | refine lsj_cons ?_ | refine lsj_nil ?_)
  | ((with_reducible refine isIJ ?_); first | with_reducible refine ij_list ?_ | with_reducible refine ij_tup ?_ | with_reducible refine ij_range1 ?_ | with_reducible refine ij_range2 ?_ | with_reducible refine ij_enum ?_ | with_reducible refine ij_enumT ?_ | with_reducible refine ij_zip ?_)
  | with_reducible refine uj_neg ?_ | with_reducible refine fj_A rfl ?_ | with_reducible refine ⟨_, rfl, ?_⟩ | with_reducible refine ⟨_, _, rfl, ?_⟩ | with_reducible refine ⟨_, _, _, rfl, ?_⟩ | refine brT rfl ?_ | refine brF rfl ?_ | refine ⟨[_, _], rfl, Nat.le_of_ble_eq_true rfl, ?_⟩ | refine ⟨[_, _, _], rfl, Nat.le_of_ble_eq_true rfl, ?_⟩ | refine ⟨[_, _, _, _], rfl, Nat.le_of_ble_eq_true rfl, ?_⟩ | refine ⟨[], rfl, Nat.le_of_ble_eq_true rfl, ?_⟩ | refine ⟨[_], rfl, Nat.le_of_ble_eq_true rfl, ?_⟩ | refine ⟨[_, _, _, _, _], rfl, Nat.le_of_ble_eq_true rfl, ?_⟩)
local macro_rules | `(tactic| walk_at "sl") => `(tactic| first | walk_at "st" | with_reducible refine ej_lst ?_)
local macro_rules | `(tactic| walk_at "sd") => `(tactic| first | walk_at "st" | dsimp only [sortS, lotD])

theorem ev_eqv (e : Ev) : PyData.eqv e.D e.D = true := by
  rcases e with _ | k | k | b | b
  · decide +kernel
  · cases k <;> decide +kernel
  · cases k <;> decide +kernel
  · cases b <;> decide +kernel
  · cases b <;> decide +kernel
def T_web_played : TF := fun xs M Q => ∃ (h : Int) (ws : List Wy) (cs : List Ct) (r : List St), xs = [.dat (webD h ws), .dat (.list (cs.map Ct.D)), .dat (.list (r.map stD))] ∧ (∀ x ∈ ws, LkOk x.l) ∧ CsOk ws cs ∧ RunOk ws cs r ∧ r.length ≤ 60 ∧
  ∀ wrs : List PyData, (wrs.length : Int) + (harmL ws (after ws cs r)).sum ≤ (harmL ws cs).sum → CsOk ws (after ws cs r) → Q (.dat (.tuple [.list ((after ws cs r).map Ct.D), .list wrs])) M
theorem c__law_web_played (T : Top K mg) : Cal P w K mg base 4 "_law_web_played" (spA K 3 T_web_played) := by
  refine T.d__law_web_played.cal sc_law_web_played rfl fun f cdv A outer s H E hr => ⟨_, (pss_cons (ps_par (i := 3) (j := 4) rfl sc_law_web_played.nd rfl rfl (by decide) rfl rfl (pa_cons (pe_callTy (lstK K) (by rfl) T.b_list bt_list (pa_cons (pv 1) pa_nil)) (pa_cons (pe_lst pa_nil) pa_nil)) rfl)
      (pss_cons (ps_for PassesOwn.never rfl (pi_listK K (pv 2)) (pg_tupK K (n := 2) rfl (pgs_cons (pg_name (i := 5) sc_law_web_played.nd rfl (.inl rfl)) (pgs_cons (pg_name (i := 6) sc_law_web_played.nd rfl (.inl rfl)) pgs_nil))) (pss_cons (ps_set (i := 7) sc_law_web_played.nd rfl (.inl rfl) (pe_ix (ixK K) (pe_ix (ixK K) (pe_ix (ixK K) (pv 0) pe_int (fun _ _ => rfl)) (pv 5) (fun _ _ => rfl)) pe_int (fun _ _ => rfl)))
      (pss_cons (ps_if (pt_cmpR (ninK K hr) (pv 6) (pe_c (c__law_events (K := K) T) hr (by decide) (by rfl) (pa_cons (pv 7) (pa_cons (pe_ix (ixK K) (pv 3) (pv 5) (fun _ _ => rfl)) pa_nil))) rfl) (pss_one (ps_ret pe_non)) pss_nil)
      (pss_cons (ps_asg (pe_c (c__law_behind (K := K) T) hr (by decide) (by rfl) (pa_cons (pv 7) (pa_cons (pe_ix (ixK K) (pv 3) (pv 5) (fun _ _ => rfl)) (pa_cons (pv 6) pa_nil)))) (pg_tupK K (n := 2) rfl (pgs_cons (pg_sub (pv 3) (pv 5) set_list) (pgs_cons (pg_name (i := 8) sc_law_web_played.nd rfl (.inl rfl)) pgs_nil))))
      (pss_one (ps_if (pt_cmpR op_notNone (pv 8) pe_non (nomark _)) (pss_one (ps_expr (pe_appK K (pv 4) (pa_cons (pe_tup (pa_cons (pv 5) (pa_cons (pv 8) pa_nil))) pa_nil)))) pss_nil))))))
      (pss_one (ps_ret (pe_tup (pa_cons (pv 3) (pa_cons (pv 4) pa_nil))))))), ?_⟩
  rintro xs M Q - ⟨h, ws, cs, r, rfl, hok, kcs, hrun, hrl, q⟩
  refine sj_ds (ds' := [some _, some _, some _, none, none, none, none, none, none]) rfl ?_
  refine sj_seq (sj_par ?_)
  refine aj_cons (ej_cb (aj_cons (ej_var rfl (aj_nil (cj_listL fun kh hkh => ?_)))))
  refine aj_cons (ej_lstM (aj_nil ⟨[], rfl, by decide, fun kw hkw => aj_nil ⟨_, _, rfl, ?_⟩⟩))
  have hw : kh ≠ kw := ne_fresh (put_same _ _ _) hkw
  have hkw' : M kw = none := by rw [put_ne (Ne.symm hw)] at hkw; exact hkw
  have ext0 : Ext M (put (put M kh (cs.map Ct.D)) kw []) := ((Ext.refl M).put hkh).put hkw'
  have m0 : put (put M kh (cs.map Ct.D)) kw [] kh = some (cs.map Ct.D) := by rw [put_ne hw]; exact put_same _ _ _
  have w0 : put (put M kh (cs.map Ct.D)) kw [] kw = some [] := put_same _ _ _
  generalize put (put M kh (cs.map Ct.D)) kw [] = M0 at ext0 m0 w0
  refine sj_seq (sj_for ?_)
  repeat walk_at "st"
  refine ⟨fun (i : Nat) ds' M' => ∃ (wrs : List PyData) (x5 x6 x7 x8 : Option D), wrs.length ≤ i ∧ (wrs.length : Int) + (harmL ws (after ws cs (r.take i))).sum ≤ (harmL ws cs).sum ∧ CsOk ws (after ws cs (r.take i)) ∧ Ext M M' ∧ M' kh = some ((after ws cs (r.take i)).map Ct.D) ∧ M' kw = some wrs ∧
    ds' = [some (.dat (webD h ws)), some (.dat (.list (cs.map Ct.D))), some (.dat (.list (r.map stD))), some (.cel kh), some (.cel kw), x5, x6, x7, x8],
    ⟨[], _, _, _, _, Nat.zero_le _, by show ((0 : Nat) : Int) + _ ≤ _; rw [Int.natCast_zero, Int.zero_add]; exact Int.le_refl _, kcs, ext0, m0, w0, rfl⟩, fun i d ds' M' hd hI => ?_, fun ds' M' hI => ?_⟩
  · obtain ⟨p, hp, rfl⟩ := map_get hd
    have hi : i < r.length := (List.getElem?_eq_some_iff.mp hp).1
    obtain ⟨wrs, x5, x6, x7, x8, hwl, hws, kc, hex, hmh, hmw, rfl⟩ := hI
    obtain ⟨x, c, tn⟩ := hrun i p hp
    have fc := kc.fit p.1 x c tn.way tn.ct
    obtain ⟨kc2, hh2⟩ := turn_ok kc hok tn
    have et : r.take (i + 1) = r.take i ++ [p] := by rw [List.take_add_one, hp]; rfl
    have ea : after ws cs (r.take (i + 1)) = step1 ws (after ws cs (r.take i)) p := by rw [et, after_snoc]
    refine gj_tup rfl (gsj_cons (gj_name (gsj_cons (gj_name (gsj_nil ?_)))))
    repeat walk_at "st"
    refine oj_ixL (atI_nat (get_map tn.way)) ?_
    repeat walk_at "st"
    refine oj_ixM hmh (atI_nat (get_map tn.ct)) ?_
    repeat walk_at "st"
    refine ⟨x.l, c, rfl, fc, fun es hpe => ?_⟩
    refine oj_ninD (b := true) (p.2.shp.shaped (by decide)) ((evs_shp es).shaped (by decide)) ?_ ?_
    · rw [List.any_map, List.any_eq_true]
      exact ⟨p.2, hpe.mem_iff.mpr tn.ev, ev_eqv _⟩
    repeat walk_at "st"
    refine oj_ixM hmh (atI_nat (get_map tn.ct)) ?_
    repeat walk_at "st"
    refine ⟨[_, _, _], _, rfl, ⟨x.l, c, p.2, rfl, fc, rfl⟩, ?_⟩
    refine gj_tup rfl (gsj_cons (gj_sub (ej_var rfl (ej_var rfl ⟨kh, _, _, p.1, rfl, rfl, hmh, ?_, gsj_cons (gj_name (gsj_nil ?_))⟩))))
    · exact ixNn (by rw [List.length_map]; exact (List.getElem?_eq_some_iff.mp tn.ct).1)
    have e2 : ((after ws cs (r.take i)).map Ct.D).set p.1 (behind x.l c p.2).1.D = (after ws cs (r.take (i + 1))).map Ct.D := by
      rw [ea, step1_eq tn.way tn.ct, List.map_set]
    rw [e2]
    have n1 : put M' kh ((after ws cs (r.take (i + 1))).map Ct.D) kh = some ((after ws cs (r.take (i + 1))).map Ct.D) := put_same _ _ _
    have n2 : put M' kh ((after ws cs (r.take (i + 1))).map Ct.D) kw = some wrs := by rw [put_ne (Ne.symm hw)]; exact hmw
    have n3 : Ext M (put M' kh ((after ws cs (r.take (i + 1))).map Ct.D)) := hex.put hkh
    generalize put M' kh ((after ws cs (r.take (i + 1))).map Ct.D) = M2 at n1 n2 n3 ⊢
    rw [← ea] at kc2 hh2
    generalize (behind x.l c p.2).2 = wro at hh2 ⊢
    rcases wro with _ | wro
    · repeat walk_at "st"
      exact ⟨wrs, _, _, _, _, by omega, (by have : wr none = 0 := rfl; omega), kc2, n3, n1, n2, rfl⟩
    · repeat walk_at "st"
      refine ej_append (ej_var rfl ⟨kw, rfl, by rw [n2]; rfl, ?_⟩)
      repeat walk_at "st"
      refine ⟨_, _, rfl, n2, by omega, ?_⟩
      exact ⟨wrs ++ [_], _, _, _, _, by simp; omega, (by have : wr (some wro) = 1 := rfl; simp; omega), kc2, n3.put hkw', (by rw [put_ne hw]; exact n1), put_same _ _ _, rfl⟩
  · obtain ⟨wrs, x5, x6, x7, x8, hwl, hws, kc, hex, hmh, hmw, rfl⟩ := hI
    rw [List.length_map, List.take_length] at hws kc hmh
    refine sj_ret (ej_weak (ej_tup (aj_cons (ej_freeze (ej_var rfl ⟨kh, _, rfl, hmh, aj_cons (ej_freeze (ej_var rfl ⟨kw, wrs, rfl, ?_, aj_nil ?_⟩))⟩)))))
    · rw [del_ne (Ne.symm hw)]
      exact hmw
    exact ⟨[_, _], rfl, Nat.le_of_ble_eq_true rfl, M, (hex.del hkh).del hkw', q wrs hws kc⟩
end
end HW

/-! Calls with keywords alone; defs that ask for a repr of data: no other repr is under way there. -/
namespace HW
open PySem PySem.Spec PyProof.Rows L2 DL
/-- no repr is under way -/
abbrev Quiet (A : Around) : Prop := A.guards = some []
/-- a def's promise there -/
structure FnG (P : Program) (w : World) (K : PySem.W.Frag) (mg : Str → Option Value) (base : Heap) (k : Nat) (f : Addr) (fd : FuncData) (ps : List Str) (sp : Sp) : Prop where
  size : ∀ vs H Q E, sp vs H Q E → vs.length = ps.length
  goes : ∀ (B : Around) (stk : List Env) (s : Shared) (H : Hp) (aa : Args) (us : List Value) (vs : List V) (Q : VK) (E : XK),
    Room k B → Quiet B → Env0 P w K mg base B stk s H → BindsTo s fd aa (ps.zip us) → Vals vs us → sp vs H Q E →
      codeAny (model P w) B (.call (.ref f) aa) (CR CX0 stk P w H s Q E) s
section
variable {K : PySem.W.Frag} {P : Program} {w : World} {base : Heap} {mg : Str → Option Value}
theorem okG {x qual : Str} {st : Stmt} {f : Addr} {fd : FuncData} {N ps : List Str} {k : Nat} {sp : Sp} (F : Fun K x qual st f fd) (S : FnScope N ps (defScope st)) (size : ∀ vs H Q E, sp vs H Q E → vs.length = ps.length)
    (body : ∀ (cdv : Value) (B : Around) (stk : List Env) (s : Shared) (H : Hp) (vs : List V) (Q : VK) (E : XK),
      Room k (B.deeper (envOfC qual (defScope st) s.heap.objs.size f cdv)) → Quiet (B.deeper (envOfC qual (defScope st) s.heap.objs.size f cdv)) → sp vs H Q E →
        ∃ t, PSs (cxOf CX0 P w K mg base N qual (defScope st) f cdv B stk s H E).nox (defBody st) t ∧ t { nx := fun _ H1 => Q .non H1, rt := Q } (start N vs) H) : FnG P w K mg base (k + 1) f fd ps sp := by
  obtain ⟨oc, od, kV, doc, pm, an, cdv, ct, osl, rfl, lk, isCode⟩ := F.ex
  constructor
  · exact size
  intro B stk s H aa us vs Q E room quiet env bnd rel want
  have many := size vs H Q E want
  have kin : K.In s.heap := env.mod.kin.keeps fun b o z => (env.bs b o z).1
  have free : s.heap.NoLimit := env.mod.nolimit.keeps fun b o z => (env.bs b o z).1
  have kinds : ∀ y ∈ ps.zip us, (defScope st).names.lookup y.1 = some .local ∨ ((defScope st).names.lookup y.1 = some .cell ∧ ((cellsFrom (s.heap.objs.size + 1) (defScope st).names []).lookup y.1).isSome = true) := by
    rintro ⟨n, v⟩ hy
    exact (S.par n (List.of_mem_zip hy).1).imp id fun z => ⟨z, PySem.W.cellsFrom_some _ _ _ (.inl z)⟩
  refine codeAny_call_function room.depth (kin _ _ lk) rfl S.co S.gen rfl (PySem.W.codeRec_of kin isCode) (bnd _ _ _ _ (wpAny_newFunctionEnv_cells S.kind kinds ?_))
  intro fe hfe s1 inCall
  subst hfe
  refine ⟨free.keeps inCall.toInCall.keep, codeAny_func ?_⟩
  obtain ⟨t, reads, runs⟩ := body cdv B stk s H vs Q E (room.deeper _) quiet want
  have inv : Inv (cxOf CX0 P w K mg base N qual (defScope st) f cdv B stk s H E) [] (start N vs) H s1 := inv_start S room.hd env many rel inCall
  refine wpAny_mono (reads.nox.run [] s1 (start N vs) H _ inv runs) (fun fl s2 done => ?_) fun e s2 done => done
  have ends : ∀ {σ1 : L2.St} {H1 : Hp} {v : V} {u : Value}, Inv (cxOf CX0 P w K mg base N qual (defScope st) f cdv B stk s H E) [] σ1 H1 s2 → RelV v u → Q v H1 → CE stk P w H s Q u s2 :=
    fun J rv q => ⟨_, _, J.os, J.bare, J.base, J.hok, rv, q⟩
  cases fl with
  | ret u => exact let ⟨_, _, _, J, rv, q⟩ := done; ends J rv q
  | next => exact let ⟨_, _, J, q⟩ := done; ends (v := V.non) (u := Value.none) J rfl q
  | brk => exact let ⟨_, _, _, q⟩ := done; q.elim
  | cont => exact let ⟨_, _, _, q⟩ := done; q.elim
theorem fnGA {x qual : Str} {st : Stmt} {f : Addr} {fd : FuncData} {N ps : List Str} {k n : Nat} {T : TF} (F : Fun K x qual st f fd) (S : FnScope N ps (defScope st)) (hn : n = ps.length)
    (body : ∀ (cdv : Value) (B : Around) (stk : List Env) (s : Shared) (H : Hp) (E : XK), Room k (B.deeper (envOfC qual (defScope st) s.heap.objs.size f cdv)) → Quiet (B.deeper (envOfC qual (defScope st) s.heap.objs.size f cdv)) →
      ∃ t, PSs (cxOf CX0 P w K mg base N qual (defScope st) f cdv B stk s H E).nox (defBody st) t ∧ ∀ (xs : List D) (M : Ms) (Q : D → Ms → Prop), xs.length = n → T xs M Q → SJ K t (startD N.length xs) M ⟨fun _ M' => Q (.dat .none) M', Q, fun _ _ => False, fun _ _ => False⟩) :
    FnG P w K mg base (k + 1) f fd ps (spA K n T) := by
  refine okG F S (fun vs H Q E h => ?_) (fun cdv B stk s H vs Q E room quiet h => ?_)
  · obtain ⟨w, M, xs, Q', _, r, hl, _⟩ := h
    rw [r.len, hl, hn]
  · obtain ⟨t, ht, hq⟩ := body cdv B stk s H E room quiet
    obtain ⟨W, M, xs, Q', sH, r, hl, hT, c⟩ := h
    refine ⟨t, ht, hq xs M Q' hl hT W (start N vs) H sH (slots_start r) _ ?_ ?_ (fun _ _ _ _ _ _ _ _ q => q.elim) (fun _ _ _ _ _ _ _ _ q => q.elim)⟩
    · exact fun w' σ' H' ds' M' le s' sl' q => c w' .non H' (.dat .none) M' le (show Dp K _ _ _ from .non) s' q
    · exact fun w' v H' d M' le r' s' q => c w' v H' d M' le r' s' q
/-- a def that may be called by its name there -/
structure CalG (P : Program) (w : World) (K : PySem.W.Frag) (mg : Str → Option Value) (base : Heap) (k : Nat) (x : Str) (sp : Sp) : Prop where
  ex : ∃ (f : Addr) (fd : FuncData) (ps : List Str), FnG P w K mg base k f fd ps sp ∧ mg x = some (.ref f) ∧ PySem.W.keepIn K (.ref f) = true ∧ Binds K fd ps []
/-- .. by keywords alone, that stand in the parameters' order from the right -/
structure KCal (P : Program) (w : World) (K : PySem.W.Frag) (mg : Str → Option Value) (base : Heap) (k : Nat) (x : Str) (ks : List Str) (sp : Sp) : Prop where
  ex : ∃ (f : Addr) (fd : FuncData) (ps : List Str), FnOk P w K mg base CX0 k f fd ps sp ∧ mg x = some (.ref f) ∧ PySem.W.keepIn K (.ref f) = true ∧ ∀ (s : Shared) (ws : List Value), ws.length = ks.length → BindsTo s fd ⟨[], ks.zip ws⟩ (ps.zip ws.reverse)
end
def tCallW (sp : Sp) (n : Nat) (t : TA) : TE := fun σ H Q => t σ H fun zs H1 => zs.length = n ∧ sp zs.reverse H1 Q E0
theorem vals_app : ∀ {xs ys : List V} {us ws : List Value}, Vals xs us → Vals ys ws → Vals (xs ++ ys) (us ++ ws)
  | _, _, _, _, .nil, h => h
  | _, _, _, _, .cons a r, h => .cons a (vals_app r h)
theorem vals_rev : ∀ {xs : List V} {us : List Value}, Vals xs us → Vals xs.reverse us.reverse
  | _, _, .nil => .nil
  | _, _, .cons a r => by
    rw [List.reverse_cons, List.reverse_cons]
    exact vals_app (vals_rev r) (.cons a .nil)
section
variable {X : Cx} {k j : Nat} {x : Str} {ks : List Str} {sp : Sp} {p pos : Pos} {e : Expr} {es : List Expr} {kws : List Keyword} {t : TA}
theorem pe_cG (c : CalG X.prog X.w X.K X.mg X.base k x sp) (room : Room j X.A) (quiet : Quiet X.A) (hk : k ≤ j) (hg : Gl X x) (ha : PA X (e :: es) t)
    (hd : (x == ("__debug__" : Str)) = false := by decide) (hs : starEach (e :: es) X.env = (false, eval e X.env) :: starEach es X.env := by rfl) (hp : (backTo pos (starEach es X.env)).any (·.1) = false := by rfl) :
    PE X (.Call (.Name x p) (e :: es) [] pos) (tCall sp [] E0 t) := by
  obtain ⟨f, fd, ps, F, hm, kp, bnd⟩ := c.ex
  constructor
  intro pins s σ H Q I want
  refine wpAny_Call_Name_kw (ld_glob I hg hm (PySem.W.callWith_K (h₀ := X.base) I.ok.mod.kin kp (thn (ha.run pos pins s σ H _ I want) ?_) hs hp) hd)
  rintro us s1 ⟨vs, H1, I1, r, q⟩
  rw [List.append_nil] at q
  refine ⟨I1.kIn, wpAny_call (codeAny_mono (F.goes X.A X.stack s1 H1 ⟨us, []⟩ us vs Q E0 (room.mono hk) quiet I1.env0 ?_ r q) fun res s2 done => ?_)⟩
  · have b := bnd s1 us I1.kIn (by rw [List.append_nil, ← r.length]; exact F.size _ _ _ _ q)
    rw [List.append_nil] at b
    exact b
  · rcases res with e | fl
    · exact False.elim done
    · rcases fl with _ | _ | _ | u
      all_goals first | exact False.elim done | exact I1.after done
theorem pe_cK (c : KCal X.prog X.w X.K X.mg X.base k x ks sp) (room : Room j X.A) (hk : k ≤ j) (hg : Gl X x) (ha : PK X kws t)
    (hall : (backToKw pos (keywordEach kws X.env)).all (·.1.isSome) = true := by rfl) (hks : (backToKw pos (keywordEach kws X.env)).filterMap (·.1) = ks := by rfl)
    (hd : (x == ("__debug__" : Str)) = false := by decide) (hp : ((backTo pos (starEach [] X.env)).any (·.1) || (backToKw pos (keywordEach kws X.env)).any (·.1.isNone)) = false := by rfl) :
    PE X (.Call (.Name x p) [] kws pos) (tCallW sp ks.length t) := by
  obtain ⟨f, fd, ps, F, hm, kp, bnd⟩ := c.ex
  constructor
  intro pins s σ H Q I want
  refine wpAny_Call_Name_kw (ld_glob I hg hm (PySem.W.callWith_KW0 (h₀ := X.base) I.ok.mod.kin kp hall (thn (ha.run pos pins s σ H _ I want) ?_) hp) hd)
  rintro ws s1 ⟨zs, H1, I1, r, hl, q⟩
  rw [hks]
  refine ⟨I1.kIn, wpAny_call (codeAny_mono (F.run X.A X.stack s1 H1 ⟨[], ks.zip ws⟩ ws.reverse zs.reverse Q E0 (room.mono hk) I1.env0 (bnd s1 ws (r.length.symm.trans hl)) (vals_rev r) q) fun res s2 done => ?_)⟩
  rcases res with e | fl
  · exact False.elim done
  · rcases fl with _ | _ | _ | u
    all_goals first | exact False.elim done | exact I1.after done
end
section
variable {K : PySem.W.Frag} {ds : Ds} {M : Ms} {Q : D → Ms → Prop} {t : TA}
theorem relAll_app {w : Wd} : ∀ {vs us : List V} {xs ys : List D}, RelAll K w vs xs → RelAll K w us ys → RelAll K w (vs ++ us) (xs ++ ys)
  | [], _, [], _, _, h => h
  | v :: vs, _, x :: xs, _, ⟨a, r⟩, h => ⟨a, relAll_app r h⟩
theorem relAll_rev {w : Wd} : ∀ {vs : List V} {xs : List D}, RelAll K w vs xs → RelAll K w vs.reverse xs.reverse
  | [], [], _ => True.intro
  | v :: vs, x :: xs, ⟨a, r⟩ => by
    rw [List.reverse_cons, List.reverse_cons]
    exact relAll_app (relAll_rev r) ⟨a, True.intro⟩
theorem ej_callW {n m : Nat} {T : TF} (h : AJ K t ds M fun xs M1 => xs.length = n ∧ xs.length = m ∧ T xs.reverse M1 Q) : EJ K (tCallW (spA K m T) n t) ds M Q := fun w σ H s sl R c =>
  h w σ H s sl _ fun w1 us H1 xs M1 e1 r1 s1 ⟨l1, l2, h1⟩ =>
    ⟨by rw [r1.len]; exact l1, w1, M1, xs.reverse, Q, s1, relAll_rev r1, by rw [List.length_reverse]; exact l2, h1, fun w' v H' d M' le => c w' v H' d M' (e1.trans le)⟩
end
/-- repr(x), x data -/
def rReprD (K : PySem.W.Frag) : List V → Hp → VK → Prop := fun vs H Q => ∃ (a : Addr) (d : PyData), vs = [.ref a] ∧ Dp K H (.ref a) d ∧ d.showable = true ∧ d.hasDict = false ∧ d.shown.length ≤ sizeLine ∧ d.depth ≤ 64 ∧ Q (.str d.shown) H
theorem cr_reprD {X : Cx} (quiet : Quiet X.A) (hu : X.A.units + 100 < cLine) : CallR X (.builtin "repr") (rReprD X.K) := by
  intro pins s σ H vs us Q I r h
  obtain ⟨a, d, rfl, hd, h1, h2, h3, h4, q⟩ := h
  obtain ⟨u, rfl, ru⟩ := vals1 r
  obtain rfl : u = Value.ref a := ru
  obtain ⟨as, rd⟩ := Dp.reads I d (.ref a) (.ref a) hd rfl
  refine repr_of_reads' rd h1 (fun z => by rw [h2] at z; cases z) quiet (by omega) (fun _ _ z => z) (fun h' u tk hk => ?_) h3
  exact ⟨.str _, H, I.kept hk, ⟨_, rfl⟩, q⟩
section
variable {X : Cx} (K : PySem.W.Frag) {k : Nat}
theorem reprK (quiet : Quiet X.A) (hr : Room k X.A) (h : X.K = K := by rfl) : CallR X (.builtin "repr") (rReprD K) := h ▸ cr_reprD quiet (by have := hr.un; omega)
end
/-- data that may be shown in few signs -/
structure Shw (B : Nat) (d : PyData) : Prop where
  show_ : d.showable = true
  nodict : d.hasDict = false
  leaves : d.leavesShort 40 = true
  weight : d.weight ≤ B
theorem Shw.fits {B : Nat} {d : PyData} (h : Shw B d) (hB : B ≤ 300000) : d.shown.length ≤ sizeLine := by
  have z := PyData.shown_le 40 (by decide) d h.leaves
  have z2 := h.weight
  have z3 : sizeLine = 16777216 := by decide
  rw [z3]
  omega
section
variable {K : PySem.W.Frag} {M : Ms} {Q : D → Ms → Prop}
theorem cj_reprL {B : Nat} {xs : List PyData} (h : Shw B (.list xs)) (hB : B ≤ 300000) (hd : (PyData.list xs).depth ≤ 64) (q : Q (.dat (.str (PyData.list xs).shown)) M) : CJ K (rReprD K) [.dat (.list xs)] M Q := fun w H us s r R c => by
  obtain ⟨v, rfl, rv⟩ := r.c1
  obtain ⟨a, vs, rfl, hs, ha⟩ := s.seqL rv
  exact ⟨a, .list xs, rfl, s.dp rv, h.show_, h.nodict, h.fits hB, hd, c w _ H (.dat (.str _)) M (Wd.le.refl w) (show Dp K _ _ _ from .str _) s q⟩
theorem cj_reprM {B i : Nat} {xs : List PyData} (hi : M i = some xs) (h : Shw B (.list xs)) (hB : B ≤ 300000) (hd : (PyData.list xs).depth ≤ 64) (q : Q (.dat (.str (PyData.list xs).shown)) M) : CJ K (rReprD K) [.cel i] M Q := fun w H us s r R c => by
  obtain ⟨v, rfl, b, hb, rfl⟩ := r.c1
  obtain ⟨a, vs, h1, h2, h3, h4⟩ := s.cell i xs hi
  rw [hb] at h1
  obtain rfl : b = a := Option.some.inj h1
  exact ⟨b, .list xs, rfl, .lst (SqL.of h3) (dpAll_mono s.sub _ _ h4), h.show_, h.nodict, h.fits hB, hd, c w _ H (.dat (.str _)) M (Wd.le.refl w) (show Dp K _ _ _ from .str _) s q⟩
theorem oj_seqT {x : Str} (q : Q (.dat (.bool true)) M) : OJ K rEq (.dat (.str x)) (.dat (.str x)) M Q := fun w H u v s r1 r2 R c => by
  cases (show Dp K w.F u (.str x) from r1)
  cases (show Dp K w.F v (.str x) from r2)
  refine ⟨rfl, ?_⟩
  rw [decide_eq_true rfl]
  exact c w _ H (.dat (.bool true)) M (Wd.le.refl w) (show Dp K _ _ _ from .bl true) s q
theorem oj_sneF {x : Str} (q : Q (.dat (.bool false)) M) : OJ K rNe (.dat (.str x)) (.dat (.str x)) M Q := fun w H u v s r1 r2 R c => by
  cases (show Dp K w.F u (.str x) from r1)
  cases (show Dp K w.F v (.str x) from r2)
  refine ⟨rfl, ?_⟩
  rw [decide_eq_true rfl]
  exact c w _ H (.dat (.bool false)) M (Wd.le.refl w) (show Dp K _ _ _ from .bl false) s q
end
/-! ### small data -/
theorem Shw.none {B : Nat} : Shw B .none := ⟨by rw [PyData.showable], by rw [PyData.hasDict], by rw [PyData.leavesShort], by rw [PyData.weight]; exact Nat.zero_le _⟩
theorem Shw.bool {B : Nat} {b : Bool} : Shw B (.bool b) := ⟨by rw [PyData.showable], by rw [PyData.hasDict], by rw [PyData.leavesShort], by rw [PyData.weight]; exact Nat.zero_le _⟩
theorem Shw.int {B : Nat} {i : Int} (h : i.natAbs < 10 ^ 31) (hB : 110 ≤ B) : Shw B (.int i) := by
  have hl : i.natAbs.log2 < 103 := by
    by_cases z : i.natAbs = 0
    · rw [z]; decide
    · exact (Nat.log2_lt z).mpr (Nat.lt_of_lt_of_le h (by decide))
  refine ⟨?_, by rw [PyData.hasDict], ?_, ?_⟩
  · rw [PyData.showable]
    exact decide_eq_true (by omega)
  · rw [PyData.leavesShort]
    have z : (toString i).length ≤ 31 + 1 := int_text_length_le10 (by decide) h
    refine decide_eq_true (Nat.le_trans ?_ (show 32 ≤ 40 by decide))
    rw [PyData.shown, PySem.ofString_length]
    exact z
  · rw [PyData.weight]
    split <;> omega
theorem shwAll {B : Nat} : ∀ {xs : List PyData}, (∀ x ∈ xs, Shw B x) → PyData.showableAll xs = true ∧ PyData.hasDictAll xs = false ∧ PyData.leavesShortAll 40 xs = true ∧ PyData.weightAll xs ≤ xs.length * (B + 1)
  | [], _ => ⟨by rw [PyData.showableAll], by rw [PyData.hasDictAll], by rw [PyData.leavesShortAll], by rw [PyData.weightAll]; exact Nat.zero_le _⟩
  | x :: xs, h => by
    obtain ⟨a1, a2, a3, a4⟩ := h x List.mem_cons_self
    obtain ⟨b1, b2, b3, b4⟩ := shwAll (xs := xs) fun y hy => h y (List.mem_cons_of_mem _ hy)
    refine ⟨by rw [PyData.showableAll, a1, b1]; rfl, by rw [PyData.hasDictAll, a2, b2]; rfl, by rw [PyData.leavesShortAll, a3, b3]; rfl, ?_⟩
    rw [PyData.weightAll, List.length_cons, Nat.add_mul]
    omega
theorem Shw.list {B n C : Nat} {xs : List PyData} (h : ∀ x ∈ xs, Shw B x) (hn : xs.length ≤ n) (hC : n * (B + 1) ≤ C) : Shw C (.list xs) := by
  obtain ⟨b1, b2, b3, b4⟩ := shwAll h
  refine ⟨by rw [PyData.showable]; exact b1, by rw [PyData.hasDict]; exact b2, by rw [PyData.leavesShort]; exact b3, ?_⟩
  rw [PyData.weight]
  exact Nat.le_trans b4 (Nat.le_trans (Nat.mul_le_mul_right _ hn) hC)
theorem Shw.tup {B n C : Nat} {xs : List PyData} (h : ∀ x ∈ xs, Shw B x) (hn : xs.length ≤ n) (hC : n * (B + 1) ≤ C) : Shw C (.tuple xs) := by
  obtain ⟨b1, b2, b3, b4⟩ := shwAll h
  refine ⟨by rw [PyData.showable]; exact b1, by rw [PyData.hasDict]; exact b2, by rw [PyData.leavesShort]; exact b3, ?_⟩
  rw [PyData.weight]
  exact Nat.le_trans b4 (Nat.le_trans (Nat.mul_le_mul_right _ hn) hC)
end HW

/-! The law's own call, where it asks for a repr of data. -/
namespace HW
open PySem PySem.Spec PyProof.Rows L2 DL
/-- what the law's call has to come to -/
abbrev Comes (P : Program) (w : World) (fa a : Addr) (s : Shared) : Prop :=
  codeAny (model P w) callerA (.call (.ref fa) ⟨[.ref a], []⟩) (fun r t => r = .ok (.ret (.bool true)) ∧ OldK s.heap t.heap ∧ t.os = s.os ∧ AllBare t.gens) s
abbrev scriptObj (vs : List Value) : Obj := { cls := .type "list", data := .seq vs.toArray }
/-- what the law promises for the script at a -/
abbrev Keeps (K : PySem.W.Frag) (sp : Sp) (a : Addr) (ns : List Int) : Prop :=
  ∀ H : Hp, Only H → SqL K H a (ns.map V.int) → sp [.ref a] H (fun v _ => v = .bl true) E0
section
variable {P : Program} {w : World} {K : PySem.W.Frag} {mg mb : Str → Option Value} {k : Nat} {fa a : Addr} {fd : FuncData} {x : Str} {sp : Sp} {s : Shared} {vs : List Value} {ns : List Int}
/-- from an abstract heap that tracks the script at most -/
theorem quietCore (kin : K.In s.heap) (top : s.heap.Ns mainGlobals mg) (boot : s.heap.Ns builtinsNs mb) (same : ∀ y : Str, y ≠ "__name__" → mb y = bootBuiltins y) (free : s.heap.NoLimit) (still : s.gens = #[])
    (obj : s.heap.get? a = some (scriptObj vs)) (room : Room k callerA) (F : ∀ base : Heap, K.In base → base.Ns mainGlobals mg → FnG P w K mg base k fa fd [x] sp) (bnd : ∀ (t : Shared) (u : Value), BindsTo t fd ⟨[u], []⟩ [(x, u)])
    {H : Hp} (only : Only H) (isOk : HOk P w H s.heap) (one : ∀ b, H b ≠ none → b = a ∧ K.lookup a = none) (want : sp [.ref a] H (fun v _ => v = .bl true) E0) : Comes P w fa a s := by
  have untracked : ∀ {b : Addr} {o : Obj}, s.heap.get? b = some o → o ≠ scriptObj vs → H b = none := by
    intro b o hb no
    by_cases z : H b = none
    · exact z
    · obtain ⟨rfl, _⟩ := one b z
      exact absurd (Option.some.inj (hb.symm.trans obj)) no
  have dictOk : ∀ {b : Addr} {m : Str → Option Value}, s.heap.Ns b m → (hidT s.heap H).Ns b m := by
    rintro b m ⟨o, es, ep, hb, hd, rest⟩
    refine ⟨o, es, ep, hidT_get hb (untracked hb ?_), hd, rest⟩
    rintro rfl
    cases hd
  have kinB : K.In (hidT s.heap H) := by
    intro b o hb
    refine hidT_get (kin b o hb) ?_
    by_cases z : H b = none
    · exact z
    · obtain ⟨rfl, no⟩ := one b z
      rw [no] at hb
      cases hb
  have md : Mod K mg (hidT s.heap H) := ⟨kinB, dictOk top, ⟨mb, dictOk boot, same⟩, free.elim fun mc z => ⟨mc, dictOk z.1, z.2⟩⟩
  have env : Env0 P w K mg (hidT s.heap H) callerA [] s H :=
    ⟨rfl, md, fun _ _ => of_hidT, Nat.le_of_eq (hidT_size _ _), trivial, fun b z => absurd (show b ∈ ([] : List Addr) from z) (by simp), isOk, .of_eq still⟩
  have runs := (F _ kinB (dictOk top)).goes callerA [] s H ⟨[.ref a], []⟩ [.ref a] [.ref a] _ _ room rfl env (bnd s (.ref a)) (.cons rfl .nil) want
  refine codeAny_mono runs ?_
  rintro (e | fl) t done
  · exact False.elim done
  rcases fl with _ | _ | _ | u
  · exact False.elim done
  · exact False.elim done
  · exact False.elim done
  obtain ⟨v, H1, os, bare, un, isOk1, r, q⟩ := done
  obtain rfl : v = .bl true := q
  obtain rfl : u = Value.bool true := r
  refine ⟨rfl, OldK.of_keep ?_, os, bare⟩
  intro b o hb
  rcases only b with z | ⟨ob, xs, z⟩
  · exact un.keep b o hb z (fun y => absurd (show b ∈ ([] : List Addr) from y) (by simp)) (by simp)
  · have z1 := un.frzs b ob _ z
    have z2 := (isOk b _ z).1
    rw [hb] at z2
    cases z2
    exact (isOk1 b _ z1).1
theorem quietCall (kin : K.In s.heap) (top : s.heap.Ns mainGlobals mg) (boot : s.heap.Ns builtinsNs mb) (same : ∀ y : Str, y ≠ "__name__" → mb y = bootBuiltins y) (free : s.heap.NoLimit) (still : s.gens = #[])
    (obj : s.heap.get? a = some (scriptObj vs)) (numb : IntsAre vs ns) (few : ns.length ≤ sizeLine) (room : Room k callerA)
    (F : ∀ base : Heap, K.In base → base.Ns mainGlobals mg → FnG P w K mg base k fa fd [x] sp) (bnd : ∀ (t : Shared) (u : Value), BindsTo t fd ⟨[u], []⟩ [(x, u)]) (want : Keeps K sp a ns) : Comes P w fa a s := by
  have rel := vals_ints numb
  have size := numb.length
  cases own : K.lookup a with
  | some o =>
    have e := kin a o own
    rw [obj] at e
    cases e
    refine quietCore kin top boot same free still obj room F bnd (H := fun _ => none) (fun _ => .inl rfl) (fun b u z => nomatch (show (none : Option HO) = some u from z)) (fun b z => absurd rfl z) ?_
    exact want _ (fun _ => .inl rfl) (.inr ⟨_, vs.toArray, _, own, rfl, rfl, rfl, by rw [List.size_toArray, size]; exact few, by simpa using rel⟩)
  | none =>
    have onlyA : Only (fun b => if b = a then some (HO.frz (scriptObj vs) (.lst (ns.map V.int))) else none) := by
      intro b
      by_cases z : b = a
      · exact .inr ⟨_, _, if_pos z⟩
      · exact .inl (if_neg z)
    refine quietCore kin top boot same free still obj room F bnd onlyA ?_ ?_ (want _ onlyA (.inl (.inr ⟨scriptObj vs, if_pos rfl⟩)))
    · intro b u z
      by_cases y : b = a
      · subst y
        cases (if_pos rfl).symm.trans z
        exact ⟨obj, by rw [List.length_map]; exact few, vs, _, rel, obj⟩
      · cases (if_neg y).symm.trans z
    · intro b z
      by_cases y : b = a
      · exact ⟨y, own⟩
      · exact absurd (if_neg y) z
end
/-- the goal that the head leaves, from what the law promises where no repr is under way -/
theorem quietWalk {l : PySem.W.OpenLaw} {n k : Nat} {top : Program} {loose : List Str} {XP : (Str → Option Value) → Heap → Prop} {YP : World → Heap → Prop} {d : DefRec} {K : Params → PySem.W.Frag} {sp : PySem.W.Frag → Sp} {x : Str}
    (most : l.most = some n) (fits : n ≤ sizeLine) (plain : d.params.defaults = []) (room : Room k callerA) (kin : ∀ (w : World) (h : Heap), YP w h → (K w.params).In h)
    (F : ∀ (w : World) (mg : Str → Option Value) (at_ : Addr) (h : Heap), (K w.params).In h → h.Ns mainGlobals mg → mg d.name = some (.ref at_) →
      ∃ fd : FuncData, (∀ (s : Shared) (u : Value), BindsTo s fd ⟨[u], []⟩ [(x, u)]) ∧ ∀ base : Heap, (K w.params).In base → base.Ns mainGlobals mg → FnG l.prog w (K w.params) mg base k at_ fd [x] (sp (K w.params)))
    (want : ∀ (K : PySem.W.Frag) (a : Addr) (ns : List Int), ns.length ≤ n → Keeps K (sp K) a ns) :
    PySem.W.WalkO top loose XP YP l.row.toRowW d [] (fun f vs => PySem.call f vs) := by
  refine Att.attach_call most plain ?_
  intro w s0 s mg mb fa o pm cd doc a vs ns G Y hf hd hcd hmg obj numb few still
  have kn := kin w _ Y
  obtain ⟨fd, bnd, Fd⟩ := F w mg fa _ kn G.T.g hmg
  exact quietCall kn G.T.g G.T.b G.T.builtins G.T.nolimit still obj numb (Nat.le_trans few fits) room Fd bnd (want _ a ns few)
end HW

namespace HW
open PySem PySem.Spec PyProof.Rows L2 DL
section
variable {K : PySem.W.Frag} {P : Program} {w : World} {base : Heap} {mg : Str → Option Value}
local macro_rules | `(tactic| walk_at "sk") => `(tactic| with_reducible first | exact sk_new | exact sk_old | exact sk_send | exact sk_drop | exact sk_bring | exact sk_miss | exact sk_hear | exact sk_made | exact sk_twice | exact sk_lost | exact sk_zero | exact sk_one)
local macro_rules | `(tactic| walk_at "st") => `(tactic| first
  | ((with_reducible refine isVar ?_); first | refine ej_var rfl ?_)
  | ((with_reducible refine isTC ?_); first | with_reducible refine ej_int ?_ | with_reducible refine ej_str ?_ | with_reducible refine ej_non ?_ | with_reducible refine ej_bl ?_ | with_reducible refine ej_val ?_)
  | ((with_reducible refine isEJ ?_); first | with_reducible refine ej_op ?_ | with_reducible refine ej_call ?_ | with_reducible refine ej_cb ?_ | with_reducible refine ej_if ?_ | with_reducible refine ej_tup ?_ | with_reducible refine ej_andV ?_ | with_reducible refine ej_orV ?_ | with_reducible refine ej_notV ?_ | with_reducible refine ej_un ?_ | with_reducible refine ej_bits ?_ | with_reducible refine ej_dsS (by dsimp only [wipeD, List.map_cons, List.map_nil, List.set_cons_succ, List.set_cons_zero]; rfl) ?_)
  | ((with_reducible refine isAJ ?_); first | with_reducible refine aj_cons ?_ | with_reducible refine aj_nil ?_)
  | ((with_reducible refine isIx ?_); first | refine oj_ixT rfl ?_ | refine oj_ixL rfl ?_ | refine oj_ixM (by first | assumption | exact put_same _ _ _) rfl ?_)
  | ((with_reducible refine isOJ ?_); first | with_reducible refine oj_I0i ?_ | with_reducible refine oj_I0b ?_ | with_reducible refine oj_eqi ?_ | with_reducible refine oj_nei ?_ | with_reducible refine oj_eqb ?_ | with_reducible refine oj_eqsT (by walk_at "sk") ?_ | refine oj_eqsF (by walk_at "sk") (by walk_at "sk") (by decide +kernel) ?_ | with_reducible refine oj_isNone ?_ | with_reducible refine oj_notNone ?_ | with_reducible refine oj_eq_nil ?_ | with_reducible refine oj_ne_nil ?_ | refine oj_ninD (b := true) (by decide +kernel) (by decide +kernel) (by decide +kernel) ?_ | refine oj_ninD (b := false) (by decide +kernel) (by decide +kernel) (by decide +kernel) ?_)
  | ((with_reducible refine isTJ ?_); first | with_reducible refine tj_test ?_ | with_reducible refine tj_B ?_ | with_reducible refine tj_and ?_ | with_reducible refine tj_or ?_ | with_reducible refine tj_not ?_ | with_reducible refine tj_yes ?_ | with_reducible refine tj_dsS (by dsimp only [wipeD, List.map_cons, List.map_nil, List.set_cons_succ, List.set_cons_zero]; rfl) ?_)
  | ((with_reducible refine isSJ ?_); first | with_reducible refine sj_dsS (by dsimp only [wipeD, List.map_cons, List.map_nil, List.set_cons_succ, List.set_cons_zero]; rfl) ?_ | with_reducible refine sj_seq ?_ | with_reducible refine sj_set ?_ | with_reducible refine sj_ret ?_ | with_reducible refine sj_if ?_ | with_reducible refine sj_drop ?_ | with_reducible refine sj_par ?_ | with_reducible refine sj_par3 ?_ | with_reducible refine sj_asg ?_ | with_reducible refine sj_next ?_)
  | ((with_reducible refine isCJ ?_); first | with_reducible refine cj_isi_ib ?_ | refine cj_isi_same rfl ?_ | with_reducible refine cj_lenL ?_ | with_reducible refine cj_lenT ?_ | with_reducible refine cj_int ?_ | with_reducible refine cj_intb ?_ | with_reducible refine cj_max ?_ | with_reducible refine cj_min ?_)
  | ((with_reducible refine isGJ ?_); first | with_reducible refine gj_name ?_ | refine gj_tup rfl ?_ | refine gj_unl rfl ?_)
  | ((with_reducible refine isGs ?_); first | refine gsj_cons ?_ | refine gsj_nil ?_)
  | ((with_reducible refine isLJ ?_); first | with_reducible refine lj_name (by decide) ?_ | refine lj_tup rfl ?_)
  | ((with_reducible refine isLs ?_); first | refine lsj_cons ?_ | refine lsj_nil ?_)
  | ((with_reducible refine isIJ ?_); first | with_reducible refine ij_list ?_ | with_reducible refine ij_tup ?_ | with_reducible refine ij_range1 ?_ | with_reducible refine ij_range2 ?_ | with_reducible refine ij_enum ?_ | with_reducible refine ij_enumT ?_ | with_reducible refine ij_zip ?_)
  | with_reducible refine uj_neg ?_ | with_reducible refine fj_A rfl ?_ | with_reducible refine ⟨_, rfl, ?_⟩ | with_reducible refine ⟨_, _, rfl, ?_⟩ | with_reducible refine ⟨_, _, _, rfl, ?_⟩ | refine brT rfl ?_ | refine brF rfl ?_ | refine ⟨[_, _], rfl, Nat.le_of_ble_eq_true rfl, ?_⟩ | refine ⟨[_, _, _], rfl, Nat.le_of_ble_eq_true rfl, ?_⟩ | refine ⟨[_, _, _, _], rfl, Nat.le_of_ble_eq_true rfl, ?_⟩ | refine ⟨[], rfl, Nat.le_of_ble_eq_true rfl, ?_⟩ | refine ⟨[_], rfl, Nat.le_of_ble_eq_true rfl, ?_⟩ | refine ⟨[_, _, _, _, _], rfl, Nat.le_of_ble_eq_true rfl, ?_⟩)
local macro_rules | `(tactic| walk_at "sl") => `(tactic| first | walk_at "st" | with_reducible refine ej_lst ?_)
local macro_rules | `(tactic| walk_at "sd") => `(tactic| first | walk_at "st" | dsimp only [sortS, lotD])

theorem Df.calG {x : Str} {st : Stmt} {N ps : List Str} {k n : Nat} {T : TF} (F : Df K mg x st ps) (S : FnScope N ps (defScope st)) (hn : n = ps.length)
    (body : ∀ (f : Addr) (cdv : Value) (B : Around) (stk : List Env) (s : Shared) (H : Hp) (E : XK), Room k (B.deeper (envOfC x (defScope st) s.heap.objs.size f cdv)) → Quiet (B.deeper (envOfC x (defScope st) s.heap.objs.size f cdv)) →
      ∃ t, PSs (cxOf CX0 P w K mg base N x (defScope st) f cdv B stk s H E).nox (defBody st) t ∧ ∀ (xs : List D) (M : Ms) (Q : D → Ms → Prop), xs.length = n → T xs M Q → SJ K t (startD N.length xs) M ⟨fun _ M' => Q (.dat .none) M', Q, fun _ _ => False, fun _ _ => False⟩) :
    CalG P w K mg base (k + 1) x (spA K n T) := by
  obtain ⟨f, fd, F, hm, hb⟩ := F.ex
  exact ⟨f, fd, ps, fnGA F S hn fun cdv B stk s H E hr hg => body f cdv B stk s H E hr hg, hm, F.kp, hb⟩
/-- a def of the text, called by keywords -/
theorem CalP.key {x : Str} {st : Stmt} {k : Nat} {ps ks : List Str} {sp : Sp} (c : CalP P w K mg base k x st ps sp)
    (h : ∀ (kV doc pm : Value) (an : Option Addr) (cdv ct : Value) (ws : List Value), ws.length = ks.length → bindArgs (PySem.W.fnOf x x (defArgs st) (defBody st) (defScope st) .none kV doc pm an cdv ct) ⟨[], ks.zip ws⟩ = pure (ps.zip ws.reverse)) : KCal P w K mg base k x ks sp := by
  obtain ⟨f, fd, F, ok, hm, _⟩ := c.ex
  have kp := F.kp
  obtain ⟨oc, od, kV, doc, pm, an, cdv, ct, osl, rfl, lk, _⟩ := F.ex
  exact ⟨f, _, ps, ok, hm, kp, fun s ws hl => .of_eq (h kV doc pm an cdv ct ws hl)⟩
theorem k_web_harm (T : Top K mg) : KCal P w K mg base 8 "web_harm" ["contents", "web"] (spA K 2 T_web_harm) := (p_web_harm T).key fun _ _ _ _ _ _ ws hl => match ws, hl with | [_, _], _ => rfl
theorem k_ways_by_harm (T : Top K mg) : KCal P w K mg base 8 "ways_by_harm" ["contents", "web"] (spA K 2 T_ways_by_harm) := (p_ways_by_harm T).key fun _ _ _ _ _ _ ws hl => match ws, hl with | [_, _], _ => rfl
theorem k_harm_at (T : Top K mg) : KCal P w K mg base 8 "harm_at" ["host", "contents", "web"] (spA K 3 T_harm_at) := (p_harm_at T).key fun _ _ _ _ _ _ ws hl => match ws, hl with | [_, _, _], _ => rfl
/-! ### what is shown is small -/
theorem Lk.shw {l : Lk} (h : LkOk l) : Shw 444 l.D := by
  obtain ⟨⟨a1, a2, a3, a4⟩, _, ⟨b1, b2, b3, b4⟩⟩ := h
  unfold big at b1 b2 b3 b4
  refine Shw.tup (B := 110) (n := 4) (fun x hx => ?_) (by show 4 ≤ 4; decide) (by decide)
  simp only [List.mem_cons, List.not_mem_nil, or_false] at hx
  rcases hx with rfl | rfl | rfl | rfl <;> exact Shw.int (by omega) (Nat.le_refl _)
theorem Shw.mono {B C : Nat} {d : PyData} (h : Shw B d) (hB : B ≤ C) : Shw C d := ⟨h.show_, h.nodict, h.leaves, Nat.le_trans h.weight hB⟩
theorem Wy.shw {h : Int} {x : Wy} (ok : WyOk h x) (h4 : h ≤ 4) (l : LkOk x.l) : Shw 1335 x.D := by
  obtain ⟨a0, a1, b0, b1, _, _⟩ := ok
  refine Shw.tup (B := 444) (n := 3) (fun y hy => ?_) (by show 3 ≤ 3; decide) (by decide)
  simp only [List.mem_cons, List.not_mem_nil, or_false] at hy
  rcases hy with rfl | rfl | rfl
  · exact Shw.int (by omega) (by decide)
  · exact Shw.int (by omega) (by decide)
  · exact Lk.shw l
theorem NewWeb.shw {h : Int} {ws : List Wy} (n : NewWeb h ws) : Shw 17000 (webD h ws) := by
  refine Shw.tup (B := 8016) (n := 2) (fun y hy => ?_) (by show 2 ≤ 2; decide) (by decide)
  have h1 := n.h2
  have h2 := n.h4
  simp only [List.mem_cons, List.not_mem_nil, or_false] at hy
  rcases hy with rfl | rfl
  · exact Shw.int (by omega) (by decide)
  · refine Shw.list (B := 1335) (n := 6) (fun y hy => ?_) (by rw [List.length_map]; exact n.len) (by decide)
    obtain ⟨x, hx, rfl⟩ := List.mem_map.mp hy
    exact Wy.shw (n.web.ways x hx) n.h4 (n.lk x hx)
theorem shw_new : Shw 444 (.str "new") := ⟨by decide +kernel, by decide +kernel, by decide +kernel, by decide +kernel⟩
theorem shw_old : Shw 444 (.str "old") := ⟨by decide +kernel, by decide +kernel, by decide +kernel, by decide +kernel⟩
theorem Ct.shw {l : Lk} {c : Ct} (ol : LkOk l) (f : Fits l c) : Shw 2680 c.D := by
  obtain ⟨_, _, ⟨b1, b2, b3, b4⟩⟩ := ol
  unfold big at b1 b2 b3 b4
  obtain ⟨f1, f2, f3, f4, f5, f6, f7, f8, f9, f10, f11, f12⟩ := f
  refine Shw.tup (B := 669) (n := 4) (fun y hy => ?_) (by show 4 ≤ 4; decide) (by decide)
  simp only [List.mem_cons, List.not_mem_nil, or_false] at hy
  rcases hy with rfl | rfl | rfl | rfl
  · refine Shw.tup (B := 110) (n := 2) (fun y hy => ?_) (by show 2 ≤ 2; decide) (by decide)
    simp only [List.mem_cons, List.not_mem_nil, or_false] at hy
    rcases hy with rfl | rfl <;> exact Shw.int (by omega) (by decide)
  · refine Shw.tup (B := 222) (n := 3) (fun y hy => ?_) (by show 3 ≤ 3; decide) (by decide)
    simp only [List.mem_cons, List.not_mem_nil, or_false] at hy
    rcases hy with rfl | rfl | rfl
    · exact Shw.int (by omega) (by decide)
    · generalize c.lot = lot at f5
      rcases lot with _ | ⟨s, m⟩
      · exact .none
      · obtain ⟨m1, m2, _⟩ := f5
        refine Shw.tup (B := 110) (n := 2) (fun y hy => ?_) (by show 2 ≤ 2; decide) (by decide)
        simp only [List.mem_cons, List.not_mem_nil, or_false] at hy
        rcases hy with rfl | rfl
        · cases s
          · exact ⟨shw_new.1, shw_new.2, shw_new.3, (by show 3 ≤ 110; decide)⟩
          · exact ⟨shw_old.1, shw_old.2, shw_old.3, (by show 3 ≤ 110; decide)⟩
        · exact Shw.int (by omega) (by decide)
    · exact .bool
  · refine Shw.tup (B := 110) (n := 3) (fun y hy => ?_) (by show 3 ≤ 3; decide) (by decide)
    simp only [List.mem_cons, List.not_mem_nil, or_false] at hy
    rcases hy with rfl | rfl | rfl <;> exact Shw.int (by omega) (by decide)
  · refine Shw.tup (B := 110) (n := 2) (fun y hy => ?_) (by show 2 ≤ 2; decide) (by decide)
    simp only [List.mem_cons, List.not_mem_nil, or_false] at hy
    rcases hy with rfl | rfl <;> exact Shw.int (by omega) (by decide)
theorem both_shw {h : Int} {ws : List Wy} {cs : List Ct} (n : NewWeb h ws) (k : CsOk ws cs) : Shw 40000 (.list [webD h ws, .list (cs.map Ct.D)]) := by
  refine Shw.list (B := 17000) (n := 2) (fun y hy => ?_) (by show 2 ≤ 2; decide) (by decide)
  simp only [List.mem_cons, List.not_mem_nil, or_false] at hy
  rcases hy with rfl | rfl
  · exact n.shw
  · refine Shw.list (B := 2680) (n := 6) (fun y hy => ?_) (by rw [List.length_map, k.len]; exact n.len) (by decide)
    obtain ⟨c, hc, rfl⟩ := List.mem_map.mp hy
    obtain ⟨i, hi⟩ := List.getElem?_of_mem hc
    have hb := (List.getElem?_eq_some_iff.mp hi).1
    rw [k.len] at hb
    have hx : ws[i]? = some ws[i] := List.getElem?_eq_getElem hb
    exact Ct.shw (n.lk _ (List.mem_of_getElem? hx)) (k.fit i _ c hx hi)
theorem Ct.shp (c : Ct) : Shp 3 c.D := by
  refine Shp.tup fun y hy => ?_
  simp only [List.mem_cons, List.not_mem_nil, or_false] at hy
  rcases hy with rfl | rfl | rfl | rfl <;> refine Shp.tup fun y hy => ?_ <;> simp only [List.mem_cons, List.not_mem_nil, or_false] at hy
  · rcases hy with rfl | rfl <;> exact .int
  · rcases hy with rfl | rfl | rfl
    · exact .int
    · generalize c.lot = lot
      rcases lot with _ | ⟨s, m⟩
      · exact .none
      · refine Shp.tup fun y hy => ?_
        simp only [List.mem_cons, List.not_mem_nil, or_false] at hy
        rcases hy with rfl | rfl
        · cases s
          · exact .str sk_new
          · exact .str sk_old
        · exact .int
    · exact .bool
  · rcases hy with rfl | rfl | rfl <;> exact .int
  · rcases hy with rfl | rfl <;> exact .int
theorem both_depth (h : Int) (ws : List Wy) (cs : List Ct) : (PyData.list [webD h ws, .list (cs.map Ct.D)]).depth ≤ 64 := by
  refine Nat.le_trans (Shp.list (n := 4) fun y hy => ?_).2 (by decide)
  simp only [List.mem_cons, List.not_mem_nil, or_false] at hy
  rcases hy with rfl | rfl
  · refine Shp.tup fun y hy => ?_
    simp only [List.mem_cons, List.not_mem_nil, or_false] at hy
    rcases hy with rfl | rfl
    · exact .int
    · exact ways_shp ws
  · refine Shp.list fun y hy => ?_
    obtain ⟨c, _, rfl⟩ := List.mem_map.mp hy
    exact c.shp
end
end HW

namespace HW
open PySem PySem.Spec PyProof.Rows L2 DL
section
variable {K : PySem.W.Frag} {P : Program} {w : World} {base : Heap} {mg : Str → Option Value}
local macro_rules | `(tactic| walk_at "sk") => `(tactic| with_reducible first | exact sk_new | exact sk_old | exact sk_send | exact sk_drop | exact sk_bring | exact sk_miss | exact sk_hear | exact sk_made | exact sk_twice | exact sk_lost | exact sk_zero | exact sk_one)
local macro_rules | `(tactic| walk_at "st") => `(tactic| first
  | ((with_reducible refine isVar ?_); first | refine ej_var rfl ?_)
  | ((with_reducible refine isTC ?_); first | with_reducible refine ej_int ?_ | with_reducible refine ej_str ?_ | with_reducible refine ej_non ?_ | with_reducible refine ej_bl ?_ | with_reducible refine ej_val ?_)
  | ((with_reducible refine isEJ ?_); first | with_reducible refine ej_op ?_ | with_reducible refine ej_call ?_ | with_reducible refine ej_cb ?_ | with_reducible refine ej_if ?_ | with_reducible refine ej_tup ?_ | with_reducible refine ej_andV ?_ | with_reducible refine ej_orV ?_ | with_reducible refine ej_notV ?_ | with_reducible refine ej_un ?_ | with_reducible refine ej_bits ?_ | with_reducible refine ej_dsS (by dsimp only [wipeD, List.map_cons, List.map_nil, List.set_cons_succ, List.set_cons_zero]; rfl) ?_)
  | ((with_reducible refine isAJ ?_); first | with_reducible refine aj_cons ?_ | with_reducible refine aj_nil ?_)
  | ((with_reducible refine isIx ?_); first | refine oj_ixT rfl ?_ | refine oj_ixL rfl ?_ | refine oj_ixM (by first | assumption | exact put_same _ _ _) rfl ?_)
  | ((with_reducible refine isOJ ?_); first | with_reducible refine oj_I0i ?_ | with_reducible refine oj_I0b ?_ | with_reducible refine oj_eqi ?_ | with_reducible refine oj_nei ?_ | with_reducible refine oj_eqb ?_ | with_reducible refine oj_eqsT (by walk_at "sk") ?_ | refine oj_eqsF (by walk_at "sk") (by walk_at "sk") (by decide +kernel) ?_ | with_reducible refine oj_isNone ?_ | with_reducible refine oj_notNone ?_ | with_reducible refine oj_eq_nil ?_ | with_reducible refine oj_ne_nil ?_ | refine oj_ninD (b := true) (by decide +kernel) (by decide +kernel) (by decide +kernel) ?_ | refine oj_ninD (b := false) (by decide +kernel) (by decide +kernel) (by decide +kernel) ?_)
  | ((with_reducible refine isTJ ?_); first | with_reducible refine tj_test ?_ | with_reducible refine tj_B ?_ | with_reducible refine tj_and ?_ | with_reducible refine tj_or ?_ | with_reducible refine tj_not ?_ | with_reducible refine tj_yes ?_ | with_reducible refine tj_dsS (by dsimp only [wipeD, List.map_cons, List.map_nil, List.set_cons_succ, List.set_cons_zero]; rfl) ?_)
  | ((with_reducible refine isSJ ?_); first | with_reducible refine sj_dsS (by dsimp only [wipeD, List.map_cons, List.map_nil, List.set_cons_succ, List.set_cons_zero]; rfl) ?_ | with_reducible refine sj_seq ?_ | with_reducible refine sj_set ?_ | with_reducible refine sj_ret ?_ | with_reducible refine sj_if ?_ | with_reducible refine sj_drop ?_ | with_reducible refine sj_par ?_ | with_reducible refine sj_par3 ?_ | with_reducible refine sj_asg ?_ | with_reducible refine sj_next ?_)
  | ((with_reducible refine isCJ ?_); first | with_reducible refine cj_isi_ib ?_ | refine cj_isi_same rfl ?_ | with_reducible refine cj_lenL ?_ | with_reducible refine cj_lenT ?_ | with_reducible refine cj_int ?_ | with_reducible refine cj_intb ?_ | with_reducible refine cj_max ?_ | with_reducible refine cj_min ?_)
  | ((with_reducible refine isGJ ?_); first | with_reducible refine gj_name ?_ | refine gj_tup rfl ?_ | refine gj_unl rfl ?_)
  | ((with_reducible refine isGs ?_); first | refine gsj_cons ?_ | refine gsj_nil ?_)
  | ((with_reducible refine isLJ ?_); first | with_reducible refine lj_name (by decide) ?_ | refine lj_tup rfl ?_)
  | ((with_reducible refine isLs ?_); first | refine lsj_cons ?_ | refine lsj_nil ?_)
  | ((with_reducible refine isIJ ?_); first | with_reducible refine ij_list ?_ | with_reducible refine ij_tup ?_ | with_reducible refine ij_range1 ?_ | with_reducible refine ij_range2 ?_ | with_reducible refine ij_enum ?_ | with_reducible refine ij_enumT ?_ | with_reducible refine ij_zip ?_)
  | with_reducible refine uj_neg ?_ | with_reducible refine fj_A rfl ?_ | with_reducible refine ⟨_, rfl, ?_⟩ | with_reducible refine ⟨_, _, rfl, ?_⟩ | with_reducible refine ⟨_, _, _, rfl, ?_⟩ | refine brT rfl ?_ | refine brF rfl ?_ | refine ⟨[_, _], rfl, Nat.le_of_ble_eq_true rfl, ?_⟩ | refine ⟨[_, _, _], rfl, Nat.le_of_ble_eq_true rfl, ?_⟩ | refine ⟨[_, _, _, _], rfl, Nat.le_of_ble_eq_true rfl, ?_⟩ | refine ⟨[], rfl, Nat.le_of_ble_eq_true rfl, ?_⟩ | refine ⟨[_], rfl, Nat.le_of_ble_eq_true rfl, ?_⟩ | refine ⟨[_, _, _, _, _], rfl, Nat.le_of_ble_eq_true rfl, ?_⟩)
local macro_rules | `(tactic| walk_at "sl") => `(tactic| first | walk_at "st" | with_reducible refine ej_lst ?_)
local macro_rules | `(tactic| walk_at "sd") => `(tactic| first | walk_at "st" | dsimp only [sortS, lotD])

def T_right : TF := fun xs M Q => ∃ (g : Nat) (zs : List PyData) (n : Int), xs = [.cel g] ∧ M g = some zs ∧ GenOk n zs ∧ n + 5000 ≤ 900000 ∧ Q (.dat (.bool true)) fun _ => none
theorem Ext.all (M : Ms) : Ext (fun _ => none) M := fun _ _ h => nomatch h
/-- the same ways, maybe with other links -/
structure Alike (h : Int) (ws : List Wy) (i : Nat) (vs : List Wy) : Prop where
  len : vs.length = i
  at_ : ∀ (j : Nat) (x y : Wy), ws[j]? = some x → vs[j]? = some y → x.a = y.a ∧ x.b = y.b ∧ LkOk y.l
theorem Alike.push {h : Int} {ws vs : List Wy} {i : Nat} {x : Wy} {l : Lk} (v : Alike h ws i vs) (hx : ws[i]? = some x) (ol : LkOk l) : Alike h ws (i + 1) (vs ++ [⟨x.a, x.b, l⟩]) := by
  refine ⟨by rw [List.length_append, v.len]; rfl, fun j y z hy hz => ?_⟩
  rcases Nat.lt_or_ge j vs.length with hj | hj
  · rw [List.getElem?_append_left hj] at hz
    exact v.at_ j y z hy hz
  · have hb := (List.getElem?_eq_some_iff.mp hz).1
    simp only [List.length_append, List.length_cons, List.length_nil] at hb
    rw [List.getElem?_append_right hj, show j - vs.length = 0 by omega] at hz
    obtain rfl := Option.some.inj hz
    rw [show j = i by have := v.len; omega, hx] at hy
    obtain rfl := Option.some.inj hy
    exact ⟨rfl, rfl, ol⟩
theorem Alike.new {h : Int} {ws vs : List Wy} (n : NewWeb h ws) (v : Alike h ws ws.length vs) : NewWeb h vs := by
  have pair : ∀ {j : Nat} {y : Wy}, vs[j]? = some y → ∃ x, ws[j]? = some x ∧ x.a = y.a ∧ x.b = y.b ∧ LkOk y.l := fun {j y} hy => by
    have hb := (List.getElem?_eq_some_iff.mp hy).1
    rw [v.len] at hb
    have hx : ws[j]? = some ws[j] := List.getElem?_eq_getElem hb
    exact ⟨_, hx, v.at_ j _ y hx hy⟩
  refine ⟨n.h2, n.h4, ⟨n.web.h1, fun y hy => ?_, fun j y z hy hz => ?_, by rw [v.len]; exact n.web.len⟩, by rw [v.len]; exact n.len, fun y hy => ?_⟩
  · obtain ⟨j, hj⟩ := List.getElem?_of_mem hy
    obtain ⟨x, hx, ea, eb, ol⟩ := pair hj
    obtain ⟨a0, a1, b0, b1, ne, _⟩ := n.web.ways x (List.mem_of_getElem? hx)
    rw [ea] at a0 a1
    rw [eb] at b0 b1
    rw [ea, eb] at ne
    exact ⟨a0, a1, b0, b1, ne, ol.ok⟩
  · obtain ⟨x, hx, ea, eb, _⟩ := pair hy
    obtain ⟨u, hu, ea2, eb2, _⟩ := pair hz
    have q := n.web.asc j x u hx hu
    rw [ea, eb, ea2, eb2] at q
    exact q
  · obtain ⟨j, hj⟩ := List.getElem?_of_mem hy
    obtain ⟨_, _, _, _, ol⟩ := pair hj
    exact ol
theorem NewWeb.ok {h : Int} {ws : List Wy} {cs : List Ct} (n : NewWeb h ws) (k : CsOk ws cs) : WOk h ws cs := ⟨n.web, k, fun x hx => (n.lk x hx).so⟩
/-- the harms of the ways to a host, taken the other way round -/
def hereL (ns : List Int) (ws : List Wy) (host : Int) : List Int := (ns.zip ws).filterMap fun p => if p.2.b = host then some p.1 else none
theorem hereL_eq : ∀ (ns : List Int) (ws : List Wy) (host : Int), hereL ns ws host = atL ws ns host
  | [], [], _ => rfl
  | [], _ :: _, _ => rfl
  | _ :: _, [], _ => rfl
  | n :: ns, x :: ws, host => by
    have ih := hereL_eq ns ws host
    unfold hereL atL at ih ⊢
    rw [List.zip_cons_cons, List.zip_cons_cons, List.filterMap_cons, List.filterMap_cons]
    by_cases h : x.b = host
    · rw [if_pos h]
      dsimp only
      rw [ih]
    · rw [if_neg h]
      exact ih
theorem filterMap_here (l : List (Int × Wy)) (host : Int) : (l.map fun p => if p.2.b = host then some (PyData.int p.1) else none).filterMap id = (l.filterMap fun p => if p.2.b = host then some p.1 else none).map PyData.int := by
  induction l with
  | nil => rfl
  | cons p l ih =>
    rw [List.map_cons, List.filterMap_cons, List.filterMap_cons]
    by_cases h : p.2.b = host
    · rw [if_pos h, if_pos h]
      show PyData.int p.1 :: _ = PyData.int p.1 :: _
      rw [ih]
    · rw [if_neg h, if_neg h]
      exact ih
theorem eqv_list {xs : List PyData} (h : Shp 5 (.list xs)) : PyData.eqv (.list xs) (.list xs) = true := SeqAt.eqv_refl _ h.1
theorem cntD_shp (ns : List Int) : Shp 5 (.list (cntD ns)) := Shp.list fun y hy => by
  unfold cntD at hy
  simp only [List.mem_cons, List.not_mem_nil, or_false] at hy
  rcases hy with rfl | rfl | rfl | rfl <;> exact .int
theorem cnt_small (ns : List Int) (m : Int) : 0 ≤ cnt ns m ∧ cnt ns m ≤ ns.length := by
  unfold cnt
  have h := List.length_filter_le (fun n => decide (n = m)) ns
  omega
theorem cntD_shw {ns : List Int} (h : ns.length ≤ 100) : Shw 1000 (.list (cntD ns)) := by
  refine Shw.list (B := 110) (n := 4) (fun y hy => ?_) (by show 4 ≤ 4; decide) (by decide)
  have h0 := cnt_small ns 0
  have h1 := cnt_small ns 1
  have h2 := cnt_small ns 2
  have h3 := cnt_small ns 3
  unfold cntD at hy
  simp only [List.mem_cons, List.not_mem_nil, or_false] at hy
  rcases hy with rfl | rfl | rfl | rfl <;> exact Shw.int (by omega) (Nat.le_refl _)
theorem harmL_small {ws : List Wy} {cs : List Ct} : 0 ≤ (harmL ws cs).sum ∧ (harmL ws cs).sum ≤ 3 * ws.length := by
  induction ws generalizing cs with
  | nil => exact ⟨Int.le_refl 0, Int.le_refl 0⟩
  | cons x ws ih =>
    rcases cs with _ | ⟨c, cs⟩
    · exact ⟨Int.le_refl 0, by show (0 : Int) ≤ _; omega⟩
    · obtain ⟨h1, h2⟩ := ih (cs := cs)
      obtain ⟨h3, h4⟩ := harmOf_bounds (decide (c.bit = c.ot)) c.dn (decide (x.l.q ≤ c.ans)) (decide (x.l.p ≤ c.old))
      have e : (harmL (x :: ws) (c :: cs)).sum = harm x.l c + (harmL ws cs).sum := by
        show (harm x.l c :: harmL ws cs).sum = _
        rw [List.sum_cons]
      rw [e, List.length_cons]
      unfold harm
      omega
theorem atL_small {host : Int} : ∀ {ws : List Wy} {cs : List Ct}, 0 ≤ (atL ws (harmL ws cs) host).sum ∧ (atL ws (harmL ws cs) host).sum ≤ (harmL ws cs).sum
  | [], _ => ⟨Int.le_refl 0, Int.le_refl 0⟩
  | _ :: _, [] => ⟨Int.le_refl 0, Int.le_refl 0⟩
  | x :: ws, c :: cs => by
    obtain ⟨h1, h2⟩ := atL_small (host := host) (ws := ws) (cs := cs)
    obtain ⟨h3, h4⟩ := harmOf_bounds (decide (c.bit = c.ot)) c.dn (decide (x.l.q ≤ c.ans)) (decide (x.l.p ≤ c.old))
    have hh : harm x.l c = harmOf (decide (c.bit = c.ot)) c.dn (decide (x.l.q ≤ c.ans)) (decide (x.l.p ≤ c.old)) := rfl
    rw [← hh] at h3 h4
    have e : harmL (x :: ws) (c :: cs) = harm x.l c :: harmL ws cs := rfl
    have e2 : atL (x :: ws) (harm x.l c :: harmL ws cs) host = (if x.b = host then [harm x.l c] else []) ++ atL ws (harmL ws cs) host := by
      unfold atL
      rw [List.zip_cons_cons, List.filterMap_cons]
      by_cases h : x.b = host
      · rw [if_pos h, if_pos h]
        rfl
      · rw [if_neg h, if_neg h]
        rfl
    rw [e, e2, List.sum_append, List.sum_cons]
    split
    · rw [List.sum_cons, List.sum_nil]
      omega
    · rw [List.sum_nil]
      omega
theorem log_small {i : Int} (h0 : 0 ≤ i) (h1 : i ≤ 1000) : i.natAbs.log2 < 1920 := by
  by_cases z : i.natAbs = 0
  · rw [z]; decide
  · exact (Nat.log2_lt z).mpr (Nat.lt_of_le_of_lt (show i.natAbs ≤ 1000 by omega) (Nat.lt_of_lt_of_le (show 1000 < 2 ^ 10 by decide) (Nat.pow_le_pow_right (by decide) (by decide))))
end
end HW

namespace HW
open PySem PySem.Spec PyProof.Rows L2 DL
section
variable {K : PySem.W.Frag} {P : Program} {w : World} {base : Heap} {mg : Str → Option Value}
local macro_rules | `(tactic| walk_at "sk") => `(tactic| with_reducible first | exact sk_new | exact sk_old | exact sk_send | exact sk_drop | exact sk_bring | exact sk_miss | exact sk_hear | exact sk_made | exact sk_twice | exact sk_lost | exact sk_zero | exact sk_one)
local macro_rules | `(tactic| walk_at "st") => `(tactic| first
  | ((with_reducible refine isVar ?_); first | refine ej_var rfl ?_)
  | ((with_reducible refine isTC ?_); first | with_reducible refine ej_int ?_ | with_reducible refine ej_str ?_ | with_reducible refine ej_non ?_ | with_reducible refine ej_bl ?_ | with_reducible refine ej_val ?_)
  | ((with_reducible refine isEJ ?_); first | with_reducible refine ej_op ?_ | with_reducible refine ej_call ?_ | with_reducible refine ej_cb ?_ | with_reducible refine ej_if ?_ | with_reducible refine ej_tup ?_ | with_reducible refine ej_andV ?_ | with_reducible refine ej_orV ?_ | with_reducible refine ej_notV ?_ | with_reducible refine ej_un ?_ | with_reducible refine ej_bits ?_ | with_reducible refine ej_dsS (by dsimp only [wipeD, List.map_cons, List.map_nil, List.set_cons_succ, List.set_cons_zero]; rfl) ?_)
  | ((with_reducible refine isAJ ?_); first | with_reducible refine aj_cons ?_ | with_reducible refine aj_nil ?_)
  | ((with_reducible refine isIx ?_); first | refine oj_ixT rfl ?_ | refine oj_ixL rfl ?_ | refine oj_ixM (by first | assumption | exact put_same _ _ _) rfl ?_)
  | ((with_reducible refine isOJ ?_); first | with_reducible refine oj_I0i ?_ | with_reducible refine oj_I0b ?_ | with_reducible refine oj_eqi ?_ | with_reducible refine oj_nei ?_ | with_reducible refine oj_eqb ?_ | with_reducible refine oj_eqsT (by walk_at "sk") ?_ | refine oj_eqsF (by walk_at "sk") (by walk_at "sk") (by decide +kernel) ?_ | with_reducible refine oj_isNone ?_ | with_reducible refine oj_notNone ?_ | with_reducible refine oj_eq_nil ?_ | with_reducible refine oj_ne_nil ?_ | refine oj_ninD (b := true) (by decide +kernel) (by decide +kernel) (by decide +kernel) ?_ | refine oj_ninD (b := false) (by decide +kernel) (by decide +kernel) (by decide +kernel) ?_)
  | ((with_reducible refine isTJ ?_); first | with_reducible refine tj_test ?_ | with_reducible refine tj_B ?_ | with_reducible refine tj_and ?_ | with_reducible refine tj_or ?_ | with_reducible refine tj_not ?_ | with_reducible refine tj_yes ?_ | with_reducible refine tj_dsS (by dsimp only [wipeD, List.map_cons, List.map_nil, List.set_cons_succ, List.set_cons_zero]; rfl) ?_)
  | ((with_reducible refine isSJ ?_); first | with_reducible refine sj_dsS (by dsimp only [wipeD, List.map_cons, List.map_nil, List.set_cons_succ, List.set_cons_zero]; rfl) ?_ | with_reducible refine sj_seq ?_ | with_reducible refine sj_set ?_ | with_reducible refine sj_ret ?_ | with_reducible refine sj_if ?_ | with_reducible refine sj_drop ?_ | with_reducible refine sj_par ?_ | with_reducible refine sj_par3 ?_ | with_reducible refine sj_asg ?_ | with_reducible refine sj_next ?_)
  | ((with_reducible refine isCJ ?_); first | with_reducible refine cj_isi_ib ?_ | refine cj_isi_same rfl ?_ | with_reducible refine cj_lenL ?_ | with_reducible refine cj_lenT ?_ | with_reducible refine cj_int ?_ | with_reducible refine cj_intb ?_ | with_reducible refine cj_max ?_ | with_reducible refine cj_min ?_)
  | ((with_reducible refine isGJ ?_); first | with_reducible refine gj_name ?_ | refine gj_tup rfl ?_ | refine gj_unl rfl ?_)
  | ((with_reducible refine isGs ?_); first | refine gsj_cons ?_ | refine gsj_nil ?_)
  | ((with_reducible refine isLJ ?_); first | with_reducible refine lj_name (by decide) ?_ | refine lj_tup rfl ?_)
  | ((with_reducible refine isLs ?_); first | refine lsj_cons ?_ | refine lsj_nil ?_)
  | ((with_reducible refine isIJ ?_); first | with_reducible refine ij_list ?_ | with_reducible refine ij_tup ?_ | with_reducible refine ij_range1 ?_ | with_reducible refine ij_range2 ?_ | with_reducible refine ij_enum ?_ | with_reducible refine ij_enumT ?_ | with_reducible refine ij_zip ?_)
  | with_reducible refine uj_neg ?_ | with_reducible refine fj_A rfl ?_ | with_reducible refine ⟨_, rfl, ?_⟩ | with_reducible refine ⟨_, _, rfl, ?_⟩ | with_reducible refine ⟨_, _, _, rfl, ?_⟩ | refine brT rfl ?_ | refine brF rfl ?_ | refine ⟨[_, _], rfl, Nat.le_of_ble_eq_true rfl, ?_⟩ | refine ⟨[_, _, _], rfl, Nat.le_of_ble_eq_true rfl, ?_⟩ | refine ⟨[_, _, _, _], rfl, Nat.le_of_ble_eq_true rfl, ?_⟩ | refine ⟨[], rfl, Nat.le_of_ble_eq_true rfl, ?_⟩ | refine ⟨[_], rfl, Nat.le_of_ble_eq_true rfl, ?_⟩ | refine ⟨[_, _, _, _, _], rfl, Nat.le_of_ble_eq_true rfl, ?_⟩)
local macro_rules | `(tactic| walk_at "sl") => `(tactic| first | walk_at "st" | with_reducible refine ej_lst ?_)
local macro_rules | `(tactic| walk_at "sd") => `(tactic| first | walk_at "st" | dsimp only [sortS, lotD])

theorem c__law_right (T : Top K mg) : CalG P w K mg base 9 "_law_right" (spA K 1 T_right) := by
  refine T.d__law_right.calG sc_law_right rfl fun f cdv A outer s H E hr hg => ⟨_, (pss_cons (ps_asg (pe_c (c__law_web (K := K) T) hr (by decide) (by rfl) (pa_cons (pv 0) (pa_cons pe_int pa_nil))) (pg_tupK K (n := 2) rfl (pgs_cons (pg_name (i := 1) sc_law_right.nd rfl (.inl rfl)) (pgs_cons (pg_name (i := 2) sc_law_right.nd rfl (.inl rfl)) pgs_nil))))
      (pss_cons (ps_set (i := 3) sc_law_right.nd rfl (.inl rfl) (pe_tup (pa_cons (pv 1) (pa_cons (pe_lc (own := [("_law_one", 14), ("_law_other", 15), ("_law_link_here", 16)]) rfl sc_law_right.nd (pi_listK K (pv 2)) (blkOk_by (N := N_law_right) (sc := defScope s_law_right) (by decide +kernel)) (fun _ _ _ _ _ => (pg_tupK K (n := 3) rfl (pgs_cons (pg_name (i := 14) sc_law_right.nd rfl (by first | exact .inl rfl | exact .inr rfl)) (pgs_cons (pg_name (i := 15) sc_law_right.nd rfl (by first | exact .inl rfl | exact .inr rfl)) (pgs_cons (pg_name (i := 16) sc_law_right.nd rfl (by first | exact .inl rfl | exact .inr rfl)) pgs_nil))))) (fun _ _ _ _ _ => pts_nil) (fun _ _ _ _ _ => (pe_tup (pa_cons (pv 14) (pa_cons (pv 15) (pa_cons (pe_ifExp (pt_cmpR (eqK K hr) (pe_c (c__law_random (K := K) T) hr (by decide) (by rfl) (pa_cons (pv 0) (pa_cons pe_int pa_nil))) pe_int (nomark _)) (pe_c (c__law_great (K := K) T) hr (by decide) (by rfl) (pa_cons (pv 0) pa_nil)) (pv 16)) pa_nil)))))) pa_nil))))
      (pss_cons (ps_set (i := 4) sc_law_right.nd rfl (.inr rfl) (pe_c (c__law_web_contents (K := K) T) hr (by decide) (by rfl) (pa_cons (pv 0) (pa_cons (pv 3) pa_nil))))
      (pss_cons (ps_asg (pe_tup (pa_cons (pe_callB (reprK K hg hr) (by rfl) T.b_repr bt_repr (pa_cons (pe_lst (pa_cons (pv 3) (pa_cons (pv 4) pa_nil))) pa_nil)) (pa_cons (pe_lc (own := [("_law_at", 17), ("_law_way", 18)]) rfl sc_law_right.nd (pi_enumK K (by rfl) T.b_enumerate (pa_cons (pe_ix (ixK K) (pv 3) pe_int (fun _ _ => rfl)) pa_nil)) (blkOk_by (N := N_law_right) (sc := defScope s_law_right) (by decide +kernel)) (fun _ _ _ _ _ => (pg_tupK K (n := 2) rfl (pgs_cons (pg_name (i := 17) sc_law_right.nd rfl (by first | exact .inl rfl | exact .inr rfl)) (pgs_cons (pg_name (i := 18) sc_law_right.nd rfl (by first | exact .inl rfl | exact .inr rfl)) pgs_nil)))) (fun _ _ _ _ _ => pts_nil) (fun _ _ _ _ _ => (pe_c (c__law_harm (K := K) T) hr (by decide) (by rfl) (pa_cons (pe_ix (ixK K) (pv 18) pe_int (fun _ _ => rfl)) (pa_cons (pe_ix (ixK K) (pv 4) (pv 17) (fun _ _ => rfl)) pa_nil))))) pa_nil))) (pg_tupK K (n := 2) rfl (pgs_cons (pg_name (i := 5) sc_law_right.nd rfl (.inl rfl)) (pgs_cons (pg_name (i := 6) sc_law_right.nd rfl (.inr rfl)) pgs_nil))))
      (pss_cons (ps_if (PW.pt (pw_or (pt_cmpR op_ne (pe_callB call_reprI (by rfl) T.b_repr bt_repr (pa_cons (pe_c (c_web_harm (K := K) T) hr (by decide) (by rfl) (pa_cons (pv 3) (pa_cons (pv 4) pa_nil))) pa_nil)) (pe_callB call_reprI (by rfl) T.b_repr bt_repr (pa_cons (pe_callB (sumK K rfl) (by rfl) T.b_sum bt_sum (pa_cons (pv 6) pa_nil)) pa_nil)) (nomark _)) (pw_or1 (pt_cmpR (neK K hr) (pe_cK (k_web_harm (K := K) T) hr (by decide) (by rfl) (pk_cons (pv 4) (pk_cons (pv 3) pk_nil))) (pe_callB (sumK K rfl) (by rfl) T.b_sum bt_sum (pa_cons (pv 6) pa_nil)) (nomark _))))) (pss_one (ps_ret pe_bl)) pss_nil)
      (pss_cons (ps_setLc (i := 7) (own := [("_law_many", 19)]) rfl sc_law_right.nd rfl rfl (sw_true rfl rfl rfl (by decide +kernel)) (pi_range1 (by rfl) T.b_range (pa_cons pe_int pa_nil)) (blkOk_by (N := N_law_right) (sc := defScope s_law_right) (by decide +kernel)) (fun _ _ _ _ _ => (pg_name (i := 19) sc_law_right.nd rfl (by first | exact .inl rfl | exact .inr rfl))) (fun _ _ _ _ _ => pts_nil) (fun _ _ _ _ _ => (pe_callB (lenK K) (by rfl) T.b_len bt_len (pa_cons (pe_lc (own := [("_law_harm_here", 20)]) rfl sc_law_right.nd (pi_listK K (pv 6)) (blkOk_by (by rfl)) (fun _ _ _ _ _ => (pg_name (i := 20) sc_law_right.nd rfl (by first | exact .inl rfl | exact .inr rfl))) (fun _ _ _ _ _ => (pts_one (pt_cmpR (eqK K hr) (pv 20) (pv 19) (nomark _)))) (fun _ _ _ _ _ => (pv 20))) pa_nil))))
      (pss_cons (ps_set (i := 8) sc_law_right.nd rfl (.inl rfl) (pe_c (c_ways_by_harm (K := K) T) hr (by decide) (by rfl) (pa_cons (pv 3) (pa_cons (pv 4) pa_nil))))
      (pss_cons (ps_if (PW.pt (pw_or (pt_cmpR op_ne (pe_callB (reprK K hg hr) (by rfl) T.b_repr bt_repr (pa_cons (pv 8) pa_nil)) (pe_callB (reprK K hg hr) (by rfl) T.b_repr bt_repr (pa_cons (pv 7) pa_nil)) (nomark _)) (pw_or1 (pt_cmpR (neK K hr) (pe_cK (k_ways_by_harm (K := K) T) hr (by decide) (by rfl) (pk_cons (pv 4) (pk_cons (pv 3) pk_nil))) (pv 7) (nomark _))))) (pss_one (ps_ret pe_bl)) pss_nil)
      (pss_cons (ps_expr (pe_appK K (pv 8) (pa_cons pe_non pa_nil)))
      (pss_cons (ps_for PassesOwn.never rfl (pi_range1 (by rfl) T.b_range (pa_cons (pv 1) pa_nil)) (pg_name (i := 9) sc_law_right.nd rfl (.inr rfl)) (pss_cons (ps_set (i := 10) sc_law_right.nd rfl (.inl rfl) (pe_callB (sumK K rfl) (by rfl) T.b_sum bt_sum (pa_cons (pe_lc (own := [("_law_harm_here", 20), ("_law_way", 18)]) rfl sc_law_right.nd (pi_zipK K (by rfl) T.b_zip (pa_cons (pv 6) (pa_cons (pe_ix (ixK K) (pv 3) pe_int (fun _ _ => rfl)) pa_nil))) (blkOk_by (N := N_law_right) (sc := defScope s_law_right) (by decide +kernel)) (fun _ _ _ _ _ => (pg_tupK K (n := 2) rfl (pgs_cons (pg_name (i := 20) sc_law_right.nd rfl (by first | exact .inl rfl | exact .inr rfl)) (pgs_cons (pg_name (i := 18) sc_law_right.nd rfl (by first | exact .inl rfl | exact .inr rfl)) pgs_nil)))) (fun _ _ _ _ _ => (pts_one (pt_cmpR (eqK K hr) (pe_ix (ixK K) (pv 18) pe_int (fun _ _ => rfl)) (pv 9) (nomark _)))) (fun _ _ _ _ _ => (pv 20))) pa_nil)))
      (pss_one (ps_if (PW.pt (pw_or (pt_cmpR op_ne (pe_callB call_reprI (by rfl) T.b_repr bt_repr (pa_cons (pe_c (c_harm_at (K := K) T) hr (by decide) (by rfl) (pa_cons (pv 3) (pa_cons (pv 4) (pa_cons (pv 9) pa_nil)))) pa_nil)) (pe_callB call_reprI (by rfl) T.b_repr bt_repr (pa_cons (pv 10) pa_nil)) (nomark _)) (pw_or1 (pt_cmpR (neK K hr) (pe_cK (k_harm_at (K := K) T) hr (by decide) (by rfl) (pk_cons (pv 9) (pk_cons (pv 4) (pk_cons (pv 3) pk_nil)))) (pv 10) (nomark _))))) (pss_one (ps_ret pe_bl)) pss_nil))))
      (pss_cons (ps_set (i := 11) sc_law_right.nd rfl (.inl rfl) (pe_c (c__law_web_run (K := K) T) hr (by decide) (by rfl) (pa_cons (pv 0) (pa_cons (pv 3) (pa_cons (pv 4) (pa_cons pe_int pa_nil))))))
      (pss_cons (ps_asg (pe_c (c__law_web_played (K := K) T) hr (by decide) (by rfl) (pa_cons (pv 3) (pa_cons (pv 4) (pa_cons (pv 11) pa_nil)))) (pg_tupK K (n := 2) rfl (pgs_cons (pg_name (i := 12) sc_law_right.nd rfl (.inl rfl)) (pgs_cons (pg_name (i := 13) sc_law_right.nd rfl (.inl rfl)) pgs_nil))))
      (pss_cons (ps_if (PW.pt (pw_or (pt_cmpR op_gt (pe_callB (lenK K) (by rfl) T.b_len bt_len (pa_cons (pv 13) pa_nil)) (pe_callB (sumK K rfl) (by rfl) T.b_sum bt_sum (pa_cons (pv 6) pa_nil)) (nomark _)) (pw_or1 (pt_cmpR op_gt (pe_op op_add (pe_c (c_web_harm (K := K) T) hr (by decide) (by rfl) (pa_cons (pv 3) (pa_cons (pv 12) pa_nil))) (pe_callB (lenK K) (by rfl) T.b_len bt_len (pa_cons (pv 13) pa_nil))) (pe_callB (sumK K rfl) (by rfl) T.b_sum bt_sum (pa_cons (pv 6) pa_nil)) (nomark _))))) (pss_one (ps_ret pe_bl)) pss_nil)
      (pss_one (ps_ret (pe_and (pe_cmpR op_eq (pe_callB (reprK K hg hr) (by rfl) T.b_repr bt_repr (pa_cons (pe_lst (pa_cons (pv 3) (pa_cons (pv 4) pa_nil))) pa_nil)) (pv 5) (nomark _)) (pe_one (pe_cmpR (eqK K hr) (pe_c (c_ways_by_harm (K := K) T) hr (by decide) (by rfl) (pa_cons (pv 3) (pa_cons (pv 4) pa_nil))) (pv 7) (nomark _))))))))))))))))))), ?_⟩
  rintro xs M Q - ⟨g, zs, n, rfl, hgM, hz, hn, q⟩
  refine sj_ds (ds' := [some _, none, none, none, none, none, none, none, none, none, none, none, none, none, none, none, none, none, none, none, none]) rfl ?_
  refine sj_cut (fun ds' M' => ∃ (h : Int) (ws : List Wy) (ys : List PyData), NewWeb h ws ∧ GenOk (n + 330) ys ∧ ds' = [some (.cel g), some (.dat (.int h)), some (.dat (.list (ws.map Wy.D))), none, none, none, none, none, none, none, none, none, none, none, none, none, none, none, none, none, none] ∧ M' = put M g ys) ?_ ?_
  · repeat walk_at "st"
    refine ⟨g, [_], _, _, rfl, hgM, hz, by omega, rfl, fun y0 r0 g0 hr0 => ?_⟩
    obtain ⟨h, ws0, rfl, nw0⟩ := hr0
    repeat walk_at "st"
    exact ⟨h, ws0, y0, nw0, g0, rfl, rfl⟩
  rintro ds1 M1 ⟨h, ws0, y0, nw0, g0, rfl, rfl⟩
  refine sj_cut (fun ds' M' => ∃ (ws : List Wy) (ys : List PyData), NewWeb h ws ∧ GenOk (n + 450) ys ∧ ds' = [some (.cel g), some (.dat (.int h)), some (.dat (.list (ws0.map Wy.D))), some (.dat (webD h ws)), none, none, none, none, none, none, none, none, none, none, none, none, none, none, none, none, none] ∧ M' = put M g ys) ?_ ?_
  · refine sj_set (ej_tup (aj_cons (ej_var rfl (aj_cons (ej_freeze (ej_lc ?_))))))
    repeat walk_at "st"
    intro k hk
    have hkg : k ≠ g := fun e => by rw [e, put_same] at hk; cases hk
    refine ⟨fun (i : Nat) M' => ∃ (vs : List Wy) (ys : List PyData), Alike h ws0 i vs ∧ GenOk (n + 330 + 20 * i) ys ∧ M' = put (put M g ys) k (vs.map Wy.D), ⟨[], y0, ⟨rfl, fun _ _ _ _ z => absurd z (by simp)⟩, g0.mono (by omega), rfl⟩, fun i d M' hd hI => ?_, fun M' hI => ?_⟩
    · obtain ⟨x, hx, rfl⟩ := map_get hd
      have hi : i < ws0.length := (List.getElem?_eq_some_iff.mp hx).1
      have h6 := nw0.len
      obtain ⟨vs, ys, al, g1, rfl⟩ := hI
      have hl := al.len
      refine lj_tup rfl (lsj_cons (lj_name (by decide) (lsj_cons (lj_name (by decide) (lsj_cons (lj_name (by decide) (lsj_nil (tj_yes (brT rfl ?_)))))))))
      repeat walk_at "st"
      refine ⟨g, _, _, _, rfl, by rw [put_ne (Ne.symm hkg)]; exact put_same _ _ _, g1, by omega, by decide, by decide, fun y1 r g2 r0 r1 => ?_⟩
      rw [put_gk hkg]
      repeat walk_at "st"
      refine brD (fun hr0 => ?_) (fun hr0 => ?_)
      · repeat walk_at "st"
        refine ⟨g, [], _, _, rfl, by rw [put_ne (Ne.symm hkg)]; exact put_same _ _ _, g2, by omega, rfl, fun y2 r2 g3 hr2 => ?_⟩
        obtain ⟨lk, rfl, ol⟩ := hr2
        rw [put_gk hkg]
        refine aj_nil ⟨[_, _, _], rfl, Nat.le_of_ble_eq_true rfl, _, _, rfl, put_same _ _ _, by rw [List.length_map]; omega, ?_⟩
        rw [put_put]
        exact ⟨vs ++ [⟨x.a, x.b, lk⟩], y2, al.push hx ol, g3.mono (by omega), by rw [List.map_append]; rfl⟩
      · refine ej_var rfl (aj_nil ⟨[_, _, _], rfl, Nat.le_of_ble_eq_true rfl, _, _, rfl, put_same _ _ _, by rw [List.length_map]; omega, ?_⟩)
        rw [put_put]
        exact ⟨vs ++ [⟨x.a, x.b, x.l⟩], y1, al.push hx (nw0.lk x (List.mem_of_getElem? hx)), g2.mono (by omega), by rw [List.map_append]; rfl⟩
    · obtain ⟨vs, ys, al, g1, rfl⟩ := hI
      rw [List.length_map] at al g1
      have h6 := nw0.len
      refine ⟨k, _, rfl, put_same _ _ _, aj_nil ⟨[_, _], rfl, Nat.le_of_ble_eq_true rfl, vs, ys, al.new nw0, g1.mono (by omega), rfl, ?_⟩⟩
      exact del_put (by rw [put_ne hkg]; rw [put_ne hkg] at hk; exact hk)
  rintro ds2 M2 ⟨ws, y1, nw, g1, rfl, rfl⟩
  refine sj_cut (fun ds' M' => ∃ (cs : List Ct) (ys : List PyData), CsOk ws cs ∧ GenOk (n + 990) ys ∧ ds' = [some (.cel g), some (.dat (.int h)), some (.dat (.list (ws0.map Wy.D))), some (.dat (webD h ws)), some (.dat (.list (cs.map Ct.D))), none, none, none, none, none, none, none, none, none, none, none, none, none, none, none, none] ∧ M' = put M g ys) ?_ ?_
  · repeat walk_at "st"
    refine ⟨g, h, ws, _, _, rfl, put_same _ _ _, g1, by omega, nw.len, nw.lk, fun ys cs g2 kcs => ?_⟩
    rw [put_put]
    repeat walk_at "st"
    exact ⟨cs, ys, kcs, g2.mono (by omega), rfl, rfl⟩
  rintro ds3 M3 ⟨cs, y2, kcs, g2, rfl, rfl⟩
  have wok := nw.ok kcs
  have hsh := both_shw nw kcs
  have hdp := both_depth h ws cs
  have hle := nw.len
  have hl := harmL_len kcs
  refine sj_cut (fun ds' M' => ds' = [some (.cel g), some (.dat (.int h)), some (.dat (.list (ws0.map Wy.D))), some (.dat (webD h ws)), some (.dat (.list (cs.map Ct.D))), some (.dat (.str (PyData.list [webD h ws, .list (cs.map Ct.D)]).shown)), some (.dat (.list ((harmL ws cs).map PyData.int))), none, none, none, none, none, none, none, none, none, none, none, none, none, none] ∧ M' = put M g y2) ?_ ?_
  · refine sj_asg (ej_tup (aj_cons ?_))
    repeat walk_at "sl"
    refine cj_reprL hsh (by decide) hdp ?_
    refine aj_cons (ej_lc_dat ?_)
    repeat walk_at "st"
    refine ⟨(harmL ws cs).map fun m => some (.int m), by rw [List.length_map, hl, enums_length, List.length_map], by rw [enums_length, List.length_map]; omega, fun i d o hd ho => ?_, ?_⟩
    · obtain ⟨z, hz2, hd2⟩ := enums_get hd
      rw [Nat.zero_add] at hd2
      subst hd2
      obtain ⟨x, hx, rfl⟩ := map_get hz2
      obtain ⟨c, hc, fc⟩ := kcs.at hx
      obtain rfl := at_get ho (harmL_get hx hc)
      refine lj_tup rfl (lsj_cons (lj_name (by decide) (lsj_cons (lj_name (by decide) (lsj_nil ?_)))))
      intro M'
      refine tj_yes ⟨rfl, rfl, fun y hy => ?_⟩
      cases hy
      repeat walk_at "st"
      refine oj_ixL (atI_nat (get_map hc)) ?_
      repeat walk_at "st"
      exact ⟨[_, _], _, rfl, ⟨x.l, c, rfl, fc, rfl⟩, rfl, rfl⟩
    · rw [filterMap_some]
      repeat walk_at "st"
      exact ⟨rfl, rfl⟩
  rintro ds4 M4 ⟨rfl, rfl⟩
  have hsm := harmL_small (ws := ws) (cs := cs)
  generalize hkept : (PyData.list [webD h ws, .list (cs.map Ct.D)]).shown = kept
  refine sj_cut (fun ds' M' => ds' = [some (.cel g), some (.dat (.int h)), some (.dat (.list (ws0.map Wy.D))), some (.dat (webD h ws)), some (.dat (.list (cs.map Ct.D))), some (.dat (.str kept)), some (.dat (.list ((harmL ws cs).map PyData.int))), none, none, none, none, none, none, none, none, none, none, none, none, none, none] ∧ M' = put M g y2) ?_ ?_
  · repeat walk_at "st"
    refine ⟨[_, _], _, rfl, ⟨h, ws, cs, rfl, wok, rfl⟩, ?_⟩
    repeat walk_at "st"
    refine cj_repr (log_small hsm.1 (by omega)) ?_
    repeat walk_at "st"
    refine cj_sumL ?_
    repeat walk_at "st"
    refine cj_repr (log_small hsm.1 (by omega)) ?_
    refine oj_sneF ?_
    repeat walk_at "st"
    refine ej_callW ?_
    repeat walk_at "st"
    refine ⟨rfl, rfl, [_, _], _, rfl, ⟨h, ws, cs, rfl, wok, rfl⟩, ?_⟩
    repeat walk_at "st"
    refine cj_sumL ?_
    repeat walk_at "st"
    rw [decide_eq_true rfl]
    repeat walk_at "st"
    exact ⟨rfl, rfl⟩
  rintro ds5 M5 ⟨rfl, rfl⟩
  refine sj_cut (fun ds' M' => ds' = [some (.cel g), some (.dat (.int h)), some (.dat (.list (ws0.map Wy.D))), some (.dat (webD h ws)), some (.dat (.list (cs.map Ct.D))), some (.dat (.str kept)), some (.dat (.list ((harmL ws cs).map PyData.int))), some (.dat (.list (cntD (harmL ws cs)))), none, none, none, none, none, none, none, none, none, none, none, none, none] ∧ M' = put M g y2) ?_ ?_
  · refine sj_set (ej_lc_dat ?_)
    generalize harmL ws cs = ns at *
    repeat walk_at "st"
    refine ⟨by decide, (cntD ns).map some, rfl, by show 4 ≤ 10000; decide, fun i d o hd ho => ?_, ?_⟩
    · obtain ⟨hi, rfl⟩ := rngI_get hd
      have ho' : o = some (.int (cnt ns (0 + (i : Int)))) := by
        have hi : i < 4 := hi
        have hc : i = 0 ∨ i = 1 ∨ i = 2 ∨ i = 3 := by omega
        rcases hc with rfl | rfl | rfl | rfl <;> exact (Option.some.inj ho).symm
      subst ho'
      repeat walk_at "st"
      intro M'
      repeat walk_at "st"
      refine ⟨rfl, rfl, fun y hy => ?_⟩
      cases hy
      repeat walk_at "st"
      refine ej_lc_dat ?_
      repeat walk_at "st"
      refine ⟨ns.map fun n => if n = 0 + (i : Int) then some (PyData.int n) else none, by rw [List.length_map, List.length_map], by rw [List.length_map]; omega, fun j d o hd ho => ?_, ?_⟩
      · obtain ⟨n, hn, rfl⟩ := map_get hd
        obtain rfl := at_get ho hn
        repeat walk_at "st"
        intro M''
        repeat walk_at "st"
        by_cases hb : n = 0 + (i : Int)
        · simp only [if_pos hb]
          refine ⟨True.intro, decide_eq_true hb, fun y hy => ?_⟩
          cases hy
          repeat walk_at "st"
          exact ⟨rfl, rfl⟩
        · simp only [if_neg hb]
          exact ⟨True.intro, decide_eq_false hb, fun y hy => nomatch hy⟩
      · repeat walk_at "st"
        rw [filterMap_cnt]
        rw [Int.zero_add]
        exact ⟨rfl, rfl⟩
    · exact ⟨rfl, rfl⟩
  rintro ds6 M6 ⟨rfl, rfl⟩
  have hcl := (cntD_shp (harmL ws cs)).shaped (by decide)
  have hce := eqv_list (cntD_shp (harmL ws cs))
  have hcd : (PyData.list (cntD (harmL ws cs))).depth ≤ 64 := Nat.le_trans (cntD_shp (harmL ws cs)).2 (by decide)
  have hcs : Shw 1000 (.list (cntD (harmL ws cs))) := cntD_shw (by rw [hl]; omega)
  refine sj_cut (fun ds' M' => ∃ k, (put M g y2) k = none ∧ ds' = [some (.cel g), some (.dat (.int h)), some (.dat (.list (ws0.map Wy.D))), some (.dat (webD h ws)), some (.dat (.list (cs.map Ct.D))), some (.dat (.str kept)), some (.dat (.list ((harmL ws cs).map PyData.int))), some (.dat (.list (cntD (harmL ws cs)))), some (.cel k), none, none, none, none, none, none, none, none, none, none, none, none] ∧ M' = put (put M g y2) k (cntD (harmL ws cs))) ?_ ?_
  · repeat walk_at "st"
    refine ⟨h, ws, cs, rfl, wok, fun k hk => ?_⟩
    exact ⟨k, hk, rfl, rfl⟩
  rintro ds7 M7 ⟨k, hk, rfl, rfl⟩
  refine sj_cut (fun ds' M' => ds' = [some (.cel g), some (.dat (.int h)), some (.dat (.list (ws0.map Wy.D))), some (.dat (webD h ws)), some (.dat (.list (cs.map Ct.D))), some (.dat (.str kept)), some (.dat (.list ((harmL ws cs).map PyData.int))), some (.dat (.list (cntD (harmL ws cs)))), some (.cel k), none, none, none, none, none, none, none, none, none, none, none, none] ∧ M' = put (put M g y2) k (cntD (harmL ws cs))) ?_ ?_
  · repeat walk_at "st"
    refine cj_reprM (put_same _ _ _) hcs (by decide) hcd ?_
    repeat walk_at "st"
    refine cj_reprL hcs (by decide) hcd ?_
    refine oj_sneF ?_
    repeat walk_at "st"
    refine ej_freeze (ej_callW ?_)
    repeat walk_at "st"
    refine ⟨rfl, rfl, h, ws, cs, rfl, wok, fun k2 hk2 => ⟨k2, _, rfl, put_same _ _ _, ?_⟩⟩
    rw [del_put hk2]
    repeat walk_at "st"
    refine oj_neD hcl hcl ?_
    rw [hce]
    repeat walk_at "st"
    exact ⟨rfl, rfl⟩
  rintro ds8 M8 ⟨rfl, rfl⟩
  refine sj_cut (fun ds' M' => ds' = [some (.cel g), some (.dat (.int h)), some (.dat (.list (ws0.map Wy.D))), some (.dat (webD h ws)), some (.dat (.list (cs.map Ct.D))), some (.dat (.str kept)), some (.dat (.list ((harmL ws cs).map PyData.int))), some (.dat (.list (cntD (harmL ws cs)))), some (.cel k), none, none, none, none, none, none, none, none, none, none, none, none] ∧ Ext (put M g y2) M') ?_ ?_
  · refine sj_drop (ej_append (ej_var rfl ⟨k, rfl, by rw [put_same]; rfl, aj_cons (ej_non (aj_nil ⟨_, _, rfl, put_same _ _ _, by show 4 < 100000; decide, rfl, ?_⟩))⟩))
    exact ((Ext.refl _).put hk).put hk
  rintro ds9 M9 ⟨rfl, hext⟩
  refine sj_weak hext ?_
  clear hext
  have h2 := nw.h2
  have h4 := nw.h4
  refine sj_cut (fun ds' M' => ∃ x9 x10, ds' = [some (.cel g), some (.dat (.int h)), some (.dat (.list (ws0.map Wy.D))), some (.dat (webD h ws)), some (.dat (.list (cs.map Ct.D))), some (.dat (.str kept)), some (.dat (.list ((harmL ws cs).map PyData.int))), some (.dat (.list (cntD (harmL ws cs)))), some (.cel k), x9, x10, none, none, none, none, none, none, none, none, none, none] ∧ M' = put M g y2) ?_ ?_
  · refine sj_for ?_
    repeat walk_at "st"
    refine ⟨by omega, fun i ds' M' => ∃ x9 x10, ds' = [some (.cel g), some (.dat (.int h)), some (.dat (.list (ws0.map Wy.D))), some (.dat (webD h ws)), some (.dat (.list (cs.map Ct.D))), some (.dat (.str kept)), some (.dat (.list ((harmL ws cs).map PyData.int))), some (.dat (.list (cntD (harmL ws cs)))), some (.cel k), x9, x10, none, none, none, none, none, none, none, none, none, none] ∧ M' = put M g y2, ⟨none, none, rfl, rfl⟩, fun i d ds' M' hd hI => ?_, fun ds' M' hI => hI⟩
    obtain ⟨hi, rfl⟩ := rngI_get hd
    rw [Int.zero_add]
    obtain ⟨x9, x10, rfl, rfl⟩ := hI
    have hat := atL_small (ws := ws) (cs := cs) (host := (i : Int))
    refine gj_name (sj_cut (fun ds' M' => ds' = [some (.cel g), some (.dat (.int h)), some (.dat (.list (ws0.map Wy.D))), some (.dat (webD h ws)), some (.dat (.list (cs.map Ct.D))), some (.dat (.str kept)), some (.dat (.list ((harmL ws cs).map PyData.int))), some (.dat (.list (cntD (harmL ws cs)))), some (.cel k), some (.dat (.int (i : Nat))), some (.dat (.int (atL ws (harmL ws cs) (i : Nat)).sum)), none, none, none, none, none, none, none, none, none, none] ∧ M' = put M g y2) ?_ ?_)
    · refine sj_set (ej_cb (aj_cons (ej_lc_dat ?_)))
      repeat walk_at "st"
      refine ⟨((harmL ws cs).zip ws).map fun p => if p.2.b = (i : Int) then some (PyData.int p.1) else none, by rw [List.length_map, zips_length, List.length_zip, List.length_map, List.length_map], by rw [zips_length, List.length_map, List.length_map]; omega, fun j d o hd ho => ?_, ?_⟩
      · obtain ⟨u, v, hu, hv, rfl⟩ := zips_get hd
        obtain ⟨m, hm, rfl⟩ := map_get hu
        obtain ⟨x, hx, rfl⟩ := map_get hv
        have hp : ((harmL ws cs).zip ws)[j]? = some (m, x) := by
          rw [List.getElem?_zip_eq_some]
          exact ⟨hm, hx⟩
        obtain rfl := at_get ho hp
        refine lj_tup rfl (lsj_cons (lj_name (by decide) (lsj_cons (lj_name (by decide) (lsj_nil ?_)))))
        intro M'
        repeat walk_at "st"
        by_cases hb : x.b = (i : Int)
        · simp only [if_pos hb]
          refine ⟨True.intro, decide_eq_true hb, fun y hy => ?_⟩
          cases hy
          repeat walk_at "st"
          exact ⟨rfl, rfl⟩
        · simp only [if_neg hb]
          exact ⟨True.intro, decide_eq_false hb, fun y hy => nomatch hy⟩
      · rw [filterMap_here]
        refine aj_nil (cj_sumL ?_)
        have e := hereL_eq (harmL ws cs) ws (i : Int)
        unfold hereL at e
        rw [e]
        exact ⟨rfl, rfl⟩
    rintro ds' M' ⟨rfl, rfl⟩
    repeat walk_at "st"
    refine ⟨[_, _, _], _, rfl, ⟨h, i, ws, cs, rfl, wok, by omega, by omega, rfl⟩, ?_⟩
    repeat walk_at "st"
    refine cj_repr (log_small hat.1 (by omega)) ?_
    repeat walk_at "st"
    refine cj_repr (log_small hat.1 (by omega)) ?_
    refine oj_sneF ?_
    repeat walk_at "st"
    refine ej_callW ?_
    repeat walk_at "st"
    refine ⟨rfl, rfl, [_, _, _], _, rfl, ⟨h, i, ws, cs, rfl, wok, by omega, by omega, rfl⟩, ?_⟩
    repeat walk_at "st"
    rw [decide_eq_true rfl]
    repeat walk_at "st"
    exact rfl
  rintro ds10 M10 ⟨x9, x10, rfl, rfl⟩
  refine sj_cut (fun ds' M' => ∃ (r : List St) (ys : List PyData), RunOk ws cs r ∧ r.length ≤ 60 ∧ ds' = [some (.cel g), some (.dat (.int h)), some (.dat (.list (ws0.map Wy.D))), some (.dat (webD h ws)), some (.dat (.list (cs.map Ct.D))), some (.dat (.str kept)), some (.dat (.list ((harmL ws cs).map PyData.int))), some (.dat (.list (cntD (harmL ws cs)))), some (.cel k), x9, x10, some (.dat (.list (r.map stD))), none, none, none, none, none, none, none, none, none] ∧ M' = put M g ys) ?_ ?_
  · repeat walk_at "st"
    refine ⟨g, h, ws, cs, _, _, rfl, put_same _ _ _, g2, by omega, nw.len, nw.lk, kcs, fun ys r g3 hrun hrl => ?_⟩
    rw [put_put]
    exact ⟨r, ys, hrun, hrl, rfl, rfl⟩
  rintro ds11 M11 ⟨r, y3, hrun, hrl, rfl, rfl⟩
  refine sj_cut (fun ds' M' => ∃ wrs : List PyData, (wrs.length : Int) + (harmL ws (after ws cs r)).sum ≤ (harmL ws cs).sum ∧ CsOk ws (after ws cs r) ∧ ds' = [some (.cel g), some (.dat (.int h)), some (.dat (.list (ws0.map Wy.D))), some (.dat (webD h ws)), some (.dat (.list (cs.map Ct.D))), some (.dat (.str kept)), some (.dat (.list ((harmL ws cs).map PyData.int))), some (.dat (.list (cntD (harmL ws cs)))), some (.cel k), x9, x10, some (.dat (.list (r.map stD))), some (.dat (.list ((after ws cs r).map Ct.D))), some (.dat (.list wrs)), none, none, none, none, none, none, none] ∧ M' = put M g y3) ?_ ?_
  · repeat walk_at "st"
    refine ⟨h, ws, cs, r, rfl, nw.lk, kcs, hrun, hrl, fun wrs hw kc2 => ?_⟩
    repeat walk_at "st"
    exact ⟨wrs, hw, kc2, rfl, rfl⟩
  rintro ds12 M12 ⟨wrs, hw, kc2, rfl, rfl⟩
  have wok2 := nw.ok kc2
  have hsm2 := harmL_small (ws := ws) (cs := after ws cs r)
  refine sj_cut (fun ds' M' => ds' = [some (.cel g), some (.dat (.int h)), some (.dat (.list (ws0.map Wy.D))), some (.dat (webD h ws)), some (.dat (.list (cs.map Ct.D))), some (.dat (.str kept)), some (.dat (.list ((harmL ws cs).map PyData.int))), some (.dat (.list (cntD (harmL ws cs)))), some (.cel k), x9, x10, some (.dat (.list (r.map stD))), some (.dat (.list ((after ws cs r).map Ct.D))), some (.dat (.list wrs)), none, none, none, none, none, none, none] ∧ M' = put M g y3) ?_ ?_
  · repeat walk_at "st"
    refine cj_sumL ?_
    repeat walk_at "st"
    rw [decide_eq_false (by omega)]
    repeat walk_at "st"
    refine ⟨[_, _], _, rfl, ⟨h, ws, after ws cs r, rfl, wok2, rfl⟩, ?_⟩
    repeat walk_at "st"
    refine cj_sumL ?_
    repeat walk_at "st"
    rw [decide_eq_false (by omega)]
    repeat walk_at "st"
    exact ⟨rfl, rfl⟩
  rintro ds13 M13 ⟨rfl, rfl⟩
  refine sj_ret (ej_weak ?_)
  repeat walk_at "sl"
  refine cj_reprL hsh (by decide) hdp ?_
  rw [hkept]
  repeat walk_at "st"
  refine oj_seqT ⟨_, rfl, brT rfl ?_⟩
  refine ej_op (ej_freeze (ej_call (aj_cons (ej_var rfl (aj_cons (ej_var rfl (aj_nil (fj_A rfl ⟨h, ws, cs, rfl, wok, fun k2 hk2 => ⟨k2, _, rfl, put_same _ _ _, ?_⟩⟩))))))))
  rw [del_put hk2]
  repeat walk_at "st"
  refine oj_eqD hcl hcl ?_
  rw [hce]
  exact ⟨_, Ext.all _, q⟩
end
end HW

namespace HW
open PySem PySem.Spec PyProof.Rows L2 DL
section
variable {K : PySem.W.Frag} {P : Program} {w : World} {base : Heap} {mg : Str → Option Value}
local macro_rules | `(tactic| walk_at "sk") => `(tactic| with_reducible first | exact sk_new | exact sk_old | exact sk_send | exact sk_drop | exact sk_bring | exact sk_miss | exact sk_hear | exact sk_made | exact sk_twice | exact sk_lost | exact sk_zero | exact sk_one)
local macro_rules | `(tactic| walk_at "st") => `(tactic| first
  | ((with_reducible refine isVar ?_); first | refine ej_var rfl ?_)
  | ((with_reducible refine isTC ?_); first | with_reducible refine ej_int ?_ | with_reducible refine ej_str ?_ | with_reducible refine ej_non ?_ | with_reducible refine ej_bl ?_ | with_reducible refine ej_val ?_)
  | ((with_reducible refine isEJ ?_); first | with_reducible refine ej_op ?_ | with_reducible refine ej_call ?_ | with_reducible refine ej_cb ?_ | with_reducible refine ej_if ?_ | with_reducible refine ej_tup ?_ | with_reducible refine ej_andV ?_ | with_reducible refine ej_orV ?_ | with_reducible refine ej_notV ?_ | with_reducible refine ej_un ?_ | with_reducible refine ej_bits ?_ | with_reducible refine ej_dsS (by dsimp only [wipeD, List.map_cons, List.map_nil, List.set_cons_succ, List.set_cons_zero]; rfl) ?_)
  | ((with_reducible refine isAJ ?_); first | with_reducible refine aj_cons ?_ | with_reducible refine aj_nil ?_)
  | ((with_reducible refine isIx ?_); first | refine oj_ixT rfl ?_ | refine oj_ixL rfl ?_ | refine oj_ixM (by first | assumption | exact put_same _ _ _) rfl ?_)
  | ((with_reducible refine isOJ ?_); first | with_reducible refine oj_I0i ?_ | with_reducible refine oj_I0b ?_ | with_reducible refine oj_eqi ?_ | with_reducible refine oj_nei ?_ | with_reducible refine oj_eqb ?_ | with_reducible refine oj_eqsT (by walk_at "sk") ?_ | refine oj_eqsF (by walk_at "sk") (by walk_at "sk") (by decide +kernel) ?_ | with_reducible refine oj_isNone ?_ | with_reducible refine oj_notNone ?_ | with_reducible refine oj_eq_nil ?_ | with_reducible refine oj_ne_nil ?_ | refine oj_ninD (b := true) (by decide +kernel) (by decide +kernel) (by decide +kernel) ?_ | refine oj_ninD (b := false) (by decide +kernel) (by decide +kernel) (by decide +kernel) ?_)
  | ((with_reducible refine isTJ ?_); first | with_reducible refine tj_test ?_ | with_reducible refine tj_B ?_ | with_reducible refine tj_and ?_ | with_reducible refine tj_or ?_ | with_reducible refine tj_not ?_ | with_reducible refine tj_yes ?_ | with_reducible refine tj_dsS (by dsimp only [wipeD, List.map_cons, List.map_nil, List.set_cons_succ, List.set_cons_zero]; rfl) ?_)
  | ((with_reducible refine isSJ ?_); first | with_reducible refine sj_dsS (by dsimp only [wipeD, List.map_cons, List.map_nil, List.set_cons_succ, List.set_cons_zero]; rfl) ?_ | with_reducible refine sj_seq ?_ | with_reducible refine sj_set ?_ | with_reducible refine sj_ret ?_ | with_reducible refine sj_if ?_ | with_reducible refine sj_drop ?_ | with_reducible refine sj_par ?_ | with_reducible refine sj_par3 ?_ | with_reducible refine sj_asg ?_ | with_reducible refine sj_next ?_)
  | ((with_reducible refine isCJ ?_); first | with_reducible refine cj_isi_ib ?_ | refine cj_isi_same rfl ?_ | with_reducible refine cj_lenL ?_ | with_reducible refine cj_lenT ?_ | with_reducible refine cj_int ?_ | with_reducible refine cj_intb ?_ | with_reducible refine cj_max ?_ | with_reducible refine cj_min ?_)
  | ((with_reducible refine isGJ ?_); first | with_reducible refine gj_name ?_ | refine gj_tup rfl ?_ | refine gj_unl rfl ?_)
  | ((with_reducible refine isGs ?_); first | refine gsj_cons ?_ | refine gsj_nil ?_)
  | ((with_reducible refine isLJ ?_); first | with_reducible refine lj_name (by decide) ?_ | refine lj_tup rfl ?_)
  | ((with_reducible refine isLs ?_); first | refine lsj_cons ?_ | refine lsj_nil ?_)
  | ((with_reducible refine isIJ ?_); first | with_reducible refine ij_list ?_ | with_reducible refine ij_tup ?_ | with_reducible refine ij_range1 ?_ | with_reducible refine ij_range2 ?_ | with_reducible refine ij_enum ?_ | with_reducible refine ij_enumT ?_ | with_reducible refine ij_zip ?_)
  | with_reducible refine uj_neg ?_ | with_reducible refine fj_A rfl ?_ | with_reducible refine ⟨_, rfl, ?_⟩ | with_reducible refine ⟨_, _, rfl, ?_⟩ | with_reducible refine ⟨_, _, _, rfl, ?_⟩ | refine brT rfl ?_ | refine brF rfl ?_ | refine ⟨[_, _], rfl, Nat.le_of_ble_eq_true rfl, ?_⟩ | refine ⟨[_, _, _], rfl, Nat.le_of_ble_eq_true rfl, ?_⟩ | refine ⟨[_, _, _, _], rfl, Nat.le_of_ble_eq_true rfl, ?_⟩ | refine ⟨[], rfl, Nat.le_of_ble_eq_true rfl, ?_⟩ | refine ⟨[_], rfl, Nat.le_of_ble_eq_true rfl, ?_⟩ | refine ⟨[_, _, _, _, _], rfl, Nat.le_of_ble_eq_true rfl, ?_⟩)
local macro_rules | `(tactic| walk_at "sl") => `(tactic| first | walk_at "st" | with_reducible refine ej_lst ?_)
local macro_rules | `(tactic| walk_at "sd") => `(tactic| first | walk_at "st" | dsimp only [sortS, lotD])

def l1 : Lk := ⟨1, 1, 1, 1⟩
def ws1 : List Wy := [⟨0, 1, l1⟩, ⟨1, 2, l1⟩]
def cOdd : List Ct := [⟨0, 0, 1, none, false, 0, 0, 0, 0, 0⟩, ⟨0, 0, 0, none, false, 0, 0, 0, 0, 0⟩]
def cBad : Ct := ⟨0, 0, 0, none, false, 0, 0, 1, 1, 0⟩
theorem fit_of {l : Lk} {c : Ct} (h1 : c.bit = 0 ∨ c.bit = 1) (h2 : c.ot = 0 ∨ c.ot = 1) (h3 : c.lot = none) (h4 : 0 ≤ c.hd ∧ c.hd ≤ l.q - 1) (h5 : 0 ≤ c.n0 ∧ 0 ≤ c.n1 ∧ 0 ≤ c.n2 ∧ c.n0 + c.n1 + c.n2 ≤ l.c) (h6 : 0 ≤ c.b0 ∧ 0 ≤ c.b1 ∧ c.b0 + c.b1 ≤ l.d) : Fits l c :=
  ⟨h1, h4.1, h4.2, h2, by rw [h3]; exact True.intro, h5.1, h5.2.1, h5.2.2.1, h5.2.2.2, h6.1, h6.2.1, h6.2.2⟩
theorem web1 : WebOk 3 ws1 := by
  refine ⟨by decide, fun x hx => ?_, fun i x y hx hy => ?_, by decide⟩
  · simp only [ws1, List.mem_cons, List.not_mem_nil, or_false] at hx
    rcases hx with rfl | rfl <;> exact ⟨by decide, by decide, by decide, by decide, by decide, ⟨by decide, by decide, by decide, by decide⟩⟩
  · have hb := (List.getElem?_eq_some_iff.mp hy).1
    have hi : i = 0 := by
      have : i + 1 < 2 := hb
      omega
    subst hi
    obtain rfl := Option.some.inj hx
    obtain rfl := Option.some.inj hy
    exact .inl (by decide)
theorem sound1 : ∀ x ∈ ws1, x.l.Sound := fun x hx => by
  simp only [ws1, List.mem_cons, List.not_mem_nil, or_false] at hx
  rcases hx with rfl | rfl <;> exact ⟨by decide, by decide⟩
theorem ok_of {cs : List Ct} (hl : cs.length = 2) (h : ∀ c ∈ cs, Fits l1 c) : WOk 3 ws1 cs := by
  refine ⟨web1, ⟨hl, fun i x c hx hc => ?_⟩, sound1⟩
  have e : x.l = l1 := by
    have hx' := List.mem_of_getElem? hx
    simp only [ws1, List.mem_cons, List.not_mem_nil, or_false] at hx'
    rcases hx' with rfl | rfl <;> rfl
  rw [e]
  exact h c (List.mem_of_getElem? hc)
theorem okOdd : WOk 3 ws1 cOdd := ok_of rfl fun c hc => by
  simp only [cOdd, List.mem_cons, List.not_mem_nil, or_false] at hc
  rcases hc with rfl | rfl
  · exact fit_of (by decide) (by decide) rfl (by decide) (by decide) (by decide)
  · exact fit_of (by decide) (by decide) rfl (by decide) (by decide) (by decide)
theorem okBad : WOk 3 ws1 [cBad, cBad] := ok_of rfl fun c hc => by
  simp only [List.mem_cons, List.not_mem_nil, or_false] at hc
  rcases hc with rfl | rfl <;> exact fit_of (by decide) (by decide) rfl (by decide) (by decide) (by decide)
theorem okNo {h : Int} (h1 : 1 ≤ h) : WOk h [] [] := ⟨⟨h1, fun x hx => absurd hx (by simp), fun i x y hx => absurd hx (by simp), by decide⟩, ⟨rfl, fun i x c hx => absurd hx (by simp)⟩, fun x hx => absurd hx (by simp)⟩
def T_law : TF := fun xs M Q => ∃ ns : List Int, xs = [.dat (.list (ns.map PyData.int))] ∧ Q (.dat (.bool true)) fun _ => none
theorem f_law (T : Top K mg) {f : Addr} {fd : FuncData} (F : Fun K "law" "law" s_law f fd) : FnG P w K mg base 10 f fd ["_law_script"] (spA K 1 T_law) := by
  refine fnGA F sc_law rfl fun cdv A outer s H E hr hg => ⟨_, (pss_cons (ps_for PassesOwn.never rfl (pi_range1 (by rfl) T.b_range (pa_cons pe_int pa_nil)) (pg_name (i := 1) sc_law.nd rfl (.inl rfl)) (pss_one (ps_if (pt_not (pt_val (pe_cG (c__law_right (K := K) T) hr hg (by decide) (by rfl) (pa_cons (pe_c (c__law_generator (K := K) T) hr (by decide) (by rfl) (pa_cons (pv 0) (pa_cons (pv 1) pa_nil))) pa_nil)))) (pss_one (ps_ret pe_bl)) pss_nil)))
      (pss_cons (ps_set (i := 2) sc_law.nd rfl (.inl rfl) (pe_tup (pa_cons pe_int (pa_cons pe_int (pa_cons pe_int (pa_cons pe_int pa_nil))))))
      (pss_cons (ps_set (i := 3) sc_law.nd rfl (.inl rfl) (pe_tup (pa_cons pe_int (pa_cons (pe_lst (pa_cons (pe_tup (pa_cons pe_int (pa_cons pe_int (pa_cons (pv 2) pa_nil)))) (pa_cons (pe_tup (pa_cons pe_int (pa_cons pe_int (pa_cons (pv 2) pa_nil)))) pa_nil))) pa_nil))))
      (pss_cons (ps_set (i := 4) sc_law.nd rfl (.inl rfl) (pe_lst (pa_cons (pe_tup (pa_cons (pe_tup (pa_cons pe_int (pa_cons pe_int pa_nil))) (pa_cons (pe_tup (pa_cons pe_int (pa_cons pe_non (pa_cons pe_bl pa_nil)))) (pa_cons (pe_tup (pa_cons pe_int (pa_cons pe_int (pa_cons pe_int pa_nil)))) (pa_cons (pe_tup (pa_cons pe_int (pa_cons pe_int pa_nil))) pa_nil))))) (pa_cons (pe_tup (pa_cons (pe_tup (pa_cons pe_int (pa_cons pe_int pa_nil))) (pa_cons (pe_tup (pa_cons pe_int (pa_cons pe_non (pa_cons pe_bl pa_nil)))) (pa_cons (pe_tup (pa_cons pe_int (pa_cons pe_int (pa_cons pe_int pa_nil)))) (pa_cons (pe_tup (pa_cons pe_int (pa_cons pe_int pa_nil))) pa_nil))))) pa_nil))))
      (pss_cons (ps_set (i := 5) sc_law.nd rfl (.inl rfl) (pe_op op_rep (pe_lst (pa_cons (pe_tup (pa_cons (pe_tup (pa_cons pe_int (pa_cons pe_int pa_nil))) (pa_cons (pe_tup (pa_cons pe_int (pa_cons pe_non (pa_cons pe_bl pa_nil)))) (pa_cons (pe_tup (pa_cons pe_int (pa_cons pe_int (pa_cons pe_int pa_nil)))) (pa_cons (pe_tup (pa_cons pe_int (pa_cons pe_int pa_nil))) pa_nil))))) pa_nil)) pe_int))
      (pss_cons (ps_if (pt_cmpR (neK K hr) (pe_lst (pa_cons (pe_c (c_web_harm (K := K) T) hr (by decide) (by rfl) (pa_cons (pv 3) (pa_cons (pv 4) pa_nil))) (pa_cons (pe_c (c_harm_at (K := K) T) hr (by decide) (by rfl) (pa_cons (pv 3) (pa_cons (pv 4) (pa_cons pe_int pa_nil)))) (pa_cons (pe_c (c_harm_at (K := K) T) hr (by decide) (by rfl) (pa_cons (pv 3) (pa_cons (pv 4) (pa_cons pe_int pa_nil)))) (pa_cons (pe_c (c_ways_by_harm (K := K) T) hr (by decide) (by rfl) (pa_cons (pv 3) (pa_cons (pv 4) pa_nil))) pa_nil))))) (pe_lst (pa_cons pe_int (pa_cons pe_int (pa_cons pe_int (pa_cons (pe_lst (pa_cons pe_int (pa_cons pe_int (pa_cons pe_int (pa_cons pe_int pa_nil))))) pa_nil))))) (nomark _)) (pss_one (ps_ret pe_bl)) pss_nil)
      (pss_one (ps_ret (pe_and (pe_cmpR (eqK K hr) (pe_c (c_web_harm (K := K) T) hr (by decide) (by rfl) (pa_cons (pv 3) (pa_cons (pv 5) pa_nil))) pe_int (nomark _)) (pe_and (pe_cmpR (eqK K hr) (pe_c (c_ways_by_harm (K := K) T) hr (by decide) (by rfl) (pa_cons (pe_tup (pa_cons pe_int (pa_cons (pe_lst pa_nil) pa_nil))) (pa_cons (pe_lst pa_nil) pa_nil))) (pe_lst (pa_cons pe_int (pa_cons pe_int (pa_cons pe_int (pa_cons pe_int pa_nil))))) (nomark _)) (pe_one (pe_cmpR (eqK K hr) (pe_c (c_web_harm (K := K) T) hr (by decide) (by rfl) (pa_cons (pe_tup (pa_cons pe_int (pa_cons (pe_lst pa_nil) pa_nil))) (pa_cons (pe_lst pa_nil) pa_nil))) pe_int (nomark _))))))))))))), ?_⟩
  rintro xs M Q - ⟨ns, rfl, q⟩
  refine sj_ds (ds' := [some _, none, none, none, none, none]) rfl ?_
  refine sj_weak (Ext.all M) ?_
  refine sj_cut (fun ds' M' => ∃ x1, ds' = [some (.dat (.list (ns.map PyData.int))), x1, none, none, none, none] ∧ M' = fun _ => none) ?_ ?_
  · refine sj_for ?_
    repeat walk_at "st"
    refine ⟨by decide, fun i ds' M' => ∃ x1, ds' = [some (.dat (.list (ns.map PyData.int))), x1, none, none, none, none] ∧ M' = fun _ => none, ⟨none, rfl, rfl⟩, fun i d ds' M' hd hI => ?_, fun ds' M' hI => hI⟩
    obtain ⟨hi, rfl⟩ := rngI_get hd
    have hi : i < 3 := hi
    obtain ⟨x1, rfl, rfl⟩ := hI
    refine gj_name ?_
    repeat walk_at "st"
    refine ⟨ns, _, rfl, by omega, by omega, fun g zs hgn hz => ?_⟩
    repeat walk_at "st"
    refine ⟨g, zs, _, rfl, put_same _ _ _, hz, by omega, ?_⟩
    repeat walk_at "st"
    exact rfl
  rintro ds1 M1 ⟨x1, rfl, rfl⟩
  refine sj_cut (fun ds' M' => ds' = [some (.dat (.list (ns.map PyData.int))), x1, some (.dat l1.D), none, none, none] ∧ M' = fun _ => none) ?_ ?_
  · repeat walk_at "st"
    exact ⟨rfl, rfl⟩
  rintro ds2 M2 ⟨rfl, rfl⟩
  refine sj_cut (fun ds' M' => ds' = [some (.dat (.list (ns.map PyData.int))), x1, some (.dat l1.D), some (.dat (webD 3 ws1)), none, none] ∧ M' = fun _ => none) ?_ ?_
  · repeat walk_at "sl"
    exact ⟨rfl, rfl⟩
  rintro ds3 M3 ⟨rfl, rfl⟩
  refine sj_cut (fun ds' M' => ds' = [some (.dat (.list (ns.map PyData.int))), x1, some (.dat l1.D), some (.dat (webD 3 ws1)), some (.dat (.list (cOdd.map Ct.D))), none] ∧ M' = fun _ => none) ?_ ?_
  · repeat walk_at "sl"
    exact ⟨rfl, rfl⟩
  rintro ds4 M4 ⟨rfl, rfl⟩
  refine sj_cut (fun ds' M' => ds' = [some (.dat (.list (ns.map PyData.int))), x1, some (.dat l1.D), some (.dat (webD 3 ws1)), some (.dat (.list (cOdd.map Ct.D))), some (.dat (.list ([cBad, cBad].map Ct.D)))]) ?_ ?_
  · refine sj_set (ej_op (ej_lstM ?_))
    repeat walk_at "st"
    intro k hk
    repeat walk_at "st"
    refine oj_rep (n := 2) (put_same _ _ _) (by decide) (by decide) ?_
    exact rfl
  rintro ds5 M5 rfl
  refine sj_weak (Ext.all M5) ?_
  refine sj_cut (fun ds' M' => ds' = [some (.dat (.list (ns.map PyData.int))), x1, some (.dat l1.D), some (.dat (webD 3 ws1)), some (.dat (.list (cOdd.map Ct.D))), some (.dat (.list ([cBad, cBad].map Ct.D)))]) ?_ ?_
  · refine sj_if (tj_test (ej_op (ej_lst (aj_cons ?_))))
    repeat walk_at "st"
    refine ⟨[_, _], _, rfl, ⟨3, ws1, cOdd, rfl, okOdd, rfl⟩, ?_⟩
    repeat walk_at "st"
    refine ⟨[_, _, _], _, rfl, ⟨3, 2, ws1, cOdd, rfl, okOdd, by decide, by decide, rfl⟩, ?_⟩
    repeat walk_at "st"
    refine ⟨[_, _, _], _, rfl, ⟨3, 1, ws1, cOdd, rfl, okOdd, by decide, by decide, rfl⟩, ?_⟩
    refine aj_cons (ej_freeze (ej_call (aj_cons (ej_var rfl (aj_cons (ej_var rfl (aj_nil (fj_A rfl ⟨3, ws1, cOdd, rfl, okOdd, fun k2 hk2 => ⟨k2, _, rfl, put_same _ _ _, ?_⟩⟩))))))))
    rw [del_put hk2]
    refine aj_nil ⟨[_, _, _, _], rfl, Nat.le_of_ble_eq_true rfl, ?_⟩
    repeat walk_at "sl"
    refine oj_neD (by decide +kernel) (by decide +kernel) ?_
    rw [show PyData.eqv (.list [.int (harmL ws1 cOdd).sum, .int (atL ws1 (harmL ws1 cOdd) 2).sum, .int (atL ws1 (harmL ws1 cOdd) 1).sum, .list (cntD (harmL ws1 cOdd))]) (.list [.int 1, .int 1, .int 0, .list [.int 1, .int 1, .int 0, .int 0]]) = true by decide +kernel]
    repeat walk_at "st"
    exact rfl
  rintro ds6 M6 rfl
  refine sj_ret (ej_weak ?_)
  repeat walk_at "st"
  refine ⟨[_, _], _, rfl, ⟨3, ws1, [cBad, cBad], rfl, okBad, rfl⟩, ?_⟩
  refine ej_int (oj_eqi ⟨_, rfl, brT (decide_eq_true (by decide +kernel)) ?_⟩)
  refine ej_andV (ej_op (ej_freeze (ej_call (aj_cons (ej_tup (aj_cons (ej_int (aj_cons (ej_lst (aj_nil ⟨[], rfl, by decide, aj_nil ⟨[_, _], rfl, by decide, aj_cons (ej_lst (aj_nil ⟨[], rfl, by decide, aj_nil (fj_A rfl ⟨1, [], [], rfl, okNo (by decide), fun k2 hk2 => ⟨k2, _, rfl, put_same _ _ _, ?_⟩⟩)⟩))⟩⟩))))))))))
  rw [del_put hk2]
  repeat walk_at "sl"
  refine oj_eqD (by decide +kernel) (by decide +kernel) ?_
  rw [show PyData.eqv (.list (cntD (harmL [] []))) (.list [.int 0, .int 0, .int 0, .int 0]) = true by decide +kernel]
  refine ⟨_, rfl, brT rfl ?_⟩
  repeat walk_at "sl"
  refine ⟨[_, _], _, rfl, ⟨4, [], [], rfl, okNo (by decide), rfl⟩, ?_⟩
  refine ej_int (oj_eqi ?_)
  rw [decide_eq_true (by decide +kernel)]
  exact ⟨_, Ext.all _, q⟩
theorem law_mk {fa : Addr} (T : Top K mg) (hfa : mg "law" = some (.ref fa)) :
    ∃ fd : FuncData, (∀ (s : Shared) (u : Value), BindsTo s fd ⟨[u], []⟩ [("_law_script", u)]) ∧ ∀ base : Heap, FnG P w K mg base 10 fa fd ["_law_script"] (spA K 1 T_law) := by
  obtain ⟨f, fd, F, hm, hb⟩ := T.d_law.ex
  obtain rfl : fa = f := Value.ref.inj (Option.some.inj (hfa.symm.trans hm))
  refine ⟨fd, fun s u => ?_, fun base => f_law T F⟩
  obtain ⟨oc, od, kV, doc, pm, an, cdv, ct, osl, rfl, lk, _⟩ := F.ex
  exact .of_eq rfl
theorem dpAll_ints {K : PySem.W.Frag} {H : Hp} : ∀ ns : List Int, DpAll K H (ns.map V.int) (ns.map PyData.int)
  | [] => .nil
  | n :: ns => .cons (.int n) (dpAll_ints ns)
theorem law_keeps (K : PySem.W.Frag) (a : Addr) (ns : List Int) : Keeps K (spA K 1 T_law) a ns := by
  intro H only hS
  refine ⟨⟨H, fun _ => none⟩, fun _ => none, [.dat (.list (ns.map PyData.int))], fun d _ => d = .dat (.bool true), ⟨Same.refl _, ⟨0, fun _ _ => rfl⟩, fun i j b hi => absurd rfl hi, fun i xs h => nomatch h⟩, ⟨?_, True.intro⟩, rfl, ⟨ns, rfl, rfl⟩, ?_⟩
  · exact (.lst hS (dpAll_ints ns) : Dp K H (.ref a) (.list (ns.map PyData.int)))
  · rintro w' v H' d M' le r s rfl
    cases (show Dp K w'.F v (.bool true) from r)
    rfl
end
end HW

/-! What the top has written. -/
namespace HW
open PySem PySem.Spec PyProof.Rows L2 DL
/-- a def stands in K under its name -/
def At (K : PySem.W.Frag) (x : Str) (st : Stmt) : Prop := ∃ (f : Addr) (oc : Value) (od an : Option Addr) (sl : Array (Option Value)) (kV doc pm cdv ct : Value),
  PySem.W.nsIn K mainGlobals x = some (some (.ref f)) ∧ K.lookup f = some ⟨oc, od, .func (PySem.W.fnOf x x (defArgs st) (defBody st) (defScope st) .none kV doc pm an cdv ct), sl⟩ ∧ PySem.W.codeIn K cdv x = true ∧ PySem.W.keepIn K (.ref f) = true
theorem at_mk {K : PySem.W.Frag} {x : Str} {st : Stmt} {f : Addr} {oc kV doc pm cdv ct : Value} {od an : Option Addr} {sl : Array (Option Value)} (a : PySem.W.nsIn K mainGlobals x = some (some (.ref f)))
    (l : K.lookup f = some ⟨oc, od, .func (PySem.W.fnOf x x (defArgs st) (defBody st) (defScope st) .none kV doc pm an cdv ct), sl⟩) (c : PySem.W.codeIn K cdv x = true) (k : PySem.W.keepIn K (.ref f) = true) : At K x st := ⟨f, oc, od, an, sl, kV, doc, pm, cdv, ct, a, l, c, k⟩
section
variable {h : Heap} {K : PySem.W.Frag} {mg : Str → Option Value}
theorem df_mk {x : Str} {st : Stmt} {ps : List Str} (X : K.In h) (G : h.Ns mainGlobals mg) (t : At K x st)
    (b : ∀ (kV doc pm : Value) (an : Option Addr) (cdv ct : Value) (us : List Value), us.length = ps.length → bindArgs (PySem.W.fnOf x x (defArgs st) (defBody st) (defScope st) .none kV doc pm an cdv ct) ⟨us, []⟩ = pure (ps.zip us)) : Df K mg x st ps := by
  obtain ⟨f, oc, od, an, sl, kV, doc, pm, cdv, ct, a, l, c, k⟩ := t
  have F := fun_mk (st := st) l c k
  exact ⟨f, _, F, PySem.W.mg_of X G a, F.binds b⟩
theorem top_mk (X : K.In h) (G : h.Ns mainGlobals mg)
    (a_is_whole : At K "is_whole" s_is_whole)
    (a_is_between : At K "is_between" s_is_between)
    (a_check_number : At K "check_number" s_check_number)
    (a_link_fits : At K "link_fits" s_link_fits)
    (a_sound_fits : At K "sound_fits" s_sound_fits)
    (a_check_sound : At K "check_sound" s_check_sound)
    (a_bit_fits : At K "bit_fits" s_bit_fits)
    (a_counts_fit : At K "counts_fit" s_counts_fit)
    (a_lot_fits : At K "lot_fits" s_lot_fits)
    (a_hosts_fit : At K "hosts_fit" s_hosts_fit)
    (a_contents_fit : At K "contents_fit" s_contents_fit)
    (a_even_fits : At K "even_fits" s_even_fits)
    (a_old_of : At K "old_of" s_old_of)
    (a_answers_of : At K "answers_of" s_answers_of)
    (a_answers_in : At K "answers_in" s_answers_in)
    (a_old_in : At K "old_in" s_old_in)
    (a_signs_in : At K "signs_in" s_signs_in)
    (a_harm_of_signs : At K "harm_of_signs" s_harm_of_signs)
    (a_harm_in : At K "harm_in" s_harm_in)
    (a_way_fits : At K "way_fits" s_way_fits)
    (a_web_fits : At K "web_fits" s_web_fits)
    (a_web_contents_fit : At K "web_contents_fit" s_web_contents_fit)
    (a_check_web : At K "check_web" s_check_web)
    (a_check_web_contents : At K "check_web_contents" s_check_web_contents)
    (a_check_all_sound : At K "check_all_sound" s_check_all_sound)
    (a_harms_of : At K "harms_of" s_harms_of)
    (a_web_harm : At K "web_harm" s_web_harm)
    (a_harm_at : At K "harm_at" s_harm_at)
    (a_ways_by_harm : At K "ways_by_harm" s_ways_by_harm)
    (a__law_cell : At K "_law_cell" s_law_cell)
    (a__law_hash : At K "_law_hash" s_law_hash)
    (a__law_generator : At K "_law_generator" s_law_generator)
    (a__law_random : At K "_law_random" s_law_random)
    (a__law_link : At K "_law_link" s_law_link)
    (a__law_great : At K "_law_great" s_law_great)
    (a__law_few : At K "_law_few" s_law_few)
    (a__law_contents : At K "_law_contents" s_law_contents)
    (a__law_signs : At K "_law_signs" s_law_signs)
    (a__law_harm : At K "_law_harm" s_law_harm)
    (a__law_events : At K "_law_events" s_law_events)
    (a__law_moved : At K "_law_moved" s_law_moved)
    (a__law_brought : At K "_law_brought" s_law_brought)
    (a__law_heard : At K "_law_heard" s_law_heard)
    (a__law_behind : At K "_law_behind" s_law_behind)
    (a__law_web : At K "_law_web" s_law_web)
    (a__law_web_contents : At K "_law_web_contents" s_law_web_contents)
    (a__law_web_run : At K "_law_web_run" s_law_web_run)
    (a__law_web_played : At K "_law_web_played" s_law_web_played)
    (a__law_right : At K "_law_right" s_law_right)
    (a_law : At K "law" s_law)
    (z_bool : PySem.W.nsIn K mainGlobals "bool" = some none)
    (z_enumerate : PySem.W.nsIn K mainGlobals "enumerate" = some none)
    (z_int : PySem.W.nsIn K mainGlobals "int" = some none)
    (z_isinstance : PySem.W.nsIn K mainGlobals "isinstance" = some none)
    (z_len : PySem.W.nsIn K mainGlobals "len" = some none)
    (z_list : PySem.W.nsIn K mainGlobals "list" = some none)
    (z_max : PySem.W.nsIn K mainGlobals "max" = some none)
    (z_min : PySem.W.nsIn K mainGlobals "min" = some none)
    (z_range : PySem.W.nsIn K mainGlobals "range" = some none)
    (z_repr : PySem.W.nsIn K mainGlobals "repr" = some none)
    (z_sorted : PySem.W.nsIn K mainGlobals "sorted" = some none)
    (z_str : PySem.W.nsIn K mainGlobals "str" = some none)
    (z_sum : PySem.W.nsIn K mainGlobals "sum" = some none)
    (z_tuple : PySem.W.nsIn K mainGlobals "tuple" = some none)
    (z_zip : PySem.W.nsIn K mainGlobals "zip" = some none)
    (m_ : ∃ tk, PySem.W.nsIn K mainGlobals "MOST_HARM" = some (some (.int 3 tk))) : Top K mg where
  d_is_whole := df_mk X G a_is_whole fun _ _ _ _ _ _ us hl => match us, hl with | [_], _ => rfl
  d_is_between := df_mk X G a_is_between fun _ _ _ _ _ _ us hl => match us, hl with | [_, _, _], _ => rfl
  d_check_number := df_mk X G a_check_number fun _ _ _ _ _ _ us hl => match us, hl with | [_, _, _], _ => rfl
  d_link_fits := df_mk X G a_link_fits fun _ _ _ _ _ _ us hl => match us, hl with | [_], _ => rfl
  d_sound_fits := df_mk X G a_sound_fits fun _ _ _ _ _ _ us hl => match us, hl with | [_], _ => rfl
  d_check_sound := df_mk X G a_check_sound fun _ _ _ _ _ _ us hl => match us, hl with | [_], _ => rfl
  d_bit_fits := df_mk X G a_bit_fits fun _ _ _ _ _ _ us hl => match us, hl with | [_], _ => rfl
  d_counts_fit := df_mk X G a_counts_fit fun _ _ _ _ _ _ us hl => match us, hl with | [_, _, _], _ => rfl
  d_lot_fits := df_mk X G a_lot_fits fun _ _ _ _ _ _ us hl => match us, hl with | [_, _, _], _ => rfl
  d_hosts_fit := df_mk X G a_hosts_fit fun _ _ _ _ _ _ us hl => match us, hl with | [_, _, _], _ => rfl
  d_contents_fit := df_mk X G a_contents_fit fun _ _ _ _ _ _ us hl => match us, hl with | [_, _], _ => rfl
  d_even_fits := df_mk X G a_even_fits fun _ _ _ _ _ _ us hl => match us, hl with | [_], _ => rfl
  d_old_of := df_mk X G a_old_of fun _ _ _ _ _ _ us hl => match us, hl with | [_, _], _ => rfl
  d_answers_of := df_mk X G a_answers_of fun _ _ _ _ _ _ us hl => match us, hl with | [_, _], _ => rfl
  d_answers_in := df_mk X G a_answers_in fun _ _ _ _ _ _ us hl => match us, hl with | [_], _ => rfl
  d_old_in := df_mk X G a_old_in fun _ _ _ _ _ _ us hl => match us, hl with | [_], _ => rfl
  d_signs_in := df_mk X G a_signs_in fun _ _ _ _ _ _ us hl => match us, hl with | [_, _], _ => rfl
  d_harm_of_signs := df_mk X G a_harm_of_signs fun _ _ _ _ _ _ us hl => match us, hl with | [_], _ => rfl
  d_harm_in := df_mk X G a_harm_in fun _ _ _ _ _ _ us hl => match us, hl with | [_, _], _ => rfl
  d_way_fits := df_mk X G a_way_fits fun _ _ _ _ _ _ us hl => match us, hl with | [_, _], _ => rfl
  d_web_fits := df_mk X G a_web_fits fun _ _ _ _ _ _ us hl => match us, hl with | [_], _ => rfl
  d_web_contents_fit := df_mk X G a_web_contents_fit fun _ _ _ _ _ _ us hl => match us, hl with | [_, _], _ => rfl
  d_check_web := df_mk X G a_check_web fun _ _ _ _ _ _ us hl => match us, hl with | [_], _ => rfl
  d_check_web_contents := df_mk X G a_check_web_contents fun _ _ _ _ _ _ us hl => match us, hl with | [_, _], _ => rfl
  d_check_all_sound := df_mk X G a_check_all_sound fun _ _ _ _ _ _ us hl => match us, hl with | [_], _ => rfl
  d_harms_of := df_mk X G a_harms_of fun _ _ _ _ _ _ us hl => match us, hl with | [_, _], _ => rfl
  d_web_harm := df_mk X G a_web_harm fun _ _ _ _ _ _ us hl => match us, hl with | [_, _], _ => rfl
  d_harm_at := df_mk X G a_harm_at fun _ _ _ _ _ _ us hl => match us, hl with | [_, _, _], _ => rfl
  d_ways_by_harm := df_mk X G a_ways_by_harm fun _ _ _ _ _ _ us hl => match us, hl with | [_, _], _ => rfl
  d__law_cell := df_mk X G a__law_cell fun _ _ _ _ _ _ us hl => match us, hl with | [_, _], _ => rfl
  d__law_hash := df_mk X G a__law_hash fun _ _ _ _ _ _ us hl => match us, hl with | [_, _], _ => rfl
  d__law_generator := df_mk X G a__law_generator fun _ _ _ _ _ _ us hl => match us, hl with | [_, _], _ => rfl
  d__law_random := df_mk X G a__law_random fun _ _ _ _ _ _ us hl => match us, hl with | [_, _], _ => rfl
  d__law_link := df_mk X G a__law_link fun _ _ _ _ _ _ us hl => match us, hl with | [_, _], _ => rfl
  d__law_great := df_mk X G a__law_great fun _ _ _ _ _ _ us hl => match us, hl with | [_], _ => rfl
  d__law_few := df_mk X G a__law_few fun _ _ _ _ _ _ us hl => match us, hl with | [_, _], _ => rfl
  d__law_contents := df_mk X G a__law_contents fun _ _ _ _ _ _ us hl => match us, hl with | [_, _], _ => rfl
  d__law_signs := df_mk X G a__law_signs fun _ _ _ _ _ _ us hl => match us, hl with | [_, _], _ => rfl
  d__law_harm := df_mk X G a__law_harm fun _ _ _ _ _ _ us hl => match us, hl with | [_, _], _ => rfl
  d__law_events := df_mk X G a__law_events fun _ _ _ _ _ _ us hl => match us, hl with | [_, _], _ => rfl
  d__law_moved := df_mk X G a__law_moved fun _ _ _ _ _ _ us hl => match us, hl with | [_, _, _], _ => rfl
  d__law_brought := df_mk X G a__law_brought fun _ _ _ _ _ _ us hl => match us, hl with | [_, _, _], _ => rfl
  d__law_heard := df_mk X G a__law_heard fun _ _ _ _ _ _ us hl => match us, hl with | [_, _, _], _ => rfl
  d__law_behind := df_mk X G a__law_behind fun _ _ _ _ _ _ us hl => match us, hl with | [_, _, _], _ => rfl
  d__law_web := df_mk X G a__law_web fun _ _ _ _ _ _ us hl => match us, hl with | [_, _], _ => rfl
  d__law_web_contents := df_mk X G a__law_web_contents fun _ _ _ _ _ _ us hl => match us, hl with | [_, _], _ => rfl
  d__law_web_run := df_mk X G a__law_web_run fun _ _ _ _ _ _ us hl => match us, hl with | [_, _, _, _], _ => rfl
  d__law_web_played := df_mk X G a__law_web_played fun _ _ _ _ _ _ us hl => match us, hl with | [_, _, _], _ => rfl
  d__law_right := df_mk X G a__law_right fun _ _ _ _ _ _ us hl => match us, hl with | [_], _ => rfl
  d_law := df_mk X G a_law fun _ _ _ _ _ _ us hl => match us, hl with | [_], _ => rfl
  b_bool := PySem.W.mg_none_of X G z_bool
  b_enumerate := PySem.W.mg_none_of X G z_enumerate
  b_int := PySem.W.mg_none_of X G z_int
  b_isinstance := PySem.W.mg_none_of X G z_isinstance
  b_len := PySem.W.mg_none_of X G z_len
  b_list := PySem.W.mg_none_of X G z_list
  b_max := PySem.W.mg_none_of X G z_max
  b_min := PySem.W.mg_none_of X G z_min
  b_range := PySem.W.mg_none_of X G z_range
  b_repr := PySem.W.mg_none_of X G z_repr
  b_sorted := PySem.W.mg_none_of X G z_sorted
  b_str := PySem.W.mg_none_of X G z_str
  b_sum := PySem.W.mg_none_of X G z_sum
  b_tuple := PySem.W.mg_none_of X G z_tuple
  b_zip := PySem.W.mg_none_of X G z_zip
  most := let ⟨tk, e⟩ := m_; ⟨_, PySem.W.mg_of X G e, ⟨tk, rfl⟩⟩
theorem end_mk {P : Program} {w : World} {fa : Addr} (X : K.In h) (G : h.Ns mainGlobals mg) (hfa : mg "law" = some (.ref fa))
    (a_is_whole : At K "is_whole" s_is_whole)
    (a_is_between : At K "is_between" s_is_between)
    (a_check_number : At K "check_number" s_check_number)
    (a_link_fits : At K "link_fits" s_link_fits)
    (a_sound_fits : At K "sound_fits" s_sound_fits)
    (a_check_sound : At K "check_sound" s_check_sound)
    (a_bit_fits : At K "bit_fits" s_bit_fits)
    (a_counts_fit : At K "counts_fit" s_counts_fit)
    (a_lot_fits : At K "lot_fits" s_lot_fits)
    (a_hosts_fit : At K "hosts_fit" s_hosts_fit)
    (a_contents_fit : At K "contents_fit" s_contents_fit)
    (a_even_fits : At K "even_fits" s_even_fits)
    (a_old_of : At K "old_of" s_old_of)
    (a_answers_of : At K "answers_of" s_answers_of)
    (a_answers_in : At K "answers_in" s_answers_in)
    (a_old_in : At K "old_in" s_old_in)
    (a_signs_in : At K "signs_in" s_signs_in)
    (a_harm_of_signs : At K "harm_of_signs" s_harm_of_signs)
    (a_harm_in : At K "harm_in" s_harm_in)
    (a_way_fits : At K "way_fits" s_way_fits)
    (a_web_fits : At K "web_fits" s_web_fits)
    (a_web_contents_fit : At K "web_contents_fit" s_web_contents_fit)
    (a_check_web : At K "check_web" s_check_web)
    (a_check_web_contents : At K "check_web_contents" s_check_web_contents)
    (a_check_all_sound : At K "check_all_sound" s_check_all_sound)
    (a_harms_of : At K "harms_of" s_harms_of)
    (a_web_harm : At K "web_harm" s_web_harm)
    (a_harm_at : At K "harm_at" s_harm_at)
    (a_ways_by_harm : At K "ways_by_harm" s_ways_by_harm)
    (a__law_cell : At K "_law_cell" s_law_cell)
    (a__law_hash : At K "_law_hash" s_law_hash)
    (a__law_generator : At K "_law_generator" s_law_generator)
    (a__law_random : At K "_law_random" s_law_random)
    (a__law_link : At K "_law_link" s_law_link)
    (a__law_great : At K "_law_great" s_law_great)
    (a__law_few : At K "_law_few" s_law_few)
    (a__law_contents : At K "_law_contents" s_law_contents)
    (a__law_signs : At K "_law_signs" s_law_signs)
    (a__law_harm : At K "_law_harm" s_law_harm)
    (a__law_events : At K "_law_events" s_law_events)
    (a__law_moved : At K "_law_moved" s_law_moved)
    (a__law_brought : At K "_law_brought" s_law_brought)
    (a__law_heard : At K "_law_heard" s_law_heard)
    (a__law_behind : At K "_law_behind" s_law_behind)
    (a__law_web : At K "_law_web" s_law_web)
    (a__law_web_contents : At K "_law_web_contents" s_law_web_contents)
    (a__law_web_run : At K "_law_web_run" s_law_web_run)
    (a__law_web_played : At K "_law_web_played" s_law_web_played)
    (a__law_right : At K "_law_right" s_law_right)
    (a_law : At K "law" s_law)
    (z_bool : PySem.W.nsIn K mainGlobals "bool" = some none)
    (z_enumerate : PySem.W.nsIn K mainGlobals "enumerate" = some none)
    (z_int : PySem.W.nsIn K mainGlobals "int" = some none)
    (z_isinstance : PySem.W.nsIn K mainGlobals "isinstance" = some none)
    (z_len : PySem.W.nsIn K mainGlobals "len" = some none)
    (z_list : PySem.W.nsIn K mainGlobals "list" = some none)
    (z_max : PySem.W.nsIn K mainGlobals "max" = some none)
    (z_min : PySem.W.nsIn K mainGlobals "min" = some none)
    (z_range : PySem.W.nsIn K mainGlobals "range" = some none)
    (z_repr : PySem.W.nsIn K mainGlobals "repr" = some none)
    (z_sorted : PySem.W.nsIn K mainGlobals "sorted" = some none)
    (z_str : PySem.W.nsIn K mainGlobals "str" = some none)
    (z_sum : PySem.W.nsIn K mainGlobals "sum" = some none)
    (z_tuple : PySem.W.nsIn K mainGlobals "tuple" = some none)
    (z_zip : PySem.W.nsIn K mainGlobals "zip" = some none)
    (m_ : ∃ tk, PySem.W.nsIn K mainGlobals "MOST_HARM" = some (some (.int 3 tk))) :
    ∃ fd : FuncData, (∀ (s : Shared) (u : Value), BindsTo s fd ⟨[u], []⟩ [("_law_script", u)]) ∧ ∀ base : Heap, K.In base → base.Ns mainGlobals mg → FnG P w K mg base 10 fa fd ["_law_script"] (spA K 1 T_law) := by
  obtain ⟨fd, b, F⟩ := law_mk (P := P) (w := w) (top_mk X G a_is_whole a_is_between a_check_number a_link_fits a_sound_fits a_check_sound a_bit_fits a_counts_fit a_lot_fits a_hosts_fit a_contents_fit a_even_fits a_old_of a_answers_of a_answers_in a_old_in a_signs_in a_harm_of_signs a_harm_in a_way_fits a_web_fits a_web_contents_fit a_check_web a_check_web_contents a_check_all_sound a_harms_of a_web_harm a_harm_at a_ways_by_harm a__law_cell a__law_hash a__law_generator a__law_random a__law_link a__law_great a__law_few a__law_contents a__law_signs a__law_harm a__law_events a__law_moved a__law_brought a__law_heard a__law_behind a__law_web a__law_web_contents a__law_web_run a__law_web_played a__law_right a_law z_bool z_enumerate z_int z_isinstance z_len z_list z_max z_min z_range z_repr z_sorted z_str z_sum z_tuple z_zip m_) hfa
  exact ⟨fd, b, fun base _ _ => F base⟩
end
end HW

open PySem PySem.W PyProof.Rows
local macro_rules | `(tactic| walk_at "tf") => `(tactic| first | k_is | exact ⟨_, by k_is⟩ | (refine' HW.at_mk ?a ?l ?c ?k; (case a => k_is); (case l => k_is); (case c => k_is); (case k => k_is)))
set_option maxRecDepth 100000 in
set_option maxHeartbeats 0 in
theorem PySem.Challenge.cw_healwires_k65_whole_harm_of_webs_holds : PySem.Challenge.rw_healwires_k65_whole_harm_of_webs.Holds := by
  w_on; o_law; k_head; (case hw => w_witness2)
  k_fill
  refine HW.quietWalk (l := PySem.Challenge.rw_healwires_k65_whole_harm_of_webs) (n := 63) (k := 10) (x := "_law_script") (sp := fun K => DL.spA K 1 HW.T_law) rfl (by decide) rfl ⟨rfl, by decide, by decide⟩ (fun w h Y => PySem.W.kIn_of Y) ?F (fun K a ns _ => HW.law_keeps K a ns)
  case F =>
    intro w mg fa h KX G hmg
    refine' HW.end_mk KX G hmg ?a_is_whole ?a_is_between ?a_check_number ?a_link_fits ?a_sound_fits ?a_check_sound ?a_bit_fits ?a_counts_fit ?a_lot_fits ?a_hosts_fit ?a_contents_fit ?a_even_fits ?a_old_of ?a_answers_of ?a_answers_in ?a_old_in ?a_signs_in ?a_harm_of_signs ?a_harm_in ?a_way_fits ?a_web_fits ?a_web_contents_fit ?a_check_web ?a_check_web_contents ?a_check_all_sound ?a_harms_of ?a_web_harm ?a_harm_at ?a_ways_by_harm ?a__law_cell ?a__law_hash ?a__law_generator ?a__law_random ?a__law_link ?a__law_great ?a__law_few ?a__law_contents ?a__law_signs ?a__law_harm ?a__law_events ?a__law_moved ?a__law_brought ?a__law_heard ?a__law_behind ?a__law_web ?a__law_web_contents ?a__law_web_run ?a__law_web_played ?a__law_right ?a_law ?z_bool ?z_enumerate ?z_int ?z_isinstance ?z_len ?z_list ?z_max ?z_min ?z_range ?z_repr ?z_sorted ?z_str ?z_sum ?z_tuple ?z_zip ?m_ <;> walk_at "tf"
