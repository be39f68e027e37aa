import PyProof.Rows.All
import Wide.All
import OpenK.AllK
import Wide.FinOn
import HandS.ForMost
import HandS.IsInst
import HandS.Defaults
import HandS.Flow
import HandS.Walk
import HandS.SortKw
import HandS.Keys
import HandS.NamedTupSort
import HandS.Iter
import HandS.TupLe
import HandS.WordsExc
import HandS.ExcOwn
import HandS.CallSlots
import HandS.ClsMeth
import HandS.Property
import HandS.ExcIs
import HandS.TryOnly
import HandS.Zip
import HandS.TupMul
import HandS.TupAny
import HandS.OwnEq
import KE.GoesEnum
import KE.GoesMore
import HandS.Dict
import HandS.Nested
import HandS.EndTab
import HandS.Style
import KE.GoesZip
import HandS.SetFor
import HandS.Strs
import HandS.TupSets
import HandS.SetBool
import KE.KDictZip
import HandS.ExcValue
import PySem.Challenge.RW_barswoven_k30_pairs_by_deaths_and_births
set_option Elab.async false
set_option linter.all false
set_option maxRecDepth 100000
set_option maxHeartbeats 4000000
namespace B
open PySem L2

/-! ### data -/
inductive Dt where
  | non | bl (b : Bool) | int (i : Int) | str (x : Str) | lst (xs : List Dt) | tup (xs : List Dt) | ins (C : Addr) (fs : List (Str × Dt))

mutual
inductive Rp (K : PySem.W.Frag) (G : Hp) : V → Dt → Prop
  | non : Rp K G .non .non
  | bl (b : Bool) : Rp K G (.bl b) (.bl b)
  | int (i : Int) : Rp K G (.int i) (.int i)
  | str (x : Str) : Rp K G (.str x) (.str x)
  | lst {a : Addr} {xs : List V} {ds : List Dt} : SqL K G a xs → RpAll K G xs ds → Rp K G (.ref a) (.lst ds)
  | tup {a : Addr} {xs : List V} {ds : List Dt} : SqT K G a xs → RpAll K G xs ds → Rp K G (.ref a) (.tup ds)
  | ins {a C dx : Addr} {fs : List (Str × V)} {ds : List (Str × Dt)} : G a = some (.ins C dx fs) → RpF K G fs ds → Rp K G (.ref a) (.ins C ds)
inductive RpAll (K : PySem.W.Frag) (G : Hp) : List V → List Dt → Prop
  | nil : RpAll K G [] []
  | cons {v : V} {vs : List V} {d : Dt} {ds : List Dt} : Rp K G v d → RpAll K G vs ds → RpAll K G (v :: vs) (d :: ds)
inductive RpF (K : PySem.W.Frag) (G : Hp) : List (Str × V) → List (Str × Dt) → Prop
  | nil : RpF K G [] []
  | cons {f : Str} {v : V} {vs : List (Str × V)} {d : Dt} {ds : List (Str × Dt)} : Rp K G v d → RpF K G vs ds → RpF K G ((f, v) :: vs) ((f, d) :: ds)
end

theorem Same.l {K : PySem.W.Frag} {H H' : Hp} {a : Addr} {xs : List V} (e : Same H H') (h : SqL K H a xs) : SqL K H' a xs := e.seq h
theorem Same.t {K : PySem.W.Frag} {H H' : Hp} {a : Addr} {xs : List V} (e : Same H H') (h : SqT K H a xs) : SqT K H' a xs := by
  rcases h with (h | ⟨o, h⟩) | h
  · exact .inl (.inl (e _ _ h))
  · exact .inl (.inr ⟨o, e _ _ h⟩)
  · exact .inr h

section
variable {K : PySem.W.Frag} {G G' : Hp}
mutual
theorem Rp.mono (e : Same G G') : ∀ (d : Dt) (v : V), Rp K G v d → Rp K G' v d
  | .non, _, h => by cases h; exact .non
  | .bl b, _, h => by cases h; exact .bl _
  | .int i, _, h => by cases h; exact .int _
  | .str x, _, h => by cases h; exact .str _
  | .lst ds, _, h => by
    cases h with
    | lst hs ha => exact .lst (e.seq hs) (RpAll.mono e ds _ ha)
  | .tup ds, _, h => by
    cases h with
    | tup hs ha => exact .tup (Same.t e hs) (RpAll.mono e ds _ ha)
  | .ins C ds, _, h => by
    cases h with
    | ins hs ha => exact .ins (e _ _ hs) (RpF.mono e ds _ ha)
theorem RpAll.mono (e : Same G G') : ∀ (ds : List Dt) (vs : List V), RpAll K G vs ds → RpAll K G' vs ds
  | [], _, h => by cases h; exact .nil
  | d :: ds, _, h => by
    cases h with
    | cons h1 h2 => exact .cons (Rp.mono e d _ h1) (RpAll.mono e ds _ h2)
theorem RpF.mono (e : Same G G') : ∀ (ds : List (Str × Dt)) (vs : List (Str × V)), RpF K G vs ds → RpF K G' vs ds
  | [], _, h => by cases h; exact .nil
  | (f, d) :: ds, _, h => by
    cases h with
    | cons h1 h2 => exact .cons (Rp.mono e d _ h1) (RpF.mono e ds _ h2)
end
theorem Rp.up {v : V} {d : Dt} (e : Same G G') (h : Rp K G v d) : Rp K G' v d := Rp.mono e d v h
theorem RpAll.up {v : List V} {d : List Dt} (e : Same G G') (h : RpAll K G v d) : RpAll K G' v d := RpAll.mono e d v h
theorem RpF.up {v : List (Str × V)} {d : List (Str × Dt)} (e : Same G G') (h : RpF K G v d) : RpF K G' v d := RpF.mono e d v h

theorem Rp.non_inv {v : V} (h : Rp K G v .non) : v = .non := by cases h; rfl
theorem Rp.bl_inv {v : V} {b : Bool} (h : Rp K G v (.bl b)) : v = .bl b := by cases h; rfl
theorem Rp.int_inv {v : V} {b : Int} (h : Rp K G v (.int b)) : v = .int b := by cases h; rfl
theorem Rp.str_inv {v : V} {b : Str} (h : Rp K G v (.str b)) : v = .str b := by cases h; rfl
theorem Rp.lst_inv {v : V} {ds : List Dt} (h : Rp K G v (.lst ds)) : ∃ a xs, v = .ref a ∧ SqL K G a xs ∧ RpAll K G xs ds := by
  cases h with
  | lst h1 h2 => exact ⟨_, _, rfl, h1, h2⟩
theorem Rp.tup_inv {v : V} {ds : List Dt} (h : Rp K G v (.tup ds)) : ∃ a xs, v = .ref a ∧ SqT K G a xs ∧ RpAll K G xs ds := by
  cases h with
  | tup h1 h2 => exact ⟨_, _, rfl, h1, h2⟩
theorem Rp.ins_inv {v : V} {C : Addr} {ds : List (Str × Dt)} (h : Rp K G v (.ins C ds)) : ∃ a dx fs, v = .ref a ∧ G a = some (.ins C dx fs) ∧ RpF K G fs ds := by
  cases h with
  | ins h1 h2 => exact ⟨_, _, _, rfl, h1, h2⟩
theorem RpAll.length : ∀ {vs : List V} {ds : List Dt}, RpAll K G vs ds → vs.length = ds.length
  | _, [], h => by cases h; rfl
  | _, d :: ds, h => by
    cases h with
    | cons h1 h2 => exact congrArg Nat.succ (RpAll.length h2)
theorem RpAll.get : ∀ {vs : List V} {ds : List Dt} {i : Nat} {d : Dt}, RpAll K G vs ds → ds[i]? = some d → ∃ v, vs[i]? = some v ∧ Rp K G v d
  | _, [], i, d, h, e => by simp at e
  | _, d :: ds, 0, _, h, e => by
    cases h with
    | cons h1 h2 =>
      simp at e
      subst e
      exact ⟨_, rfl, h1⟩
  | _, d :: ds, i + 1, _, h, e => by
    cases h with
    | cons h1 h2 => exact RpAll.get (i := i) h2 (by simpa using e)
theorem RpAll.getV : ∀ {vs : List V} {ds : List Dt} {i : Nat} {v : V}, RpAll K G vs ds → vs[i]? = some v → ∃ d, ds[i]? = some d ∧ Rp K G v d
  | _, [], i, d, h, e => by cases h; simp at e
  | _, d :: ds, 0, _, h, e => by
    cases h with
    | cons h1 h2 =>
      simp at e
      subst e
      exact ⟨_, rfl, h1⟩
  | _, d :: ds, i + 1, _, h, e => by
    cases h with
    | cons h1 h2 => exact RpAll.getV (i := i) h2 (by simpa using e)
theorem RpAll.atI {vs : List V} {ds : List Dt} {i : Int} {d : Dt} (h : RpAll K G vs ds) (e : atI ds i = some d) : ∃ v, L2.atI vs i = some v ∧ Rp K G v d := by
  unfold L2.atI at e ⊢
  rw [h.length]
  cases hi : ixN ds.length i with
  | none => rw [hi] at e; cases e
  | some j =>
    rw [hi] at e
    exact h.get e
theorem RpAll.app {vs ws : List V} {ds es : List Dt} (h : RpAll K G vs ds) (h' : RpAll K G ws es) : RpAll K G (vs ++ ws) (ds ++ es) := by
  induction ds generalizing vs with
  | nil => cases h; exact h'
  | cons d ds ih =>
    cases h with
    | cons h1 h2 => exact .cons h1 (ih h2)
theorem RpAll.one {v : V} {d : Dt} (h : Rp K G v d) : RpAll K G [v] [d] := .cons h .nil
theorem RpAll.bls_inv : ∀ {vs : List V} {bs : List Bool}, RpAll K G vs (bs.map .bl) → vs = bs.map .bl
  | _, [], h => by cases h; rfl
  | _, b :: bs, h => by
    cases h with
    | cons h1 h2 => rw [Rp.bl_inv h1, RpAll.bls_inv h2]; rfl
theorem RpAll.ints_inv : ∀ {vs : List V} {bs : List Int}, RpAll K G vs (bs.map .int) → vs = bs.map .int
  | _, [], h => by cases h; rfl
  | _, b :: bs, h => by
    cases h with
    | cons h1 h2 => rw [Rp.int_inv h1, RpAll.ints_inv h2]; rfl
theorem RpAll.ints : ∀ {bs : List Int}, RpAll K G (bs.map .int) (bs.map .int)
  | [] => .nil
  | b :: bs => .cons (.int b) RpAll.ints
theorem RpAll.take (h : RpAll K G vs ds) (n : Nat) : RpAll K G (vs.take n) (ds.take n) := by
  induction ds generalizing vs n with
  | nil => cases h; simp; exact .nil
  | cons d ds ih =>
    cases h with
    | cons h1 h2 =>
      cases n with
      | zero => exact .nil
      | succ n => exact .cons h1 (ih h2 n)
theorem RpAll.drop (h : RpAll K G vs ds) (n : Nat) : RpAll K G (vs.drop n) (ds.drop n) := by
  induction ds generalizing vs n with
  | nil => cases h; simp; exact .nil
  | cons d ds ih =>
    cases h with
    | cons h1 h2 =>
      cases n with
      | zero => exact .cons h1 h2
      | succ n => exact ih h2 n
theorem RpAll.set {v : V} {d : Dt} (h : RpAll K G vs ds) (r : Rp K G v d) (n : Nat) : RpAll K G (vs.set n v) (ds.set n d) := by
  induction ds generalizing vs n with
  | nil => cases h; simp; exact .nil
  | cons e ds ih =>
    cases h with
    | cons h1 h2 =>
      cases n with
      | zero => exact .cons r h2
      | succ n => exact .cons h1 (ih h2 n)
/-- equal lengths and places -/
theorem RpAll.of_get {vs : List V} {ds : List Dt} (hl : vs.length = ds.length) (h : ∀ (i : Nat) v d, vs[i]? = some v → ds[i]? = some d → Rp K G v d) : RpAll K G vs ds := by
  induction ds generalizing vs with
  | nil =>
    cases vs with
    | nil => exact .nil
    | cons v vs => simp at hl
  | cons d ds ih =>
    cases vs with
    | nil => simp at hl
    | cons v vs =>
      refine .cons (h 0 v d rfl rfl) (ih (by simpa using hl) fun i v' d' h1 h2 => h (i + 1) v' d' (by simpa using h1) (by simpa using h2))
end

/-! ### the state -/
structure Adv (D : List Addr) (G H G' H' : Hp) : Prop where
  gg : Same G G'
  gh : Same G' H'
  fr : ∀ a, H a ≠ none → G' a = G a
  kp : ∀ a o, H a = some o → a ∉ D → H' a = some o
  up : ∀ a, H a ≠ none → H' a ≠ none

structure Sta (K : PySem.W.Frag) (G0 H0 : Hp) (D : List Addr) (G : Hp) (M : List (Addr × HO)) (H : Hp) : Prop where
  g0 : Same G0 G
  gh : Same G H
  fr : ∀ a, H0 a ≠ none → G a = G0 a
  kp : ∀ a o, H0 a = some o → a ∉ D → H a = some o
  up : ∀ a, H0 a ≠ none → H a ≠ none
  md : (M.map (·.1)).Nodup
  mh : ∀ q ∈ M, H q.1 = some q.2 ∧ G q.1 = none ∧ (q.1 ∈ D ∨ H0 q.1 = none)

section
variable {K : PySem.W.Frag} {G0 H0 G H G1 H1 : Hp} {D : List Addr} {M : List (Addr × HO)} {p : Addr} {o : HO}
theorem same_upd {H : Hp} {p : Addr} {o : HO} (h : H p = none) : Same H (upd H p o) := fun b x e => by
  rw [upd_ne (ne_of_none e h)]
  exact e
theorem same_upd2 {G H : Hp} {p : Addr} {o : HO} (e : Same G H) : Same (upd G p o) (upd H p o) := fun b x h => by
  by_cases hb : b = p
  · subst hb
    rw [upd_same] at h ⊢
    exact h
  · rw [upd_ne hb] at h ⊢
    exact e _ _ h
theorem same_updR {G H : Hp} {p : Addr} {o : HO} (e : Same G H) (h : G p = none) : Same G (upd H p o) := fun b x hb => by
  rw [upd_ne (ne_of_none hb h)]
  exact e _ _ hb
theorem Sta.adv (h : Sta K G0 H0 D G M H) : Adv D G0 H0 G H := ⟨h.g0, h.gh, h.fr, h.kp, h.up⟩
theorem Sta.start (e : Same G H) : Sta K G H [] G [] H :=
  ⟨Same.refl G, e, fun _ _ => rfl, fun _ _ h _ => h, fun _ h => h, by simp, fun q hq => by simp at hq⟩
theorem Sta.start1 (e : Same G H) (hp : H p = some o) (hg : G p = none) : Sta K G H [p] G [(p, o)] H :=
  ⟨Same.refl G, e, fun _ _ => rfl, fun _ _ h _ => h, fun _ h => h, by simp, fun q hq => by
    simp at hq
    subst hq
    exact ⟨hp, hg, .inl (by simp)⟩⟩
theorem Sta.h0 (h : Sta K G0 H0 D G M H) (hp : H p = none) : H0 p = none := by
  cases e : H0 p with
  | none => rfl
  | some u => exact absurd hp (h.up p (by rw [e]; exact fun z => nomatch z))
theorem Sta.gn (h : Sta K G0 H0 D G M H) (hp : H p = none) : G p = none := h.gh.free hp
theorem Sta.mn (h : Sta K G0 H0 D G M H) (hp : H p = none) : ∀ q ∈ M, q.1 ≠ p := fun q hq e => by
  have := (h.mh q hq).1
  rw [e, hp] at this
  cases this
/-- a new object that never changes -/
theorem Sta.imm (h : Sta K G0 H0 D G M H) (hp : H p = none) (o : HO) : Sta K G0 H0 D (upd G p o) M (upd H p o) where
  g0 := h.g0.trans (same_upd (h.gn hp))
  gh := same_upd2 h.gh
  fr := fun a ha => by
    have : a ≠ p := fun e => ha (by rw [e]; exact h.h0 hp)
    rw [upd_ne this]
    exact h.fr a ha
  kp := fun a u ha hd => by
    rw [upd_ne (ne_of_none ha (h.h0 hp))]
    exact h.kp a u ha hd
  up := fun a ha => by
    have : a ≠ p := fun e => ha (by rw [e]; exact h.h0 hp)
    rw [upd_ne this]
    exact h.up a ha
  md := h.md
  mh := fun q hq => by
    have := h.mn hp q hq
    rw [upd_ne this, upd_ne this]
    exact h.mh q hq
/-- a new object that will change -/
theorem Sta.mut (h : Sta K G0 H0 D G M H) (hp : H p = none) (o : HO) : Sta K G0 H0 D G ((p, o) :: M) (upd H p o) where
  g0 := h.g0
  gh := same_updR h.gh (h.gn hp)
  fr := h.fr
  kp := fun a u ha hd => by
    rw [upd_ne (ne_of_none ha (h.h0 hp))]
    exact h.kp a u ha hd
  up := fun a ha => by
    have : a ≠ p := fun e => ha (by rw [e]; exact h.h0 hp)
    rw [upd_ne this]
    exact h.up a ha
  md := by
    simp only [List.map_cons, List.nodup_cons]
    exact ⟨fun hm => by
      obtain ⟨q, hq, e⟩ := List.mem_map.mp hm
      exact h.mn hp q hq e, h.md⟩
  mh := fun q hq => by
    rcases List.mem_cons.mp hq with rfl | hq
    · exact ⟨upd_same, h.gn hp, .inr (h.h0 hp)⟩
    · rw [upd_ne (h.mn hp q hq)]
      exact h.mh q hq
theorem Sta.get (h : Sta K G0 H0 D G M H) {i : Nat} (hi : M[i]? = some (p, o)) : H p = some o := (h.mh _ (List.mem_of_getElem? hi)).1
theorem nd_at {α β : Type} {M : List (α × β)} (nd : (M.map (·.1)).Nodup) {i j : Nat} {p q : α × β} (hi : M[i]? = some p) (hj : M[j]? = some q) (e : p.1 = q.1) : i = j := by
  have h1 : (M.map (·.1))[i]? = some p.1 := by rw [List.getElem?_map, hi]; rfl
  have h2 : (M.map (·.1))[j]? = some q.1 := by rw [List.getElem?_map, hj]; rfl
  exact L2.nd_ix nd h1 (by rw [e]; exact h2)
theorem set_keys {M : List (Addr × HO)} {i : Nat} {p : Addr} {o u : HO} (hi : M[i]? = some (p, o)) : (M.set i (p, u)).map (·.1) = M.map (·.1) := by
  rw [List.map_set]
  apply List.ext_getElem?
  intro j
  rw [List.getElem?_set]
  split
  · rename_i e
    subst e
    split
    · rw [List.getElem?_map, hi]; rfl
    · rename_i hn
      have := (List.getElem?_eq_some_iff.mp hi).1
      simp at hn
      omega
  · rfl
theorem set_mem {M : List (Addr × HO)} {i : Nat} {p : Addr} {o u : HO} (nd : (M.map (·.1)).Nodup) (hi : M[i]? = some (p, o)) {q : Addr × HO} (hq : q ∈ M.set i (p, u)) : q = (p, u) ∨ (q ∈ M ∧ q.1 ≠ p) := by
  obtain ⟨j, hj⟩ := List.mem_iff_getElem?.mp hq
  rw [List.getElem?_set] at hj
  split at hj
  · split at hj
    · exact .inl (Option.some.inj hj).symm
    · cases hj
  · rename_i hne
    refine .inr ⟨List.mem_of_getElem? hj, fun e => hne ?_⟩
    exact nd_at nd hi hj e.symm
/-- an object that may change is written -/
theorem Sta.set (h : Sta K G0 H0 D G M H) {i : Nat} (hi : M[i]? = some (p, o)) (u : HO) : Sta K G0 H0 D G (M.set i (p, u)) (upd H p u) where
  g0 := h.g0
  gh := same_updR h.gh (h.mh _ (List.mem_of_getElem? hi)).2.1
  fr := h.fr
  kp := fun a v ha hd => by
    have : a ≠ p := fun e => by
      subst e
      rcases (h.mh _ (List.mem_of_getElem? hi)).2.2 with z | z
      · exact hd z
      · have z' : H0 a = none := z
        rw [ha] at z'
        cases z'
    rw [upd_ne this]
    exact h.kp a v ha hd
  up := fun a ha => by
    by_cases e : a = p
    · rw [e, upd_same]; exact fun z => nomatch z
    · rw [upd_ne e]; exact h.up a ha
  md := by rw [set_keys hi]; exact h.md
  mh := fun q hq => by
    rcases set_mem h.md hi hq with rfl | ⟨hm, hn⟩
    · exact ⟨upd_same, (h.mh _ (List.mem_of_getElem? hi)).2⟩
    · rw [upd_ne hn]
      exact h.mh q hm
/-- the first of what may change will not change any more -/
theorem Sta.frz (h : Sta K G0 H0 D G ((p, o) :: M) H) (h0 : H0 p = none) : Sta K G0 H0 D (upd G p o) M H ∧ Same G (upd G p o) := by
  have hm := h.mh _ List.mem_cons_self
  have hmn : ∀ q ∈ M, q.1 ≠ p := fun q hq e => by
    have := h.md
    simp only [List.map_cons, List.nodup_cons] at this
    exact this.1 (List.mem_map.mpr ⟨q, hq, e⟩)
  have sg : Same G (upd G p o) := same_upd hm.2.1
  refine ⟨⟨h.g0.trans sg, fun b x e => ?_, fun a ha => ?_, h.kp, h.up, ?_, fun q hq => ?_⟩, sg⟩
  · by_cases hb : b = p
    · subst hb
      rw [upd_same] at e
      cases e
      exact hm.1
    · rw [upd_ne hb] at e
      exact h.gh _ _ e
  · have : a ≠ p := fun e => ha (by rw [e]; exact h0)
    rw [upd_ne this]
    exact h.fr a ha
  · have := h.md
    simp only [List.map_cons, List.nodup_cons] at this
    exact this.2
  · rw [upd_ne (hmn q hq)]
    exact h.mh q (List.mem_cons_of_mem _ hq)
theorem Sta.frzL (h : Sta K G0 H0 D G ((p, .lst xs) :: M) H) (h0 : H0 p = none) (hx : RpAll K G xs ds) : ∃ G1, Same G G1 ∧ Sta K G0 H0 D G1 M H ∧ Rp K G1 (.ref p) (.lst ds) := by
  obtain ⟨h1, e⟩ := h.frz h0
  exact ⟨_, e, h1, .lst (.inl (.inl upd_same)) (hx.up e)⟩
/-- the first of what may change is forgotten (it was the def's own) -/
theorem Sta.pop (h : Sta K G0 H0 D G ((p, o) :: M) H) : Sta K G0 H0 D G M H :=
  ⟨h.g0, h.gh, h.fr, h.kp, h.up, by
    have := h.md
    simp only [List.map_cons, List.nodup_cons] at this
    exact this.2, fun q hq => h.mh q (List.mem_cons_of_mem _ hq)⟩
/-- a call that changes nothing that stood -/
theorem Sta.call (h : Sta K G0 H0 D G M H) (a : Adv [] G H G1 H1) : Sta K G0 H0 D G1 M H1 where
  g0 := h.g0.trans a.gg
  gh := a.gh
  fr := fun b hb => by rw [a.fr b (h.up b hb)]; exact h.fr b hb
  kp := fun b u hb hd => a.kp b u (h.kp b u hb hd) (by simp)
  up := fun b hb => a.up b (h.up b hb)
  md := h.md
  mh := fun q hq => by
    obtain ⟨e1, e2, e3⟩ := h.mh q hq
    exact ⟨a.kp _ _ e1 (by simp), by rw [a.fr _ (by rw [e1]; exact fun z => nomatch z)]; exact e2, e3⟩
/-- a call that changes one thing that may change -/
theorem Sta.callM (h : Sta K G0 H0 D G M H) {i : Nat} {u : HO} (hi : M[i]? = some (p, o)) (a : Adv [p] G H G1 H1) (hp : H1 p = some u) : Sta K G0 H0 D G1 (M.set i (p, u)) H1 where
  g0 := h.g0.trans a.gg
  gh := a.gh
  fr := fun b hb => by rw [a.fr b (h.up b hb)]; exact h.fr b hb
  kp := fun b v hb hd => by
    have : b ≠ p := fun e => by
      subst e
      rcases (h.mh _ (List.mem_of_getElem? hi)).2.2 with z | z
      · exact hd z
      · have z' : H0 b = none := z
        rw [hb] at z'
        cases z'
    exact a.kp b v (h.kp b v hb hd) (by simpa using this)
  up := fun b hb => a.up b (h.up b hb)
  md := by rw [set_keys hi]; exact h.md
  mh := fun q hq => by
    rcases set_mem h.md hi hq with rfl | ⟨hm, hn⟩
    · obtain ⟨e1, e2, e3⟩ := h.mh _ (List.mem_of_getElem? hi)
      exact ⟨hp, by rw [a.fr _ (by rw [e1]; exact fun z => nomatch z)]; exact e2, e3⟩
    · obtain ⟨e1, e2, e3⟩ := h.mh q hm
      exact ⟨a.kp _ _ e1 (by simpa using hn), by rw [a.fr _ (by rw [e1]; exact fun z => nomatch z)]; exact e2, e3⟩
end
end B
namespace B
open PySem L2

theorem sz {n : Nat} (h : n ≤ 100000) : n ≤ sizeLine := Nat.le_trans h (by decide)
/-! ### the readings' parts by names (the wish stays an argument) -/
def NT (Q : VK) (xs : List V) (H : Hp) : Prop := xs.length ≤ sizeLine ∧ ∀ p, H p = none → Q (.ref p) (upd H p (.tup xs))
def NL (Q : VK) (xs : List V) (H : Hp) : Prop := xs.length ≤ sizeLine ∧ ∀ p, H p = none → Q (.ref p) (upd H p (.lst xs))
def TK (P : Bool → Hp → Prop) (x : V) (H : Hp) : Prop := ∃ k, x = .bl k ∧ P k H
def TKA (A B : Hp → Prop) (x : V) (H : Hp) : Prop := ∃ k, x = .bl k ∧ if k = true then A H else B H
def RK1 (k : It → Hp → Prop) (vs : List V) (H : Hp) : Prop := ∃ j : Int, vs = [.int j] ∧ -(2 ^ 62) ≤ j ∧ j < 2 ^ 62 ∧ k (Itr 0 j.toNat) H
def RK2 (k : It → Hp → Prop) (vs : List V) (H : Hp) : Prop := ∃ i j : Int, vs = [.int i, .int j] ∧ (-(2 ^ 62) ≤ i ∧ i < 2 ^ 62 ∧ -(2 ^ 62) ≤ j ∧ j < 2 ^ 62) ∧ k (Itr i (j - i).toNat) H
def LK (K : PySem.W.Frag) (k : It → Hp → Prop) (x : V) (H : Hp) : Prop := ∃ a, x = .ref a ∧ (∃ xs, SqL K H a xs) ∧ k (Itl K a) H
def FK (K : PySem.W.Frag) (f : Str) (Q : VK) (x : V) (H : Hp) : Prop := ∃ a C dx fs v, x = .ref a ∧ H a = some (.ins C dx fs) ∧ Cls K C ∧ NoAttr K C f ∧ fs.lookup f = some v ∧ Q v H
def CN (n m : Nat) (sp : Sp) (gV : List V → List V → List V) (Q : VK) (E : XK) (vs zs : List V) (H : Hp) : Prop := vs.length = n ∧ zs.length = m ∧ sp (gV vs zs) H Q E
def P2 (p : L2.St → Hp → Prop) (σ : L2.St) (i j : Nat) (vs : List V) (H : Hp) : Prop := ∃ v w, vs = [v, w] ∧ p ((σ.set i (some v)).set j (some w)) H
def BMK (K : PySem.W.Frag) (T : String) (k : Hp → Prop) (x : V) (H : Hp) : Prop := tyV K T x H ∧ k H
def rAbs_ : List V → Hp → VK → Prop := fun xs H Q => ∃ i, xs = [.int i] ∧ Q (.int (if i < 0 then -i else i)) H
def rMax2_ : List V → Hp → VK → Prop := fun xs H Q => ∃ i j, xs = [.int i, .int j] ∧ Q (.int (if j > i then j else i)) H
def rMin2_ : List V → Hp → VK → Prop := fun xs H Q => ∃ i j, xs = [.int i, .int j] ∧ Q (.int (if j < i then j else i)) H
def rInt_ : List V → Hp → VK → Prop := fun xs H Q => (∃ i, xs = [.int i] ∧ Q (.int i) H) ∨ ∃ k, xs = [.bl k] ∧ Q (.int (if k then 1 else 0)) H
def rLen_ (K : PySem.W.Frag) : List V → Hp → VK → Prop := fun xs H Q => ∃ p ys, xs = [.ref p] ∧ (SqL K H p ys ∨ SqT K H p ys) ∧ Q (.int ys.length) H
def rLenS_ : List V → Hp → VK → Prop := fun xs H Q => ∃ z, xs = [.str z] ∧ z.length ≤ sizeLine ∧ Q (.int z.length) H
def rListOf_ (K : PySem.W.Frag) : List V → Hp → VK → Prop := fun xs H Q => ∃ p ys, xs = [.ref p] ∧ (SqL K H p ys ∨ SqT K H p ys) ∧ ∀ l, H l = none → Q (.ref l) (upd H l (.lst ys))
def rTupOf_ (K : PySem.W.Frag) : List V → Hp → VK → Prop := fun xs H Q => ∃ p ys, xs = [.ref p] ∧ ((SqL K H p ys ∧ ∀ l, H l = none → Q (.ref l) (upd H l (.tup ys))) ∨ (SqT K H p ys ∧ Q (.ref p) H))
def rIsN_ : R2 := fun x y H Q => y = .non ∧ Q (.bl (decide (x = .non))) H
def rNotN_ : R2 := fun x y H Q => y = .non ∧ Q (.bl (!decide (x = .non))) H
def rTru_ (K : PySem.W.Frag) (P : Bool → Hp → Prop) (x : V) (H : Hp) : Prop := ∃ k, TruV K x H k ∧ P k H
def tTru_ (K : PySem.W.Frag) (ta : TE) : TT := fun σ H Q => ta σ H fun x H' => rTru_ K Q x H'
section
variable {X : Cx}
theorem b_abs : CallR X (.builtin "abs") rAbs_ := call_abs
theorem b_max (hc : X.calm = true) : CallR X (.builtin "max") rMax2_ := call_max2 hc
theorem b_min (hc : X.calm = true) : CallR X (.builtin "min") rMin2_ := call_min2 hc
theorem b_int : CallR X (.type "int") rInt_ := call_int1
theorem b_len : CallR X (.builtin "len") (rLen_ X.K) := call_len_seq
theorem b_lenS : CallR X (.builtin "len") rLenS_ := call_len_str
theorem b_list : CallR X (.type "list") (rListOf_ X.K) := call_list_of
theorem b_tuple : CallR X (.type "tuple") (rTupOf_ X.K) := call_tuple_of
theorem o_isN : OpR X (compareOp .Is) rIsN_ := op_isN
theorem o_notN : OpR X (compareOp .IsNot) rNotN_ := op_notN
theorem pt_tru {a : Expr} {ta : TE} (ha : PE X a ta) (he : ∀ whole, isTrue a X.env whole = (do let v ← whole; standAt a.pos; holding [v] (truthy v)) := by intro _; rfl) : PT X a (tTru_ X.K ta) := pt_truth ha he
end

theorem mi0 {M : List (Addr × HO)} {q : Addr × HO} (h : M[0]? = some q) : M[0]? = some q := h
theorem mi1 {M : List (Addr × HO)} {q : Addr × HO} (h : M[1]? = some q) : M[1]? = some q := h
theorem mi2 {M : List (Addr × HO)} {q : Addr × HO} (h : M[2]? = some q) : M[2]? = some q := h
theorem mi3 {M : List (Addr × HO)} {q : Addr × HO} (h : M[3]? = some q) : M[3]? = some q := h
/-! ### one step each: the reading's head is taken off -/
section
variable {K : PySem.W.Frag} {G0 H0 G H : Hp} {D : List Addr} {M : List (Addr × HO)} {σ σ' : L2.St} {Q : VK} {nx bk ct : L2.St → Hp → Prop} {rt : VK} {t u : TS} {c c' : TT} {ta tb te : TE} {x y v : V} {d : Dt} {ds : List Dt} {P : Bool → Hp → Prop} {R : List V → Hp → Prop} {i : Nat} {b : Bool}
theorem go_σ {p : L2.St → Hp → Prop} (e : List.set σ i (some x) = σ') (h : p σ' H) : p (List.set σ i (some x)) H := by rw [e]; exact h
theorem go_start {N : List Str} {vs : List V} {De : Ends} (e : start N vs = σ) (h : t De σ H) : t De (start N vs) H := by rw [e]; exact h
theorem go_seq (h : t ⟨u ⟨nx, rt, bk, ct⟩, rt, bk, ct⟩ σ H) : tSeq t u ⟨nx, rt, bk, ct⟩ σ H := h
theorem go_next (h : nx σ H) : tNext ⟨nx, rt, bk, ct⟩ σ H := h
theorem go_break (h : bk σ H) : tBreak ⟨nx, rt, bk, ct⟩ σ H := h
theorem go_cont (h : ct σ H) : tCont ⟨nx, rt, bk, ct⟩ σ H := h
theorem go_asg {g : TG} (h : te σ H fun x H1 => g x σ H1 nx) : tAsg te g ⟨nx, rt, bk, ct⟩ σ H := h
theorem go_gname {p : L2.St → Hp → Prop} (e : List.set σ i (some x) = σ') (h : p σ' H) : gName i x σ H p := by show p (List.set σ i (some x)) H; rw [e]; exact h
theorem go_aug {ti : TIp} (e : σ[i]? = some (some x)) (h : te σ H fun y H1 => ti x y H1 fun z H2 => nx (σ.set i (some z)) H2) : tAug i te ti ⟨nx, rt, bk, ct⟩ σ H := ⟨x, e, h⟩
theorem go_ipI {f : Int → Int → Int} {i j : Int} (h : Q (.int (f i j)) H) : ipI f (.int i) (.int j) H Q := ⟨i, j, rfl, rfl, h⟩
theorem go_ret (h : te σ H rt) : tRet te ⟨nx, rt, bk, ct⟩ σ H := h
theorem go_retN (h : rt .non H) : tRetN ⟨nx, rt, bk, ct⟩ σ H := h
theorem go_drop (h : te σ H fun _ H1 => nx σ H1) : tDrop te ⟨nx, rt, bk, ct⟩ σ H := h
theorem go_ifS (h : c σ H fun b H1 => if b = true then t ⟨nx, rt, bk, ct⟩ σ H1 else u ⟨nx, rt, bk, ct⟩ σ H1) : tIfS c t u ⟨nx, rt, bk, ct⟩ σ H := h
theorem go_par {i j : Nat} {t : TA} (h : t σ H fun vs H1 => P2 nx σ i j vs H1) : tPar i j t ⟨nx, rt, bk, ct⟩ σ H := h
theorem go_par2 {p : L2.St → Hp → Prop} {i j : Nat} (e : List.set (List.set σ i (some x)) j (some y) = σ') (h : p σ' H) : P2 p σ i j [x, y] H := ⟨x, y, rfl, by rw [e]; exact h⟩

theorem go_var (e : σ[i]? = some (some v)) (h : Q v H) : tVar i σ H Q := ⟨v, e, h⟩
theorem go_c (h : Q v H) : tC v σ H Q := h
theorem go_op {r : R2} (h : ta σ H fun x H1 => tb σ H1 fun y H2 => r x y H2 Q) : tOp r ta tb σ H Q := h
theorem go_un {r : V → Hp → VK → Prop} (h : ta σ H fun x H1 => r x H1 Q) : tUn r ta σ H Q := h
theorem go_rI0 {g : Int → Int → V} {i j : Int} (h : Q (g i j) H) : rI0 g (.int i) (.int j) H Q := ⟨i, j, rfl, rfl, h⟩
theorem go_rI {C : Int → Int → Prop} {g : Int → Int → V} {i j : Int} (hc : C i j) (h : Q (g i j) H) : rI C g (.int i) (.int j) H Q := ⟨i, j, rfl, rfl, hc, h⟩
theorem go_rU {g : Int → V} {i : Int} (h : Q (g i) H) : rU g (.int i) H Q := ⟨i, rfl, h⟩
theorem go_eqI {i j : Int} (h : Q (.bl (decide (i = j))) H) : rEq (.int i) (.int j) H Q := ⟨rfl, by
  have : decide (V.int i = V.int j) = decide (i = j) := by simp
  rw [this]; exact h⟩
theorem go_neI {i j : Int} (h : Q (.bl (!decide (i = j))) H) : rNe (.int i) (.int j) H Q := ⟨rfl, by
  have : decide (V.int i = V.int j) = decide (i = j) := by simp
  rw [this]; exact h⟩
theorem go_eqB {i j : Bool} (h : Q (.bl (decide (i = j))) H) : rEq (.bl i) (.bl j) H Q := ⟨rfl, by
  have : decide (V.bl i = V.bl j) = decide (i = j) := by simp
  rw [this]; exact h⟩
theorem go_neB {i j : Bool} (h : Q (.bl (!decide (i = j))) H) : rNe (.bl i) (.bl j) H Q := ⟨rfl, by
  have : decide (V.bl i = V.bl j) = decide (i = j) := by simp
  rw [this]; exact h⟩
theorem go_eqS {i j : Str} (h : Q (.bl (decide (i = j))) H) : rEq (.str i) (.str j) H Q := ⟨rfl, by
  have : decide (V.str i = V.str j) = decide (i = j) := by simp
  rw [this]; exact h⟩
theorem go_neS {i j : Str} (h : Q (.bl (!decide (i = j))) H) : rNe (.str i) (.str j) H Q := ⟨rfl, by
  have : decide (V.str i = V.str j) = decide (i = j) := by simp
  rw [this]; exact h⟩
theorem go_tIsN (h : ta σ H fun x H1 => Q (.bl (decide (x = .non))) H1) : tIsN ta σ H Q := h
theorem go_tNotN (h : ta σ H fun x H1 => Q (.bl (!decide (x = .non))) H1) : tNotN ta σ H Q := h
theorem isN_int {i : Int} : decide (V.int i = .non) = false := rfl
theorem isN_non : decide (V.non = .non) = true := rfl
theorem isN_ref {i : Addr} : decide (V.ref i = .non) = false := rfl
theorem isN_bl {i : Bool} : decide (V.bl i = .non) = false := rfl
theorem isN_str {i : Str} : decide (V.str i = .non) = false := rfl
theorem go_tTest (h : te σ H fun x H1 => TK P x H1) : tTest te σ H P := h
theorem go_tB (h : te σ H fun x H1 => TK P x H1) : tB te σ H P := h
theorem go_k (h : P b H) : TK P (.bl b) H := ⟨b, rfl, h⟩
theorem go_tAnd (h : c σ H fun b H1 => if b = true then c' σ H1 P else P false H1) : tAnd c c' σ H P := h
theorem go_tOr (h : c σ H fun b H1 => if b = true then P true H1 else c' σ H1 P) : tOr c c' σ H P := h
theorem go_tNot (h : c σ H fun b H1 => P (!b) H1) : tNot c σ H P := h
theorem go_tAndV (h : ta σ H fun x H1 => TKA (fun H2 => tb σ H2 Q) (fun H2 => Q (.bl false) H2) x H1) : tAndV ta tb σ H Q := h
theorem go_tOrV (h : ta σ H fun x H1 => TKA (fun H2 => Q (.bl true) H2) (fun H2 => tb σ H2 Q) x H1) : tOrV ta tb σ H Q := h
theorem go_tNotV (h : ta σ H fun x H1 => TK (fun k H2 => Q (.bl (!k)) H2) x H1) : tNotV ta σ H Q := h
theorem go_kand {A B : Hp → Prop} (h : if b = true then A H else B H) : TKA A B (.bl b) H := ⟨b, rfl, h⟩
theorem go_tIf (h : c σ H fun b H1 => if b = true then ta σ H1 Q else tb σ H1 Q) : tIf c ta tb σ H Q := h
theorem go_tYes (h : P true H) : tYes σ H P := h
theorem go_cons {tr : TA} (h : ta σ H fun x H1 => tr σ H1 fun xs H2 => R (x :: xs) H2) : tCons ta tr σ H R := h
theorem go_nil (h : R [] H) : tNil σ H R := h
theorem go_tCB {r : List V → Hp → VK → Prop} {t : TA} (h : t σ H fun vs H1 => r vs H1 Q) : tCB r t σ H Q := h
theorem go_call {sp : Sp} {dvs : List V} {E : XK} {t : TA} (h : t σ H fun vs H1 => sp (vs ++ dvs) H1 Q E) : tCall sp dvs E t σ H Q := h
theorem go_call0 {sp : Sp} {vs : List V} {E : XK} (h : sp vs H Q E) : sp (vs ++ []) H Q E := by rw [List.append_nil]; exact h
theorem go_callN {n m : Nat} {sp : Sp} {gV : List V → List V → List V} {E : XK} {t tk : TA} (h : t σ H fun vs H1 => tk σ H1 fun zs H2 => CN n m sp gV Q E vs zs H2) : tCallN n m sp gV E t tk σ H Q := h
theorem go_chain {r r' : R2} {tc : TE} (h : ta σ H fun x H1 => tb σ H1 fun y H2 => r x y H2 fun z H3 => TKA (fun H4 => tc σ H4 fun w H5 => r' y w H5 Q) (fun H4 => Q (.bl false) H4) z H3) : tChain r r' ta tb tc σ H Q := h
theorem go_ite {p : Prop} [Decidable p] {A B : Prop} (h1 : p → A) (h2 : ¬ p → B) : if decide p = true then A else B := by
  by_cases h : p
  · rw [if_pos (decide_eq_true h)]; exact h1 h
  · rw [if_neg (by simpa using h)]; exact h2 h
theorem go_iteN {p : Prop} [Decidable p] {A B : Prop} (h1 : ¬ p → A) (h2 : p → B) : if (!decide p) = true then A else B := by
  by_cases h : p
  · rw [if_neg (by simpa using h)]; exact h2 h
  · rw [if_pos (by simpa using h)]; exact h1 h
theorem go_iteT {A B : Prop} (h : A) : if true = true then A else B := by rw [if_pos rfl]; exact h
theorem go_iteF {A B : Prop} (h : B) : if false = true then A else B := by rw [if_neg (by decide)]; exact h
theorem go_iteX1 {A B : Prop} (e : b = true) (h : A) : if b = true then A else B := by rw [if_pos e]; exact h
theorem go_iteX0 {A B : Prop} (e : b = false) (h : B) : if b = true then A else B := by rw [if_neg (by rw [e]; decide)]; exact h
theorem go_iteB {A B : Prop} (h1 : b = true → A) (h2 : b = false → B) : if b = true then A else B := by
  cases b with
  | true => rw [if_pos rfl]; exact h1 rfl
  | false => rw [if_neg (by decide)]; exact h2 rfl
theorem go_iteBN {A B : Prop} (h1 : b = false → A) (h2 : b = true → B) : if (!b) = true then A else B := by
  cases b with
  | true => show if false = true then A else B; rw [if_neg (by decide)]; exact h2 rfl
  | false => show if true = true then A else B; rw [if_pos rfl]; exact h1 rfl

/-! ### items -/
theorem go_ixT {n : Int} (hx : Rp K G x (.tup ds)) (e : Same G H) (hi : atI ds n = some d) (k : ∀ v, Rp K G v d → Q v H) : rIxT K x (.int n) H Q := by
  obtain ⟨a, xs, rfl, hs, ha⟩ := Rp.tup_inv hx
  obtain ⟨v, hv, hr⟩ := ha.atI hi
  exact ⟨a, xs, n, v, rfl, rfl, Same.t e hs, hv, k v hr⟩
theorem go_ixL {n : Int} (hx : Rp K G x (.lst ds)) (e : Same G H) (hi : atI ds n = some d) (k : ∀ v, Rp K G v d → Q v H) : rIxL K x (.int n) H Q := by
  obtain ⟨a, xs, rfl, hs, ha⟩ := Rp.lst_inv hx
  obtain ⟨v, hv, hr⟩ := ha.atI hi
  exact ⟨a, xs, n, v, rfl, rfl, e.seq hs, hv, k v hr⟩
theorem go_ixA {n : Int} (hx : Rp K G x (.tup ds)) (e : Same G H) (hi : atI ds n = some d) (k : ∀ v, Rp K G v d → Q v H) : rIx K x (.int n) H Q := .inr (.inl (go_ixT hx e hi k))
theorem go_ixB {n : Int} (hx : Rp K G x (.lst ds)) (e : Same G H) (hi : atI ds n = some d) (k : ∀ v, Rp K G v d → Q v H) : rIx K x (.int n) H Q := .inl (go_ixL hx e hi k)
theorem go_ixM {p : Addr} {xs : List V} {n : Int} (hp : H p = some (.lst xs)) (hi : atI xs n = some v) (k : Q v H) : rIx K (.ref p) (.int n) H Q := .inl ⟨p, xs, n, v, rfl, rfl, SqL.of hp, hi, k⟩
/-- len -/
theorem go_lenL (hx : Rp K G x (.lst ds)) (e : Same G H) (k : Q (.int ds.length) H) : rLen_ K [x] H Q := by
  obtain ⟨a, xs, rfl, hs, ha⟩ := Rp.lst_inv hx
  exact ⟨a, xs, rfl, .inl (e.seq hs), by rw [ha.length]; exact k⟩
theorem go_lenT (hx : Rp K G x (.tup ds)) (e : Same G H) (k : Q (.int ds.length) H) : rLen_ K [x] H Q := by
  obtain ⟨a, xs, rfl, hs, ha⟩ := Rp.tup_inv hx
  exact ⟨a, xs, rfl, .inr (Same.t e hs), by rw [ha.length]; exact k⟩
/-- a new tuple, a new list that never changes, a new list that will change -/
theorem go_tup {t : TA} (h : t σ H fun xs H1 => NT Q xs H1) : tTup t σ H Q := h
theorem go_lst {t : TA} (h : t σ H fun xs H1 => NL Q xs H1) : tLst t σ H Q := h
theorem go_newT {xs : List V} (hS : Sta K G0 H0 D G M H) (hx : RpAll K G xs ds) (hl : xs.length ≤ sizeLine) (k : ∀ p G1 H1, Same G G1 → Sta K G0 H0 D G1 M H1 → Rp K G1 (.ref p) (.tup ds) → Q (.ref p) H1) : NT Q xs H :=
  ⟨hl, fun p hp => k p (upd G p (.tup xs)) _ (same_upd (hS.gn hp)) (hS.imm hp _) (.tup (.inl (.inl upd_same)) (hx.up (same_upd (hS.gn hp))))⟩
theorem go_newL {xs : List V} (hS : Sta K G0 H0 D G M H) (hx : RpAll K G xs ds) (hl : xs.length ≤ sizeLine) (k : ∀ p G1 H1, Same G G1 → Sta K G0 H0 D G1 M H1 → Rp K G1 (.ref p) (.lst ds) → Q (.ref p) H1) : NL Q xs H :=
  ⟨hl, fun p hp => k p (upd G p (.lst xs)) _ (same_upd (hS.gn hp)) (hS.imm hp _) (.lst (.inl (.inl upd_same)) (hx.up (same_upd (hS.gn hp))))⟩
theorem go_mutL {xs : List V} (hS : Sta K G0 H0 D G M H) (hl : xs.length ≤ sizeLine) (k : ∀ p H1, H0 p = none → G p = none → Sta K G0 H0 D G ((p, .lst xs) :: M) H1 → Q (.ref p) H1) : NL Q xs H :=
  ⟨hl, fun p hp => k p _ (hS.h0 hp) (hS.gn hp) (hS.mut hp _)⟩
/-- xs.append(e) -/
theorem go_bm {T : String} {r : V → List V → Hp → VK → Prop} {t : TA} (h : te σ H fun x H1 => BMK K T (fun H2 => t σ H2 fun xs H3 => r x xs H3 Q) x H1) : tBM K T r te t σ H Q := h
theorem go_bm0 {T : String} {r : V → List V → Hp → VK → Prop} (h : te σ H fun x H1 => BMK K T (fun H2 => r x [] H2 Q) x H1) : tBM0 K T r te σ H Q := h
theorem go_bmL {p : Addr} {xs : List V} {k : Hp → Prop} (hp : H p = some (.lst xs)) (h : k H) : BMK K "list" k (.ref p) H := ⟨.inl ⟨rfl, _, .inl (.inl hp)⟩, h⟩
theorem go_bmLR {p : Addr} {k : Hp → Prop} (hx : Rp K G (.ref p) (.lst ds)) (e : Same G H) (h : k H) : BMK K "list" k (.ref p) H := by
  obtain ⟨a, xs, e1, hs, _⟩ := Rp.lst_inv hx
  cases e1
  exact ⟨.inl ⟨rfl, _, e.seq hs⟩, h⟩
theorem go_append {p : Addr} {xs : List V} {M' : List (Addr × HO)} {i : Nat} (hS : Sta K G0 H0 D G M H) (hi : M[i]? = some (p, .lst xs)) (hl : xs.length < 100000) (hM : M.set i (p, .lst (xs ++ [y])) = M') (k : ∀ H1, Sta K G0 H0 D G M' H1 → Q .non H1) : rAppend (.ref p) [y] H Q := by
  subst hM
  exact ⟨p, xs, y, rfl, rfl, hS.get hi, Nat.lt_of_lt_of_le hl (by decide), k _ (hS.set hi _)⟩
/-- xs[i] = e, xs a list that may change -/
theorem go_setL {p : Addr} {xs : List V} {M' : List (Addr × HO)} {i j : Nat} {n : Int} {k : Hp → Prop} (hS : Sta K G0 H0 D G M H) (hi : M[i]? = some (p, .lst xs)) (hj : ixN xs.length n = some j) (hM : M.set i (p, .lst (xs.set j v)) = M') (h : ∀ H1, Sta K G0 H0 D G M' H1 → k H1) : rSetL (.ref p) (.int n) v H k := by
  subst hM
  exact ⟨p, xs, n, j, rfl, rfl, hS.get hi, hj, h _ (hS.set hi _)⟩
theorem go_gsub {to ti : TE} {ts : TSet} {p : L2.St → Hp → Prop} (h : to σ H fun o H1 => ti σ H1 fun i H2 => ts o i v H2 fun H3 => p σ H3) : gSub to ti ts v σ H p := h
/-- int(x), abs(x) -/
theorem go_int {i : Int} (h : Q (.int i) H) : rInt_ [.int i] H Q := .inl ⟨i, rfl, h⟩
theorem go_intB {k : Bool} (h : Q (.int (if k then 1 else 0)) H) : rInt_ [.bl k] H Q := .inr ⟨k, rfl, h⟩
/-- o.f -/
theorem go_fld {f : Str} (h : ta σ H fun x H1 => FK K f Q x H1) : tFld K ta f σ H Q := h
theorem RpF.look {fs : List (Str × V)} {ds : List (Str × Dt)} (h : RpF K G fs ds) {f : Str} {d : Dt} (e : ds.lookup f = some d) : ∃ v, fs.lookup f = some v ∧ Rp K G v d := by
  induction ds generalizing fs with
  | nil => simp at e
  | cons q ds ih =>
    cases h with
    | cons h1 h2 =>
      rename_i f' v' vs' d'
      rw [List.lookup_cons] at e ⊢
      cases hb : f == f' with
      | true =>
        rw [hb] at e
        cases e
        exact ⟨_, rfl, h1⟩
      | false =>
        rw [hb] at e
        exact ih h2 e
theorem go_fldR {C : Addr} {fds : List (Str × Dt)} {f : Str} (hx : Rp K G x (.ins C fds)) (e : Same G H) (cl : Cls K C) (na : NoAttr K C f) (hi : fds.lookup f = some d) (k : ∀ v, Rp K G v d → Q v H) : FK K f Q x H := by
  obtain ⟨a, dx, fs, rfl, hs, ha⟩ := Rp.ins_inv hx
  obtain ⟨v, hv, hr⟩ := ha.look hi
  exact ⟨a, C, dx, fs, v, rfl, e _ _ hs, cl, na, hv, k v hr⟩
/-! ### loops -/
def ForG (J : It) (g : TG) (tb : TS) (De : Ends) (σ : L2.St) (H : Hp) : Prop := ∃ W : Nat → Nat → L2.St → Hp → Prop, (∃ m, W 0 m σ H) ∧ ∀ i m σ H, W i m σ H →
  (J.stop i H ∧ De.nx σ H) ∨ (J.go i H ∧ ∃ N : L2.St → Hp → Prop, (∀ σ' H', N σ' H' → ∃ m', m' < m ∧ W (i + 1) m' σ' H') ∧ ∀ x H', J.yld i H x H' → g x σ H' fun σ2 H2 => tb { De with nx := N, ct := N, bk := De.nx } σ2 H2)
theorem go_for {wi : TI} {g : TG} (h : wi σ H fun J H1 => ForG J g t ⟨nx, rt, bk, ct⟩ σ H1) : tFor wi g t ⟨nx, rt, bk, ct⟩ σ H := h
def Nx (K : PySem.W.Frag) (G0 H0 : Hp) (D : List Addr) (G : Hp) (W : L2.St → Hp → List (Addr × HO) → Prop) : L2.St → Hp → Prop := fun σ H => ∃ G1 M1, Same G G1 ∧ Sta K G0 H0 D G1 M1 H ∧ W σ G1 M1
theorem Nx.mk {W : L2.St → Hp → List (Addr × HO) → Prop} {G1 : Hp} (hS : Sta K G0 H0 D G1 M H) (e : Same G G1) (w : W σ G1 M) : Nx K G0 H0 D G W σ H := ⟨G1, M, e, hS, w⟩
theorem forI {J : It} {n : Nat} {Gd : Hp → Prop} {Y : Nat → Hp → V → Hp → Prop} (w : Walk J n Gd Y) {g : TG} (hS : Sta K G0 H0 D G M H) (hg : ∀ H1, Same G H1 → Gd H1) (W : Nat → L2.St → Hp → List (Addr × HO) → Prop) (h0 : W 0 σ G M)
    (hs : ∀ i x σ' G1 M1 H1 H2, i < n → Same G G1 → Sta K G0 H0 D G1 M1 H1 → W i σ' G1 M1 → Y i H1 x H2 → g x σ' H2 fun σ2 H3 => t ⟨Nx K G0 H0 D G (W (i + 1)), rt, nx, Nx K G0 H0 D G (W (i + 1))⟩ σ2 H3)
    (hd : ∀ σ' G1 M1 H1, Same G G1 → Sta K G0 H0 D G1 M1 H1 → W n σ' G1 M1 → nx σ' H1) : ForG J g t ⟨nx, rt, bk, ct⟩ σ H :=
  for_it w (D := ⟨nx, rt, bk, ct⟩) (fun i => Nx K G0 H0 D G (W i)) ⟨G, M, Same.refl G, hS, h0⟩ (fun i σ' H1 _ ⟨G1, M1, e, s, _⟩ => hg H1 (e.trans s.gh)) (fun i x σ' H1 H2 hi ⟨G1, M1, e, s, w⟩ y => hs i x σ' G1 M1 H1 H2 hi e s w y) (fun σ' H1 ⟨G1, M1, e, s, w⟩ => hd σ' G1 M1 H1 e s w)
theorem forR {lo : Int} {n : Nat} {g : TG} (hS : Sta K G0 H0 D G M H) (W : Nat → L2.St → Hp → List (Addr × HO) → Prop) (h0 : W 0 σ G M)
    (hs : ∀ i σ' G1 M1 H1, i < n → Same G G1 → Sta K G0 H0 D G1 M1 H1 → W i σ' G1 M1 → g (.int (lo + i)) σ' H1 fun σ2 H3 => t ⟨Nx K G0 H0 D G (W (i + 1)), rt, nx, Nx K G0 H0 D G (W (i + 1))⟩ σ2 H3)
    (hd : ∀ σ' G1 M1 H1, Same G G1 → Sta K G0 H0 D G1 M1 H1 → W n σ' G1 M1 → nx σ' H1) : ForG (Itr lo n) g t ⟨nx, rt, bk, ct⟩ σ H :=
  forI walk_range hS (fun _ _ => trivial) W h0 (fun i x σ' G1 M1 H1 H2 hi e s w y => by
    obtain ⟨rfl, rfl⟩ := y
    exact hs i σ' G1 M1 H2 hi e s w) hd
theorem forL {a : Addr} {xs : List V} {g : TG} (hS : Sta K G0 H0 D G M H) (hq : SqL K G a xs) (hr : RpAll K G xs ds) (W : Nat → L2.St → Hp → List (Addr × HO) → Prop) (h0 : W 0 σ G M)
    (hs : ∀ i x d σ' G1 M1 H1, i < ds.length → ds[i]? = some d → Same G G1 → Sta K G0 H0 D G1 M1 H1 → Rp K G1 x d → W i σ' G1 M1 → g x σ' H1 fun σ2 H3 => t ⟨Nx K G0 H0 D G (W (i + 1)), rt, nx, Nx K G0 H0 D G (W (i + 1))⟩ σ2 H3)
    (hd : ∀ σ' G1 M1 H1, Same G G1 → Sta K G0 H0 D G1 M1 H1 → W ds.length σ' G1 M1 → nx σ' H1) : ForG (Itl K a) g t ⟨nx, rt, bk, ct⟩ σ H :=
  forI (walk_list (xs := xs)) hS (fun H1 e => e.seq hq) W h0 (fun i x σ' G1 M1 H1 H2 hi e s w y => by
    obtain ⟨rfl, hx⟩ := y
    obtain ⟨d, hd, r⟩ := hr.getV hx
    exact hs i x d σ' G1 M1 H2 (by rw [← hr.length]; exact hi) hd e s (r.up e) w) (by rw [hr.length]; exact hd)
/-- a loop that changes its own name alone -/
theorem forLS {a : Addr} {xs : List V} {j : Nat} (hS : Sta K G0 H0 D G M H) (hq : SqL K G a xs) (hr : RpAll K G xs ds)
    (hs : ∀ i x d G1 H1, i < ds.length → ds[i]? = some d → Same G G1 → Sta K G0 H0 D G1 M H1 → Rp K G1 x d → t ⟨Nx K G0 H0 D G (fun σ' _ M' => M' = M ∧ ∃ u, σ' = σ.set j u), rt, nx, Nx K G0 H0 D G (fun σ' _ M' => M' = M ∧ ∃ u, σ' = σ.set j u)⟩ (σ.set j (some x)) H1)
    (hd : ∀ u G1 H1, Same G G1 → Sta K G0 H0 D G1 M H1 → nx (σ.set j u) H1) : ForG (Itl K a) (gName j) t ⟨nx, rt, bk, ct⟩ σ H := by
  have e0 : ∃ u, σ = σ.set j u := by
    by_cases hj : j < σ.length
    · refine ⟨σ[j], ?_⟩
      rw [List.set_getElem_self]
    · exact ⟨none, by rw [List.set_eq_of_length_le (by omega)]⟩
  refine forL hS hq hr (fun _ σ' _ M' => M' = M ∧ ∃ u, σ' = σ.set j u) ⟨rfl, e0⟩ (fun i x d σ' G1 M1 H1 hi hd' e s r w => ?_) (fun σ' G1 M1 H1 e s w => ?_)
  · obtain ⟨rfl, u, rfl⟩ := w
    show t _ ((σ.set j u).set j (some x)) H1
    rw [List.set_set]
    exact hs i x d G1 H1 hi hd' e s r
  · obtain ⟨rfl, u, rfl⟩ := w
    exact hd u G1 H1 e s
/-- the same over a range -/
theorem forRS {lo : Int} {n j : Nat} (hS : Sta K G0 H0 D G M H)
    (hs : ∀ (i : Nat) G1 H1, i < n → Same G G1 → Sta K G0 H0 D G1 M H1 → t ⟨Nx K G0 H0 D G (fun σ' _ M' => M' = M ∧ ∃ u, σ' = σ.set j u), rt, nx, Nx K G0 H0 D G (fun σ' _ M' => M' = M ∧ ∃ u, σ' = σ.set j u)⟩ (σ.set j (some (.int (lo + i)))) H1)
    (hd : ∀ u G1 H1, Same G G1 → Sta K G0 H0 D G1 M H1 → nx (σ.set j u) H1) : ForG (Itr lo n) (gName j) t ⟨nx, rt, bk, ct⟩ σ H := by
  have e0 : ∃ u, σ = σ.set j u := by
    by_cases hj : j < σ.length
    · refine ⟨σ[j], ?_⟩
      rw [List.set_getElem_self]
    · exact ⟨none, by rw [List.set_eq_of_length_le (by omega)]⟩
  refine forR hS (fun _ σ' _ M' => M' = M ∧ ∃ u, σ' = σ.set j u) ⟨rfl, e0⟩ (fun i σ' G1 M1 H1 hi e s w => ?_) (fun σ' G1 M1 H1 e s w => ?_)
  · obtain ⟨rfl, u, rfl⟩ := w
    show t _ ((σ.set j u).set j (some (.int (lo + i)))) H1
    rw [List.set_set]
    exact hs i G1 H1 hi e s
  · obtain ⟨rfl, u, rfl⟩ := w
    exact hd u G1 H1 e s
theorem go_iList {tl : TE} {k : It → Hp → Prop} (h : tl σ H fun x H1 => LK K k x H1) : iList K tl σ H k := h
theorem go_iRng1 {t : TA} {k : It → Hp → Prop} (h : t σ H fun vs H1 => RK1 k vs H1) : iRng1 t σ H k := h
theorem go_iRng2 {t : TA} {k : It → Hp → Prop} (h : t σ H fun vs H1 => RK2 k vs H1) : iRng2 t σ H k := h
theorem go_rng1 {n : Int} {k : It → Hp → Prop} (h1 : -(2 ^ 62) ≤ n ∧ n < 2 ^ 62) (h : k (Itr 0 n.toNat) H) : RK1 k [.int n] H := ⟨n, rfl, h1.1, h1.2, h⟩
theorem go_rng2 {m n : Int} {k : It → Hp → Prop} (h1 : -(2 ^ 62) ≤ m ∧ m < 2 ^ 62 ∧ -(2 ^ 62) ≤ n ∧ n < 2 ^ 62) (h : k (Itr m (n - m).toNat) H) : RK2 k [.int m, .int n] H := ⟨m, n, rfl, h1, h⟩
theorem go_itl {k : It → Hp → Prop} (hx : Rp K G x (.lst ds)) (e : Same G H) (h : ∀ a xs, x = .ref a → SqL K G a xs → RpAll K G xs ds → k (Itl K a) H) : LK K k x H := by
  obtain ⟨a, xs, rfl, hs, ha⟩ := Rp.lst_inv hx
  exact ⟨a, rfl, ⟨xs, e.seq hs⟩, h a xs rfl hs ha⟩
/-- abs, max, min of two -/
theorem go_abs {i : Int} (h : Q (.int (if i < 0 then -i else i)) H) : rAbs_ [.int i] H Q := ⟨i, rfl, h⟩
theorem go_max {m n : Int} (h : Q (.int (if n > m then n else m)) H) : rMax2_ [.int m, .int n] H Q := ⟨m, n, rfl, h⟩
theorem go_min {m n : Int} (h : Q (.int (if n < m then n else m)) H) : rMin2_ [.int m, .int n] H Q := ⟨m, n, rfl, h⟩
theorem go_lenM {p : Addr} {xs : List V} (hp : H p = some (.lst xs)) (k : Q (.int xs.length) H) : rLen_ K [.ref p] H Q := ⟨p, xs, rfl, .inl (SqL.of hp), k⟩
theorem go_calln {n m : Nat} {sp : Sp} {E : XK} {vs zs ws : List V} (h1 : vs.length = n) (h2 : zs.length = m) (e : vs ++ zs = ws) (h : sp ws H Q E) : CN n m sp (fun a b => a ++ b) Q E vs zs H := ⟨h1, h2, by show sp (vs ++ zs) H Q E; rw [e]; exact h⟩
end
theorem Fun.kbn {K : PySem.W.Frag} {x qual : Str} {st : Stmt} {f : Addr} {fd : FuncData} {ps : List Str} {n : Nat} {ks : List Str} (F : Fun K x qual st f fd)
    (h : ∀ (kV doc pm : Value) (an : Option Addr) (cdv ct : Value) (us ws : List Value), us.length = n → ws.length = ks.length → bindArgs (PySem.W.fnOf x qual (defArgs st) (defBody st) (defScope st) .none kV doc pm an cdv ct) ⟨us, ks.zip ws⟩ = pure (ps.zip (us ++ ws))) :
    KBn K fd ps n ks (fun a b => a ++ b) (fun a b => a ++ b) := by
  obtain ⟨oc, od, kV, doc, pm, an, cdv, ct, osl, rfl, lk, hcd⟩ := F.ex
  exact ⟨fun s us ws _ h1 h2 => .of_eq (h kV doc pm an cdv ct us ws h1 h2), fun r1 r2 => r1.append r2⟩
theorem intD_zero : (0 : Int) = ((0 : Nat) : Int) := rfl
/-! ### bars -/
def optD : Option Int → Dt
  | none => .non
  | some i => .int i
def optV : Option Int → V
  | none => .non
  | some i => .int i
abbrev Bar := Int × Option Int
def barD (b : Bar) : Dt := .tup [.int b.1, optD b.2]
theorem optD_inv {K : PySem.W.Frag} {G : Hp} {v : V} {o : Option Int} (h : Rp K G v (optD o)) : v = optV o := by
  cases o with
  | none => exact Rp.non_inv h
  | some i => exact Rp.int_inv h
theorem optD_rp {K : PySem.W.Frag} {G : Hp} {o : Option Int} : Rp K G (optV o) (optD o) := by
  cases o with
  | none => exact .non
  | some i => exact .int i
/-! ### what the laws draw from -/
def drw (r : Addr) (at_ : Int) : HO := .lst [.ref r, .int at_]
theorem pick2 {a b i : Int} (h0 : 0 ≤ i) (h1 : i < 2) : ∃ m, atI [Dt.int a, Dt.int b] i = some (.int m) ∧ (i = 0 ∧ m = a ∨ i = 1 ∧ m = b) := by
  have : i = 0 ∨ i = 1 := by omega
  rcases this with rfl | rfl
  · exact ⟨a, rfl, .inl ⟨rfl, rfl⟩⟩
  · exact ⟨b, rfl, .inr ⟨rfl, rfl⟩⟩
theorem go_pick2 {K : PySem.W.Frag} {G H : Hp} {x : V} {a b i : Int} {Q : VK} (hx : Rp K G x (.lst [.int a, .int b])) (e : Same G H) (h0 : 0 ≤ i) (h1 : i < 2) (k : ∀ m, (i = 0 ∧ m = a ∨ i = 1 ∧ m = b) → Q (.int m) H) : rIx K x (.int i) H Q := by
  obtain ⟨m, h2, h3⟩ := pick2 (a := a) (b := b) h0 h1
  exact go_ixB hx e h2 fun v hv => by cases Rp.int_inv hv; exact k m h3
def RowOk (K : PySem.W.Frag) (G : Hp) (r : Addr) : Prop := ∃ xs : List Int, SqL K G r (xs.map .int) ∧ xs.length ≤ 200
theorem RowOk.up {K : PySem.W.Frag} {G G' : Hp} {r : Addr} (e : Same G G') (h : RowOk K G r) : RowOk K G' r := by
  obtain ⟨xs, h1, h2⟩ := h
  exact ⟨xs, e.seq h1, h2⟩
theorem Sta.callNew {K : PySem.W.Frag} {G0 H0 G H G1 H1 : Hp} {D : List Addr} {M : List (Addr × HO)} {p : Addr} {o : HO} (h : Sta K G0 H0 D G M H) (a : Adv [] G H G1 H1) (hp : H p = none) (h1 : H1 p = some o) (hg : G1 p = none) : Sta K G0 H0 D G1 ((p, o) :: M) H1 := by
  have s := h.call a
  refine ⟨s.g0, s.gh, s.fr, s.kp, s.up, ?_, fun q hq => ?_⟩
  · simp only [List.map_cons, List.nodup_cons]
    exact ⟨fun hm => by
      obtain ⟨q, hq, e⟩ := List.mem_map.mp hm
      exact h.mn hp q hq e, h.md⟩
  · rcases List.mem_cons.mp hq with rfl | hq
    · exact ⟨h1, hg, .inr (h.h0 hp)⟩
    · exact s.mh q hq

/-! ### isinstance of data -/
def tyD : Dt → String
  | .non => "NoneType" | .bl _ => "bool" | .int _ => "int" | .str _ => "str" | .lst _ => "list" | .tup _ => "tuple" | .ins _ _ => "?"
theorem tyD_non : tyD .non = "NoneType" := rfl
theorem tyD_bl {b : Bool} : tyD (.bl b) = "bool" := rfl
theorem tyD_int {b : Int} : tyD (.int b) = "int" := rfl
theorem tyD_str {b : Str} : tyD (.str b) = "str" := rfl
theorem tyD_lst {b : List Dt} : tyD (.lst b) = "list" := rfl
theorem tyD_tup {b : List Dt} : tyD (.tup b) = "tuple" := rfl
theorem tyX_l {K : PySem.W.Frag} {H : Hp} {a : Addr} {xs : List V} (h : SqL K H a xs) : TyX K H (.ref a) (.type "list") := by
  rcases h with (h | ⟨o, h⟩) | ⟨o, its, n, h1, h2, _⟩
  · exact .base (.lst h)
  · exact .base (.frz h)
  · exact .kList h1 h2
theorem tyX_t {K : PySem.W.Frag} {H : Hp} {a : Addr} {xs : List V} (h : SqT K H a xs) : TyX K H (.ref a) (.type "tuple") := by
  rcases h with (h | ⟨o, h⟩) | ⟨o, its, n, h1, h2, _⟩
  · exact .base (.tup h)
  · exact .fTuple h
  · exact .kTuple h1 h2
theorem tyX_d {K : PySem.W.Frag} {G H : Hp} {x : V} : ∀ {d : Dt}, tyD d ≠ "?" → Rp K G x d → Same G H → TyX K H x (.type (tyD d))
  | .non, _, h, _ => by cases h; exact .base .non
  | .bl _, _, h, _ => by cases h; exact .base (.bl _)
  | .int _, _, h, _ => by cases h; exact .base (.int _)
  | .str _, _, h, _ => by cases h; exact .base (.str _)
  | .lst _, _, h, e => by
    cases h with
    | lst h1 _ => exact tyX_l (e.seq h1)
  | .tup _, _, h, e => by
    cases h with
    | tup h1 _ => exact tyX_t (Same.t e h1)
  | .ins _ _, hn, _, _ => absurd rfl hn
section
variable {K : PySem.W.Frag} {G0 H0 G H : Hp} {D : List Addr} {M : List (Addr × HO)} {Q : VK} {x : V} {d : Dt} {b b1 b2 : Bool}
theorem kit_NoneType_tuple : kitB "NoneType" "tuple" = some false := by decide +kernel
theorem kit_NoneType_list : kitB "NoneType" "list" = some false := by decide +kernel
theorem kit_NoneType_bool : kitB "NoneType" "bool" = some false := by decide +kernel
theorem kit_NoneType_int : kitB "NoneType" "int" = some false := by decide +kernel
theorem kit_NoneType_str : kitB "NoneType" "str" = some false := by decide +kernel
theorem kit_bool_tuple : kitB "bool" "tuple" = some false := by decide +kernel
theorem kit_bool_list : kitB "bool" "list" = some false := by decide +kernel
theorem kit_bool_bool : kitB "bool" "bool" = some true := by decide +kernel
theorem kit_bool_int : kitB "bool" "int" = some true := by decide +kernel
theorem kit_bool_str : kitB "bool" "str" = some false := by decide +kernel
theorem kit_int_tuple : kitB "int" "tuple" = some false := by decide +kernel
theorem kit_int_list : kitB "int" "list" = some false := by decide +kernel
theorem kit_int_bool : kitB "int" "bool" = some false := by decide +kernel
theorem kit_int_int : kitB "int" "int" = some true := by decide +kernel
theorem kit_int_str : kitB "int" "str" = some false := by decide +kernel
theorem kit_str_tuple : kitB "str" "tuple" = some false := by decide +kernel
theorem kit_str_list : kitB "str" "list" = some false := by decide +kernel
theorem kit_str_bool : kitB "str" "bool" = some false := by decide +kernel
theorem kit_str_int : kitB "str" "int" = some false := by decide +kernel
theorem kit_str_str : kitB "str" "str" = some true := by decide +kernel
theorem kit_list_tuple : kitB "list" "tuple" = some false := by decide +kernel
theorem kit_list_list : kitB "list" "list" = some true := by decide +kernel
theorem kit_list_bool : kitB "list" "bool" = some false := by decide +kernel
theorem kit_list_int : kitB "list" "int" = some false := by decide +kernel
theorem kit_list_str : kitB "list" "str" = some false := by decide +kernel
theorem kit_tuple_tuple : kitB "tuple" "tuple" = some true := by decide +kernel
theorem kit_tuple_list : kitB "tuple" "list" = some false := by decide +kernel
theorem kit_tuple_bool : kitB "tuple" "bool" = some false := by decide +kernel
theorem kit_tuple_int : kitB "tuple" "int" = some false := by decide +kernel
theorem kit_tuple_str : kitB "tuple" "str" = some false := by decide +kernel
theorem go_isi {S t : String} (hx : Rp K G x d) (e : Same G H) (ht : tyD d = t) (hn : t ≠ "?") (hb : kitB t S = some b) (k : Q (.bl b) H) : rIsi K [x, .ty S] H Q := by
  subst ht
  exact ⟨x, .ty S, _, _, b, rfl, .ty S, tyX_d hn hx e, kit_ty hb, k⟩
theorem go_isiT {S1 S2 t : String} {p : Addr} (hx : Rp K G x d) (e : Same G H) (hp : H p = some (.tup [.ty S1, .ty S2])) (ht : tyD d = t) (hn : t ≠ "?") (hb1 : kitB t S1 = some b1) (hb2 : kitB t S2 = some b2) (k : Q (.bl (b1 || b2)) H) : rIsiT K [x, .ref p] H Q := by
  subst ht
  refine ⟨x, p, _, _, [.type S1, .type S2], b1 || b2, rfl, hp, .cons (.ty S1) (.cons (.ty S2) .nil), tyX_d hn hx e, ?_, k⟩
  refine kitAny_cons (b := b1) (kit_ty hb1) (fun e1 => ?_) (fun e1 => by rw [e1]; rfl)
  refine kitAny_cons (b := b2) (kit_ty hb2) (fun e2 => ?_) (fun e2 => by rw [e1, e2]; rfl)
  rw [e1, e2]
  exact kitAny_nil
theorem go_rawT {xs : List V} (hS : Sta K G0 H0 D G M H) (hl : xs.length ≤ sizeLine) (k : ∀ p G1 H1, Same G G1 → Sta K G0 H0 D G1 M H1 → H1 p = some (.tup xs) → Q (.ref p) H1) : NT Q xs H :=
  ⟨hl, fun p hp => k p (upd G p (.tup xs)) _ (same_upd (hS.gn hp)) (hS.imm hp _) upd_same⟩
end
/-- data without instances, n deep at most -/
def okD : Nat → Dt → Bool
  | 0, _ => false
  | n + 1, .tup xs => decide (xs.length ≤ 100000) && xs.all (okD n)
  | n + 1, .lst xs => decide (xs.length ≤ 100000) && xs.all (okD n)
  | _ + 1, .ins _ _ => false
  | _ + 1, _ => true

/-! ### comprehensions -/
section
variable {K : PySem.W.Frag} {G0 H0 G H : Hp} {D : List Addr} {M : List (Addr × HO)} {σ σ' : L2.St} {Q : VK} {tt : TT} {te : TE} {ds : List Dt} {vss : List Nat} {nx bk ct : L2.St → Hp → Prop} {rt : VK} {t : TS} {x y : V} {d : Dt}
def LcG (J : It) (g : TG) (tt : TT) (te : TE) (vss : List Nat) (σ : L2.St) (Q : VK) (H1 : Hp) : Prop := ∀ D, H1 D = none → ∃ W : Nat → Nat → Hp → Prop, (∃ m, W 0 m (upd H1 D (.lst []))) ∧ ∀ i m H, W i m H →
  (J.stop i H ∧ Q (.ref D) H) ∨ (J.go i H ∧ ∃ Nx : Hp → Prop, (∀ H', Nx H' → ∃ m', m' < m ∧ W (i + 1) m' H') ∧ ∀ x H', J.yld i H x H' → g x (wipe σ vss) H' fun σ2 H2 => wipe σ2 vss = wipe σ vss ∧ tt σ2 H2 fun b H3 =>
    if b = true then te σ2 H3 fun y H4 => ∃ acc, H4 D = some (.lst acc) ∧ acc.length < sizeLine ∧ Nx (upd H4 D (.lst (acc ++ [y]))) else Nx H3)
theorem go_lc {wi : TI} {g : TG} (h : wi σ H fun J H1 => LcG J g tt te vss σ Q H1) : tLc wi g tt te vss σ H Q := h
/-- behind a turn: the list so far stands at L, what may change is M1, the data so far ds; W says what holds -/
def LcP (K : PySem.W.Frag) (G0 H0 : Hp) (D : List Addr) (G : Hp) (L : Addr) (W : List (Addr × HO) → List Dt → Prop) (H : Hp) : Prop := ∃ G1 M1 vs ds, Same G G1 ∧ Sta K G0 H0 D G1 ((L, .lst vs) :: M1) H ∧ RpAll K G1 vs ds ∧ W M1 ds
def LcY (K : PySem.W.Frag) (G0 H0 : Hp) (D : List Addr) (G : Hp) (L : Addr) (W : List (Addr × HO) → List Dt → Prop) : VK := fun y H4 => ∃ acc, H4 L = some (.lst acc) ∧ acc.length < sizeLine ∧ LcP K G0 H0 D G L W (upd H4 L (.lst (acc ++ [y])))
theorem lcY {L : Addr} {W : List (Addr × HO) → List Dt → Prop} {G4 H4 : Hp} {vs : List V} (hS : Sta K G0 H0 D G4 ((L, .lst vs) :: M) H4) (e : Same G G4) (hv : RpAll K G4 vs ds) (hy : Rp K G4 y d) (hl : ds.length < 100000) (w : W M (ds ++ [d])) : LcY K G0 H0 D G L W y H4 :=
  ⟨vs, hS.get (i := 0) rfl, by rw [hv.length]; exact Nat.lt_of_lt_of_le hl (by decide), G4, M, vs ++ [y], ds ++ [d], e, hS.set (i := 0) rfl _, hv.app (.one hy), w⟩
theorem lcN {L : Addr} {W : List (Addr × HO) → List Dt → Prop} {G4 H4 : Hp} {vs : List V} (hS : Sta K G0 H0 D G4 ((L, .lst vs) :: M) H4) (e : Same G G4) (hv : RpAll K G4 vs ds) (w : W M ds) : LcP K G0 H0 D G L W H4 :=
  ⟨G4, M, vs, ds, e, hS, hv, w⟩
/-- a comprehension; the list may change afterwards -/
theorem lcIM {J : It} {n : Nat} {Gd : Hp → Prop} {Y : Nat → Hp → V → Hp → Prop} (w : Walk J n Gd Y) {g : TG} (hS : Sta K G0 H0 D G M H) (hg : ∀ H1, Same G H1 → Gd H1) (W : Nat → List (Addr × HO) → List Dt → Prop) (h0 : W 0 M [])
    (hs : ∀ i x L G1 M1 vs ds H1 H2, i < n → Same G G1 → H0 L = none → Sta K G0 H0 D G1 ((L, .lst vs) :: M1) H1 → RpAll K G1 vs ds → W i M1 ds → Y i H1 x H2 → g x (wipe σ vss) H2 fun σ2 H3 => wipe σ2 vss = wipe σ vss ∧ tt σ2 H3 fun b H4 =>
      if b = true then te σ2 H4 (LcY K G0 H0 D G L (W (i + 1))) else LcP K G0 H0 D G L (W (i + 1)) H4)
    (hd : ∀ L G1 M1 vs ds H1, Same G G1 → H0 L = none → Sta K G0 H0 D G1 ((L, .lst vs) :: M1) H1 → RpAll K G1 vs ds → W n M1 ds → Q (.ref L) H1) : LcG J g tt te vss σ Q H := by
  intro L hL
  have l0 := hS.h0 hL
  refine lc_it w (fun i => LcP K G0 H0 D G L (W i)) ⟨G, M, [], [], Same.refl G, hS.mut hL _, .nil, h0⟩ (fun i H1 _ p => ?_) (fun i x H1 H2 hi p y => ?_) (fun H1 p => ?_)
  · obtain ⟨G1, M1, vs, ds, e, s, _⟩ := p
    exact hg H1 (e.trans s.gh)
  · obtain ⟨G1, M1, vs, ds, e, s, r, w'⟩ := p
    exact hs i x L G1 M1 vs ds H1 H2 hi e l0 s r w' y
  · obtain ⟨G1, M1, vs, ds, e, s, r, w'⟩ := p
    exact hd L G1 M1 vs ds H1 e l0 s r w'
/-- .. it will not change -/
theorem lcI {J : It} {n : Nat} {Gd : Hp → Prop} {Y : Nat → Hp → V → Hp → Prop} (w : Walk J n Gd Y) {g : TG} (hS : Sta K G0 H0 D G M H) (hg : ∀ H1, Same G H1 → Gd H1) (W : Nat → List (Addr × HO) → List Dt → Prop) (h0 : W 0 M [])
    (hs : ∀ i x L G1 M1 vs ds H1 H2, i < n → Same G G1 → H0 L = none → Sta K G0 H0 D G1 ((L, .lst vs) :: M1) H1 → RpAll K G1 vs ds → W i M1 ds → Y i H1 x H2 → g x (wipe σ vss) H2 fun σ2 H3 => wipe σ2 vss = wipe σ vss ∧ tt σ2 H3 fun b H4 =>
      if b = true then te σ2 H4 (LcY K G0 H0 D G L (W (i + 1))) else LcP K G0 H0 D G L (W (i + 1)) H4)
    (hd : ∀ p G1 M1 ds H1, Same G G1 → Sta K G0 H0 D G1 M1 H1 → Rp K G1 (.ref p) (.lst ds) → W n M1 ds → Q (.ref p) H1) : LcG J g tt te vss σ Q H :=
  lcIM w hS hg W h0 hs fun L G1 M1 vs ds H1 e l0 s r w' => by
    obtain ⟨G2, e2, s2, r2⟩ := s.frzL l0 r
    exact hd L G2 M1 ds H1 (e.trans e2) s2 r2 w'
/-- over a range, a list -/
theorem lcR {lo : Int} {n : Nat} {g : TG} (hS : Sta K G0 H0 D G M H) (W : Nat → List (Addr × HO) → List Dt → Prop) (h0 : W 0 M [])
    (hs : ∀ i L G1 M1 vs ds H1, i < n → Same G G1 → H0 L = none → Sta K G0 H0 D G1 ((L, .lst vs) :: M1) H1 → RpAll K G1 vs ds → W i M1 ds → g (.int (lo + i)) (wipe σ vss) H1 fun σ2 H3 => wipe σ2 vss = wipe σ vss ∧ tt σ2 H3 fun b H4 =>
      if b = true then te σ2 H4 (LcY K G0 H0 D G L (W (i + 1))) else LcP K G0 H0 D G L (W (i + 1)) H4)
    (hd : ∀ p G1 M1 ds H1, Same G G1 → Sta K G0 H0 D G1 M1 H1 → Rp K G1 (.ref p) (.lst ds) → W n M1 ds → Q (.ref p) H1) : LcG (Itr lo n) g tt te vss σ Q H :=
  lcI walk_range hS (fun _ _ => trivial) W h0 (fun i x L G1 M1 vs ds H1 H2 hi e l0 s r w y => by
    obtain ⟨rfl, rfl⟩ := y
    exact hs i L G1 M1 vs ds H2 hi e l0 s r w) hd
theorem lcL {a : Addr} {xs : List V} {g : TG} (hS : Sta K G0 H0 D G M H) (hq : SqL K G a xs) (hr : RpAll K G xs ds) (W : Nat → List (Addr × HO) → List Dt → Prop) (h0 : W 0 M [])
    (hs : ∀ i x d L G1 M1 vs es H1, i < ds.length → ds[i]? = some d → Rp K G1 x d → Same G G1 → H0 L = none → Sta K G0 H0 D G1 ((L, .lst vs) :: M1) H1 → RpAll K G1 vs es → W i M1 es → g x (wipe σ vss) H1 fun σ2 H3 => wipe σ2 vss = wipe σ vss ∧ tt σ2 H3 fun b H4 =>
      if b = true then te σ2 H4 (LcY K G0 H0 D G L (W (i + 1))) else LcP K G0 H0 D G L (W (i + 1)) H4)
    (hd : ∀ p G1 M1 es H1, Same G G1 → Sta K G0 H0 D G1 M1 H1 → Rp K G1 (.ref p) (.lst es) → W ds.length M1 es → Q (.ref p) H1) : LcG (Itl K a) g tt te vss σ Q H :=
  lcI (walk_list (xs := xs)) hS (fun H1 e => e.seq hq) W h0 (fun i x L G1 M1 vs es H1 H2 hi e l0 s r w y => by
    obtain ⟨rfl, hx⟩ := y
    obtain ⟨d, hd', rd⟩ := hr.getV hx
    exact hs i x d L G1 M1 vs es H2 (by rw [← hr.length]; exact hi) hd' (rd.up e) e l0 s r w) (by rw [hr.length]; exact hd)
/-- the target a pair -/
theorem go_gpair {i j : Nat} {T : Addr} {p : L2.St → Hp → Prop} (h : SqT K H T [x, y]) (e : List.set (List.set σ i (some x)) j (some y) = σ') (k : p σ' H) : gTup K 2 (gCons (gName i) (gCons (gName j) gNil)) (.ref T) σ H p :=
  ⟨T, [x, y], rfl, h, rfl, x, [y], rfl, y, [], rfl, rfl, by show p (List.set (List.set σ i (some x)) j (some y)) H; rw [e]; exact k⟩
/-- a new pair made by a walk: the state behind it -/
theorem Sta.pair {T : Addr} {H1 : Hp} (hS : Sta K G0 H0 D G M H) (hT : H T = none) (e : H1 = upd H T (.tup [x, y])) : ∃ G1, Same G G1 ∧ Sta K G0 H0 D G1 M H1 ∧ SqT K H1 T [x, y] := by
  subst e
  exact ⟨_, same_upd (hS.gn hT), hS.imm hT _, .inl (.inl upd_same)⟩
/-- enumerate(list) -/
theorem lcE {a : Addr} {xs : List V} {i1 j1 : Nat} (hS : Sta K G0 H0 D G M H) (hq : SqL K G a xs) (hr : RpAll K G xs ds) (W : Nat → List (Addr × HO) → List Dt → Prop) (h0 : W 0 M [])
    (hs : ∀ i x d L G1 M1 vs es H1, i < ds.length → ds[i]? = some d → Rp K G1 x d → Same G G1 → H0 L = none → Sta K G0 H0 D G1 ((L, .lst vs) :: M1) H1 → RpAll K G1 vs es → W i M1 es → ∀ σ2, List.set (List.set (wipe σ vss) i1 (some (.int i))) j1 (some x) = σ2 → wipe σ2 vss = wipe σ vss ∧ tt σ2 H1 fun b H4 =>
      if b = true then te σ2 H4 (LcY K G0 H0 D G L (W (i + 1))) else LcP K G0 H0 D G L (W (i + 1)) H4)
    (hd : ∀ p G1 M1 es H1, Same G G1 → Sta K G0 H0 D G1 M1 H1 → Rp K G1 (.ref p) (.lst es) → W ds.length M1 es → Q (.ref p) H1) : LcG (Ite K a) (gTup K 2 (gCons (gName i1) (gCons (gName j1) gNil))) tt te vss σ Q H :=
  lcI (walk_enum (xs := xs)) hS (fun H1 e => e.seq hq) W h0 (fun i x L G1 M1 vs es H1 H2 hi e l0 s r w y => by
    obtain ⟨T, u, v, rfl, hT, eH, h1, h2⟩ := y
    cases h1
    obtain ⟨d, hd', rd⟩ := hr.getV h2
    obtain ⟨G2, e2, s2, q2⟩ := s.pair hT eH
    exact go_gpair q2 rfl (hs i v d L G2 M1 vs es H2 (by rw [← hr.length]; exact hi) hd' (rd.up (e.trans e2)) (e.trans e2) l0 s2 (r.up e2) w _ rfl)) (by rw [hr.length]; exact hd)
/-- zip(list, list) -/
theorem lcZ {a b : Addr} {xs ys : List V} {fs : List Dt} {i1 j1 : Nat} (hS : Sta K G0 H0 D G M H) (hq : SqL K G a xs) (hr : RpAll K G xs ds) (hq' : SqL K G b ys) (hr' : RpAll K G ys fs) (W : Nat → List (Addr × HO) → List Dt → Prop) (h0 : W 0 M [])
    (hs : ∀ i x y d f L G1 M1 vs es H1, i < min ds.length fs.length → ds[i]? = some d → fs[i]? = some f → Rp K G1 x d → Rp K G1 y f → Same G G1 → H0 L = none → Sta K G0 H0 D G1 ((L, .lst vs) :: M1) H1 → RpAll K G1 vs es → W i M1 es → ∀ σ2, List.set (List.set (wipe σ vss) i1 (some x)) j1 (some y) = σ2 → wipe σ2 vss = wipe σ vss ∧ tt σ2 H1 fun b H4 =>
      if b = true then te σ2 H4 (LcY K G0 H0 D G L (W (i + 1))) else LcP K G0 H0 D G L (W (i + 1)) H4)
    (hd : ∀ p G1 M1 es H1, Same G G1 → Sta K G0 H0 D G1 M1 H1 → Rp K G1 (.ref p) (.lst es) → W (min ds.length fs.length) M1 es → Q (.ref p) H1) : LcG (Itz K a b) (gTup K 2 (gCons (gName i1) (gCons (gName j1) gNil))) tt te vss σ Q H :=
  lcI (walk_zip (xs := xs) (ys := ys) rfl) hS (fun H1 e => ⟨e.seq hq, e.seq hq'⟩) W h0 (fun i x L G1 M1 vs es H1 H2 hi e l0 s r w y => by
    obtain ⟨T, u, v, rfl, hT, eH, h1, h2⟩ := y
    obtain ⟨d, hd', rd⟩ := hr.getV h1
    obtain ⟨f, hf', rf⟩ := hr'.getV h2
    obtain ⟨G2, e2, s2, q2⟩ := s.pair hT eH
    exact go_gpair q2 rfl (hs i u v d f L G2 M1 vs es H2 (by rw [← hr.length, ← hr'.length]; exact hi) hd' hf' (rd.up (e.trans e2)) (rf.up (e.trans e2)) (e.trans e2) l0 s2 (r.up e2) w _ rfl)) (by rw [hr.length, hr'.length]; exact hd)
theorem go_iEnum {ta : TA} {k : It → Hp → Prop} (h : ta σ H fun vs H1 => ∃ a xs, vs = [.ref a] ∧ SqL K H1 a xs ∧ k (Ite K a) H1) : iEnum K ta σ H k := h
def EK (K : PySem.W.Frag) (k : It → Hp → Prop) (vs : List V) (H : Hp) : Prop := ∃ a xs, vs = [.ref a] ∧ SqL K H a xs ∧ k (Ite K a) H
def ZK (K : PySem.W.Frag) (k : It → Hp → Prop) (vs : List V) (H : Hp) : Prop := ∃ a b xs ys, vs = [.ref a, .ref b] ∧ SqL K H a xs ∧ SqL K H b ys ∧ k (Itz K a b) H
theorem go_iEnum' {ta : TA} {k : It → Hp → Prop} (h : ta σ H fun vs H1 => EK K k vs H1) : iEnum K ta σ H k := h
theorem go_iZip {ta : TA} {k : It → Hp → Prop} (h : ta σ H fun vs H1 => ZK K k vs H1) : iZip K ta σ H k := h
theorem go_ite_ {k : It → Hp → Prop} (hx : Rp K G x (.lst ds)) (e : Same G H) (h : ∀ a xs, x = .ref a → SqL K G a xs → RpAll K G xs ds → k (Ite K a) H) : EK K k [x] H := by
  obtain ⟨a, xs, rfl, hs, ha⟩ := Rp.lst_inv hx
  exact ⟨a, xs, rfl, e.seq hs, h a xs rfl hs ha⟩
theorem go_itz_ {k : It → Hp → Prop} {fs : List Dt} (hx : Rp K G x (.lst ds)) (hy : Rp K G y (.lst fs)) (e : Same G H) (h : ∀ a xs b ys, x = .ref a → y = .ref b → SqL K G a xs → RpAll K G xs ds → SqL K G b ys → RpAll K G ys fs → k (Itz K a b) H) : ZK K k [x, y] H := by
  obtain ⟨a, xs, rfl, hs, ha⟩ := Rp.lst_inv hx
  obtain ⟨b, ys, rfl, hs', ha'⟩ := Rp.lst_inv hy
  exact ⟨a, b, xs, ys, rfl, e.seq hs, e.seq hs', h a xs b ys rfl rfl hs ha hs' ha'⟩
/-- all, any, sum of a list -/
theorem go_all {bs : List Bool} (hx : Rp K G x (.lst (bs.map .bl))) (e : Same G H) (k : Q (.bl (bs.all id)) H) : rAll K [x] H Q := by
  obtain ⟨a, xs, rfl, hs, ha⟩ := Rp.lst_inv hx
  rw [ha.bls_inv] at hs
  exact ⟨a, bs, rfl, e.seq hs, k⟩
theorem go_any {bs : List Bool} (hx : Rp K G x (.lst (bs.map .bl))) (e : Same G H) (k : Q (.bl (bs.any id)) H) : rAny K [x] H Q := by
  obtain ⟨a, xs, rfl, hs, ha⟩ := Rp.lst_inv hx
  rw [ha.bls_inv] at hs
  exact ⟨a, bs, rfl, e.seq hs, k⟩
theorem go_sum {bs : List Int} (hx : Rp K G x (.lst (bs.map .int))) (e : Same G H) (k : Q (.int bs.sum) H) : rSum K [x] H Q := by
  obtain ⟨a, xs, rfl, hs, ha⟩ := Rp.lst_inv hx
  rw [ha.ints_inv] at hs
  exact ⟨a, bs, rfl, e.seq hs, k⟩
/-- list(x), tuple(x) -/
theorem go_listL (hS : Sta K G0 H0 D G M H) (hx : Rp K G x (.lst ds)) (k : ∀ p G1 H1, Same G G1 → Sta K G0 H0 D G1 M H1 → Rp K G1 (.ref p) (.lst ds) → Q (.ref p) H1) : rListOf_ K [x] H Q := by
  obtain ⟨a, xs, rfl, hs, ha⟩ := Rp.lst_inv hx
  exact ⟨a, xs, rfl, .inl (hS.gh.seq hs), fun p hp => k p _ _ (same_upd (hS.gn hp)) (hS.imm hp _) (.lst (.inl (.inl upd_same)) (ha.up (same_upd (hS.gn hp))))⟩
theorem go_listT (hS : Sta K G0 H0 D G M H) (hx : Rp K G x (.tup ds)) (k : ∀ p G1 H1, Same G G1 → Sta K G0 H0 D G1 M H1 → Rp K G1 (.ref p) (.lst ds) → Q (.ref p) H1) : rListOf_ K [x] H Q := by
  obtain ⟨a, xs, rfl, hs, ha⟩ := Rp.tup_inv hx
  exact ⟨a, xs, rfl, .inr (Same.t hS.gh hs), fun p hp => k p _ _ (same_upd (hS.gn hp)) (hS.imm hp _) (.lst (.inl (.inl upd_same)) (ha.up (same_upd (hS.gn hp))))⟩
theorem go_tupL (hS : Sta K G0 H0 D G M H) (hx : Rp K G x (.lst ds)) (k : ∀ p G1 H1, Same G G1 → Sta K G0 H0 D G1 M H1 → Rp K G1 (.ref p) (.tup ds) → Q (.ref p) H1) : rTupOf_ K [x] H Q := by
  obtain ⟨a, xs, rfl, hs, ha⟩ := Rp.lst_inv hx
  exact ⟨a, xs, rfl, .inl ⟨hS.gh.seq hs, fun p hp => k p _ _ (same_upd (hS.gn hp)) (hS.imm hp _) (.tup (.inl (.inl upd_same)) (ha.up (same_upd (hS.gn hp))))⟩⟩
theorem go_tupT (hS : Sta K G0 H0 D G M H) (hx : Rp K G x (.tup ds)) (k : ∀ p G1 H1, Same G G1 → Sta K G0 H0 D G1 M H1 → Rp K G1 (.ref p) (.tup ds) → Q (.ref p) H1) : rTupOf_ K [x] H Q := by
  obtain ⟨a, xs, rfl, hs, ha⟩ := Rp.tup_inv hx
  exact ⟨a, xs, rfl, .inr ⟨Same.t hS.gh hs, k a G H (Same.refl G) hS hx⟩⟩
/-! ### == of data -/
mutual
def toPy : Dt → PyData
  | .non => .none | .bl b => .bool b | .int i => .int i | .str x => .str x | .lst xs => .list (toPyL xs) | .tup xs => .tuple (toPyL xs) | .ins _ _ => .dict []
def toPyL : List Dt → List PyData
  | [] => [] | d :: ds => toPy d :: toPyL ds
end
mutual
theorem Rp.dp : ∀ {n : Nat} {d : Dt} {v : V}, okD n d = true → Rp K G v d → Dp K G v (toPy d)
  | _, .non, _, _, h => by cases h; exact .non
  | _, .bl _, _, _, h => by cases h; exact .bl _
  | _, .int _, _, _, h => by cases h; exact .int _
  | _, .str _, _, _, h => by cases h; exact .str _
  | 0, .lst _, _, e, _ => by cases e
  | 0, .tup _, _, e, _ => by cases e
  | n + 1, .lst ds, _, e, h => by
    cases h with
    | lst h1 h2 =>
      have e' : ds.length ≤ 100000 ∧ ∀ e ∈ ds, okD n e = true := by simpa [okD] using e
      exact .lst h1 (RpAll.dp e'.2 h2)
  | n + 1, .tup ds, _, e, h => by
    cases h with
    | tup h1 h2 =>
      have e' : ds.length ≤ 100000 ∧ ∀ e ∈ ds, okD n e = true := by simpa [okD] using e
      exact .tup h1 (RpAll.dp e'.2 h2)
  | 0, .ins _ _, _, e, _ => by cases e
  | _ + 1, .ins _ _, _, e, _ => by cases e
theorem RpAll.dp : ∀ {n : Nat} {ds : List Dt} {vs : List V}, (∀ e ∈ ds, okD n e = true) → RpAll K G vs ds → DpAll K G vs (toPyL ds)
  | _, [], _, _, h => by cases h; exact .nil
  | n, d :: ds, _, e, h => by
    cases h with
    | cons h1 h2 => exact .cons (Rp.dp (e d List.mem_cons_self) h1) (RpAll.dp (fun x hx => e x (List.mem_cons_of_mem _ hx)) h2)
end
end

/-- data of numbers, truth values, None, lists, tuples, n deep at most -/
def okE : Nat → Dt → Bool
  | 0, _ => false
  | n + 1, .tup xs => decide (xs.length ≤ 100000) && xs.all (okE n)
  | n + 1, .lst xs => decide (xs.length ≤ 100000) && xs.all (okE n)
  | _ + 1, .ins _ _ => false
  | _ + 1, .str _ => false
  | _ + 1, _ => true
mutual
theorem okE_okD : ∀ {n : Nat} {d : Dt}, okE n d = true → okD n d = true
  | 0, _, e => by cases e
  | n + 1, .non, _ => rfl
  | n + 1, .bl _, _ => rfl
  | n + 1, .int _, _ => rfl
  | n + 1, .str _, e => by cases e
  | n + 1, .ins _ _, e => by cases e
  | n + 1, .lst ds, e => by
    have e' : ds.length ≤ 100000 ∧ ∀ e ∈ ds, okE n e = true := by simpa [okE] using e
    have : ∀ x ∈ ds, okD n x = true := okE_okDL e'.2
    simp [okD, e'.1]
    exact this
  | n + 1, .tup ds, e => by
    have e' : ds.length ≤ 100000 ∧ ∀ e ∈ ds, okE n e = true := by simpa [okE] using e
    have : ∀ x ∈ ds, okD n x = true := okE_okDL e'.2
    simp [okD, e'.1]
    exact this
theorem okE_okDL : ∀ {n : Nat} {ds : List Dt}, (∀ e ∈ ds, okE n e = true) → ∀ e ∈ ds, okD n e = true
  | _, [], _, e, he => by cases he
  | n, d :: ds, h, e, he => by
    have h1 := okE_okD (h d List.mem_cons_self)
    rcases List.mem_cons.mp he with e1 | he
    · rw [e1]; exact h1
    · exact okE_okDL (fun x hx => h x (List.mem_cons_of_mem _ hx)) e he
end
mutual
theorem lay_toPy : ∀ {n : Nat} {d : Dt}, okE n d = true → (toPy d).canLay0 = true ∧ (toPy d).depth ≤ n
  | 0, _, e => by cases e
  | n + 1, .non, _ => ⟨rfl, Nat.zero_le _⟩
  | n + 1, .bl _, _ => ⟨rfl, Nat.zero_le _⟩
  | n + 1, .int _, _ => ⟨rfl, Nat.zero_le _⟩
  | n + 1, .str _, e => by cases e
  | n + 1, .ins _ _, e => by cases e
  | n + 1, .lst ds, e => by
    have e' : ds.length ≤ 100000 ∧ ∀ e ∈ ds, okE n e = true := by simpa [okE] using e
    have := lay_toPyL (n := n) (ds := ds) e'.2
    exact ⟨by simpa [toPy, PyData.canLay0] using this.1, by simpa [toPy, PyData.depth] using this.2⟩
  | n + 1, .tup ds, e => by
    have e' : ds.length ≤ 100000 ∧ ∀ e ∈ ds, okE n e = true := by simpa [okE] using e
    have := lay_toPyL (n := n) (ds := ds) e'.2
    exact ⟨by simpa [toPy, PyData.canLay0] using this.1, by simpa [toPy, PyData.depth] using this.2⟩
theorem lay_toPyL : ∀ {n : Nat} {ds : List Dt}, (∀ e ∈ ds, okE n e = true) → PyData.canLayAll0 (toPyL ds) = true ∧ PyData.depthAll (toPyL ds) ≤ n
  | _, [], _ => ⟨rfl, Nat.zero_le _⟩
  | n, d :: ds, h => by
    have h1 := lay_toPy (h d List.mem_cons_self)
    have h2 := lay_toPyL (n := n) (ds := ds) fun x hx => h x (List.mem_cons_of_mem _ hx)
    exact ⟨by simp [toPyL, PyData.canLayAll0, h1.1, h2.1], by simp [toPyL, PyData.depthAll]; omega⟩
end
theorem shaped_toPy {n : Nat} {d : Dt} (h : okE n d = true) (hn : n ≤ 64) : SeqAt.shaped (toPy d) = true := by
  have := lay_toPy h
  simp [SeqAt.shaped, this.1]
  omega
theorem eqv_ints : ∀ (as bs : List Int), PyData.eqvAll (toPyL (as.map .int)) (toPyL (bs.map .int)) = decide (as = bs)
  | [], [] => by simp [toPyL, PyData.eqvAll]
  | [], b :: bs => by simp [toPyL, PyData.eqvAll]
  | a :: as, [] => by simp [toPyL, PyData.eqvAll]
  | a :: as, b :: bs => by
    have := eqv_ints as bs
    simp only [List.map_cons, toPyL, toPy, PyData.eqvAll, PyData.eqv, this]
    rw [Bool.eq_iff_iff]
    simp
theorem okE_ints (as : List Int) (h : as.length ≤ 100000) : okE 2 (.lst (as.map .int)) = true := by
  simp [okE, h]
section
variable {K : PySem.W.Frag} {G H : Hp} {x y : V} {d : Dt} {n : Nat} {Q : VK}
theorem go_eqSame (hx : Rp K G x d) (hy : Rp K G y d) (e : Same G H) (hd : okE n d = true) (hn : n ≤ 64) (k : Q (.bl true) H) : rEqD K x y H Q := by
  have s := shaped_toPy hd hn
  refine ⟨toPy d, toPy d, Rp.dp (okE_okD hd) (hx.up e), Rp.dp (okE_okD hd) (hy.up e), s, s, ?_⟩
  rw [SeqAt.eqv_refl _ (SeqAt.canLay_of_shaped s)]
  exact k
theorem go_neSame (hx : Rp K G x d) (hy : Rp K G y d) (e : Same G H) (hd : okE n d = true) (hn : n ≤ 64) (k : Q (.bl false) H) : rNeD K x y H Q := by
  have s := shaped_toPy hd hn
  refine ⟨toPy d, toPy d, Rp.dp (okE_okD hd) (hx.up e), Rp.dp (okE_okD hd) (hy.up e), s, s, ?_⟩
  rw [SeqAt.eqv_refl _ (SeqAt.canLay_of_shaped s)]
  exact k
theorem go_eqInts {as bs : List Int} (hx : Rp K G x (.lst (as.map .int))) (hy : Rp K G y (.lst (bs.map .int))) (e : Same G H) (ha : as.length ≤ 100000) (hb : bs.length ≤ 100000) (k : Q (.bl (decide (as = bs))) H) : rEqD K x y H Q := by
  refine ⟨_, _, Rp.dp (okE_okD (okE_ints as ha)) (hx.up e), Rp.dp (okE_okD (okE_ints bs hb)) (hy.up e), shaped_toPy (okE_ints as ha) (by decide), shaped_toPy (okE_ints bs hb) (by decide), ?_⟩
  have : PyData.eqv (toPy (.lst (as.map .int))) (toPy (.lst (bs.map .int))) = decide (as = bs) := eqv_ints as bs
  rw [this]
  exact k
theorem go_neInts {as bs : List Int} (hx : Rp K G x (.lst (as.map .int))) (hy : Rp K G y (.lst (bs.map .int))) (e : Same G H) (ha : as.length ≤ 100000) (hb : bs.length ≤ 100000) (k : Q (.bl (!decide (as = bs))) H) : rNeD K x y H Q := by
  refine ⟨_, _, Rp.dp (okE_okD (okE_ints as ha)) (hx.up e), Rp.dp (okE_okD (okE_ints bs hb)) (hy.up e), shaped_toPy (okE_ints as ha) (by decide), shaped_toPy (okE_ints bs hb) (by decide), ?_⟩
  have : PyData.eqv (toPy (.lst (as.map .int))) (toPy (.lst (bs.map .int))) = decide (as = bs) := eqv_ints as bs
  rw [this]
  exact k
end
end B
namespace B
open PySem PySem.Spec PyProof.Rows L2 SrtO

/-! ### the order of keys: lists of ints; the stable sort by insertion -/
def ltK {α : Type} (p q : List Int × α) : Bool := HT.lexLt p.1 q.1
theorem swo_ltK {α : Type} : Swo (ltK (α := α)) := ⟨fun x y => NtL.lex_asym _ _, fun x y z => NtL.lex_tr _ _ _⟩
def insK {α : Type} (y : List Int × α) : List (List Int × α) → List (List Int × α)
  | [] => [y]
  | x :: l => if ltK y x = true then y :: x :: l else x :: insK y l
def srtK {α : Type} (l : List (List Int × α)) : List (List Int × α) := l.foldl (fun acc y => insK y acc) []
theorem insK_split {α : Type} (y : List Int × α) : ∀ l : List (List Int × α), Srtd ltK l → ∃ M N, l = M ++ N ∧ insK y l = M ++ y :: N ∧ (∀ x ∈ M, ltK y x = false) ∧ ∀ x ∈ N, ltK y x = true
  | [], _ => ⟨[], [], rfl, rfl, fun _ h => absurd h (by simp), fun _ h => absurd h (by simp)⟩
  | x :: l, h => by
    by_cases e : ltK y x = true
    · exact ⟨[], x :: l, rfl, by simp [insK, e], fun _ h => absurd h (by simp), swo_ltK.lt_all h e⟩
    · obtain ⟨M, N, e1, e2, e3, e4⟩ := insK_split y l (List.pairwise_cons.mp h).2
      refine ⟨x :: M, N, by rw [e1]; rfl, by simp [insK, e, e2], fun z hz => ?_, e4⟩
      rcases List.mem_cons.mp hz with rfl | hz
      · simpa using e
      · exact e3 z hz
theorem srtK_go {α : Type} : ∀ (l acc O1 : List (List Int × α)), Srtd ltK acc → Stb ltK acc O1 → Srtd ltK (l.foldl (fun acc y => insK y acc) acc) ∧ Stb ltK (l.foldl (fun acc y => insK y acc) acc) (O1 ++ l)
  | [], acc, O1, h1, h2 => by rw [List.append_nil]; exact ⟨h1, h2⟩
  | y :: l, acc, O1, h1, h2 => by
    obtain ⟨M, N, e1, e2, e3, e4⟩ := insK_split y acc h1
    subst e1
    have := srtK_go l (insK y (M ++ N)) (O1 ++ [y]) (by rw [e2]; exact ins_srtd swo_ltK h1 e3 e4) (by rw [e2]; exact ins_stb swo_ltK e4 h2)
    rw [List.append_assoc] at this
    exact this
theorem srtK_ok {α : Type} (l : List (List Int × α)) : Srtd ltK (srtK l) ∧ Stb ltK (srtK l) l := srtK_go l [] [] List.Pairwise.nil (Stb.refl _)
theorem srtK_perm {α : Type} (l : List (List Int × α)) : (srtK l).Perm l := (srtK_ok l).2.perm
theorem srtK_uniq {α : Type} {l m : List (List Int × α)} (h1 : Srtd ltK m) (h2 : Stb ltK m l) : m = srtK l :=
  stb_uniq swo_ltK h1 (srtK_ok l).1 (h2.trans ⟨(srtK_ok l).2.perm.symm, fun x => ((srtK_ok l).2.cls x).symm⟩)

/-! ### keys in the heap -/
def kfO (h : Heap) : Value → List Int
  | .int i _ => [i]
  | .ref a => match h.get? a with
    | some o => match o.data with
      | .seq xs _ => xs.toList.map iv
      | _ => []
    | none => []
  | _ => []
def ltO (h : Heap) (p q : Keyed) : Bool := HT.lexLt (kfO h p.1) (kfO h q.1)
theorem swo_ltO (h : Heap) : Swo (ltO h) := ⟨fun x y => NtL.lex_asym _ _, fun x y z => NtL.lex_tr _ _ _⟩
def IntKey (v : Value) : Prop := ∃ i t, v = Value.int i t
def TupKey (h : Heap) (v : Value) (ns : List Int) : Prop := ∃ a items, v = .ref a ∧ IsTup h a items ∧ IntsAre items.toList ns ∧ ns ≠ []
theorem TupKey.kf {h : Heap} {v : Value} {ns : List Int} (x : TupKey h v ns) : kfO h v = ns := by
  obtain ⟨a, items, rfl, ⟨o, ho, hc, n, hd⟩, hi, hn⟩ := x
  simp only [kfO, ho, hd]
  exact iv_ints hi
def KeysOK (h : Heap) (keys : List Value) : Prop := (∀ k ∈ keys, IntKey k) ∨ ∀ k ∈ keys, ∃ ns, TupKey h k ns
section
variable {prog : Program} {w : World} {A : Around} {E : Value → Shared → Prop} {s : Shared}
theorem cmp_ik {keys : List Value} (hk : ∀ k ∈ keys, IntKey k) : Cmp prog w A s oneType' (fun p => p.1 ∈ keys) (ltO s.heap) := by
  intro p q hm hm'
  obtain ⟨a, t, e⟩ := hk _ hm
  obtain ⟨b, u, e'⟩ := hk _ hm'
  show wpAny (model prog w) A (keyLt' oneType' p.1 q.1) (fun r s' => s' = s ∧ r = HT.lexLt (kfO s.heap p.1) (kfO s.heap q.1)) (fun _ _ => False) s
  rw [e, e', keyLt'_oneType]
  refine oneLt_int ⟨rfl, ?_⟩
  show decide (a < b) = HT.lexLt [a] [b]
  rw [HT.lexLt_cons]
  by_cases z : a = b
  · rw [if_pos z, HT.lexLt_nil_nil]
    exact decide_eq_false (by omega)
  · rw [if_neg z]
theorem lex_at {Q : Bool → Shared → Prop} {b : Bool} : ∀ {xs ys : List Value} {ns ms : List Int} (i : Nat), IntsAre xs ns → IntsAre ys ms → Q (HT.lexLt ns ms) s → PySem.W.KatLex prog w A b (decide (xs.length < ys.length)) Q (xs.zip ys) i s
  | _, _, _, _, i, .nil, .nil, h => by
    rw [HT.lexLt_nil_nil] at h
    exact PySem.W.kat_nil h
  | _, _, _, _, i, .nil, .cons n t r, h => by
    rw [HT.lexLt_nil_cons] at h
    exact PySem.W.kat_nil (by simpa using h)
  | _, _, _, _, i, .cons n t r, .nil, h => by
    rw [HT.lexLt_cons_nil] at h
    exact PySem.W.kat_nil (by simpa using h)
  | _, _, _, _, i, .cons n t r, .cons m u r', h => by
    rw [HT.lexLt_cons] at h
    refine PySem.W.kat_cons (SeqAt.EqAt.int_int n t m u prog w _ _ ?_)
    refine PySem.W.kat_go (fun e1 => ?_) (fun e1 => ?_)
    · have e : n = m := by simpa using e1
      rw [if_pos e] at h
      have := lex_at (b := b) (i + 1) r r' h
      refine PySem.W.kat_yes ?_
      simp only [List.length_cons, Nat.add_lt_add_iff_right]
      exact this
    · have e : ¬ n = m := by simpa using e1
      rw [if_neg e] at h
      exact PySem.W.kat_no (TS.oneLt_ints _ h)
theorem cmp_tk {keys : List Value} (hk : ∀ k ∈ keys, ∃ ns, TupKey s.heap k ns) : Cmp prog w A s (tuples' true) (fun p => p.1 ∈ keys) (ltO s.heap) := by
  intro p q hm hm'
  obtain ⟨ns, h1⟩ := hk _ hm
  obtain ⟨ms, h2⟩ := hk _ hm'
  show wpAny (model prog w) A (keyLt' (tuples' true) p.1 q.1) (fun r s' => s' = s ∧ r = HT.lexLt (kfO s.heap p.1) (kfO s.heap q.1)) (fun _ _ => False) s
  rw [h1.kf, h2.kf]
  obtain ⟨a, items, e, ⟨o, ho, hc, n, hd⟩, hi, hn⟩ := h1
  obtain ⟨a', items', e', ⟨o', ho', hc', n', hd'⟩, hi', hn'⟩ := h2
  rw [e, e']
  refine PySem.W.kat_lt ho hd ho' hd' ?_
  have := lex_at (prog := prog) (w := w) (A := A) (s := s) (Q := fun r s' => s' = s ∧ r = HT.lexLt ns ms) (b := true) 0 hi hi' ⟨rfl, rfl⟩
  simpa using this
theorem firsts_tk {h : Heap} : ∀ {vs : List Value}, (∀ v ∈ vs, ∃ ns, TupKey h v ns) → ∃ fs : List Value, PySem.W.KatTups h vs fs ∧ fs.length = vs.length ∧ ∀ f ∈ fs, ∃ x t, f = Value.int x t
  | [], _ => ⟨[], PySem.W.KatTups.nil, rfl, fun _ h => absurd h (by simp)⟩
  | v :: vs, hv => by
    obtain ⟨fs, h1, h2, h3⟩ := firsts_tk (vs := vs) fun u hu => hv u (List.mem_cons_of_mem _ hu)
    obtain ⟨ns, a, items, rfl, ⟨o, ho, hc, n, hd⟩, hi, hn⟩ := hv v List.mem_cons_self
    obtain ⟨x, t, hx⟩ : ∃ x t, items[0]? = some (Value.int x t) := by
      generalize e : items.toList = l at hi
      cases hi with
      | nil => exact absurd rfl hn
      | cons m t r =>
        refine ⟨m, t, ?_⟩
        rw [← Array.getElem?_toList, e]
        rfl
    refine ⟨.int x t :: fs, PySem.W.KatTups.cons ho hc hd hx h1, by simp [h2], fun f hf => ?_⟩
    rcases List.mem_cons.mp hf with rfl | hf
    · exact ⟨x, t, rfl⟩
    · exact h3 f hf
theorem ints_of {vs : List Value} (h : ∀ v ∈ vs, IntKey v) : ∃ ns, IntsAre vs ns := ⟨_, ints_iv h⟩
theorem kind_cmp {keys : List Value} (hk : KeysOK s.heap keys) (h2 : 2 ≤ keys.length) : ∃ κ, (∀ (Q : SortKind → Shared → Prop) (E : Value → Shared → Prop), Q κ s → wpAny (model prog w) A (keyKind' keys.toArray) Q E s) ∧ Cmp prog w A s κ (fun p => p.1 ∈ keys) (ltO s.heap) := by
  rcases hk with hk | hk
  · obtain ⟨ns, hi⟩ := ints_of hk
    refine ⟨oneType', fun Q E hq => ?_, cmp_ik hk⟩
    have e : keys = keys.toArray.toList := by simp
    rw [e] at hi
    rw [ksk_kind hi (by simpa using h2)]
    exact wpAny_pure hq
  · obtain ⟨fs, h1, h3, h4⟩ := firsts_tk hk
    refine ⟨tuples' true, fun Q E hq => ?_, cmp_tk hk⟩
    refine PySem.W.kat_kind (T := .type "int") h1 (by omega) (fun f hm => ?_) (by rfl) ?_
    · obtain ⟨x, t, rfl⟩ := h4 f hm
      exact PySem.W.Looks.now
    · have e : (Value.type "int" != Value.type "tuple") = true := by first | decide +kernel | rfl | decide
      rw [e]
      exact hq
theorem ksort_end {a kS : Addr} {vs : List Value} {keys : Array Value} {e e1 : Nat} {P : PySem.Fin → Shared → Prop} (nk : s.heap.get? kS = some (seqObj "list" keys e)) (na : s.heap.get? a = some (seqObj "list" #[] e1)) (hka : kS ≠ a)
    (hlen : keys.size = vs.length) (hz : vs.length ≤ sizeLine) (hk : KeysOK s.heap keys.toList)
    (h : ∀ (arr : Array Keyed) (out : Array Value) tk, out = arr.map (·.2) → Srtd (ltO s.heap) arr.toList → Stb (ltO s.heap) arr.toList (keys.toList.zip vs) → P (.done (.ret .none)) { s with heap := (s.heap.update kS (Obj.mapSeq fun _ => #[])).update a (Obj.mapSeq fun _ => out), toks := tk }) :
    wpAny (model prog w) A (ksk_end a false vs.toArray e1 (.ref kS) keys) P E s := by
  have na1 : (s.heap.update kS (Obj.mapSeq fun _ => (#[] : Array Value))).get? a = some (seqObj "list" #[] e1) := ((Heap.SameBut.update s.heap kS (Obj.mapSeq fun _ => (#[] : Array Value))).2 a hka.symm).trans na
  have tail : ∀ st : SortSt, Srtd (ltO s.heap) (arrOf st).toList → Stb (ltO s.heap) (arrOf st).toList (keys.zip vs.toArray).toList → failedOf st = none → wpAny (model prog w) A (ksk_tail a false e1 (.ref kS) st) P E s := by
    intro st h1 h2 hfl
    rw [ksk_zip] at h2
    have hl := h2.len
    rw [Array.length_toList, List.length_zip, Array.length_toList, hlen, Nat.min_self] at hl
    unfold ksk_tail
    try dsimp only
    refine wpAny_bind (listUpdate_at nk rfl ?_ (by rw [hlen]; exact hz) (Nat.zero_le _))
    refine wpAny_bind (wpAny_letGo ?_)
    refine wpAny_bind (seqEpoch_at na1 rfl ?_)
    refine wpAny_bind (listUpdate_at na1 rfl ?_ (Nat.zero_le _) (by simp only [Bool.false_eq_true, if_false, Array.size_map]; omega))
    rw [hfl]
    simp only [bne_self_eq_false, Bool.false_eq_true, if_false]
    exact wpAny_pure (h _ _ _ rfl h1 h2)
  unfold ksk_end
  try dsimp only
  simp only [Bool.false_eq_true, if_false]
  by_cases h2 : vs.toArray.size < 2
  · rw [if_pos h2, if_pos h2]
    refine wpAny_bind (wpAny_pure ?_)
    rw [StateT.run_pure]
    refine wpAny_bind (wpAny_pure ?_)
    try dsimp only
    refine tail (SortSt.mk' general' (keys.zip vs.toArray) #[] 7 none) ?_ (Stb.refl _) rfl
    show Srtd (ltO s.heap) (keys.zip vs.toArray).toList
    have hl : (keys.zip vs.toArray).toList.length < 2 := by
      rw [ksk_zip, List.length_zip, Array.length_toList, hlen, Nat.min_self]
      simpa using h2
    generalize (keys.zip vs.toArray).toList = l at hl
    match l, hl with
    | [], _ => exact List.Pairwise.nil
    | [v], _ => exact List.pairwise_singleton _ _
    | _ :: _ :: l, h => exact absurd h (by rw [List.length_cons, List.length_cons]; omega)
  · rw [if_neg h2, if_neg h2]
    have h2' : 2 ≤ keys.toList.length := by
      rw [Array.length_toList, hlen]
      simpa using h2
    obtain ⟨κ, hkind, hT⟩ := kind_cmp (prog := prog) (w := w) (A := A) hk h2'
    have ek : keys = keys.toList.toArray := by simp
    rw [ek]
    refine wpAny_bind (hkind _ _ ?_)
    rw [← ek]
    have hall : AllL (fun p : Keyed => p.1 ∈ keys.toList) (keys.zip vs.toArray).toList := fun p hm => by
      rw [ksk_zip] at hm
      exact (List.of_mem_zip (a := p.1) (b := p.2) hm).1
    refine wpAny_bind (wpAny_mono (wpS_sortO (st0 := SortSt.mk' κ (keys.zip vs.toArray) #[] 7 none)
      (Q := fun _ st' => Srtd (ltO s.heap) (arrOf st').toList ∧ Stb (ltO s.heap) (arrOf st').toList (keys.zip vs.toArray).toList ∧ failedOf st' = none) (swo_ltO s.heap) hT rfl hall rfl rfl fun st' a1 a2 a3 => ⟨a1, a2, a3⟩) ?_ fun _ _ e => e)
    rintro ⟨⟨⟩, st'⟩ s' ⟨rfl, hp1, hp2, hf⟩
    try dsimp only
    exact tail st' hp1 hp2 hf
end

/-! ### sorted(xs, key=f) -/
def keysT (r : V → Hp → VK → Prop) : List V → Hp → (List V → Hp → Prop) → Prop
  | [], H, Q => Q [] H
  | x :: xs, H, Q => r x H fun k H1 => keysT r xs H1 fun ks H2 => Q (k :: ks) H2
/-- the key function at f does what r says -/
structure KeyRun (X : Cx) (W : List (Addr × Obj)) (σ : L2.St) (f : Addr) (r : V → Hp → VK → Prop) : Prop where
  run : ∀ (pins : List (Addr × Obj)) (s : Shared) (H : Hp) (x : V) (u : Value) (Q : VK), (∀ p ∈ W, p ∈ pins) → Inv X pins σ H s → RelV x u → r x H Q → wpAny (model X.prog X.w) X.A.in1.in1 (call (.ref f) [u]) (EP X pins σ Q) (fun _ _ => False) s
theorem KeyRun.of_fn {X : Cx} {σ : L2.St} {CX : CXT} {k : Nat} {f : Addr} {fd : FuncData} {ps : List Str} {sp : Sp} {E : XK} (F : FnOk X.prog X.w X.K X.mg X.base CX k f fd ps sp) (hr : Room (k + 2) X.A) (hb : Binds X.K fd ps []) (hx : ∀ H s e s', ¬ CX X.stack H s E e s') :
    KeyRun X [] σ f fun x H Q => sp [x] H Q E := ⟨fun pins s H x u Q _ I rx h => by
  have r2 : Vals [x] [u] := .cons rx .nil
  have hl : ([u] ++ []).length = ps.length := F.len _ _ _ _ h
  refine wpAny_call (codeAny_mono (F.run X.A.in1.in1 X.stack s H ⟨[u], []⟩ ([u] ++ []) [x] Q E hr.in1.in1 I.env0.in1.in1 (hb s [u] I.kIn hl) r2 h) fun r s' hq => ?_)
  cases r with
  | error e => exact hx _ _ _ _ hq
  | ok fl =>
    cases fl with
    | ret u => exact I.after hq
    | next => exact False.elim hq
    | brk => exact False.elim hq
    | cont => exact False.elim hq⟩
/-- the keys are these: all ints, or all tuples of ints -/
def KeyI (k : V) (l : List Int) : Prop := ∃ i, k = .int i ∧ l = [i]
def KeyT (K : PySem.W.Frag) (H : Hp) (k : V) (l : List Int) : Prop := ∃ a, k = .ref a ∧ SqT K H a (l.map .int) ∧ l ≠ []
def KeysAre (K : PySem.W.Frag) (H : Hp) (ks : List V) (ls : List (List Int)) : Prop := Paired KeyI ks ls ∨ Paired (KeyT K H) ks ls
/-- the abstract value of a value -/
def backA : Value → V
  | .none => .non
  | .bool b => .bl b
  | .int i _ => .int i
  | .str x _ => .str x
  | .bytes b _ => .byt b
  | .float b _ => .flt b
  | .ref a => .ref a
  | .type n => .ty n
  | _ => .non
theorem backA_of : ∀ {x : V} {u : Value}, RelV x u → backA u = x
  | .non, _, h => by cases h; rfl
  | .bl _, _, h => by cases h; rfl
  | .int _, _, h => by obtain ⟨t, rfl⟩ := h; rfl
  | .str _, _, h => by obtain ⟨t, rfl⟩ := h; rfl
  | .byt _, _, h => by obtain ⟨t, rfl⟩ := h; rfl
  | .flt _, _, h => by obtain ⟨t, rfl⟩ := h; rfl
  | .ref _, _, h => by cases h; rfl
  | .ty _, _, h => by cases h; rfl
theorem backA_vals : ∀ {xs : List V} {us : List Value}, Vals xs us → us.map backA = xs
  | _, _, .nil => rfl
  | _, _, .cons r t => by rw [List.map_cons, backA_of r, backA_vals t]
theorem vals_backA {xs : List V} {us : List Value} (r : Vals xs us) : ∀ u ∈ us, RelV (backA u) u := by
  induction r with
  | nil => exact fun _ h => absurd h (by simp)
  | cons r t ih =>
    intro u hu
    rcases List.mem_cons.mp hu with rfl | hu
    · rw [backA_of r]; exact r
    · exact ih u hu
theorem vals_mapA : ∀ {us : List Value}, (∀ u ∈ us, RelV (backA u) u) → Vals (us.map backA) us
  | [], _ => .nil
  | u :: us, h => .cons (h u List.mem_cons_self) (vals_mapA fun w hw => h w (List.mem_cons_of_mem _ hw))
def rSortK (K : PySem.W.Frag) (f : Addr) (r : V → Hp → VK → Prop) : List V → List V → Hp → VK → Prop := fun vs zs H Q => ∃ (a : Addr) (xs : List V), vs = [.ref a] ∧ zs = [.ref f] ∧ (SqL K H a xs ∨ SqT K H a xs) ∧
  keysT r xs H fun ks H1 => ∃ ls : List (List Int), KeysAre K H1 ks ls ∧ ∀ p, H1 p = none → Q (.ref p) (upd H1 p (.lst ((srtK (ls.zip xs)).map (·.2))))
section
variable {X : Cx} {pins : List (Addr × Obj)} {σ : L2.St} {H : Hp} {s : Shared}
theorem keysAre_ok (I : Inv X pins σ H s) {ks : List V} {us : List Value} {ls : List (List Int)} (rk : Vals ks us) (h : KeysAre X.K H ks ls) : KeysOK s.heap us ∧ us.map (kfO s.heap) = ls := by
  rcases h with h | h
  · have : (∀ k ∈ us, IntKey k) ∧ us.map (kfO s.heap) = ls := by
      induction h generalizing us with
      | nil => cases rk; exact ⟨fun _ h => absurd h (by simp), rfl⟩
      | cons h1 h2 ih =>
        cases rk with
        | cons r t =>
          obtain ⟨a, b⟩ := ih t
          obtain ⟨i, rfl, rfl⟩ := h1
          obtain ⟨t, rfl⟩ := r
          refine ⟨fun k hk => ?_, by rw [List.map_cons, b]; rfl⟩
          rcases List.mem_cons.mp hk with rfl | hk
          · exact ⟨_, _, rfl⟩
          · exact a k hk
    exact ⟨.inl this.1, this.2⟩
  · have : (∀ k ∈ us, ∃ ns, TupKey s.heap k ns) ∧ us.map (kfO s.heap) = ls := by
      induction h generalizing us with
      | nil => cases rk; exact ⟨fun _ h => absurd h (by simp), rfl⟩
      | cons h1 h2 ih =>
        cases rk with
        | cons r t =>
          obtain ⟨a, b⟩ := ih t
          obtain ⟨a', rfl, hs, hn⟩ := h1
          cases r
          obtain ⟨its, r2, ht, _⟩ := I.tuple hs
          have tk : TupKey s.heap (.ref a') _ := ⟨a', its.toArray, rfl, ht, r2.ints, hn⟩
          refine ⟨fun k hk => ?_, by rw [List.map_cons, b, tk.kf]⟩
          rcases List.mem_cons.mp hk with rfl | hk
          · exact ⟨_, tk⟩
          · exact a k hk
    exact ⟨.inr this.1, this.2⟩
/-- what stands of an address of ours besides what is tracked -/
def StA (X : Cx) (pins : List (Addr × Obj)) (b : Addr) : Prop := b ≠ X.env.locals ∧ b ∉ X.fs ∧ (b ∈ X.ex ∨ X.s_0.heap.objs.size ≤ b) ∧ (∀ x c, X.env.cells.lookup x = some c → c ≠ b) ∧ ∀ p ∈ X.pn ++ pins, p.1 ≠ b
theorem ksort_loop {f : Addr} {r : V → Hp → VK → Prop} {W : List (Addr × Obj)} (KR : KeyRun X W σ f r) (hW : ∀ p ∈ W, p ∈ pins) {a kS : Addr} {vs : List Value} {xs : List V} {e1 : Nat} {P : PySem.Fin → Shared → Prop} {E : Value → Shared → Prop} {Qk : List V → Hp → Prop} (I : Inv X pins σ H s) (rv : Vals xs vs) (hz : vs.length ≤ sizeLine)
    (nk : s.heap.get? kS = some (seqObj "list" #[] 0)) (na : s.heap.get? a = some (seqObj "list" #[] e1)) (hka : kS ≠ a) (hHk : H kS = none) (hHa : H a = none) (sk : StA X pins kS) (sa : StA X pins a) (h : keysT r xs H Qk)
    (done : ∀ (s' : Shared) (H' : Hp) (ks : List V) (keys : Array Value) (e : Nat), Inv X pins σ H' s' → s'.heap.get? kS = some (seqObj "list" keys e) → s'.heap.get? a = some (seqObj "list" #[] e1) → H' kS = none → H' a = none → Vals ks keys.toList → keys.size = vs.length → Qk ks H' →
      wpAny (model X.prog X.w) X.A.in1.in1 (ksk_end a false vs.toArray e1 (.ref kS) keys) P E s') :
    wpAny (model X.prog X.w) X.A.in1.in1 (ksk_rest a (.ref f) false vs.toArray e1 (.ref kS)) P E s := by
  unfold ksk_rest
  refine wpAny_bind (wpAny_rule ?_)
  first
    | rw [List.forIn_toArray]
    | (rw [← Array.forIn_toList]; simp only [List.toList_toArray])
    | rw [← Array.forIn_toList]
  refine wpAny_bind (ksk_fold (fun i s' => ∃ (H' : Hp) (kA : Array Value) (e : Nat) (ks : List V), Inv X pins σ H' s' ∧ s'.heap.get? kS = some (seqObj "list" kA e) ∧ s'.heap.get? a = some (seqObj "list" #[] e1) ∧ H' kS = none ∧ H' a = none ∧ Vals ks kA.toList ∧ kA.size = i ∧ keysT r (xs.drop i) H' (fun ks' H2 => Qk (ks ++ ks') H2)) vs 0 s
    ⟨H, #[], 0, [], I, nk, na, hHk, hHa, .nil, rfl, h⟩ ?step ?done)
  case step =>
    rintro j x s' hx ⟨H', kA, e, ks, I', gk, ga, ek, ea, rk, hsz, hq⟩
    simp only [Nat.zero_add] at hsz hq ⊢
    have hj : j < vs.length := (List.getElem?_eq_some_iff.mp hx).1
    have hjx : j < xs.length := by rw [rv.length]; exact hj
    have hxj : xs[j]? = some xs[j] := List.getElem?_eq_getElem hjx
    obtain ⟨u, hu, ru⟩ := rv.get hxj
    rw [hx] at hu
    cases hu
    rw [List.drop_eq_getElem_cons hjx] at hq
    have Ip : Inv X (pins ++ [(a, seqObj "list" #[] e1), (kS, seqObj "list" kA e)]) σ H' s' := I'.pins_of fun p hp => by
      rcases List.mem_append.mp hp with hp | hp
      · exact I'.pin p (List.mem_append_right _ hp)
      · rcases List.mem_cons.mp hp with rfl | hp
        · exact ⟨ga, ea, sa.1, sa.2.1, fun v => by simp [seqObj]⟩
        · rw [List.mem_singleton.mp hp]
          exact ⟨gk, ek, sk.1, sk.2.1, fun v => by simp [seqObj]⟩
    refine wpAny_bind (wpAny_attempt (wpAny_mono (KR.run _ s' H' _ x _ (fun p hp => List.mem_append_left _ (hW p hp)) Ip ru hq) (fun v s'' he => ?_) fun _ _ hF => hF.elim))
    obtain ⟨k, H2, I2, rk2, q2⟩ := he
    have pa := I2.pin (a, seqObj "list" #[] e1) (List.mem_append_right _ (List.mem_append_right _ (by simp)))
    have pk := I2.pin (kS, seqObj "list" kA e) (List.mem_append_right _ (List.mem_append_right _ (by simp)))
    have I3 : Inv X pins σ H2 s'' := I2.unpinned
    obtain ⟨hh, g, d, t, os⟩ := s''
    try dsimp only at pa pk I3 ⊢
    have s1 := Heap.SameBut.update hh kS (Obj.mapSeq (·.push v))
    obtain ⟨c2, hc2⟩ : ∃ c2, (hh.update kS (Obj.mapSeq (·.push v))).get? kS = some (seqObj "list" (kA.push v) c2) := ⟨_, get?_update_seq pk.1 (·.push v)⟩
    refine wpAny_bind (listUpdate_at pk.1 rfl ?_ (by omega) (Nat.le_trans (Nat.le_of_eq (Array.size_push ..)) (by omega)))
    refine wpAny_pure ⟨rfl, H2, kA.push v, c2, ks ++ [k], ?_, hc2, (s1.2 a hka.symm).trans pa.1, pk.2.1, pa.2.1, ?_, by rw [Array.size_push]; omega, ?_⟩
    · exact I3.turned (t' := t) (it := kS) (h' := hh.update kS (Obj.mapSeq (·.push v))) (fun b o hb e => (s1.2 b hb).trans e) pk.2.1 sk.1 sk.2.2.1 sk.2.2.2.1 sk.2.2.2.2
    · have : (kA.push v).toList = kA.toList ++ [v] := by simp
      rw [this]
      exact rk.append (.cons rk2 .nil)
    · have e : (fun ks' H2 => Qk ((ks ++ [k]) ++ ks') H2) = fun ks' H2 => Qk (ks ++ (k :: ks')) H2 := by
        funext ks' H2
        rw [List.append_assoc]
        rfl
      rw [e]
      exact q2
  case done =>
    rintro s' ⟨H', kA, e, ks, I', gk, ga, ek, ea, rk, hsz, hq⟩
    simp only [Nat.zero_add] at hsz hq
    rw [List.drop_of_length_le (by rw [rv.length]; exact Nat.le_refl _)] at hq
    have hq' : Qk ks H' := by
      have := hq
      unfold keysT at this
      rw [List.append_nil] at this
      exact this
    try dsimp only
    refine wpAny_bind (listItems_at gk rfl ?_)
    exact done s' H' ks kA e I' gk ga ek ea rk hsz hq'
theorem fpOk_sta {b : Addr} (h : FpOk X pins H b) : StA X pins b := h.2
theorem ksort_mid {f : Addr} {r : V → Hp → VK → Prop} {W : List (Addr × Obj)} (KR : KeyRun X W σ f r) (hW : ∀ p ∈ W, p ∈ pins) {a kS : Addr} {vs : List Value} {xs : List V} {e1 : Nat} {P : PySem.Fin → Shared → Prop} {E : Value → Shared → Prop} {Q : V → Hp → Prop} (I : Inv X pins σ H s) (rv : Vals xs vs) (hz : vs.length ≤ sizeLine)
    (nk : s.heap.get? kS = some (seqObj "list" #[] 0)) (na : s.heap.get? a = some (seqObj "list" #[] e1)) (hka : kS ≠ a) (hHk : H kS = none) (hHa : H a = none) (sk : StA X pins kS) (sa : StA X pins a)
    (h : keysT r xs H fun ks H1 => ∃ ls : List (List Int), KeysAre X.K H1 ks ls ∧ ∀ p, H1 p = none → Q (.ref p) (upd H1 p (.lst ((srtK (ls.zip xs)).map (·.2)))))
    (done : ∀ s' H', Inv X pins σ H' s' → Q (.ref a) H' → P (.done (.ret .none)) s') :
    wpAny (model X.prog X.w) X.A.in1.in1 (ksk_rest a (.ref f) false vs.toArray e1 (.ref kS)) P E s := by
  refine ksort_loop KR hW I rv hz nk na hka hHk hHa sk sa h fun s' H' ks keys e I' gk ga ek ea rk hsz hq => ?_
  obtain ⟨ls, hk, hq⟩ := hq
  obtain ⟨ok, ek2⟩ := keysAre_ok I' rk hk
  refine ksort_end gk ga hka hsz hz ok fun arr out tk ho h1 h2 => ?_
  have e1 : (arr.toList.map fun p : Keyed => (kfO s'.heap p.1, backA p.2)) = srtK (ls.zip xs) := by
    refine srtK_uniq (List.pairwise_map.mpr h1) ?_
    have := SrtO.Stb.map (lt := ltK) swo_ltK (fun p : Keyed => (kfO s'.heap p.1, backA p.2)) (l := arr.toList) (m := keys.toList.zip vs) h2
    have e2 : (keys.toList.zip vs).map (fun p : Keyed => (kfO s'.heap p.1, backA p.2)) = ls.zip xs := by
      rw [← ek2, ← backA_vals rv, List.zip_map]
      rfl
    rw [e2] at this
    exact this
  have hmem : ∀ p ∈ arr.toList, p.2 ∈ vs := fun p hp => (List.of_mem_zip (a := p.1) (b := p.2) (h2.perm.mem_iff.mp hp)).2
  have e3 : (srtK (ls.zip xs)).map (·.2) = out.toList.map backA := by
    rw [← e1, ho, List.map_map, Array.toList_map, List.map_map]
    rfl
  have hlen : ((srtK (ls.zip xs)).map (·.2)).length ≤ sizeLine := by
    rw [e3, ho, List.length_map, Array.length_toList, Array.size_map, ← Array.length_toList, h2.len, List.length_zip]
    exact Nat.le_trans (Nat.min_le_right _ _) hz
  have t1 := Heap.SameBut.update s'.heap kS (Obj.mapSeq fun _ => (#[] : Array Value))
  have I5 := I'.turned (t' := tk) (it := kS) (h' := s'.heap.update kS (Obj.mapSeq fun _ => (#[] : Array Value))) (fun b o hb e => (t1.2 b hb).trans e) ek sk.1 sk.2.2.1 sk.2.2.2.1 sk.2.2.2.2
  have ga1 := (t1.2 a hka.symm).trans ga
  have t2 := Heap.SameBut.update (s'.heap.update kS (Obj.mapSeq fun _ => (#[] : Array Value))) a (Obj.mapSeq fun _ => out)
  obtain ⟨c2, hc2⟩ : ∃ c2, ((s'.heap.update kS (Obj.mapSeq fun _ => (#[] : Array Value))).update a (Obj.mapSeq fun _ => out)).get? a = some (seqObj "list" out c2) := ⟨_, get?_update_seq ga1 fun _ => out⟩
  have ob : ObjOk X.prog X.w (upd H' a (.lst ((srtK (ls.zip xs)).map (·.2)))) ((s'.heap.update kS (Obj.mapSeq fun _ => (#[] : Array Value))).update a (Obj.mapSeq fun _ => out)) a (.lst ((srtK (ls.zip xs)).map (·.2))) := by
    refine ⟨hlen, out.toList, c2, ?_, by rw [Array.toArray_toList]; exact hc2⟩
    rw [e3]
    refine vals_mapA fun u hu => ?_
    rw [ho, Array.toList_map] at hu
    obtain ⟨p, hp, rfl⟩ := List.mem_map.mp hu
    exact vals_backA rv _ (hmem p hp)
  have I6 := I5.take (t' := tk) (it := a) (h' := (s'.heap.update kS (Obj.mapSeq fun _ => (#[] : Array Value))).update a (Obj.mapSeq fun _ => out)) (o := .lst ((srtK (ls.zip xs)).map (·.2))) (fun b o hb e => (t2.2 b hb).trans e) ⟨ea, sa⟩ ob
  exact done _ _ I6 (hq a ea)
theorem ksort_tree {f : Addr} {r : V → Hp → VK → Prop} {W : List (Addr × Obj)} (KR : KeyRun X W σ f r) (hW : ∀ p ∈ W, p ∈ pins) {a : Addr} {vs : List Value} {xs : List V} {n : Nat} {P : PySem.Fin → Shared → Prop} {E : Value → Shared → Prop} {Q : V → Hp → Prop} (I : Inv X pins σ H s) (rv : Vals xs vs) (hz : vs.length ≤ sizeLine)
    (na : s.heap.get? a = some (seqObj "list" vs.toArray n)) (hHa : H a = none) (sa : StA X pins a)
    (h : keysT r xs H fun ks H1 => ∃ ls : List (List Int), KeysAre X.K H1 ks ls ∧ ∀ p, H1 p = none → Q (.ref p) (upd H1 p (.lst ((srtK (ls.zip xs)).map (·.2)))))
    (done : ∀ s' H', Inv X pins σ H' s' → Q (.ref a) H' → P (.done (.ret .none)) s') :
    wpAny (model X.prog X.w) X.A.in1.in1 (ksk_tree a (.ref f) false) P E s := by
  have ha : a < s.heap.objs.size := Heap.lt_size na
  have s1 := Heap.SameBut.update s.heap a (Obj.mapSeq fun _ => (#[] : Array Value))
  obtain ⟨e1, ho1⟩ : ∃ e1, (s.heap.update a (Obj.mapSeq fun _ => (#[] : Array Value))).get? a = some (seqObj "list" #[] e1) := ⟨_, get?_update_seq na fun _ => #[]⟩
  have I1 : Inv X pins σ H { s with heap := s.heap.update a (Obj.mapSeq fun _ => (#[] : Array Value)) } := I.turned (t' := s.toks) (it := a) (h' := s.heap.update a (Obj.mapSeq fun _ => (#[] : Array Value))) (fun b o hb e => (s1.2 b hb).trans e) hHa sa.1 sa.2.2.1 sa.2.2.2.1 sa.2.2.2.2
  unfold ksk_tree
  refine wpAny_bind (listItems_at na rfl ?_)
  refine wpAny_bind (listUpdate_at na rfl ?_ (by rw [List.size_toArray]; exact hz) (Nat.zero_le _))
  refine wpAny_bind (seqEpoch_at ho1 rfl ?_)
  have hlt : a < (s.heap.update a (Obj.mapSeq fun _ => (#[] : Array Value))).objs.size := Heap.lt_size ho1
  generalize s.heap.update a (Obj.mapSeq fun _ => (#[] : Array Value)) = hA at I1 ho1 hlt ⊢
  refine wpAny_bind (wpAny_newTuple ?_ (by show vs.length ≤ _; exact hz))
  refine wpAny_bind (wpAny_newList ?_ (Nat.zero_le _))
  refine wpAny_holding ?_
  have I2 : Inv X pins σ H { s with heap := hA.push (seqObj "tuple" vs.toArray 0) } := I1.kept (t' := s.toks) fun b o e => Heap.get?_push_of_some _ e
  have ho2 : (hA.push (seqObj "tuple" vs.toArray 0)).get? a = some (seqObj "list" #[] e1) := Heap.get?_push_of_some _ ho1
  have hl2 : a < (hA.push (seqObj "tuple" vs.toArray 0)).objs.size := Heap.lt_size ho2
  show wpAny _ _ (ksk_rest a (.ref f) false vs.toArray e1 (.ref (hA.push (seqObj "tuple" vs.toArray 0)).objs.size)) _ _ { s with heap := (hA.push (seqObj "tuple" vs.toArray 0)).push (seqObj "list" #[] 0) }
  generalize hA.push (seqObj "tuple" vs.toArray 0) = hB at I2 ho2 hl2 ⊢
  have fk : FpOk X pins H hB.objs.size := I2.fpOk (Nat.le_refl _) (I2.hok.fresh (Nat.le_refl _))
  have I3 : Inv X pins σ H { s with heap := hB.push (seqObj "list" #[] 0) } := I2.kept (t' := s.toks) fun b o e => Heap.get?_push_of_some _ e
  exact ksort_mid KR hW I3 rv hz (Heap.get?_push_size _ rfl) (Heap.get?_push_of_some _ ho2) (Nat.ne_of_gt hl2) fk.1 hHa fk.2 sa h done
theorem sortK_call {f : Addr} {r : V → Hp → VK → Prop} {W : List (Addr × Obj)} (KR : KeyRun X W σ f r) (hW : ∀ p ∈ W, p ∈ pins) {l : Addr} {xs : List V} {Q : VK} (I : Inv X pins σ H s) (hs : SqL X.K H l xs ∨ SqT X.K H l xs)
    (q : keysT r xs H fun ks H1 => ∃ ls : List (List Int), KeysAre X.K H1 ks ls ∧ ∀ p, H1 p = none → Q (.ref p) (upd H1 p (.lst ((srtK (ls.zip xs)).map (·.2))))) :
    wpAny (model X.prog X.w) X.A (call (.builtin "sorted") [.ref l] [(Str.ofString "key", .ref f)]) (EP X pins σ Q) X.xe s := by
  have key : ∀ (its : List Value) (T : String) (o : Obj) (n : Nat), Vals xs its → (T = "list" ∨ T = "tuple") → s.heap.get? l = some o → o.cls = .type T → o.data = .seq its.toArray n → xs.length ≤ sizeLine → wpAny (model X.prog X.w) X.A (call (.builtin "sorted") [.ref l] [(Str.ofString "key", .ref f)]) (EP X pins σ Q) X.xe s := by
    intro its T o n rv hT ho hc hd hz
    have hz' : its.length ≤ sizeLine := by rw [← rv.length]; exact hz
    refine call_function_entry_kw kind_sorted plain_sorted entry_sorted (ksk_s1 _ _) ?_
    unfold Builtin.«sorted»
    refine wpAny_bind (m := checkCount "sorted" 1 1 _) (wpAny_pure ?_)
    refine wpAny_bind (wpAny_collect_seq l hT ho hc hd (fun h' hk => ?_) (by rw [List.size_toArray]; exact hz'))
    have el : its.toArray.toList = its := by simp
    rw [el]
    have I1 : Inv X pins σ H { s with heap := h' } := I.kept (t' := s.toks) hk
    refine wpAny_bind (wpAny_newList ?_ hz')
    have I2 : Inv X pins σ H { s with heap := h'.push (seqObj "list" its.toArray 0) } := I1.kept (t' := s.toks) fun b o e => Heap.get?_push_of_some _ e
    have fa : FpOk X pins H h'.objs.size := I1.fpOk (Nat.le_refl _) (I1.hok.fresh (Nat.le_refl _))
    have hoL : (h'.push (seqObj "list" its.toArray 0)).get? h'.objs.size = some (seqObj "list" its.toArray 0) := Heap.get?_push_size _ rfl
    show wpAny _ _ _ _ _ { s with heap := h'.push (seqObj "list" its.toArray 0) }
    refine wpAny_bind (wpAny_holding (wpAny_call_entry_kw slot_list_sort ⟨_, hoL, rfl⟩ entry_list_sort ?body (ksk_l1 _ _)))
    case body =>
      show wpAny (model X.prog X.w) X.A.in1.in1 (Builtin.«list.sort» ⟨[.ref h'.objs.size], [(Str.ofString "key", .ref f)]⟩) _ _ _
      rw [ksk_t1]
      refine ksort_tree (s := { s with heap := h'.push (seqObj "list" its.toArray 0) }) KR hW I2 rv hz' hoL fa.1 fa.2 q fun s' H' I' q' => ⟨_, rfl, ?_⟩
      exact wpAny_pure ⟨_, rfl, .ref h'.objs.size, H', I', rfl, q'⟩
  rcases hs with hs | hs
  · obtain ⟨its, rv, hl, hz⟩ := I.list hs
    obtain ⟨o, ho, hc, n, hd⟩ := hl.isList
    exact key its "list" o n rv (.inl rfl) ho hc hd hz
  · obtain ⟨its, rv, ⟨o, ho, hc, n, hd⟩, hz⟩ := I.tuple hs
    exact key its "tuple" o n rv (.inr rfl) ho hc hd hz
theorem cr_sortK {f : Addr} {r : V → Hp → VK → Prop} (KR : ∀ σ, KeyRun X [] σ f r) : CallRK X (.builtin "sorted") [Str.ofString "key"] (rSortK X.K f r) := by
  intro pins s σ H vs zs us ws Q I rv0 rz h
  obtain ⟨l, xs, rfl, rfl, hs, q⟩ := h
  obtain rfl := Vals.ref1 rv0
  obtain ⟨w1, rfl, ew⟩ := vals1 rz
  obtain rfl : w1 = Value.ref f := ew
  exact sortK_call (KR σ) (fun p hp => by simp at hp) I hs q
end

/-! ### the stable sort of data -/
def srtA {α : Type} (kf : α → List Int) (as : List α) : List α := (srtK (as.map fun a => (kf a, a))).map (·.2)
section
variable {α β : Type} {R : α → β → Prop}
abbrev RK_ (R : α → β → Prop) : List (List Int × α) → List (List Int × β) → Prop := Paired fun p q => p.1 = q.1 ∧ R p.2 q.2
theorem insK_rel {p : List Int × α} {q : List Int × β} (h : p.1 = q.1 ∧ R p.2 q.2) : ∀ {l : List (List Int × α)} {m : List (List Int × β)}, RK_ R l m → RK_ R (insK p l) (insK q m)
  | _, _, .nil => .cons h .nil
  | _, _, .cons (a := a) (b := b) r t => by
    have e : ltK p a = ltK q b := by unfold ltK; rw [h.1, r.1]
    unfold insK
    by_cases z : ltK q b = true
    · rw [if_pos z, if_pos (by rw [e]; exact z)]
      exact .cons h (.cons r t)
    · rw [if_neg z, if_neg (by rw [e]; exact z)]
      exact .cons r (insK_rel h t)
theorem srtK_relG : ∀ {l : List (List Int × α)} {m : List (List Int × β)} {a : List (List Int × α)} {b : List (List Int × β)}, RK_ R l m → RK_ R a b → RK_ R (l.foldl (fun acc y => insK y acc) a) (m.foldl (fun acc y => insK y acc) b)
  | _, _, _, _, .nil, h => h
  | _, _, _, _, .cons r t, h => by
    simp only [List.foldl_cons]
    exact srtK_relG t (insK_rel r h)
theorem srtK_rel {l : List (List Int × α)} {m : List (List Int × β)} (h : RK_ R l m) : RK_ R (srtK l) (srtK m) := srtK_relG h .nil
end
theorem rpAll_of {K : PySem.W.Frag} {G : Hp} {α : Type} {Da : α → Dt} : ∀ {l : List (List Int × V)} {m : List (List Int × α)}, RK_ (fun v a => Rp K G v (Da a)) l m → RpAll K G (l.map (·.2)) ((m.map (·.2)).map Da)
  | _, _, .nil => .nil
  | _, _, .cons r t => .cons r.2 (rpAll_of t)
theorem rk_of {K : PySem.W.Frag} {G : Hp} {α : Type} {Da : α → Dt} {kf : α → List Int} : ∀ {as : List α} {xs : List V}, RpAll K G xs (as.map Da) → RK_ (fun v a => Rp K G v (Da a)) ((as.map kf).zip xs) (as.map fun a => (kf a, a))
  | [], _, h => by cases h; exact .nil
  | a :: as, _, h => by
    cases h with
    | cons h1 h2 => exact .cons ⟨rfl, h1⟩ (rk_of h2)
section
variable {K : PySem.W.Frag} {G0 H0 G H : Hp} {D : List Addr} {M : List (Addr × HO)} {α : Type} {Da : α → Dt} {kf : α → List Int} {r : V → Hp → VK → Prop} {kd : List Int → Dt}
/-- what a key function does to the items' data -/
def KeyDo (K : PySem.W.Frag) (Da : α → Dt) (kf : α → List Int) (kd : List Int → Dt) (r : V → Hp → VK → Prop) : Prop := ∀ (x : V) (a : α) (G0 H0 G H : Hp) (D : List Addr) (M : List (Addr × HO)) (Q : VK), Sta K G0 H0 D G M H → Rp K G x (Da a) →
  (∀ k G1 H1, Same G G1 → Sta K G0 H0 D G1 M H1 → Rp K G1 k (kd (kf a)) → Q k H1) → r x H Q
theorem keysT_go (hd : KeyDo K Da kf kd r) : ∀ (as : List α) (xs : List V) (G H : Hp) (Q : List V → Hp → Prop), Sta K G0 H0 D G M H → RpAll K G xs (as.map Da) →
    (∀ ks G1 H1, Same G G1 → Sta K G0 H0 D G1 M H1 → RpAll K G1 ks (as.map fun a => kd (kf a)) → Q ks H1) → keysT r xs H Q
  | [], xs, G, H, Q, hS, hx, q => by
    cases hx
    exact q [] G H (Same.refl G) hS .nil
  | a :: as, _, G, H, Q, hS, hx, q => by
    cases hx with
    | cons h1 h2 =>
      refine hd _ a G0 H0 G H D M _ hS h1 fun k G1 H1 e1 hS1 hk => ?_
      refine keysT_go hd as _ G1 H1 _ hS1 (h2.up e1) fun ks G2 H2 e2 hS2 hks => ?_
      exact q _ G2 H2 (e1.trans e2) hS2 (.cons (hk.up e2) hks)
theorem keysT_t {K : PySem.W.Frag} {G H : Hp} (e : Same G H) : ∀ {as : List α} {ks : List V}, (∀ a ∈ as, kf a ≠ []) → RpAll K G ks (as.map fun a => .tup ((kf a).map .int)) → Paired (KeyT K H) ks (as.map kf)
  | [], _, _, h => by cases h; exact .nil
  | a :: as, _, hn, h => by
    cases h with
    | cons h1 h2 =>
      obtain ⟨p, xs, rfl, hs, hr⟩ := Rp.tup_inv h1
      rw [hr.ints_inv] at hs
      exact .cons ⟨p, rfl, Same.t e hs, hn a List.mem_cons_self⟩ (keysT_t e (fun b hb => hn b (List.mem_cons_of_mem _ hb)) h2)
theorem keysT_i {kv : α → Int} : ∀ {as : List α} {ks : List V}, (∀ a ∈ as, kf a = [kv a]) → RpAll K G ks (as.map fun a => .int (kv a)) → Paired KeyI ks (as.map kf)
  | [], _, _, h => by cases h; exact .nil
  | a :: as, _, hn, h => by
    cases h with
    | cons h1 h2 =>
      cases Rp.int_inv h1
      exact .cons ⟨_, rfl, hn a List.mem_cons_self⟩ (keysT_i (fun b hb => hn b (List.mem_cons_of_mem _ hb)) h2)
/-- sorted(xs, key=f): a new list, which may change -/
theorem go_sortK {f : Addr} {as : List α} {x : V} {Q : VK} {kd : List Int → Dt} (hd : KeyDo K Da kf kd r) (hk : ∀ ks G1 H1, Same G1 H1 → RpAll K G1 ks (as.map fun a => kd (kf a)) → KeysAre K H1 ks (as.map kf)) (hS : Sta K G0 H0 D G M H) (hx : Rp K G x (.lst (as.map Da)) ∨ Rp K G x (.tup (as.map Da)))
    (q : ∀ p vs G1 H1, H0 p = none → G p = none → Same G G1 → Sta K G0 H0 D G1 ((p, .lst vs) :: M) H1 → RpAll K G1 vs ((srtA kf as).map Da) → Q (.ref p) H1) : rSortK K f r [x] [.ref f] H Q := by
  obtain ⟨a, xs, rfl, hs, ha⟩ : ∃ a xs, x = .ref a ∧ (SqL K H a xs ∨ SqT K H a xs) ∧ RpAll K G xs (as.map Da) := by
    rcases hx with hx | hx
    · obtain ⟨a, xs, rfl, hs, ha⟩ := Rp.lst_inv hx
      exact ⟨a, xs, rfl, .inl (hS.gh.seq hs), ha⟩
    · obtain ⟨a, xs, rfl, hs, ha⟩ := Rp.tup_inv hx
      exact ⟨a, xs, rfl, .inr (Same.t hS.gh hs), ha⟩
  refine ⟨a, xs, rfl, rfl, hs, ?_⟩
  refine keysT_go hd as xs G H _ hS ha fun ks G1 H1 e1 hS1 hks => ?_
  refine ⟨as.map kf, hk ks G1 H1 hS1.gh hks, fun p hp => ?_⟩
  have hg : G p = none := by
    cases e : G p with
    | none => rfl
    | some o =>
      have := hS1.gh _ _ (e1 _ _ e)
      rw [hp] at this
      cases this
  exact q p _ G1 _ (hS1.h0 hp) hg e1 (hS1.mut hp _) (rpAll_of (srtK_rel (rk_of (ha.up e1))))
end
/-! ### lists that are known as they are: slices, sums -/
section
variable {K : PySem.W.Frag} {G0 H0 G H : Hp} {D : List Addr} {M : List (Addr × HO)} {Q : VK}
theorem go_cat_ {l b : Addr} {xs zs : List V} (hS : Sta K G0 H0 D G M H) (hx : G l = some (.lst xs)) (hz : G b = some (.lst zs)) (hl : xs.length + zs.length ≤ 100000) (k : ∀ p G1 H1, Same G G1 → Sta K G0 H0 D G1 M H1 → G1 p = some (.lst (xs ++ zs)) → Q (.ref p) H1) : rCat (.ref l) (.ref b) H Q :=
  ⟨l, b, xs, zs, rfl, rfl, hS.gh _ _ hx, hS.gh _ _ hz, sz hl, fun p hp => k p _ _ (same_upd (hS.gn hp)) (hS.imm hp _) upd_same⟩
theorem go_newR {xs : List V} (hS : Sta K G0 H0 D G M H) (hl : xs.length ≤ 100000) (k : ∀ p G1 H1, Same G G1 → Sta K G0 H0 D G1 M H1 → G1 p = some (.lst xs) → Q (.ref p) H1) : NL Q xs H :=
  ⟨sz hl, fun p hp => k p (upd G p (.lst xs)) _ (same_upd (hS.gn hp)) (hS.imm hp _) upd_same⟩
theorem go_slL {xs : List V} {a : Addr} {lo hi : Option Int} (hS : Sta K G0 H0 D G M H) (hx : SqL K G a xs) (k : ∀ p G1 H1, Same G G1 → Sta K G0 H0 D G1 M H1 → G1 p = some (.lst (cutV xs lo hi)) → Q (.ref p) H1) : rSlL K (.ref a) lo hi H Q :=
  ⟨a, xs, rfl, hS.gh.seq hx, fun p hp => k p _ _ (same_upd (hS.gn hp)) (hS.imm hp _) upd_same⟩
theorem raw_l {p : Addr} {xs : List V} {ds : List Dt} (h : G p = some (.lst xs)) (r : RpAll K G xs ds) : Rp K G (.ref p) (.lst ds) := .lst (.inl (.inl h)) r
/-- t <= u of tuples of three ints -/
theorem le3 (a b c d e f : Int) : Ob.lexAt (fun j => decide (([a, b, c] : List Int).getD j 0 = ([d, e, f] : List Int).getD j 0)) (fun j => decide (([a, b, c] : List Int).getD j 0 ≤ ([d, e, f] : List Int).getD j 0)) (decide (([a, b, c] : List Int).length ≤ ([d, e, f] : List Int).length)) 0 (min ([a, b, c] : List Int).length ([d, e, f] : List Int).length) = !HT.lexLt [d, e, f] [a, b, c] := by
  show Ob.lexAt _ _ _ 0 3 = _
  simp only [Ob.lexAt, List.getD_cons_zero, List.getD_cons_succ, HT.lexLt_cons, HT.lexLt_nil_nil, List.length_cons, List.length_nil, decide_eq_true_eq]
  by_cases h1 : a = d
  · by_cases h2 : b = e
    · by_cases h3 : c = f
      · simp [h1, h2, h3]
      · have h3' : ¬ f = c := fun z => h3 z.symm
        simp only [h1, h2, h3, h3', if_true, if_false]
        rw [Bool.eq_iff_iff]
        simp
    · have h2' : ¬ e = b := fun z => h2 z.symm
      simp only [h1, h2, h2', if_true, if_false]
      rw [Bool.eq_iff_iff]
      simp
  · have h1' : ¬ d = a := fun z => h1 z.symm
    simp only [h1, h1', if_false]
    rw [Bool.eq_iff_iff]
    simp
theorem go_leT {x y : V} {ns ms : List Int} {b : Bool} (hx : Rp K G x (.tup (ns.map .int))) (hy : Rp K G y (.tup (ms.map .int))) (e : Same G H)
    (hb : Ob.lexAt (fun j => decide (ns.getD j 0 = ms.getD j 0)) (fun j => decide (ns.getD j 0 ≤ ms.getD j 0)) (decide (ns.length ≤ ms.length)) 0 (min ns.length ms.length) = b) (k : Q (.bl b) H) : rLeT K x y H Q := by
  obtain ⟨a, xs, rfl, hs, ha⟩ := Rp.tup_inv hx
  obtain ⟨c, ys, rfl, hs', ha'⟩ := Rp.tup_inv hy
  rw [ha.ints_inv] at hs
  rw [ha'.ints_inv] at hs'
  exact ⟨a, c, ns, ms, rfl, rfl, Same.t e hs, Same.t e hs', by rw [hb]; exact k⟩
end
/-! ### the place of an item in a sorted list -/
theorem insK_take {α : Type} (y : List Int × α) (l : List (List Int × α)) (h : Srtd ltK l) : insK y l = l.take (l.countP fun o => !ltK y o) ++ y :: l.drop (l.countP fun o => !ltK y o) := by
  obtain ⟨M, N, e1, e2, e3, e4⟩ := insK_split y l h
  have hc : l.countP (fun o => !ltK y o) = M.length := by
    rw [e1, List.countP_append]
    have h1 : M.countP (fun o => !ltK y o) = M.length := List.countP_eq_length.mpr fun x hx => by simp [e3 x hx]
    have h2 : N.countP (fun o => !ltK y o) = 0 := List.countP_eq_zero.mpr fun x hx => by simp [e4 x hx]
    omega
  rw [hc, e2, e1, List.take_left, List.drop_left]
theorem srtK_snoc {α : Type} (l : List (List Int × α)) (y : List Int × α) : srtK (l ++ [y]) = insK y (srtK l) := by simp [srtK]
theorem countP_sndG {α : Type} (kf : α → List Int) (b : α) : ∀ (l : List (List Int × α)), (∀ p ∈ l, p.1 = kf p.2) → (l.map (·.2)).countP (fun o => !HT.lexLt (kf b) (kf o)) = l.countP (fun p => !ltK (kf b, b) p)
  | [], _ => rfl
  | p :: l, hp => by
    have h1 : p.1 = kf p.2 := hp p List.mem_cons_self
    have e : ltK (kf b, b) p = HT.lexLt (kf b) (kf p.2) := by rw [← h1]; rfl
    rw [List.map_cons, List.countP_cons, List.countP_cons, countP_sndG kf b l fun q hq => hp q (List.mem_cons_of_mem _ hq), e]
theorem countP_snd {α : Type} (kf : α → List Int) (b : α) (as : List α) : (srtA kf as).countP (fun o => !HT.lexLt (kf b) (kf o)) = (srtK (as.map fun a => (kf a, a))).countP (fun p => !ltK (kf b, b) p) := by
  refine countP_sndG kf b _ fun p hp => ?_
  have := (srtK_perm (as.map fun a => (kf a, a))).mem_iff.mp hp
  obtain ⟨a, _, rfl⟩ := List.mem_map.mp this
  rfl
theorem srtA_snoc {α : Type} (kf : α → List Int) (as : List α) (b : α) : srtA kf (as ++ [b]) = (srtA kf as).take ((srtA kf as).countP fun o => !HT.lexLt (kf b) (kf o)) ++ b :: (srtA kf as).drop ((srtA kf as).countP fun o => !HT.lexLt (kf b) (kf o)) := by
  rw [countP_snd]
  unfold srtA
  rw [List.map_append, List.map_cons, List.map_nil, srtK_snoc, insK_take _ _ (srtK_ok _).1, List.map_append, List.map_cons, List.map_take, List.map_drop]
theorem srtA_perm {α : Type} (kf : α → List Int) (as : List α) : (srtA kf as).Perm as := by
  have := (srtK_perm (as.map fun a => (kf a, a))).map (·.2)
  rw [List.map_map] at this
  have e : as.map ((fun p : List Int × α => p.2) ∘ fun a => (kf a, a)) = as := by
    conv => rhs; rw [← List.map_id as]
    rfl
  rw [e] at this
  exact this
theorem srtA_len {α : Type} (kf : α → List Int) (as : List α) : (srtA kf as).length = as.length := (srtA_perm kf as).length_eq
/-- a list that may change, read by a callee as one that does not -/
theorem Sta.lend {K : PySem.W.Frag} {G0 H0 G H : Hp} {D : List Addr} {M : List (Addr × HO)} {p : Addr} {o : HO} (h : Sta K G0 H0 D G ((p, o) :: M) H) :
    Same G (upd G p o) ∧ Same (upd G p o) H ∧ ∀ G1 H1, Adv [] (upd G p o) H G1 H1 → ∃ G2, Same G G2 ∧ Sta K G0 H0 D G2 ((p, o) :: M) H1 ∧ ∀ a, a ≠ p → G2 a = G1 a := by
  have hm := h.mh _ List.mem_cons_self
  have hmn : ∀ q ∈ M, q.1 ≠ p := fun q hq e => by
    have := h.md
    simp only [List.map_cons, List.nodup_cons] at this
    exact this.1 (List.mem_map.mpr ⟨q, hq, e⟩)
  have sgh : Same (upd G p o) H := fun b x e => by
    by_cases hb : b = p
    · subst hb
      rw [upd_same] at e
      cases e
      exact hm.1
    · rw [upd_ne hb] at e
      exact h.gh _ _ e
  refine ⟨same_upd hm.2.1, sgh, fun G1 H1 ad => ?_⟩
  let G2 : Hp := fun a => if a = p then none else G1 a
  have g2p : G2 p = none := by show (if p = p then none else G1 p) = none; rw [if_pos rfl]
  have g2n : ∀ a, a ≠ p → G2 a = G1 a := fun a ha => by show (if a = p then none else G1 a) = G1 a; rw [if_neg ha]
  have e12 : Same G G2 := fun b x e => by
    have hb : b ≠ p := fun z => by subst z; rw [hm.2.1] at e; cases e
    rw [g2n b hb]
    exact ad.gg b x (by rw [upd_ne hb]; exact e)
  have e2h : Same G2 H1 := fun b x e => by
    by_cases hb : b = p
    · subst hb; rw [g2p] at e; cases e
    · rw [g2n b hb] at e
      exact ad.gh _ _ e
  refine ⟨G2, e12, ⟨h.g0.trans e12, e2h, fun a ha => ?_, fun a u ha hd => ad.kp a u (h.kp a u ha hd) (by simp), fun a ha => ad.up a (h.up a ha), h.md, fun q hq => ?_⟩, g2n⟩
  · by_cases hb : a = p
    · subst hb
      rw [g2p, ← h.fr a ha, hm.2.1]
    · rw [g2n a hb, ad.fr a (h.up a ha), upd_ne hb]
      exact h.fr a ha
  · obtain ⟨e1, e2, e3⟩ := h.mh q hq
    refine ⟨ad.kp _ _ e1 (by simp), ?_, e3⟩
    by_cases hb : q.1 = p
    · rw [hb]; exact g2p
    · rw [g2n _ hb, ad.fr _ (by rw [e1]; exact fun z => nomatch z), upd_ne hb]
      exact e2
/-! ### more steps -/
def PTK (Q : Option Int → Hp → Prop) (x : V) (H : Hp) : Prop := ∃ i, x = .int i ∧ Q (some i) H
def OTK (K : PySem.W.Frag) (Q : VK) (B : Hp → Prop) (x : V) (H : Hp) : Prop := ∃ k, TruV K x H k ∧ if k = true then Q x H else B H
section
variable {K : PySem.W.Frag} {G H : Hp} {σ σ2 : L2.St} {Q : VK} {ta tb te : TE} {vss : List Nat} {A : Prop} {B : Hp → Prop} {i : Int} {x : V}
theorem go_wipe (e : wipe σ2 vss = wipe σ vss) (h : A) : wipe σ2 vss = wipe σ vss ∧ A := ⟨e, h⟩
theorem go_sl {r : V → Option Int → Option Int → Hp → VK → Prop} {tl th : TO} (h : te σ H fun x H1 => tl σ H1 fun l H2 => th σ H2 fun u H3 => r x l u H3 Q) : tSl r te tl th σ H Q := h
theorem go_noPart {Q : Option Int → Hp → Prop} (h : Q none H) : tNoPart σ H Q := h
theorem go_part {Q : Option Int → Hp → Prop} (h : te σ H fun x H1 => PTK Q x H1) : tPart te σ H Q := h
theorem go_ptk {Q : Option Int → Hp → Prop} (h : Q (some i) H) : PTK Q (.int i) H := ⟨i, rfl, h⟩
theorem go_orT (h : ta σ H fun x H1 => OTK K Q (fun H2 => tb σ H2 Q) x H1) : tOrT K ta tb σ H Q := h
theorem go_ckw {r : List V → List V → Hp → VK → Prop} {t tk : TA} (h : t σ H fun vs H1 => tk σ H1 fun zs H2 => r vs zs H2 Q) : tCKw r t tk σ H Q := h
theorem go_otk_non (h : B H) : OTK K Q B .non H := ⟨false, rfl, by rw [if_neg (by decide)]; exact h⟩
theorem go_otk_int (h1 : i ≠ 0 → Q (.int i) H) (h2 : i = 0 → B H) : OTK K Q B (.int i) H := by
  refine ⟨i != 0, rfl, ?_⟩
  by_cases e : i = 0
  · rw [if_neg (by simp [e])]; exact h2 e
  · rw [if_pos (by simp [e])]; exact h1 e
end
theorem cut_hi (xs : List V) (n : Nat) : cutV xs none (some (n : Int)) = xs.take n := by
  unfold cutV
  rw [HT.sIx_none, HT.sIx_nat, List.drop_zero, Nat.sub_zero]
  by_cases h : n ≤ xs.length
  · rw [Nat.min_eq_left h]
  · rw [Nat.min_eq_right (by omega), List.take_of_length_le (by omega), List.take_of_length_le (by omega)]
theorem cut_lo (xs : List V) (n : Nat) : cutV xs (some (n : Int)) none = xs.drop n := by
  unfold cutV
  rw [HT.sIx_none, HT.sIx_nat]
  by_cases h : n ≤ xs.length
  · rw [Nat.min_eq_left h, List.take_of_length_le (by rw [List.length_drop]; omega)]
  · rw [Nat.min_eq_right (by omega), List.drop_of_length_le (Nat.le_refl _), List.drop_of_length_le (by omega), List.take_nil]
theorem okD_bar (b : Bar) (n : Nat) : okD (n + 2) (barD b) = true := by
  obtain ⟨x, o⟩ := b
  cases o <;> simp [barD, optD, okD]
theorem okD_bars (bs : List Bar) (h : bs.length ≤ 100000) : okD 5 (.lst (bs.map barD)) = true := by
  simp only [okD, List.length_map, h, decide_true, Bool.true_and, List.all_eq_true]
  intro d hd
  obtain ⟨b, _, rfl⟩ := List.mem_map.mp hd
  exact okD_bar b 2
theorem okE_bar (b : Bar) (n : Nat) : okE (n + 2) (barD b) = true := by
  obtain ⟨x, o⟩ := b
  cases o <;> simp [barD, optD, okE]
theorem okE_bars (bs : List Bar) (h : bs.length ≤ 100000) : okE 5 (.lst (bs.map barD)) = true := by
  simp only [okE, List.length_map, h, decide_true, Bool.true_and, List.all_eq_true]
  intro d hd
  obtain ⟨b, _, rfl⟩ := List.mem_map.mp hd
  exact okE_bar b 2
theorem go_sameLend {K : PySem.W.Frag} {G0 H0 G H : Hp} {D : List Addr} {M : List (Addr × HO)} {p : Addr} {xs : List V} {ds : List Dt} (h : Sta K G0 H0 D G ((p, .lst xs) :: M) H) (hx : RpAll K G xs ds) :
    ∃ G', Same G G' ∧ Same G' H ∧ Rp K G' (.ref p) (.lst ds) ∧ ∀ G1 H1, Adv [] G' H G1 H1 → ∃ G2, Same G G2 ∧ Sta K G0 H0 D G2 ((p, .lst xs) :: M) H1 := by
  obtain ⟨e1, e2, l⟩ := h.lend
  exact ⟨_, e1, e2, .lst (.inl (.inl upd_same)) (hx.up e1), fun G1 H1 ad => by
    obtain ⟨G2, a, b, _⟩ := l G1 H1 ad
    exact ⟨G2, a, b⟩⟩
theorem atI_get {α : Type} {xs : List α} {n : Nat} {v : Int} (hl : xs.length = n) (h0 : 0 ≤ v) (h1 : v < n) : ∃ x, L2.atI xs v = some x ∧ xs[v.toNat]? = some x := by
  have hk : v.toNat < xs.length := by omega
  refine ⟨xs[v.toNat], ?_, List.getElem?_eq_getElem hk⟩
  have := atI_nat (j := v.toNat) (List.getElem?_eq_getElem hk)
  rw [Int.toNat_of_nonneg h0] at this
  exact this
theorem ixN_nat {n : Nat} {i : Nat} (h : i < n) : ixN n (i : Int) = some i := by
  unfold ixN
  rw [if_pos (Int.natCast_nonneg i), if_pos (by omega), Int.toNat_natCast]
end B
namespace B
open PySem PySem.Spec PyProof.Rows L2 RZ

/-! ### what a callee may let out -/
theorem passN {X : Cx} (σ : L2.St) : PassesAt (L2.CX X.prog X.w) X σ (fun _ _ _ => False) := fun pins H s e s' I h => passL (X := X) pins σ H s e s' I h
/-- how a call o.m(args) runs -/
abbrev MCall (X : Cx) (ob : Expr) (m : Str) (apos pos : Pos) (args : List Expr) (pl : Sem Bool) : Prop :=
  eval (.Call (.Attribute ob m apos) args [] pos) X.env = (do let ov ← eval ob X.env; standAt apos.atName; let (f, first) ← holding [ov] (getMethod ov m pl); callWith pos f first (backTo pos (starEach args X.env)) (backToKw pos (keywordEach [] X.env)))
abbrev PlainA (X : Cx) (pos : Pos) (e : Expr) (es : List Expr) : Prop := starEach (e :: es) X.env = (false, eval e X.env) :: starEach es X.env ∧ (backTo pos (starEach es X.env)).any (·.1) = false
/-! ### a static method off its class -/
structure Stat (K : PySem.W.Frag) (C : Addr) (m : Str) (g : Addr) : Prop where
  ex : ∃ (mc : Value) (p : Addr) (rest : List Value), PySem.W.readsIn K C mc = true ∧ PySem.W.specialIn K (.ref C) "__getattribute__" = some (some (.builtin "type.__getattribute__")) ∧
    PySem.W.findCls K (.ref C) mc m = some (.get (.builtin "staticmethod.__get__") (.ref p) .none (.ref C)) ∧ PySem.W.recIn K p "staticmethod" = some (.ref g :: rest)
  hv : PySem.W.handedIn (.ref g) = true
  kp : PySem.W.keepIn K (.ref g) = true
section
variable {X : Cx} {CX : CXT} {k : Nat} {C g f a b : Addr} {fd : FuncData} {ps : List Str} {sp : Sp} {E : L2.St → XK} {o e : Expr} {es : List Expr} {x m : Str} {p pos apos : Pos} {ta tb : TE} {t : TA} {pl : Sem Bool}
theorem stat_get {pins : List (Addr × Obj)} {σ : L2.St} {H : Hp} {s : Shared} {A : Around} {E : Value → Shared → Prop} {Q : Value × List Value → Shared → Prop} (I : Inv X pins σ H s) (S : Stat X.K C m g)
    (h : ∀ s', Inv X pins σ H s' → Q (.ref g, []) s') : wpAny (model X.prog X.w) A (getMethod (.ref C) m pl) Q E s := by
  obtain ⟨mc, p, rest, h1, h2, h3, h4⟩ := S.ex
  refine PySem.W.method_cls I.kIn h2 ?_
  refine PySem.W.cls_bind I.kIn h1 h3 (wpAny_call ?_)
  have J := I.tok (s.toks + 1)
  exact PySem.W.sm_get (s := { s with toks := s.toks + 1 }) J.kIn h4 (PySem.W.handed_on S.hv (h _ J))
def tStat (C : Addr) (sp : Sp) (E : L2.St → XK) (ta : TE) (t : TA) : TE := fun σ H Q => ta σ H fun x H1 => x = .ref C ∧ t σ H1 fun vs H2 => sp vs H2 Q (E σ)
theorem pe_stat (he : PE X o ta) (S : Stat X.K C m g) (F : FnOk X.prog X.w X.K X.mg X.base CX k g fd ps sp) (hr : Room k X.A) (hb : Binds X.K fd ps []) (hx : ∀ σ, PassesAt CX X σ (E σ)) (ha : PA X (e :: es) t)
    (hst : PlainA X pos e es := by exact ⟨rfl, rfl⟩) (ht : MCall X o m apos pos (e :: es) pl := by rfl) :
    PE X (.Call (.Attribute o m apos) (e :: es) [] pos) (tStat C sp E ta t) := by
  refine ⟨fun pins s σ H Q I h => ?_⟩
  refine PySem.W.methodCall_KW (pl := pl) (thn (he.run pins s σ H _ I h) fun u s1 hu => ?_) ht
  obtain ⟨xv, H1, I1, rx, ex, q⟩ := hu
  subst ex
  obtain rfl : u = Value.ref C := rx
  refine stat_get I1 S fun s2 I2 => ?_
  refine PySem.W.callWith_K (h₀ := X.base) I.ok.mod.kin S.kp (thn (ha.run pos pins s2 σ H1 _ I2 q) fun us s3 hu => ?_) hst.1 hst.2
  obtain ⟨vs, H2, I3, rv, q2⟩ := hu
  exact ⟨I3.kIn, run_fnS F hr hb (hx σ) I3 rv q2⟩
/-! ### o.m(..), C(..) where what is raised is wished for at the caller's slots -/
def tMetS (C : Addr) (m : Str) (sp : Sp) (E : L2.St → XK) (ta : TE) (t : TA) : TE := fun σ H Q => ta σ H fun x H1 => ∃ a dx fs, x = .ref a ∧ H1 a = some (.ins C dx fs) ∧ fs.lookup m = none ∧ t σ H1 fun vs H2 => sp (x :: vs) H2 Q (E σ)
theorem pe_methS (he : PE X o ta) (c : Cls X.K C) (hm : Meth X.K C m f) (F : FnOk X.prog X.w X.K X.mg X.base CX k f fd ps sp) (hr : Room k X.A) (hb : Binds X.K fd ps []) (hx : ∀ σ, PassesAt CX X σ (E σ)) (ha : PA X (e :: es) t)
    (hst : PlainA X pos e es := by exact ⟨rfl, rfl⟩) (ht : MCall X o m apos pos (e :: es) pl := by rfl) :
    PE X (.Call (.Attribute o m apos) (e :: es) [] pos) (tMetS C m sp E ta t) := by
  refine ⟨fun pins s σ H Q I h => ?_⟩
  refine PySem.W.methodCall_KW (pl := pl) (thn (he.run pins s σ H _ I h) fun u s1 hu => ?_) ht
  obtain ⟨xv, H1, I1, rx, a, dx, fs, ex, ea, l, q⟩ := hu
  subst ex
  obtain rfl : u = Value.ref a := rx
  refine getmeth_ok I1 ea c hm l ?_
  refine PySem.W.callWith_K (first := [.ref a]) (h₀ := X.base) I.ok.mod.kin hm.kp (thn (ha.run pos pins s1 σ H1 _ I1 q) fun us s2 hu => ?_) hst.1 hst.2
  obtain ⟨vs, H2, I2, r, q2⟩ := hu
  exact ⟨I2.kIn, run_fnS (us := .ref a :: us) (vs := .ref a :: vs) F hr hb (hx σ) I2 (.cons rfl r) q2⟩
theorem pe_methS0 (he : PE X o ta) (c : Cls X.K C) (hm : Meth X.K C m f) (F : FnOk X.prog X.w X.K X.mg X.base CX k f fd ps sp) (hr : Room k X.A) (hb : Binds X.K fd ps []) (hx : ∀ σ, PassesAt CX X σ (E σ))
    (ht : MCall X o m apos pos [] pl := by rfl) :
    PE X (.Call (.Attribute o m apos) [] [] pos) (tMetS C m sp E ta tNil) := by
  refine ⟨fun pins s σ H Q I h => ?_⟩
  refine PySem.W.methodCall_KW (pl := pl) (thn (he.run pins s σ H _ I h) fun u s1 hu => ?_) ht
  obtain ⟨xv, H1, I1, rx, a, dx, fs, ex, ea, l, q⟩ := hu
  subst ex
  obtain rfl : u = Value.ref a := rx
  refine getmeth_ok I1 ea c hm l ?_
  exact PySem.W.callWith_K0 (first := [.ref a]) I1.kIn hm.kp (run_fnS (us := [.ref a]) (vs := [.ref a]) F hr hb (hx σ) I1 (.cons rfl .nil) q)
def tMakeS (C : Addr) (sp : Sp) (E : L2.St → XK) (t : TA) : TE := fun σ H Q => t σ H fun vs H1 => ∀ x dx, H1 x = none → H1 dx = none → dx ≠ x → sp (.ref x :: vs) (upd (upd H1 dx (.own x)) x (.ins C dx [])) (fun v H2 => v = .non ∧ Q (.ref x) H2) (E σ)
theorem run_makeS {pins : List (Addr × Obj)} {σ : L2.St} {H : Hp} {s : Shared} {Q : VK} {us : List Value} {vs : List V} (M : Mk X.K C f) (F : FnOk X.prog X.w X.K X.mg X.base CX k f fd ps sp) (hr : Room (k + 1) X.A) (hb : Binds X.K fd ps [])
    (hx : PassesAt CX X σ (E σ)) (I : Inv X pins σ H s) (r : Vals vs us)
    (h : ∀ x dx, H x = none → H dx = none → dx ≠ x → sp (.ref x :: vs) (upd (upd H dx (.own x)) x (.ins C dx [])) (fun v H2 => v = .non ∧ Q (.ref x) H2) (E σ)) :
    wpAny (model X.prog X.w) X.A (call (.ref C) us) (EP X pins σ Q) X.xe s := by
  have hq := h _ _ (I.hok.fresh (Nat.le_succ s.heap.objs.size)) (I.hok.fresh (Nat.le_refl s.heap.objs.size)) (Nat.ne_of_lt (Nat.lt_succ_self s.heap.objs.size))
  have J := Inv.made (C := C) I
  have rr : Vals (V.ref (s.heap.objs.size + 1) :: vs) (Value.ref (s.heap.objs.size + 1) :: us) := .cons rfl r
  have hl : ((Value.ref (s.heap.objs.size + 1) :: us) ++ []).length = ps.length := by
    rw [List.append_nil, ← rr.length]
    exact F.len _ _ _ _ hq
  have rb := hb _ (Value.ref (s.heap.objs.size + 1) :: us) J.kIn hl
  rw [List.append_nil] at rb
  refine wpAny_call (make_map (f := f) I.kIn M.makes M.init (beq_iff_eq.mp M.fn) (codeAny_mono (F.run _ X.stack _ _ ⟨Value.ref (s.heap.objs.size + 1) :: us, []⟩ (Value.ref (s.heap.objs.size + 1) :: us) _ _ (E σ) (hr.make C us [])
    (J.env0.make C us []) rb rr hq) fun r s' hq' => ?_))
  cases r with
  | error e => exact hx pins _ _ e s' J hq'
  | ok fl =>
    cases fl with
    | ret u =>
      obtain ⟨v, H', J', rv, ev, q3⟩ := J.after hq'
      subst ev
      exact ⟨rv, V.ref (s.heap.objs.size + 1), H', J', rfl, q3⟩
    | next => exact False.elim hq'
    | brk => exact False.elim hq'
    | cont => exact False.elim hq'
theorem pe_makeS (M : Mk X.K C f) (F : FnOk X.prog X.w X.K X.mg X.base CX k f fd ps sp) (hr : Room (k + 1) X.A) (hg : Gl X x) (hm : X.mg x = some (.ref C)) (hb : Binds X.K fd ps []) (hx : ∀ σ, PassesAt CX X σ (E σ))
    (ha : PA X (e :: es) t) (hdb : (x == ("__debug__" : Str)) = false := by decide) (hst : PlainA X pos e es := by exact ⟨rfl, rfl⟩) :
    PE X (.Call (.Name x p) (e :: es) [] pos) (tMakeS C sp E t) := by
  refine ⟨fun pins s σ H Q I h => ?_⟩
  refine wpAny_Call_Name_kw (ld_glob I hg hm ?_ hdb)
  refine PySem.W.callWith_K (h₀ := X.base) I.ok.mod.kin M.kp (thn (ha.run pos pins s σ H _ I h) fun us s1 hu => ?_) hst.1 hst.2
  obtain ⟨vs, H1, I1, r, q⟩ := hu
  exact ⟨I1.kIn, run_makeS M F hr hb (hx σ) I1 r q⟩
/-! ### a op b by the class's own method -/
structure OwnOp (K : PySem.W.Frag) (C : Addr) (op : Operator) (f : Addr) : Prop where
  at_ : PySem.W.findIn K (.ref C) (PySem.dunder op.info.2) = some (some (.ref f))
  fn : PySem.W.isFn K (.ref f) = true
  sf : PySem.W.selfFirst K C = true
def tOpS (C : Addr) (sp : Sp) (E : L2.St → XK) (ta tb : TE) : TE := fun σ H Q => ta σ H fun x H1 => tb σ H1 fun y H2 => ∃ a b dx dy fs gs, x = .ref a ∧ y = .ref b ∧ H2 a = some (.ins C dx fs) ∧ H2 b = some (.ins C dy gs) ∧ sp [x, y] H2 Q (E σ)
theorem pe_opS {op : Operator} (he : PE X o ta) (he' : PE X e tb) (W : OwnOp X.K C op f) (F : FnOk X.prog X.w X.K X.mg X.base CX k f fd ps sp) (hr : Room k X.A) (hb : Binds X.K fd ps []) (hx : ∀ σ, PassesAt CX X σ (E σ)) :
    PE X (.BinOp o op e pos) (tOpS C sp E ta tb) := by
  refine ⟨fun pins s σ H Q I h => ?_⟩
  refine wpAny_BinOp (thn (he.run pins s σ H _ I h) fun u s1 hu => ?_)
  obtain ⟨x, H1, I1, rx, q1⟩ := hu
  refine thn (he'.run pins s1 σ H1 _ I1 q1) fun u2 s2 hu => ?_
  obtain ⟨y, H2, I2, ry, a, b, dx, dy, fs, gs, rfl, rfl, ea, eb, q⟩ := hu
  obtain rfl : u = Value.ref a := rx
  obtain rfl : u2 = Value.ref b := ry
  obtain ⟨mA, O, _, _, _, _⟩ := ins_get I2.hok ea
  obtain ⟨od, J, _⟩ := O.look
  obtain ⟨mB, O', _, _, _, _⟩ := ins_get I2.hok eb
  obtain ⟨od', J', _⟩ := O'.look
  obtain ⟨m, Fm⟩ := I2.fr
  refine PySem.W.binop_K Fm I2.mod.kin J J'.type W.sf W.at_ W.fn (wpAny_mono (run_fnS (us := [.ref a, .ref b]) (vs := [.ref a, .ref b]) F hr hb (hx σ) I2 (.cons rfl (.cons rfl .nil)) q) (fun v s' hv => ?_) fun _ _ z => z)
  obtain ⟨v', H3, I3, rv, q3⟩ := hv
  have r0 := rv
  cases v' <;> first | (cases rv; exact ⟨_, H3, I3, r0, q3⟩) | (obtain ⟨t, rfl⟩ := rv; exact ⟨_, H3, I3, r0, q3⟩)
end
/-! ### classes of errors; isinstance, except -/
structure ExcOk (K : PySem.W.Frag) (C : Addr) : Prop extends ExcC K C where
  q : PySem.W.excIn K C [.type "ValueError", .type "Exception", .type "BaseException", .type "object"] "ValueError.__new__" = true
  kp : PySem.W.keepIn K (.ref C) = true
  ty : PySem.W.typeIn K (.ref C) = some (.type "type")
  sf : PySem.W.selfFirst K C = true
  ve : PySem.W.subIn K (.ref C) (.type "ValueError") = some true
theorem ExcOk.cls {K : PySem.W.Frag} {C : Addr} (x : ExcOk K C) : (PySem.W.clsIn K C).isSome = true := by
  obtain ⟨cd, h, _⟩ := PySem.W.any_some x.sf
  rw [h]
  rfl
theorem kitCls_own {K : PySem.W.Frag} {C : Addr} {t : Value} {b : Bool} (x : ExcOk K C) (h : PySem.W.subIn K t (.ref C) = some b) : PySem.W.kitCls K t (.ref C) = some b := by
  show (if ((PySem.W.clsIn K C).isSome && PySem.W.typeIn K (.ref C) == some (.type "type")) = true then PySem.W.subIn K t (.ref C) else none) = some b
  rw [if_pos (by rw [x.cls, x.ty]; rfl)]
  exact h
theorem exm_own {K : PySem.W.Frag} {C : Addr} {t : Value} {b : Bool} (x : ExcOk K C) (h : PySem.W.subIn K t (.ref C) = some b) : PySem.W.exmOne K t (.ref C) = some b := by
  unfold PySem.W.exmOne
  rw [if_pos (by rw [x.hs]; rfl)]
  exact kitCls_own x h
theorem sub_self {K : PySem.W.Frag} {C : Addr} {b : Bool} (h1 : PySem.W.selfFirst K C = true) (h : PySem.W.subIn K (.ref C) (.ref C) = some b) : b = true := by
  obtain ⟨cd, hc, hm⟩ := PySem.W.any_some h1
  have h' : PySem.W.mroIn K C (.ref C) = some b := h
  unfold PySem.W.mroIn at h'
  rw [hc] at h'
  cases q : cd.mro with
  | nil => rw [q] at hm; cases hm
  | cons a r =>
    rw [q, List.head?_cons] at hm
    cases (beq_iff_eq.mp hm)
    have : (if cd.mro.isEmpty = true then none else some (cd.mro.contains (Value.ref C))) = some b := h'
    rw [q] at this
    simp at this
    exact this
theorem kit_own {K : PySem.W.Frag} {C : Addr} {t : Value} {b : Bool} (x : ExcOk K C) (h : PySem.W.subIn K t (.ref C) = some b) : PySem.W.kitOne K t (.ref C) = some b := by
  unfold PySem.W.kitOne
  by_cases e : (t == Value.ref C) = true
  · rw [if_pos e]
    cases eq_of_beq e
    rw [sub_self x.sf h]
  · rw [if_neg e]
    exact kitCls_own x h
theorem kit_val {K : PySem.W.Frag} {D : Addr} (x : ExcOk K D) : PySem.W.kitOne K (.ref D) (.type "ValueError") = some true := by
  unfold PySem.W.kitOne
  rw [if_neg (by simp)]
  show (if PySem.W.kitMeta "ValueError" = true then PySem.W.subIn K (.ref D) (.type "ValueError") else none) = some true
  rw [if_pos (by decide +kernel)]
  exact x.ve
/-- raise X('m') -/
theorem pmk_x {X : Cx} {C : Addr} {x m : Str} {j : Nat} {p p2 pos : Pos} (h : ExcOk X.K C) (gC : X.mg x = some (.ref C)) (hg : Gl X x) (hdb : (x == ("__debug__" : Str)) = false := by decide) :
    PMk X (.Call (.Name x p) [.Constant (.str m) j p2] [] pos) (fun _ H Q => Q (.ref C) none H) := pmk_own PySem.F.excBase_ValueError h.q gC h.kp (raises_own h.hs h.ty) hg hdb
theorem go_isE {K : PySem.W.Frag} {H : Hp} {D a : Addr} {c : V} {cv : Value} {b : Bool} {Q : VK} (hc : ∀ u, RelV c u → u = cv) (hk : PySem.W.kitOne K (.ref D) cv = some b) (q : Q (.bl b) H) : rIsE K D a [.ref a, c] H Q := ⟨c, cv, b, rfl, hc, hk, q⟩
/-- what isinstance asks of the instances of a class -/
structure DcOk (K : PySem.W.Frag) (C : Addr) : Prop where
  ha : PySem.W.findIn K (.ref C) "__class__" = some (some (.builtin "object.__class__"))
  hn : PySem.W.specialIn K (.builtin "object.__class__") "__get__" = some (some (.builtin "getset_descriptor.__get__"))
  ht : PySem.W.takesIn K (.builtin "object.__class__") = some true
  hm : PySem.W.mroIn K C (.type "object") = some true
theorem go_isOwn {K : PySem.W.Frag} {G0 H0 G H : Hp} {D : List Addr} {M : List (Addr × HO)} {Q : VK} {x : V} {C : Addr} {fds : List (Str × Dt)} (hS : Sta K G0 H0 D G M H) (hx : Rp K G x (.ins C fds)) (cl : Cls K C) (dc : DcOk K C) (k : Q (.bl true) H) : rIsi K [x, .ref C] H Q := by
  obtain ⟨a, dx, fs, rfl, hs, _⟩ := Rp.ins_inv hx
  exact ⟨.ref a, .ref C, .ref C, .ref C, true, rfl, .own C, .base (.ins (hS.gh _ _ hs) cl dc.ha dc.hn dc.ht dc.hm), by unfold PySem.W.kitOne; rw [if_pos (by simp)], k⟩
theorem pass0S {X : Cx} {E : XK} (σ : L2.St) : PassesAt CX0 X σ E := fun _ _ _ _ _ _ h => h.elim
/-- a suite's reading that wants something of the error -/
theorem pss_when {X : Cx} {sts : List Stmt} {P : Prop} {t : TS} (h : P → PSs X sts t) : PSs X sts (fun D σ H => P ∧ t D σ H) := ⟨fun pins s σ H D I q => (h q.1).run pins s σ H D I q.2⟩
/-! ### tuples: loops, comprehensions -/
section
variable {K : PySem.W.Frag} {G0 H0 G H : Hp} {D : List Addr} {M : List (Addr × HO)} {σ σ' : L2.St} {Q : VK} {tt : TT} {ta te : TE} {ds fs : List Dt} {vss : List Nat} {nx bk ct : L2.St → Hp → Prop} {rt : VK} {t : TS} {x y : V} {d : Dt}
def TKT (K : PySem.W.Frag) (k : It → Hp → Prop) (x : V) (H : Hp) : Prop := ∃ a, x = .ref a ∧ (∃ xs, SqT K H a xs) ∧ k (Itt K a) H
theorem go_iTup {k : It → Hp → Prop} (h : ta σ H fun x H1 => TKT K k x H1) : iTup K ta σ H k := h
theorem go_itt {k : It → Hp → Prop} (hx : Rp K G x (.tup ds)) (e : Same G H) (h : ∀ a xs, x = .ref a → SqT K G a xs → RpAll K G xs ds → k (Itt K a) H) : TKT K k x H := by
  obtain ⟨a, xs, rfl, hs, ha⟩ := Rp.tup_inv hx
  exact ⟨a, rfl, ⟨xs, Same.t e hs⟩, h a xs rfl hs ha⟩
theorem forT {a : Addr} {xs : List V} {g : TG} (hS : Sta K G0 H0 D G M H) (hq : SqT K G a xs) (hr : RpAll K G xs ds) (W : Nat → L2.St → Hp → List (Addr × HO) → Prop) (h0 : W 0 σ G M)
    (hs : ∀ i x d σ' G1 M1 H1, i < ds.length → ds[i]? = some d → Same G G1 → Sta K G0 H0 D G1 M1 H1 → Rp K G1 x d → W i σ' G1 M1 → g x σ' H1 fun σ2 H3 => t ⟨Nx K G0 H0 D G (W (i + 1)), rt, nx, Nx K G0 H0 D G (W (i + 1))⟩ σ2 H3)
    (hd : ∀ σ' G1 M1 H1, Same G G1 → Sta K G0 H0 D G1 M1 H1 → W ds.length σ' G1 M1 → nx σ' H1) : ForG (Itt K a) g t ⟨nx, rt, bk, ct⟩ σ H :=
  forI (walk_tup (xs := xs)) hS (fun H1 e => Same.t e hq) W h0 (fun i x σ' G1 M1 H1 H2 hi e s w y => by
    obtain ⟨rfl, hx⟩ := y
    obtain ⟨d, hd, r⟩ := hr.getV hx
    exact hs i x d σ' G1 M1 H2 (by rw [← hr.length]; exact hi) hd e s (r.up e) w) (by rw [hr.length]; exact hd)
theorem lcT {a : Addr} {xs : List V} {g : TG} (hS : Sta K G0 H0 D G M H) (hq : SqT K G a xs) (hr : RpAll K G xs ds) (W : Nat → List (Addr × HO) → List Dt → Prop) (h0 : W 0 M [])
    (hs : ∀ i x d L G1 M1 vs es H1, i < ds.length → ds[i]? = some d → Rp K G1 x d → Same G G1 → H0 L = none → Sta K G0 H0 D G1 ((L, .lst vs) :: M1) H1 → RpAll K G1 vs es → W i M1 es → g x (wipe σ vss) H1 fun σ2 H3 => wipe σ2 vss = wipe σ vss ∧ tt σ2 H3 fun b H4 =>
      if b = true then te σ2 H4 (LcY K G0 H0 D G L (W (i + 1))) else LcP K G0 H0 D G L (W (i + 1)) H4)
    (hd : ∀ p G1 M1 es H1, Same G G1 → Sta K G0 H0 D G1 M1 H1 → Rp K G1 (.ref p) (.lst es) → W ds.length M1 es → Q (.ref p) H1) : LcG (Itt K a) g tt te vss σ Q H :=
  lcI (walk_tup (xs := xs)) hS (fun H1 e => Same.t e hq) W h0 (fun i x L G1 M1 vs es H1 H2 hi e l0 s r w y => by
    obtain ⟨rfl, hx⟩ := y
    obtain ⟨d, hd', rd⟩ := hr.getV hx
    exact hs i x d L G1 M1 vs es H2 (by rw [← hr.length]; exact hi) hd' (rd.up e) e l0 s r w) (by rw [hr.length]; exact hd)
/-- a comprehension that maps what stands in a list or tuple, each by itself; nothing that may change is touched -/
theorem lcMapL {α : Type} {a : Addr} {xs : List V} {g : TG} {as : List α} {Da : α → Dt} {F : α → Dt} (hS : Sta K G0 H0 D G M H) (hq : SqL K G a xs) (hr : RpAll K G xs (as.map Da)) (hl : as.length ≤ 100000)
    (hs : ∀ x c L G1 vs es H1 (Z : List (Addr × HO) → List Dt → Prop), c ∈ as → Rp K G1 x (Da c) → Same G G1 → H0 L = none → Sta K G0 H0 D G1 ((L, .lst vs) :: M) H1 → RpAll K G1 vs es → (∀ y G2 H2, Same G1 G2 → Sta K G0 H0 D G2 ((L, .lst vs) :: M) H2 → Rp K G2 y (F c) → LcY K G0 H0 D G L Z y H2) →
      g x (wipe σ vss) H1 fun σ2 H3 => wipe σ2 vss = wipe σ vss ∧ tt σ2 H3 fun b H4 => if b = true then te σ2 H4 (LcY K G0 H0 D G L Z) else LcP K G0 H0 D G L Z H4)
    (hd : ∀ p G1 H1, Same G G1 → Sta K G0 H0 D G1 M H1 → Rp K G1 (.ref p) (.lst (as.map F)) → Q (.ref p) H1) : LcG (Itl K a) g tt te vss σ Q H := by
  refine lcL hS hq hr (fun i M1 es => M1 = M ∧ es = (as.take i).map F) ⟨rfl, rfl⟩ (fun i x d L G1 M1 vs es H1 hi hd' hx e l0 s r w => ?_) (fun p G1 M1 es H1 e s r w => ?_)
  · obtain ⟨rfl, rfl⟩ := w
    rw [List.length_map] at hi
    rw [List.getElem?_map, List.getElem?_eq_getElem hi] at hd'
    cases hd'
    refine hs x as[i] L G1 vs _ H1 _ (List.getElem_mem hi) hx e l0 s r fun y G2 H2 e2 s2 hy => ?_
    refine lcY s2 (e.trans e2) (r.up e2) hy (by simp; omega) ⟨rfl, ?_⟩
    rw [List.take_add_one, List.getElem?_eq_getElem hi, List.map_append]
    rfl
  · obtain ⟨rfl, rfl⟩ := w
    rw [List.length_map, List.take_length] at r
    exact hd p G1 H1 e s r
theorem lcMapT {α : Type} {a : Addr} {xs : List V} {g : TG} {as : List α} {Da : α → Dt} {F : α → Dt} (hS : Sta K G0 H0 D G M H) (hq : SqT K G a xs) (hr : RpAll K G xs (as.map Da)) (hl : as.length ≤ 100000)
    (hs : ∀ x c L G1 vs es H1 (Z : List (Addr × HO) → List Dt → Prop), c ∈ as → Rp K G1 x (Da c) → Same G G1 → H0 L = none → Sta K G0 H0 D G1 ((L, .lst vs) :: M) H1 → RpAll K G1 vs es → (∀ y G2 H2, Same G1 G2 → Sta K G0 H0 D G2 ((L, .lst vs) :: M) H2 → Rp K G2 y (F c) → LcY K G0 H0 D G L Z y H2) →
      g x (wipe σ vss) H1 fun σ2 H3 => wipe σ2 vss = wipe σ vss ∧ tt σ2 H3 fun b H4 => if b = true then te σ2 H4 (LcY K G0 H0 D G L Z) else LcP K G0 H0 D G L Z H4)
    (hd : ∀ p G1 H1, Same G G1 → Sta K G0 H0 D G1 M H1 → Rp K G1 (.ref p) (.lst (as.map F)) → Q (.ref p) H1) : LcG (Itt K a) g tt te vss σ Q H := by
  refine lcT hS hq hr (fun i M1 es => M1 = M ∧ es = (as.take i).map F) ⟨rfl, rfl⟩ (fun i x d L G1 M1 vs es H1 hi hd' hx e l0 s r w => ?_) (fun p G1 M1 es H1 e s r w => ?_)
  · obtain ⟨rfl, rfl⟩ := w
    rw [List.length_map] at hi
    rw [List.getElem?_map, List.getElem?_eq_getElem hi] at hd'
    cases hd'
    refine hs x as[i] L G1 vs _ H1 _ (List.getElem_mem hi) hx e l0 s r fun y G2 H2 e2 s2 hy => ?_
    refine lcY s2 (e.trans e2) (r.up e2) hy (by simp; omega) ⟨rfl, ?_⟩
    rw [List.take_add_one, List.getElem?_eq_getElem hi, List.map_append]
    rfl
  · obtain ⟨rfl, rfl⟩ := w
    rw [List.length_map, List.take_length] at r
    exact hd p G1 H1 e s r
/-- .. over a range -/
theorem lcMapR {lo : Int} {n : Nat} {g : TG} {F : Nat → Dt} (hS : Sta K G0 H0 D G M H) (hl : n ≤ 100000)
    (hs : ∀ (i : Nat) L G1 vs es H1 (Z : List (Addr × HO) → List Dt → Prop), i < n → Same G G1 → H0 L = none → Sta K G0 H0 D G1 ((L, .lst vs) :: M) H1 → RpAll K G1 vs es → (∀ y G2 H2, Same G1 G2 → Sta K G0 H0 D G2 ((L, .lst vs) :: M) H2 → Rp K G2 y (F i) → LcY K G0 H0 D G L Z y H2) →
      g (.int (lo + i)) (wipe σ vss) H1 fun σ2 H3 => wipe σ2 vss = wipe σ vss ∧ tt σ2 H3 fun b H4 => if b = true then te σ2 H4 (LcY K G0 H0 D G L Z) else LcP K G0 H0 D G L Z H4)
    (hd : ∀ p G1 H1, Same G G1 → Sta K G0 H0 D G1 M H1 → Rp K G1 (.ref p) (.lst ((List.range n).map F)) → Q (.ref p) H1) : LcG (Itr lo n) g tt te vss σ Q H := by
  refine lcR hS (fun i M1 es => M1 = M ∧ es = (List.range i).map F) ⟨rfl, rfl⟩ (fun i L G1 M1 vs es H1 hi e l0 s r w => ?_) (fun p G1 M1 es H1 e s r w => ?_)
  · obtain ⟨rfl, rfl⟩ := w
    refine hs i L G1 vs _ H1 _ hi e l0 s r fun y G2 H2 e2 s2 hy => ?_
    refine lcY s2 (e.trans e2) (r.up e2) hy (by simp; omega) ⟨rfl, ?_⟩
    rw [List.range_succ, List.map_append]
    rfl
  · obtain ⟨rfl, rfl⟩ := w
    exact hd p G1 H1 e s r
end
/-! ### instances: made, their fields set -/
def MKS (C : Addr) (sp : Sp) (E : XK) (Q : VK) (vs : List V) (H : Hp) : Prop := ∀ x dx, H x = none → H dx = none → dx ≠ x → sp (.ref x :: vs) (upd (upd H dx (.own x)) x (.ins C dx [])) (fun v H2 => v = .non ∧ Q (.ref x) H2) E
def SFK (K : PySem.W.Frag) (f : Str) (y : V) (k : Hp → Prop) (x : V) (H : Hp) : Prop := ∃ a C dx fs, x = .ref a ∧ H a = some (.ins C dx fs) ∧ Cls K C ∧ NoAttr K C f ∧ fs.length < 1000 ∧ k (upd H a (.ins C dx (putF f y fs)))
section
variable {K : PySem.W.Frag} {G0 H0 G H : Hp} {D : List Addr} {M M' : List (Addr × HO)} {σ : L2.St} {Q : VK} {ta tb te : TE} {t : TA} {nx bk ct : L2.St → Hp → Prop} {rt : VK} {C : Addr} {sp : Sp} {E : L2.St → XK} {vs : List V}
theorem go_makeS (h : t σ H fun vs H1 => MKS C sp (E σ) Q vs H1) : tMakeS C sp E t σ H Q := h
theorem go_mks {E : XK} (hS : Sta K G0 H0 D G M H) (h : ∀ x dx G1 H1, Same G G1 → H0 x = none → Sta K G0 H0 D G1 ((x, .ins C dx []) :: M) H1 → sp (.ref x :: vs) H1 (fun v H2 => v = .non ∧ Q (.ref x) H2) E) : MKS C sp E Q vs H := by
  intro x dx hx hdx hne
  have s1 := hS.imm hdx (.own x)
  have hx1 : upd H dx (.own x) x = none := by rw [upd_ne (Ne.symm hne)]; exact hx
  exact h x dx _ _ (same_upd (hS.gn hdx)) (hS.h0 hx) (s1.mut hx1 _)
theorem go_callS {k : L2.St → XK} (h : t σ H fun vs H1 => sp vs H1 Q (k σ)) : tCallS sp k t σ H Q := h
end
/-! ### more steps of instances -/
def PRK (C : Addr) (sp : Sp) (dvs : List V) (E : XK) (Q : VK) (x : V) (H : Hp) : Prop := ∃ a dx fs, x = .ref a ∧ H a = some (.ins C dx fs) ∧ sp (.ref a :: dvs) H Q E
def MTK (C : Addr) (m : Str) (k : Hp → Prop) (x : V) (H : Hp) : Prop := ∃ a dx fs, x = .ref a ∧ H a = some (.ins C dx fs) ∧ fs.lookup m = none ∧ k H
def OPK (C : Addr) (sp : Sp) (E : XK) (Q : VK) (x y : V) (H : Hp) : Prop := ∃ a b dx dy fs gs, x = .ref a ∧ y = .ref b ∧ H a = some (.ins C dx fs) ∧ H b = some (.ins C dy gs) ∧ sp [x, y] H Q E
def STK (C : Addr) (k : Hp → Prop) (x : V) (H : Hp) : Prop := x = .ref C ∧ k H
theorem look_none {K : PySem.W.Frag} {G : Hp} {f : Str} : ∀ {fs : List (Str × V)} {ds : List (Str × Dt)}, RpF K G fs ds → ds.lookup f = none → fs.lookup f = none
  | _, [], h, _ => by cases h; rfl
  | _, (g, d) :: ds, h, e => by
    cases h with
    | cons h1 h2 =>
      rw [List.lookup_cons] at e ⊢
      cases hb : f == g with
      | true => rw [hb] at e; cases e
      | false =>
        rw [hb] at e
        exact look_none h2 e
section
variable {K : PySem.W.Frag} {G0 H0 G H : Hp} {D : List Addr} {M M' : List (Addr × HO)} {σ : L2.St} {Q : VK} {ta tb te tv : TE} {t : TA} {nx bk ct : L2.St → Hp → Prop} {rt : VK} {C a dx : Addr} {sp : Sp} {vs dvs : List V} {E : XK} {k : L2.St → XK} {f m : Str} {x y : V} {fs : List (Str × V)} {fds gds : List (Str × Dt)} {i : Nat} {kk : Hp → Prop}
theorem go_sFld (h : tv σ H fun y H1 => ta σ H1 fun x H2 => SFK K f y (fun H3 => nx σ H3) x H2) : sFld K ta tv f ⟨nx, rt, bk, ct⟩ σ H := h
theorem go_sfk (hS : Sta K G0 H0 D G M H) (hi : M[i]? = some (a, .ins C dx fs)) (cl : Cls K C) (na : NoAttr K C f) (hl : fs.length < 1000) (hM : M.set i (a, .ins C dx (putF f y fs)) = M') (h : ∀ H1, Sta K G0 H0 D G M' H1 → kk H1) : SFK K f y kk (.ref a) H := by
  subst hM
  exact ⟨a, C, dx, fs, rfl, hS.get hi, cl, na, hl, h _ (hS.set hi _)⟩
theorem go_prop (h : ta σ H fun x H1 => PRK C sp dvs E Q x H1) : tProp C sp dvs E ta σ H Q := h
theorem go_prk (hx : Rp K G x (.ins C fds)) (e : Same G H) (h : ∀ a, x = .ref a → sp (.ref a :: dvs) H Q E) : PRK C sp dvs E Q x H := by
  obtain ⟨a, dx, fs, rfl, hs, _⟩ := Rp.ins_inv hx
  exact ⟨a, dx, fs, rfl, e _ _ hs, h a rfl⟩
theorem go_metS (h : ta σ H fun x H1 => MTK C m (fun H2 => t σ H2 fun vs H3 => sp (x :: vs) H3 Q (k σ)) x H1) : tMetS C m sp k ta t σ H Q := h
theorem go_mtk (hx : Rp K G x (.ins C fds)) (e : Same G H) (hm : fds.lookup m = none) (h : kk H) : MTK C m kk x H := by
  obtain ⟨a, dx, fs, rfl, hs, hf⟩ := Rp.ins_inv hx
  exact ⟨a, dx, fs, rfl, e _ _ hs, look_none hf hm, h⟩
theorem go_opS (h : ta σ H fun x H1 => tb σ H1 fun y H2 => OPK C sp (k σ) Q x y H2) : tOpS C sp k ta tb σ H Q := h
theorem go_opk (hx : Rp K G x (.ins C fds)) (hy : Rp K G y (.ins C gds)) (e : Same G H) (h : sp [x, y] H Q E) : OPK C sp E Q x y H := by
  obtain ⟨a, dx, fs, rfl, hs, _⟩ := Rp.ins_inv hx
  obtain ⟨b, dy, gs, rfl, hs', _⟩ := Rp.ins_inv hy
  exact ⟨a, b, dx, dy, fs, gs, rfl, rfl, e _ _ hs, e _ _ hs', h⟩
theorem go_stat (h : ta σ H fun x H1 => STK C (fun H2 => t σ H2 fun vs H3 => sp vs H3 Q (k σ)) x H1) : tStat C sp k ta t σ H Q := h
theorem go_stk (h : kk H) : STK C kk (.ref C) H := ⟨rfl, h⟩
end
theorem putF2 {f g : Str} {v u : V} : (putF f v (putF g u [])).length < 1000 := by
  have h1 := length_putF f v (putF g u [])
  have h2 := length_putF g u []
  simp at h2
  omega
/-! ### a call that fails: what it made is forgotten -/
theorem Sta.callX {K : PySem.W.Frag} {G0 H0 G H G1 H1 : Hp} {D : List Addr} {M : List (Addr × HO)} {x : Addr} (h : Sta K G0 H0 D G M H) (a : Adv [x] G H G1 H1) (hx : H0 x = none) (hm : ∀ q ∈ M, q.1 ≠ x) : Sta K G0 H0 D G1 M H1 where
  g0 := h.g0.trans a.gg
  gh := a.gh
  fr := fun b hb => by rw [a.fr b (h.up b hb)]; exact h.fr b hb
  kp := fun b u hb hd => a.kp b u (h.kp b u hb hd) (fun z => by
    have : b = x := by simpa using z
    subst this
    rw [hx] at hb
    cases hb)
  up := fun b hb => a.up b (h.up b hb)
  md := h.md
  mh := fun q hq => by
    obtain ⟨e1, e2, e3⟩ := h.mh q hq
    exact ⟨a.kp _ _ e1 (by simpa using hm q hq), by rw [a.fr _ (by rw [e1]; exact fun z => nomatch z)]; exact e2, e3⟩
theorem Sta.apart {K : PySem.W.Frag} {G0 H0 G H : Hp} {D : List Addr} {M : List (Addr × HO)} {p : Addr} {o : HO} (h : Sta K G0 H0 D G ((p, o) :: M) H) : ∀ q ∈ M, q.1 ≠ p := fun q hq e => by
  have := h.md
  simp only [List.map_cons, List.nodup_cons] at this
  exact this.1 (List.mem_map.mpr ⟨q, hq, e⟩)
/-! ### zip of two tuples -/
theorem walk_zT {K : PySem.W.Frag} {a b : Addr} {xs ys : List V} : Walk (ItzT K a b) (min xs.length ys.length) (fun H => SqT K H a xs ∧ SqT K H b ys) (fun i H v H' => ∃ T x y, v = .ref T ∧ H T = none ∧ H' = upd H T (.tup [x, y]) ∧ xs[i]? = some x ∧ ys[i]? = some y) := by
  refine ⟨fun i H hi q => ?_, fun H q => ⟨xs, ys, q.1, q.2, by omega⟩, fun i H v H' hi q y => ?_⟩
  · have h1 : i < xs.length := by omega
    have h2 : i < ys.length := by omega
    exact ⟨xs, ys, _, _, q.1, q.2, List.getElem?_eq_getElem h1, List.getElem?_eq_getElem h2⟩
  · obtain ⟨T, x, y, rfl, hT, eH, hx, hy⟩ := y
    exact ⟨T, x, y, rfl, hT, eH, hx xs q.1, hy ys q.2⟩
section
variable {K : PySem.W.Frag} {G0 H0 G H : Hp} {D : List Addr} {M : List (Addr × HO)} {σ σ' : L2.St} {Q : VK} {tt : TT} {ta te : TE} {t : TA} {ds fs : List Dt} {vss : List Nat} {x y : V} {d : Dt}
def ZTK (K : PySem.W.Frag) (k : It → Hp → Prop) (vs : List V) (H : Hp) : Prop := ∃ a b xs ys, vs = [.ref a, .ref b] ∧ ((SqL K H a xs ∧ SqL K H b ys ∧ k (Itz K a b) H) ∨ (SqT K H a xs ∧ SqT K H b ys ∧ k (ItzT K a b) H))
theorem go_iZipA {k : It → Hp → Prop} (h : t σ H fun vs H1 => ZTK K k vs H1) : iZipA K t σ H k := h
theorem go_ztk {k : It → Hp → Prop} (hx : Rp K G x (.tup ds)) (hy : Rp K G y (.tup fs)) (e : Same G H) (h : ∀ a b xs ys, x = .ref a → y = .ref b → SqT K G a xs → RpAll K G xs ds → SqT K G b ys → RpAll K G ys fs → k (ItzT K a b) H) : ZTK K k [x, y] H := by
  obtain ⟨a, xs, rfl, hs, ha⟩ := Rp.tup_inv hx
  obtain ⟨b, ys, rfl, hs', ha'⟩ := Rp.tup_inv hy
  exact ⟨a, b, xs, ys, rfl, .inr ⟨Same.t e hs, Same.t e hs', h a b xs ys rfl rfl hs ha hs' ha'⟩⟩
/-- a comprehension over zip of two tuples of one length, each pair by itself -/
theorem lcMapZ {α β : Type} {a b : Addr} {xs ys : List V} {as : List α} {bs : List β} {Da : α → Dt} {Db : β → Dt} {F : α → β → Dt} {i1 j1 : Nat} (hS : Sta K G0 H0 D G M H) (hq : SqT K G a xs) (hr : RpAll K G xs (as.map Da)) (hq' : SqT K G b ys) (hr' : RpAll K G ys (bs.map Db)) (hab : as.length = bs.length) (hl : as.length ≤ 100000)
    (hs : ∀ x y c e L G1 vs es H1 (Z : List (Addr × HO) → List Dt → Prop), c ∈ as → e ∈ bs → Rp K G1 x (Da c) → Rp K G1 y (Db e) → Same G G1 → H0 L = none → Sta K G0 H0 D G1 ((L, .lst vs) :: M) H1 → RpAll K G1 vs es → (∀ y G2 H2, Same G1 G2 → Sta K G0 H0 D G2 ((L, .lst vs) :: M) H2 → Rp K G2 y (F c e) → LcY K G0 H0 D G L Z y H2) →
      ∀ σ2, List.set (List.set (wipe σ vss) i1 (some x)) j1 (some y) = σ2 → wipe σ2 vss = wipe σ vss ∧ tt σ2 H1 fun b H4 => if b = true then te σ2 H4 (LcY K G0 H0 D G L Z) else LcP K G0 H0 D G L Z H4)
    (hd : ∀ p G1 H1, Same G G1 → Sta K G0 H0 D G1 M H1 → Rp K G1 (.ref p) (.lst (List.zipWith F as bs)) → Q (.ref p) H1) : LcG (ItzT K a b) (gTup K 2 (gCons (gName i1) (gCons (gName j1) gNil))) tt te vss σ Q H := by
  have hxl := hr.length
  have hyl := hr'.length
  rw [List.length_map] at hxl hyl
  refine lcI (walk_zT (xs := xs) (ys := ys)) hS (fun H1 e => ⟨Same.t e hq, Same.t e hq'⟩) (fun i M1 es => M1 = M ∧ es = (List.zipWith F as bs).take i) ⟨rfl, rfl⟩ (fun i v L G1 M1 vs es H1 H2 hi e l0 s r w yy => ?_) (fun p G1 M1 es H1 e s r w => ?_)
  · obtain ⟨rfl, rfl⟩ := w
    obtain ⟨T, u, z, rfl, hT, eH, h1, h2⟩ := yy
    have ha : i < as.length := by omega
    have hb : i < bs.length := by omega
    obtain ⟨d, hd', rd⟩ := hr.getV h1
    obtain ⟨f, hf', rf⟩ := hr'.getV h2
    rw [List.getElem?_map, List.getElem?_eq_getElem ha] at hd'
    rw [List.getElem?_map, List.getElem?_eq_getElem hb] at hf'
    cases hd'
    cases hf'
    obtain ⟨G2, e2, s2, q2⟩ := s.pair hT eH
    refine go_gpair q2 rfl (hs u z as[i] bs[i] L G2 vs _ H2 _ (List.getElem_mem ha) (List.getElem_mem hb) (rd.up (e.trans e2)) (rf.up (e.trans e2)) (e.trans e2) l0 s2 (r.up e2) (fun y G3 H3 e3 s3 hy => ?_) _ rfl)
    refine lcY s3 (e.trans (e2.trans e3)) ((r.up e2).up e3) hy (by simp; omega) ⟨rfl, ?_⟩
    have hz : i < (List.zipWith F as bs).length := by rw [List.length_zipWith]; omega
    rw [List.take_add_one, List.getElem?_eq_getElem hz]
    simp
  · obtain ⟨rfl, rfl⟩ := w
    rw [hxl, hyl, hab, Nat.min_self, List.take_of_length_le (by rw [List.length_zipWith]; omega)] at r
    exact hd p G1 H1 e s r
end
/-! ### != of tuples of ints -/
theorem okE_tints (as : List Int) (h : as.length ≤ 100000) : okE 2 (.tup (as.map .int)) = true := by
  simp [okE, h]
section
variable {K : PySem.W.Frag} {G H : Hp} {x y : V} {Q : VK}
theorem go_neTI {as bs : List Int} (hx : Rp K G x (.tup (as.map .int))) (hy : Rp K G y (.tup (bs.map .int))) (e : Same G H) (ha : as.length ≤ 100000) (hb : bs.length ≤ 100000) (k : Q (.bl (!decide (as = bs))) H) : rNeD K x y H Q := by
  refine ⟨_, _, Rp.dp (okE_okD (okE_tints as ha)) (hx.up e), Rp.dp (okE_okD (okE_tints bs hb)) (hy.up e), shaped_toPy (okE_tints as ha) (by decide), shaped_toPy (okE_tints bs hb) (by decide), ?_⟩
  have : PyData.eqv (toPy (.tup (as.map .int))) (toPy (.tup (bs.map .int))) = decide (as = bs) := eqv_ints as bs
  rw [this]
  exact k
end
/-! ### t * n, any n from 0 -/
section
open PySem.AutoSeq1 (wpAny_loadPart')
theorem mul_one (l : Addr) (its : Array Value) (n : Nat) (dd : Option Addr) (sl : Array (Option Value)) (u : Tok) :
    Meets (Builtin.«tuple.__mul__» ⟨[.ref l, .int 1 u], []⟩) (fun _ R s => s.heap.get? l = some { cls := .type "tuple", dict := dd, data := .seq its n, slots := sl } ∧ R (.ok (.ret (.ref l))) s) := .of_wp fun prog w A R s h => by
  obtain ⟨hh, gg, d, tk, os⟩ := s
  obtain ⟨hl, q⟩ := h
  have ix := AutoSeq1.idx_int
  wp_walk using wpAny_loadPart' hl
  repeat (first
    | (refine wpAny_ite_false (by decide) ?_; wp_walk using wpAny_loadPart' hl)
    | (refine wpAny_ite_true (by simp) ?_; wp_walk using wpAny_loadPart' hl))
  exact ⟨_, rfl, q⟩
theorem mul_zero (l : Addr) (its : Array Value) (n : Nat) (dd : Option Addr) (sl : Array (Option Value)) (u : Tok) (he : its.isEmpty = false) :
    Meets (Builtin.«tuple.__mul__» ⟨[.ref l, .int 0 u], []⟩) (fun _ R s => s.heap.get? l = some { cls := .type "tuple", dict := dd, data := .seq its n, slots := sl } ∧ R (.ok (.ret (Value.ref s.heap.objs.size))) { s with heap := s.heap.push { cls := .type "tuple", data := .seq #[] } }) := .of_wp fun prog w A R s h => by
  obtain ⟨hh, gg, d, tk, os⟩ := s
  obtain ⟨hl, q⟩ := h
  have ix := AutoSeq1.idx_int
  wp_walk using wpAny_loadPart' hl
  exact ⟨_, rfl, q⟩
end
def rRepA (K : PySem.W.Frag) : R2 := fun x y H Q => ∃ (l : Addr) (k : Nat) (xs : List V), x = .ref l ∧ y = .int (k : Int) ∧ SqT K H l xs ∧ xs ≠ [] ∧ k ≤ 1000 ∧ xs.length ≤ 1000 ∧ (k = 1 → Q (.ref l) H) ∧ (k ≠ 1 → ∀ p, H p = none → Q (.ref p) (upd H p (.tup (List.replicate k xs).flatten)))
theorem op_repA {X : Cx} : OpR X (binaryOp .Mult) (rRepA X.K) := by
  intro pins s σ H x y v u Q I rx ry h
  obtain ⟨l, k, xs, rfl, rfl, hT, hne, h1, hz, q1, q2⟩ := h
  by_cases hk : 2 ≤ k
  · refine op_repT pins s σ H _ _ v u Q I rx ry ⟨l, k, xs, rfl, rfl, hT, hne, by omega, by omega, hz, fun p hp => ?_⟩
    rw [Int.toNat_natCast]
    exact q2 (by omega) p hp
  cases rx
  obtain ⟨t, rfl⟩ := ry
  obtain ⟨its, r, ⟨⟨cls, dd, data, sl⟩, ho, hc, n, hd⟩, hs⟩ := I.tuple hT
  simp only at hc hd
  subst hc hd
  have hlen := r.length
  have hn : its ≠ [] := fun e => hne (List.eq_nil_of_length_eq_zero (by rw [hlen, e]; rfl))
  have hi : its.toArray.isEmpty = false := by
    cases its with
    | nil => exact absurd rfl hn
    | cons a b => rfl
  have go : ∀ {W : Value → Shared → Prop}, wpAny (model X.prog X.w) X.A (call (.builtin "tuple.__mul__") [.ref l, .int (k : Int) t]) W X.xe s → wpAny (model X.prog X.w) X.A (binaryOp .Mult (.ref l) (.int (k : Int) t)) W X.xe s := fun {W} hw =>
    wpAny_binaryOp_repeat_ref (T := "tuple") (U := "int") (by decide) ⟨_, ho, rfl⟩ (fun s' => typeIs_int s' (k : Int) t) noFill_tuple_mul F.fills_int_mul F.slot_int_rmul repeat_tuple F.slot_int_index.lookup
      (call_meets F.slot_int_rmul (typeIs_int s (k : Int) t) F.entry_int_rmul (F.args_int_rmul_2 _ _) (int_rmul_tuple (k : Int) t l its.toArray n dd sl) ⟨ho, rfl, ⟨_, ho, rfl⟩, hw⟩)
  have e01 : k = 0 ∨ k = 1 := by omega
  rcases e01 with rfl | rfl
  · refine go (call_meets F.slot_tuple_mul ⟨_, ho, rfl⟩ F.entry_tuple_mul (F.args_tuple_mul_2 _ _) (mul_zero l its.toArray n dd sl t hi) ⟨ho, ?_⟩)
    exact ⟨.ref s.heap.objs.size, _, I.laid (t' := s.toks) (o := .tup []) (fun b ob q => Heap.get?_push_of_some _ q) (Nat.le_refl _) ⟨Nat.zero_le _, [], .nil, IsTup.new _ _⟩, rfl, q2 (by decide) _ (I.hok.fresh (Nat.le_refl _))⟩
  · refine go (call_meets F.slot_tuple_mul ⟨_, ho, rfl⟩ F.entry_tuple_mul (F.args_tuple_mul_2 _ _) (mul_one l its.toArray n dd sl t) ⟨ho, ?_⟩)
    exact ⟨.ref l, H, I, rfl, q1 rfl⟩
theorem go_repA {K : PySem.W.Frag} {G0 H0 G H : Hp} {D : List Addr} {M : List (Addr × HO)} {Q : VK} {x : V} {as : List Int} {k : Int} (hS : Sta K G0 H0 D G M H) (hx : Rp K G x (.tup (as.map .int))) (hk : 0 ≤ k) (hk2 : k ≤ 1000) (hn : as ≠ []) (hl : as.length ≤ 1000)
    (q : ∀ p G1 H1, Same G G1 → Sta K G0 H0 D G1 M H1 → Rp K G1 p (.tup ((List.replicate k.toNat as).flatten.map .int)) → Q p H1) : rRepA K x (.int k) H Q := by
  obtain ⟨a, xs, rfl, hs, ha⟩ := Rp.tup_inv hx
  have ei := ha.ints_inv
  subst ei
  refine ⟨a, k.toNat, _, rfl, by rw [Int.toNat_of_nonneg hk], Same.t hS.gh hs, by simpa using hn, by omega, by simpa using hl, fun e1 => ?_, fun e1 p hp => ?_⟩
  · refine q _ G H (Same.refl G) hS ?_
    rw [e1]
    simpa using hx
  · have ef : (List.replicate k.toNat (as.map V.int)).flatten = ((List.replicate k.toNat as).flatten).map V.int := by
      rw [List.map_flatten, List.map_replicate]
    rw [ef]
    exact q _ _ _ (same_upd (hS.gn hp)) (hS.imm hp _) (.tup (.inl (.inl upd_same)) .ints)
theorem go_catA {K : PySem.W.Frag} {G0 H0 G H : Hp} {D : List Addr} {M : List (Addr × HO)} {Q : VK} {x y : V} {ds es : List Dt} (hS : Sta K G0 H0 D G M H) (hx : Rp K G x (.tup ds)) (hy : Rp K G y (.tup es)) (hl : ds.length + es.length ≤ 100000)
    (q : ∀ p G1 H1, Same G G1 → Sta K G0 H0 D G1 M H1 → Rp K G1 p (.tup (ds ++ es)) → Q p H1) : rCatA K x y H Q := by
  have hx0 := hx
  have hy0 := hy
  obtain ⟨a, xs, rfl, hs, ha⟩ := Rp.tup_inv hx
  obtain ⟨b, ys, rfl, hs', ha'⟩ := Rp.tup_inv hy
  refine ⟨a, b, xs, ys, rfl, rfl, Same.t hS.gh hs, Same.t hS.gh hs', sz (by rw [ha.length, ha'.length]; exact hl), fun e => ?_, fun _ e => ?_, fun _ _ p hp => ?_⟩
  · subst e
    cases ds with
    | nil => exact q _ G H (Same.refl G) hS hy0
    | cons d ds => cases ha
  · subst e
    cases es with
    | nil => exact q _ G H (Same.refl G) hS (by rw [List.append_nil]; exact hx0)
    | cons d ds => cases ha'
  · exact q _ _ _ (same_upd (hS.gn hp)) (hS.imm hp _) (.tup (.inl (.inl upd_same)) ((ha.app ha').up (same_upd (hS.gn hp))))
/-! ### lists that are known as they are -/
def RpL (K : PySem.W.Frag) (G : Hp) (p : Addr) (ds : List Dt) : Prop := ∃ vs, G p = some (.lst vs) ∧ RpAll K G vs ds
theorem RpL.rp {K : PySem.W.Frag} {G : Hp} {p : Addr} {ds : List Dt} (h : RpL K G p ds) : Rp K G (.ref p) (.lst ds) := by
  obtain ⟨vs, h1, h2⟩ := h
  exact .lst (.inl (.inl h1)) h2
theorem RpL.up {K : PySem.W.Frag} {G G' : Hp} {p : Addr} {ds : List Dt} (e : Same G G') (h : RpL K G p ds) : RpL K G' p ds := by
  obtain ⟨vs, h1, h2⟩ := h
  exact ⟨vs, e _ _ h1, h2.up e⟩
section
variable {K : PySem.W.Frag} {G0 H0 G H : Hp} {D : List Addr} {M : List (Addr × HO)} {σ : L2.St} {Q : VK} {tt : TT} {te : TE} {vss : List Nat} {x : V} {ds es : List Dt}
theorem lcMapTR {α : Type} {a : Addr} {xs : List V} {g : TG} {as : List α} {Da : α → Dt} {F : α → Dt} (hS : Sta K G0 H0 D G M H) (hq : SqT K G a xs) (hr : RpAll K G xs (as.map Da)) (hl : as.length ≤ 100000)
    (hs : ∀ x c L G1 vs es H1 (Z : List (Addr × HO) → List Dt → Prop), c ∈ as → Rp K G1 x (Da c) → Same G G1 → H0 L = none → Sta K G0 H0 D G1 ((L, .lst vs) :: M) H1 → RpAll K G1 vs es → (∀ y G2 H2, Same G1 G2 → Sta K G0 H0 D G2 ((L, .lst vs) :: M) H2 → Rp K G2 y (F c) → LcY K G0 H0 D G L Z y H2) →
      g x (wipe σ vss) H1 fun σ2 H3 => wipe σ2 vss = wipe σ vss ∧ tt σ2 H3 fun b H4 => if b = true then te σ2 H4 (LcY K G0 H0 D G L Z) else LcP K G0 H0 D G L Z H4)
    (hd : ∀ p G1 H1, Same G G1 → Sta K G0 H0 D G1 M H1 → RpL K G1 p (as.map F) → Q (.ref p) H1) : LcG (Itt K a) g tt te vss σ Q H := by
  refine lcIM (walk_tup (xs := xs)) hS (fun H1 e => Same.t e hq) (fun i M1 es => M1 = M ∧ es = (as.take i).map F) ⟨rfl, rfl⟩ (fun i x L G1 M1 vs es H1 H2 hi e l0 s r w yy => ?_) (fun L G1 M1 vs es H1 e l0 s r w => ?_)
  · obtain ⟨rfl, rfl⟩ := w
    obtain ⟨rfl, hx⟩ := yy
    have hi2 : i < as.length := by
      have := hr.length
      rw [List.length_map] at this
      omega
    obtain ⟨d, hd', rd⟩ := hr.getV hx
    rw [List.getElem?_map, List.getElem?_eq_getElem hi2] at hd'
    cases hd'
    refine hs x as[i] L G1 vs _ H2 _ (List.getElem_mem hi2) (rd.up e) e l0 s r fun y G2 H3 e2 s2 hy => ?_
    refine lcY s2 (e.trans e2) (r.up e2) hy (by simp; omega) ⟨rfl, ?_⟩
    rw [List.take_add_one, List.getElem?_eq_getElem hi2, List.map_append]
    rfl
  · obtain ⟨rfl, rfl⟩ := w
    have hl2 := hr.length
    rw [List.length_map] at hl2
    rw [List.take_of_length_le (by omega)] at r
    obtain ⟨s2, e2⟩ := s.frz l0
    exact hd L _ H1 (e.trans e2) s2 ⟨vs, upd_same, r.up e2⟩
theorem go_catL {l b : Addr} (hS : Sta K G0 H0 D G M H) (hx : RpL K G l ds) (hy : RpL K G b es) (hl : ds.length + es.length ≤ 100000) (q : ∀ p G1 H1, Same G G1 → Sta K G0 H0 D G1 M H1 → RpL K G1 p (ds ++ es) → Q (.ref p) H1) : rCat (.ref l) (.ref b) H Q := by
  obtain ⟨xs, h1, h2⟩ := hx
  obtain ⟨ys, h3, h4⟩ := hy
  exact go_cat_ hS h1 h3 (by rw [h2.length, h4.length]; exact hl) fun p G1 H1 e s hp => q p G1 H1 e s ⟨_, hp, (h2.app h4).up e⟩
end
/-! ### rows that are lists known as they are -/
def RawI (G : Hp) (v : V) (r : List Int) : Prop := ∃ q, v = V.ref q ∧ G q = some (.lst (r.map .int))
theorem RawI.up {G G' : Hp} {v : V} {r : List Int} (e : Same G G') (h : RawI G v r) : RawI G' v r := by
  obtain ⟨q, h1, h2⟩ := h
  exact ⟨q, h1, e _ _ h2⟩
theorem RawI.rp {K : PySem.W.Frag} {G : Hp} {v : V} {r : List Int} (h : RawI G v r) : Rp K G v (.lst (r.map .int)) := by
  obtain ⟨q, rfl, h2⟩ := h
  exact .lst (.inl (.inl h2)) .ints
theorem pairedI_up {G G' : Hp} (e : Same G G') {vs : List V} {rs : List (List Int)} (h : Paired (RawI G) vs rs) : Paired (RawI G') vs rs := Paired.mapP h fun _ _ x => x.up e
theorem pairedI_rp {K : PySem.W.Frag} {G : Hp} {vs : List V} {rs : List (List Int)} (h : Paired (RawI G) vs rs) : RpAll K G vs (rs.map fun r => .lst (r.map .int)) := by
  induction h with
  | nil => exact .nil
  | cons h1 _ ih => exact .cons h1.rp ih
theorem pairedI_snoc {G : Hp} {v : V} {r : List Int} (hv : RawI G v r) {vs : List V} {rs : List (List Int)} (h : Paired (RawI G) vs rs) : Paired (RawI G) (vs ++ [v]) (rs ++ [r]) := by
  induction h with
  | nil => exact .cons hv .nil
  | cons h1 _ ih => exact .cons h1 ih
theorem paired_get {α β : Type} {R : α → β → Prop} {vs : List α} {rs : List β} (h : Paired R vs rs) : ∀ {i : Nat} {v : α}, vs[i]? = some v → ∃ r, rs[i]? = some r ∧ R v r := by
  induction h with
  | nil => intro i v e; simp at e
  | cons h1 _ ih =>
    intro i v e
    cases i with
    | zero => simp at e; subst e; exact ⟨_, rfl, h1⟩
    | succ i => exact ih (by simpa using e)
section
variable {K : PySem.W.Frag} {G0 H0 G H : Hp} {D : List Addr} {M : List (Addr × HO)} {σ : L2.St} {Q : VK} {tt : TT} {te : TE} {vss : List Nat} {x : V}
theorem lcMapI {a : Addr} {xs : List V} {g : TG} {as : List (List Int)} {F : List Int → Dt} (hS : Sta K G0 H0 D G M H) (hq : SqL K G a xs) (hr : Paired (RawI G) xs as) (hl : as.length ≤ 100000)
    (hs : ∀ x c L G1 vs es H1 (Z : List (Addr × HO) → List Dt → Prop), c ∈ as → RawI G1 x c → Same G G1 → H0 L = none → Sta K G0 H0 D G1 ((L, .lst vs) :: M) H1 → RpAll K G1 vs es → (∀ y G2 H2, Same G1 G2 → Sta K G0 H0 D G2 ((L, .lst vs) :: M) H2 → Rp K G2 y (F c) → LcY K G0 H0 D G L Z y H2) →
      g x (wipe σ vss) H1 fun σ2 H3 => wipe σ2 vss = wipe σ vss ∧ tt σ2 H3 fun b H4 => if b = true then te σ2 H4 (LcY K G0 H0 D G L Z) else LcP K G0 H0 D G L Z H4)
    (hd : ∀ p G1 H1, Same G G1 → Sta K G0 H0 D G1 M H1 → RpL K G1 p (as.map F) → Q (.ref p) H1) : LcG (Itl K a) g tt te vss σ Q H := by
  have hxl : xs.length = as.length := hr.length
  refine lcIM (walk_list (xs := xs)) hS (fun H1 e => e.seq hq) (fun i M1 es => M1 = M ∧ es = (as.take i).map F) ⟨rfl, rfl⟩ (fun i x L G1 M1 vs es H1 H2 hi e l0 s r w yy => ?_) (fun L G1 M1 vs es H1 e l0 s r w => ?_)
  · obtain ⟨rfl, rfl⟩ := w
    obtain ⟨rfl, hx⟩ := yy
    have hi2 : i < as.length := by omega
    obtain ⟨c, hc, rd⟩ := paired_get hr hx
    rw [List.getElem?_eq_getElem hi2] at hc
    cases hc
    refine hs x as[i] L G1 vs _ H2 _ (List.getElem_mem hi2) (rd.up e) e l0 s r fun y G2 H3 e2 s2 hy => ?_
    refine lcY s2 (e.trans e2) (r.up e2) hy (by simp; omega) ⟨rfl, ?_⟩
    rw [List.take_add_one, List.getElem?_eq_getElem hi2, List.map_append]
    rfl
  · obtain ⟨rfl, rfl⟩ := w
    rw [List.take_of_length_le (by omega)] at r
    obtain ⟨s2, e2⟩ := s.frz l0
    exact hd L _ H1 (e.trans e2) s2 ⟨vs, upd_same, r.up e2⟩
/-- list * n -/
theorem go_repL {l : Addr} {k : Int} {xs : List V} (hS : Sta K G0 H0 D G M H) (hx : G l = some (.lst xs)) (hk : 0 ≤ k) (hk2 : k ≤ 1000) (hl : xs.length * k.toNat ≤ 100000) (q : ∀ p G1 H1, Same G G1 → Sta K G0 H0 D G1 M H1 → G1 p = some (.lst (List.replicate k.toNat xs).flatten) → Q (.ref p) H1) : rRep (.ref l) (.int k) H Q :=
  ⟨l, k, xs, rfl, rfl, hS.gh _ _ hx, by omega, by omega, sz hl, fun p hp => q p _ _ (same_upd (hS.gn hp)) (hS.imm hp _) upd_same⟩
end
theorem rep_ints (n : Nat) : (List.replicate n [V.int 0]).flatten = (List.replicate n (0 : Int)).map V.int := by
  induction n with
  | zero => rfl
  | succ n ih => simp [List.replicate_succ, ih]
theorem rep_one {v : V} (n : Nat) : (List.replicate n [v]).flatten = List.replicate n v := by
  induction n with
  | zero => rfl
  | succ n ih => simp [List.replicate_succ, ih]
theorem paired_rep {G : Hp} {v : V} {r : List Int} (h : RawI G v r) : ∀ n : Nat, Paired (RawI G) (List.replicate n v) (List.replicate n r)
  | 0 => .nil
  | n + 1 => .cons h (paired_rep h n)
/-! ### a == b of two instances of one class by its own method -/
def tEqS (C : Addr) (sp : Sp) (E : L2.St → XK) (ta tb : TE) : TE := fun σ H Q => ta σ H fun x H1 => tb σ H1 fun y H2 => ∃ a b dx dy fs gs, x = .ref a ∧ y = .ref b ∧ H2 a = some (.ins C dx fs) ∧ H2 b = some (.ins C dy gs) ∧ sp [x, y] H2 Q (E σ)
theorem op_eqOwn {X : Cx} {CX : CXT} {k : Nat} {C f : Addr} {fd : FuncData} {ps : List Str} {sp : Sp} {E : XK} (hs : PySem.W.findIn X.K (.ref C) "__eq__" = some (some (.ref f))) (hf : PySem.W.isFn X.K (.ref f) = true) (F : FnOk X.prog X.w X.K X.mg X.base CX k f fd ps sp) (hr : Room k X.A) (hb : Binds X.K fd ps []) (hx : Passes CX X E) :
    OpR X (compareOp .Eq) (fun x y H Q => ∃ a b dx dy fs gs, x = .ref a ∧ y = .ref b ∧ H a = some (.ins C dx fs) ∧ H b = some (.ins C dy gs) ∧ sp [x, y] H Q E) := by
  intro pins s σ H x y v u Q I rx ry h
  obtain ⟨a, b, dx, dy, fs, gs, rfl, rfl, ea, eb, q⟩ := h
  obtain rfl : v = Value.ref a := rx
  obtain rfl : u = Value.ref b := ry
  obtain ⟨mA, O, _, _, _, _⟩ := ins_get I.hok ea
  obtain ⟨od, J, _⟩ := O.look
  obtain ⟨mB, O', _, _, _, _⟩ := ins_get I.hok eb
  obtain ⟨od', J', _⟩ := O'.look
  obtain ⟨m, Fm⟩ := I.fr
  refine PySem.W.cmp_K (op := .Eq) (tb := .ref C) hr.units0 Fm I.mod.kin J J'.type (by simp [PySem.W.notFirst]) hs hf (wpAny_mono (run_fn (us := [.ref a, .ref b]) (vs := [.ref a, .ref b]) (ds := []) (dvs := []) F hr hb .nil hx I (.cons rfl (.cons rfl .nil)) (by simpa using q)) (fun v s' hv => ?_) fun _ _ z => z)
  obtain ⟨v', H3, I3, rv, q3⟩ := hv
  have r0 := rv
  cases v' <;> first | (cases rv; exact ⟨_, H3, I3, r0, q3⟩) | (obtain ⟨t, rfl⟩ := rv; exact ⟨_, H3, I3, r0, q3⟩)
end B
namespace B
/-! ### matrices of residues as lists of rows: plain -/
def sm (n : Nat) (f : Nat → Int) : Int := ((List.range n).map f).sum
theorem sm_zero (f : Nat → Int) : sm 0 f = 0 := rfl
theorem sm_succ (n : Nat) (f : Nat → Int) : sm (n + 1) f = sm n f + f n := by
  simp [sm, List.range_succ]
theorem sm_congr {n : Nat} {f g : Nat → Int} (h : ∀ k, k < n → f k = g k) : sm n f = sm n g := by
  induction n with
  | zero => rfl
  | succ n ih => rw [sm_succ, sm_succ, ih fun k hk => h k (by omega), h n (by omega)]
theorem sm_add (n : Nat) (f g : Nat → Int) : sm n (fun k => f k + g k) = sm n f + sm n g := by
  induction n with
  | zero => rfl
  | succ n ih => rw [sm_succ, sm_succ, sm_succ, ih]; omega
theorem sm_mul (n : Nat) (f : Nat → Int) (c : Int) : sm n (fun k => f k * c) = sm n f * c := by
  induction n with
  | zero => simp [sm]
  | succ n ih => rw [sm_succ, sm_succ, ih, Int.add_mul]
theorem sm_mul_left (n : Nat) (f : Nat → Int) (c : Int) : sm n (fun k => c * f k) = c * sm n f := by
  rw [Int.mul_comm, ← sm_mul]
  exact sm_congr fun k _ => Int.mul_comm _ _
theorem sm_zeros (n : Nat) : sm n (fun _ => 0) = 0 := by
  induction n with
  | zero => rfl
  | succ n ih => rw [sm_succ, ih]; rfl
theorem sm_comm (n m : Nat) (f : Nat → Nat → Int) : sm n (fun k => sm m (f k)) = sm m fun j => sm n fun k => f k j := by
  induction n with
  | zero => exact (sm_zeros m).symm
  | succ n ih =>
    rw [sm_succ, ih, ← sm_add]
    exact sm_congr fun j _ => (sm_succ n _).symm
theorem sm_mod (n : Nat) (f : Nat → Int) (b : Int) : sm n (fun k => f k % b) % b = sm n f % b := by
  induction n with
  | zero => rfl
  | succ n ih => rw [sm_succ, sm_succ, Int.add_emod, ih, Int.emod_emod, ← Int.add_emod]
theorem sm_mod_congr {n : Nat} {f g : Nat → Int} {b : Int} (h : ∀ k, k < n → f k % b = g k % b) : sm n f % b = sm n g % b := by
  rw [← sm_mod n f, ← sm_mod n g, sm_congr h]
theorem sm_one (n i : Nat) (hi : i < n) (f : Nat → Int) : sm n (fun k => (if i = k then 1 else 0) * f k) = f i := by
  induction n with
  | zero => omega
  | succ n ih =>
    rw [sm_succ]
    by_cases e : i = n
    · subst e
      have : sm i (fun k => (if i = k then 1 else 0) * f k) = sm i fun _ => 0 := sm_congr fun k hk => by rw [if_neg (by omega), Int.zero_mul]
      rw [this, sm_zeros, if_pos rfl]
      omega
    · rw [ih (by omega), if_neg e]
      omega
theorem sm_one' (n i : Nat) (hi : i < n) (f : Nat → Int) : sm n (fun k => f k * (if k = i then 1 else 0)) = f i := by
  rw [← sm_one n i hi f]
  refine sm_congr fun k _ => ?_
  by_cases e : k = i
  · rw [if_pos e, if_pos e.symm, Int.mul_comm]
  · rw [if_neg e, if_neg (fun z => e z.symm), Int.mul_comm]
abbrev ent (rs : List (List Int)) (i j : Nat) : Int := (rs.getD i []).getD j 0
def mkM (h w : Nat) (f : Nat → Nat → Int) : List (List Int) := (List.range h).map fun i => (List.range w).map fun j => f i j
theorem mkM_len (h w : Nat) (f : Nat → Nat → Int) : (mkM h w f).length = h := by simp [mkM]
theorem mkM_ent {h w : Nat} {f : Nat → Nat → Int} {i j : Nat} (hi : i < h) (hj : j < w) : ent (mkM h w f) i j = f i j := by
  simp [ent, mkM, hi, hj, List.getD]
theorem mkM_congr {h w : Nat} {f g : Nat → Nat → Int} (e : ∀ i j, i < h → j < w → f i j = g i j) : mkM h w f = mkM h w g := by
  refine List.map_congr_left fun i hi => List.map_congr_left fun j hj => e i j (List.mem_range.mp hi) (List.mem_range.mp hj)
theorem mkM_eta {rs : List (List Int)} {w : Nat} (h : ∀ r ∈ rs, r.length = w) : rs = mkM rs.length w (ent rs) := by
  apply List.ext_getElem
  · rw [mkM_len]
  · intro i hi hi'
    have hl := h rs[i] (List.getElem_mem hi)
    simp only [mkM, List.getElem_map, List.getElem_range]
    apply List.ext_getElem
    · simp [hl]
    · intro j hj hj'
      simp [ent, hi, hj, List.getD]
theorem mkM_row {h w : Nat} {f : Nat → Nat → Int} {r : List Int} (hr : r ∈ mkM h w f) : r.length = w := by
  obtain ⟨i, _, rfl⟩ := List.mem_map.mp hr
  simp
theorem mkM_mem {h w : Nat} {f : Nat → Nat → Int} {r : List Int} (hr : r ∈ mkM h w f) {e : Int} (he : e ∈ r) : ∃ i j, i < h ∧ j < w ∧ e = f i j := by
  obtain ⟨i, hi, rfl⟩ := List.mem_map.mp hr
  obtain ⟨j, hj, rfl⟩ := List.mem_map.mp he
  exact ⟨i, j, List.mem_range.mp hi, List.mem_range.mp hj, rfl⟩
/-- the product; the width of the second one is told -/
def muF (b : Int) (rs qs : List (List Int)) (w : Int) : List (List Int) := mkM rs.length w.toNat fun i j => sm qs.length (fun k => ent rs i k * ent qs k j) % b
def idM (n : Int) : List (List Int) := mkM n.toNat n.toNat fun i j => if i = j then 1 else 0
theorem muF_len (b : Int) (rs qs : List (List Int)) (w : Int) : (muF b rs qs w).length = rs.length := mkM_len _ _ _
theorem muF_assoc {b : Int} {rs qs ts : List (List Int)} {w v : Int} (hq : qs.length ≤ qs.length) (hw : ts.length = w.toNat) : muF b (muF b rs qs w) ts v = muF b rs (muF b qs ts v) v := by
  unfold muF
  rw [mkM_len, mkM_len]
  refine mkM_congr fun i l hi hl => ?_
  have e1 : sm ts.length (fun j => ent (mkM rs.length w.toNat fun i j => sm qs.length (fun k => ent rs i k * ent qs k j) % b) i j * ent ts j l) % b = sm ts.length (fun j => sm qs.length (fun k => ent rs i k * ent qs k j * ent ts j l)) % b := by
    refine sm_mod_congr fun j hj => ?_
    rw [mkM_ent hi (by omega), sm_mul, Int.mul_emod, Int.emod_emod, ← Int.mul_emod]
  have e2 : sm qs.length (fun k => ent rs i k * ent (mkM qs.length v.toNat fun i j => sm ts.length (fun k => ent qs i k * ent ts k j) % b) k l) % b = sm qs.length (fun k => sm ts.length (fun j => ent rs i k * ent qs k j * ent ts j l)) % b := by
    refine sm_mod_congr fun k hk => ?_
    rw [mkM_ent hk hl, Int.mul_emod, Int.emod_emod, ← Int.mul_emod, ← sm_mul_left]
    exact congrArg (· % b) (sm_congr fun j _ => by rw [Int.mul_assoc])
  rw [e1, e2, sm_comm]
theorem muF_id {b : Int} {qs : List (List Int)} {w n : Int} (hn : qs.length = n.toNat) (hb : ∀ i j, i < qs.length → j < w.toNat → 0 ≤ ent qs i j ∧ ent qs i j < b) (hw : ∀ r ∈ qs, r.length = w.toNat) : muF b (idM n) qs w = qs := by
  conv => rhs; rw [mkM_eta hw]
  unfold muF
  rw [idM, mkM_len, ← hn]
  refine mkM_congr fun i j hi hj => ?_
  have : sm qs.length (fun k => ent (mkM qs.length qs.length fun i j => if i = j then 1 else 0) i k * ent qs k j) = sm qs.length (fun k => (if i = k then 1 else 0) * ent qs k j) := sm_congr fun k hk => by rw [mkM_ent hi hk]
  rw [this, sm_one _ _ hi]
  have := hb i j hi hj
  exact Int.emod_eq_of_lt this.1 this.2
theorem idF_id {b : Int} {rs : List (List Int)} {w : Int} (hb : ∀ i j, i < rs.length → j < w.toNat → 0 ≤ ent rs i j ∧ ent rs i j < b) (hw : ∀ r ∈ rs, r.length = w.toNat) : muF b rs (idM w) w = rs := by
  conv => rhs; rw [mkM_eta hw]
  unfold muF
  refine mkM_congr fun i j hi hj => ?_
  rw [idM, mkM_len]
  have : sm w.toNat (fun k => ent rs i k * ent (mkM w.toNat w.toNat fun i j => if i = j then 1 else 0) k j) = sm w.toNat (fun k => ent rs i k * (if k = j then 1 else 0)) := sm_congr fun k hk => by rw [mkM_ent hk hj]
  rw [this, sm_one' _ _ hj]
  have := hb i j hi hj
  exact Int.emod_eq_of_lt this.1 this.2
theorem sum_range_getD (r : List Int) (g : Nat → Int) : ((List.range r.length).map fun k => r.getD k 0 * g k).sum = sm r.length fun k => r.getD k 0 * g k := rfl
theorem zip_sm : ∀ (r s : List Int), r.length = s.length → (List.zipWith (fun a c => a * c) r s).sum = sm r.length fun k => r.getD k 0 * s.getD k 0
  | r, s, h => by
    have e : List.zipWith (fun a c => a * c) r s = (List.range r.length).map fun k => r.getD k 0 * s.getD k 0 := by
      apply List.ext_getElem
      · simp; omega
      · intro i hi hi'
        rw [List.length_zipWith] at hi
        simp [List.getD, show i < r.length by omega, show i < s.length by omega]
    rw [e]
    rfl
end B
namespace B
open PySem PySem.Spec PyProof.Rows L2 RZ
/-! ### more loops and comprehensions -/
section
variable {K : PySem.W.Frag} {G0 H0 G H : Hp} {D : List Addr} {M : List (Addr × HO)} {σ σ' : L2.St} {Q : VK} {tt : TT} {ta te : TE} {ds fs : List Dt} {vss : List Nat} {nx bk ct : L2.St → Hp → Prop} {rt : VK} {t : TS} {x y : V} {d : Dt}
/-- what follows a statement is shown once, from what holds behind it -/
theorem go_join (W : L2.St → Hp → Prop) (h1 : ∀ N : L2.St → Hp → Prop, (∀ σ' H', W σ' H' → N σ' H') → t ⟨N, rt, bk, ct⟩ σ H) (h2 : ∀ σ' H', W σ' H' → nx σ' H') : t ⟨nx, rt, bk, ct⟩ σ H := h1 nx h2
/-- for i, x in enumerate(list) -/
theorem forE {a : Addr} {xs : List V} {i1 j1 : Nat} (hS : Sta K G0 H0 D G M H) (hq : SqL K G a xs) (hr : RpAll K G xs ds) (W : Nat → L2.St → Hp → List (Addr × HO) → Prop) (h0 : W 0 σ G M)
    (hs : ∀ i x d σ' G1 M1 H1, i < ds.length → ds[i]? = some d → Same G G1 → Sta K G0 H0 D G1 M1 H1 → Rp K G1 x d → (∃ G2, Same G2 G1 ∧ W i σ' G2 M1) → ∀ σ2, List.set (List.set σ' i1 (some (.int i))) j1 (some x) = σ2 → t ⟨Nx K G0 H0 D G (W (i + 1)), rt, nx, Nx K G0 H0 D G (W (i + 1))⟩ σ2 H1)
    (hd : ∀ σ' G1 M1 H1, Same G G1 → Sta K G0 H0 D G1 M1 H1 → W ds.length σ' G1 M1 → nx σ' H1) : ForG (Ite K a) (gTup K 2 (gCons (gName i1) (gCons (gName j1) gNil))) t ⟨nx, rt, bk, ct⟩ σ H :=
  forI (walk_enum (xs := xs)) hS (fun H1 e => e.seq hq) W h0 (fun i x σ' G1 M1 H1 H2 hi e s w y => by
    obtain ⟨T, u, v, rfl, hT, eH, h1, h2⟩ := y
    cases h1
    obtain ⟨d, hd', rd⟩ := hr.getV h2
    obtain ⟨G2, e2, s2, q2⟩ := s.pair hT eH
    exact go_gpair q2 rfl (hs i v d σ' G2 M1 H2 (by rw [← hr.length]; exact hi) hd' (e.trans e2) s2 (rd.up (e.trans e2)) ⟨G1, e2, w⟩ _ rfl)) (by rw [hr.length]; exact hd)
/-- a comprehension over a range whose turns draw -/
theorem lcDrawR {lo : Int} {n c : Nat} {g : TG} {a r : Addr} {at_ : Int} {j : Nat} (hS : Sta K G0 H0 D G M H) (hj : M[j]? = some (a, drw r at_)) (hl : n ≤ 100000) (P : Nat → Dt → Prop)
    (hs : ∀ (i : Nat) L G1 at1 vs es H1 (Z : List (Addr × HO) → List Dt → Prop), i < n → Same G G1 → H0 L = none → at_ ≤ at1 → at1 ≤ at_ + (c * i : Nat) → Sta K G0 H0 D G1 ((L, .lst vs) :: M.set j (a, drw r at1)) H1 → RpAll K G1 vs es →
      (∀ y d at2 G2 H2, Same G1 G2 → Sta K G0 H0 D G2 ((L, .lst vs) :: M.set j (a, drw r at2)) H2 → at1 ≤ at2 → at2 ≤ at1 + c → Rp K G2 y d → P i d → LcY K G0 H0 D G L Z y H2) →
      g (.int (lo + i)) (wipe σ vss) H1 fun σ2 H3 => wipe σ2 vss = wipe σ vss ∧ tt σ2 H3 fun b H4 => if b = true then te σ2 H4 (LcY K G0 H0 D G L Z) else LcP K G0 H0 D G L Z H4)
    (hd : ∀ L at1 vs es G1 H1, Same G G1 → H0 L = none → at_ ≤ at1 → at1 ≤ at_ + (c * n : Nat) → Sta K G0 H0 D G1 ((L, .lst vs) :: M.set j (a, drw r at1)) H1 → RpAll K G1 vs es → es.length = n → (∀ i d, es[i]? = some d → P i d) → Q (.ref L) H1) : LcG (Itr lo n) g tt te vss σ Q H := by
  have m0 : M = M.set j (a, drw r at_) := by
    apply List.ext_getElem?
    intro i
    rw [List.getElem?_set]
    split
    · rename_i e
      subst e
      rw [hj]
      have := (List.getElem?_eq_some_iff.mp hj).1
      rw [if_pos this]
    · rfl
  refine lcIM walk_range hS (fun _ _ => trivial) (fun i M1 es => ∃ at1, M1 = M.set j (a, drw r at1) ∧ at_ ≤ at1 ∧ at1 ≤ at_ + (c * i : Nat) ∧ es.length = i ∧ ∀ k d, es[k]? = some d → P k d) ⟨at_, m0, Int.le_refl _, by simp, rfl, fun k d e => by simp at e⟩ (fun i x L G1 M1 vs es H1 H2 hi e l0 s rr w yy => ?_) (fun L G1 M1 vs es H1 e l0 s rr w => ?_)
  · obtain ⟨at1, rfl, a1, a2, el, hp⟩ := w
    obtain ⟨rfl, rfl⟩ := yy
    refine hs i L G1 at1 vs es H2 _ hi e l0 a1 a2 s rr fun y d at2 G2 H3 e2 s2 b1 b2 hy hP => ?_
    refine lcY s2 (e.trans e2) (rr.up e2) hy (by omega) ⟨at2, rfl, by omega, ?_, by simp [el], fun k d' hk => ?_⟩
    · have : ((c * (i + 1) : Nat) : Int) = ((c * i : Nat) : Int) + c := by rw [Nat.mul_succ]; exact Int.natCast_add _ _
      omega
    · by_cases ek : k < es.length
      · rw [List.getElem?_append_left ek] at hk
        exact hp k d' hk
      · rw [List.getElem?_append_right (by omega)] at hk
        have : k - es.length = 0 := by
          cases z : k - es.length with
          | zero => rfl
          | succ z' => rw [z] at hk; simp at hk
        rw [this] at hk
        cases Option.some.inj hk
        have : k = i := by omega
        rw [this]; exact hP
  · obtain ⟨at1, rfl, a1, a2, el, hp⟩ := w
    exact hd L at1 vs es G1 H1 e l0 a1 a2 s rr el hp
/-- over a range: ints, a list known as it is -/
theorem lcRawI {lo : Int} {n : Nat} {g : TG} {F : Nat → Int} (hS : Sta K G0 H0 D G M H) (hl : n ≤ 100000)
    (hs : ∀ (i : Nat) L G1 vs es H1 (Z : List (Addr × HO) → List Dt → Prop), i < n → Same G G1 → H0 L = none → Sta K G0 H0 D G1 ((L, .lst vs) :: M) H1 → RpAll K G1 vs es → (∀ y G2 H2, Same G1 G2 → Sta K G0 H0 D G2 ((L, .lst vs) :: M) H2 → Rp K G2 y (.int (F i)) → LcY K G0 H0 D G L Z y H2) →
      g (.int (lo + i)) (wipe σ vss) H1 fun σ2 H3 => wipe σ2 vss = wipe σ vss ∧ tt σ2 H3 fun b H4 => if b = true then te σ2 H4 (LcY K G0 H0 D G L Z) else LcP K G0 H0 D G L Z H4)
    (hd : ∀ p G1 H1, Same G G1 → Sta K G0 H0 D G1 M H1 → G1 p = some (.lst (((List.range n).map F).map .int)) → Q (.ref p) H1) : LcG (Itr lo n) g tt te vss σ Q H := by
  refine lcIM walk_range hS (fun _ _ => trivial) (fun i M1 es => M1 = M ∧ es = (List.range i).map fun k => .int (F k)) ⟨rfl, rfl⟩ (fun i x L G1 M1 vs es H1 H2 hi e l0 s r w yy => ?_) (fun L G1 M1 vs es H1 e l0 s r w => ?_)
  · obtain ⟨rfl, rfl⟩ := w
    obtain ⟨rfl, rfl⟩ := yy
    refine hs i L G1 vs _ H2 _ hi e l0 s r fun y G2 H3 e2 s2 hy => ?_
    refine lcY s2 (e.trans e2) (r.up e2) hy (by simp; omega) ⟨rfl, ?_⟩
    rw [List.range_succ, List.map_append]
    rfl
  · obtain ⟨rfl, rfl⟩ := w
    obtain ⟨s2, e2⟩ := s.frz l0
    have ei : (List.range n).map (fun k => Dt.int (F k)) = ((List.range n).map F).map .int := by rw [List.map_map]; rfl
    rw [ei] at r
    have := r.ints_inv
    subst this
    exact hd L _ H1 (e.trans e2) s2 upd_same
/-- over a range: lists of ints, all known as they are -/
theorem lcRawR {lo : Int} {n : Nat} {g : TG} {F : Nat → List Int} (hS : Sta K G0 H0 D G M H) (hl : n ≤ 100000)
    (hs : ∀ (i : Nat) L G1 vs H1 (Z : VK) (ZP : Hp → Prop), i < n → Same G G1 → H0 L = none → Sta K G0 H0 D G1 ((L, .lst vs) :: M) H1 → (∀ y G2 H2, Same G1 G2 → Sta K G0 H0 D G2 ((L, .lst vs) :: M) H2 → RawI G2 y (F i) → Z y H2) →
      g (.int (lo + i)) (wipe σ vss) H1 fun σ2 H3 => wipe σ2 vss = wipe σ vss ∧ tt σ2 H3 fun b H4 => if b = true then te σ2 H4 Z else ZP H4)
    (hd : ∀ p G1 H1, Same G G1 → Sta K G0 H0 D G1 M H1 → H p = none → (∃ vs, G1 p = some (.lst vs) ∧ Paired (RawI G1) vs ((List.range n).map F)) → Q (.ref p) H1) : LcG (Itr lo n) g tt te vss σ Q H := by
  intro L hL
  have l0 := hS.h0 hL
  refine lc_it walk_range (fun i H1 => ∃ G1 vs, Same G G1 ∧ Sta K G0 H0 D G1 ((L, .lst vs) :: M) H1 ∧ Paired (RawI G1) vs ((List.range i).map F)) ⟨G, [], Same.refl G, hS.mut hL _, .nil⟩ (fun i H1 _ _ => trivial) (fun i x H1 H2 hi p y => ?_) (fun H1 p => ?_)
  · obtain ⟨G1, vs, e, s, r⟩ := p
    obtain ⟨rfl, rfl⟩ := y
    refine hs i L G1 vs H2 _ _ hi e l0 s fun y G2 H3 e2 s2 hy => ?_
    have hvl : vs.length = i := by rw [r.length]; simp
    exact ⟨vs, s2.get (i := 0) rfl, by rw [hvl]; exact Nat.lt_of_lt_of_le (show i < 100000 by omega) (by decide), G2, vs ++ [y], e.trans e2, s2.set (i := 0) rfl _, by
      rw [List.range_succ, List.map_append]
      exact pairedI_snoc hy (pairedI_up e2 r)⟩
  · obtain ⟨G1, vs, e, s, r⟩ := p
    obtain ⟨s2, e2⟩ := s.frz l0
    exact hd L _ H1 (e.trans e2) s2 hL ⟨vs, upd_same, pairedI_up e2 r⟩
end
end B
namespace B
open PySem PySem.Spec PyProof.Rows L2 RZ
/-! ### == of tuples whose items are asked by their own ==, both answers -/
section
open PySem.SeqAt PySem.AutoSeq1 MeetsSeq MeetsSeq2 MeetsSeq3 SeqRoads2
variable {prog : Program} {w : World} {A : Around} {R : Result → Shared → Prop}
theorem tup_eqB (l b : Addr) (us vs : Array Value) (n m : Nat) (dl db : Option Addr) (sl sb : Array (Option Value)) (e : Nat → Bool) (I : Nat → Shared → Prop)
    (ask : ∀ i (h1 : i < us.size) (h2 : i < vs.size) s, I i s → wpAny (model prog w) A.in1 (eqBool us[i] vs[i]) (fun r s' => r = e i ∧ I (i + 1) s') (fun x s' => R (.error x) s') s)
    (out : ∀ i s r, I i s → r = ((List.range (min us.size vs.size)).all e && us.size == vs.size) → R (.ok (.ret (.bool r))) s) {s : Shared} (hl : s.heap.get? l = some { cls := .type "tuple", dict := dl, data := .seq us n, slots := sl }) (hb : s.heap.get? b = some { cls := .type "tuple", dict := db, data := .seq vs m, slots := sb }) (h : I 0 s) :
    wpAny (model prog w) A.in1 (Builtin.«tuple.__eq__» ⟨[.ref l, .ref b], []⟩) (GQ.FinOf prog w A R) (fun x s' => R (.error x) s') s := by
  have sub := AutoSeq1.sub_tuple_tuple
  have len : (us.toList.zip vs.toList).length = min us.size vs.size := by simp
  have start := h
  obtain ⟨hp, g, d, tk, os⟩ := s
  wp_walk using wpAny_loadPart' hl, wpAny_loadPart' hb, wpAny_forIn_list _ (fun rest q s' => q.1 = none ∧ ∃ i, rest = (us.toList.zip vs.toList).drop i ∧ (∀ j, j < i → e j = true) ∧ i ≤ min us.size vs.size ∧ I i s') _
  case turn =>
    rintro ⟨y, x⟩ rest q s' ⟨hq, i, hz, hall, hi, hI⟩
    have lt : i < (us.toList.zip vs.toList).length := Nat.lt_of_not_le fun no => by
      rw [List.drop_of_length_le no] at hz
      cases hz
    have h1 : i < us.size := by omega
    have h2 : i < vs.size := by omega
    rw [List.drop_eq_getElem_cons lt] at hz
    injection hz with hyx more
    obtain rfl : y = us[i] := by simpa using congrArg Prod.fst hyx
    obtain rfl : x = vs[i] := by simpa using congrArg Prod.snd hyx
    refine wpAny_bind (wpAny_mono (ask i h1 h2 s' hI) (fun r s2 q2 => ?_) fun _ _ z => z)
    obtain ⟨hr, q2⟩ := q2
    cases er : e i with
    | true =>
      rw [er] at hr
      subst hr
      wp_walk
      refine ⟨rfl, i + 1, more, fun j hj => ?_, by omega, q2⟩
      by_cases ej : j = i
      · rw [ej]; exact er
      · exact hall j (by omega)
    | false =>
      rw [er] at hr
      subst hr
      have no : ((List.range (min us.size vs.size)).all e && us.size == vs.size) = false := by
        rw [Bool.and_eq_false_iff]
        left
        exact List.all_eq_false.mpr ⟨i, List.mem_range.mpr (by omega), by rw [er]; decide⟩
      have fin := out (i + 1) s2 false q2 no.symm
      wp_walk
      exact fin
  case fin =>
    rintro ⟨b1, b2⟩ s' ⟨hq, i, hz, hall, hi, hI⟩
    simp only at hq
    subst hq
    have ge : min us.size vs.size ≤ i := Nat.le_of_not_lt fun no => by
      rw [List.drop_eq_getElem_cons (by omega)] at hz
      cases hz
    have al : (List.range (min us.size vs.size)).all e = true := List.all_eq_true.mpr fun j hj => hall j (by have := List.mem_range.mp hj; omega)
    have fin := out i s' (us.size == vs.size) hI (by rw [al, Bool.true_and])
    wp_walk
    simpa [Builtin.Tuple.tupleCompareSizes] using fin
  case h => exact ⟨rfl, 0, rfl, fun j hj => absurd hj (Nat.not_lt_zero _), Nat.zero_le _, start⟩
end
section
variable {prog : Program} {w : World} {A : Around} {E : Value → Shared → Prop} {s : Shared}
theorem rc_tupB {l b : Addr} {us vs : Array Value} {Q : Value → Shared → Prop} (hu : A.units < cLine) (e : Nat → Bool) (I : Nat → Shared → Prop) (hl : s.heap.IsTuple l us) (hb : s.heap.IsTuple b vs)
    (ask : ∀ i (h1 : i < us.size) (h2 : i < vs.size) s, I i s → wpAny (model prog w) A.in1 (eqBool us[i] vs[i]) (fun r s' => r = e i ∧ I (i + 1) s') E s)
    (out : ∀ i s r, I i s → r = ((List.range (min us.size vs.size)).all e && us.size == vs.size) → Q (.bool r) s) (h : I 0 s) : wpAny (model prog w) A (richCompare .Eq (.ref l) (.ref b)) Q E s := by
  obtain ⟨⟨cl, dl, al, sl⟩, ol, hcl, n, hdl⟩ := id hl
  obtain ⟨⟨cb, db, ab, sb⟩, ob, hcb, m, hdb⟩ := id hb
  simp only at hcl hdl hcb hdb
  subst hcl hdl hcb hdb
  refine wpAny_richCompare_same_room (op := .Eq) ⟨_, ol, rfl⟩ ⟨_, ob, rfl⟩ F.slot_tuple_eq (GQ.call_here F.slot_tuple_eq ⟨_, ol, rfl⟩ F.entry_tuple_eq (F.args_tuple_eq_2 _ _) ?_) hu
  exact tup_eqB (R := wants (fun v s' => v ≠ .notImplemented ∧ Q v s') E) l b us vs n m dl db sl sb e I ask (fun i s' r q er => ⟨(fun z => nomatch z), out i s' r q er⟩) ol ob h
end
/-- == by what D says, making new objects alone -/
abbrev Eqb := V → V → Bool → Hp → Prop
def EqB (X : Cx) (n : Nat) (D : Eqb) : Prop :=
  ∀ (A : Around) (pins : List (Addr × Obj)) (s : Shared) (σ : L2.St) (H : Hp) (x y : V) (r : Bool) (u v : Value), Sub X n A → Inv X pins σ H s → RelV x u → RelV y v → D x y r H →
    wpAny (model X.prog X.w) A (eqBool u v) (fun q s' => q = r ∧ ∃ H', Inv X pins σ H' s' ∧ Same H H') X.xe s
def RcB (X : Cx) (n : Nat) (D : Eqb) : Prop :=
  ∀ (A : Around) (pins : List (Addr × Obj)) (s : Shared) (σ : L2.St) (H : Hp) (x y : V) (r : Bool) (u v : Value), Sub X n A → Inv X pins σ H s → RelV x u → RelV y v → D x y r H →
    wpAny (model X.prog X.w) A (richCompare .Eq u v) (fun q s' => q = .bool r ∧ ∃ H', Inv X pins σ H' s' ∧ Same H H') X.xe s
def MonB (D : Eqb) : Prop := ∀ x y r H H', Same H H' → D x y r H → D x y r H'
/-- what is one object is seen to be equal -/
def OneB (X : Cx) (D : Eqb) : Prop := ∀ pins σ H s a r, Inv X pins σ H s → D (.ref a) (.ref a) r H → r = true
def DTupB (K : PySem.W.Frag) (D : Eqb) : Eqb := fun x y r H => ∃ a b xs ys e, x = .ref a ∧ y = .ref b ∧ SqT K H a xs ∧ SqT K H b ys ∧ (∀ (i : Nat) u v, xs[i]? = some u → ys[i]? = some v → D u v (e i) H) ∧ r = ((List.range (min xs.length ys.length)).all e && xs.length == ys.length)
def DInsB (C : Addr) (R : Addr → Addr → Bool → Hp → Prop) : Eqb := fun x y r H => ∃ a b dx dy fs gs, x = .ref a ∧ y = .ref b ∧ H a = some (.ins C dx fs) ∧ H b = some (.ins C dy gs) ∧ R a b r H
def spEqB (R : Addr → Addr → Bool → Hp → Prop) : Sp := fun vs H Q _ => ∃ a b r, vs = [.ref a, .ref b] ∧ R a b r H ∧ ∀ H', Same H H' → Q (.bl r) H'
section
variable {X : Cx} {n m : Nat} {D : Eqb}
theorem rcB_tup (hD : MonB D) (h : EqB X n D) : RcB X (n + 1) (DTupB X.K D) := by
  intro A pins s σ H x y r u v sb I rx ry d
  obtain ⟨a, b, xs, ys, e, rfl, rfl, ha, hb, p, er⟩ := d
  cases rx
  cases ry
  obtain ⟨its, rv, t1, z1⟩ := I.tuple ha
  obtain ⟨its2, rv2, t2, z2⟩ := I.tuple hb
  refine rc_tupB sb.room.units0 e (fun _ s' => ∃ H', Inv X pins σ H' s' ∧ Same H H') t1 t2 (fun i h1 h2 s' q => ?_) (fun i s' r' q er' => ⟨?_, q⟩) ⟨H, I, Same.refl H⟩
  · obtain ⟨H1, I1, e1⟩ := q
    have k1 : i < its.length := by simpa using h1
    have k2 : i < its2.length := by simpa using h2
    have l1 : i < xs.length := by rw [rv.length]; exact k1
    have l2 : i < ys.length := by rw [rv2.length]; exact k2
    obtain ⟨u', hu, ru⟩ := rv.get (List.getElem?_eq_getElem l1)
    obtain ⟨v', hv, rv'⟩ := rv2.get (List.getElem?_eq_getElem l2)
    rw [List.getElem?_eq_getElem k1] at hu
    rw [List.getElem?_eq_getElem k2] at hv
    cases hu
    cases hv
    have := h A.in1 pins s' σ H1 _ _ (e i) its[i] its2[i] sb.in1 I1 ru rv' (hD _ _ _ _ _ e1 (p i _ _ (List.getElem?_eq_getElem l1) (List.getElem?_eq_getElem l2)))
    simp only [List.getElem_toArray]
    refine wpAny_mono this (fun q s2 z => ?_) fun _ _ z => z
    obtain ⟨hq, H2, I2, e2⟩ := z
    exact ⟨hq, H2, I2, e1.trans e2⟩
  · rw [er', er, List.size_toArray, List.size_toArray, rv.length, rv2.length]
theorem rcB_ins {CX : CXT} {C f : Addr} {fd : FuncData} {ps : List Str} {R : Addr → Addr → Bool → Hp → Prop} {E : XK} (F : FnOk X.prog X.w X.K X.mg X.base CX n f fd ps (spEqB R))
    (hs : PySem.W.findIn X.K (.ref C) "__eq__" = some (some (.ref f))) (hf : PySem.W.isFn X.K (.ref f) = true) (hb : Binds X.K fd ps []) (hx : Passes CX X E) : RcB X n (DInsB C R) := by
  intro A pins s σ H x y r u v sb I rx ry d
  obtain ⟨a, b, dx, dy, fs, gs, rfl, rfl, ha, hb', hr⟩ := d
  cases rx
  cases ry
  obtain ⟨mA, J, _⟩ := ins_get I.hok ha
  obtain ⟨mB, J', _⟩ := ins_get I.hok hb'
  obtain ⟨od, J, _⟩ := J.look
  obtain ⟨od', J', _⟩ := J'.look
  obtain ⟨m, hF⟩ := I.fr
  refine PySem.W.cmp_K (op := .Eq) (tb := .ref C) sb.room.units0 hF I.ok.mod.kin J J'.type (by simp [PySem.W.notFirst]) hs hf ?_
  have hsp : spEqB R [.ref a, .ref b] H (fun v H' => v = .bl r ∧ Same H H') E := ⟨a, b, r, rfl, hr, fun H' e => ⟨rfl, e⟩⟩
  have e0 : Env0 X.prog X.w X.K X.mg X.base A X.stack s H := by
    have z := I.env0
    exact ⟨by rw [sb.fr]; exact z.frames, z.mod, z.bs, z.bsz, z.funs, z.frf, z.hok, z.bare⟩
  have hl := F.len _ _ _ _ hsp
  have r2 : Vals [V.ref a, V.ref b] [Value.ref a, Value.ref b] := .cons rfl (.cons rfl .nil)
  refine wpAny_call (codeAny_mono (F.run A X.stack s H ⟨[.ref a, .ref b], []⟩ [.ref a, .ref b] [.ref a, .ref b] _ E sb.room e0 (by
    have z := hb s [.ref a, .ref b] I.kIn (by simpa using hl)
    simpa using z) r2 hsp) fun q s' hq => ?_)
  cases q with
  | error x => exact hx pins σ H s x s' I hq
  | ok fl =>
    cases fl with
    | ret w' =>
      obtain ⟨z, H', I', rz, ez, ex⟩ := I.after hq
      subst ez
      cases rz
      exact ⟨rfl, H', I', ex⟩
    | next => exact False.elim hq
    | brk => exact False.elim hq
    | cont => exact False.elim hq
theorem RcB.eqB (h : RcB X n D) (one : OneB X D) (hr : ∀ x y r H, D x y r H → ∃ a b, x = .ref a ∧ y = .ref b) : EqB X n D := by
  intro A pins s σ H x y r u v sb I rx ry d
  obtain ⟨a, b, rfl, rfl⟩ := hr _ _ _ _ d
  cases rx
  cases ry
  by_cases hab : a = b
  · subst hab
    have := one _ _ _ _ _ _ I d
    subst this
    exact SeqAt.EqAt.same (A := A) (s := s) (.ref a) X.prog X.w X.xe _ ⟨rfl, H, I, Same.refl H⟩
  · refine GQ.eqBool_refG hab (wpAny_mono (h A pins s σ H (.ref a) (.ref b) r _ _ sb I rfl rfl d) (fun q s' z => ?_) fun _ _ z => z)
    obtain ⟨hq, z⟩ := z
    exact ⟨r, hq, rfl, z⟩
/-- x == y as an expression -/
def rEqB (D : Eqb) : R2 := fun x y H Q => ∃ r, D x y r H ∧ ∀ H', Same H H' → Q (.bl r) H'
theorem op_eqB (h : RcB X n D) (hr : Room n X.A) : OpR X (compareOp .Eq) (rEqB D) := by
  intro pins s σ H x y v u Q I rx ry hq
  obtain ⟨r, d, q⟩ := hq
  show wpAny (model X.prog X.w) X.A (richCompare .Eq v u) (EP X pins σ Q) X.xe s
  refine wpAny_mono (h X.A pins s σ H x y r v u ⟨hr, rfl⟩ I rx ry d) (fun w' s' z => ?_) fun _ _ z => z
  obtain ⟨hr', H', I', e⟩ := z
  subst hr'
  exact ⟨.bl r, H', I', rfl, q H' e⟩
/-- the data of a value are told by the heap -/
theorem vals_inj : ∀ {xs ys : List V} {us : List Value}, Vals xs us → Vals ys us → xs = ys := fun r1 r2 => (backA_vals r1).symm.trans (backA_vals r2)
end
/-! ### own == asked with a thing of a built-in kind; isinstance of such a thing -/
theorem not_own (C : Addr) : ∀ l : List String, (l.map Value.type).contains (Value.ref C) = false
  | [] => rfl
  | t :: l => by
    have h := not_own C l
    have ht : (Value.ref C == Value.type t) = false := by simp
    simp only [List.map_cons, List.contains_cons, h, Bool.or_false]
    exact ht
theorem sub_builtin {K : PySem.W.Frag} {T : String} (C : Addr) (h : (fastFind? T).isSome = true) : PySem.W.subIn K (.type T) (.ref C) = some false := by
  show (fastBuiltinMro T).map (·.contains (Value.ref C)) = some false
  unfold fastBuiltinMro
  cases e : fastFind? T with
  | none => rw [e] at h; cases h
  | some d =>
    show some (((d.mro.map Value.type).contains (Value.ref C))) = some false
    rw [not_own]
theorem known_kind : ∀ d : Dt, tyD d ≠ "?" → (fastFind? (tyD d)).isSome = true
  | .non, _ => by show (fastFind? "NoneType").isSome = true; decide +kernel
  | .bl _, _ => by show (fastFind? "bool").isSome = true; decide +kernel
  | .int _, _ => by show (fastFind? "int").isSome = true; decide +kernel
  | .str _, _ => by show (fastFind? "str").isSome = true; decide +kernel
  | .lst _, _ => by show (fastFind? "list").isSome = true; decide +kernel
  | .tup _, _ => by show (fastFind? "tuple").isSome = true; decide +kernel
  | .ins _ _, h => absurd rfl h
/-- what isinstance asks of an own class -/
structure OcOk (K : PySem.W.Frag) (C : Addr) : Prop where
  sf : PySem.W.selfFirst K C = true
  ty : PySem.W.typeIn K (.ref C) = some (.type "type")
theorem OcOk.cls {K : PySem.W.Frag} {C : Addr} (x : OcOk K C) : (PySem.W.clsIn K C).isSome = true := by
  obtain ⟨cd, h, _⟩ := PySem.W.any_some x.sf
  rw [h]
  rfl
theorem kit_not {K : PySem.W.Frag} {C : Addr} {T : String} (x : OcOk K C) (h : (fastFind? T).isSome = true) : PySem.W.kitOne K (.type T) (.ref C) = some false := by
  unfold PySem.W.kitOne
  rw [if_neg (by simp)]
  show (if ((PySem.W.clsIn K C).isSome && PySem.W.typeIn K (.ref C) == some (.type "type")) = true then PySem.W.subIn K (.type T) (.ref C) else none) = some false
  rw [if_pos (by rw [x.cls, x.ty]; rfl)]
  exact sub_builtin C h
theorem go_isNot {K : PySem.W.Frag} {G H : Hp} {Q : VK} {x : V} {C : Addr} {d : Dt} (hx : Rp K G x d) (e : Same G H) (hd : tyD d ≠ "?") (oc : OcOk K C) (k : Q (.bl false) H) : rIsi K [x, .ref C] H Q :=
  ⟨x, .ref C, _, .ref C, false, rfl, .own C, tyX_d hd hx e, kit_not oc (known_kind d hd), k⟩
def EQX (K : PySem.W.Frag) (C : Addr) (sp : Sp) (E : XK) : R2 := fun x y H Q => ∃ a dx fs t, x = .ref a ∧ H a = some (.ins C dx fs) ∧ TyX K H y (.type t) ∧ (fastFind? t).isSome = true ∧ sp [x, y] H Q E
theorem op_eqOwnX {X : Cx} {CX : CXT} {k : Nat} {C f : Addr} {fd : FuncData} {ps : List Str} {sp : Sp} {E : XK} (hs : PySem.W.findIn X.K (.ref C) "__eq__" = some (some (.ref f))) (hf : PySem.W.isFn X.K (.ref f) = true) (F : FnOk X.prog X.w X.K X.mg X.base CX k f fd ps sp) (hr : Room k X.A) (hb : Binds X.K fd ps []) (hx : Passes CX X E) :
    OpR X (compareOp .Eq) (EQX X.K C sp E) := by
  intro pins s σ H x y v u Q I rx ry h
  obtain ⟨a, dx, fs, t, rfl, ea, ty, hk, q⟩ := h
  obtain rfl : v = Value.ref a := rx
  obtain ⟨mA, O, _, _, _, _⟩ := ins_get I.hok ea
  obtain ⟨od, J, _⟩ := O.look
  obtain ⟨P, Z, p, _⟩ := kit_of I ry ty
  obtain ⟨m, Fm⟩ := I.fr
  refine PySem.W.cmp_K (op := .Eq) (tb := .type t) hr.units0 Fm I.mod.kin J (Z.ty _ _ I.kIn p) (by unfold PySem.W.notFirst; rw [sub_builtin C hk]; rfl) hs hf (wpAny_mono (run_fn (us := [.ref a, u]) (vs := [.ref a, y]) (ds := []) (dvs := []) F hr hb .nil hx I (.cons rfl (.cons ry .nil)) (by simpa using q)) (fun v s' hv => ?_) fun _ _ z => z)
  obtain ⟨v', H3, I3, rv, q3⟩ := hv
  have r0 := rv
  cases v' <;> first | (cases rv; exact ⟨_, H3, I3, r0, q3⟩) | (obtain ⟨t, rfl⟩ := rv; exact ⟨_, H3, I3, r0, q3⟩)
theorem go_eqx {K : PySem.W.Frag} {G H : Hp} {Q : VK} {x y : V} {C : Addr} {fds : List (Str × Dt)} {d : Dt} {sp : Sp} {E : XK} (hx : Rp K G x (.ins C fds)) (hy : Rp K G y d) (e : Same G H) (hd : tyD d ≠ "?") (h : sp [x, y] H Q E) : EQX K C sp E x y H Q := by
  obtain ⟨a, dx, fs, rfl, hs, _⟩ := Rp.ins_inv hx
  exact ⟨a, dx, fs, _, rfl, e _ _ hs, tyX_d hd hy e, known_kind d hd, h⟩
/-! ### enumerate of a tuple -/
section
open PySem.Sem (wp)
open AutoSeq1 (wpAny_loadPart')
theorem enum_new1 {v : Value} {o : Obj} {P : Heap → Prop} (B : Begins v o P) :
    Meets (Builtin.«enumerate.__new__» ⟨[.type "enumerate", v], []⟩) (fun _ R s => P s.heap ∧ R (.ok (.ret (.ref (s.heap.push o).objs.size)))
      { s with heap := (s.heap.push o).push { cls := .type "enumerate", data := .fields #[.none, .bool false, .ref s.heap.objs.size, rawInt 0, .none, .none] } }) := .of_wp fun prog w A R s h => by
  obtain ⟨hp, g, d, tk, os⟩ := s
  obtain ⟨h1, h⟩ := h
  have sub := sub_enumerate
  have it0 : ∀ {A' : Around} {E Q : Value → Shared → Prop}, Q (.ref hp.objs.size) ⟨hp.push o, g, d, tk, os⟩ → wpAny (model prog w) A' (pyIter v) Q E ⟨hp, g, d, tk, os⟩ := fun q => B.iter prog w _ _ ⟨hp, g, d, tk, os⟩ _ h1 q
  wp_walk using it0
  refine wpAny_stack_any fun st => wpAny_pure ?_
  split
  · rename_i c _ _ _ _ _
    by_cases hc : (c == Value.type "enumerate") = true
    · simp only [hc]
      wp_walk using it0
      exact ⟨_, rfl, h⟩
    · simp only [Bool.not_eq_true] at hc
      simp only [hc]
      wp_walk using it0
      exact ⟨_, rfl, h⟩
  · wp_walk using it0
    exact ⟨_, rfl, h⟩
end
section
variable {prog : Program} {w : World} {A : Around} {E : Value → Shared → Prop} {s : Shared}
theorem enum_call1 {v : Value} {o : Obj} {P : Heap → Prop} {Q : Value → Shared → Prop} (B : Begins v o P) (h1 : P s.heap)
    (h : ∀ h', IsEnum h' (s.heap.objs.size + 1) s.heap.objs.size 0 .none → h'.get? s.heap.objs.size = some o → (∀ b u, s.heap.get? b = some u → h'.get? b = some u) → Q (.ref (s.heap.objs.size + 1)) { s with heap := h' }) :
    wpAny (model prog w) A (call (.type "enumerate") [v]) Q E s := by
  refine callType_new F.called_enumerate (by decide) (F.typeCall_enumerate_1 _) (F.newCall_enumerate_1 _) (fun obj => F.args_object_init_2 obj _) F.entry_enumerate_new (enum_new1 B) ⟨h1, ?_⟩
  have sz : (s.heap.push o).objs.size = s.heap.objs.size + 1 := Heap.size_push ..
  show _ ∧ _
  rw [sz]
  have en : IsEnum ((s.heap.push o).push { cls := .type "enumerate", data := .fields #[.none, .bool false, .ref s.heap.objs.size, rawInt 0, .none, .none] }) (s.heap.objs.size + 1) s.heap.objs.size 0 .none := by
    have z := Heap.get?_push_size (s.heap.push o) (o := { cls := .type "enumerate", data := .fields #[.none, .bool false, .ref s.heap.objs.size, rawInt 0, .none, .none] }) rfl
    rw [sz] at z
    exact z
  exact ⟨⟨_, en, rfl⟩, h _ en (Heap.get?_push_of_some _ (Heap.get?_push_size _ B.free)) fun b u x => Heap.get?_push_of_some _ (Heap.get?_push_of_some _ x)⟩
end
def IteT (K : PySem.W.Frag) (a : Addr) : It :=
  ⟨fun i H => ∃ (xs : List V) (x : V), SqT K H a xs ∧ xs[i]? = some x, fun i H v H' => ∃ T x, v = .ref T ∧ H T = none ∧ H' = upd H T (.tup [.int (i : Nat), x]) ∧ ∀ xs, SqT K H a xs → xs[i]? = some x, fun i H => ∃ xs : List V, SqT K H a xs ∧ xs.length = i⟩
theorem turn_enumT {P : Program} {w : World} {K : PySem.W.Frag} {elts : List Expr} {kk : Nat} {tpos : Pos} (a e it : Addr) :
    Turn P w K (.Tuple elts kk tpos) (IteT K a) [e, it] e (fun i h => (∃ old, IsEnum h e it ((i : Nat) : Int) old) ∧ h.IsTupleIter it a i ∧ e ≠ it ∧ a ≠ it ∧ e ≠ a) where
  mem := by simp
  obj := fun i h st b hb => by
    obtain ⟨⟨old, en⟩, ⟨o, ho, _, hd⟩, _⟩ := st
    rcases (show b = e ∨ b = it by simpa using hb) with rfl | rfl
    · exact ⟨_, en, fun v q => nomatch q⟩
    · exact ⟨o, ho, fun v q => by rw [hd] at q; cases q⟩
  keep := fun i h h' st k => by
    obtain ⟨⟨old, en⟩, hi, z⟩ := st
    exact ⟨⟨old, k e (by simp) _ en⟩, hi.at fun o q => k it (by simp) o q, z⟩
  item := by
    intro X hP hw hK hc i pins s σ H E I hf st hg
    subst hP hw hK
    obtain ⟨⟨old, en⟩, hit, n1, n2, n3⟩ := st
    obtain ⟨xs, x, hq, hx⟩ := hg
    obtain ⟨its, rv, p, hz⟩ := I.tuple hq
    obtain ⟨u, hu, ru⟩ := rv.get hx
    have elt : e < s.heap.objs.size := Heap.lt_size en
    have ilt : it < s.heap.objs.size := by obtain ⟨_, q, _⟩ := hit; exact Heap.lt_size q
    have il : i < its.toArray.size := by
      have := (List.getElem?_eq_some_iff.mp hu).1
      simpa using this
    refine wpAny_pyNext_enum_itemD (Draws.tuple (show X.A.in1.handled = none from I.ok.hd hc) it a n2 its.toArray) en ⟨hit, p⟩ il n1 (by simp; exact ⟨n1, n3⟩) fun y h' tk hy ho ⟨hit', p'⟩ hT hsz hk => ?_
    have ey : y = u := by
      have z : its.toArray[i]? = some u := by simpa using hu
      rw [z] at hy
      exact (Option.some.inj hy).symm
    subst ey
    refine ⟨_, rfl, wpAny_letOwnedTupleGo_enum (s := { s with heap := h', toks := tk + 1 }) ho fun h'' en' sb => ?_⟩
    have hT2 : h''.get? s.heap.objs.size = some { cls := .type "tuple", data := .seq #[.int i tk, y] } := (sb.2 _ (Nat.ne_of_gt elt)).trans hT
    have new : ObjOk X.prog X.w (upd H s.heap.objs.size (.tup [.int (i : Nat), x])) h'' s.heap.objs.size (.tup [.int (i : Nat), x]) :=
      ⟨by show 2 ≤ sizeLine; decide, [.int i tk, y], .cons ⟨_, rfl⟩ (.cons ru .nil), ⟨_, hT2, rfl, _, rfl⟩⟩
    have I1 : Inv X pins σ (upd H s.heap.objs.size (.tup [.int (i : Nat), x])) { s with heap := h'', toks := tk + 1 } :=
      I.turnedNew (ch := [e, it]) (fun b o hb q => (sb.2 b (fun z => hb (by simp [z]))).trans (hk b o (fun z => hb (by simp [z])) (fun z => hb (by simp [z])) q)) hf (Nat.le_refl _) new
    refine ⟨.ref s.heap.objs.size, _, I1, rfl, ⟨_, x, rfl, I.hok.fresh (Nat.le_refl _), rfl, fun ys hy => by rw [I.tuple_inj hy hq]; exact hx⟩, ⟨⟨y, ?_⟩, hit'.at fun o q => (sb.2 it (Ne.symm n1)).trans q, n1, n2, n3⟩, fun b hb => ?_⟩
    · have ei : ((i + 1 : Nat) : Int) = (i : Int) + 1 := by omega
      rw [ei]
      exact en'
    · have lt : b < s.heap.objs.size := by
        rcases (show b = e ∨ b = it by simpa using hb) with rfl | rfl
        · exact elt
        · exact ilt
      rw [upd_ne (Nat.ne_of_lt lt)]
      exact (hf b hb).1
  done := by
    intro X hP hw hK hc i pins s σ H E I hf st hg
    subst hP hw hK
    obtain ⟨⟨old, en⟩, hit, n1, n2, n3⟩ := st
    obtain ⟨xs, hq, hx⟩ := hg
    obtain ⟨its, rv, p, hz⟩ := I.tuple hq
    have hl := rv.length
    obtain ⟨f0, f1, f2, f3, f4, f5⟩ := hf it (by simp)
    have ei : its.toArray.size = i := by simp; omega
    have D := Draws.tuple (prog := X.prog) (w := X.w) (A := X.A.in1) (show X.A.in1.handled = none from I.ok.hd hc) it a n2 its.toArray
    rw [ei] at D
    exact wpAny_pyNext_enum_endD D en ⟨hit, p⟩ fun h' eb => ⟨rfl, I.turned (t' := s.toks) (fun b o hb q => eb b o hb q) f0 f1 f3 f4 f5⟩
  self := fun A i s Q E st h => by
    obtain ⟨⟨_, en⟩, _⟩ := st
    exact wpAny_pyIter_enum en h
def iEnumA (K : PySem.W.Frag) (ta : TA) : TI := fun σ H R => ta σ H fun vs H1 => ∃ a xs, vs = [.ref a] ∧ ((SqL K H1 a xs ∧ R (Ite K a) H1) ∨ (SqT K H1 a xs ∧ R (IteT K a) H1))
theorem pi_enumA {X : Cx} {e : Expr} {ta : TA} {p pos tpos : Pos} {elts : List Expr} {kk : Nat} (hg : Gl X "enumerate") (hm : X.mg "enumerate" = none) (ha : PA X [e] ta) (hs : starEach [e] X.env = [(false, eval e X.env)] := by rfl) :
    PI X (.Tuple elts kk tpos) (.Call (.Name "enumerate" p) [e] [] pos) (iEnumA X.K ta) := by
  refine ⟨fun pins s σ H R I h => ?_⟩
  refine Call_ (ld_blt I hg hm boot_enumerate (PyProof.Rows.callWith_type1 (thn (ha.run pos pins s σ H _ I h) fun us s1 ⟨vs, H1, I1, r1, q1⟩ => ?_) hs rfl))
  obtain ⟨a, xs, rfl, q1⟩ := q1
  obtain ⟨u, rfl, ru⟩ : ∃ u, us = [u] ∧ RelV (.ref a) u := by
    cases r1 with
    | cons r rr => cases rr; exact ⟨_, rfl, r⟩
  cases ru
  have new : ∀ b ∈ [s1.heap.objs.size + 1, s1.heap.objs.size], FpOk X pins H1 b := fun b hb => by
    have hle : s1.heap.objs.size ≤ b := by
      rcases (show b = s1.heap.objs.size + 1 ∨ b = s1.heap.objs.size by simpa using hb) with z | z
      · exact z ▸ Nat.le_add_right _ _
      · exact z ▸ Nat.le_refl _
    exact I1.fpOk hle (I1.hok.fresh hle)
  rcases q1 with ⟨hq, q⟩ | ⟨hq, q⟩
  · obtain ⟨its, rv, t, hz⟩ := I1.list hq
    refine call_enumerate_list t.isList fun h' en hit _ hk => wpAny_pyIter_enum en ?_
    have I2 : Inv X pins σ H1 { s1 with heap := h' } := I1.kept (t' := s1.toks) hk
    exact ⟨s1.heap.objs.size + 1, _, _, _, H1, rfl, I2, turn_enum a (s1.heap.objs.size + 1) s1.heap.objs.size, ⟨⟨.none, en⟩, hit, Nat.succ_ne_self _⟩, new, q⟩
  · obtain ⟨its, rv, t, hz⟩ := I1.tuple hq
    obtain ⟨o0, ho0, _⟩ := id t
    have la : a < s1.heap.objs.size := Heap.lt_size ho0
    refine enum_call1 (begins_tuple a its.toArray) t fun h' en hit hk => wpAny_pyIter_enum en ?_
    have I2 : Inv X pins σ H1 { s1 with heap := h' } := I1.kept (t' := s1.toks) hk
    exact ⟨s1.heap.objs.size + 1, _, _, _, H1, rfl, I2, turn_enumT a (s1.heap.objs.size + 1) s1.heap.objs.size, ⟨⟨.none, en⟩, ⟨_, hit, rfl, rfl⟩, Nat.succ_ne_self _, Nat.ne_of_lt la, Nat.ne_of_gt (Nat.lt_succ_of_lt la)⟩, new, q⟩
theorem walk_enumT {K : PySem.W.Frag} {a : Addr} {xs : List V} : Walk (IteT K a) xs.length (fun H => SqT K H a xs) (fun i H v H' => ∃ T x, v = .ref T ∧ H T = none ∧ H' = upd H T (.tup [.int (i : Nat), x]) ∧ xs[i]? = some x) :=
  ⟨fun i H hi q => ⟨xs, xs[i], q, List.getElem?_eq_getElem hi⟩, fun H q => ⟨xs, q, rfl⟩, fun i H v H' hi q y => by
    obtain ⟨T, x, rfl, hT, eH, hx⟩ := y
    exact ⟨T, x, rfl, hT, eH, hx xs q⟩⟩
section
variable {K : PySem.W.Frag} {G0 H0 G H : Hp} {D : List Addr} {M : List (Addr × HO)} {σ σ' : L2.St} {Q : VK} {tt : TT} {ta te : TE} {t : TA} {ts : TS} {ds fs : List Dt} {vss : List Nat} {nx bk ct : L2.St → Hp → Prop} {rt : VK} {x y : V} {d : Dt}
def ETK (K : PySem.W.Frag) (k : It → Hp → Prop) (vs : List V) (H : Hp) : Prop := ∃ a xs, vs = [.ref a] ∧ ((SqL K H a xs ∧ k (Ite K a) H) ∨ (SqT K H a xs ∧ k (IteT K a) H))
theorem go_iEnumA {k : It → Hp → Prop} (h : t σ H fun vs H1 => ETK K k vs H1) : iEnumA K t σ H k := h
theorem go_etkL {k : It → Hp → Prop} (hx : Rp K G x (.lst ds)) (e : Same G H) (h : ∀ a xs, x = .ref a → SqL K G a xs → RpAll K G xs ds → k (Ite K a) H) : ETK K k [x] H := by
  obtain ⟨a, xs, rfl, hs, ha⟩ := Rp.lst_inv hx
  exact ⟨a, xs, rfl, .inl ⟨e.seq hs, h a xs rfl hs ha⟩⟩
theorem go_etkT {k : It → Hp → Prop} (hx : Rp K G x (.tup ds)) (e : Same G H) (h : ∀ a xs, x = .ref a → SqT K G a xs → RpAll K G xs ds → k (IteT K a) H) : ETK K k [x] H := by
  obtain ⟨a, xs, rfl, hs, ha⟩ := Rp.tup_inv hx
  exact ⟨a, xs, rfl, .inr ⟨Same.t e hs, h a xs rfl hs ha⟩⟩
/-- for i, x in enumerate(tuple) -/
theorem forET {a : Addr} {xs : List V} {i1 j1 : Nat} (hS : Sta K G0 H0 D G M H) (hq : SqT K G a xs) (hr : RpAll K G xs ds) (W : Nat → L2.St → Hp → List (Addr × HO) → Prop) (h0 : W 0 σ G M)
    (hs : ∀ i x d σ' G1 M1 H1, i < ds.length → ds[i]? = some d → Same G G1 → Sta K G0 H0 D G1 M1 H1 → Rp K G1 x d → (∃ G2, Same G2 G1 ∧ W i σ' G2 M1) → ∀ σ2, List.set (List.set σ' i1 (some (.int i))) j1 (some x) = σ2 → ts ⟨Nx K G0 H0 D G (W (i + 1)), rt, nx, Nx K G0 H0 D G (W (i + 1))⟩ σ2 H1)
    (hd : ∀ σ' G1 M1 H1, Same G G1 → Sta K G0 H0 D G1 M1 H1 → W ds.length σ' G1 M1 → nx σ' H1) : ForG (IteT K a) (gTup K 2 (gCons (gName i1) (gCons (gName j1) gNil))) ts ⟨nx, rt, bk, ct⟩ σ H :=
  forI (walk_enumT (xs := xs)) hS (fun H1 e => Same.t e hq) W h0 (fun i x σ' G1 M1 H1 H2 hi e s w y => by
    obtain ⟨T, v, rfl, hT, eH, h2⟩ := y
    obtain ⟨d, hd', rd⟩ := hr.getV h2
    obtain ⟨G2, e2, s2, q2⟩ := s.pair hT eH
    exact go_gpair q2 rfl (hs i v d σ' G2 M1 H2 (by rw [← hr.length]; exact hi) hd' (e.trans e2) s2 (rd.up (e.trans e2)) ⟨G1, e2, w⟩ _ rfl)) (by rw [hr.length]; exact hd)
end
/-! ### a range as a thing of its own -/
def rRange2_ : List V → Hp → VK → Prop := fun vs H Q => ∃ i j, vs = [V.int i, V.int j] ∧ ∀ p, H p = none → Q (.ref p) (upd H p (.rng i j))
theorem b_range2 {X : Cx} : CallR X (.type "range") rRange2_ := cr_range2
def iRngO (te : TE) : TI := fun σ H R => te σ H fun x H1 => ∃ a lo hi, x = .ref a ∧ H1 a = some (.rng lo hi) ∧ (-(2 ^ 62) ≤ lo ∧ lo < 2 ^ 62 ∧ -(2 ^ 62) ≤ hi ∧ hi < 2 ^ 62) ∧ R (Itr lo (hi - lo).toNat) H1
theorem pi_rng {X : Cx} {tg l : Expr} {tl : TE} (hl : PE X l tl) : PI X tg l (iRngO tl) := by
  refine ⟨fun pins s σ H R I h => ?_⟩
  refine thn (hl.run pins s σ H _ I h) fun v s1 ⟨x, H1, I1, r1, q1⟩ => ?_
  obtain ⟨a, lo, hi, rfl, ha, ⟨b1, b2, b3, b4⟩, q⟩ := q1
  cases r1
  obtain ⟨t, u, v, ho⟩ := I1.hok a _ ha
  refine wpAny_pyIter_range ho (small_one b1 b2 b3 b4) ?_
  refine ⟨s1.heap.objs.size, [s1.heap.objs.size], _, _, H1, rfl, I1.kept (t' := s1.toks) fun b o e => Heap.get?_push_of_some _ e, turn_range _ lo (hi - lo).toNat, ?_, fun b hb => ?_, q⟩
  · have z1 : lo + ((0 : Nat) : Int) * 1 = lo := by simp
    have z2 : (((hi - lo).toNat : Nat) : Int) - ((0 : Nat) : Int) = Builtin.Range.rangeSize lo hi 1 := by
      rw [rangeSize_one]
      split <;> omega
    show IsRangeIter _ _ (lo + ((0 : Nat) : Int) * 1) ((((hi - lo).toNat : Nat) : Int) - ((0 : Nat) : Int)) 1
    rw [z1, z2]
    exact Heap.get?_push_size _ rfl
  · have z : b = s1.heap.objs.size := by simpa using hb
    subst z
    exact I1.fpOk (Nat.le_refl _) (I1.hok.fresh (Nat.le_refl _))
section
variable {K : PySem.W.Frag} {G0 H0 G H : Hp} {D : List Addr} {M : List (Addr × HO)} {σ : L2.St} {Q : VK} {te : TE} {x : V}
def RKO (k : It → Hp → Prop) (x : V) (H : Hp) : Prop := ∃ a lo hi, x = .ref a ∧ H a = some (.rng lo hi) ∧ (-(2 ^ 62) ≤ lo ∧ lo < 2 ^ 62 ∧ -(2 ^ 62) ≤ hi ∧ hi < 2 ^ 62) ∧ k (Itr lo (hi - lo).toNat) H
theorem go_iRngO {k : It → Hp → Prop} (h : te σ H fun x H1 => RKO k x H1) : iRngO te σ H k := h
theorem go_rangeV {i j : Int} (hS : Sta K G0 H0 D G M H) (k : ∀ p G1 H1, Same G G1 → Sta K G0 H0 D G1 M H1 → G1 p = some (.rng i j) → Q (.ref p) H1) : rRange2_ [.int i, .int j] H Q :=
  ⟨i, j, rfl, fun p hp => k p _ _ (same_upd (hS.gn hp)) (hS.imm hp _) upd_same⟩
theorem go_rko {a : Addr} {lo hi : Int} {k : It → Hp → Prop} (hx : G a = some (.rng lo hi)) (e : Same G H) (b : -(2 ^ 62) ≤ lo ∧ lo < 2 ^ 62 ∧ -(2 ^ 62) ≤ hi ∧ hi < 2 ^ 62) (h : k (Itr lo (hi - lo).toNat) H) : RKO k (.ref a) H :=
  ⟨a, lo, hi, rfl, e _ _ hx, b, h⟩
end
/-- the class of what was raised -/
def clsA : Value → Addr
  | .ref a => a
  | _ => 0
/-- list(x) of ints: a list known as it is -/
theorem go_listRI {K : PySem.W.Frag} {G0 H0 G H : Hp} {D : List Addr} {M : List (Addr × HO)} {Q : VK} {x : V} {r : List Int} (hS : Sta K G0 H0 D G M H) (hx : Rp K G x (.lst (r.map .int)) ∨ Rp K G x (.tup (r.map .int))) (k : ∀ p G1 H1, Same G G1 → Sta K G0 H0 D G1 M H1 → G1 p = some (.lst (r.map .int)) → Q (.ref p) H1) : rListOf_ K [x] H Q := by
  rcases hx with hx | hx
  · obtain ⟨a, xs, rfl, hs, ha⟩ := Rp.lst_inv hx
    have := ha.ints_inv
    subst this
    exact ⟨a, _, rfl, .inl (hS.gh.seq hs), fun p hp => k p _ _ (same_upd (hS.gn hp)) (hS.imm hp _) upd_same⟩
  · obtain ⟨a, xs, rfl, hs, ha⟩ := Rp.tup_inv hx
    have := ha.ints_inv
    subst this
    exact ⟨a, _, rfl, .inr (Same.t hS.gh hs), fun p hp => k p _ _ (same_upd (hS.gn hp)) (hS.imm hp _) upd_same⟩
section
variable {K : PySem.W.Frag} {G0 H0 G H : Hp} {D : List Addr} {M : List (Addr × HO)} {σ : L2.St} {Q : VK} {tt : TT} {te : TE} {vss : List Nat}
theorem lcMapTRL {α : Type} {a : Addr} {xs : List V} {g : TG} {as : List α} {Da : α → Dt} {F : α → Dt} (hS : Sta K G0 H0 D G M H) (hq : SqL K G a xs) (hr : RpAll K G xs (as.map Da)) (hl : as.length ≤ 100000)
    (hs : ∀ x c L G1 vs es H1 (Z : List (Addr × HO) → List Dt → Prop), c ∈ as → Rp K G1 x (Da c) → Same G G1 → H0 L = none → Sta K G0 H0 D G1 ((L, .lst vs) :: M) H1 → RpAll K G1 vs es → (∀ y G2 H2, Same G1 G2 → Sta K G0 H0 D G2 ((L, .lst vs) :: M) H2 → Rp K G2 y (F c) → LcY K G0 H0 D G L Z y H2) →
      g x (wipe σ vss) H1 fun σ2 H3 => wipe σ2 vss = wipe σ vss ∧ tt σ2 H3 fun b H4 => if b = true then te σ2 H4 (LcY K G0 H0 D G L Z) else LcP K G0 H0 D G L Z H4)
    (hd : ∀ p G1 H1, Same G G1 → Sta K G0 H0 D G1 M H1 → RpL K G1 p (as.map F) → Q (.ref p) H1) : LcG (Itl K a) g tt te vss σ Q H := by
  refine lcIM (walk_list (xs := xs)) hS (fun H1 e => e.seq hq) (fun i M1 es => M1 = M ∧ es = (as.take i).map F) ⟨rfl, rfl⟩ (fun i x L G1 M1 vs es H1 H2 hi e l0 s r w yy => ?_) (fun L G1 M1 vs es H1 e l0 s r w => ?_)
  · obtain ⟨rfl, rfl⟩ := w
    obtain ⟨rfl, hx⟩ := yy
    have hi2 : i < as.length := by
      have := hr.length
      rw [List.length_map] at this
      omega
    obtain ⟨d, hd', rd⟩ := hr.getV hx
    rw [List.getElem?_map, List.getElem?_eq_getElem hi2] at hd'
    cases hd'
    refine hs x as[i] L G1 vs _ H2 _ (List.getElem_mem hi2) (rd.up e) e l0 s r fun y G2 H3 e2 s2 hy => ?_
    refine lcY s2 (e.trans e2) (r.up e2) hy (by simp; omega) ⟨rfl, ?_⟩
    rw [List.take_add_one, List.getElem?_eq_getElem hi2, List.map_append]
    rfl
  · obtain ⟨rfl, rfl⟩ := w
    have hl2 := hr.length
    rw [List.length_map] at hl2
    rw [List.take_of_length_le (by omega)] at r
    obtain ⟨s2, e2⟩ := s.frz l0
    exact hd L _ H1 (e.trans e2) s2 ⟨vs, upd_same, r.up e2⟩
end
end B
namespace B
open PySem PySem.Spec PyProof.Rows L2 RZ
/-! ### states with two things that change; things taken in, frozen -/
section
variable {K : PySem.W.Frag} {G0 H0 G H G1 H1 : Hp} {D : List Addr} {M : List (Addr × HO)} {p q : Addr} {o u o' u' : HO}
theorem Sta.start2 (e : Same G H) (hp : H p = some o) (hq : H q = some o') (gp : G p = none) (gq : G q = none) (n : p ≠ q) : Sta K G H [p, q] G [(p, o), (q, o')] H :=
  ⟨Same.refl G, e, fun _ _ => rfl, fun _ _ h _ => h, fun _ h => h, by simp [n], fun r hr => by
    rcases List.mem_cons.mp hr with rfl | hr
    · exact ⟨hp, gp, .inl (by simp)⟩
    · rw [List.mem_singleton.mp hr]
      exact ⟨hq, gq, .inl (by simp)⟩⟩
theorem Sta.callM2 (h : Sta K G0 H0 D G M H) {i j : Nat} (hi : M[i]? = some (p, o)) (hj : M[j]? = some (q, o')) (n : p ≠ q) (a : Adv [p, q] G H G1 H1) (hp : H1 p = some u) (hq : H1 q = some u') : Sta K G0 H0 D G1 ((M.set i (p, u)).set j (q, u')) H1 := by
  have ij : i ≠ j := fun e => by
    subst e
    rw [hi] at hj
    cases hj
    exact n rfl
  have hj' : (M.set i (p, u))[j]? = some (q, o') := by rw [List.getElem?_set_ne ij]; exact hj
  have nd' : ((M.set i (p, u)).map (·.1)).Nodup := by rw [set_keys hi]; exact h.md
  have own : ∀ r o, (r, o) ∈ M → r ∈ D ∨ H0 r = none := fun r o hr => (h.mh _ hr).2.2
  refine ⟨h.g0.trans a.gg, a.gh, fun b hb => by rw [a.fr b (h.up b hb)]; exact h.fr b hb, fun b v hb hd => ?_, fun b hb => a.up b (h.up b hb), ?_, fun r hr => ?_⟩
  · have np : ∀ (r : Addr) (o : HO), (r, o) ∈ M → b ≠ r := fun r o hr e => by
      subst e
      rcases own _ _ hr with z | z
      · exact hd z
      · rw [hb] at z; cases z
    refine a.kp b v (h.kp b v hb hd) ?_
    simp only [List.mem_cons, List.not_mem_nil, or_false, not_or]
    exact ⟨np _ _ (List.mem_of_getElem? hi), np _ _ (List.mem_of_getElem? hj)⟩
  · rw [set_keys hj']
    exact nd'
  · rcases set_mem nd' hj' hr with rfl | ⟨hm, hn⟩
    · obtain ⟨e1, e2, e3⟩ := h.mh _ (List.mem_of_getElem? hj)
      exact ⟨hq, by rw [a.fr _ (by rw [e1]; exact fun z => nomatch z)]; exact e2, e3⟩
    · rcases set_mem h.md hi hm with rfl | ⟨hm2, hn2⟩
      · obtain ⟨e1, e2, e3⟩ := h.mh _ (List.mem_of_getElem? hi)
        exact ⟨hp, by rw [a.fr _ (by rw [e1]; exact fun z => nomatch z)]; exact e2, e3⟩
      · obtain ⟨e1, e2, e3⟩ := h.mh r hm2
        exact ⟨a.kp _ _ e1 (by simp only [List.mem_cons, List.not_mem_nil, or_false, not_or]; exact ⟨hn2, hn⟩), by rw [a.fr _ (by rw [e1]; exact fun z => nomatch z)]; exact e2, e3⟩
theorem Sta.adopt (h : Sta K G0 H0 D G M H) (hp : H p = some o) (gp : G p = none) (h0 : H0 p = none) (hm : ∀ r ∈ M, r.1 ≠ p) : Sta K G0 H0 D G ((p, o) :: M) H :=
  ⟨h.g0, h.gh, h.fr, h.kp, h.up, by
    simp only [List.map_cons, List.nodup_cons]
    exact ⟨fun z => by
      obtain ⟨r, hr, e⟩ := List.mem_map.mp z
      exact hm r hr e, h.md⟩, fun r hr => by
    rcases List.mem_cons.mp hr with rfl | hr
    · exact ⟨hp, gp, .inr h0⟩
    · exact h.mh r hr⟩
end
/-! ### instances known as they are -/
section
variable {K : PySem.W.Frag} {G0 H0 G H : Hp} {D : List Addr} {M : List (Addr × HO)} {σ : L2.St} {Q : VK} {tt : TT} {te : TE} {t : TS} {vss : List Nat} {x y : V} {ds : List Dt} {C a dx : Addr} {fs : List (Str × V)} {nx bk ct : L2.St → Hp → Prop} {rt : VK}
theorem go_fldI {f : Str} {v : V} (hx : G a = some (.ins C dx fs)) (e : Same G H) (cl : Cls K C) (na : NoAttr K C f) (hi : fs.lookup f = some v) (k : Q v H) : FK K f Q (.ref a) H := ⟨a, C, dx, fs, v, rfl, e _ _ hx, cl, na, hi, k⟩
theorem go_mtkI {m : Str} {kk : Hp → Prop} (hx : G a = some (.ins C dx fs)) (e : Same G H) (hm : fs.lookup m = none) (h : kk H) : MTK C m kk (.ref a) H := ⟨a, dx, fs, rfl, e _ _ hx, hm, h⟩
theorem go_itlR {xs : List V} {k : It → Hp → Prop} (hx : G a = some (.lst xs)) (e : Same G H) (h : k (Itl K a) H) : LK K k (.ref a) H := ⟨a, rfl, ⟨xs, .inl (.inl (e _ _ hx))⟩, h⟩
/-- a loop over a list known as it is -/
theorem forV {xs : List V} {g : TG} (hS : Sta K G0 H0 D G M H) (hq : G a = some (.lst xs)) (W : Nat → L2.St → Hp → List (Addr × HO) → Prop) (h0 : W 0 σ G M)
    (hs : ∀ i x σ' G1 M1 H1, i < xs.length → xs[i]? = some x → Same G G1 → Sta K G0 H0 D G1 M1 H1 → W i σ' G1 M1 → g x σ' H1 fun σ2 H3 => t ⟨Nx K G0 H0 D G (W (i + 1)), rt, nx, Nx K G0 H0 D G (W (i + 1))⟩ σ2 H3)
    (hd : ∀ σ' G1 M1 H1, Same G G1 → Sta K G0 H0 D G1 M1 H1 → W xs.length σ' G1 M1 → nx σ' H1) : ForG (Itl K a) g t ⟨nx, rt, bk, ct⟩ σ H :=
  forI (walk_list (xs := xs)) hS (fun H1 e => .inl (.inl (e _ _ hq))) W h0 (fun i x σ' G1 M1 H1 H2 hi e s w y => by
    obtain ⟨rfl, hx⟩ := y
    exact hs i x σ' G1 M1 H2 hi hx e s w) hd
/-- items of a list that may change -/
theorem go_ixMR {xs : List V} {n : Int} {d : Dt} (hS : Sta K G0 H0 D G M H) {i : Nat} (hi : M[i]? = some (a, .lst xs)) (hr : RpAll K G xs ds) (hd : atI ds n = some d) (k : ∀ v, Rp K G v d → Q v H) : rIx K (.ref a) (.int n) H Q := by
  obtain ⟨v, hv, rv⟩ := hr.atI hd
  exact .inl ⟨a, xs, n, v, rfl, rfl, SqL.of (hS.get hi), hv, k v rv⟩
/-- a comprehension with a test, over a range -/
theorem lcFiltR {lo : Int} {n : Nat} {g : TG} {p : Nat → Bool} {F : Nat → Dt} (hS : Sta K G0 H0 D G M H) (hl : n ≤ 100000)
    (hs : ∀ (i : Nat) L G1 vs es H1 (Z Z0 : List (Addr × HO) → List Dt → Prop), i < n → Same G G1 → H0 L = none → Sta K G0 H0 D G1 ((L, .lst vs) :: M) H1 → RpAll K G1 vs es → (p i = true → ∀ y G2 H2, Same G1 G2 → Sta K G0 H0 D G2 ((L, .lst vs) :: M) H2 → Rp K G2 y (F i) → LcY K G0 H0 D G L Z y H2) → (p i = false → ∀ G2 H2, Same G1 G2 → Sta K G0 H0 D G2 ((L, .lst vs) :: M) H2 → LcP K G0 H0 D G L Z H2) →
      g (.int (lo + i)) (wipe σ vss) H1 fun σ2 H3 => wipe σ2 vss = wipe σ vss ∧ tt σ2 H3 fun b H4 => if b = true then te σ2 H4 (LcY K G0 H0 D G L Z) else LcP K G0 H0 D G L Z H4)
    (hd : ∀ p' G1 H1, Same G G1 → Sta K G0 H0 D G1 M H1 → Rp K G1 (.ref p') (.lst (((List.range n).filter p).map F)) → Q (.ref p') H1) : LcG (Itr lo n) g tt te vss σ Q H := by
  refine lcR hS (fun i M1 es => M1 = M ∧ es = ((List.range i).filter p).map F) ⟨rfl, rfl⟩ (fun i L G1 M1 vs es H1 hi e l0 s r w => ?_) (fun p' G1 M1 es H1 e s r w => ?_)
  · obtain ⟨rfl, rfl⟩ := w
    have len : (((List.range i).filter p).map F).length ≤ i := by
      rw [List.length_map]
      exact Nat.le_trans (List.length_filter_le _ _) (by simp)
    refine hs i L G1 vs _ H1 _ (fun _ _ => True) hi e l0 s r (fun hp y G2 H2 e2 s2 hy => ?_) (fun hp G2 H2 e2 s2 => ?_)
    · refine lcY s2 (e.trans e2) (r.up e2) hy (by omega) ⟨rfl, ?_⟩
      rw [List.range_succ, List.filter_append, List.map_append]
      simp [hp]
    · refine lcN s2 (e.trans e2) (r.up e2) ⟨rfl, ?_⟩
      rw [List.range_succ, List.filter_append, List.map_append]
      simp [hp]
  · obtain ⟨rfl, rfl⟩ := w
    exact hd p' G1 H1 e s r
/-- over a range, a tuple, a list; the new list may change -/
theorem lcMapRM {lo : Int} {n : Nat} {g : TG} {F : Nat → Dt} (hS : Sta K G0 H0 D G M H) (hl : n ≤ 100000)
    (hs : ∀ (i : Nat) L G1 vs es H1 (Z : List (Addr × HO) → List Dt → Prop), i < n → Same G G1 → H0 L = none → Sta K G0 H0 D G1 ((L, .lst vs) :: M) H1 → RpAll K G1 vs es → (∀ y G2 H2, Same G1 G2 → Sta K G0 H0 D G2 ((L, .lst vs) :: M) H2 → Rp K G2 y (F i) → LcY K G0 H0 D G L Z y H2) →
      g (.int (lo + i)) (wipe σ vss) H1 fun σ2 H3 => wipe σ2 vss = wipe σ vss ∧ tt σ2 H3 fun b H4 => if b = true then te σ2 H4 (LcY K G0 H0 D G L Z) else LcP K G0 H0 D G L Z H4)
    (hd : ∀ L vs G1 H1, Same G G1 → H0 L = none → Sta K G0 H0 D G1 ((L, .lst vs) :: M) H1 → RpAll K G1 vs ((List.range n).map F) → Q (.ref L) H1) : LcG (Itr lo n) g tt te vss σ Q H := by
  refine lcIM walk_range hS (fun _ _ => trivial) (fun i M1 es => M1 = M ∧ es = (List.range i).map F) ⟨rfl, rfl⟩ (fun i x L G1 M1 vs es H1 H2 hi e l0 s r w yy => ?_) (fun L G1 M1 vs es H1 e l0 s r w => ?_)
  · obtain ⟨rfl, rfl⟩ := w
    obtain ⟨rfl, rfl⟩ := yy
    refine hs i L G1 vs _ H2 _ hi e l0 s r fun y G2 H3 e2 s2 hy => ?_
    refine lcY s2 (e.trans e2) (r.up e2) hy (by simp; omega) ⟨rfl, ?_⟩
    rw [List.range_succ, List.map_append]
    rfl
  · obtain ⟨rfl, rfl⟩ := w
    exact hd L vs G1 H1 e l0 s r
theorem lcMapTM {α : Type} {xs : List V} {g : TG} {as : List α} {Da : α → Dt} {F : α → Dt} (hS : Sta K G0 H0 D G M H) (hq : SqT K G a xs) (hr : RpAll K G xs (as.map Da)) (hl : as.length ≤ 100000)
    (hs : ∀ x c L G1 vs es H1 (Z : List (Addr × HO) → List Dt → Prop), c ∈ as → Rp K G1 x (Da c) → Same G G1 → H0 L = none → Sta K G0 H0 D G1 ((L, .lst vs) :: M) H1 → RpAll K G1 vs es → (∀ y G2 H2, Same G1 G2 → Sta K G0 H0 D G2 ((L, .lst vs) :: M) H2 → Rp K G2 y (F c) → LcY K G0 H0 D G L Z y H2) →
      g x (wipe σ vss) H1 fun σ2 H3 => wipe σ2 vss = wipe σ vss ∧ tt σ2 H3 fun b H4 => if b = true then te σ2 H4 (LcY K G0 H0 D G L Z) else LcP K G0 H0 D G L Z H4)
    (hd : ∀ L vs G1 H1, Same G G1 → H0 L = none → Sta K G0 H0 D G1 ((L, .lst vs) :: M) H1 → RpAll K G1 vs (as.map F) → Q (.ref L) H1) : LcG (Itt K a) g tt te vss σ Q H := by
  have xl := hr.length
  rw [List.length_map] at xl
  refine lcIM (walk_tup (xs := xs)) hS (fun H1 e => Same.t e hq) (fun i M1 es => M1 = M ∧ es = (as.take i).map F) ⟨rfl, rfl⟩ (fun i x L G1 M1 vs es H1 H2 hi e l0 s r w yy => ?_) (fun L G1 M1 vs es H1 e l0 s r w => ?_)
  · obtain ⟨rfl, rfl⟩ := w
    obtain ⟨rfl, hx⟩ := yy
    have hi2 : i < as.length := by omega
    obtain ⟨d, hd', rd⟩ := hr.getV hx
    rw [List.getElem?_map, List.getElem?_eq_getElem hi2] at hd'
    cases hd'
    refine hs x as[i] L G1 vs _ H2 _ (List.getElem_mem hi2) (rd.up e) e l0 s r fun y G2 H3 e2 s2 hy => ?_
    refine lcY s2 (e.trans e2) (r.up e2) hy (by simp; omega) ⟨rfl, ?_⟩
    rw [List.take_add_one, List.getElem?_eq_getElem hi2, List.map_append]
    rfl
  · obtain ⟨rfl, rfl⟩ := w
    rw [List.take_of_length_le (by omega)] at r
    exact hd L vs G1 H1 e l0 s r
theorem lcMapLM {α : Type} {xs : List V} {g : TG} {as : List α} {Da : α → Dt} {F : α → Dt} (hS : Sta K G0 H0 D G M H) (hq : SqL K G a xs) (hr : RpAll K G xs (as.map Da)) (hl : as.length ≤ 100000)
    (hs : ∀ x c L G1 vs es H1 (Z : List (Addr × HO) → List Dt → Prop), c ∈ as → Rp K G1 x (Da c) → Same G G1 → H0 L = none → Sta K G0 H0 D G1 ((L, .lst vs) :: M) H1 → RpAll K G1 vs es → (∀ y G2 H2, Same G1 G2 → Sta K G0 H0 D G2 ((L, .lst vs) :: M) H2 → Rp K G2 y (F c) → LcY K G0 H0 D G L Z y H2) →
      g x (wipe σ vss) H1 fun σ2 H3 => wipe σ2 vss = wipe σ vss ∧ tt σ2 H3 fun b H4 => if b = true then te σ2 H4 (LcY K G0 H0 D G L Z) else LcP K G0 H0 D G L Z H4)
    (hd : ∀ L vs G1 H1, Same G G1 → H0 L = none → Sta K G0 H0 D G1 ((L, .lst vs) :: M) H1 → RpAll K G1 vs (as.map F) → Q (.ref L) H1) : LcG (Itl K a) g tt te vss σ Q H := by
  have xl := hr.length
  rw [List.length_map] at xl
  refine lcIM (walk_list (xs := xs)) hS (fun H1 e => e.seq hq) (fun i M1 es => M1 = M ∧ es = (as.take i).map F) ⟨rfl, rfl⟩ (fun i x L G1 M1 vs es H1 H2 hi e l0 s r w yy => ?_) (fun L G1 M1 vs es H1 e l0 s r w => ?_)
  · obtain ⟨rfl, rfl⟩ := w
    obtain ⟨rfl, hx⟩ := yy
    have hi2 : i < as.length := by omega
    obtain ⟨d, hd', rd⟩ := hr.getV hx
    rw [List.getElem?_map, List.getElem?_eq_getElem hi2] at hd'
    cases hd'
    refine hs x as[i] L G1 vs _ H2 _ (List.getElem_mem hi2) (rd.up e) e l0 s r fun y G2 H3 e2 s2 hy => ?_
    refine lcY s2 (e.trans e2) (r.up e2) hy (by simp; omega) ⟨rfl, ?_⟩
    rw [List.take_add_one, List.getElem?_eq_getElem hi2, List.map_append]
    rfl
  · obtain ⟨rfl, rfl⟩ := w
    rw [List.take_of_length_le (by omega)] at r
    exact hd L vs G1 H1 e l0 s r
/-- over zip of two lists of one length -/
theorem lcMapZL {α β : Type} {a b : Addr} {xs ys : List V} {as : List α} {bs : List β} {Da : α → Dt} {Db : β → Dt} {F : α → β → Dt} {i1 j1 : Nat} (hS : Sta K G0 H0 D G M H) (hq : SqL K G a xs) (hr : RpAll K G xs (as.map Da)) (hq' : SqL K G b ys) (hr' : RpAll K G ys (bs.map Db)) (hab : as.length = bs.length) (hl : as.length ≤ 100000)
    (hs : ∀ x y c e L G1 vs es H1 (Z : List (Addr × HO) → List Dt → Prop), c ∈ as → e ∈ bs → Rp K G1 x (Da c) → Rp K G1 y (Db e) → Same G G1 → H0 L = none → Sta K G0 H0 D G1 ((L, .lst vs) :: M) H1 → RpAll K G1 vs es → (∀ y G2 H2, Same G1 G2 → Sta K G0 H0 D G2 ((L, .lst vs) :: M) H2 → Rp K G2 y (F c e) → LcY K G0 H0 D G L Z y H2) →
      ∀ σ2, List.set (List.set (wipe σ vss) i1 (some x)) j1 (some y) = σ2 → wipe σ2 vss = wipe σ vss ∧ tt σ2 H1 fun b H4 => if b = true then te σ2 H4 (LcY K G0 H0 D G L Z) else LcP K G0 H0 D G L Z H4)
    (hd : ∀ p G1 H1, Same G G1 → Sta K G0 H0 D G1 M H1 → Rp K G1 (.ref p) (.lst (List.zipWith F as bs)) → Q (.ref p) H1) : LcG (Itz K a b) (gTup K 2 (gCons (gName i1) (gCons (gName j1) gNil))) tt te vss σ Q H := by
  refine lcZ hS hq hr hq' hr' (fun i M1 es => M1 = M ∧ es = (List.zipWith F as bs).take i) ⟨rfl, rfl⟩ (fun i u z d f L G1 M1 vs es H1 hi hd' hf' rd rf e l0 s r w σ2 eσ => ?_) (fun p G1 M1 es H1 e s r w => ?_)
  · obtain ⟨rfl, rfl⟩ := w
    rw [List.length_map, List.length_map] at hi
    have ha : i < as.length := by omega
    have hb : i < bs.length := by omega
    rw [List.getElem?_map, List.getElem?_eq_getElem ha] at hd'
    rw [List.getElem?_map, List.getElem?_eq_getElem hb] at hf'
    cases hd'
    cases hf'
    refine hs u z as[i] bs[i] L G1 vs _ H1 _ (List.getElem_mem ha) (List.getElem_mem hb) rd rf e l0 s r (fun y G3 H3 e3 s3 hy => ?_) σ2 eσ
    refine lcY s3 (e.trans e3) (r.up e3) hy (by simp; omega) ⟨rfl, ?_⟩
    have hz : i < (List.zipWith F as bs).length := by rw [List.length_zipWith]; omega
    rw [List.take_add_one, List.getElem?_eq_getElem hz]
    simp
  · obtain ⟨rfl, rfl⟩ := w
    rw [List.length_map, List.length_map, List.take_of_length_le (by rw [List.length_zipWith]; omega)] at r
    exact hd p G1 H1 e s r
theorem go_zkL {k : It → Hp → Prop} {fs : List Dt} (hx : Rp K G x (.lst ds)) (hy : Rp K G y (.lst fs)) (e : Same G H) (h : ∀ a b xs ys, x = .ref a → y = .ref b → SqL K G a xs → RpAll K G xs ds → SqL K G b ys → RpAll K G ys fs → k (Itz K a b) H) : ZTK K k [x, y] H := by
  obtain ⟨a, xs, rfl, hs, ha⟩ := Rp.lst_inv hx
  obtain ⟨b, ys, rfl, hs', ha'⟩ := Rp.lst_inv hy
  exact ⟨a, b, xs, ys, rfl, .inl ⟨e.seq hs, e.seq hs', h a b xs ys rfl rfl hs ha hs' ha'⟩⟩
/-- a list asked for its truth -/
theorem go_truL {ds : List Dt} {P : Bool → Hp → Prop} (hx : Rp K G x (.lst ds)) (e : Same G H) (h : P (!ds.isEmpty) H) : rTru_ K P x H := by
  obtain ⟨a, xs, rfl, hs, ha⟩ := Rp.lst_inv hx
  refine ⟨!xs.isEmpty, .inl ⟨xs, e.seq hs, rfl⟩, ?_⟩
  have : xs.isEmpty = ds.isEmpty := by
    cases ha <;> rfl
  rw [this]
  exact h
theorem go_tTru {ta : TE} {P : Bool → Hp → Prop} (h : ta σ H fun x H1 => rTru_ K P x H1) : tTru_ K ta σ H P := h
end
theorem putF3 {f g h : Str} {v u w : V} : (putF f v (putF g u (putF h w []))).length < 1000 := by
  have h1 := length_putF f v (putF g u (putF h w []))
  have h2 := length_putF g u (putF h w [])
  have h3 := length_putF h w []
  simp at h3
  omega
end B
/-! dicts whose keys are pairs of ints; lists that grow by whole lists; list * any int -/
namespace Bw
open PySem L2 B RZ
def ky (i j : Int) : List Key := [.inl i, .inl j]
theorem ky_inj {i j m n : Int} (h : ky i j = ky m n) : i = m ∧ j = n := by
  simp only [ky, List.cons.injEq, Sum.inl.injEq, and_true] at h
  exact h
def DKT (Q : VK) (x : V) (vs : List V) (H : Hp) : Prop := vs.length ≤ sizeLine ∧ ∀ p, H p = none → ∃ a v, x = .ref a ∧ DGet (upd H p (.tup vs)) a (.ref p) (some v) ∧ Q v (upd H p (.tup vs))
def DPT (nx : L2.St → Hp → Prop) (σ : L2.St) (v x : V) (vs : List V) (H : Hp) : Prop := vs.length ≤ sizeLine ∧ ∀ p, H p = none → ∃ a H4, x = .ref a ∧ DPut (upd H p (.tup vs)) a (.ref p) v H4 ∧ nx σ H4
section
variable {K : PySem.W.Frag} {G0 H0 G H : Hp} {D : List Addr} {M : List (Addr × HO)} {Q : VK} {x y v : V} {te td : TE} {t : TA} {σ : L2.St} {nx : L2.St → Hp → Prop} {rt : VK} {bk ct : L2.St → Hp → Prop}
theorem go_dget2 (h : td σ H fun x H1 => t σ H1 fun vs H2 => DKT Q x vs H2) : tDGet td (tTup t) σ H Q := h
theorem go_dput2 (h : te σ H fun v H1 => td σ H1 fun x H2 => t σ H2 fun vs H3 => DPT nx σ v x vs H3) : sDPut td (tTup t) te ⟨nx, rt, bk, ct⟩ σ H := h
theorem go_dnewT (hS : Sta K G0 H0 D G M H) (k : ∀ p H1, H0 p = none → G p = none → Sta K G0 H0 D G ((p, .dT []) :: M) H1 → Q (.ref p) H1) : tDNewT σ H Q := fun p hp => k p _ (hS.h0 hp) (hS.gn hp) (hS.mut hp _)
theorem go_dkt {a : Addr} {kvs : List (List Key × V)} {i j : Int} (hS : Sta K G0 H0 D G M H) (hx : G a = some (.dT kvs)) (e : valV kvs (ky i j) = some v) (k : ∀ G1 H1, Same G G1 → Sta K G0 H0 D G1 M H1 → Q v H1) : DKT Q (.ref a) [.int i, .int j] H :=
  ⟨sz (by simp), fun p hp => by
    have s1 := hS.imm hp (.tup [.int i, .int j])
    refine ⟨a, v, rfl, ?_, k _ _ (same_upd (hS.gn hp)) s1⟩
    have := DGet.t (k := ky i j) (s1.gh _ _ (same_upd (hS.gn hp) _ _ hx)) (b := p) upd_same
    rw [e] at this
    exact this⟩
theorem go_dpt {a : Addr} {kvs : List (List Key × V)} {i j : Int} {n : Nat} {M' : List (Addr × HO)} (hS : Sta K G0 H0 D G M H) (hi : M[n]? = some (a, .dT kvs)) (hl : kvs.length < 100000) (hM : M.set n (a, .dT (putK kvs (ky i j) v)) = M')
    (k : ∀ G1 H1, Same G G1 → Sta K G0 H0 D G1 M' H1 → nx σ H1) : DPT nx σ v (.ref a) [.int i, .int j] H :=
  ⟨sz (by simp), fun p hp => by
    subst hM
    have s1 := hS.imm hp (.tup [.int i, .int j])
    exact ⟨a, _, rfl, DPut.t (k := ky i j) (s1.get hi) upd_same (Nat.lt_of_lt_of_le hl (by decide)), k _ _ (same_upd (hS.gn hp)) (s1.set hi _)⟩⟩
theorem go_repZ {l : Addr} {k : Int} {xs : List V} (hS : Sta K G0 H0 D G M H) (hx : G l = some (.lst xs)) (hk : -1000000 ≤ k) (hk2 : k ≤ 1000000) (hl : xs.length * k.toNat ≤ 100000) (q : ∀ p G1 H1, Same G G1 → Sta K G0 H0 D G1 M H1 → G1 p = some (.lst (List.replicate k.toNat xs).flatten) → Q (.ref p) H1) : rRep (.ref l) (.int k) H Q :=
  ⟨l, k, xs, rfl, rfl, hS.gh _ _ hx, by omega, by omega, sz hl, fun p hp => q p _ _ (same_upd (hS.gn hp)) (hS.imm hp _) upd_same⟩
theorem go_ext {p b : Addr} {xs zs : List V} {M' : List (Addr × HO)} {i : Nat} (hS : Sta K G0 H0 D G M H) (hi : M[i]? = some (p, .lst xs)) (hb : G b = some (.lst zs)) (hl : xs.length + zs.length ≤ 100000) (hM : M.set i (p, .lst (xs ++ zs)) = M') (k : ∀ H1, Sta K G0 H0 D G M' H1 → Q .non H1) : rExtend (.ref p) [.ref b] H Q := by
  subst hM
  exact ⟨p, b, xs, zs, rfl, rfl, hS.get hi, hS.gh _ _ hb, sz hl, k _ (hS.set hi _)⟩
theorem go_catM {l b : Addr} {xs zs : List V} {i : Nat} (hS : Sta K G0 H0 D G M H) (hx : M[i]? = some (l, .lst xs)) (hz : G b = some (.lst zs)) (hl : xs.length + zs.length ≤ 100000) (k : ∀ p G1 H1, Same G G1 → Sta K G0 H0 D G1 M H1 → G1 p = some (.lst (xs ++ zs)) → Q (.ref p) H1) : rCat (.ref l) (.ref b) H Q :=
  ⟨l, b, xs, zs, rfl, rfl, hS.get hx, hS.gh _ _ hz, sz hl, fun p hp => k p _ _ (same_upd (hS.gn hp)) (hS.imm hp _) upd_same⟩
end
theorem rep1 {v : V} (n : Nat) : (List.replicate n [v]).flatten = List.replicate n v := rep_one n
theorem rpAll_rep {K : PySem.W.Frag} {G : Hp} {v : V} {d : Dt} (h : Rp K G v d) : ∀ n : Nat, RpAll K G (List.replicate n v) (List.replicate n d)
  | 0 => .nil
  | n + 1 => .cons h (rpAll_rep h n)
end Bw
/-! sorted(xs, key=lambda p: ..): the lambda is made anew, its code object stands in the maker's table -/
namespace B
open PySem PySem.Spec PyProof.Rows L2 LamX NdefX
/-- what stands in a maker's table: code objects of the name q, all known -/
def TabP (H : Hp) (ps : Array Value) (q : Str) : Prop := TriplesOk ps.toList ∧ ∀ (at_ : Pos) (u : Value), codeAmong at_ ps.toList = some u → ∃ c, u = .ref c ∧ H c = some (CodeO c q)
theorem TabP.nil {H : Hp} {q : Str} : TabP H #[] q := ⟨True.intro, fun at_ u e => by
  have e : codeAmong at_ [] = some u := e
  simp [codeAmong] at e⟩
theorem TabP.up {H H' : Hp} {ps : Array Value} {q : Str} (t : TabP H ps q) (e : Same H H') : TabP H' ps q := ⟨t.1, fun at_ u h => by
  obtain ⟨c, e1, e2⟩ := t.2 at_ u h
  exact ⟨c, e1, e _ _ e2⟩⟩
def rowT (at_ : Pos) (c : Addr) : Array Value := #[rawInt at_.line, rawInt at_.col, .ref c]
theorem TabP.snoc {H : Hp} {ps : Array Value} {q : Str} (t : TabP H ps q) {c : Addr} (at_ : Pos) (hc : H c = some (CodeO c q)) : TabP H (ps ++ rowT at_ c) q := by
  have el : (ps ++ rowT at_ c).toList = ps.toList ++ [rawInt at_.line, rawInt at_.col, .ref c] := by simp [rowT]
  refine ⟨by rw [el]; exact PySem.TriplesOk_snoc _ _ _ _ t.1, fun at2 u h => ?_⟩
  rw [el] at h
  rcases among_app _ t.1 h with z | z
  · exact t.2 at2 u z
  · exact ⟨c, z, hc⟩
abbrev lamO (q : Str) (params : Arguments) (body : Expr) (scope : Scope) (cl : List (Str × Addr)) (pm : Value) (c : Addr) (ct : Value) : Obj := PySem.W.kla_obj "<lambda>" q params body scope cl pm c ct
section
variable {s : Shared} {H : Hp} {X : Cx} {σ : L2.St} {pins : List (Addr × Obj)}
/-- the lambda's object: its code is found in the table, or new there -/
theorem lam_made {c P : Addr} {params : Arguments} {body : Expr} {scope : Scope} {at_ : Pos} {q : Str} {ps : Array Value} {E : Value → Shared → Prop} {Q : Value → Shared → Prop} (I : Inv X pins σ H s) (TB : TabB X.base X.mg c P) (hc : X.env.code = .ref c) (hq : X.env.qual ++ "<lambda>" = q)
    (hP : H P = some (.tbl ps)) (hT : TabP H ps q) (hd : defaultsOf params X.env = ([], [])) (hf : ∀ y ∈ scope.names, y.2 = .free → ∃ a, X.env.cells.lookup y.1 = some a)
    (old : ∀ (f k : Addr) (pm ct : Value) (s1 : Shared), codeAmong at_ ps.toList = some (.ref k) → H k = some (CodeO k q) → Inv X ((f, lamO q params body scope (cloFrom X.env.cells scope.names []) pm k ct) :: pins) σ H s1 → Q (.ref f) s1)
    (new : ∀ (f k : Addr) (pm ct : Value) (s1 : Shared), H k = none → Inv X ((f, lamO q params body scope (cloFrom X.env.cells scope.names []) pm k ct) :: pins) σ (upd (upd H P (.tbl (ps ++ rowT at_ k))) k (CodeO k q)) s1 → Q (.ref f) s1) :
    wpAny (model X.prog X.w) X.A (eval (.Lambda params body scope at_) X.env) Q E s := by
  subst hq
  have tabAt : s.heap.get? P = some { cls := .none, data := .fields ps } := I.hok P _ hP
  have lsz := I.lt
  have pinned : ∀ {s1 : Shared} {H1 : Hp} {f : Addr} {o : Obj}, Inv X pins σ H1 s1 → s1.heap.get? f = some o → H1 f = none → s.heap.objs.size ≤ f → (∀ v, o.data ≠ .cell v) → Inv X ((f, o) :: pins) σ H1 s1 := fun {s1 H1 f o} J e n hz nc => J.pins_of fun p hp => by
    rcases List.mem_cons.mp hp with rfl | hm
    · exact ⟨e, n, fun z => Nat.lt_irrefl _ (Nat.lt_of_lt_of_le (by rw [← z] at lsz; exact lsz) hz), I.nofs hz, nc⟩
    · exact J.pin p (List.mem_append_right _ hm)
  refine PySem.W.kla_eval hd ?_
  cases e : codeAmong at_ ps.toList with
  | some u =>
    obtain ⟨k, eu, hk⟩ := hT.2 at_ u e
    subst eu
    refine PySem.W.kla_makeFunctionHit (closure_ok hf) I.ok.glob (I.mod.glob.keeps I.bk) hc (TB.code.keeps I.bk) tabAt hT.1 e (TB.bm.keeps I.bk) fun ct h1 tk keep hsz => ?_
    refine old h1.objs.size k _ ct _ e hk (pinned (I.kept (t' := tk) fun b o eb => Heap.get?_push_of_some _ (keep b o eb)) (Heap.get?_push_size _ rfl) (I.hok.fresh hsz) hsz fun v z => by cases z)
  | none =>
    refine PySem.W.kla_makeFunction (closure_ok hf) I.ok.glob (I.mod.glob.keeps I.bk) hc (TB.code.keeps I.bk) tabAt hT.1 e TB.gP (TB.bm.keeps I.bk) fun k ct h1 tk keep hge hlt hrec htab => ?_
    obtain ⟨k2, oc, vs, t, e2, hoc, hdat, hnm⟩ := hrec
    cases e2
    have big : s.heap.objs.size ≤ h1.objs.size := Nat.le_trans hge (Nat.le_of_lt hlt)
    have nk : H k = none := I.hok.fresh hge
    have J := inv_table (t' := tk) (more := rowT at_ k) (h' := h1.push (lamO (X.env.qual ++ "<lambda>") params body scope (cloFrom X.env.cells scope.names []) ((X.mg "__name__").getD .none) k ct)) I hP
      (fun b o hb eb => Heap.get?_push_of_some _ (keep b o hb eb)) (Heap.get?_push_of_some _ htab) hge ⟨oc, vs, t, Heap.get?_push_of_some _ hoc, hdat, hnm⟩
    refine new h1.objs.size k _ ct _ nk (pinned J (Heap.get?_push_size _ rfl) ?_ big fun v z => by cases z)
    have d1 : h1.objs.size ≠ k := Nat.ne_of_gt hlt
    have d2 : h1.objs.size ≠ P := Nat.ne_of_gt (Nat.lt_of_lt_of_le (Heap.lt_size tabAt) big)
    rw [upd_ne d1, upd_ne d2]
    exact I.hok.fresh big
/-- the words of a lambda -/
abbrev lamF (q : Str) (params : Arguments) (scope : Scope) (cl : List (Str × Addr)) (k : Addr) : NF := ⟨"<lambda>", q, params, [], scope, cl, k⟩
/-- where its body is walked -/
abbrev lamX (X : Cx) (N : List Str) (F : NF) (f : Addr) (s : Shared) (H : Hp) : Cx := ncx CX0 X.prog X.w X.K X.mg X.base N F f X.A.in1.in1 X.stack s H E0
/-- a lambda of one parameter, called as a key -/
theorem key_lam {N fr : List Str} {x q : Str} {params : Arguments} {body : Expr} {scope : Scope} {cl : List (Str × Addr)} {pm ct : Value} {f k : Addr} {js : List Nat} {tb : TE} {n : Nat} (S : NScope N [x] fr scope) (cp : Caps X cl fr js) (hr : Room (n + 3) X.A)
    (hb : ∀ u : Value, bindArgs (PySem.W.kla_fn "<lambda>" q params body scope cl pm (.ref k) ct) ⟨[u], []⟩ = pure ([x].zip [u]))
    (hbody : ∀ (s : Shared) (H : Hp), Room n (lamX X N (lamF q params scope cl k) f s H).A → PE (lamX X N (lamF q params scope cl k) f s H) body tb) :
    KeyRun X [(f, lamO q params body scope cl pm k ct)] σ f fun y H1 Q => H1 k = some (CodeO k q) ∧ tb (startF N [y] (js.map (slotAt σ))) H1 Q := ⟨fun pins s H1 y u Q hp I ry h => by
  obtain ⟨hk, ht⟩ := h
  have hf := (I.pin _ (List.mem_append_right _ (hp _ List.mem_cons_self))).1
  have hr2 : Room (n + 1) X.A.in1.in1 := hr.in1.in1
  have e0 := I.env0.in1.in1
  have nolim : s.heap.NoLimit := e0.mod.nolimit.keeps fun a o z => (e0.bs a o z).1
  have go : codeAny (model X.prog X.w) X.A.in1.in1 (.call (.ref f) ⟨[u], []⟩) (CR CX0 X.stack X.prog X.w H1 s Q E0) s := by
    refine PySem.W.kla_callFunE hr2.depth hf rfl S.co S.gen rfl (codeO_at I.hok hk) ?_
    rw [hb u]
    refine wpAny_pure (wpAny_newFunctionEnv S.nocell (fun ⟨a, _⟩ hy => S.par a (List.of_mem_zip hy).1) (fun h₁ hns hsb => ⟨nolim.fresh _ hsb, ?_⟩) S.kind)
    show codeAny _ _ (.expr body (envF (lamF q params scope cl k) f s.heap.objs.size)) _ _
    have kp : ∀ a o, s.heap.get? a = some o → h₁.get? a = some o := fun a o z => hsb.extBut a o (Nat.ne_of_lt (Heap.lt_size z)) (Heap.get?_push_of_some _ z)
    have J : Inv (lamX X N (lamF q params scope cl k) f s H1) [] (startF N [y] (js.map (slotAt σ))) H1 { s with heap := h₁, toks := s.toks + ([x].zip [u]).length } := inv_startN S hr2.hd e0 rfl (.cons ry .nil) (cells_of I cp) hns kp
    refine PySem.W.kla_codeExpr (wpAny_mono ((hbody s H1 (hr2.deeper _)).run [] _ _ H1 Q J ht) (fun v s2 he => ?_) fun e s2 he => he)
    obtain ⟨w', H', J', rv, hq⟩ := he
    exact ⟨w', H', J'.os, J'.bare, J'.base, J'.hok, rv, hq⟩
  refine wpAny_call (codeAny_mono go fun r s2 hq => ?_)
  cases r with
  | error e => exact hq.elim
  | ok fl =>
    cases fl with
    | ret u => exact I.after hq
    | next => exact False.elim hq
    | brk => exact False.elim hq
    | cont => exact False.elim hq⟩
/-- sorted by the lambda whose code is at k -/
def rSoL (K : PySem.W.Frag) (q : Str) (N : List Str) (js : List Nat) (tb : TE) (σ : L2.St) (k : Addr) (vs : List V) (H : Hp) (Q : VK) : Prop := ∃ (a : Addr) (xs : List V), vs = [.ref a] ∧ (SqL K H a xs ∨ SqT K H a xs) ∧
  keysT (fun y H1 Q1 => H1 k = some (CodeO k q) ∧ tb (startF N [y] (js.map (slotAt σ))) H1 Q1) xs H fun ks H1 => ∃ ls : List (List Int), KeysAre K H1 ks ls ∧ ∀ p, H1 p = none → Q (.ref p) (upd H1 p (.lst ((srtK (ls.zip xs)).map (·.2))))
def tSoL (K : PySem.W.Frag) (P : Addr) (q : Str) (at_ : Pos) (N : List Str) (js : List Nat) (tb : TE) (t : TA) : TE := fun σ H Q => t σ H fun vs H1 => ∃ ps, H1 P = some (.tbl ps) ∧ TabP H1 ps q ∧
  (∀ k, codeAmong at_ ps.toList = some (.ref k) → H1 k = some (CodeO k q) → rSoL K q N js tb σ k vs H1 Q) ∧ ∀ k, H1 k = none → rSoL K q N js tb σ k vs (upd (upd H1 P (.tbl (ps ++ rowT at_ k))) k (CodeO k q)) Q
/-- its captured names are the maker's -/
def lamB (sc scope : Scope) (fr : List Str) : Bool := (scope.names.all fun y => !decide (y.2 = .free) || decide (sc.names.lookup y.1 = some .cell) || decide (sc.names.lookup y.1 = some .free)) && fr.all fun y => decide ((y, NameKind.free) ∈ scope.names)
theorem lamB_fr {sc scope : Scope} {fr : List Str} (h : lamB sc scope fr = true) : ∀ y ∈ scope.names, y.2 = .free → sc.names.lookup y.1 = some .cell ∨ sc.names.lookup y.1 = some .free := fun y hy e => by
  have z := List.all_eq_true.mp (Bool.and_eq_true_iff.mp h).1 y hy
  simp only [Bool.or_eq_true, Bool.not_eq_true', decide_eq_true_eq, decide_eq_false_iff_not] at z
  rcases z with (z | z) | z
  · exact absurd e z
  · exact .inl z
  · exact .inr z
theorem lamB_fx {sc scope : Scope} {fr : List Str} (h : lamB sc scope fr = true) : ∀ y ∈ fr, (y, NameKind.free) ∈ scope.names := fun y hy => by
  simpa using List.all_eq_true.mp (Bool.and_eq_true_iff.mp h).2 y hy
/-- sorted(e, key=lambda ..) -/
theorem pe_sortL {N fr : List Str} {x q : Str} {params : Arguments} {body : Expr} {scope : Scope} {js : List Nat} {tb : TE} {n : Nat} {c P : Addr} {e : Expr} {t : TA} {lp kp_ p pos : Pos} (TB : TabB X.base X.mg c P) (hc : X.env.code = .ref c) (hq : X.env.qual ++ "<lambda>" = q) (hg : Gl X "sorted") (hm : X.mg "sorted" = none)
    (ha : PA X [e] t) (S : NScope N [x] fr scope) (hl : lamB X.env.scope scope fr = true) (hjs : js.map (fun j => X.N[j]?) = fr.map some)
    (hr : Room (n + 3) X.A) (hd : defaultsOf params X.env = ([], [])) (hb : ∀ (cl : List (Str × Addr)) (pm ct : Value) (k : Addr) (u : Value), bindArgs (PySem.W.kla_fn "<lambda>" q params body scope cl pm (.ref k) ct) ⟨[u], []⟩ = pure ([x].zip [u]))
    (hbody : ∀ (f k : Addr) (s : Shared) (H : Hp), Room n (lamX X N (lamF q params scope (cloFrom X.env.cells scope.names []) k) f s H).A → PE (lamX X N (lamF q params scope (cloFrom X.env.cells scope.names []) k) f s H) body tb)
    (he : backTo pos (starEach [e] X.env) = (false, eval e X.env) :: backTo pos (starEach [] X.env) := by rfl) (hpl : (backTo pos (starEach [e] X.env)).any (·.1) = false := by rfl)
    (hall : (backToKw pos (keywordEach [⟨some (Str.ofString "key"), .Lambda params body scope lp, kp_⟩] X.env)).all (·.1.isSome) = true := by rfl) (hnone : (backToKw pos (keywordEach [⟨some (Str.ofString "key"), .Lambda params body scope lp, kp_⟩] X.env)).any (·.1.isNone) = false := by rfl) :
    PE X (.Call (.Name "sorted" p) [e] [⟨some (Str.ofString "key"), .Lambda params body scope lp, kp_⟩] pos) (tSoL X.K P q lp N js tb t) := by
  refine ⟨fun pins s σ H Q I h => wpAny_Call_Name_kw (ld_blt I hg hm (show bootBuiltins "sorted" = some (.builtin "sorted") by decide +kernel) ?_ (by decide) (by decide))⟩
  refine PyProof.Rows.callWith_kw (thn (ha.run pos pins s σ H _ I h) fun us s1 ⟨vs, H1, I1, r1, q1⟩ => ?_) he hpl hall hnone
  obtain ⟨ps, hP, hT, h1, h2⟩ := q1
  have hfr := lamB_fr hl
  have hfx := lamB_fx hl
  have free : ∀ y ∈ scope.names, y.2 = .free → ∃ a, X.env.cells.lookup y.1 = some a := fun y hy e => (hfr y hy e).elim (fun z => I.ok.has _ (.inl z)) fun z => I.ok.has _ (.inr z)
  have cp : Caps X (cloFrom X.env.cells scope.names []) fr js := Caps.made I.ok hfr hfx hjs
  show wpAny _ _ (evalAll [do let v ← eval (.Lambda params body scope lp) X.env; standAt pos; pure v]) _ _ s1
  have fin : ∀ (f k : Addr) (pm ct : Value) (s2 : Shared) (H2 : Hp), Inv X ((f, lamO q params body scope (cloFrom X.env.cells scope.names []) pm k ct) :: pins) σ H2 s2 → rSoL X.K q N js tb σ k vs H2 Q →
      wpAny (model X.prog X.w) X.A (call (.builtin "sorted") us [(Str.ofString "key", .ref f)]) (EP X pins σ Q) X.xe s2 := fun f k pm ct s2 H2 J ⟨a, xs, ev, hs, hk⟩ => by
    subst ev
    obtain rfl := Vals.ref1 r1
    refine thn (sortK_call (key_lam (pm := pm) (ct := ct) S cp hr (hb _ pm ct k) (hbody f k)) (fun p hp => by rw [List.mem_singleton.mp hp]; exact List.mem_cons_self) J hs hk) fun u s3 ⟨y, H3, J3, ry, hy⟩ => ?_
    exact ⟨y, H3, J3.pins_of fun p hp => J3.pin p (List.mem_append_right _ (List.mem_cons_of_mem _ hp)), ry, hy⟩
  refine wpAny_evalAll_cons (wpAny_bind (lam_made I1 TB hc hq hP hT hd free (fun f k pm ct s2 ht hk J => ?_) fun f k pm ct s2 hk J => ?_))
  · exact wpAny_bind (wpAny_standAt (wpAny_pure (wpAny_evalAll_nil (fin f k pm ct s2 _ J (h1 k ht hk)))))
  · exact wpAny_bind (wpAny_standAt (wpAny_pure (wpAny_evalAll_nil (fin f k pm ct s2 _ J (h2 k hk)))))
end
/-! ### in terms of the state -/
section
variable {K : PySem.W.Frag} {D : List Addr} {G0 H0 G H : Hp} {M : List (Addr × HO)} {α : Type} {Da : α → Dt} {kf : α → List Int} {kd : List Int → Dt}
/-- what a key's body makes of a thing, from G on -/
def KeyFrom (K : PySem.W.Frag) (Gb : Hp) (Da : α → Dt) (kf : α → List Int) (kd : List Int → Dt) (r : V → Hp → VK → Prop) : Prop := ∀ (x : V) (a : α) (G0 H0 G H : Hp) (D : List Addr) (M : List (Addr × HO)) (Q : VK), Same Gb G → Sta K G0 H0 D G M H → Rp K G x (Da a) →
  (∀ k G1 H1, Same G G1 → Sta K G0 H0 D G1 M H1 → Rp K G1 k (kd (kf a)) → Q k H1) → r x H Q
theorem keysT_from {r : V → Hp → VK → Prop} {Gb : Hp} (hd : KeyFrom K Gb Da kf kd r) : ∀ (as : List α) (xs : List V) (G H : Hp) (Q : List V → Hp → Prop), Same Gb G → Sta K G0 H0 D G M H → RpAll K G xs (as.map Da) →
    (∀ ks G1 H1, Same G G1 → Sta K G0 H0 D G1 M H1 → RpAll K G1 ks (as.map fun a => kd (kf a)) → Q ks H1) → keysT r xs H Q
  | [], xs, G, H, Q, _, hS, hx, q => by
    cases hx
    exact q [] G H (Same.refl G) hS .nil
  | a :: as, _, G, H, Q, eb, hS, hx, q => by
    cases hx with
    | cons h1 h2 =>
      refine hd _ a G0 H0 G H D M _ eb hS h1 fun k G1 H1 e1 hS1 hk => ?_
      refine keysT_from hd as _ G1 H1 _ (eb.trans e1) hS1 (h2.up e1) fun ks G2 H2 e2 hS2 hks => ?_
      exact q _ G2 H2 (e1.trans e2) hS2 (.cons (hk.up e2) hks)
/-- the table's new row: the code object is new and never changes -/
theorem Sta.row (h : Sta K G0 H0 D G M H) {i : Nat} {P k : Addr} {o u : HO} {q : Str} (hi : M[i]? = some (P, o)) (hk : H k = none) : Sta K G0 H0 D (upd G k (CodeO k q)) (M.set i (P, u)) (upd (upd H P u) k (CodeO k q)) := by
  have nk : P ≠ k := fun e => by
    have := h.get hi
    rw [e, hk] at this
    cases this
  have h1 := h.set hi u
  exact h1.imm (by rw [upd_ne (fun e => nk e.symm)]; exact hk) _
theorem go_soL {q : Str} {N : List Str} {js : List Nat} {tb : TE} {σ : L2.St} {k : Addr} {as : List α} {x : V} {Q : VK} (gk : G k = some (CodeO k q)) (hd : KeyFrom K G Da kf kd fun y H1 Q1 => tb (startF N [y] (js.map (slotAt σ))) H1 Q1) (hk : ∀ ks G1 H1, Same G1 H1 → RpAll K G1 ks (as.map fun a => kd (kf a)) → KeysAre K H1 ks (as.map kf))
    (hS : Sta K G0 H0 D G M H) (hx : Rp K G x (.lst (as.map Da)) ∨ Rp K G x (.tup (as.map Da)))
    (fin : ∀ p vs G1 H1, H0 p = none → G p = none → Same G G1 → Sta K G0 H0 D G1 ((p, .lst vs) :: M) H1 → RpAll K G1 vs ((srtA kf as).map Da) → Q (.ref p) H1) : rSoL K q N js tb σ k [x] H Q := by
  obtain ⟨a, xs, rfl, hs, ha⟩ : ∃ a xs, x = .ref a ∧ (SqL K H a xs ∨ SqT K H a xs) ∧ RpAll K G xs (as.map Da) := by
    rcases hx with hx | hx
    · obtain ⟨a, xs, rfl, hs, ha⟩ := Rp.lst_inv hx
      exact ⟨a, xs, rfl, .inl (hS.gh.seq hs), ha⟩
    · obtain ⟨a, xs, rfl, hs, ha⟩ := Rp.tup_inv hx
      exact ⟨a, xs, rfl, .inr (Same.t hS.gh hs), ha⟩
  refine ⟨a, xs, rfl, hs, keysT_from (kf := kf) (kd := kd) (Gb := G) (fun y b A0 B0 G1 H1 D1 M1 Q1 e s r w => ⟨s.gh _ _ (e _ _ gk), hd y b A0 B0 G1 H1 D1 M1 Q1 e s r w⟩) as xs G H _ (Same.refl G) hS ha fun ks G1 H1 e1 hS1 hks => ⟨as.map kf, hk ks G1 H1 hS1.gh hks, fun p hp => ?_⟩⟩
  have hg : G p = none := by
    cases e : G p with
    | none => rfl
    | some o =>
      have := hS1.gh _ _ (e1 _ _ e)
      rw [hp] at this
      cases this
  exact fin p _ G1 _ (hS1.h0 hp) hg e1 (hS1.mut hp _) (rpAll_of (srtK_rel (rk_of (ha.up e1))))
/-- sorted(xs, key=lambda ..): the table may have one row more -/
def SoK (K : PySem.W.Frag) (P : Addr) (q : Str) (at_ : Pos) (N : List Str) (js : List Nat) (tb : TE) (σ : L2.St) (Q : VK) (vs : List V) (H1 : Hp) : Prop := ∃ ps, H1 P = some (.tbl ps) ∧ TabP H1 ps q ∧
  (∀ k, codeAmong at_ ps.toList = some (.ref k) → H1 k = some (CodeO k q) → rSoL K q N js tb σ k vs H1 Q) ∧ ∀ k, H1 k = none → rSoL K q N js tb σ k vs (upd (upd H1 P (.tbl (ps ++ rowT at_ k))) k (CodeO k q)) Q
theorem go_tSoL {P : Addr} {q : Str} {at_ : Pos} {N : List Str} {js : List Nat} {tb : TE} {t : TA} {σ : L2.St} {Q : VK} (h : t σ H fun vs H1 => SoK K P q at_ N js tb σ Q vs H1) : tSoL K P q at_ N js tb t σ H Q := h
theorem set_same {M : List (Addr × HO)} {i : Nat} {q : Addr × HO} (h : M[i]? = some q) : M.set i q = M := by
  apply List.ext_getElem?
  intro j
  rw [List.getElem?_set]
  split
  · rename_i e
    subst e
    have hl := (List.getElem?_eq_some_iff.mp h).1
    rw [if_pos hl, h]
  · rfl
theorem go_soK {P : Addr} {q : Str} {at_ : Pos} {N : List Str} {js : List Nat} {tb : TE} {σ : L2.St} {as : List α} {x : V} {Q : VK} {ps : Array Value} {i : Nat} (hS : Sta K G0 H0 D G M H) (hi : M[i]? = some (P, .tbl ps)) (ht : TabP G ps q) (hx : Rp K G x (.lst (as.map Da)) ∨ Rp K G x (.tup (as.map Da)))
    (hd : ∀ Gb, Same G Gb → KeyFrom K Gb Da kf kd fun y H1 Q1 => tb (startF N [y] (js.map (slotAt σ))) H1 Q1) (hk : ∀ ks G1 H1, Same G1 H1 → RpAll K G1 ks (as.map fun a => kd (kf a)) → KeysAre K H1 ks (as.map kf))
    (fin : ∀ p vs ps' G1 H1, H0 p = none → G p = none → Same G G1 → TabP G1 ps' q → Sta K G0 H0 D G1 ((p, .lst vs) :: M.set i (P, .tbl ps')) H1 → RpAll K G1 vs ((srtA kf as).map Da) → Q (.ref p) H1) : SoK K P q at_ N js tb σ Q [x] H := by
  refine ⟨ps, hS.get hi, ht.up hS.gh, fun k hc _ => ?_, fun k hn => ?_⟩
  · obtain ⟨c, e1, e2⟩ := ht.2 at_ _ hc
    cases e1
    refine go_soL e2 (hd G (Same.refl G)) hk hS hx fun p vs G1 H1 h0 hg e s r => fin p vs ps G1 H1 h0 hg e (ht.up e) ?_ r
    rw [set_same hi]
    exact s
  · have hg : G k = none := hS.gn hn
    have eu : Same G (upd G k (CodeO k q)) := same_upd hg
    refine go_soL (G := upd G k (CodeO k q)) upd_same (hd _ eu) hk (hS.row hi hn) (hx.elim (fun z => .inl (z.up eu)) fun z => .inr (z.up eu)) fun p vs G1 H1 h0 hg1 e s r => fin p vs _ G1 H1 h0 (eu.free hg1) (eu.trans e) (((ht.up eu).snoc at_ upd_same).up e) s r
end
/-! ### a def that makes lambdas; the end -/
/-- the def's code object stands at c -/
structure FunC (K : PySem.W.Frag) (x qual : Str) (st : Stmt) (f : Addr) (fd : FuncData) (c : Addr) : Prop where
  ex : ∃ (oc : Value) (od : Option Addr) (kV doc pm : Value) (an : Option Addr) (ct : Value) (osl : Array (Option Value)),
    fd = PySem.W.fnOf x qual (defArgs st) (defBody st) (defScope st) .none kV doc pm an (.ref c) ct ∧ K.lookup f = some ⟨oc, od, .func fd, osl⟩ ∧ PySem.W.codeIn K (.ref c) qual = true
section
variable {P : Program} {w : World} {K : PySem.W.Frag} {mg : Str → Option Value} {base : Heap} {x qual : Str} {st : Stmt} {f c : Addr} {fd : FuncData} {N ps : List Str} {k : Nat} {sp : Sp}
theorem FunC.ok (F : FunC K x qual st f fd c) (S : FnScope N ps (defScope st)) (len : ∀ vs H Q E, sp vs H Q E → vs.length = ps.length)
    (hbody : ∀ (A : Around) (outer : List Env) (s : Shared) (H : Hp) (vs : List V) (Q : VK) (E : XK), Room k (A.deeper (envOfC qual (defScope st) s.heap.objs.size f (.ref c))) → sp vs H Q E →
      ∃ t, PSs (cxOf L2.CX0 P w K mg base N qual (defScope st) f (.ref c) A outer s H E).nox (defBody st) t ∧ t { nx := fun _ H' => Q .non H', rt := Q } (L2.start N vs) H) : FnOk P w K mg base L2.CX0 (k + 1) f fd ps sp := by
  obtain ⟨oc, od, kV, doc, pm, an, ct, osl, rfl, lk, hcd⟩ := F.ex
  refine fn_of lk hcd S len fun A outer s H vs Q E hr h => ?_
  obtain ⟨t, h1, h2⟩ := hbody A outer s H vs Q E hr h
  exact ⟨t, h1.nox, h2⟩
theorem funC_mk {oc : Value} {od an : Option Addr} {osl : Array (Option Value)} {kV doc pm ct : Value} (l : K.lookup f = some ⟨oc, od, .func (PySem.W.fnOf x qual (defArgs st) (defBody st) (defScope st) .none kV doc pm an (.ref c) ct), osl⟩)
    (h : PySem.W.codeIn K (.ref c) qual = true) : FunC K x qual st f (PySem.W.fnOf x qual (defArgs st) (defBody st) (defScope st) .none kV doc pm an (.ref c) ct) c := ⟨⟨oc, od, kV, doc, pm, an, ct, osl, rfl, l, h⟩⟩
end
/-- the table of the top's def x is empty at the head -/
def HeadTab (K : PySem.W.Frag) (q : Program) (h : Heap) : Prop := ∀ (x : Str) (c P : Addr), ((recsOf q).any fun e => e.name == x) = true → PySem.W.tabIn K x = some (c, P) → PySem.W.CodeHd h c P ∧ h.get? P = some { cls := .none, data := .fields #[] }
theorem walk_tabs {l : PySem.W.OpenLaw} {n k : Nat} {q : Program} {loose : List Str} {XP : (Str → Option Value) → Heap → Prop} {YP : World → Heap → Prop} {d : DefRec} {K : Params → PySem.W.Frag} {CX : World → CXT} {x : Str}
    (hn : l.most = some n) (hn2 : n ≤ sizeLine) (hdf : d.params.defaults = []) (hr : Room k callerA) (hY : ∀ (w : World) (h : Heap), YP w h → (K w.params).In h)
    (F : ∀ (w : World) (mg : Str → Option Value) (fa : Addr) (h : Heap), YP w h → (K w.params).In h → h.Ns mainGlobals mg → mg d.name = some (.ref fa) → HeadTab (K w.params) q h → LawAtS l w (K w.params) (CX w) k n x mg fa h)
    (hCX : ∀ (w : World) (H : Hp) (s : Shared) (e : Value) (s' : Shared), CX w [] H s (fun _ _ _ => False) e s' → False) : PySem.W.WalkO q loose XP YP l.row.toRowW d [] (fun f vs => PySem.call f vs) := by
  refine Att.attach_callB hn hdf fun w s0 s1 mg mb fa o pm cd doc a vs ns G Y ho hd hcd hmg hobj hints hlen hbits hg => ?_
  have KX := hY w _ Y
  have tabs : HeadTab (K w.params) q s1.heap := fun y c P hy ht => by
    cases e : (recsOf q).find? (fun e => e.name == y) with
    | none =>
      obtain ⟨r, hr, hy⟩ := List.any_eq_true.mp hy
      exact absurd hy (List.find?_eq_none.mp e r hr)
    | some r => exact PySem.W.tab_of G.T KX e ht
  obtain ⟨fd, cs, sp, h1, h2, h3, h4, h5, h6⟩ := F w mg fa _ Y KX G.T.g hmg tabs
  exact law_callTs KX G.T.g G.T.b G.T.builtins G.T.nolimit hg h1 h2 h3 G.T.bmain hobj hints (Nat.le_trans hlen hn2) hr h6 h4 (fun H hH hS => h5 H a ns hlen hbits hH hS) fun H e s' => hCX w H s1 e s'
/-- objects were laid that no one here knows -/
theorem Sta.grow {K : PySem.W.Frag} {G0 H0 G H H' : Hp} {D : List Addr} {M : List (Addr × HO)} (h : Sta K G0 H0 D G M H) (e : Same H H') : Sta K G0 H0 D G M H' where
  g0 := h.g0
  gh := h.gh.trans e
  fr := h.fr
  kp := fun a o z hd => e _ _ (h.kp a o z hd)
  up := fun a z n => by
    cases q : H a with
    | none => exact h.up a z q
    | some o =>
      rw [e _ _ q] at n
      cases n
  md := h.md
  mh := fun q hq => ⟨e _ _ (h.mh q hq).1, (h.mh q hq).2⟩
/-- xs[::-1] -/
def RVK (K : PySem.W.Frag) (Q : VK) (x : V) (H1 : Hp) : Prop := ∃ a xs, x = .ref a ∧ SqL K H1 a xs ∧ ∀ p, H1 p = none → Q (.ref p) (upd H1 p (.lst xs.reverse))
section
variable {K : PySem.W.Frag} {D : List Addr} {G0 H0 G H : Hp} {M : List (Addr × HO)} {Q : VK} {x : V} {te : TE} {σ : L2.St}
theorem go_tRev (h : te σ H fun y H1 => RVK K Q y H1) : tRevL K te σ H Q := h
theorem rpAll_rev : ∀ {vs : List V} {ds : List Dt}, RpAll K G vs ds → RpAll K G vs.reverse ds.reverse
  | [], _, h => by cases h; exact .nil
  | v :: vs, _, h => by
    cases h with
    | cons h1 h2 =>
      rw [List.reverse_cons, List.reverse_cons]
      exact (rpAll_rev h2).app (.one h1)
theorem go_revL {ds : List Dt} (hS : Sta K G0 H0 D G M H) (hx : Rp K G x (.lst ds)) (k : ∀ p G1 H1, Same G G1 → Sta K G0 H0 D G1 M H1 → Rp K G1 (.ref p) (.lst ds.reverse) → Q (.ref p) H1) : RVK K Q x H := by
  obtain ⟨a, xs, rfl, hs, ha⟩ := Rp.lst_inv hx
  exact ⟨a, xs, rfl, hS.gh.seq hs, fun p hp => k p _ _ (same_upd (hS.gn hp)) (hS.imm hp _) (.lst (.inl (.inl upd_same)) ((rpAll_rev ha).up (same_upd (hS.gn hp))))⟩
end
/-- a code object's words, by themselves -/
theorem codeHd_by {K : PySem.W.Frag} {h : Heap} {c P : Addr} {d : Option Addr} {vs : Array Value} {sl : Array (Option Value)} (KX : K.In h) (hl : K.lookup c = some ⟨.type "code", d, .fields vs, sl⟩) (b : PySem.W.codeHdIn [(c, ⟨.type "code", none, .fields vs, #[]⟩)] c P = true) : PySem.W.CodeHd h c P := by
  refine PySem.W.codeHd_of_K KX ?_
  unfold PySem.W.codeHdIn at b ⊢
  rw [hl]
  simpa [List.lookup] using b
end B
/-! lists that others hold are changed: data without lists do not hang on them; a known list of one's own is changed in place -/
namespace B
open PySem L2
mutual
def noL : Dt → Bool
  | .lst _ => false
  | .tup ds => noLs ds
  | .ins _ fs => noLF fs
  | _ => true
def noLs : List Dt → Bool
  | [] => true
  | d :: ds => noL d && noLs ds
def noLF : List (Str × Dt) → Bool
  | [] => true
  | (_, d) :: ds => noL d && noLF ds
end
section
variable {K : PySem.W.Frag} {G G' : Hp} {p : Addr} {ys : List V}
mutual
/-- what holds no list does not hang on the list at p -/
theorem Rp.shed (e : ∀ a, a ≠ p → G' a = G a) (hp : G p = some (.lst ys)) : ∀ (d : Dt) (v : V), noL d = true → Rp K G v d → Rp K G' v d
  | .non, _, _, h => by cases h; exact .non
  | .bl b, _, _, h => by cases h; exact .bl _
  | .int i, _, _, h => by cases h; exact .int _
  | .str x, _, _, h => by cases h; exact .str _
  | .lst ds, _, n, _ => by simp [noL] at n
  | .tup ds, _, n, h => by
    cases h with
    | tup hs ha =>
      refine .tup ?_ (RpAll.shed e hp ds _ (by simpa [noL] using n) ha)
      have keep : ∀ {a : Addr} {o : HO}, G a = some o → (∀ zs, o ≠ .lst zs) → G' a = some o := fun {a o} h no => by
        rw [e a fun z => by subst z; rw [hp] at h; exact no ys (Option.some.inj h).symm]
        exact h
      rcases hs with (hs | ⟨o, hs⟩) | hs
      · exact .inl (.inl (keep hs fun zs z => by cases z))
      · exact .inl (.inr ⟨o, keep hs fun zs z => by cases z⟩)
      · exact .inr hs
  | .ins C ds, _, n, h => by
    cases h with
    | @ins a C dx fs ds hs ha =>
      refine .ins (dx := dx) (fs := fs) ?_ (RpF.shed e hp ds _ (by simpa [noL] using n) ha)
      rw [e a fun z => by subst z; rw [hp] at hs; cases hs]
      exact hs
theorem RpAll.shed (e : ∀ a, a ≠ p → G' a = G a) (hp : G p = some (.lst ys)) : ∀ (ds : List Dt) (vs : List V), noLs ds = true → RpAll K G vs ds → RpAll K G' vs ds
  | [], _, _, h => by cases h; exact .nil
  | d :: ds, _, n, h => by
    simp only [noLs, Bool.and_eq_true] at n
    cases h with
    | cons h1 h2 => exact .cons (Rp.shed e hp d _ n.1 h1) (RpAll.shed e hp ds _ n.2 h2)
theorem RpF.shed (e : ∀ a, a ≠ p → G' a = G a) (hp : G p = some (.lst ys)) : ∀ (ds : List (Str × Dt)) (vs : List (Str × V)), noLF ds = true → RpF K G vs ds → RpF K G' vs ds
  | [], _, _, h => by cases h; exact .nil
  | (f, d) :: ds, _, n, h => by
    simp only [noLF, Bool.and_eq_true] at n
    cases h with
    | cons h1 h2 => exact .cons (Rp.shed e hp d _ n.1 h1) (RpF.shed e hp ds _ n.2 h2)
end
end
section
variable {K : PySem.W.Frag} {G0 H0 G H : Hp} {D : List Addr} {M : List (Addr × HO)} {p : Addr} {o u : HO} {Q : VK}
/-- a known object of one's own is changed in place: what was known ahead of its making stays known -/
theorem Sta.poke (h : Sta K G0 H0 D G M H) (hp : G p = some o) (h0 : H0 p = none) (g0 : G0 p = none) : Sta K G0 H0 D (upd G p u) M (upd H p u) where
  g0 := fun a w e => by
    have e1 := h.g0 a w e
    rw [upd_ne (ne_of_none e g0)]
    exact e1
  gh := same_upd2 h.gh
  fr := fun a ha => by
    have : a ≠ p := fun e => ha (by rw [e]; exact h0)
    rw [upd_ne this]
    exact h.fr a ha
  kp := fun a w ha hd => by
    rw [upd_ne (ne_of_none ha h0)]
    exact h.kp a w ha hd
  up := fun a ha => by
    have : a ≠ p := fun e => ha (by rw [e]; exact h0)
    rw [upd_ne this]
    exact h.up a ha
  md := h.md
  mh := fun q hq => by
    have n : q.1 ≠ p := fun e => by
      have := (h.mh q hq).2.1
      rw [e, hp] at this
      cases this
    rw [upd_ne n, upd_ne n]
    exact h.mh q hq
/-- list(xs), to be changed later -/
theorem go_listM {x : V} {ds : List Dt} (hS : Sta K G0 H0 D G M H) (hx : Rp K G x (.lst ds)) (k : ∀ q xs H1, H0 q = none → G q = none → RpAll K G xs ds → Sta K G0 H0 D G ((q, .lst xs) :: M) H1 → Q (.ref q) H1) : rListOf_ K [x] H Q := by
  obtain ⟨a, xs, rfl, hs, ha⟩ := Rp.lst_inv hx
  exact ⟨a, xs, rfl, .inl (hS.gh.seq hs), fun l hl => k l xs _ (hS.h0 hl) (hS.gn hl) ha (hS.mut hl _)⟩
/-- a list that may change is lent: a frame of one's own, in which it is known -/
theorem Sta.open (h : Sta K G0 H0 D G ((p, o) :: M) H) : Same G (upd G p o) ∧ Sta K (upd G p o) H (M.map (·.1)) (upd G p o) M H := by
  have hp := h.mh _ List.mem_cons_self
  have nd := List.nodup_cons.mp h.md
  refine ⟨same_upd hp.2.1, ⟨Same.refl _, fun b x e => ?_, fun _ _ => rfl, fun _ _ e _ => e, fun _ n => n, nd.2, fun q hq => ?_⟩⟩
  · by_cases hb : b = p
    · subst hb
      rw [upd_same] at e
      cases e
      exact hp.1
    · rw [upd_ne hb] at e
      exact h.gh _ _ e
  · have hq' := h.mh q (List.mem_cons_of_mem _ hq)
    have n : q.1 ≠ p := fun e => nd.1 (by
      show p ∈ M.map (·.1)
      rw [← e]
      exact List.mem_map.mpr ⟨q, hq, rfl⟩)
    exact ⟨hq'.1, by rw [upd_ne n]; exact hq'.2.1, .inl (List.mem_map.mpr ⟨q, hq, rfl⟩)⟩
/-- .. and taken back -/
theorem Sta.close {G1 H1 : Hp} {M1 : List (Addr × HO)} (h : Sta K G0 H0 D G ((p, o) :: M) H) (i : Sta K (upd G p o) H (M.map (·.1)) G1 M1 H1) :
    ∃ G2, Same G G2 ∧ (∀ a, a ≠ p → G2 a = G1 a) ∧ G1 p = some o ∧ Sta K G0 H0 D G2 ((p, o) :: M1) H1 := by
  have hp := h.mh _ List.mem_cons_self
  have nd := List.nodup_cons.mp h.md
  have g1 : G1 p = some o := i.g0 _ _ upd_same
  have g2n : ∀ a, a ≠ p → (fun b => if b = p then none else G1 b) a = G1 a := fun a ha => if_neg ha
  have g2p : (fun b => if b = p then none else G1 b) p = none := if_pos rfl
  generalize hG : (fun b => if b = p then none else G1 b) = G2 at *
  have sg : Same G G2 := fun b x e => by
    have hb : b ≠ p := fun z => by
      subst z
      have := hp.2.1
      rw [e] at this
      cases this
    rw [g2n b hb]
    exact i.g0 _ _ (by rw [upd_ne hb]; exact e)
  refine ⟨G2, sg, g2n, g1, ⟨h.g0.trans sg, fun b x e => ?_, fun a ha => ?_, fun a w ha hd => ?_, fun a ha => i.up a (h.up a ha), ?_, fun q hq => ?_⟩⟩
  · by_cases hb : b = p
    · subst hb
      rw [g2p] at e
      cases e
    · rw [g2n b hb] at e
      exact i.gh _ _ e
  · by_cases hb : a = p
    · subst hb
      rw [g2p, ← h.fr a ha]
      exact hp.2.1.symm
    · rw [g2n a hb, i.fr a (h.up a ha), upd_ne hb]
      exact h.fr a ha
  · refine i.kp a w (h.kp a w ha hd) fun hm => ?_
    obtain ⟨q, hq, e⟩ := List.mem_map.mp hm
    rcases (h.mh q (List.mem_cons_of_mem _ hq)).2.2 with z | z
    · exact hd (by rw [← e]; exact z)
    · rw [e, ha] at z
      cases z
  · refine List.nodup_cons.mpr ⟨fun hm => ?_, i.md⟩
    obtain ⟨q, hq, e⟩ := List.mem_map.mp hm
    have e : q.1 = p := e
    have := (i.mh q hq).2.1
    rw [e, g1] at this
    cases this
  · rcases List.mem_cons.mp hq with rfl | hq
    · exact ⟨i.kp _ _ hp.1 fun hm => nd.1 hm, g2p, hp.2.2⟩
    · obtain ⟨e1, e2, e3⟩ := i.mh q hq
      have n : q.1 ≠ p := fun e => by
        rw [e, g1] at e2
        cases e2
      refine ⟨e1, by rw [g2n _ n]; exact e2, ?_⟩
      rcases e3 with z | z
      · obtain ⟨q', hq', e⟩ := List.mem_map.mp z
        rcases (h.mh q' (List.mem_cons_of_mem _ hq')).2.2 with y | y
        · exact .inl (by rw [← e]; exact y)
        · exact .inr (by rw [← e]; exact y)
      · refine .inr ?_
        cases y : H0 q.1 with
        | none => rfl
        | some w => exact absurd z (h.up _ (by rw [y]; exact fun z => nomatch z))
end
end B
/-! lists of lists whose rows are changed in place: new rows, known objects taken up as changing ones (melt), and frozen again -/
namespace B
open PySem PySem.Spec PyProof.Rows L2 RZ
def rowsM (as : List Addr) (rs : List (List Int)) : List (Addr × HO) := List.zipWith (fun a r => (a, HO.lst (r.map V.int))) as rs
theorem rowsM_keys : ∀ {as : List Addr} {rs : List (List Int)}, as.length = rs.length → (rowsM as rs).map (·.1) = as
  | [], [], _ => rfl
  | [], _ :: _, h => by cases h
  | _ :: _, [], h => by cases h
  | a :: as, r :: rs, h => congrArg (a :: ·) (rowsM_keys (as := as) (rs := rs) (Nat.succ.inj h))
theorem rowsM_get {as : List Addr} {rs : List (List Int)} {i : Nat} (h : as.length = rs.length) (hi : i < rs.length) : (rowsM as rs)[i]? = some (as.getD i 0, .lst ((rs.getD i []).map V.int)) := by
  unfold rowsM
  rw [List.getElem?_zipWith]
  simp [List.getD, show i < as.length by omega, hi]
theorem rowsM_set {as : List Addr} {rs : List (List Int)} {i : Nat} {r : List Int} (h : as.length = rs.length) (hi : i < rs.length) : (rowsM as rs).set i (as.getD i 0, .lst (r.map V.int)) = rowsM as (rs.set i r) := by
  apply List.ext_getElem?
  intro j
  by_cases e : i = j
  · subst e
    rw [rowsM_get (by rw [List.length_set]; exact h) (by rw [List.length_set]; exact hi), List.getElem?_set, if_pos rfl, if_pos (by unfold rowsM; rw [List.length_zipWith]; omega)]
    simp [List.getD, hi]
  · rw [List.getElem?_set_ne e]
    unfold rowsM
    rw [List.getElem?_zipWith, List.getElem?_zipWith, List.getElem?_set_ne e]
theorem rowsM_mem {as : List Addr} {rs : List (List Int)} (h : as.length = rs.length) {q : Addr × HO} (hq : q ∈ rowsM as rs) : ∃ i, i < rs.length ∧ q = (as.getD i 0, .lst ((rs.getD i []).map V.int)) := by
  obtain ⟨i, hi⟩ := List.mem_iff_getElem?.mp hq
  have : i < rs.length := by
    have := (List.getElem?_eq_some_iff.mp hi).1
    unfold rowsM at this
    rw [List.length_zipWith] at this
    omega
  rw [rowsM_get h this] at hi
  exact ⟨i, this, (Option.some.inj hi).symm⟩
theorem rowsM_snoc {as : List Addr} {rs : List (List Int)} {a : Addr} {r : List Int} (h : as.length = rs.length) : rowsM (as ++ [a]) (rs ++ [r]) = rowsM as rs ++ [(a, .lst (r.map V.int))] := by
  unfold rowsM
  rw [List.zipWith_append h]
  rfl
theorem rowsM_paired {G : Hp} : ∀ {as : List Addr} {rs : List (List Int)}, as.length = rs.length → (∀ q ∈ rowsM as rs, G q.1 = some q.2) → Paired (RawI G) (as.map V.ref) rs
  | [], [], _, _ => .nil
  | [], _ :: _, h, _ => by cases h
  | _ :: _, [], h, _ => by cases h
  | a :: as, r :: rs, h, hq => .cons ⟨a, rfl, hq (a, .lst (r.map V.int)) List.mem_cons_self⟩ (rowsM_paired (Nat.succ.inj h) fun q hm => hq q (List.mem_cons_of_mem _ hm))
section
variable {K : PySem.W.Frag} {G0 H0 G H G1 : Hp} {D : List Addr} {M M' N : List (Addr × HO)} {σ : L2.St} {Q : VK} {tt : TT} {te : TE} {vss : List Nat} {p : Addr} {o : HO}
theorem Sta.perm (h : Sta K G0 H0 D G M H) (p : M.Perm M') : Sta K G0 H0 D G M' H :=
  ⟨h.g0, h.gh, h.fr, h.kp, h.up, (p.map _).nodup_iff.mp h.md, fun q hq => h.mh q (p.mem_iff.mpr hq)⟩
theorem Sta.frzs : ∀ (N : List (Addr × HO)) {G : Hp}, Sta K G0 H0 D G (N ++ M) H → (∀ q ∈ N, H0 q.1 = none) → ∃ G1, Same G G1 ∧ Sta K G0 H0 D G1 M H ∧ ∀ q ∈ N, G1 q.1 = some q.2
  | [], G, h, _ => ⟨G, Same.refl G, h, fun q hq => by cases hq⟩
  | (p, o) :: N, G, h, h0 => by
    obtain ⟨s, e⟩ := Sta.frz (M := N ++ M) h (h0 (p, o) List.mem_cons_self)
    obtain ⟨G1, e1, s1, k⟩ := Sta.frzs N s fun q hq => h0 q (List.mem_cons_of_mem _ hq)
    refine ⟨G1, e.trans e1, s1, fun q hq => ?_⟩
    rcases List.mem_cons.mp hq with rfl | hq
    · exact e1 _ _ upd_same
    · exact k q hq
open Classical in
noncomputable def hole (G : Hp) (as : List Addr) : Hp := fun a => if a ∈ as then none else G a
theorem hole_ne {as : List Addr} {a : Addr} (h : a ∉ as) : hole G as a = G a := if_neg h
theorem hole_in {as : List Addr} {a : Addr} (h : a ∈ as) : hole G as a = none := if_pos h
theorem hole_same {as : List Addr} (e : Same G G1) (h : ∀ a ∈ as, G a = none) : Same G (hole G1 as) := fun a o ha => by
  rw [hole_ne fun z => by rw [h a z] at ha; cases ha]
  exact e _ _ ha
/-- known objects of one's own are taken up as changing ones -/
theorem Sta.melt (h : Sta K G0 H0 D G M H) (N : List (Addr × HO)) (hn : ∀ q ∈ N, G q.1 = some q.2) (h0 : ∀ q ∈ N, H0 q.1 = none) (g0 : ∀ q ∈ N, G0 q.1 = none) (nd : (N.map (·.1)).Nodup) : Sta K G0 H0 D (hole G (N.map (·.1))) (N ++ M) H := by
  have inN : ∀ {a : Addr}, a ∈ N.map (·.1) → ∃ q ∈ N, q.1 = a := fun {a} hm => by
    obtain ⟨q, hq, e⟩ := List.mem_map.mp hm
    exact ⟨q, hq, e⟩
  have mn : ∀ q ∈ M, q.1 ∉ N.map (·.1) := fun q hq hm => by
    obtain ⟨r, hr, e⟩ := inN hm
    have e1 := hn r hr
    rw [e, (h.mh q hq).2.1] at e1
    cases e1
  refine ⟨hole_same h.g0 fun a ha => ?_, fun a x e => ?_, fun a ha => ?_, h.kp, h.up, ?_, fun q hq => ?_⟩
  · obtain ⟨q, hq, rfl⟩ := inN ha
    exact g0 q hq
  · have ne : a ∉ N.map (·.1) := fun z => by rw [hole_in z] at e; cases e
    rw [hole_ne ne] at e
    exact h.gh _ _ e
  · have ne : a ∉ N.map (·.1) := fun z => by
      obtain ⟨q, hq, rfl⟩ := inN z
      exact ha (h0 q hq)
    rw [hole_ne ne]
    exact h.fr a ha
  · rw [List.map_append]
    refine List.nodup_append.mpr ⟨nd, h.md, fun a ha b hb e => ?_⟩
    subst e
    obtain ⟨q, hq, e⟩ := List.mem_map.mp hb
    exact mn q hq (by rw [show q.1 = a from e]; exact ha)
  · rcases List.mem_append.mp hq with hq | hq
    · exact ⟨h.gh _ _ (hn q hq), hole_in (List.mem_map.mpr ⟨q, hq, rfl⟩), .inr (h0 q hq)⟩
    · obtain ⟨e1, e2, e3⟩ := h.mh q hq
      exact ⟨e1, by rw [hole_ne (mn q hq)]; exact e2, e3⟩
/-- a new list of ints by a comprehension over a range: the list is new -/
theorem lcNewI {lo : Int} {n : Nat} {g : TG} {F : Nat → Int} (hS : Sta K G0 H0 D G M H) (hl : n ≤ 100000)
    (hs : ∀ (i : Nat) L G1 vs H1 (Z : VK) (ZP : Hp → Prop), i < n → Same G G1 → H0 L = none → Sta K G0 H0 D G1 ((L, .lst vs) :: M) H1 → (∀ G2 H2, Same G1 G2 → Sta K G0 H0 D G2 ((L, .lst vs) :: M) H2 → Z (.int (F i)) H2) →
      g (.int (lo + i)) (wipe σ vss) H1 fun σ2 H3 => wipe σ2 vss = wipe σ vss ∧ tt σ2 H3 fun b H4 => if b = true then te σ2 H4 Z else ZP H4)
    (hd : ∀ p G1 H1, H p = none → Same G G1 → Sta K G0 H0 D G1 M H1 → G1 p = some (.lst (((List.range n).map F).map .int)) → Q (.ref p) H1) : LcG (Itr lo n) g tt te vss σ Q H := by
  intro L hL
  have l0 := hS.h0 hL
  refine lc_it walk_range (fun i H1 => ∃ G1, Same G G1 ∧ Sta K G0 H0 D G1 ((L, .lst (((List.range i).map F).map .int)) :: M) H1) ⟨G, Same.refl G, hS.mut hL _⟩ (fun i H1 _ _ => trivial) (fun i x H1 H2 hi p y => ?_) (fun H1 p => ?_)
  · obtain ⟨G1, e, s⟩ := p
    obtain ⟨rfl, rfl⟩ := y
    refine hs i L G1 _ H2 _ _ hi e l0 s fun G2 H3 e2 s2 => ?_
    refine ⟨_, s2.get (i := 0) rfl, by simp; exact Nat.lt_of_lt_of_le (show i < 100000 by omega) (by decide), G2, e.trans e2, ?_⟩
    have s3 := s2.set (i := 0) rfl (.lst (((List.range (i + 1)).map F).map .int))
    have el : ((List.range (i + 1)).map F).map V.int = ((List.range i).map F).map V.int ++ [.int (F i)] := by
      rw [List.range_succ, List.map_append, List.map_append]
      rfl
    rw [el] at s3 ⊢
    exact s3
  · obtain ⟨G1, e, s⟩ := p
    obtain ⟨s2, e2⟩ := s.frz l0
    exact hd L _ H1 hL (e.trans e2) s2 upd_same
/-- a new list of new rows -/
theorem lcNewR {lo : Int} {n : Nat} {g : TG} {F : Nat → List Int} (hS : Sta K G0 H0 D G M H) (hl : n ≤ 100000)
    (hs : ∀ (i : Nat) L G1 vs H1 (Z : VK) (ZP : Hp → Prop), i < n → Same G G1 → H0 L = none → Sta K G0 H0 D G1 ((L, .lst vs) :: M) H1 → (∀ a G2 H2, H1 a = none → Same G1 G2 → Sta K G0 H0 D G2 ((L, .lst vs) :: M) H2 → G2 a = some (.lst ((F i).map .int)) → Z (.ref a) H2) →
      g (.int (lo + i)) (wipe σ vss) H1 fun σ2 H3 => wipe σ2 vss = wipe σ vss ∧ tt σ2 H3 fun b H4 => if b = true then te σ2 H4 Z else ZP H4)
    (hd : ∀ p as G1 H1, H p = none → Same G G1 → Sta K G0 H0 D G1 M H1 → G1 p = some (.lst (as.map .ref)) → as.Nodup → as.length = n → (∀ a ∈ as, H0 a = none) → (∀ q ∈ rowsM as ((List.range n).map F), G1 q.1 = some q.2) → Q (.ref p) H1) : LcG (Itr lo n) g tt te vss σ Q H := by
  intro L hL
  have l0 := hS.h0 hL
  refine lc_it walk_range (fun i H1 => ∃ G1 as, Same G G1 ∧ Sta K G0 H0 D G1 ((L, .lst (as.map .ref)) :: M) H1 ∧ as.Nodup ∧ as.length = i ∧ (∀ a ∈ as, H0 a = none) ∧ (∀ q ∈ rowsM as ((List.range i).map F), G1 q.1 = some q.2)) ⟨G, [], Same.refl G, hS.mut hL _, .nil, rfl, (fun a ha => by cases ha), fun q hq => by cases hq⟩ (fun i H1 _ _ => trivial) (fun i x H1 H2 hi p y => ?_) (fun H1 p => ?_)
  · obtain ⟨G1, as, e, s, nd, al, new, rws⟩ := p
    obtain ⟨rfl, rfl⟩ := y
    refine hs i L G1 _ H2 _ _ hi e l0 s fun a G2 H3 ha e2 s2 ga => ?_
    have gn := s.gn ha
    have an : a ∉ as := fun hm => by
      obtain ⟨k, hk⟩ := List.mem_iff_getElem?.mp hm
      have hk1 : k < as.length := (List.getElem?_eq_some_iff.mp hk).1
      have := rws _ (List.mem_of_getElem? (rowsM_get (i := k) (by simp [al]) (by simp; omega)))
      have ek : as.getD k 0 = a := by simp [List.getD, hk]
      dsimp only at this
      rw [ek, gn] at this
      cases this
    refine ⟨_, s2.get (i := 0) rfl, by simp [al]; exact Nat.lt_of_lt_of_le (show i < 100000 by omega) (by decide), G2, as ++ [a], e.trans e2, ?_, ?_, by simp [al], fun b hb => ?_, fun q hq => ?_⟩
    · rw [List.map_append]
      exact s2.set (i := 0) rfl _
    · refine List.nodup_append.mpr ⟨nd, by simp, fun c hc d hd z => ?_⟩
      rw [List.mem_singleton] at hd
      subst z
      subst hd
      exact an hc
    · rcases List.mem_append.mp hb with hb | hb
      · exact new b hb
      · rw [List.mem_singleton.mp hb]
        exact s.h0 ha
    · rw [List.range_succ, List.map_append, show List.map F [i] = [F i] from rfl, rowsM_snoc (by simp [al])] at hq
      rcases List.mem_append.mp hq with hq | hq
      · exact e2 _ _ (rws q hq)
      · rw [List.mem_singleton.mp hq]
        exact ga
  · obtain ⟨G1, as, e, s, nd, al, new, rws⟩ := p
    obtain ⟨s2, e2⟩ := s.frz l0
    exact hd L as _ H1 hL (e.trans e2) s2 upd_same nd al new fun q hq => e2 _ _ (rws q hq)
end
end B
namespace B
open PySem PySem.Spec PyProof.Rows L2 RZ
/-! ### a map over the rows, row by row -/
def mapTo (f : List Int → List Int) (rs : List (List Int)) (i : Nat) : List (List Int) := (rs.take i).map f ++ rs.drop i
theorem mapTo_zero (f : List Int → List Int) (rs : List (List Int)) : mapTo f rs 0 = rs := rfl
theorem mapTo_all {f : List Int → List Int} {rs : List (List Int)} {i : Nat} (h : rs.length ≤ i) : mapTo f rs i = rs.map f := by
  unfold mapTo
  rw [List.take_of_length_le h, List.drop_of_length_le h, List.append_nil]
theorem mapTo_len {f : List Int → List Int} {rs : List (List Int)} {i : Nat} : (mapTo f rs i).length = rs.length := by
  unfold mapTo
  rw [List.length_append, List.length_map, List.length_take, List.length_drop]
  omega
theorem mapTo_get {f : List Int → List Int} {rs : List (List Int)} {i : Nat} (h : i < rs.length) : (mapTo f rs i).getD i [] = rs.getD i [] := by
  unfold mapTo
  rw [List.getD, List.getElem?_append_right (by simp; omega)]
  simp [List.getD, Nat.min_eq_left (Nat.le_of_lt h)]
theorem mapTo_set {f : List Int → List Int} {rs : List (List Int)} {i : Nat} (h : i < rs.length) : (mapTo f rs i).set i (f (rs.getD i [])) = mapTo f rs (i + 1) := by
  unfold mapTo
  have hl : ((rs.take i).map f).length = i := by simp; omega
  rw [List.set_append, if_neg (by omega), hl, Nat.sub_self, List.drop_eq_getElem_cons h, List.set_cons_zero, List.take_add_one, List.getElem?_eq_getElem h, List.map_append]
  simp [List.getD, h]
theorem refs_ints {as : List Addr} {r : List Int} (h : as.map V.ref = r.map V.int) : as = [] := by
  cases as with
  | nil => rfl
  | cons a as =>
    cases r with
    | nil => cases h
    | cons x r => cases h
theorem atI_rowV {r : List Int} {j : Nat} (h : j < r.length) : L2.atI (r.map V.int) (j : Int) = some (.int (r.getD j 0)) := by
  refine L2.atI_nat ?_
  rw [List.getElem?_map, List.getElem?_eq_getElem h]
  simp [List.getD, h]
end B
namespace B
open PySem PySem.Spec PyProof.Rows L2 RZ
/-- list * n, to be changed later -/
theorem go_repM {K : PySem.W.Frag} {G0 H0 G H : Hp} {D : List Addr} {M : List (Addr × HO)} {Q : VK} {l : Addr} {k : Int} {xs : List V} (hS : Sta K G0 H0 D G M H) (hx : H l = some (.lst xs)) (hk : 0 ≤ k) (hk2 : k ≤ 1000) (hl : xs.length * k.toNat ≤ 100000) (q : ∀ p H1, H0 p = none → G p = none → Sta K G0 H0 D G ((p, .lst (List.replicate k.toNat xs).flatten) :: M) H1 → Q (.ref p) H1) : rRep (.ref l) (.int k) H Q :=
  ⟨l, k, xs, rfl, rfl, hx, by omega, by omega, sz hl, fun p hp => q p _ (hS.h0 hp) (hS.gn hp) (hS.mut hp _)⟩
end B
namespace B
open PySem PySem.Spec PyProof.Rows L2 RZ
/-- tuple(xs), xs a list that may change -/
theorem go_tupM {K : PySem.W.Frag} {G0 H0 G H : Hp} {D : List Addr} {M : List (Addr × HO)} {Q : VK} {p : Addr} {xs : List V} {ds : List Dt} {i : Nat} (hS : Sta K G0 H0 D G M H) (hi : M[i]? = some (p, .lst xs)) (hx : RpAll K G xs ds) (q : ∀ l G1 H1, Same G G1 → Sta K G0 H0 D G1 M H1 → Rp K G1 (.ref l) (.tup ds) → Q (.ref l) H1) : rTupOf_ K [.ref p] H Q :=
  ⟨p, xs, rfl, .inl ⟨SqL.of (hS.get hi), fun l hl => q l _ _ (same_upd (hS.gn hl)) (hS.imm hl _) (.tup (.inl (.inl upd_same)) (hx.up (same_upd (hS.gn hl))))⟩⟩
end B
/-! zip of two sequences, each a list or a tuple -/
namespace B
open PySem PySem.Spec PyProof.Rows L2 RZ
def ItrAt (k : Bool) (h : Heap) (it a : Addr) (i : Nat) : Prop := if k = true then h.IsTupleIter it a i else h.IsListIter it a i
def SeqK (k : Bool) (h : Heap) (a : Addr) (items : Array Value) : Prop := if k = true then h.IsTuple a items else h.IsList a items
def SqK (k : Bool) (K : PySem.W.Frag) (H : Hp) (a : Addr) (xs : List V) : Prop := if k = true then SqT K H a xs else SqL K H a xs
theorem SqK.up {k : Bool} {K : PySem.W.Frag} {H H' : Hp} {a : Addr} {xs : List V} (e : Same H H') (h : SqK k K H a xs) : SqK k K H' a xs := by
  cases k with
  | true => exact Same.t e h
  | false => exact e.seq (show SqL K H a xs from h)
theorem drawsK (k : Bool) {prog : Program} {w : World} {A : Around} (hh : A.handled = none) (it a : Addr) (ne : a ≠ it) (items : Array Value) :
    Draws prog w A it [it, a] items.size (fun i v => items[i]? = some v) (fun i h => ItrAt k h it a i ∧ SeqK k h a items) := by
  cases k with
  | true => exact Draws.tuple hh it a ne items
  | false => exact Draws.list hh it a ne items
theorem ItrAt.ob {k : Bool} {h : Heap} {it a : Addr} {i : Nat} (x : ItrAt k h it a i) : ∃ o, h.get? it = some o ∧ ∀ v, o.data ≠ .cell v := by
  cases k with
  | true =>
    obtain ⟨o, e, _, d⟩ := (show h.IsTupleIter it a i from x)
    exact ⟨o, e, fun v q => by rw [d] at q; cases q⟩
  | false =>
    obtain ⟨o, e, _, d⟩ := (show h.IsListIter it a i from x)
    exact ⟨o, e, fun v q => by rw [d] at q; cases q⟩
theorem ItrAt.to {k : Bool} {h h' : Heap} {it a : Addr} {i : Nat} (x : ItrAt k h it a i) (e : ∀ o, h.get? it = some o → h'.get? it = some o) : ItrAt k h' it a i := by
  cases k with
  | true => exact Heap.IsTupleIter.at (show h.IsTupleIter it a i from x) e
  | false => exact Heap.IsListIter.at (show h.IsListIter it a i from x) e
theorem invK {X : Cx} {pins : List (Addr × Obj)} {σ : L2.St} {H : Hp} {s : Shared} (I : Inv X pins σ H s) {k : Bool} {a : Addr} {xs : List V} (q : SqK k X.K H a xs) : ∃ its, Vals xs its ∧ SeqK k s.heap a its.toArray ∧ a < s.heap.objs.size := by
  cases k with
  | true =>
    obtain ⟨its, rv, p, _⟩ := I.tuple (show SqT X.K H a xs from q)
    have ⟨o, ho, _⟩ := p
    exact ⟨its, rv, p, Heap.lt_size ho⟩
  | false =>
    obtain ⟨its, rv, p, _⟩ := I.list (show SqL X.K H a xs from q)
    exact ⟨its, rv, p.isList, p.lt⟩
theorem injK {X : Cx} {pins : List (Addr × Obj)} {σ : L2.St} {H : Hp} {s : Shared} (I : Inv X pins σ H s) {k : Bool} {a : Addr} {xs ys : List V} (p : SqK k X.K H a xs) (q : SqK k X.K H a ys) : xs = ys := by
  cases k with
  | true => exact I.tuple_inj (show SqT X.K H a xs from p) q
  | false => exact I.list_inj (show SqL X.K H a xs from p) q
/-- both as they stand at each turn, the items in new pairs -/
def ItzM (k1 k2 : Bool) (K : PySem.W.Frag) (a b : Addr) : It :=
  ⟨fun i H => ∃ xs ys x y, SqK k1 K H a xs ∧ SqK k2 K H b ys ∧ xs[i]? = some x ∧ ys[i]? = some y,
    fun i H v H' => ∃ T x y, v = .ref T ∧ H T = none ∧ H' = upd H T (.tup [x, y]) ∧ (∀ xs, SqK k1 K H a xs → xs[i]? = some x) ∧ ∀ ys, SqK k2 K H b ys → ys[i]? = some y,
    fun i H => ∃ xs ys, SqK k1 K H a xs ∧ SqK k2 K H b ys ∧ i = min xs.length ys.length⟩
abbrev zCells (N : Nat) : List Addr := [N + 4, N + 2, N + 3, N, N + 1]
theorem zCells_of {N : Nat} {c : Addr} (h : c ∈ zCells N) : c = N + 4 ∨ c = N + 2 ∨ c = N + 3 ∨ c = N ∨ c = N + 1 := by simpa using h
theorem turn_zipM {P : Program} {w : World} {K : PySem.W.Frag} {elts : List Expr} {kk : Nat} {tpos : Pos} {k1 k2 : Bool} {a b : Addr} {N : Nat} (la : a < N) (lb : b < N) :
    Turn P w K (.Tuple elts kk tpos) (ItzM k1 k2 K a b) (zCells N) (N + 4) (fun i h => IsZip h (N + 4) (N + 2) (N + 3) .none ∧ IsTupOf2 h (N + 2) (.ref N) (.ref (N + 1)) ∧ (∃ x y, IsTupOf2 h (N + 3) x y) ∧ ItrAt k1 h N a i ∧ ItrAt k2 h (N + 1) b i) where
  mem := List.mem_cons_self
  obj := fun i h st c hc => by
    obtain ⟨hz, hI, ⟨x, y, hO⟩, h1, h2⟩ := st
    rcases zCells_of hc with q | q | q | q | q <;> rw [q]
    · exact ⟨_, hz, fun v z => nomatch z⟩
    · exact ⟨_, hI, fun v z => nomatch z⟩
    · exact ⟨_, hO, fun v z => nomatch z⟩
    · exact h1.ob
    · exact h2.ob
  keep := fun i h h' st e => by
    obtain ⟨hz, hI, ⟨x, y, hO⟩, h1, h2⟩ := st
    exact ⟨e _ (by simp) _ hz, e _ (by simp) _ hI, ⟨x, y, e _ (by simp) _ hO⟩, h1.to fun o z => e _ (by simp) o z, h2.to fun o z => e _ (by simp) o z⟩
  item := by
    intro X hP hw hK hc i pins s σ H E I hf st hg
    subst hP hw hK
    obtain ⟨hz, hI, ⟨x0, y0, hO⟩, h1, h2⟩ := st
    obtain ⟨xs, ys, x, y, qx, qy, hx, hy⟩ := hg
    obtain ⟨us, rv, p1, _⟩ := invK I qx
    obtain ⟨ws, rw', p2, _⟩ := invK I qy
    obtain ⟨u, hu, ru⟩ := rv.get hx
    obtain ⟨v, hv, rv2⟩ := rw'.get hy
    have l1 : i < us.toArray.size := by simpa using (List.getElem?_eq_some_iff.mp hu).1
    have l2 : i < ws.toArray.size := by simpa using (List.getElem?_eq_some_iff.mp hv).1
    have hh : X.A.in1.handled = none := I.ok.hd hc
    have S := zip_sep2 (N := N) (fp1 := [a]) (fp2 := [b]) (fun c z => by rw [List.mem_singleton.mp z]; exact la) (fun c z => by rw [List.mem_singleton.mp z]; exact lb)
    refine wpAny_pyNext_zipD2_item S (drawsK k1 hh N a (Nat.ne_of_lt la) us.toArray) (drawsK k2 hh (N + 1) b (Nat.ne_of_lt (Nat.lt_succ_of_lt lb)) ws.toArray) hz hI hO ⟨h1, p1⟩ ⟨h2, p2⟩ l1 l2 fun u' v' g tk e1 e2 z1 o1 d1 d2 t1 sz kp => ?_
    have eu : u' = u := by
      have z : us.toArray[i]? = some u := by simpa using hu
      rw [z] at e1
      exact (Option.some.inj e1).symm
    have ev : v' = v := by
      have z : ws.toArray[i]? = some v := by simpa using hv
      rw [z] at e2
      exact (Option.some.inj e2).symm
    subst eu
    subst ev
    have zlt : N + 4 < s.heap.objs.size := Heap.lt_size hz
    refine ⟨_, rfl, wpAny_letOwnedTupleGo_zip (s := { s with heap := g, toks := tk }) z1 fun g2 z2 sb => ?_⟩
    have ht : g2.get? s.heap.objs.size = some { cls := .type "tuple", data := .seq #[u', v'] } := (sb.2 _ (Nat.ne_of_gt zlt)).trans t1
    have new : ObjOk X.prog X.w (upd H s.heap.objs.size (.tup [x, y])) g2 s.heap.objs.size (.tup [x, y]) :=
      ⟨show 2 ≤ sizeLine by decide, [u', v'], .cons ru (.cons rv2 .nil), _, ht, rfl, _, rfl⟩
    have old : ∀ c o, c ∉ zCells N → s.heap.get? c = some o → g2.get? c = some o := fun c o hb z =>
      (sb.2 c fun e => hb (by simp [e])).trans (kp c o (fun e => hb (by simp [e])) (fun e => hb (by simp [e])) (fun e => hb (by simp [e])) (fun e => hb (by simp [e])) z)
    have I1 : Inv X pins σ (upd H s.heap.objs.size (.tup [x, y])) { s with heap := g2, toks := tk } := I.turnedNew (ch := zCells N) (fun c o hb z => old c o hb z) hf (Nat.le_refl _) new
    refine ⟨.ref s.heap.objs.size, _, I1, rfl, ⟨_, x, y, rfl, I.hok.fresh (Nat.le_refl _), rfl, fun l hl => by rw [injK I hl qx]; exact hx, fun l hl => by rw [injK I hl qy]; exact hy⟩, ⟨z2, ?_, ⟨u', v', ?_⟩, ?_, ?_⟩, fun c hcm => ?_⟩
    · exact (sb.2 _ S.TIz).trans (kp _ _ S.TIz S.TITO S.TIi1 S.TIi2 hI)
    · exact (sb.2 _ S.TOz).trans o1
    · exact d1.1.to fun o z => (sb.2 _ (fun e => S.zi1 e.symm)).trans z
    · exact d2.1.to fun o z => (sb.2 _ (fun e => S.zi2 e.symm)).trans z
    · have lt : c < s.heap.objs.size := by
        have zz : (N + 4 : Nat) < s.heap.objs.size := zlt
        rcases zCells_of hcm with q | q | q | q | q
        · rw [q]; exact zz
        · rw [q]; exact (show (N + 2 : Nat) < s.heap.objs.size by omega)
        · rw [q]; exact (show (N + 3 : Nat) < s.heap.objs.size by omega)
        · rw [q]; exact (show (N : Nat) < s.heap.objs.size by omega)
        · rw [q]; exact (show (N + 1 : Nat) < s.heap.objs.size by omega)
      rw [upd_ne (Nat.ne_of_lt lt)]
      exact (hf c hcm).1
  done := by
    intro X hP hw hK hc i pins s σ H E I hf st hg
    subst hP hw hK
    obtain ⟨hz, hI, ⟨x0, y0, hO⟩, h1, h2⟩ := st
    obtain ⟨xs, ys, qx, qy, hend⟩ := hg
    obtain ⟨us, rv, p1, _⟩ := invK I qx
    obtain ⟨ws, rw', p2, _⟩ := invK I qy
    have l1 : us.toArray.size = xs.length := by rw [List.size_toArray]; exact rv.length.symm
    have l2 : ws.toArray.size = ys.length := by rw [List.size_toArray]; exact rw'.length.symm
    have hh : X.A.in1.handled = none := I.ok.hd hc
    have S := zip_sep2 (N := N) (fp1 := [a]) (fp2 := [b]) (fun c z => by rw [List.mem_singleton.mp z]; exact la) (fun c z => by rw [List.mem_singleton.mp z]; exact lb)
    refine wpAny_pyNext_zipD2_end S (drawsK k1 hh N a (Nat.ne_of_lt la) us.toArray) (drawsK k2 hh (N + 1) b (Nat.ne_of_lt (Nat.lt_succ_of_lt lb)) ws.toArray) hz hI hO ⟨h1, p1⟩ ⟨h2, p2⟩ (by omega) (by omega) (by omega) fun g tk kp => ⟨rfl, ?_⟩
    exact I.turnedL (t' := tk) (ch := zCells N) (fun c o hb z => kp c o (fun e => hb (by simp [e])) (fun e => hb (by simp [e])) (fun e => hb (by simp [e])) (fun e => hb (by simp [e])) z) hf
  self := fun A i s Q E st h => wpAny_pyIter_zip st.1 h
def iZipM (K : PySem.W.Frag) (ta : TA) : TI := fun σ H R => ta σ H fun vs H1 => ∃ k1 k2 a b xs ys, vs = [.ref a, .ref b] ∧ SqK k1 K H1 a xs ∧ SqK k2 K H1 b ys ∧ R (ItzM k1 k2 K a b) H1
theorem beginsK (k : Bool) (a : Addr) (items : Array Value) : ∃ o, Begins (.ref a) o (fun h => SeqK k h a items) ∧ ∀ h it, h.get? it = some o → ItrAt k h it a 0 := by
  cases k with
  | true => exact ⟨_, begins_tuple a items, fun h it e => ⟨_, e, rfl, rfl⟩⟩
  | false => exact ⟨_, begins_list a items, fun h it e => ⟨_, e, rfl, rfl⟩⟩
theorem pi_zipM {X : Cx} {e e2 : Expr} {ta : TA} {p pos tpos : Pos} {elts : List Expr} {kk : Nat} (hg : Gl X "zip") (hm : X.mg "zip" = none) (ha : PA X [e, e2] ta)
    (hs : starEach [e, e2] X.env = (false, eval e X.env) :: starEach [e2] X.env := by rfl) (hb : (backTo pos (starEach [e2] X.env)).any (·.1) = false := by rfl) :
    PI X (.Tuple elts kk tpos) (.Call (.Name "zip" p) [e, e2] [] pos) (iZipM X.K ta) := by
  refine ⟨fun pins s σ H R I h => ?_⟩
  refine Call_ (ld_blt I hg hm boot_zip (callWith_type1 (thn (ha.run pos pins s σ H _ I h) fun us s1 ⟨vs, H1, I1, r1, q1⟩ => ?_) hs hb))
  obtain ⟨k1, k2, a, b, xs, ys, rfl, qx, qy, q⟩ := q1
  obtain ⟨u, v, rfl, ru, rv⟩ : ∃ u v, us = [u, v] ∧ RelV (.ref a) u ∧ RelV (.ref b) v := by
    cases r1 with
    | cons r rr =>
      cases rr with
      | cons r' rr =>
        cases rr
        exact ⟨_, _, rfl, r, r'⟩
  cases ru
  cases rv
  obtain ⟨us, rv, p1, la⟩ := invK I1 qx
  obtain ⟨ws, rw', p2, lb⟩ := invK I1 qy
  obtain ⟨o1, B1, i1⟩ := beginsK k1 a us.toArray
  obtain ⟨o2, B2, i2⟩ := beginsK k2 b ws.toArray
  refine zip_begins2 B1 B2 p1 p2 fun g hz hI hO g1 g2 sz kp => wpAny_pyIter_zip hz ?_
  have I2 : Inv X pins σ H1 { s1 with heap := g } := I1.kept (t' := s1.toks) kp
  refine ⟨s1.heap.objs.size + 4, zCells s1.heap.objs.size, _, _, H1, rfl, I2, turn_zipM la lb, ⟨hz, hI, ⟨_, _, hO⟩, i1 _ _ g1, i2 _ _ g2⟩, fun c hc => ?_, q⟩
  have le : s1.heap.objs.size ≤ c := by
    rcases zCells_of hc with z | z | z | z | z <;> rw [z] <;> omega
  exact I1.fpOk le (I1.hok.fresh le)
theorem walk_zM {k1 k2 : Bool} {K : PySem.W.Frag} {a b : Addr} {xs ys : List V} : Walk (ItzM k1 k2 K a b) (min xs.length ys.length) (fun H => SqK k1 K H a xs ∧ SqK k2 K H b ys) (fun i H v H' => ∃ T x y, v = .ref T ∧ H T = none ∧ H' = upd H T (.tup [x, y]) ∧ xs[i]? = some x ∧ ys[i]? = some y) :=
  ⟨fun i H hi q => ⟨xs, ys, xs[i]'(by omega), ys[i]'(by omega), q.1, q.2, List.getElem?_eq_getElem _, List.getElem?_eq_getElem _⟩, fun H q => ⟨xs, ys, q.1, q.2, rfl⟩, fun i H v H' hi q z => by
    obtain ⟨T, x, y, e1, e2, e3, h1, h2⟩ := z
    exact ⟨T, x, y, e1, e2, e3, h1 xs q.1, h2 ys q.2⟩⟩
end B
namespace B
open PySem PySem.Spec PyProof.Rows L2 RZ
def seqD (k : Bool) (ds : List Dt) : Dt := if k = true then .tup ds else .lst ds
theorem Rp.seq_inv {K : PySem.W.Frag} {G : Hp} {k : Bool} {v : V} {ds : List Dt} (h : Rp K G v (seqD k ds)) : ∃ a xs, v = .ref a ∧ SqK k K G a xs ∧ RpAll K G xs ds := by
  cases k with
  | true =>
    obtain ⟨a, xs, e, q, r⟩ := Rp.tup_inv (show Rp K G v (.tup ds) from h)
    exact ⟨a, xs, e, q, r⟩
  | false =>
    obtain ⟨a, xs, e, q, r⟩ := Rp.lst_inv (show Rp K G v (.lst ds) from h)
    exact ⟨a, xs, e, q, r⟩
section
variable {K : PySem.W.Frag} {G0 H0 G H : Hp} {D : List Addr} {M : List (Addr × HO)} {σ σ' : L2.St} {Q : VK} {tt : TT} {ta te : TE} {t : TA} {ts : TS} {ds fs : List Dt} {vss : List Nat} {nx bk ct : L2.St → Hp → Prop} {rt : VK} {x y : V} {k1 k2 : Bool}
def ZMK (K : PySem.W.Frag) (k : It → Hp → Prop) (vs : List V) (H : Hp) : Prop := ∃ k1 k2 a b xs ys, vs = [.ref a, .ref b] ∧ SqK k1 K H a xs ∧ SqK k2 K H b ys ∧ k (ItzM k1 k2 K a b) H
theorem go_iZipM {k : It → Hp → Prop} (h : t σ H fun vs H1 => ZMK K k vs H1) : iZipM K t σ H k := h
theorem go_zmk {k : It → Hp → Prop} (hx : Rp K G x (seqD k1 ds)) (hy : Rp K G y (seqD k2 fs)) (e : Same G H) (h : ∀ a b xs ys, x = .ref a → y = .ref b → SqK k1 K G a xs → RpAll K G xs ds → SqK k2 K G b ys → RpAll K G ys fs → k (ItzM k1 k2 K a b) H) : ZMK K k [x, y] H := by
  obtain ⟨a, xs, rfl, hs, ha⟩ := hx.seq_inv
  obtain ⟨b, ys, rfl, hs', ha'⟩ := hy.seq_inv
  exact ⟨k1, k2, a, b, xs, ys, rfl, hs.up e, hs'.up e, h a b xs ys rfl rfl hs ha hs' ha'⟩
/-- a comprehension over zip of two sequences of one length, each pair by itself -/
theorem lcMapZM {α β : Type} {a b : Addr} {xs ys : List V} {as : List α} {bs : List β} {Da : α → Dt} {Db : β → Dt} {F : α → β → Dt} {i1 j1 : Nat} (hS : Sta K G0 H0 D G M H) (hq : SqK k1 K G a xs) (hr : RpAll K G xs (as.map Da)) (hq' : SqK k2 K G b ys) (hr' : RpAll K G ys (bs.map Db)) (hab : as.length = bs.length) (hl : as.length ≤ 100000)
    (hs : ∀ x y c e L G1 vs es H1 (Z : List (Addr × HO) → List Dt → Prop), c ∈ as → e ∈ bs → Rp K G1 x (Da c) → Rp K G1 y (Db e) → Same G G1 → H0 L = none → Sta K G0 H0 D G1 ((L, .lst vs) :: M) H1 → RpAll K G1 vs es → (∀ y G2 H2, Same G1 G2 → Sta K G0 H0 D G2 ((L, .lst vs) :: M) H2 → Rp K G2 y (F c e) → LcY K G0 H0 D G L Z y H2) →
      ∀ σ2, List.set (List.set (wipe σ vss) i1 (some x)) j1 (some y) = σ2 → wipe σ2 vss = wipe σ vss ∧ tt σ2 H1 fun b H4 => if b = true then te σ2 H4 (LcY K G0 H0 D G L Z) else LcP K G0 H0 D G L Z H4)
    (hd : ∀ p G1 H1, Same G G1 → Sta K G0 H0 D G1 M H1 → Rp K G1 (.ref p) (.lst (List.zipWith F as bs)) → Q (.ref p) H1) : LcG (ItzM k1 k2 K a b) (gTup K 2 (gCons (gName i1) (gCons (gName j1) gNil))) tt te vss σ Q H := by
  have lx := hr.length
  have ly := hr'.length
  rw [List.length_map] at lx ly
  refine lcI (walk_zM (xs := xs) (ys := ys)) hS (fun H1 e => ⟨hq.up e, hq'.up e⟩) (fun i M1 es => M1 = M ∧ es = (List.zipWith F as bs).take i) ⟨rfl, rfl⟩ (fun i x L G1 M1 vs es H1 H2 hi e l0 s r w yy => ?_) (fun p G1 M1 es H1 e s r w => ?_)
  · obtain ⟨rfl, rfl⟩ := w
    obtain ⟨T, u, v, rfl, hT, eH, h1, h2⟩ := yy
    have ha : i < as.length := by omega
    have hb : i < bs.length := by omega
    obtain ⟨d, hd', rd⟩ := hr.getV h1
    obtain ⟨f, hf', rf⟩ := hr'.getV h2
    rw [List.getElem?_map, List.getElem?_eq_getElem ha] at hd'
    rw [List.getElem?_map, List.getElem?_eq_getElem hb] at hf'
    cases hd'
    cases hf'
    obtain ⟨G2, e2, s2, q2⟩ := s.pair hT eH
    refine go_gpair q2 rfl (hs u v as[i] bs[i] L G2 vs _ H2 _ (List.getElem_mem ha) (List.getElem_mem hb) (rd.up (e.trans e2)) (rf.up (e.trans e2)) (e.trans e2) l0 s2 (r.up e2) (fun y G3 H3 e3 s3 hy => ?_) _ rfl)
    refine lcY s3 ((e.trans e2).trans e3) ((r.up e2).up e3) hy (by simp; omega) ⟨rfl, ?_⟩
    have hz : i < (List.zipWith F as bs).length := by rw [List.length_zipWith]; omega
    rw [List.take_add_one, List.getElem?_eq_getElem hz]
    simp
  · obtain ⟨rfl, rfl⟩ := w
    rw [List.take_of_length_le (by rw [List.length_zipWith]; omega)] at r
    exact hd p G1 H1 e s r
end
end B
namespace B
open PySem PySem.Spec PyProof.Rows L2 RZ
section
variable {K : PySem.W.Frag} {G0 H0 G H : Hp} {D : List Addr} {M : List (Addr × HO)} {Q : VK} {ds : List Dt} {d : Dt} {x : V} {k : Bool}
theorem go_lenK (hx : Rp K G x (seqD k ds)) (e : Same G H) (q : Q (.int ds.length) H) : rLen_ K [x] H Q := by
  cases k with
  | true => exact go_lenT (show Rp K G x (.tup ds) from hx) e q
  | false => exact go_lenL (show Rp K G x (.lst ds) from hx) e q
theorem go_ixK {n : Int} (hx : Rp K G x (seqD k ds)) (e : Same G H) (hi : atI ds n = some d) (q : ∀ v, Rp K G v d → Q v H) : rIx K x (.int n) H Q := by
  cases k with
  | true => exact go_ixA (show Rp K G x (.tup ds) from hx) e hi q
  | false => exact go_ixB (show Rp K G x (.lst ds) from hx) e hi q
theorem go_listK (hS : Sta K G0 H0 D G M H) (hx : Rp K G x (seqD k ds)) (q : ∀ p G1 H1, Same G G1 → Sta K G0 H0 D G1 M H1 → Rp K G1 (.ref p) (.lst ds) → Q (.ref p) H1) : rListOf_ K [x] H Q := by
  cases k with
  | true => exact go_listT hS (show Rp K G x (.tup ds) from hx) q
  | false => exact go_listL hS (show Rp K G x (.lst ds) from hx) q
end
end B
namespace B
open PySem PySem.Spec PyProof.Rows L2 RZ
/-! ### in, not in: whole numbers; loops over a list or a tuple, told which -/
section
variable {K : PySem.W.Frag} {G0 H0 G H : Hp} {D : List Addr} {M : List (Addr × HO)} {σ : L2.St} {Q : VK} {tt : TT} {te tl : TE} {t : TS} {ds : List Dt} {vss : List Nat} {nx bk ct : L2.St → Hp → Prop} {rt : VK} {x : V} {k : Bool} {a : Addr} {xs : List V}
theorem inV_ints (i : Int) (ns : List Int) : inV (.int i) (ns.map V.int) = decide (i ∈ ns) := by
  unfold inV
  rw [List.any_map, Bool.eq_iff_iff, List.any_eq_true, decide_eq_true_eq]
  constructor
  · rintro ⟨y, hy, e⟩
    have : y = i := by simpa [eqV] using e
    exact this ▸ hy
  · intro h
    exact ⟨i, h, by simp [eqV]⟩
theorem flat_ints (ns : List Int) : (ns.map V.int).all flatV = true := by
  rw [List.all_map, List.all_eq_true]
  intro n _
  rfl
theorem go_inI {neg : Bool} {i : Int} {ns : List Int} (hx : Rp K G x (seqD k (ns.map .int))) (e : Same G H) (q : Q (.bl (if neg then !decide (i ∈ ns) else decide (i ∈ ns))) H) : rIn K neg (.int i) x H Q := by
  obtain ⟨a, xs, rfl, hs, ha⟩ := hx.seq_inv
  rw [ha.ints_inv] at hs
  refine ⟨a, _, rfl, ?_, rfl, flat_ints ns, by rw [inV_ints]; exact q⟩
  have := hs.up e
  cases k with
  | true => exact .inr this
  | false => exact .inl this
def ItK (k : Bool) (K : PySem.W.Frag) (a : Addr) : It := if k = true then Itt K a else Itl K a
def iK (k : Bool) (K : PySem.W.Frag) (tl : TE) : TI := if k = true then iTup K tl else iList K tl
theorem pi_K {X : Cx} {tg l : Expr} (k : Bool) (hl : PE X l tl) : PI X tg l (iK k X.K tl) := by
  cases k with
  | true => exact pi_tup hl
  | false => exact pi_list hl
def LKK (k : Bool) (K : PySem.W.Frag) (kk : It → Hp → Prop) (x : V) (H : Hp) : Prop := ∃ a, x = .ref a ∧ (∃ xs, SqK k K H a xs) ∧ kk (ItK k K a) H
theorem go_iK {kk : It → Hp → Prop} (h : tl σ H fun x H1 => LKK k K kk x H1) : iK k K tl σ H kk := by
  cases k with
  | true => exact h
  | false => exact h
theorem go_itK {kk : It → Hp → Prop} (hx : Rp K G x (seqD k ds)) (e : Same G H) (h : ∀ a xs, x = .ref a → SqK k K G a xs → RpAll K G xs ds → kk (ItK k K a) H) : LKK k K kk x H := by
  obtain ⟨a, xs, rfl, hs, ha⟩ := hx.seq_inv
  exact ⟨a, rfl, ⟨xs, hs.up e⟩, h a xs rfl hs ha⟩
theorem walk_K : Walk (ItK k K a) xs.length (fun H => SqK k K H a xs) (fun i H x H' => H' = H ∧ xs[i]? = some x) := by
  cases k with
  | true => exact walk_tup (xs := xs)
  | false => exact walk_list (xs := xs)
theorem forK {g : TG} (hS : Sta K G0 H0 D G M H) (hq : SqK k K G a xs) (hr : RpAll K G xs ds) (W : Nat → L2.St → Hp → List (Addr × HO) → Prop) (h0 : W 0 σ G M)
    (hs : ∀ i x d σ' G1 M1 H1, i < ds.length → ds[i]? = some d → Same G G1 → Sta K G0 H0 D G1 M1 H1 → Rp K G1 x d → W i σ' G1 M1 → g x σ' H1 fun σ2 H3 => t ⟨Nx K G0 H0 D G (W (i + 1)), rt, nx, Nx K G0 H0 D G (W (i + 1))⟩ σ2 H3)
    (hd : ∀ σ' G1 M1 H1, Same G G1 → Sta K G0 H0 D G1 M1 H1 → W ds.length σ' G1 M1 → nx σ' H1) : ForG (ItK k K a) g t ⟨nx, rt, bk, ct⟩ σ H :=
  forI (walk_K (xs := xs)) hS (fun H1 e => hq.up e) W h0 (fun i x σ' G1 M1 H1 H2 hi e s w y => by
    obtain ⟨rfl, hx⟩ := y
    obtain ⟨d, hd, r⟩ := hr.getV hx
    exact hs i x d σ' G1 M1 H2 (by rw [← hr.length]; exact hi) hd e s (r.up e) w) (by rw [hr.length]; exact hd)
/-- a comprehension, each item by itself; the new list may change -/
theorem lcMapKM {α : Type} {g : TG} {as : List α} {Da : α → Dt} {F : α → Dt} (hS : Sta K G0 H0 D G M H) (hq : SqK k K G a xs) (hr : RpAll K G xs (as.map Da)) (hl : as.length ≤ 100000)
    (hs : ∀ x c L G1 vs es H1 (Z : List (Addr × HO) → List Dt → Prop), c ∈ as → Rp K G1 x (Da c) → Same G G1 → H0 L = none → Sta K G0 H0 D G1 ((L, .lst vs) :: M) H1 → RpAll K G1 vs es → (∀ y G2 H2, Same G1 G2 → Sta K G0 H0 D G2 ((L, .lst vs) :: M) H2 → Rp K G2 y (F c) → LcY K G0 H0 D G L Z y H2) →
      g x (wipe σ vss) H1 fun σ2 H3 => wipe σ2 vss = wipe σ vss ∧ tt σ2 H3 fun b H4 => if b = true then te σ2 H4 (LcY K G0 H0 D G L Z) else LcP K G0 H0 D G L Z H4)
    (hd : ∀ L vs G1 H1, Same G G1 → H0 L = none → Sta K G0 H0 D G1 ((L, .lst vs) :: M) H1 → RpAll K G1 vs (as.map F) → Q (.ref L) H1) : LcG (ItK k K a) g tt te vss σ Q H := by
  cases k with
  | true => exact lcMapTM hS (show SqT K G a xs from hq) hr hl hs hd
  | false => exact lcMapLM hS (show SqL K G a xs from hq) hr hl hs hd
theorem lcMapK {α : Type} {g : TG} {as : List α} {Da : α → Dt} {F : α → Dt} (hS : Sta K G0 H0 D G M H) (hq : SqK k K G a xs) (hr : RpAll K G xs (as.map Da)) (hl : as.length ≤ 100000)
    (hs : ∀ x c L G1 vs es H1 (Z : List (Addr × HO) → List Dt → Prop), c ∈ as → Rp K G1 x (Da c) → Same G G1 → H0 L = none → Sta K G0 H0 D G1 ((L, .lst vs) :: M) H1 → RpAll K G1 vs es → (∀ y G2 H2, Same G1 G2 → Sta K G0 H0 D G2 ((L, .lst vs) :: M) H2 → Rp K G2 y (F c) → LcY K G0 H0 D G L Z y H2) →
      g x (wipe σ vss) H1 fun σ2 H3 => wipe σ2 vss = wipe σ vss ∧ tt σ2 H3 fun b H4 => if b = true then te σ2 H4 (LcY K G0 H0 D G L Z) else LcP K G0 H0 D G L Z H4)
    (hd : ∀ p G1 H1, Same G G1 → Sta K G0 H0 D G1 M H1 → Rp K G1 (.ref p) (.lst (as.map F)) → Q (.ref p) H1) : LcG (ItK k K a) g tt te vss σ Q H :=
  lcMapKM hS hq hr hl hs fun L vs G1 H1 e l0 s r => by
    obtain ⟨G2, e2, s2, r2⟩ := s.frzL l0 r
    exact hd L G2 H1 (e.trans e2) s2 r2
/-- a comprehension whose test keeps nothing -/
theorem lcNoneK {α : Type} {g : TG} {as : List α} {Da : α → Dt} (hS : Sta K G0 H0 D G M H) (hq : SqK k K G a xs) (hr : RpAll K G xs (as.map Da))
    (hs : ∀ x c L G1 vs H1 (Z : VK) (Z0 : Hp → Prop), c ∈ as → Rp K G1 x (Da c) → Same G G1 → H0 L = none → Sta K G0 H0 D G1 ((L, .lst vs) :: M) H1 → (∀ G2 H2, Same G1 G2 → Sta K G0 H0 D G2 ((L, .lst vs) :: M) H2 → Z0 H2) →
      g x (wipe σ vss) H1 fun σ2 H3 => wipe σ2 vss = wipe σ vss ∧ tt σ2 H3 fun b H4 => if b = true then te σ2 H4 Z else Z0 H4)
    (hd : ∀ p G1 H1, Same G G1 → Sta K G0 H0 D G1 M H1 → Rp K G1 (.ref p) (.lst []) → Q (.ref p) H1) : LcG (ItK k K a) g tt te vss σ Q H := by
  refine lcI (walk_K (xs := xs)) hS (fun H1 e => hq.up e) (fun i M1 es => M1 = M ∧ es = []) ⟨rfl, rfl⟩ (fun i x L G1 M1 vs es H1 H2 hi e l0 s r w yy => ?_) (fun p G1 M1 es H1 e s r w => ?_)
  · obtain ⟨rfl, rfl⟩ := w
    obtain ⟨rfl, hx⟩ := yy
    obtain ⟨d, hd', rd⟩ := hr.getV hx
    rw [List.getElem?_map] at hd'
    obtain ⟨c, hc, rfl⟩ := Option.map_eq_some_iff.mp hd'
    exact hs x c L G1 vs H2 _ _ (List.mem_of_getElem? hc) (rd.up e) e l0 s fun G2 H3 e2 s2 => lcN s2 (e.trans e2) (r.up e2) ⟨rfl, rfl⟩
  · obtain ⟨rfl, rfl⟩ := w
    exact hd p G1 H1 e s r
end
end B
namespace B
open PySem PySem.Spec PyProof.Rows L2 RZ
/-- xs[:-1] -/
theorem cut_last (xs : List V) : cutV xs none (some (-1)) = xs.take (xs.length - 1) := by
  unfold cutV
  rw [HT.sIx_none, List.drop_zero]
  have : HT.sIx xs.length xs.length (some (-1)) = xs.length - 1 := by
    show (if (-1 : Int) < 0 then (-1 + (xs.length : Int)).toNat else min (-1 : Int).toNat xs.length) = xs.length - 1
    rw [if_pos (by decide)]
    omega
  rw [this, Nat.sub_zero]
theorem go_slast {K : PySem.W.Frag} {G0 H0 G H : Hp} {D : List Addr} {M : List (Addr × HO)} {Q : VK} {x : V} {ds : List Dt} (hS : Sta K G0 H0 D G M H) (hx : Rp K G x (.lst ds)) (k : ∀ p G1 H1, Same G G1 → Sta K G0 H0 D G1 M H1 → Rp K G1 (.ref p) (.lst (ds.take (ds.length - 1))) → Q (.ref p) H1) : rSlL K x none (some (-1)) H Q := by
  obtain ⟨a, xs, rfl, hs, ha⟩ := Rp.lst_inv hx
  refine go_slL hS hs fun p G1 H1 e s hp => k p G1 H1 e s (.lst (.inl (.inl hp)) ?_)
  rw [cut_last, ha.length]
  exact (ha.take _).up e
end B
namespace B
open PySem PySem.Spec PyProof.Rows L2 RZ
/-! ### f(e, .., k = v, ..) that may raise -/
def tCallNS (n m : Nat) (sp : Sp) (gV : List V → List V → List V) (E : L2.St → XK) (t tk : TA) : TE := fun σ H Q => t σ H fun vs H1 => tk σ H1 fun zs H2 => CN n m sp gV Q (E σ) vs zs H2
theorem pe_callNS {X : Cx} {CX : CXT} {k n : Nat} {f : Addr} {fd : FuncData} {ps ks : List Str} {sp : Sp} {E : L2.St → XK} {x : Str} {p pos : Pos} {e : Expr} {es : List Expr} {kws : List Keyword} {t tk : TA} {g : List Value → List Value → List Value} {gV : List V → List V → List V}
    (F : FnOk X.prog X.w X.K X.mg X.base CX k f fd ps sp) (hr : Room k X.A) (hg : Gl X x) (hm : X.mg x = some (.ref f)) (hk : PySem.W.keepIn X.K (.ref f) = true) (hb : KBn X.K fd ps n ks g gV) (hx : ∀ σ, PassesAt CX X σ (E σ))
    (ha : PA X (e :: es) t) (hkw : PK X kws tk) (hall : (backToKw pos (keywordEach kws X.env)).all (·.1.isSome) = true := by rfl) (hks : (backToKw pos (keywordEach kws X.env)).filterMap (·.1) = ks := by rfl)
    (hdb : (x == ("__debug__" : Str)) = false := by decide) (he : starEach (e :: es) X.env = (false, eval e X.env) :: starEach es X.env := by rfl)
    (hpl : ((backTo pos (starEach (e :: es) X.env)).any (·.1) || (backToKw pos (keywordEach kws X.env)).any (·.1.isNone)) = false := by rfl) :
    PE X (.Call (.Name x p) (e :: es) kws pos) (tCallNS n ks.length sp gV E t tk) := by
  refine ⟨fun pins s σ H Q I h => wpAny_Call_Name_kw (ld_glob I hg hm ?_ hdb)⟩
  refine PySem.W.callWith_KW (h₀ := X.base) I.ok.mod.kin hk hall (thn (ha.run pos pins s σ H _ I h) fun us s1 ⟨vs, H1, I1, r, q⟩ => ?_) hpl he
  refine thn (hkw.run pos pins s1 σ H1 _ I1 q) fun ws s2 ⟨zs, H2, I2, rz, l1, l2, q2⟩ => ⟨I2.kIn, ?_⟩
  rw [hks]
  have rb := hb.rel r rz
  have bd := hb.to s2 us ws I2.kIn (r.length.symm.trans l1) (rz.length.symm.trans l2)
  refine wpAny_call (codeAny_mono (F.run X.A X.stack s2 H2 ⟨us, ks.zip ws⟩ (g us ws) (gV vs zs) Q (E σ) hr I2.env0 bd rb q2) fun r s' hq => ?_)
  match r, hq with
  | .error e, hq => exact hx σ pins H2 s2 e s' I2 hq
  | .ok (.ret u), hq => exact I2.after hq
theorem go_callNS {σ : L2.St} {H : Hp} {Q : VK} {n m : Nat} {sp : Sp} {gV : List V → List V → List V} {E : L2.St → XK} {t tk : TA} (h : t σ H fun vs H1 => tk σ H1 fun zs H2 => CN n m sp gV Q (E σ) vs zs H2) : tCallNS n m sp gV E t tk σ H Q := h
end B
namespace B
open PySem L2 PyProof.Rows
/-! ### sets of ints: set(xs) of a list, len(set), sorted(set) -/
/-- a set as it is new -/
abbrev nSet (w : World) : Obj := { cls := .type "set", dict := none, data := .set #[] 0 (.fresh 0 0 (!w.params.followText "set-order")) }
section
variable {P : Program} {w : World} {A : Around}
  {E : Value → Shared → Prop} {s : Shared}
theorem set_lst {l : Addr} {its : Array Value} (ns : List Int) {Q : Value → Shared → Prop} (nh : A.handled = none) (il : s.heap.IsList l its) (hi0 : IntsAre its.toList ns) (few : ns.length + 1 < scanBound)
    (fin : ∀ (hp : Heap) (tk c : Nat), SetR w hp s.heap.objs.size (fun j => decide (j ∈ ns)) c → c ≤ ns.length → (∀ b u, s.heap.get? b = some u → hp.get? b = some u) → Q (.ref s.heap.objs.size) { s with heap := hp, toks := tk }) :
    wpAny (model P w) A (call (.type "set") [.ref l]) Q E s := by
  have isz : its.size = ns.length := by
    have z := hi0.length
    rwa [Array.length_toList] at z
  obtain ⟨c, tl, m0⟩ := F.called_set.mro
  have m1 := F.called_set.made
  have m2 := F.called_set.sub
  refine wpAny_call (codeAny_of_tree (show wpAny _ _ (callAny (.type "set") _) _ _ _ from wpAny_pure ⟨Code.quiet_builtin _ (by decide +kernel), codeAny_builtin F.entry_type_call ?_⟩))
  rw [Around.under_plain (weight_type_call_type _ [.ref l] []) rfl]
  have m3 := F.called_set.notType
  have m4 := F.called_set.canCreate
  have m5 := F.typeCall_set_1 (.ref l)
  repeat (any_goals first | assumption | wp_step)
  refine codeAny_mono (code_set_led1 (.ref l) (E := E) (Q₁ := fun o1 s1 => o1 = .ref s.heap.objs.size ∧ s1 = { s with heap := s.heap.push (nSet w) }) ⟨rfl, rfl⟩) fun r s1 rs => ?_
  match r, rs with
  | .error e, z => exact z
  | .ok (.ret o1), z =>
    obtain ⟨rfl, rfl⟩ := z
    have gS : (s.heap.push (nSet w)).get? s.heap.objs.size = some (nSet w) := Heap.get?_push_size _ rfl
    have tS : Shared.TypeIs { s with heap := s.heap.push (nSet w) } (.ref s.heap.objs.size) "set" := ⟨_, gS, rfl⟩
    have k1 := F.called_set.init.lookup
    have k2 := F.called_set.init.bind (.ref s.heap.objs.size)
    repeat (any_goals first | assumption | wp_step)
    refine codeAny_mono (codeAny_call_builtin (R := wants (fun r2 s2 => r2 = .none ∧ ∃ hp tk c, s2 = { s with heap := hp, toks := tk } ∧ SetR w hp s.heap.objs.size (fun j => decide (j ∈ ns)) c ∧ c ≤ ns.length ∧
        (∀ b u, s.heap.get? b = some u → hp.get? b = some u)) E) F.called_set.init.plain F.entry_set_init (check_set_init_1 tS ?_)) fun r2 s2 rs2 => ?_
    · obtain ⟨ol, go, gc, nl, gd⟩ := il
      obtain ⟨oc, od, oo, os⟩ := ol
      simp only at gc gd
      subst gc; subst gd
      have go' : (s.heap.push (nSet w)).get? l = some { cls := .type "list", dict := od, data := .seq its nl, slots := os } := Heap.get?_push_of_some _ go
      have u1 := F.sub_list_set
      have u2 := F.sub_list_frozenset
      have u3 : (Value.type "list" == Value.type "dict") = false := by decide
      have il2 : (s.heap.push (nSet w)).IsList l its := ⟨_, go', rfl, nl, rfl⟩
      unfold Builtin.«set.__init__»; unfold noKeywords Builtin.Frozenset.updateFrom
      generalize ei : pyIter = PI
      wp_walk
      subst ei
      refine wpAny_pyIter_list il2 (wpAny_bind (wpAny_runValue ?_))
      have ll : l < s.heap.objs.size := Heap.lt_size go
      have nh3 : A.in1.in1.in1.handled = none := by simp [nh]
      have nI : l ≠ (s.heap.push (nSet w)).objs.size := by
        rw [Heap.size_push]
        exact Nat.ne_of_lt (Nat.lt_succ_of_lt ll)
      have nS : s.heap.objs.size ∉ [(s.heap.push (nSet w)).objs.size, l] := by
        rw [Heap.size_push]
        intro z
        rcases List.mem_cons.mp z with z | z
        · exact absurd z (Nat.ne_of_lt (Nat.lt_succ_self _))
        · exact absurd (List.mem_singleton.mp z) (Nat.ne_of_gt ll)
      have val : ∀ (i : Nat) (v : Value), its[i]? = some v → ∃ k t, ns[i]? = some k ∧ v = .int k t := fun i v hv => by
        have hi : i < ns.length := by
          rw [← isz]
          exact (Array.getElem?_eq_some_iff.mp hv).1
        obtain ⟨t, e⟩ := IntsAre.int_at hi0 i v (by rw [Array.getElem?_toList]; exact hv)
        refine ⟨ns[i], t, List.getElem?_eq_getElem hi, ?_⟩
        rw [e, List.getD_eq_getElem?_getD, List.getElem?_eq_getElem hi]
        rfl
      refine set_update_ints ((Walks.list nh3 _ l nI its).toS) s.heap.objs.size nS ns isz few val (its.size - 0) 0 _ (by omega) (Nat.zero_le _) ⟨⟨_, Heap.get?_push_size _ rfl, rfl, rfl⟩, (il2.push _)⟩ ?g0 ?g1
      case g0 => exact ⟨0, Nat.le_refl 0, setR_new_at (Heap.get?_push_of_some _ gS)⟩
      case g1 =>
        intro s3 c3 mv c3l R3
        obtain ⟨hp, g3, d3, t3, o3⟩ := s3
        have e1 : g3 = s.gens := mv.gens
        have e2 : d3 = s.drawn := mv.drawn
        have e3 : o3 = s.os := mv.os
        subst e1 e2 e3
        refine (show wpAny _ _ _ _ _ _ from wpAny_pure (show wpAny _ _ (ret Value.none) _ _ _ from ?_))
        rw [isz] at c3l
        refine wpAny_pure ⟨rfl, hp, t3, c3, rfl, R3, c3l, fun b u e => ?_⟩
        have b0 : b < s.heap.objs.size := Heap.lt_size e
        have b2 : b ≠ (s.heap.push (nSet w)).objs.size := by
          rw [Heap.size_push]
          exact Nat.ne_of_lt (Nat.lt_succ_of_lt b0)
        refine mv.heap b u (fun z => ?_) (Heap.get?_push_of_some _ (Heap.get?_push_of_some _ e))
        rcases List.mem_cons.mp z with z | z
        · exact absurd z (Nat.ne_of_lt b0)
        · exact b2 (List.mem_singleton.mp z)
    · match r2, rs2 with
      | .error e, z => exact z
      | .ok (.ret _), z =>
        obtain ⟨rfl, hp, tk, c3, rfl, R3, c3l, kp⟩ := z
        repeat (any_goals first | assumption | wp_step)
        exact fin _ _ _ R3 c3l kp
end
def rSetL (K : PySem.W.Frag) (w : World) : List V → Hp → VK → Prop := fun vs H Q => ∃ (l : Addr) (ns : List Int), vs = [.ref l] ∧ (SqL K H l (ns.map V.int) ∨ SqT K H l (ns.map V.int)) ∧ ns.length ≤ 1000 ∧ ∀ p c, H p = none → c ≤ ns.length → Q (.ref p) (upd H p (SetO w p (fun j => decide (j ∈ ns)) c))
theorem cr_setL {X : Cx} (hc : X.calm = true) : CallR X (.type "set") (rSetL X.K X.w) := by
  intro pins s σ H vs us Q I r h
  obtain ⟨l, ns, rfl, hl, hn, q⟩ := h
  rw [Vals.ref1 r]
  have fin : ∀ (hp : Heap) (tk c : Nat), SetR X.w hp s.heap.objs.size (fun j => decide (j ∈ ns)) c → c ≤ ns.length → (∀ b u, s.heap.get? b = some u → hp.get? b = some u) →
      EP X pins σ Q (.ref s.heap.objs.size) { s with heap := hp, toks := tk } := fun hp tk c R cl kp =>
    ⟨.ref _, upd H s.heap.objs.size (SetO X.w s.heap.objs.size (fun j => decide (j ∈ ns)) c), I.laid (t' := tk) kp (Nat.le_refl _) (setO_new R), rfl, q _ c (I.hok.fresh (Nat.le_refl _)) cl⟩
  rcases hl with hl | hl
  · obtain ⟨its, rv, pl, hz⟩ := I.list hl
    exact set_lst ns (I.ok.hd hc) pl.isList (by simpa using rv.ints) (by unfold scanBound; omega) fin
  · obtain ⟨its, rv, pt, hz⟩ := I.tuple hl
    exact call_set_tupI ns (I.ok.hd hc) (show s.heap.IsTuple l its.toArray from pt) (by simpa using rv.ints) (by unfold scanBound; omega) fin
/-- len(set): as many as a list without doubles of the same members -/
def rLenSet (w : World) : List V → Hp → VK → Prop := fun vs H Q => ∃ (a : Addr) (S : Int → Bool) (n : Nat), vs = [.ref a] ∧ H a = some (SetO w a S n) ∧ n ≤ 1000 ∧ ∀ ks : List Int, ks.Nodup → (∀ k, k ∈ ks ↔ S k = true) → ks.length = n → Q (.int (n : Int)) H
theorem b_lenSet {X : Cx} : CallR X (.builtin "len") (rLenSet X.w) := by
  intro pins s σ H vs us Q I r h
  obtain ⟨a, S, n, rfl, ha, hn, q⟩ := h
  rw [Vals.ref1 r]
  obtain ⟨o, es, ep, t, ho, hex, hd, g, nd, hm, hb, hf, en, _⟩ := setO_get I ha
  refine call_len_set ho hex hd hf (by rw [en]; omega) ⟨.int (n : Int), H, I.tok _, ⟨_, by rw [en]⟩, ?_⟩
  exact q (es.toList.map keyOf) nd (fun k => (hm k).symm) (by rw [List.length_map, Array.length_toList]; exact en)
section
variable {K : PySem.W.Frag} {G0 H0 G H : Hp} {D : List Addr} {M : List (Addr × HO)} {Q : VK} {x : V} {w : World}
/-- what is known of a set -/
def RpS (w : World) (G : Hp) (v : V) (ns : List Int) (n : Nat) : Prop := ∃ p, v = .ref p ∧ G p = some (SetO w p (fun j => decide (j ∈ ns)) n)
theorem RpS.up {G G' : Hp} {v : V} {ns : List Int} {n : Nat} (e : Same G G') (h : RpS w G v ns n) : RpS w G' v ns n := by
  obtain ⟨p, e1, e2⟩ := h
  exact ⟨p, e1, e _ _ e2⟩
theorem go_setOf {ns : List Int} (hS : Sta K G0 H0 D G M H) (hx : Rp K G x (.lst (ns.map .int)) ∨ Rp K G x (.tup (ns.map .int))) (hl : ns.length ≤ 1000) (k : ∀ v n G1 H1, Same G G1 → Sta K G0 H0 D G1 M H1 → n ≤ ns.length → RpS w G1 v ns n → Q v H1) : rSetL K w [x] H Q := by
  have fin : ∀ p c, H p = none → c ≤ ns.length → Q (.ref p) (upd H p (SetO w p (fun j => decide (j ∈ ns)) c)) := fun p c hp cl =>
    k _ c _ _ (same_upd (hS.gn hp)) (hS.imm hp _) cl ⟨p, rfl, upd_same⟩
  rcases hx with hx | hx
  · obtain ⟨a, xs, rfl, hs, ha⟩ := Rp.lst_inv hx
    rw [ha.ints_inv] at hs
    exact ⟨a, ns, rfl, .inl (hS.gh.seq hs), hl, fin⟩
  · obtain ⟨a, xs, rfl, hs, ha⟩ := Rp.tup_inv hx
    rw [ha.ints_inv] at hs
    exact ⟨a, ns, rfl, .inr (Same.t hS.gh hs), hl, fin⟩
theorem go_lenSet {ns : List Int} {n : Nat} (hS : Sta K G0 H0 D G M H) (hx : RpS w G x ns n) (hn : n ≤ 1000) (k : ∀ ks : List Int, ks.Nodup → (∀ k, k ∈ ks ↔ k ∈ ns) → ks.length = n → Q (.int (n : Int)) H) : rLenSet w [x] H Q := by
  obtain ⟨p, rfl, hp⟩ := hx
  exact ⟨p, _, n, rfl, hS.gh _ _ hp, hn, fun ks h1 h2 h3 => k ks h1 (fun i => (h2 i).trans (by simp)) h3⟩
theorem go_sortSet {ns : List Int} {n : Nat} (hS : Sta K G0 H0 D G M H) (hx : RpS w G x ns n) (hn : n < 64) (k : ∀ p (ks : List Int) G1 H1, ks.Pairwise (· < ·) → (∀ k, k ∈ ks ↔ k ∈ ns) → ks.length = n → Same G G1 → Sta K G0 H0 D G1 M H1 → Rp K G1 (.ref p) (.lst (ks.map .int)) → Q (.ref p) H1) : rSortedSet w [x] H Q := by
  obtain ⟨p, rfl, hp⟩ := hx
  exact ⟨p, _, n, rfl, hS.gh _ _ hp, hn, fun ks q h1 h2 h3 hq => k q ks _ _ h1 (fun i => (h2 i).trans (by simp)) h3 (same_upd (hS.gn hq)) (hS.imm hq _) (.lst (.inl (.inl upd_same)) .ints)⟩
end
/-! ### plain: ascending, without doubles -/
def ascB : List Int → Bool
  | [] => true
  | [_] => true
  | x :: y :: l => decide (x < y) && ascB (y :: l)
theorem ascB_pw : ∀ l : List Int, ascB l = true ↔ l.Pairwise (· < ·)
  | [] => by simp [ascB]
  | [x] => by simp [ascB]
  | x :: y :: l => by
    have ih := ascB_pw (y :: l)
    rw [ascB, Bool.and_eq_true, decide_eq_true_eq, ih]
    constructor
    · rintro ⟨h1, h2⟩
      refine List.pairwise_cons.mpr ⟨fun z hz => ?_, h2⟩
      rcases List.mem_cons.mp hz with rfl | hz
      · exact h1
      · exact Int.lt_trans h1 ((List.pairwise_cons.mp h2).1 z hz)
    · intro h
      have h := List.pairwise_cons.mp h
      exact ⟨h.1 y (by simp), h.2⟩
theorem pw_uniq : ∀ {k l : List Int}, k.Pairwise (· < ·) → l.Pairwise (· < ·) → (∀ x, x ∈ k ↔ x ∈ l) → k = l
  | [], [], _, _, _ => rfl
  | [], y :: l, _, _, h => absurd ((h y).mpr (by simp)) (by simp)
  | x :: k, [], _, _, h => absurd ((h x).mp (by simp)) (by simp)
  | x :: k, y :: l, hk, hl, h => by
    have k1 := List.pairwise_cons.mp hk
    have l1 := List.pairwise_cons.mp hl
    have e : x = y := by
      have hx := (h x).mp (by simp)
      have hy := (h y).mpr (by simp)
      rcases List.mem_cons.mp hx with e | hx
      · exact e
      · rcases List.mem_cons.mp hy with e | hy
        · exact e.symm
        · have a1 := l1.1 x hx
          have a2 := k1.1 y hy
          omega
    subst e
    rw [pw_uniq k1.2 l1.2 fun z => ?_]
    constructor
    · intro hz
      have := (h z).mp (List.mem_cons_of_mem _ hz)
      rcases List.mem_cons.mp this with e | h2
      · have := k1.1 z hz
        omega
      · exact h2
    · intro hz
      have := (h z).mpr (List.mem_cons_of_mem _ hz)
      rcases List.mem_cons.mp this with e | h2
      · have := l1.1 z hz
        omega
      · exact h2
/-- xs != sorted(set(xs)) -/
theorem asc_iff {ns ks : List Int} (h1 : ks.Pairwise (· < ·)) (h2 : ∀ k, k ∈ ks ↔ k ∈ ns) : ns = ks ↔ ascB ns = true := by
  rw [ascB_pw]
  constructor
  · intro e
    rw [e]
    exact h1
  · intro h
    exact pw_uniq h h1 fun x => (h2 x).symm
theorem len_leI : ∀ {l m : List Int}, l.Nodup → (∀ x ∈ l, x ∈ m) → l.length ≤ m.length
  | [], _, _, _ => Nat.zero_le _
  | x :: l, m, nd, h => by
    have nd := List.nodup_cons.mp nd
    have hx := h x (by simp)
    have := len_leI (l := l) (m := m.erase x) nd.2 fun y hy => (List.mem_erase_of_ne (fun e => by subst e; exact nd.1 hy)).mpr (h y (by simp [hy]))
    rw [List.length_erase_of_mem hx] at this
    have : 0 < m.length := List.length_pos_of_mem hx
    simp only [List.length_cons]
    omega
theorem nodup_of : ∀ {ns ks : List Int}, ks.Nodup → (∀ k, k ∈ ks ↔ k ∈ ns) → ns.length ≤ ks.length → ns.Nodup
  | [], _, _, _, _ => List.nodup_nil
  | x :: t, ks, nd, h, hl => by
    simp only [List.length_cons] at hl
    by_cases hx : x ∈ t
    · have := len_leI (m := t) nd fun y hy => by
        rcases List.mem_cons.mp ((h y).mp hy) with rfl | z
        · exact hx
        · exact z
      omega
    · have hk := (h x).mpr (by simp)
      refine List.nodup_cons.mpr ⟨hx, nodup_of (ks := ks.erase x) (nd.erase x) (fun y => ?_) (by rw [List.length_erase_of_mem hk]; omega)⟩
      by_cases e : y = x
      · subst e
        exact ⟨fun z => absurd z (List.Nodup.not_mem_erase nd), fun z => absurd z hx⟩
      · rw [List.mem_erase_of_ne e, h y]
        simp [e]
theorem nodup_len {ns ks : List Int} (h1 : ks.Nodup) (h2 : ∀ k, k ∈ ks ↔ k ∈ ns) : ks.length = ns.length ↔ ns.Nodup := by
  constructor
  · intro e
    exact nodup_of h1 h2 (by omega)
  · intro h
    have a := len_leI h1 fun x hx => (h2 x).mp hx
    have c := len_leI h fun x hx => (h2 x).mpr hx
    omega
section
variable {K : PySem.W.Frag} {G0 H0 G H : Hp} {D : List Addr} {M : List (Addr × HO)} {σ : L2.St} {Q : VK} {tt : TT} {te : TE} {vss : List Nat} {k : Bool} {a : Addr} {xs : List V}
/-- a comprehension with a test over a list or a tuple -/
theorem lcFiltK {α : Type} {g : TG} {as : List α} {Da : α → Dt} {p : α → Bool} {F : α → Dt} (hS : Sta K G0 H0 D G M H) (hq : SqK k K G a xs) (hr : RpAll K G xs (as.map Da)) (hl : as.length ≤ 100000)
    (hs : ∀ x c L G1 vs es H1 (Z Z0 : List (Addr × HO) → List Dt → Prop), c ∈ as → Rp K G1 x (Da c) → Same G G1 → H0 L = none → Sta K G0 H0 D G1 ((L, .lst vs) :: M) H1 → RpAll K G1 vs es → (p c = true → ∀ y G2 H2, Same G1 G2 → Sta K G0 H0 D G2 ((L, .lst vs) :: M) H2 → Rp K G2 y (F c) → LcY K G0 H0 D G L Z y H2) → (p c = false → ∀ G2 H2, Same G1 G2 → Sta K G0 H0 D G2 ((L, .lst vs) :: M) H2 → LcP K G0 H0 D G L Z0 H2) →
      g x (wipe σ vss) H1 fun σ2 H3 => wipe σ2 vss = wipe σ vss ∧ tt σ2 H3 fun b H4 => if b = true then te σ2 H4 (LcY K G0 H0 D G L Z) else LcP K G0 H0 D G L Z0 H4)
    (hd : ∀ p' G1 H1, Same G G1 → Sta K G0 H0 D G1 M H1 → Rp K G1 (.ref p') (.lst ((as.filter p).map F)) → Q (.ref p') H1) : LcG (ItK k K a) g tt te vss σ Q H := by
  have xl := hr.length
  rw [List.length_map] at xl
  refine lcI (walk_K (xs := xs)) hS (fun H1 e => hq.up e) (fun i M1 es => M1 = M ∧ es = ((as.take i).filter p).map F) ⟨rfl, rfl⟩ (fun i x L G1 M1 vs es H1 H2 hi e l0 s r w yy => ?_) (fun p' G1 M1 es H1 e s r w => ?_)
  · obtain ⟨rfl, rfl⟩ := w
    obtain ⟨rfl, hx⟩ := yy
    have hi2 : i < as.length := by omega
    obtain ⟨d, hd', rd⟩ := hr.getV hx
    rw [List.getElem?_map, List.getElem?_eq_getElem hi2] at hd'
    cases hd'
    have len : (((as.take i).filter p).map F).length ≤ i := by
      rw [List.length_map]
      exact Nat.le_trans (List.length_filter_le _ _) (by simp; omega)
    refine hs x as[i] L G1 vs _ H2 _ _ (List.getElem_mem hi2) (rd.up e) e l0 s r (fun hp y G2 H3 e2 s2 hy => ?_) (fun hp G2 H3 e2 s2 => ?_)
    · refine lcY s2 (e.trans e2) (r.up e2) hy (by omega) ⟨rfl, ?_⟩
      rw [List.take_add_one, List.getElem?_eq_getElem hi2, List.filter_append, List.map_append]
      simp [hp]
    · refine lcN s2 (e.trans e2) (r.up e2) ⟨rfl, ?_⟩
      rw [List.take_add_one, List.getElem?_eq_getElem hi2, List.filter_append, List.map_append]
      simp [hp]
  · obtain ⟨rfl, rfl⟩ := w
    rw [List.take_of_length_le (by omega)] at r
    exact hd p' G1 H1 e s r
/-- .. over enumerate -/
def IteK (k : Bool) (K : PySem.W.Frag) (a : Addr) : It := if k = true then IteT K a else Ite K a
theorem walk_eK : Walk (IteK k K a) xs.length (fun H => SqK k K H a xs) (fun i H v H' => ∃ T x, v = .ref T ∧ H T = none ∧ H' = upd H T (.tup [.int (i : Nat), x]) ∧ xs[i]? = some x) := by
  cases k with
  | true => exact walk_enumT (xs := xs)
  | false =>
    exact ⟨(walk_enum (xs := xs)).goes, (walk_enum (xs := xs)).stops, fun i H v H' hi q y => by
      obtain ⟨T, u, x, h1, h2, h3, h4, h5⟩ := (walk_enum (xs := xs)).yields i H v H' hi q y
      cases h4
      exact ⟨T, x, h1, h2, h3, h5⟩⟩
theorem go_etkK {kk : It → Hp → Prop} {x : V} {ds : List Dt} (hx : Rp K G x (seqD k ds)) (e : Same G H) (h : ∀ a xs, x = .ref a → SqK k K G a xs → RpAll K G xs ds → kk (IteK k K a) H) : ETK K kk [x] H := by
  cases k with
  | true => exact go_etkT hx e h
  | false => exact go_etkL hx e h
theorem lcFiltE {α : Type} {as : List α} {Da : α → Dt} {p : Nat → Bool} {F : Nat → Dt} {i1 j1 : Nat} (hS : Sta K G0 H0 D G M H) (hq : SqK k K G a xs) (hr : RpAll K G xs (as.map Da)) (hl : as.length ≤ 100000)
    (hs : ∀ (i : Nat) x c L G1 vs es H1 (Z Z0 : List (Addr × HO) → List Dt → Prop), i < as.length → as[i]? = some c → Rp K G1 x (Da c) → Same G G1 → H0 L = none → Sta K G0 H0 D G1 ((L, .lst vs) :: M) H1 → RpAll K G1 vs es → (p i = true → ∀ y G2 H2, Same G1 G2 → Sta K G0 H0 D G2 ((L, .lst vs) :: M) H2 → Rp K G2 y (F i) → LcY K G0 H0 D G L Z y H2) → (p i = false → ∀ G2 H2, Same G1 G2 → Sta K G0 H0 D G2 ((L, .lst vs) :: M) H2 → LcP K G0 H0 D G L Z0 H2) →
      ∀ σ2, List.set (List.set (wipe σ vss) i1 (some (.int i))) j1 (some x) = σ2 → wipe σ2 vss = wipe σ vss ∧ tt σ2 H1 fun b H4 => if b = true then te σ2 H4 (LcY K G0 H0 D G L Z) else LcP K G0 H0 D G L Z0 H4)
    (hd : ∀ p' G1 H1, Same G G1 → Sta K G0 H0 D G1 M H1 → Rp K G1 (.ref p') (.lst (((List.range as.length).filter p).map F)) → Q (.ref p') H1) : LcG (IteK k K a) (gTup K 2 (gCons (gName i1) (gCons (gName j1) gNil))) tt te vss σ Q H := by
  have xl := hr.length
  rw [List.length_map] at xl
  refine lcI (walk_eK (xs := xs)) hS (fun H1 e => hq.up e) (fun i M1 es => M1 = M ∧ es = ((List.range i).filter p).map F) ⟨rfl, rfl⟩ (fun i x L G1 M1 vs es H1 H2 hi e l0 s r w yy => ?_) (fun p' G1 M1 es H1 e s r w => ?_)
  · obtain ⟨rfl, rfl⟩ := w
    obtain ⟨T, v, rfl, hT, eH, h2⟩ := yy
    have hi2 : i < as.length := by omega
    obtain ⟨d, hd', rd⟩ := hr.getV h2
    rw [List.getElem?_map, List.getElem?_eq_getElem hi2] at hd'
    cases hd'
    have len : (((List.range i).filter p).map F).length ≤ i := by
      rw [List.length_map]
      exact Nat.le_trans (List.length_filter_le _ _) (by simp)
    obtain ⟨G2, e2, s2, q2⟩ := s.pair hT eH
    refine go_gpair q2 rfl (hs i v as[i] L G2 vs _ H2 _ _ hi2 (List.getElem?_eq_getElem hi2) (rd.up (e.trans e2)) (e.trans e2) l0 s2 (r.up e2) (fun hp y G3 H3 e3 s3 hy => ?_) (fun hp G3 H3 e3 s3 => ?_) _ rfl)
    · refine lcY s3 ((e.trans e2).trans e3) ((r.up e2).up e3) hy (by omega) ⟨rfl, ?_⟩
      rw [List.range_succ, List.filter_append, List.map_append]
      simp [hp]
    · refine lcN s3 ((e.trans e2).trans e3) ((r.up e2).up e3) ⟨rfl, ?_⟩
      rw [List.range_succ, List.filter_append, List.map_append]
      simp [hp]
  · obtain ⟨rfl, rfl⟩ := w
    rw [xl] at r
    exact hd p' G1 H1 e s r
end
/-! ### xs.reverse() of a list that may change -/
section
variable {K : PySem.W.Frag} {G0 H0 G H : Hp} {D : List Addr} {M M' : List (Addr × HO)} {Q : VK}
theorem go_rev {p : Addr} {xs : List V} {i : Nat} (hS : Sta K G0 H0 D G M H) (hi : M[i]? = some (p, .lst xs)) (hM : M.set i (p, .lst xs.reverse) = M') (k : ∀ H1, Sta K G0 H0 D G M' H1 → Q .non H1) : rReverse (.ref p) [] H Q := by
  subst hM
  exact ⟨p, xs, rfl, rfl, hS.get hi, k _ (hS.set hi _)⟩
end
/-! ### x, y = a, b by a new pair -/
section
variable {K : PySem.W.Frag} {G0 H0 G H : Hp} {D : List Addr} {M : List (Addr × HO)} {σ σ' : L2.St} {p : L2.St → Hp → Prop} {x y : V} {i j : Nat}
theorem go_npair (hS : Sta K G0 H0 D G M H) (e : List.set (List.set σ i (some x)) j (some y) = σ') (k : ∀ G1 H1, Same G G1 → Sta K G0 H0 D G1 M H1 → p σ' H1) : NT (fun v H1 => gTup K 2 (gCons (gName i) (gCons (gName j) gNil)) v σ H1 p) [x, y] H :=
  go_rawT hS (sz (by simp)) fun q G1 H1 e1 hS1 hq => go_gpair (.inl (.inl hq)) e (k G1 H1 e1 hS1)
end
/-! ### data known to be comparable -/
theorem okE_succ : ∀ {n : Nat} {d : Dt}, okE n d = true → okE (n + 1) d = true
  | 0, _, h => by cases h
  | n + 1, .non, _ => rfl
  | n + 1, .bl _, _ => rfl
  | n + 1, .int _, _ => rfl
  | n + 1, .str _, h => by cases h
  | n + 1, .ins _ _, h => by cases h
  | n + 1, .lst ds, h => by
    have h' : ds.length ≤ 100000 ∧ ∀ e ∈ ds, okE n e = true := by simpa [okE] using h
    simp only [okE, Bool.and_eq_true, decide_eq_true_eq, List.all_eq_true]
    exact ⟨h'.1, fun e he => okE_succ (h'.2 e he)⟩
  | n + 1, .tup ds, h => by
    have h' : ds.length ≤ 100000 ∧ ∀ e ∈ ds, okE n e = true := by simpa [okE] using h
    simp only [okE, Bool.and_eq_true, decide_eq_true_eq, List.all_eq_true]
    exact ⟨h'.1, fun e he => okE_succ (h'.2 e he)⟩
theorem okE_up {n m : Nat} {d : Dt} (h : okE n d = true) (e : n ≤ m) : okE m d = true := by
  obtain ⟨k, rfl⟩ := Nat.exists_eq_add_of_le e
  induction k with
  | zero => exact h
  | succ k ih => exact okE_succ (ih (by omega))
theorem okE_lst {n : Nat} {ds : List Dt} (hl : ds.length ≤ 100000) (h : ∀ e ∈ ds, okE n e = true) : okE (n + 1) (.lst ds) = true := by
  simp only [okE, Bool.and_eq_true, decide_eq_true_eq, List.all_eq_true]
  exact ⟨hl, h⟩
theorem okE_tup {n : Nat} {ds : List Dt} (hl : ds.length ≤ 100000) (h : ∀ e ∈ ds, okE n e = true) : okE (n + 1) (.tup ds) = true := by
  simp only [okE, Bool.and_eq_true, decide_eq_true_eq, List.all_eq_true]
  exact ⟨hl, h⟩
/-! ### lists that may change, out of comprehensions with a test -/
theorem Sta.frzR {K : PySem.W.Frag} {G0 H0 G H : Hp} {D : List Addr} {M : List (Addr × HO)} {p : Addr} {xs : List V} {ds : List Dt} (h : Sta K G0 H0 D G ((p, .lst xs) :: M) H) (h0 : H0 p = none) (hx : RpAll K G xs ds) : ∃ G1, Same G G1 ∧ Sta K G0 H0 D G1 M H ∧ RpL K G1 p ds := by
  obtain ⟨h1, e⟩ := h.frz h0
  exact ⟨_, e, h1, _, upd_same, hx.up e⟩
section
variable {K : PySem.W.Frag} {G0 H0 G H : Hp} {D : List Addr} {M : List (Addr × HO)} {σ : L2.St} {Q : VK} {tt : TT} {te : TE} {vss : List Nat}
theorem lcFiltRM {lo : Int} {n : Nat} {g : TG} {p : Nat → Bool} {F : Nat → Dt} (hS : Sta K G0 H0 D G M H) (hl : n ≤ 100000)
    (hs : ∀ (i : Nat) L G1 vs es H1 (Z Z0 : List (Addr × HO) → List Dt → Prop), i < n → Same G G1 → H0 L = none → Sta K G0 H0 D G1 ((L, .lst vs) :: M) H1 → RpAll K G1 vs es → (p i = true → ∀ y G2 H2, Same G1 G2 → Sta K G0 H0 D G2 ((L, .lst vs) :: M) H2 → Rp K G2 y (F i) → LcY K G0 H0 D G L Z y H2) → (p i = false → ∀ G2 H2, Same G1 G2 → Sta K G0 H0 D G2 ((L, .lst vs) :: M) H2 → LcP K G0 H0 D G L Z0 H2) →
      g (.int (lo + i)) (wipe σ vss) H1 fun σ2 H3 => wipe σ2 vss = wipe σ vss ∧ tt σ2 H3 fun b H4 => if b = true then te σ2 H4 (LcY K G0 H0 D G L Z) else LcP K G0 H0 D G L Z0 H4)
    (hd : ∀ L vs G1 H1, Same G G1 → H0 L = none → Sta K G0 H0 D G1 ((L, .lst vs) :: M) H1 → RpAll K G1 vs (((List.range n).filter p).map F) → Q (.ref L) H1) : LcG (Itr lo n) g tt te vss σ Q H := by
  refine lcIM walk_range hS (fun _ _ => trivial) (fun i M1 es => M1 = M ∧ es = ((List.range i).filter p).map F) ⟨rfl, rfl⟩ (fun i x L G1 M1 vs es H1 H2 hi e l0 s r w yy => ?_) (fun L G1 M1 vs es H1 e l0 s r w => ?_)
  · obtain ⟨rfl, rfl⟩ := w
    obtain ⟨rfl, rfl⟩ := yy
    have len : (((List.range i).filter p).map F).length ≤ i := by
      rw [List.length_map]
      exact Nat.le_trans (List.length_filter_le _ _) (by simp)
    refine hs i L G1 vs _ H2 _ _ hi e l0 s r (fun hp y G2 H3 e2 s2 hy => ?_) (fun hp G2 H3 e2 s2 => ?_)
    · refine lcY s2 (e.trans e2) (r.up e2) hy (by omega) ⟨rfl, ?_⟩
      rw [List.range_succ, List.filter_append, List.map_append]
      simp [hp]
    · refine lcN s2 (e.trans e2) (r.up e2) ⟨rfl, ?_⟩
      rw [List.range_succ, List.filter_append, List.map_append]
      simp [hp]
  · obtain ⟨rfl, rfl⟩ := w
    exact hd L vs G1 H1 e l0 s r
end
end B
/-! sorted lists of pairs of ints; insert; a list asked whether it is empty -/
namespace B
open PySem L2
def prD (p : Int × Int) : Dt := .tup [.int p.1, .int p.2]
section
variable {K : PySem.W.Frag} {G0 H0 G H : Hp} {D : List Addr} {M M' : List (Addr × HO)} {Q : VK} {x : V}
theorem rpAll_perm {α : Type} {Da : α → Dt} : ∀ {ys xs : List V}, ys.Perm xs → ∀ {as : List α}, RpAll K G xs (as.map Da) → ∃ bs : List α, bs.Perm as ∧ RpAll K G ys (bs.map Da) := fun {ys xs} p => by
  induction p with
  | nil => exact fun {as} h => ⟨as, .refl _, h⟩
  | cons x _ ih =>
    intro as h
    cases as with
    | nil => cases h
    | cons a as =>
      cases h with
      | cons h1 h2 =>
        obtain ⟨bs, pb, hb⟩ := ih h2
        exact ⟨a :: bs, pb.cons a, .cons h1 hb⟩
  | swap x y l =>
    intro as h
    match as, h with
    | [], h => cases h
    | [a], h =>
      cases h with
      | cons h1 h2 => cases h2
    | a :: b :: as, h =>
      cases h with
      | cons h1 h2 => cases h2 with
        | cons h2 h3 => exact ⟨b :: a :: as, List.Perm.swap a b as, .cons h2 (.cons h1 h3)⟩
  | trans _ _ i1 i2 =>
    intro as h
    obtain ⟨bs, p1, h1⟩ := i2 h
    obtain ⟨cs, p2, h2⟩ := i1 h1
    exact ⟨cs, p2.trans p1, h2⟩
theorem prD_tup {v : V} {p : Int × Int} (h : Rp K G v (prD p)) (e : Same G H) : TupI K H v [p.1, p.2] := by
  obtain ⟨t, xs, rfl, hs, ha⟩ := Rp.tup_inv (ds := [.int p.1, .int p.2]) h
  have := ha.ints_inv (bs := [p.1, p.2])
  subst this
  exact ⟨t, rfl, Same.t e hs⟩
/-- lesser or the same -/
def leP (a b : Int × Int) : Prop := a.1 < b.1 ∨ a.1 = b.1 ∧ a.2 ≤ b.2
theorem rpAll_pw {α : Type} {Da : α → Dt} {R : V → V → Prop} {S : α → α → Prop} : ∀ {xs : List V} {as : List α}, RpAll K G xs (as.map Da) → xs.Pairwise R → (∀ x y a b, a ∈ as → b ∈ as → Rp K G x (Da a) → Rp K G y (Da b) → R x y → S a b) → as.Pairwise S
  | _, [], _, _, _ => List.Pairwise.nil
  | _, a :: as, h, pw, f => by
    cases h with
    | cons h1 h2 =>
      have pw := List.pairwise_cons.mp pw
      refine List.pairwise_cons.mpr ⟨fun b hb => ?_, rpAll_pw h2 pw.2 fun x y a b ha hb => f x y a b (List.mem_cons_of_mem _ ha) (List.mem_cons_of_mem _ hb)⟩
      obtain ⟨i, hi⟩ := List.mem_iff_getElem?.mp hb
      obtain ⟨v, hv, rv⟩ := h2.get (i := i) (d := Da b) (by rw [List.getElem?_map, hi]; rfl)
      exact f _ v a b List.mem_cons_self (List.mem_cons_of_mem _ hb) h1 rv (pw.1 v (List.mem_of_getElem? hv))
/-- sorted(xs), xs a list of fewer than 64 pairs of ints from 0 to B - 1 -/
theorem go_sortP {B : Int} {ps : List (Int × Int)} (hS : Sta K G0 H0 D G M H) (hx : Rp K G x (.lst (ps.map prD))) (hl : ps.length < 64) (hB : ∀ p ∈ ps, 0 ≤ p.1 ∧ p.1 < B ∧ 0 ≤ p.2 ∧ p.2 < B)
    (k : ∀ p (qs : List (Int × Int)) G1 H1, qs.Perm ps → qs.Pairwise leP → Same G G1 → Sta K G0 H0 D G1 M H1 → Rp K G1 (.ref p) (.lst (qs.map prD)) → Q (.ref p) H1) : rSortU K 2 B [x] H Q := by
  obtain ⟨a, xs, rfl, hs, ha⟩ := Rp.lst_inv hx
  have xl := ha.length
  rw [List.length_map] at xl
  refine ⟨a, xs, rfl, hS.gh.seq hs, by omega, fun v hv => ?_, fun ys p pm pw hp => ?_⟩
  · obtain ⟨i, hi⟩ := List.mem_iff_getElem?.mp hv
    obtain ⟨d, hd, rd⟩ := ha.getV hi
    rw [List.getElem?_map] at hd
    cases hq : ps[i]? with
    | none => rw [hq] at hd; cases hd
    | some q =>
      rw [hq] at hd
      cases hd
      have := hB q (List.mem_of_getElem? hq)
      exact ⟨[q.1, q.2], prD_tup rd hS.gh, rfl, fun z hz => by
        simp only [List.mem_cons, List.not_mem_nil, or_false] at hz
        rcases hz with rfl | rfl <;> omega⟩
  · obtain ⟨qs, pq, hq⟩ := rpAll_perm pm ha
    have bd : ∀ q ∈ qs, TS.Bd B [q.1, q.2] := fun q hq' z hz => by
      have := hB q (pq.mem_iff.mp hq')
      simp only [List.mem_cons, List.not_mem_nil, or_false] at hz
      rcases hz with rfl | rfl <;> omega
    have e1 : Same G (upd G p (.lst ys)) := same_upd (hS.gn hp)
    refine k p qs _ _ pq (rpAll_pw hq pw fun v u a b hma hmb hv hu h => ?_) e1 (hS.imm hp _) (.lst (.inl (.inl upd_same)) (hq.up e1))
    exact L2.code_lex (bd a hma) (bd b hmb) (h _ _ (prD_tup hv hS.gh) (prD_tup hu hS.gh))
/-- .. the list may change -/
theorem go_sortPM {B : Int} {ps : List (Int × Int)} (hS : Sta K G0 H0 D G M H) (hx : Rp K G x (.lst (ps.map prD))) (hl : ps.length < 64) (hB : ∀ p ∈ ps, 0 ≤ p.1 ∧ p.1 < B ∧ 0 ≤ p.2 ∧ p.2 < B)
    (k : ∀ p vs (qs : List (Int × Int)) H1, H0 p = none → G p = none → qs.Perm ps → qs.Pairwise leP → Sta K G0 H0 D G ((p, .lst vs) :: M) H1 → RpAll K G vs (qs.map prD) → Q (.ref p) H1) : rSortU K 2 B [x] H Q := by
  obtain ⟨a, xs, rfl, hs, ha⟩ := Rp.lst_inv hx
  have xl := ha.length
  rw [List.length_map] at xl
  refine ⟨a, xs, rfl, hS.gh.seq hs, by omega, fun v hv => ?_, fun ys p pm pw hp => ?_⟩
  · obtain ⟨i, hi⟩ := List.mem_iff_getElem?.mp hv
    obtain ⟨d, hd, rd⟩ := ha.getV hi
    rw [List.getElem?_map] at hd
    cases hq : ps[i]? with
    | none => rw [hq] at hd; cases hd
    | some q =>
      rw [hq] at hd
      cases hd
      have := hB q (List.mem_of_getElem? hq)
      exact ⟨[q.1, q.2], prD_tup rd hS.gh, rfl, fun z hz => by
        simp only [List.mem_cons, List.not_mem_nil, or_false] at hz
        rcases hz with rfl | rfl <;> omega⟩
  · obtain ⟨qs, pq, hq⟩ := rpAll_perm pm ha
    have bd : ∀ q ∈ qs, TS.Bd B [q.1, q.2] := fun q hq' z hz => by
      have := hB q (pq.mem_iff.mp hq')
      simp only [List.mem_cons, List.not_mem_nil, or_false] at hz
      rcases hz with rfl | rfl <;> omega
    exact k p ys qs _ (hS.h0 hp) (hS.gn hp) pq (rpAll_pw hq pw fun v u a b hma hmb hv hu h => L2.code_lex (bd a hma) (bd b hmb) (h _ _ (prD_tup hv hS.gh) (prD_tup hu hS.gh))) (hS.mut hp _) hq
/-- xs.insert(i, y) -/
def rInsert : V → List V → Hp → VK → Prop := fun x vs H Q => ∃ (l : Addr) (xs : List V) (i : Int) (y : V), x = .ref l ∧ vs = [.int i, y] ∧ H l = some (.lst xs) ∧ xs.length < sizeLine ∧ 0 ≤ i ∧ i < 2 ^ 63 ∧ Q .non (upd H l (.lst (xs.take i.toNat ++ [y] ++ xs.drop i.toNat)))
theorem mt_insert_ {X : Cx} : MtR X "list.insert" rInsert := L2.mt_insert
theorem go_insert {p : Addr} {xs : List V} {i k : Nat} {y : V} (hS : Sta K G0 H0 D G M H) (hi : M[i]? = some (p, .lst xs)) (hl : xs.length < 100000) (hk : k < 1000000) (hM : M.set i (p, .lst (xs.take k ++ [y] ++ xs.drop k)) = M') (q : ∀ H1, Sta K G0 H0 D G M' H1 → Q .non H1) : rInsert (.ref p) [.int (k : Int), y] H Q := by
  subst hM
  exact ⟨p, xs, (k : Int), y, rfl, rfl, hS.get hi, Nat.lt_of_lt_of_le hl (by decide), by omega, by omega, q _ (hS.set hi _)⟩
theorem okD_pr (p : Int × Int) (n : Nat) : okE (n + 2) (prD p) = true := by simp [prD, okE]
theorem okE_prs {ps : List (Int × Int)} (h : ps.length ≤ 100000) : okE 5 (.lst (ps.map prD)) = true := by
  refine okE_lst (by simpa using h) fun e he => ?_
  obtain ⟨p, _, rfl⟩ := List.mem_map.mp he
  exact okD_pr p 2
/-- xs == [] , xs a list that may change -/
theorem go_eqNil {p : Addr} {xs : List V} {ds : List Dt} {y : V} {i n : Nat} (hS : Sta K G0 H0 D G M H) (hi : M[i]? = some (p, .lst xs)) (hr : RpAll K G xs ds) (ho : okE n (.lst ds) = true) (hn : n ≤ 64) (hy : Rp K G y (.lst [])) (k : Q (.bl (decide (ds.length = 0))) H) : rEqD K (.ref p) y H Q := by
  have hx : Rp K H (.ref p) (.lst ds) := .lst (.inl (.inl (hS.get hi))) (hr.up hS.gh)
  refine ⟨_, _, Rp.dp (okE_okD ho) hx, Rp.dp (n := 2) (by simp [okD]) (hy.up hS.gh), shaped_toPy ho hn, shaped_toPy (n := 2) (by simp [okE]) (by decide), ?_⟩
  have : PyData.eqv (toPy (.lst ds)) (toPy (.lst [])) = decide (ds.length = 0) := by
    cases ds with
    | nil => simp [toPy, toPyL, PyData.eqv, PyData.eqvAll]
    | cons d ds => simp [toPy, toPyL, PyData.eqv, PyData.eqvAll]
  rw [this]
  exact k
theorem rpAll_erase : ∀ {vs : List V} {ds : List Dt} {i : Nat}, RpAll K G vs ds → RpAll K G (vs.eraseIdx i) (ds.eraseIdx i)
  | [], [], _, .nil => .nil
  | _ :: _, _ :: _, 0, .cons _ h => h
  | _ :: _, _ :: _, _ + 1, .cons h1 h => .cons h1 (rpAll_erase h)
theorem erase_mapL {α β : Type} {f : α → β} : ∀ {xs : List α} {i : Nat}, (xs.map f).eraseIdx i = (xs.eraseIdx i).map f
  | [], _ => rfl
  | _ :: _, 0 => rfl
  | x :: xs, i + 1 => congrArg (f x :: ·) erase_mapL
/-- xs.pop(i) -/
theorem go_popI {p : Addr} {xs : List V} {i k : Nat} (hS : Sta K G0 H0 D G M H) (hi : M[i]? = some (p, .lst xs)) (hk : k < xs.length) (hl : k < 1000000) (hM : M.set i (p, .lst (xs.eraseIdx k)) = M') (q : ∀ v H1, Sta K G0 H0 D G M' H1 → Q v H1) : rPopAt (.ref p) [.int (k : Int)] H Q := by
  subst hM
  exact ⟨p, xs, (k : Int), k, xs[k], rfl, rfl, hS.get hi, by omega, by omega, (L2.ixN_seq (ixN_nat hk)).1, List.getElem?_eq_getElem hk, q _ _ (hS.set hi _)⟩
def rIsB : R2 := fun x y H Q => ∃ a b, x = .bl a ∧ y = .bl b ∧ Q (.bl (decide (a = b))) H
def rIsntB : R2 := fun x y H Q => ∃ a b, x = .bl a ∧ y = .bl b ∧ Q (.bl (!decide (a = b))) H
theorem go_isB {i j : Bool} (h : Q (.bl (decide (i = j))) H) : rIsB (.bl i) (.bl j) H Q := ⟨i, j, rfl, rfl, h⟩
theorem go_isntB {i j : Bool} (h : Q (.bl (!decide (i = j))) H) : rIsntB (.bl i) (.bl j) H Q := ⟨i, j, rfl, rfl, h⟩
theorem go_eqNI {i : Int} (h : Q (.bl false) H) : rEq .non (.int i) H Q := ⟨rfl, by
  have : decide (V.non = V.int i) = false := by simp
  rw [this]; exact h⟩
theorem go_eqIN {i : Int} (h : Q (.bl false) H) : rEq (.int i) .non H Q := ⟨rfl, by
  have : decide (V.int i = V.non) = false := by simp
  rw [this]; exact h⟩
theorem go_eqNN (h : Q (.bl true) H) : rEq .non .non H Q := ⟨rfl, by
  have : decide (V.non = V.non) = true := by simp
  rw [this]; exact h⟩
/-- what stands without some tables -/
def lessL (H : Hp) (ps : List Addr) : Hp := fun b => if b ∈ ps then none else H b
theorem start_tabs {K : PySem.W.Frag} {H : Hp} {ps : List Addr} (h : ∀ p ∈ ps, H p = some (.tbl #[])) (nd : ps.Nodup) : Sta K (lessL H ps) H ps (lessL H ps) (ps.map fun p => (p, .tbl #[])) H :=
  ⟨Same.refl _, fun b o e => by
    have e : (if b ∈ ps then none else H b) = some o := e
    split at e
    · cases e
    · exact e, fun _ _ => rfl, fun _ _ h _ => h, fun _ h => h, by
      have e : (ps.map fun p => ((p, HO.tbl #[]) : Addr × HO)).map (·.1) = ps := by rw [List.map_map]; exact List.map_id' ps
      rw [e]
      exact nd, fun q hq => by
    obtain ⟨p, hp, rfl⟩ := List.mem_map.mp hq
    exact ⟨h p hp, if_pos hp, .inl hp⟩⟩
theorem sqL_lessL {K : PySem.W.Frag} {H : Hp} {ps : List Addr} {a : Addr} {xs : List V} (h : ∀ p ∈ ps, H p = some (.tbl #[])) (hs : SqL K H a xs) : SqL K (lessL H ps) a xs := by
  have ne : ∀ {o : HO}, H a = some o → (∀ q, o ≠ .tbl q) → lessL H ps a = some o := fun {o} e n => by
    have : a ∉ ps := fun z => by
      rw [h a z] at e
      exact n _ (Option.some.inj e).symm
    show (if a ∈ ps then none else H a) = some o
    rw [if_neg this]
    exact e
  rcases hs with (h | ⟨o, h⟩) | h
  · exact .inl (.inl (ne h fun q z => by cases z))
  · exact .inl (.inr ⟨o, ne h fun q z => by cases z⟩)
  · exact .inr h
end
theorem srtA_srtd {α : Type} (kf : α → List Int) (as : List α) : (srtA kf as).Pairwise fun a c => HT.lexLt (kf c) (kf a) = false := by
  unfold srtA
  rw [List.pairwise_map]
  refine List.Pairwise.imp_of_mem (fun {a c} ha hc h => ?_) (srtK_ok (as.map fun a => (kf a, a))).1
  obtain ⟨a', _, rfl⟩ := List.mem_map.mp ((srtK_perm _).mem_iff.mp ha)
  obtain ⟨c', _, rfl⟩ := List.mem_map.mp ((srtK_perm _).mem_iff.mp hc)
  exact h
theorem srtA_map {α β : Type} (f : α → β) (kf : β → List Int) (as : List α) : (srtA (fun a => kf (f a)) as).map f = srtA kf (as.map f) := by
  have paired : ∀ as : List α, RK_ (fun a b => f a = b) (as.map fun a => (kf (f a), a)) ((as.map f).map fun b => (kf b, b)) := fun as => by
    induction as with
    | nil => exact .nil
    | cons a as ih => exact .cons ⟨rfl, rfl⟩ ih
  have ends : ∀ {l : List (List Int × α)} {m : List (List Int × β)}, RK_ (fun a b => f a = b) l m → (l.map (·.2)).map f = m.map (·.2) := fun {l m} h => by
    induction h with
    | nil => rfl
    | cons h _ ih => rw [List.map_cons, List.map_cons, List.map_cons, ih, h.2]
  exact ends (srtK_rel (paired as))
theorem lex1 {x y : Int} (h : HT.lexLt [y] [x] = false) : x ≤ y := by
  rw [HT.lexLt_cons] at h
  by_cases e : y = x
  · omega
  · rw [if_neg e] at h
    have := of_decide_eq_false h
    omega
section
variable {K : PySem.W.Frag} {G0 H0 G H : Hp} {D : List Addr} {M : List (Addr × HO)} {σ : L2.St} {Q : VK} {tt : TT} {te : TE} {vss : List Nat} {k : Bool} {a : Addr} {xs : List V}
/-- a comprehension with a test over a list or a tuple: the list as it is -/
theorem lcFiltKR {α : Type} {g : TG} {as : List α} {Da : α → Dt} {p : α → Bool} {F : α → Dt} (hS : Sta K G0 H0 D G M H) (hq : SqK k K G a xs) (hr : RpAll K G xs (as.map Da)) (hl : as.length ≤ 100000)
    (hs : ∀ x c L G1 vs es H1 (Z Z0 : List (Addr × HO) → List Dt → Prop), c ∈ as → Rp K G1 x (Da c) → Same G G1 → H0 L = none → Sta K G0 H0 D G1 ((L, .lst vs) :: M) H1 → RpAll K G1 vs es → (p c = true → ∀ y G2 H2, Same G1 G2 → Sta K G0 H0 D G2 ((L, .lst vs) :: M) H2 → Rp K G2 y (F c) → LcY K G0 H0 D G L Z y H2) → (p c = false → ∀ G2 H2, Same G1 G2 → Sta K G0 H0 D G2 ((L, .lst vs) :: M) H2 → LcP K G0 H0 D G L Z0 H2) →
      g x (wipe σ vss) H1 fun σ2 H3 => wipe σ2 vss = wipe σ vss ∧ tt σ2 H3 fun b H4 => if b = true then te σ2 H4 (LcY K G0 H0 D G L Z) else LcP K G0 H0 D G L Z0 H4)
    (hd : ∀ p' G1 H1, Same G G1 → Sta K G0 H0 D G1 M H1 → RpL K G1 p' ((as.filter p).map F) → Q (.ref p') H1) : LcG (ItK k K a) g tt te vss σ Q H := by
  have xl := hr.length
  rw [List.length_map] at xl
  refine lcIM (walk_K (xs := xs)) hS (fun H1 e => hq.up e) (fun i M1 es => M1 = M ∧ es = ((as.take i).filter p).map F) ⟨rfl, rfl⟩ (fun i x L G1 M1 vs es H1 H2 hi e l0 s r w yy => ?_) (fun p' G1 M1 vs es H1 e l0 s r w => ?_)
  · obtain ⟨rfl, rfl⟩ := w
    obtain ⟨rfl, hx⟩ := yy
    have hi2 : i < as.length := by omega
    obtain ⟨d, hd', rd⟩ := hr.getV hx
    rw [List.getElem?_map, List.getElem?_eq_getElem hi2] at hd'
    cases hd'
    have len : (((as.take i).filter p).map F).length ≤ i := by
      rw [List.length_map]
      exact Nat.le_trans (List.length_filter_le _ _) (by rw [List.length_take]; omega)
    have tk : ((as.take (i + 1)).filter p).map F = ((as.take i).filter p).map F ++ if p as[i] = true then [F as[i]] else [] := by
      rw [List.take_add_one, List.getElem?_eq_getElem hi2, List.filter_append, List.map_append]
      by_cases hp : p as[i] = true <;> simp [hp]
    refine hs x as[i] L G1 vs _ _ _ _ (List.getElem_mem hi2) (rd.up e) e l0 s r (fun hp y G3 H3 e3 s3 hy => ?_) (fun hp G3 H3 e3 s3 => ?_)
    · exact lcY s3 (e.trans e3) (r.up e3) hy (by omega) ⟨rfl, by rw [tk, if_pos hp]⟩
    · exact lcN s3 (e.trans e3) (r.up e3) ⟨rfl, by rw [tk, if_neg (by rw [hp]; decide), List.append_nil]⟩
  · obtain ⟨rfl, rfl⟩ := w
    rw [List.take_of_length_le (by omega)] at r
    obtain ⟨s2, e2⟩ := s.frz l0
    exact hd p' _ H1 (e.trans e2) s2 ⟨vs, upd_same, r.up e2⟩
end
/-- numbers with what is known of them -/
theorem sub_lift {P : Int → Prop} {l : List Int} (h : ∀ i ∈ l, P i) : ∃ m : List {i : Int // P i}, m.map (·.1) = l ∧ m.map (fun i => Dt.int i.1) = l.map .int := by
  have e : (l.attach.map fun x => (⟨x.1, h x.1 x.2⟩ : {i : Int // P i})).map (·.1) = l := by
    rw [List.map_map]
    exact List.attach_map_subtype_val l
  refine ⟨_, e, ?_⟩
  have := congrArg (List.map Dt.int) e
  rw [List.map_map] at this
  exact this
end B
/-! {e for x in xs if c}: a set comprehension whose items are ints -/
namespace B
open PySem PySem.Spec PyProof.Rows L2
/-- how such a comprehension goes: at each turn an item is added as set.add adds it -/
def SiG (w : World) (J : It) (g : TG) (tt : TT) (te : TE) (vss : List Nat) (σ : L2.St) (Q : VK) (H1 : Hp) : Prop := ∀ D, H1 D = none → ∃ W : Nat → Nat → Hp → Prop, (∃ m, W 0 m (upd H1 D (SetO w D (fun _ => false) 0))) ∧ ∀ i m H, W i m H →
  (J.stop i H ∧ Q (.ref D) H) ∨ (J.go i H ∧ ∃ Nx : Hp → Prop, (∀ H', Nx H' → ∃ m', m' < m ∧ W (i + 1) m' H') ∧ ∀ x H', J.yld i H x H' → g x (wipe σ vss) H' fun σ2 H2 => wipe σ2 vss = wipe σ vss ∧ tt σ2 H2 fun b H3 =>
    if b = true then te σ2 H3 fun y H4 => rSAdd w (.ref D) [y] H4 fun _ H5 => Nx H5 else Nx H3)
def tSi (w : World) (wi : TI) (g : TG) (tt : TT) (te : TE) (vss : List Nat) : TE := fun σ H Q => wi σ H fun J H1 => SiG w J g tt te vss σ Q H1
section
variable {X : Cx} {elt tg iter : Expr} {ifs : List Expr} {scope : Scope} {own : List (PySem.Str × Nat)} {pos : Pos} {wi : TI} {g : TG} {tt : TT} {te : TE}
abbrev nSetS (w : World) (z : Shared) : Shared := { z with heap := z.heap.push (nSet w) }
/-- the cells' part of the block's own environment -/
abbrev blkCells (X : Cx) (scope : Scope) (z : Shared) : List (PySem.Str × Addr) := cellsFrom (z.heap.objs.size + 1) scope.names (cloFrom X.env.cells scope.names [])
abbrev blkEnv (X : Cx) (scope : Scope) (z : Shared) : Env := compEnvC scope (blkCells X scope z) z.heap.objs.size X.env
abbrev blkTop (scope : Scope) (z : Shared) : Shared := { z with heap := pushCells (z.heap.push { cls := .type "dict", data := .dict #[] }) scope.names }
/-- the turns of the loop -/
theorem si_turns {use : Option (Value → Sem Unit)} {Qf : Value → Shared → Prop} {pins : List (Addr × Obj)} {σ : L2.St} {Q : VK} {z : Shared} {K0 : Hp} {D it : Addr} {fp : List Addr} {tn : Nat → Heap → Prop} {J : It} {W : Nat → Nat → Hp → Prop} {m0 : Nat}
    (hc : X.calm = true) (B0 : Inv X pins σ K0 z) (B1 : Inv (X.blk z K0 scope (blkEnv X scope z) fp) [] (wipe σ (own.map (·.2))) K0 (blkTop scope z))
    (T : Turn X.prog X.w X.K tg J fp it tn) (t0 : tn 0 (blkTop scope z).heap) (n0 : ∀ b ∈ fp, K0 b = none) (w0 : W 0 m0 K0) (fs : ∀ b ∈ fp, FpOk X pins K0 b)
    (pg : PG (X.blk z K0 scope (blkEnv X scope z) fp) tg g) (pt : PTs (X.blk z K0 scope (blkEnv X scope z) fp) ifs tt) (pe : PE (X.blk z K0 scope (blkEnv X scope z) fp) elt te)
    (turn : ∀ i m H, W i m H → (J.stop i H ∧ Q (.ref D) H) ∨ (J.go i H ∧ ∃ Nx : Hp → Prop, (∀ H', Nx H' → ∃ m', m' < m ∧ W (i + 1) m' H') ∧ ∀ x H', J.yld i H x H' → g x (wipe σ (own.map (·.2))) H' fun σ2 H2 => wipe σ2 (own.map (·.2)) = wipe σ (own.map (·.2)) ∧ tt σ2 H2 fun b H3 =>
      if b = true then te σ2 H3 fun y H4 => rSAdd X.w (.ref D) [y] H4 fun _ H5 => Nx H5 else Nx H3))
    (out : ∀ z' m K', Inv X pins σ K' z' → Q (.ref D) K' → z'.heap.Ns z.heap.objs.size m → FpOk X pins K' z.heap.objs.size → compPost (model X.prog X.w) X.A X.xe use Qf (.ref D) z.heap.objs.size (.ok .next) z') :
    codeAny (model X.prog X.w) X.A (.compLoop (.SetComp elt [⟨tg, iter, ifs, 0⟩] scope pos) 0 (.ref it) (.ref D) (blkEnv X scope z)) (compPost (model X.prog X.w) X.A X.xe use Qf (.ref D) z.heap.objs.size) (blkTop scope z) := by
  have own' : ∀ {τ : L2.St} {K' : Hp} {z' : Shared}, Inv (X.blk z K0 scope (blkEnv X scope z) fp) [] τ K' z' → (∀ b ∈ fp, K' b = none) → ∀ b ∈ fp, FpOk (X.blk z K0 scope (blkEnv X scope z) fp) [] K' b := fun {τ K' z'} q hn b hb =>
    ⟨hn b hb, (q.ok.exf b hb).1, q.ok.exfs b hb, .inl hb, fun x c e => (q.ok.exf b hb).2 x c e, fun p hp => absurd (show p ∈ ([] : List (Addr × Obj)) ++ [] from hp) (by simp)⟩
  refine PpSet.compLoopS_any (fun n z' => ∃ i K', Inv (X.blk z K0 scope (blkEnv X scope z) fp) [] (wipe σ (own.map (·.2))) K' z' ∧ tn i z'.heap ∧ (∀ b ∈ fp, K' b = none) ∧ W i n K') ?_ m0 ⟨0, K0, B1, t0, n0, w0⟩
  rintro n z1 ⟨i, K1, C1, t1, f1, w1⟩
  have pin1 := own' C1 f1
  rcases turn i n K1 w1 with ⟨stop, fin⟩ | ⟨go, Nx, less, step⟩
  · refine thnF (T.done (X.blk z K0 scope (blkEnv X scope z) fp) rfl rfl rfl hc i [] z1 _ K1 (fun _ _ => False) C1 pin1 t1 stop) fun r z2 ⟨hr, C2⟩ => ?_
    subst hr
    obtain ⟨m, hn, _⟩ := C2.loc
    exact out z2 m K1 (B0.call' (ch := fp) C2.os C2.base C2.hok C2.bare fun b hb => ⟨(fs b hb).2.2.2.1, (fs b hb).2.1, (fs b hb).2.2.2.2.1, (fs b hb).2.2.2.2.2⟩) fin hn (B0.fpOk (Nat.le_refl _) C2.free)
  · refine thnF (T.item (X.blk z K0 scope (blkEnv X scope z) fp) rfl rfl rfl hc i [] z1 _ K1 (fun _ _ => False) C1 pin1 t1 go) fun r z2 ⟨u, hr, nxt⟩ => ?_
    subst hr
    refine thnF nxt fun _ z3 ⟨x, K3, C3, rx, yx, t3, f3⟩ => ?_
    have held := C3.pinned (own' C3 f3) (T.obj _ _ t3)
    refine thnF (pg.run _ z3 _ K3 x u _ held rx (step x K3 yx)) fun _ z4 ⟨τ, K4, C4, same, q4⟩ => ?_
    refine thnF (pt.run _ z4 τ K4 _ C4 q4) fun b z5 ⟨K5, C5, q5⟩ => ?_
    -- behind the turn the block's names are forgotten
    have ends : ∀ {z' : Shared} {K' : Hp}, Inv (X.blk z K0 scope (blkEnv X scope z) fp) ([] ++ pinsAt fp z3.heap) τ K' z' → Nx K' → ∃ m, m < n ∧ ∃ i K', Inv (X.blk z K0 scope (blkEnv X scope z) fp) [] (wipe σ (own.map (·.2))) K' z' ∧ tn i z'.heap ∧ (∀ b ∈ fp, K' b = none) ∧ W i m K' := fun {z' K'} q nx => by
      obtain ⟨m', lt, w'⟩ := less K' nx
      have stays : ∀ b ∈ fp, ∀ o, z3.heap.get? b = some o → z'.heap.get? b = some o ∧ K' b = none := fun b hb o e => by
        have k := q.pin (b, o) (List.mem_append_right _ (List.mem_append_right _ (mem_pinsAt hb e)))
        exact ⟨k.1, k.2.1⟩
      refine ⟨m', lt, i + 1, K', (q.unpinned (pins := [])).weak (by rw [← same, wipe_length]) (fun j v e => by rw [← same] at e; exact (wipe_some e).1), T.keep _ _ _ t3 fun b hb o e => (stays b hb o e).1, fun b hb => ?_, w'⟩
      obtain ⟨o, e, _⟩ := T.obj _ _ t3 b hb
      exact (stays b hb o e).2
    cases b with
    | false => exact ends C5 (by simpa using q5)
    | true =>
      simp only [if_true] at q5 ⊢
      refine thnF (pe.run _ z5 τ K5 _ C5 q5) fun y z6 ⟨yv, K6, C6, ry, add⟩ => ?_
      exact thnF (mt_sadd (X := X.blk z K0 scope (blkEnv X scope z) fp) _ z6 τ K6 (.ref D) [yv] (.ref D) [y] _ C6 rfl (.cons ry .nil) add) fun _ z7 ⟨_, K7, C7, _, nx⟩ => ends C7 nx
/-- {e for x in xs if ..} -/
theorem pe_si (hc : X.calm = true) (hN : X.N.Nodup) (hi : PI X tg iter wi) (ok : BlkOk X.N X.env.scope scope own)
    (hg : ∀ (z : Shared) (K0 : Hp) (C : Addr) (cl : List (PySem.Str × Addr)) (fp : List Addr), PG (X.blk z K0 scope (compEnvC scope cl C X.env) fp) tg g)
    (ht : ∀ (z : Shared) (K0 : Hp) (C : Addr) (cl : List (PySem.Str × Addr)) (fp : List Addr), PTs (X.blk z K0 scope (compEnvC scope cl C X.env) fp) ifs tt)
    (he : ∀ (z : Shared) (K0 : Hp) (C : Addr) (cl : List (PySem.Str × Addr)) (fp : List Addr), PE (X.blk z K0 scope (compEnvC scope cl C X.env) fp) elt te) (hs : ∀ x, foldedSetIterable iter X.env x = pure x := by intro _; rfl) :
    PE X (.SetComp elt [⟨tg, iter, ifs, 0⟩] scope pos) (tSi X.w wi g tt te (own.map (·.2))) := by
  refine ⟨fun pins z σ K Q I h => ?_⟩
  rw [PpSet.eval_SetComp]
  have named : ∀ y ∈ scope.names, y.2 = .free → ∃ c, X.env.cells.lookup y.1 = some c := fun y hy e => (ok.free y hy e).elim (fun k => I.ok.has _ (.inl k)) fun k => I.ok.has _ (.inr k)
  refine wpAny_comprehension_free rfl hs (closure_ok named) ok.kind (fun y hy e => by rw [ok.uniq y hy, e]) (thn (hi.run pins z σ K _ I h) fun xv z1 hx => thn hx fun iv z2 got => ?_)
  obtain ⟨it, fp, tn, J, K2, ei, I2, T, t2, f2, q⟩ := got
  subst ei
  refine PpSet.newSet_ok (newEnv_comp ?_)
  generalize hD : z2.heap.objs.size = D
  have free2 : K2 D = none := I2.hok.fresh (Nat.le_of_eq hD)
  obtain ⟨W, ⟨m0, w0⟩, turn⟩ := q D free2
  have at3 : ∀ b o, z2.heap.get? b = some o → (nSetS X.w z2).heap.get? b = some o := fun b o e => Heap.get?_push_of_some _ e
  have I3 : Inv X pins σ (upd K2 D (SetO X.w D (fun _ => false) 0)) (nSetS X.w z2) := by
    refine I2.laid (t' := z2.toks) at3 (Nat.le_of_eq hD) ?_
    rw [← hD]
    exact setO_new (setR_fresh X.w)
  have low : ∀ b ∈ fp, b < z2.heap.objs.size := fun b hb => (T.obj _ _ t2 b hb).elim fun o e => Heap.lt_size e.1
  have f3 : ∀ b ∈ fp, FpOk X pins (upd K2 D (SetO X.w D (fun _ => false) 0)) b ∧ b < (nSetS X.w z2).heap.objs.size := fun b hb => by
    have lt := low b hb
    refine ⟨⟨?_, (f2 b hb).2⟩, by show b < (z2.heap.push _).objs.size; rw [Heap.size_push]; exact Nat.lt_succ_of_lt lt⟩
    rw [upd_ne (fun e => Nat.ne_of_lt lt (by rw [e, hD]))]
    exact (f2 b hb).1
  have t3 : tn 0 (nSetS X.w z2).heap := T.keep _ _ _ t2 fun b _ o e => at3 b o e
  have B1 := block_start I3 ok hN f3
  generalize upd K2 D (SetO X.w D (fun _ => false) 0) = K3 at *
  have t4 : tn 0 (blkTop scope (nSetS X.w z2)).heap := T.keep _ _ _ t3 fun b _ o e => pushCells_keeps _ _ _ _ (Heap.get?_push_of_some _ e)
  have loop := si_turns (elt := elt) (iter := iter) (own := own) (pos := pos) (use := none) (Qf := fun v s' => ∃ x H', Inv X pins σ H' s' ∧ RelV x v ∧ Q x H') hc I3 B1 T t4 (fun b hb => (f3 b hb).1.1) w0 (fun b hb => (f3 b hb).1) (hg _ _ _ _ _) (ht _ _ _ _ _) (he _ _ _ _ _) turn fun z' m K' I' q hn f => ⟨m, hn, fun h'' sb => by
    obtain ⟨f0, f1, f2, f3, f4, f5⟩ := f
    exact ⟨.ref D, K', I'.turned (t' := z'.toks) (fun b o hb e => (sb.2 b hb).trans e) f0 f1 f3 f4 f5, rfl, q⟩⟩
  exact PpSet.codeAny_compStart_set loop (T.self X.A 0 _ _ _ t4 loop)
end
section
variable {w : World} {K : PySem.W.Frag} {G0 H0 G H : Hp} {D : List Addr} {M : List (Addr × HO)} {σ : L2.St} {Q : VK} {tt : TT} {te : TE} {vss : List Nat} {k : Bool} {a : Addr} {xs : List V}
theorem go_tSi {wi : TI} {g : TG} (h : wi σ H fun J H1 => SiG w J g tt te vss σ Q H1) : tSi w wi g tt te vss σ H Q := h
/-- {F c for c in as if p c}, over a list or a tuple -/
theorem scFiltK {α : Type} {g : TG} {as : List α} {Da : α → Dt} {p : α → Bool} {F : α → Int} (hS : Sta K G0 H0 D G M H) (hq : SqK k K G a xs) (hr : RpAll K G xs (as.map Da)) (hl : as.length ≤ 1000)
    (hs : ∀ x c L o G1 H1 (Z : VK) (Z0 : Hp → Prop), c ∈ as → Rp K G1 x (Da c) → Same G G1 → H0 L = none → Sta K G0 H0 D G1 ((L, o) :: M) H1 → (p c = true → ∀ G2 H2, Same G1 G2 → Sta K G0 H0 D G2 ((L, o) :: M) H2 → Z (.int (F c)) H2) → (p c = false → ∀ G2 H2, Same G1 G2 → Sta K G0 H0 D G2 ((L, o) :: M) H2 → Z0 H2) →
      g x (wipe σ vss) H1 fun σ2 H3 => wipe σ2 vss = wipe σ vss ∧ tt σ2 H3 fun b H4 => if b = true then te σ2 H4 Z else Z0 H4)
    (hd : ∀ v n G1 H1, Same G G1 → Sta K G0 H0 D G1 M H1 → n ≤ as.length → RpS w G1 v ((as.filter p).map F) n → Q v H1) : SiG w (ItK k K a) g tt te vss σ Q H := by
  have xl := hr.length
  rw [List.length_map] at xl
  intro L hL
  have l0 := hS.h0 hL
  have W : Walk (ItK k K a) xs.length (fun H => SqK k K H a xs) (fun i H x H' => H' = H ∧ xs[i]? = some x) := walk_K
  let P : Nat → Hp → Prop := fun i H1 => ∃ G1 c, c ≤ i ∧ Same G G1 ∧ Sta K G0 H0 D G1 ((L, SetO w L (fun j => decide (j ∈ ((as.take i).filter p).map F)) c) :: M) H1
  refine ⟨fun i m H1 => m = xs.length - i ∧ i ≤ xs.length ∧ P i H1, ⟨xs.length, rfl, Nat.zero_le _, G, 0, Nat.le_refl _, Same.refl G, ?_⟩, fun i m H1 w1 => ?_⟩
  · have e : (fun _ : Int => false) = fun j => decide (j ∈ ((as.take 0).filter p).map F) := by
      funext j
      simp
    rw [e]
    exact hS.mut hL _
  · obtain ⟨rfl, hi, G1, c, hc, e, s⟩ := w1
    have seq : SqK k K H1 a xs := (hq.up e).up s.gh
    by_cases lt : i < xs.length
    · have hi2 : i < as.length := by omega
      refine .inr ⟨W.goes i H1 lt seq, P (i + 1), fun H' h' => ⟨xs.length - (i + 1), by omega, rfl, lt, h'⟩, fun x H' y => ?_⟩
      obtain ⟨rfl, hx⟩ := W.yields i H1 x H' lt seq y
      obtain ⟨d, hd', rd⟩ := hr.getV hx
      rw [List.getElem?_map, List.getElem?_eq_getElem hi2] at hd'
      cases hd'
      have tk : ((as.take (i + 1)).filter p).map F = ((as.take i).filter p).map F ++ if p as[i] = true then [F as[i]] else [] := by
        rw [List.take_add_one, List.getElem?_eq_getElem hi2, List.filter_append, List.map_append]
        by_cases hp : p as[i] = true <;> simp [hp]
      refine hs x as[i] L _ G1 _ _ _ (List.getElem_mem hi2) (rd.up e) e l0 s (fun hp G2 H2 e2 s2 => ?_) fun hp G2 H2 e2 s2 => ?_
      · rw [if_pos hp] at tk
        refine ⟨L, F as[i], _, c, rfl, rfl, s2.get (i := 0) rfl, by unfold scanBound; omega, G2, (if decide (F as[i] ∈ ((as.take i).filter p).map F) = true then c else c + 1), by split <;> omega, e.trans e2, ?_⟩
        have ef : (fun j => decide (j ∈ ((as.take i).filter p).map F) || decide (j = F as[i])) = fun j => decide (j ∈ ((as.take (i + 1)).filter p).map F) := by
          funext j
          rw [tk, Bool.eq_iff_iff]
          simp only [Bool.or_eq_true, decide_eq_true_eq, List.mem_append, List.mem_singleton]
        rw [ef]
        exact s2.set (i := 0) rfl _
      · have tk' : ((as.take (i + 1)).filter p).map F = ((as.take i).filter p).map F := by rw [tk, if_neg (by rw [hp]; decide), List.append_nil]
        refine ⟨G2, c, by omega, e.trans e2, ?_⟩
        rw [tk']
        exact s2
    · have ei : i = xs.length := by omega
      subst ei
      refine .inl ⟨W.stops H1 seq, ?_⟩
      obtain ⟨s2, e2⟩ := s.frz l0
      have et : as.take xs.length = as := List.take_of_length_le (by omega)
      rw [et] at s2 e2
      exact hd _ c _ H1 (e.trans e2) s2 (by omega) ⟨L, rfl, upd_same⟩
end
end B
/-! list(zip(xs, ys)) of two lists: a new list of new pairs -/
namespace B
open PySem PySem.Spec PyProof.Rows L2
theorem zip_len0 : typeLookup (.type "zip") "__len__" = pure none := am_miss_of_fast (by decide +kernel)
theorem zip_hint0 : typeLookup (.type "zip") "__length_hint__" = pure none := am_miss_of_fast (by decide +kernel)
theorem ad_ne {N : Nat} (j k : Nat) (h : j ≠ k) : N + j ≠ N + k := by omega
theorem ad_out {N c : Nat} (h : c < N ∨ N + 4 < c) : c ≠ N + 4 ∧ c ≠ N + 3 ∧ c ≠ N ∧ c ≠ N + 1 := by omega
theorem ad_lt {N b : Nat} (h : b < N) : b ≠ N + 5 := by omega
theorem ad_succ {N c : Nat} (h : N + 5 < c) : N + 4 < c := by omega
theorem ad_54 {N : Nat} : N + 4 < N + 5 := by omega
/-- a zip laid from N on, whose last pair (if any) is still held; i pairs were given -/
structure ZH (h : Heap) (N l1 l2 : Addr) (xs ys : Array Value) (i : Nat) : Prop where
  zip : IsZip h (N + 4) (N + 2) (N + 3) .none ∨ ∃ (T : Addr) (f : Bool) (u : Obj), N + 5 < T ∧ IsZipHeld h (N + 4) (N + 2) (N + 3) T f ∧ h.get? T = some u
  ins : IsPair h (N + 2) (.ref N) (.ref (N + 1))
  out : ∃ a b, IsPair h (N + 3) a b
  it1 : h.IsListIter N l1 i
  it2 : h.IsListIter (N + 1) l2 i
  li1 : h.IsList l1 xs
  li2 : h.IsList l2 ys
theorem ZH.at {h h' : Heap} {N l1 l2 : Addr} {xs ys : Array Value} {i : Nat} (z : ZH h N l1 l2 xs ys i) (a1 : l1 < N) (a2 : l2 < N) (k : ∀ b o, b ≠ N + 5 → h.get? b = some o → h'.get? b = some o) : ZH h' N l1 l2 xs ys i where
  zip := z.zip.elim (fun e => .inl (k _ _ (ad_ne 4 5 (by decide)) e)) fun ⟨T, f, u, g, e, q⟩ => .inr ⟨T, f, u, g, k _ _ (ad_ne 4 5 (by decide)) e, k _ _ (Nat.ne_of_gt g) q⟩
  ins := k _ _ (ad_ne 2 5 (by decide)) z.ins
  out := z.out.elim fun a ⟨b, e⟩ => ⟨a, b, k _ _ (ad_ne 3 5 (by decide)) e⟩
  it1 := z.it1.at fun o e => k _ _ (ad_ne 0 5 (by decide)) e
  it2 := z.it2.at fun o e => k _ _ (ad_ne 1 5 (by decide)) e
  li1 := z.li1.at fun o e => k _ _ (Nat.ne_of_lt (Nat.lt_of_lt_of_le a1 (Nat.le_add_right _ _))) e
  li2 := z.li2.at fun o e => k _ _ (Nat.ne_of_lt (Nat.lt_of_lt_of_le a2 (Nat.le_add_right _ _))) e
section
variable {prog : Program} {w : World} {A : Around} {E : Value → Shared → Prop} {s : Shared} {N l1 l2 : Addr} {xs ys : Array Value}
theorem ZH.next {i : Nat} {x y : Value} {Q : Option Value → Shared → Prop} (z : ZH s.heap N l1 l2 xs ys i) (a1 : l1 < N) (a2 : l2 < N) (big : N + 5 < s.heap.objs.size) (hx : xs[i]? = some x) (hy : ys[i]? = some y)
    (q : ∀ h', ZH h' N l1 l2 xs ys (i + 1) → IsPair h' s.heap.objs.size x y → h'.objs.size = s.heap.objs.size + 1 → (∀ c o, (c < N ∨ N + 4 < c) → s.heap.get? c = some o → h'.get? c = some o) → Q (some (.ref s.heap.objs.size)) { s with heap := h' }) :
    wpAny (model prog w) A (pyNext (.ref (N + 4))) Q E s := by
  have D := zipApart_new (n := N) a1 a2
  have out : ∀ {c : Addr}, (c < N ∨ N + 4 < c) → c ≠ N + 4 ∧ c ≠ N + 3 ∧ c ≠ N ∧ c ≠ N + 1 := fun {c} h => ad_out h
  have b1 : l1 < N ∨ N + 4 < l1 := .inl a1
  have b2 : l2 < N ∨ N + 4 < l2 := .inl a2
  obtain ⟨ca, cb, hO⟩ := z.out
  rcases z.zip with hz | ⟨T, f, u, g, hz, hT⟩
  · refine wpAny_pyNext_zip_item D hz z.ins hO z.it1 z.it2 z.li1 z.li2 hx hy fun h' e1 e2 e3 e4 e5 e6 kp => ?_
    have kp' : ∀ c o, (c < N ∨ N + 4 < c) → s.heap.get? c = some o → h'.get? c = some o := fun c o hc e => kp c o (out hc).1 (out hc).2.1 (out hc).2.2.1 (out hc).2.2.2 e
    exact q h' ⟨.inr ⟨_, false, _, big, e1, e5⟩, kp _ _ D.TIz D.TITO D.TIi1 D.TIi2 z.ins, ⟨_, _, e2⟩, e3, e4, z.li1.at fun o e => kp' _ _ b1 e, z.li2.at fun o e => kp' _ _ b2 e⟩ e5 e6 kp'
  · refine wpAny_pyNext_zip_item_held D hz hT z.ins z.it1 z.it2 z.li1 z.li2 hx hy fun h' e1 e3 e4 e5 e6 kp => ?_
    have kp' : ∀ c o, (c < N ∨ N + 4 < c) → s.heap.get? c = some o → h'.get? c = some o := fun c o hc e => kp c o (out hc).1 (out hc).2.2.1 (out hc).2.2.2 e
    exact q h' ⟨.inr ⟨T, true, u, g, e1, kp' _ _ (.inr (ad_succ g)) hT⟩, kp _ _ D.TIz D.TIi1 D.TIi2 z.ins, ⟨_, _, kp _ _ D.TOz D.TOi1 D.TOi2 hO⟩, e3, e4, z.li1.at fun o e => kp' _ _ b1 e, z.li2.at fun o e => kp' _ _ b2 e⟩ e5 e6 kp'
theorem ZH.stop {i : Nat} {Q : Option Value → Shared → Prop} (hh : A.handled = none) (z : ZH s.heap N l1 l2 xs ys i) (a1 : l1 < N) (a2 : l2 < N) (he : xs[i]? = none ∨ ys[i]? = none)
    (q : ∀ h', (∀ c o, (c < N ∨ N + 4 < c) → s.heap.get? c = some o → h'.get? c = some o) → Q none { s with heap := h' }) : wpAny (model prog w) A (pyNext (.ref (N + 4))) Q E s := by
  have D := zipApart_new (n := N) a1 a2
  have out : ∀ {c : Addr}, (c < N ∨ N + 4 < c) → c ≠ N + 4 ∧ c ≠ N + 3 ∧ c ≠ N ∧ c ≠ N + 1 := fun {c} h => ad_out h
  obtain ⟨ca, cb, hO⟩ := z.out
  rcases z.zip with hz | ⟨T, f, u, g, hz, hT⟩
  · exact wpAny_pyNext_zip_end hh D hz z.ins hO z.it1 z.it2 z.li1 z.li2 he fun h' kp => q h' fun c o hc e => kp c o (out hc).1 (out hc).2.1 (out hc).2.2.1 (out hc).2.2.2 e
  · exact wpAny_pyNext_zip_end_held hh D hz hT z.ins z.it1 z.it2 z.li1 z.li2 he fun h' kp => q h' fun c o hc e => kp c o (out hc).1 (out hc).2.2.1 (out hc).2.2.2 e
/-- the pairs made so far -/
structure Prs (h : Heap) (N : Addr) (xs ys : Array Value) (as : List Addr) : Prop where
  nd : as.Nodup
  up : ∀ a ∈ as, N + 5 < a
  at_ : ∀ (j : Nat) a, as[j]? = some a → ∃ x y, xs[j]? = some x ∧ ys[j]? = some y ∧ IsPair h a x y
abbrev lstO (acc : Array Value) (c : Nat) : Obj := { cls := .type "list", dict := none, data := .seq acc c, slots := #[] }
theorem zl_loop {R : Result → Shared → Prop} {h0 : Heap} (hh : A.handled = none) (a1 : l1 < N) (a2 : l2 < N) (hn : min xs.size ys.size ≤ sizeLine) (res : Value)
    (fin : ∀ h' acc c as, (∀ b o, b < N → h0.get? b = some o → h'.get? b = some o) → h'.get? (N + 5) = some (lstO acc c) → as.length = min xs.size ys.size → Prs h' N xs ys as → acc.toList = as.map Value.ref → R (.ok (.ret res)) { s with heap := h' }) :
    ∀ (k : Nat) (h : Heap) (c : Nat) (acc : Array Value) (as : List Addr), min xs.size ys.size - as.length = k → as.length ≤ min xs.size ys.size → ZH h N l1 l2 xs ys as.length → (∀ b o, b < N → h0.get? b = some o → h.get? b = some o) →
      h.get? (N + 5) = some (lstO acc c) → acc.toList = as.map Value.ref → Prs h N xs ys as → codeAny (model prog w) A (.builtin "list.extend.loop" ⟨[.ref (N + 5), .ref (N + 4), res], []⟩) R { s with heap := h } := by
  intro k
  induction k with
  | zero =>
    intro h c acc as hk hl z keep lq ha pr
    refine codeAny_builtin (PySem.F.entry_extend_loop) ?_
    rw [Around.under_plainId (PySem.F.plain_extend_loop) _]
    show wpAny _ A.in1 (pyNext (.ref (N + 4)) >>= _) _ _ _
    have ends : xs[as.length]? = none ∨ ys[as.length]? = none := by
      rcases Nat.le_total xs.size ys.size with le | le
      · exact .inl (Array.getElem?_eq_none (by omega))
      · exact .inr (Array.getElem?_eq_none (by omega))
    refine wpAny_bind (ZH.stop (s := { s with heap := h }) (A := A.in1) hh z a1 a2 ends fun h' kp => wpAny_pure ?_)
    refine fin h' acc c as (fun b o hb e => kp b o (.inl hb) (keep b o hb e)) (kp _ _ (.inr ad_54) lq) (by omega) ⟨pr.nd, pr.up, fun j a hj => ?_⟩ ha
    obtain ⟨x, y, hx, hy, e⟩ := pr.at_ j a hj
    exact ⟨x, y, hx, hy, kp _ _ (.inr (ad_succ (pr.up a (List.mem_of_getElem? hj)))) e⟩
  | succ k ih =>
    intro h c acc as hk hl z keep lq ha pr
    have sz : acc.size = as.length := by rw [← Array.length_toList, ha, List.length_map]
    have big : N + 5 < h.objs.size := Heap.lt_size lq
    have i1 : as.length < xs.size := by omega
    have i2 : as.length < ys.size := by omega
    refine codeAny_builtin (PySem.F.entry_extend_loop) ?_
    rw [Around.under_plainId (PySem.F.plain_extend_loop) _]
    show wpAny _ A.in1 (pyNext (.ref (N + 4)) >>= _) _ _ _
    refine wpAny_bind (ZH.next (s := { s with heap := h }) z a1 a2 big (Array.getElem?_eq_getElem i1) (Array.getElem?_eq_getElem i2) fun h' z' new _ kp => ?_)
    dsimp only at new kp ⊢
    have lq' := kp _ _ (.inr ad_54) lq
    have wr : ∀ b o, b ≠ N + 5 → h'.get? b = some o → (h'.update (N + 5) (Obj.mapSeq (·.push (Value.ref h.objs.size)))).get? b = some o := fun b o hb e => (Heap.get?_update_other _ _ (Ne.symm hb)).trans e
    have old : ∀ a ∈ as, a < h.objs.size := fun a hm => by
      obtain ⟨j, hj⟩ := List.mem_iff_getElem?.mp hm
      obtain ⟨_, _, _, _, e⟩ := pr.at_ j a hj
      exact Heap.lt_size e
    show wpAny _ A.in1 (updateSeq (N + 5) (·.push (Value.ref h.objs.size)) >>= _) _ _ _
    refine wpAny_bind (wpAny_updateSeq lq' rfl (wpAny_pure ⟨plainId_quiet PySem.F.plain_extend_loop _, ih _ _ (acc.push (Value.ref h.objs.size)) (as ++ [h.objs.size]) (by rw [List.length_append, List.length_singleton]; omega) (by rw [List.length_append, List.length_singleton]; omega)
      (by rw [List.length_append, List.length_singleton]; exact z'.at a1 a2 wr) (fun b o hb e => wr b o (ad_lt hb) (kp b o (.inl hb) (keep b o hb e))) (Heap.get?_update_self _ lq' rfl) (by rw [Array.toList_push, ha, List.map_append]; rfl) ⟨?_, fun a hm => ?_, fun j a hj => ?_⟩⟩)
      (by rw [sz]; omega) (by show (acc.push _).size ≤ sizeLine + 1; rw [Array.size_push, sz]; omega))
    · refine List.nodup_append.mpr ⟨pr.nd, by simp, fun a hm b hb e => ?_⟩
      rw [List.mem_singleton.mp hb] at e
      exact Nat.ne_of_lt (old a hm) e
    · rcases List.mem_append.mp hm with inl | inr
      · exact pr.up a inl
      · rw [List.mem_singleton.mp inr]
        exact big
    · by_cases hlt : j < as.length
      · rw [List.getElem?_append_left hlt] at hj
        have g := pr.up a (List.mem_of_getElem? hj)
        obtain ⟨x, y, hx, hy, e⟩ := pr.at_ j a hj
        exact ⟨x, y, hx, hy, wr _ _ (Nat.ne_of_gt g) (kp _ _ (.inr (ad_succ g)) e)⟩
      · have hlen := (List.getElem?_eq_some_iff.mp hj).1
        rw [List.length_append, List.length_singleton] at hlen
        have ej : j = as.length := by omega
        rw [ej, List.getElem?_append_right (Nat.le_refl _), Nat.sub_self] at hj
        have ea : h.objs.size = a := by simpa using hj
        rw [ej, ← ea]
        exact ⟨_, _, Array.getElem?_eq_getElem i1, Array.getElem?_eq_getElem i2, wr _ _ (Nat.ne_of_gt big) new⟩
/-- list(z), z a zip that was just laid -/
theorem call_list_zip {Q : Value → Shared → Prop} (hh : A.handled = none) (hz : ZH s.heap N l1 l2 xs ys 0) (hf : IsZip s.heap (N + 4) (N + 2) (N + 3) .none) (hs : s.heap.objs.size = N + 5) (a1 : l1 < N) (a2 : l2 < N) (hn : min xs.size ys.size ≤ sizeLine)
    (q : ∀ h' acc c as, (∀ b o, b < N → s.heap.get? b = some o → h'.get? b = some o) → h'.get? (N + 5) = some (lstO acc c) → as.length = min xs.size ys.size → Prs h' N xs ys as → acc.toList = as.map Value.ref → Q (.ref (N + 5)) { s with heap := h' }) :
    wpAny (model prog w) A (call (.type "list") [.ref (N + 4)]) Q E s := by
  refine callType_codes (Q₁ := fun obj s₁ => obj = .ref s.heap.objs.size ∧ s₁ = { s with heap := s.heap.push { cls := .type "list", data := .seq #[] } }) PySem.F.called_list (PySem.F.typeCall_list_1 _) PySem.F.entry_list_init (code_list_new _ ⟨rfl, rfl⟩) fun obj s₁ h₁ => ?_
  obtain ⟨rfl, rfl⟩ := h₁
  rw [hs]
  have at0 : ∀ b o, s.heap.get? b = some o → (s.heap.push { cls := .type "list", data := .seq #[] }).get? b = some o := fun b o e => Heap.get?_push_of_some _ e
  have lq : (s.heap.push { cls := .type "list", data := .seq #[] }).get? (N + 5) = some (lstO #[] 0) := by rw [← hs]; exact Heap.get?_push_size _ rfl
  have z0 := hz.at a1 a2 fun b o _ e => at0 b o e
  have f0 := at0 _ _ hf
  generalize s.heap.push { cls := .type "list", data := .seq #[] } = g at *
  refine ⟨⟨_, lq, rfl⟩, PySem.F.args_list_init_2 _ _, ?_⟩
  show wpAny _ _ (do let old ← Builtin.List.listItems (.ref (N + 5)); Builtin.List.listUpdate (.ref (N + 5)) (fun _ => #[]); letGo old.toList.reverse; Builtin.List.listExtendWith (.ref (N + 5)) (.ref (N + 4)) .none) _ _ _
  refine wpAny_bind ?_
  unfold Builtin.List.listItems
  refine wpAny_bind (wpAny_seqItems lq rfl (wpAny_pure ?_))
  show wpAny _ _ (updateSeq (N + 5) (fun _ => #[]) >>= fun _ => letGo (#[] : Array Value).toList.reverse >>= fun _ => Builtin.List.listExtendWith (.ref (N + 5)) (.ref (N + 4)) .none) _ _ _
  refine wpAny_bind (wpAny_updateSeq lq rfl ?_)
  have lq2 := Heap.get?_update_self (Obj.mapSeq (fun _ => (#[] : Array Value))) lq rfl
  have oth : ∀ b o, b ≠ N + 5 → g.get? b = some o → (g.update (N + 5) (Obj.mapSeq (fun _ => (#[] : Array Value)))).get? b = some o := fun b o hb e => (Heap.get?_update_other _ _ (Ne.symm hb)).trans e
  refine wpAny_bind (wpAny_letGo (?_))
  have z1 := z0.at a1 a2 oth
  have f1 := oth _ _ (ad_ne 4 5 (by decide)) f0
  have low : ∀ b o, b < N → s.heap.get? b = some o → (g.update (N + 5) (Obj.mapSeq (fun _ => (#[] : Array Value)))).get? b = some o := fun b o hb e => oth b o (ad_lt hb) (at0 b o e)
  generalize g.update (N + 5) (Obj.mapSeq (fun _ => (#[] : Array Value))) = g1 at *
  have zt : ∀ {h : Heap}, ZH h N l1 l2 xs ys 0 → Shared.TypeIs { s with heap := h } (.ref (N + 4)) "zip" := fun z => z.zip.elim (fun e => ⟨_, e, rfl⟩) fun ⟨_, _, _, _, e, _⟩ => ⟨_, e, rfl⟩
  unfold Builtin.List.listExtendWith; skip
  refine wpAny_bind (wpAny_typeOf (zt z1) ?_)
  have h1 : Builtin.List.listSameRef (.ref (N + 5)) (.ref (N + 4)) = false := by
    have : (N : Nat) + 5 ≠ N + 4 := ad_ne 5 4 (by decide)
    simpa [Builtin.List.listSameRef] using this
  have h2 : (Value.type "zip" == Value.type "list") = false := by decide
  have h3 : (Value.type "zip" == Value.type "tuple") = false := by decide
  simp only [h1, h2, h3, Bool.or_false, if_false, Bool.false_eq_true]
  have out : ∀ {g2 : Heap} {c : Nat}, ZH g2 N l1 l2 xs ys 0 → (∀ b o, b < N → s.heap.get? b = some o → g2.get? b = some o) → g2.get? (N + 5) = some (lstO #[] c) → codeAny (model prog w) A.in1 (.builtin "list.extend.loop" ⟨[.ref (N + 5), .ref (N + 4), .none], []⟩) (wants (fun r s₂ => r = .none ∧ Q (.ref (N + 5)) s₂) E) { s with heap := g2 } := fun {g2 c} z lo hg =>
    zl_loop (A := A.in1) (R := wants (fun r s₂ => r = .none ∧ Q (.ref (N + 5)) s₂) E) (h0 := s.heap) hh a1 a2 hn .none (fun h' acc c as lo' hl' ll pr ha => ⟨rfl, q h' acc c as lo' hl' ll pr ha⟩) _ g2 c #[] [] rfl (Nat.zero_le _) z lo hg rfl ⟨List.nodup_nil, (fun _ h => nomatch h), fun j a h => by simp at h⟩
  refine wpAny_bind (wpAny_pyIter_zip f1 ?_)
  refine wpAny_bind (wpAny_holding (?_))
  unfold Builtin.List.listLengthHint; skip
  refine wpAny_bind (wpAny_specialOf (zt z1) zip_len0 ?_)
  show wpAny _ _ (specialOf (Value.ref (N + 4)) (Str.ofString "__length_hint__") >>= _) _ _ _
  refine wpAny_bind (wpAny_specialOf (zt z1) zip_hint0 ?_)
  refine wpAny_pure ?_
  refine wpAny_ite_split (fun _ => ?_) (fun _ => wpAny_pure ⟨plainId_quiet PySem.F.plain_extend_loop _, out z1 low lq2⟩)
  refine wpAny_bind (wpAny_rule (?_))
  refine wpAny_bind ?_
  show wpAny _ _ (updateSeq (N + 5) (·.push .none) >>= fun _ => updateSeq (N + 5) (·.pop)) _ _ _
  refine wpAny_bind (wpAny_updateSeq lq2 rfl ?_)
  have lq3 := Heap.get?_update_self (Obj.mapSeq (·.push Value.none)) lq2 rfl
  refine wpAny_updateSeq (hz := by seq_fits) lq3 rfl ?_
  have lq4 := Heap.get?_update_self (Obj.mapSeq (·.pop)) lq3 rfl
  have oth2 : ∀ b o, b ≠ N + 5 → g1.get? b = some o → ((g1.update (N + 5) (Obj.mapSeq (·.push Value.none))).update (N + 5) (Obj.mapSeq (·.pop))).get? b = some o := fun b o hb e => (Heap.get?_update_other _ _ (Ne.symm hb)).trans ((Heap.get?_update_other _ _ (Ne.symm hb)).trans e)
  exact wpAny_pure ⟨plainId_quiet PySem.F.plain_extend_loop _, out (z1.at a1 a2 oth2) (fun b o hb e => oth2 b o (ad_lt hb) (low b o hb e)) lq4⟩
end
/-! as an expression -/
theorem sz1000 {n : Nat} (h : n ≤ 1000) : n ≤ sizeLine := Nat.le_trans h (by decide)
def updL (H : Hp) (os : List (Addr × HO)) : Hp := os.foldl (fun H q => upd H q.1 q.2) H
theorem inv_laids {X : Cx} {pins : List (Addr × Obj)} {σ : L2.St} {g : Heap} {t : Nat} : ∀ (os : List (Addr × HO)) {H : Hp} {s : Shared}, Inv X pins σ H s → (∀ b u, s.heap.get? b = some u → g.get? b = some u) → (os.map (·.1)).Nodup → (∀ q ∈ os, s.heap.get? q.1 = none) → (∀ q ∈ os, H q.1 = none) →
    (∀ q ∈ os, ∀ (H' : Hp) (g' : Heap), (∀ u, g.get? q.1 = some u → g'.get? q.1 = some u) → ObjOk X.prog X.w H' g' q.1 q.2) → Inv X pins σ (updL H os) { s with heap := g, toks := t }
  | [], H, s, I, k, _, _, _, _ => I.kept k
  | q :: os, H, s, I, k, nd, free, hn, new => by
    have nd' := List.nodup_cons.mp nd
    obtain ⟨g1, r1, r2⟩ := L2.restrict g fun b => decide (b ∉ os.map (·.1))
    have sub : ∀ b u, g1.get? b = some u → g.get? b = some u := fun b u e => by
      by_cases hb : b ∈ os.map (·.1)
      · rw [r2 b (decide_eq_false fun z => z hb)] at e
        cases e
      · rw [← r1 b (decide_eq_true hb)]
        exact e
    have k1 : ∀ b u, s.heap.get? b = some u → g1.get? b = some u := fun b u e => by
      have hb : b ∉ os.map (·.1) := fun z => by
        obtain ⟨p, hp, rfl⟩ := List.mem_map.mp z
        rw [free p (List.mem_cons_of_mem _ hp)] at e
        cases e
      rw [r1 b (decide_eq_true hb)]
      exact k b u e
    have q0 := free q List.mem_cons_self
    have hq : H q.1 = none := hn q List.mem_cons_self
    have I1 : Inv X pins σ (upd H q.1 q.2) { s with heap := g1, toks := t } := I.laidN k1 q0 hq (new q List.mem_cons_self _ _ fun u e => by rw [r1 q.1 (decide_eq_true nd'.1)]; exact e)
    exact inv_laids os (s := { s with heap := g1, toks := t }) I1 sub nd'.2 (fun p hp => r2 p.1 (decide_eq_false fun z => z (List.mem_map.mpr ⟨p, hp, rfl⟩))) (fun p hp => by show upd H q.1 q.2 p.1 = none; rw [upd_ne (fun e => nd'.1 (List.mem_map.mpr ⟨p, hp, e⟩))]; exact hn p (List.mem_cons_of_mem _ hp)) fun p hp => new p (List.mem_cons_of_mem _ hp)
/-- the new pairs, the new list -/
def pairsO (as : List Addr) (ps : List (V × V)) : List (Addr × HO) := (as.zip ps).map fun q => (q.1, .tup [q.2.1, q.2.2])
def LZK (K : PySem.W.Frag) (Q : VK) (vs : List V) (H : Hp) : Prop := ∃ (a b : Addr) (xs ys : List V), vs = [.ref a, .ref b] ∧ SqL K H a xs ∧ SqL K H b ys ∧ xs.length ≤ 1000 ∧ ys.length ≤ 1000 ∧
  ∀ (as : List Addr) (p : Addr), as.Nodup → as.length = min xs.length ys.length → p ∉ as → (∀ q ∈ as, H q = none) → H p = none → Q (.ref p) (updL H (pairsO as (xs.zip ys) ++ [(p, .lst (as.map .ref))]))
def tLZ (K : PySem.W.Frag) (ta : TA) : TE := fun σ H Q => ta σ H fun vs H1 => LZK K Q vs H1
theorem go_tLZ {K : PySem.W.Frag} {ta : TA} {σ : L2.St} {H : Hp} {Q : VK} (h : ta σ H fun vs H1 => LZK K Q vs H1) : tLZ K ta σ H Q := h
theorem pairsO_keys : ∀ {as : List Addr} {ps : List (V × V)}, as.length = ps.length → (pairsO as ps).map (·.1) = as
  | [], _, _ => rfl
  | a :: as, [], h => by cases h
  | a :: as, p :: ps, h => congrArg (a :: ·) (pairsO_keys (as := as) (ps := ps) (by simpa using h))
theorem pairsO_mem {as : List Addr} {ps : List (V × V)} {q : Addr × HO} (h : q ∈ pairsO as ps) : ∃ (j : Nat) (x y : V), as[j]? = some q.1 ∧ ps[j]? = some (x, y) ∧ q.2 = .tup [x, y] := by
  obtain ⟨r, hr, rfl⟩ := List.mem_map.mp h
  obtain ⟨j, hj⟩ := List.mem_iff_getElem?.mp hr
  rw [List.getElem?_zip_eq_some] at hj
  exact ⟨j, r.2.1, r.2.2, hj.1, hj.2, rfl⟩
theorem pe_listZip {X : Cx} {e e2 : Expr} {ta : TA} {p p2 pos pos2 : Pos} (hg : Gl X "list") (hm : X.mg "list" = none) (hg2 : Gl X "zip") (hm2 : X.mg "zip" = none) (ha : PA X [e, e2] ta) (hc : X.calm = true := by rfl)
    (hs : starEach [e, e2] X.env = (false, eval e X.env) :: starEach [e2] X.env := by rfl) (hb : (backTo pos2 (starEach [e2] X.env)).any (·.1) = false := by rfl)
    (na : starEach [.Call (.Name "zip" p2) [e, e2] [] pos2] X.env = (false, eval (.Call (.Name "zip" p2) [e, e2] [] pos2) X.env) :: starEach [] X.env := by rfl) :
    PE X (.Call (.Name "list" p) [.Call (.Name "zip" p2) [e, e2] [] pos2] [] pos) (tLZ X.K ta) := by
  refine ⟨fun pins s σ H Q I h => ?_⟩
  refine Call_ (ld_blt I hg hm boot_list (PyProof.Rows.callWith_type1 (args_cons ?_ na) na))
  refine Call_ (ld_blt I hg2 hm2 boot_zip (callWith_type1 (thn (ha.run pos2 pins s σ H _ I h) fun us s1 ⟨vs, H1, I1, r1, q1⟩ => ?_) hs hb))
  obtain ⟨a, b, xs, ys, rfl, qx, qy, lx, ly, q⟩ := q1
  obtain ⟨u, v, rfl, ru, rv⟩ : ∃ u v, us = [u, v] ∧ RelV (.ref a) u ∧ RelV (.ref b) v := by
    cases r1 with
    | cons r rr => cases rr with
      | cons r' rr =>
        cases rr
        exact ⟨_, _, rfl, r, r'⟩
  cases ru
  cases rv
  obtain ⟨us, ru, p1, _⟩ := I1.list qx
  obtain ⟨ws, rw', p2', _⟩ := I1.list qy
  have nx := ru.length
  have ny := rw'.length
  refine call_zip_2 p1.isList p2'.isList fun h1 hz hTI hTO g1 g2 sz kp => args_nil ?_
  have z0 : ZH h1 s1.heap.objs.size a b us.toArray ws.toArray 0 := ⟨.inl hz, hTI, ⟨_, _, hTO⟩, g1, g2, p1.isList.at fun o e => kp _ _ e, p2'.isList.at fun o e => kp _ _ e⟩
  refine call_list_zip (s := { s1 with heap := h1 }) (I1.ok.hd hc) z0 hz sz p1.lt p2'.lt (by simp only [List.size_toArray]; exact Nat.le_trans (Nat.min_le_left _ _) (by rw [← nx]; exact sz1000 lx)) fun h' acc c as low hl la pr ha => ?_
  simp only [List.size_toArray, ← nx, ← ny] at la
  have keep : ∀ b u, s1.heap.get? b = some u → h'.get? b = some u := fun b u e => low b u (Heap.lt_size e) (kp b u e)
  have up : ∀ q ∈ as, s1.heap.get? q = none := fun q hq => Heap.get?_none_of_le (Nat.le_of_lt (Nat.lt_of_le_of_lt (Nat.le_add_right _ 5) (pr.up q hq)))
  have hp0 : s1.heap.get? (s1.heap.objs.size + 5) = none := Heap.get?_none_of_le (Nat.le_add_right _ 5)
  have pn : s1.heap.objs.size + 5 ∉ as := fun z => absurd (pr.up _ z) (Nat.lt_irrefl _)
  have hz2 : as.length = (xs.zip ys).length := by rw [la, List.length_zip]
  have upH : ∀ q ∈ as, H1 q = none := fun q hq => I1.hok.fresh (Nat.le_of_lt (Nat.lt_of_le_of_lt (Nat.le_add_right _ 5) (pr.up q hq)))
  have pH : H1 (s1.heap.objs.size + 5) = none := I1.hok.fresh (Nat.le_add_right _ 5)
  refine ⟨.ref (s1.heap.objs.size + 5), _, inv_laids (s := s1) (t := s1.toks) (pairsO as (xs.zip ys) ++ [(s1.heap.objs.size + 5, .lst (as.map .ref))]) I1 keep ?_ ?_ ?_ ?_, rfl, q as _ pr.nd la pn upH pH⟩
  · rw [List.map_append, pairsO_keys hz2]
    refine List.nodup_append.mpr ⟨pr.nd, by simp, fun x hx y hy z => ?_⟩
    have hy : y = s1.heap.objs.size + 5 := by simpa using hy
    rw [hy] at z
    exact pn (z ▸ hx)
  · intro q hq
    rcases List.mem_append.mp hq with hq | hq
    · obtain ⟨j, _, _, hj, _⟩ := pairsO_mem hq
      exact up _ (List.mem_of_getElem? hj)
    · have : q.1 = s1.heap.objs.size + 5 := by
        rw [List.mem_singleton.mp hq]
      rw [this]
      exact hp0
  · intro q hq
    rcases List.mem_append.mp hq with hq | hq
    · obtain ⟨j, _, _, hj, _⟩ := pairsO_mem hq
      exact upH _ (List.mem_of_getElem? hj)
    · have : q.1 = s1.heap.objs.size + 5 := by
        rw [List.mem_singleton.mp hq]
      rw [this]
      exact pH
  · intro q hq H' g' gk
    rcases List.mem_append.mp hq with hq | hq
    · obtain ⟨j, x, y, hj, hxy, eo⟩ := pairsO_mem hq
      rw [eo]
      rw [List.getElem?_zip_eq_some] at hxy
      obtain ⟨u, v, hu, hv, e⟩ := pr.at_ j _ hj
      obtain ⟨u', hu', r1'⟩ := ru.get hxy.1
      obtain ⟨v', hv', r2'⟩ := rw'.get hxy.2
      have e1 : u' = u := by
        have : us.toArray[j]? = some u' := by simpa using hu'
        rw [this] at hu
        exact Option.some.inj hu
      have e2 : v' = v := by
        have : ws.toArray[j]? = some v' := by simpa using hv'
        rw [this] at hv
        exact Option.some.inj hv
      subst e1 e2
      exact ⟨show 2 ≤ sizeLine by decide, [u', v'], .cons r1' (.cons r2' .nil), _, gk _ e, rfl, _, rfl⟩
    · have eq := List.mem_singleton.mp hq
      subst eq
      have va : ∀ as : List Addr, Vals (as.map V.ref) (as.map Value.ref) := fun as => by
        induction as with
        | nil => exact .nil
        | cons a as ih => exact .cons rfl ih
      refine ⟨by rw [List.length_map, la]; exact Nat.le_trans (Nat.min_le_left _ _) (sz1000 lx), as.map Value.ref, c, va as, ?_⟩
      have := gk _ hl
      rw [this]
      simp [← ha]
section
variable {K : PySem.W.Frag} {G0 H0 G H : Hp} {D : List Addr} {M : List (Addr × HO)} {Q : VK} {x y : V}
theorem Sta.imms : ∀ (os : List (Addr × HO)) {G H : Hp}, Sta K G0 H0 D G M H → (os.map (·.1)).Nodup → (∀ q ∈ os, H q.1 = none) → Sta K G0 H0 D (updL G os) M (updL H os) ∧ Same G (updL G os) ∧ ∀ q ∈ os, updL G os q.1 = some q.2
  | [], G, H, s, _, _ => ⟨s, Same.refl G, fun q h => absurd h List.not_mem_nil⟩
  | q :: os, G, H, s, nd, hn => by
    have nd' := List.nodup_cons.mp nd
    have h0 := hn q List.mem_cons_self
    have e1 : Same G (upd G q.1 q.2) := same_upd (s.gn h0)
    obtain ⟨s2, e2, at2⟩ := Sta.imms os (s.imm h0 q.2) nd'.2 fun p hp => by
      rw [upd_ne (fun e => nd'.1 (List.mem_map.mpr ⟨p, hp, e⟩))]
      exact hn p (List.mem_cons_of_mem _ hp)
    refine ⟨s2, e1.trans e2, fun p hp => ?_⟩
    rcases List.mem_cons.mp hp with rfl | hp
    · exact e2 _ _ upd_same
    · exact at2 p hp
theorem go_lz {α β : Type} {as : List α} {bs : List β} {Da : α → Dt} {Db : β → Dt} (hS : Sta K G0 H0 D G M H) (hx : Rp K G x (.lst (as.map Da))) (hy : Rp K G y (.lst (bs.map Db))) (la : as.length ≤ 1000) (lb : bs.length ≤ 1000)
    (k : ∀ p G1 H1, Same G G1 → Sta K G0 H0 D G1 M H1 → RpL K G1 p (List.zipWith (fun a b => Dt.tup [Da a, Db b]) as bs) → Q (.ref p) H1) : LZK K Q [x, y] H := by
  obtain ⟨a, xs, rfl, hs, hr⟩ := Rp.lst_inv hx
  obtain ⟨b, ys, rfl, hs', hr'⟩ := Rp.lst_inv hy
  have l1 := hr.length
  have l2 := hr'.length
  rw [List.length_map] at l1 l2
  refine ⟨a, b, xs, ys, rfl, hS.gh.seq hs, hS.gh.seq hs', by omega, by omega, fun ads p nd ln pn hn hp => ?_⟩
  have lz : ads.length = (xs.zip ys).length := by rw [ln, List.length_zip]
  obtain ⟨s2, e2, at2⟩ := Sta.imms (pairsO ads (xs.zip ys) ++ [(p, .lst (ads.map .ref))]) hS (by
    rw [List.map_append, pairsO_keys lz]
    refine List.nodup_append.mpr ⟨nd, by simp, fun u hu v hv z => ?_⟩
    have hv : v = p := by simpa using hv
    rw [hv] at z
    exact pn (z ▸ hu)) fun q hq => by
      rcases List.mem_append.mp hq with hq | hq
      · obtain ⟨j, _, _, hj, _⟩ := pairsO_mem hq
        exact hn _ (List.mem_of_getElem? hj)
      · rw [List.mem_singleton.mp hq]
        exact hp
  refine k p _ _ e2 s2 ⟨ads.map .ref, at2 (p, _) (List.mem_append_right _ (List.mem_singleton.mpr rfl)), RpAll.of_get (by rw [List.length_map, List.length_zipWith]; omega) fun j v d hv hd => ?_⟩
  rw [List.getElem?_map] at hv
  cases hj : ads[j]? with
  | none => rw [hj] at hv; cases hv
  | some q =>
    rw [hj] at hv
    cases hv
    have jl := (List.getElem?_eq_some_iff.mp hj).1
    rw [List.getElem?_zipWith, List.getElem?_eq_getElem (by omega), List.getElem?_eq_getElem (by omega)] at hd
    cases hd
    obtain ⟨u, hu, ru⟩ := hr.get (i := j) (d := Da (as[j]'(by omega))) (by rw [List.getElem?_map, List.getElem?_eq_getElem (by omega)]; rfl)
    obtain ⟨v, hv, rv⟩ := hr'.get (i := j) (d := Db (bs[j]'(by omega))) (by rw [List.getElem?_map, List.getElem?_eq_getElem (by omega)]; rfl)
    have m : (q, HO.tup [u, v]) ∈ pairsO ads (xs.zip ys) := List.mem_map.mpr ⟨(q, (u, v)), List.mem_of_getElem? (i := j) (by rw [List.getElem?_zip_eq_some]; exact ⟨hj, by rw [List.getElem?_zip_eq_some]; exact ⟨hu, hv⟩⟩), rfl⟩
    exact .tup (.inl (.inl (at2 (q, _) (List.mem_append_left _ m)))) (.cons (ru.up e2) (.cons (rv.up e2) .nil))
end
end B
namespace Bw
open PySem L2 B RZ
/-! ### the walk's own steps (local) -/
local macro_rules | `(tactic| walk_at "sm") => `(tactic| first
  | assumption
  | exact Same.refl _
  | (refine' Same.trans (H1 := ?m) ?g ?e; (case e => assumption); (case g => walk_at "sm")) | fail)
local macro_rules | `(tactic| walk_at "rp") => `(tactic| first
  | assumption
  | with_reducible exact Rp.int _
  | with_reducible exact Rp.bl _
  | with_reducible exact Rp.str _
  | with_reducible exact Rp.non
  | with_reducible exact RpAll.nil
  | ((with_reducible refine' RpAll.cons ?a ?b); (case a => walk_at "rp"); (case b => walk_at "rp"))
  | ((with_reducible refine' Rp.up (G := ?m) ?e ?g); (case e => assumption); (case g => walk_at "rp"))
  | ((with_reducible refine' RpAll.up (G := ?m) ?e ?g); (case e => assumption); (case g => walk_at "rp"))
  | ((with_reducible refine' Same.seq (H := ?m) ?e ?g); (case e => assumption); (case g => walk_at "rp"))
  | ((with_reducible refine' Same.t (H := ?m) ?e ?g); (case e => assumption); (case g => walk_at "rp")) | fail)
local macro_rules | `(tactic| walk_at "gh") => `(tactic| first | exact Sta.gh (by assumption) | walk_at "sm")
local macro_rules | `(tactic| walk_at "ar") => `(tactic| first | omega | decide | exact ⟨by omega, by omega⟩ | exact .inl ⟨by omega, by omega⟩ | exact .inr ⟨by omega, by omega⟩ | exact ⟨by omega, by omega, by omega, by omega⟩ | exact ⟨by omega, by omega, by decide⟩ | (show (0 : Int) < _; omega))
local macro_rules | `(tactic| walk_at "sc") => `(tactic| first | (obtain rfl := Rp.int_inv (by assumption)) | skip)
local macro_rules | `(tactic| walk_at "set") => `(tactic| ((try simp only [List.set_cons_zero, List.set_cons_succ]); try rfl))
local macro_rules | `(tactic| walk_at "val") => `(tactic| (intro v hv; first | (cases Rp.int_inv hv; clear hv) | (cases Rp.bl_inv hv; clear hv) | (cases Rp.non_inv hv; clear hv) | (cases Rp.str_inv hv; clear hv) | skip))
local macro_rules | `(tactic| walk_at "kit") => `(tactic| first | with_reducible exact kit_NoneType_tuple | with_reducible exact kit_NoneType_list | with_reducible exact kit_NoneType_bool | with_reducible exact kit_NoneType_int | with_reducible exact kit_NoneType_str | with_reducible exact kit_bool_tuple | with_reducible exact kit_bool_list | with_reducible exact kit_bool_bool | with_reducible exact kit_bool_int | with_reducible exact kit_bool_str | with_reducible exact kit_int_tuple | with_reducible exact kit_int_list | with_reducible exact kit_int_bool | with_reducible exact kit_int_int | with_reducible exact kit_int_str | with_reducible exact kit_str_tuple | with_reducible exact kit_str_list | with_reducible exact kit_str_bool | with_reducible exact kit_str_int | with_reducible exact kit_str_str | with_reducible exact kit_list_tuple | with_reducible exact kit_list_list | with_reducible exact kit_list_bool | with_reducible exact kit_list_int | with_reducible exact kit_list_str | with_reducible exact kit_tuple_tuple | with_reducible exact kit_tuple_list | with_reducible exact kit_tuple_bool | with_reducible exact kit_tuple_int | with_reducible exact kit_tuple_str)
local macro_rules | `(tactic| walk_at "mi") => `(tactic| first | (refine' mi0 ?_; exact rfl) | (refine' mi1 ?_; exact rfl) | (refine' mi2 ?_; exact rfl) | (refine' mi3 ?_; exact rfl))
local macro_rules | `(tactic| walk_at "mg") => `(tactic| first | (refine' Sta.get ?a ?b; (case a => assumption); (case b => walk_at "mi")) | fail)
local macro_rules | `(tactic| walk_at "s") => `(tactic| first
  | with_reducible refine' go_seq ?_
  | with_reducible refine' go_asg ?_
  | ((with_reducible refine' go_gname (σ' := ?s) ?e ?_); (case e => walk_at "set"))
  | ((with_reducible refine' go_σ (σ' := ?s) ?e ?_); (case e => walk_at "set"))
  | ((with_reducible refine' go_var (v := ?v) ?e ?_); (case e => exact rfl))
  | with_reducible refine' go_c ?_
  | with_reducible refine' go_op ?_
  | with_reducible refine' go_rI0 ?_
  | ((with_reducible refine' go_rI ?c ?_); (case c => walk_at "ar"))
  | with_reducible refine' go_un ?_
  | with_reducible refine' go_rU ?_
  | with_reducible refine' go_ret ?_
  | with_reducible refine' go_retN ?_
  | with_reducible refine' go_drop ?_
  | with_reducible refine' go_ifS ?_
  | with_reducible refine' go_tTest ?_
  | with_reducible refine' go_tB ?_
  | with_reducible refine' go_k ?_
  | with_reducible refine' go_kand ?_
  | with_reducible refine' go_tAnd ?_
  | with_reducible refine' go_tOr ?_
  | with_reducible refine' go_tNot ?_
  | with_reducible refine' go_tAndV ?_
  | with_reducible refine' go_tOrV ?_
  | with_reducible refine' go_tNotV ?_
  | with_reducible refine' go_tIf ?_
  | with_reducible refine' go_tYes ?_
  | with_reducible refine' go_eqI ?_
  | with_reducible refine' go_neI ?_
  | with_reducible refine' go_eqB ?_
  | with_reducible refine' go_neB ?_
  | with_reducible refine' go_eqS ?_
  | with_reducible refine' go_neS ?_
  | with_reducible refine' go_tIsN ?_
  | with_reducible refine' go_tNotN ?_
  | with_reducible refine' go_cons ?_
  | with_reducible refine' go_nil ?_
  | with_reducible refine' go_tCB ?_
  | with_reducible refine' go_call ?_
  | with_reducible refine' go_call0 ?_
  | with_reducible refine' go_chain ?_
  | with_reducible refine' go_next ?_
  | with_reducible refine' go_break ?_
  | with_reducible refine' go_cont ?_
  | with_reducible refine' go_par ?_
  | ((with_reducible refine' go_par2 (σ' := ?s) ?e ?_); (case e => walk_at "set"))
  | with_reducible refine' go_callN ?_
  | ((with_reducible refine' go_calln (ws := ?ws) ?a ?b ?e ?_); (case a => exact rfl); (case b => exact rfl); (case e => ((try simp only [List.cons_append, List.nil_append]); try rfl)))
  | with_reducible refine' go_bm0 ?_
  | with_reducible refine' go_abs ?_
  | ((with_reducible refine' go_isi (G := ?G) (d := ?d) (t := ?t) (b := ?b) ?hx ?e ?ht ?hn ?hb ?_); (case e => exact Sta.gh (by assumption)); (case hx => walk_at "rp"); (case ht => first | with_reducible exact tyD_int | with_reducible exact tyD_bl | with_reducible exact tyD_non | with_reducible exact tyD_str | with_reducible exact tyD_lst | with_reducible exact tyD_tup); (case hn => decide); (case hb => walk_at "kit"))
  | with_reducible refine' go_max ?_
  | with_reducible refine' go_min ?_
  | ((with_reducible refine' go_lenL (G := ?G) (ds := ?ds) ?hx ?e ?_); (case e => exact Sta.gh (by assumption)); (case hx => walk_at "rp"))
  | ((with_reducible refine' go_lenT (G := ?G) (ds := ?ds) ?hx ?e ?_); (case e => exact Sta.gh (by assumption)); (case hx => walk_at "rp"))
  | with_reducible refine' go_tup ?_
  | with_reducible refine' go_lst ?_
  | with_reducible refine' go_for ?_
  | with_reducible refine' go_iList ?_
  | ((with_reducible refine' go_itl (G := ?G) (ds := ?ds) ?hx ?e ?_); (case e => exact Sta.gh (by assumption)); (case hx => walk_at "rp"); (intro a xs ea hq hr; cases ea))
  | with_reducible refine' go_iRng1 ?_
  | with_reducible refine' go_iRng2 ?_
  | ((with_reducible refine' go_rng1 ?e ?_); (case e => walk_at "ar"))
  | ((with_reducible refine' go_rng2 ?e ?_); (case e => walk_at "ar"))
  | with_reducible refine' go_iteT ?_
  | with_reducible refine' go_iteF ?_
  | with_reducible refine' go_int ?_
  | with_reducible refine' go_intB ?_
  | ((with_reducible refine' go_ixA (G := ?G) (ds := ?ds) (d := ?d) ?hx ?e ?hi ?_); (case e => exact Sta.gh (by assumption)); (case hx => walk_at "rp"); (case hi => exact rfl); walk_at "val")
  | ((with_reducible refine' go_ixB (G := ?G) (ds := ?ds) (d := ?d) ?hx ?e ?hi ?_); (case e => exact Sta.gh (by assumption)); (case hx => walk_at "rp"); (case hi => exact rfl); walk_at "val")
  | ((with_reducible refine' go_ixM (xs := ?xs) (v := ?v) ?hp ?hi ?_); (case hp => walk_at "mg"); (case hi => exact rfl))
  | with_reducible refine' go_gsub ?_
  | with_reducible refine' go_bm ?_
  | with_reducible refine' go_fld ?_
  | ((with_reducible refine' go_bmL (xs := ?xs) ?hp ?_); (case hp => walk_at "mg"))
  | ((with_reducible refine' go_append (xs := ?xs) (i := ?i) (M' := ?M') ?hS ?hi ?hl ?hM ?_); (case hS => assumption); (case hi => walk_at "mi"); (case hl => first | omega | (simp; omega)); (case hM => walk_at "set"); (intro H1 hS1))
  | ((with_reducible refine' go_lenM (xs := ?xs) ?hp ?_); (case hp => walk_at "mg"))
  | ((with_reducible refine' go_iteX1 ?e ?_); (case e => first | exact rfl | exact decide_eq_true rfl))
  | ((with_reducible refine' go_iteX0 ?e ?_); (case e => first | exact rfl | exact congrArg Bool.not (decide_eq_true rfl)))
  | (with_reducible refine' go_ite (fun h => ?_) (fun h => ?_))
  | (with_reducible refine' go_iteN (fun h => ?_) (fun h => ?_)) | fail)
local macro_rules | `(tactic| walk_at "s") => `(tactic| first | ((with_reducible refine' go_newT (ds := ?ds) ?hS ?hx ?hl ?_); (case hS => assumption); (case hx => walk_at "rp"); (case hl => exact sz (by simp)); (intro p G1 H1 e1 hS1 hr1)) | fail)
local macro_rules | `(tactic| walk_at "nl") => `(tactic| first | ((with_reducible refine' go_newL (ds := ?ds) ?hS ?hx ?hl ?_); (case hS => assumption); (case hx => walk_at "rp"); (case hl => exact sz (by simp)); (intro p G1 H1 e1 hS1 hr1)) | fail)
local macro_rules | `(tactic| walk_at "go") => `(tactic| repeat' walk_at "s")
local macro_rules | `(tactic| walk_at "to") => `(tactic| repeat ((fail_if_success with_reducible refine' go_seq ?_); walk_at "s"))
local macro_rules | `(tactic| walk_at "set") => `(tactic| ((try simp only [wipe, List.set_cons_zero, List.set_cons_succ]); try rfl))
local macro_rules | `(tactic| walk_at "s") => `(tactic| first
  | with_reducible refine' go_lc ?_
  | ((with_reducible refine' go_wipe ?e ?_); (case e => rfl))
  | with_reducible refine' go_sl ?_
  | with_reducible refine' go_noPart ?_
  | with_reducible refine' go_part ?_
  | with_reducible refine' go_ptk ?_
  | with_reducible refine' go_orT ?_
  | with_reducible refine' go_ckw ?_
  | with_reducible refine' go_otk_non ?_
  | ((with_reducible refine' go_tupL (ds := ?ds) ?hS ?hx ?_); (case hS => assumption); (case hx => walk_at "rp"); (intro p G1 H1 e1 hS1 hr1))
  | ((with_reducible refine' go_listL (ds := ?ds) ?hS ?hx ?_); (case hS => assumption); (case hx => walk_at "rp"); (intro p G1 H1 e1 hS1 hr1)) | fail)
local macro_rules | `(tactic| walk_at "set") => `(tactic| ((try simp only [wipe, List.set_cons_zero, List.set_cons_succ]); try rfl))
local macro_rules | `(tactic| walk_at "s") => `(tactic| first
  | with_reducible refine' go_lc ?_
  | ((with_reducible refine' go_wipe ?e ?_); (case e => rfl))
  | ((with_reducible refine' go_tupL (ds := ?ds) ?hS ?hx ?_); (case hS => assumption); (case hx => walk_at "rp"); (intro p G1 H1 e1 hS1 hr1))
  | ((with_reducible refine' go_listL (ds := ?ds) ?hS ?hx ?_); (case hS => assumption); (case hx => walk_at "rp"); (intro p G1 H1 e1 hS1 hr1))
  | ((with_reducible refine' go_tupT (ds := ?ds) ?hS ?hx ?_); (case hS => assumption); (case hx => walk_at "rp"); (intro p G1 H1 e1 hS1 hr1))
  | ((with_reducible refine' go_listT (ds := ?ds) ?hS ?hx ?_); (case hS => assumption); (case hx => walk_at "rp"); (intro p G1 H1 e1 hS1 hr1))
  | with_reducible refine' go_iTup ?_
  | ((with_reducible refine' go_itt (G := ?G) (ds := ?ds) ?hx ?e ?_); (case e => exact Sta.gh (by assumption)); (case hx => walk_at "rp"); (intro a xs ea hq hr; cases ea))
  | with_reducible refine' go_makeS ?_
  | with_reducible refine' go_iZipA ?_
  | ((with_reducible refine' go_ztk (G := ?G) (ds := ?ds) (fs := ?fs) ?hx ?hy ?e ?_); (case e => exact Sta.gh (by assumption)); (case hx => walk_at "rp"); (case hy => walk_at "rp"); (intro a b xs ys ea eb hqa hra hqb hrb; cases ea; cases eb))
  | with_reducible refine' go_callS ?_
  | with_reducible refine' go_sFld ?_
  | ((with_reducible refine' go_sfk (i := ?i) (M' := ?M') ?hS ?hi ?cl ?na ?hl ?hM ?_); (case hS => assumption); (case hi => walk_at "mi"); (case cl => assumption); (case na => assumption); (case hl => first | decide | exact putF2 | (simp [putF])); (case hM => walk_at "set"); (intro H1 hS1))
  | with_reducible refine' go_prop ?_
  | with_reducible refine' go_metS ?_
  | with_reducible refine' go_opS ?_
  | with_reducible refine' go_stat ?_
  | with_reducible refine' go_stk ?_
  | ((with_reducible refine' go_fldR (G := ?G) (fds := ?fds) (d := ?d) ?hx ?e ?cl ?na ?hi ?_); (case e => exact Sta.gh (by assumption)); (case hx => walk_at "rp"); (case cl => assumption); (case na => assumption); (case hi => exact rfl); walk_at "val") | fail)
local macro_rules | `(tactic| walk_at "s") => `(tactic| first
  | with_reducible refine' go_iRngO ?_
  | ((with_reducible refine' go_rangeV ?hS ?_); (case hS => assumption); (intro p G1 H1 e1 hS1 hp1))
  | with_reducible refine' go_iEnumA ?_ | fail)
local macro_rules | `(tactic| walk_at "s") => `(tactic| first
  | with_reducible refine' go_dget2 ?_
  | with_reducible refine' go_dput2 ?_
  | ((with_reducible refine' go_dnewT ?hS ?_); (case hS => assumption); (intro p H1 p0 g0 hS1)) | fail)
local macro_rules | `(tactic| walk_at "s") => `(tactic| first
  | with_reducible refine' go_tSoL ?_
  | with_reducible refine' go_tRev ?_
  | ((with_reducible refine' go_revL (ds := ?ds) ?hS ?hx ?_); (case hS => assumption); (case hx => walk_at "rp"); (intro p G1 H1 e1 hS1 hr1)) | fail)
local macro_rules | `(tactic| walk_at "s") => `(tactic| first
  | with_reducible refine' go_callNS ?_ | fail)
local macro_rules | `(tactic| walk_at "s") => `(tactic| first
  | ((with_reducible refine' go_npair (σ' := ?s) ?hS ?e ?_); (case hS => assumption); (case e => walk_at "set"); (intro G1 H1 e1 hS1))
  | with_reducible refine' go_iK ?_
  | ((with_reducible refine' go_itK (G := ?G) (ds := ?ds) ?hx ?e ?_); (case e => exact Sta.gh (by assumption)); (case hx => walk_at "rp"); (intro a xs ea hq hr; cases ea))
  | ((with_reducible refine' go_lenK (G := ?G) (k := ?k) (ds := ?ds) ?hx ?e ?_); (case e => exact Sta.gh (by assumption)); (case hx => walk_at "rp"))
  | ((with_reducible refine' go_rev (i := ?i) (M' := ?M') ?hS ?hi ?hM ?_); (case hS => assumption); (case hi => walk_at "mi"); (case hM => walk_at "set"); (intro H1 hS1)) | fail)
local macro_rules | `(tactic| walk_at "s") => `(tactic| first
  | with_reducible refine' go_isB ?_
  | with_reducible refine' go_eqNI ?_
  | with_reducible refine' go_eqIN ?_
  | with_reducible refine' go_eqNN ?_
  | with_reducible refine' go_isntB ?_ | fail)
local macro_rules | `(tactic| walk_at "s") => `(tactic| first | with_reducible refine' go_tSi ?_ | fail)
local macro_rules | `(tactic| walk_at "s") => `(tactic| first | with_reducible refine' go_tLZ ?_ | fail)
def topS (i : Nat) : Stmt := PySem.Challenge.pw_barswoven_k30_pairs_by_deaths_and_births.main.body.getD i (.Pass ⟨0, 0, 0, 0⟩)
abbrev s_never : Stmt := topS 1
theorem sc_never : FnScope ["bars", "place", "bar"] ["bars"] (defScope s_never) := ⟨rfl, rfl, rfl, by decide +kernel, rfl, by decide +kernel, by decide +kernel⟩
abbrev s_by_deaths : Stmt := topS 2
theorem sc_by_deaths : FnScope ["part", "whole", "lag", "pairs", "death", "ours", "theirs", "bar", "place"] ["part", "whole", "lag"] (defScope s_by_deaths) := ⟨rfl, rfl, rfl, by decide +kernel, rfl, by decide +kernel, by decide +kernel⟩
abbrev s_eldest : Stmt := topS 3
theorem sc_eldest : FnScope ["bars", "places"] ["bars", "places"] (defScope s_eldest) := ⟨rfl, rfl, rfl, by decide +kernel, rfl, by decide +kernel, by decide +kernel⟩
abbrev s_by_births : Stmt := topS 4
theorem sc_by_births : FnScope ["whole", "made", "pairs", "birth", "ours", "theirs", "bar", "place"] ["whole", "made"] (defScope s_by_births) := ⟨rfl, rfl, rfl, by decide +kernel, rfl, by decide +kernel, by decide +kernel⟩
abbrev s_longest : Stmt := topS 5
theorem sc_longest : FnScope ["bars", "places", "rest", "place"] ["bars", "places"] (defScope s_longest) := ⟨rfl, rfl, rfl, by decide +kernel, rfl, by decide +kernel, by decide +kernel⟩
abbrev s_law_cell : Stmt := topS 7
theorem sc_law_cell : FnScope ["script", "k"] ["script", "k"] (defScope s_law_cell) := ⟨rfl, rfl, rfl, by decide +kernel, rfl, by decide +kernel, by decide +kernel⟩
abbrev s_law_draws : Stmt := topS 8
theorem sc_law_draws : FnScope ["cell", "row", "rest", "mixed", "is_great", "k"] ["cell"] (defScope s_law_draws) := ⟨rfl, rfl, rfl, by decide +kernel, rfl, by decide +kernel, by decide +kernel⟩
abbrev s_law_next : Stmt := topS 9
theorem sc_law_next : FnScope ["draws", "many", "row", "at"] ["draws", "many"] (defScope s_law_next) := ⟨rfl, rfl, rfl, by decide +kernel, rfl, by decide +kernel, by decide +kernel⟩
abbrev s_law_same : Stmt := topS 10
theorem sc_law_same : FnScope ["actual", "expected", "k"] ["actual", "expected"] (defScope s_law_same) := ⟨rfl, rfl, rfl, by decide +kernel, rfl, by decide +kernel, by decide +kernel⟩
abbrev s_law_bar : Stmt := topS 11
theorem sc_law_bar : FnScope ["draws", "last", "birth", "death"] ["draws", "last"] (defScope s_law_bar) := ⟨rfl, rfl, rfl, by decide +kernel, rfl, by decide +kernel, by decide +kernel⟩
abbrev s_law_elder : Stmt := topS 12
theorem sc_law_elder : FnScope ["bars", "one", "other"] ["bars", "one", "other"] (defScope s_law_elder) := ⟨rfl, rfl, rfl, by decide +kernel, rfl, by decide +kernel, by decide +kernel⟩
abbrev s_law_longer : Stmt := topS 13
theorem sc_law_longer : FnScope ["bars", "one", "other"] ["bars", "one", "other"] (defScope s_law_longer) := ⟨rfl, rfl, rfl, by decide +kernel, rfl, by decide +kernel, by decide +kernel⟩
abbrev s_law_due_deaths : Stmt := topS 14
theorem sc_law_due_deaths : FnScope ["part", "whole", "lag", "pairs", "one", "death", "ahead", "other", "before", "k"] ["part", "whole", "lag"] (defScope s_law_due_deaths) := ⟨rfl, rfl, rfl, by decide +kernel, rfl, by decide +kernel, by decide +kernel⟩
abbrev s_law_due_births : Stmt := topS 15
theorem sc_law_due_births : FnScope ["whole", "made", "pairs", "one", "ahead", "other", "before", "k"] ["whole", "made"] (defScope s_law_due_births) := ⟨rfl, rfl, rfl, by decide +kernel, rfl, by decide +kernel, by decide +kernel⟩
abbrev s_law_lot : Stmt := topS 16
theorem sc_law_lot : FnScope ["draws", "bars", "k"] ["draws"] (defScope s_law_lot) := ⟨rfl, rfl, rfl, by decide +kernel, rfl, by decide +kernel, by decide +kernel⟩
abbrev s_law : Stmt := topS 17
theorem sc_law : FnScope ["script", "draws", "first", "second", "handed", "lag", "told"] ["script"] (defScope s_law) := ⟨rfl, rfl, rfl, by decide +kernel, rfl, by decide +kernel, by decide +kernel⟩
structure Ad where
  f_never : Addr
  d_never : FuncData
  f_by_deaths : Addr
  d_by_deaths : FuncData
  f_eldest : Addr
  d_eldest : FuncData
  f_by_births : Addr
  d_by_births : FuncData
  f_longest : Addr
  d_longest : FuncData
  f_law_cell : Addr
  d_law_cell : FuncData
  f_law_draws : Addr
  d_law_draws : FuncData
  f_law_next : Addr
  d_law_next : FuncData
  f_law_same : Addr
  d_law_same : FuncData
  f_law_bar : Addr
  d_law_bar : FuncData
  f_law_elder : Addr
  d_law_elder : FuncData
  f_law_longer : Addr
  d_law_longer : FuncData
  f_law_due_deaths : Addr
  d_law_due_deaths : FuncData
  f_law_due_births : Addr
  d_law_due_births : FuncData
  f_law_lot : Addr
  d_law_lot : FuncData
  f_law : Addr
  d_law : FuncData
  c_eldest : Addr
  p_eldest : Addr
  c_longest : Addr
  p_longest : Addr
def lq_eldest : Str := (("eldest" : Str) ++ ".<locals>.") ++ "<lambda>"
def lq_longest : Str := (("longest" : Str) ++ ".<locals>.") ++ "<lambda>"
structure Tbs (base : Heap) (mg : Str → Option Value) (A : Ad) : Prop where
  tb_eldest : LamX.TabB base mg A.c_eldest A.p_eldest
  tb_longest : LamX.TabB base mg A.c_longest A.p_longest
def Ad.tabs (A : Ad) : List (Addr × Addr) := [(A.c_eldest, A.p_eldest), (A.c_longest, A.p_longest)]
structure Txt (K : PySem.W.Frag) (mg : Str → Option Value) (A : Ad) : Prop where
  F_never : Fun K "never" "never" s_never A.f_never A.d_never
  m_never : mg "never" = some (.ref A.f_never)
  b_never : Binds K A.d_never ["bars"] []
  F_by_deaths : Fun K "by_deaths" "by_deaths" s_by_deaths A.f_by_deaths A.d_by_deaths
  m_by_deaths : mg "by_deaths" = some (.ref A.f_by_deaths)
  kd_by_deaths : ∃ ds, Vals [.int 0] ds ∧ Binds K A.d_by_deaths ["part", "whole", "lag"] ds
  k2_by_deaths : KBn K A.d_by_deaths ["part", "whole", "lag"] 2 ["lag"] (fun a b => a ++ b) (fun a b => a ++ b)
  F_eldest : Fun K "eldest" "eldest" s_eldest A.f_eldest A.d_eldest
  FC_eldest : FunC K "eldest" "eldest" s_eldest A.f_eldest A.d_eldest A.c_eldest
  m_eldest : mg "eldest" = some (.ref A.f_eldest)
  b_eldest : Binds K A.d_eldest ["bars", "places"] []
  F_by_births : Fun K "by_births" "by_births" s_by_births A.f_by_births A.d_by_births
  m_by_births : mg "by_births" = some (.ref A.f_by_births)
  b_by_births : Binds K A.d_by_births ["whole", "made"] []
  F_longest : Fun K "longest" "longest" s_longest A.f_longest A.d_longest
  FC_longest : FunC K "longest" "longest" s_longest A.f_longest A.d_longest A.c_longest
  m_longest : mg "longest" = some (.ref A.f_longest)
  b_longest : Binds K A.d_longest ["bars", "places"] []
  F_law_cell : Fun K "_law_cell" "_law_cell" s_law_cell A.f_law_cell A.d_law_cell
  m_law_cell : mg "_law_cell" = some (.ref A.f_law_cell)
  b_law_cell : Binds K A.d_law_cell ["script", "k"] []
  F_law_draws : Fun K "_law_draws" "_law_draws" s_law_draws A.f_law_draws A.d_law_draws
  m_law_draws : mg "_law_draws" = some (.ref A.f_law_draws)
  b_law_draws : Binds K A.d_law_draws ["cell"] []
  F_law_next : Fun K "_law_next" "_law_next" s_law_next A.f_law_next A.d_law_next
  m_law_next : mg "_law_next" = some (.ref A.f_law_next)
  b_law_next : Binds K A.d_law_next ["draws", "many"] []
  F_law_same : Fun K "_law_same" "_law_same" s_law_same A.f_law_same A.d_law_same
  m_law_same : mg "_law_same" = some (.ref A.f_law_same)
  b_law_same : Binds K A.d_law_same ["actual", "expected"] []
  F_law_bar : Fun K "_law_bar" "_law_bar" s_law_bar A.f_law_bar A.d_law_bar
  m_law_bar : mg "_law_bar" = some (.ref A.f_law_bar)
  b_law_bar : Binds K A.d_law_bar ["draws", "last"] []
  F_law_elder : Fun K "_law_elder" "_law_elder" s_law_elder A.f_law_elder A.d_law_elder
  m_law_elder : mg "_law_elder" = some (.ref A.f_law_elder)
  b_law_elder : Binds K A.d_law_elder ["bars", "one", "other"] []
  F_law_longer : Fun K "_law_longer" "_law_longer" s_law_longer A.f_law_longer A.d_law_longer
  m_law_longer : mg "_law_longer" = some (.ref A.f_law_longer)
  b_law_longer : Binds K A.d_law_longer ["bars", "one", "other"] []
  F_law_due_deaths : Fun K "_law_due_deaths" "_law_due_deaths" s_law_due_deaths A.f_law_due_deaths A.d_law_due_deaths
  m_law_due_deaths : mg "_law_due_deaths" = some (.ref A.f_law_due_deaths)
  b_law_due_deaths : Binds K A.d_law_due_deaths ["part", "whole", "lag"] []
  F_law_due_births : Fun K "_law_due_births" "_law_due_births" s_law_due_births A.f_law_due_births A.d_law_due_births
  m_law_due_births : mg "_law_due_births" = some (.ref A.f_law_due_births)
  b_law_due_births : Binds K A.d_law_due_births ["whole", "made"] []
  F_law_lot : Fun K "_law_lot" "_law_lot" s_law_lot A.f_law_lot A.d_law_lot
  m_law_lot : mg "_law_lot" = some (.ref A.f_law_lot)
  b_law_lot : Binds K A.d_law_lot ["draws"] []
  F_law : Fun K "law" "law" s_law A.f_law A.d_law
  m_law : mg "law" = some (.ref A.f_law)
  b_law : Binds K A.d_law ["script"] []
  ne_eldest_longest : A.p_eldest ≠ A.p_longest
  z_abs : mg "abs" = none
  z_bool : mg "bool" = none
  z_enumerate : mg "enumerate" = none
  z_int : mg "int" = none
  z_isinstance : mg "isinstance" = none
  z_len : mg "len" = none
  z_list : mg "list" = none
  z_place : mg "place" = none
  z_range : mg "range" = none
  z_sorted : mg "sorted" = none
  z_str : mg "str" = none
  z_tuple : mg "tuple" = none
  z_zip : mg "zip" = none
section
variable {P : Program} {w : World} {K : PySem.W.Frag} {mg : Str → Option Value} {base : Heap} {A : Ad}
/-! ### the law's readers: a cell; a draw -/
def spCell (K : PySem.W.Frag) : Sp := fun vs H Q _ => ∃ (l : Addr) (ns : List Int) (k : Int), vs = [.ref l, .int k] ∧ SqL K H l (ns.map V.int) ∧ 0 ≤ k ∧ ∀ v : Int, Q (.int v) H
theorem ok_law_cell (T : Txt K mg A) : FnOk P w K mg base CX0 1 A.f_law_cell A.d_law_cell ["script", "k"] (spCell K) := by
  refine T.F_law_cell.ok sc_law_cell (fun vs H Q E h => by first | (obtain ⟨rfl, _⟩ := h; rfl) | (obtain ⟨_, rfl, _⟩ := h; rfl) | (obtain ⟨_, _, rfl, _⟩ := h; rfl) | (obtain ⟨_, _, _, rfl, _⟩ := h; rfl) | (obtain ⟨_, _, _, _, rfl, _⟩ := h; rfl) | (obtain ⟨_, _, _, _, _, rfl, _⟩ := h; rfl) | (obtain ⟨_, _, _, _, _, _, rfl, _⟩ := h; rfl) | (obtain ⟨_, _, _, _, _, _, _, rfl, _⟩ := h; rfl) | (obtain ⟨_, _, _, _, _, _, _, _, rfl, _⟩ := h; rfl) | (obtain ⟨_, _, _, _, _, _, _, _, _, rfl, _⟩ := h; rfl) | (obtain ⟨_, _, _, _, _, _, _, _, _, _, rfl, _⟩ := h; rfl) | (obtain ⟨_, _, _, _, _, _, _, _, _, _, _, rfl, _⟩ := h; rfl) | (obtain ⟨_, _, _, _, _, _, _, _, _, _, _, _, rfl, _⟩ := h; rfl) | (obtain ⟨_, _, _, _, _, _, _, _, _, _, _, _, _, rfl, _⟩ := h; rfl) | exact wk_len h) (fun cdv AA outer s H vs Q E hr h => ?_)
  obtain ⟨l, ns, k, rfl, hS, h0, q⟩ := h
  refine ⟨_, (pss_cons (ps_if (pt_cmpR op_lt (pv 1) (pe_callB (id := "len") b_len (by rfl) T.z_len (by decide +kernel) (pa_cons (pv 0) pa_nil)) (nomark _)) (pss_one (ps_ret (pe_ix ix_seq (pv 0) (pv 1) (fun _ _ => rfl)))) pss_nil)
      (pss_one (ps_ret pe_int))), ?_⟩
  try dsimp only [cxOf, Cx.nox, Cx.wish, Cx.blk]
  refine ⟨_, rfl, _, rfl, l, _, rfl, .inl hS, k, _, rfl, rfl, _, rfl, ite2 (fun e => ?_) (fun e => ?_)⟩
  · have e1 : k < ((ns.map V.int).length : Int) := of_decide_eq_true e
    rw [List.length_map] at e1
    have hk : k.toNat < ns.length := by omega
    refine ⟨_, rfl, _, rfl, .inl ⟨l, _, k, .int ns[k.toNat], rfl, rfl, hS, at_of (j := k.toNat) (by omega) (by rw [List.getElem?_map, List.getElem?_eq_getElem hk]; rfl), q _⟩⟩
  · exact q 0
theorem go_cell {G0 H0 G H : Hp} {D : List Addr} {M : List (Addr × HO)} {Q : VK} {E : XK} {l : Addr} {ns : List Int} {k : Int} (hS : Sta K G0 H0 D G M H) (hl : Rp K G (.ref l) (.lst (ns.map .int))) (h0 : 0 ≤ k) (q : ∀ v : Int, Q (.int v) H) : spCell K [.ref l, .int k] H Q E := by
  obtain ⟨a, xs, e, hs, ha⟩ := Rp.lst_inv hl
  cases e
  rw [RpAll.ints_inv ha] at hs
  exact ⟨l, ns, k, rfl, hS.gh.seq hs, h0, q⟩
def spNext (K : PySem.W.Frag) : Sp := fun vs H Q _ => ∃ (a r : Addr) (at_ many : Int), vs = [.ref a, .int many] ∧ H a = some (drw r at_) ∧ RowOk K H r ∧ 0 ≤ at_ ∧ at_ ≤ 1000000000 ∧ 0 < many ∧ ∀ v, 0 ≤ v → v < many → Q (.int v) (upd H a (drw r (at_ + 1)))
theorem ok_law_next (T : Txt K mg A) : FnOk P w K mg base CX0 1 A.f_law_next A.d_law_next ["draws", "many"] (spNext K) := by
  refine T.F_law_next.ok sc_law_next (fun vs H Q E h => by first | (obtain ⟨rfl, _⟩ := h; rfl) | (obtain ⟨_, rfl, _⟩ := h; rfl) | (obtain ⟨_, _, rfl, _⟩ := h; rfl) | (obtain ⟨_, _, _, rfl, _⟩ := h; rfl) | (obtain ⟨_, _, _, _, rfl, _⟩ := h; rfl) | (obtain ⟨_, _, _, _, _, rfl, _⟩ := h; rfl) | (obtain ⟨_, _, _, _, _, _, rfl, _⟩ := h; rfl) | (obtain ⟨_, _, _, _, _, _, _, rfl, _⟩ := h; rfl) | (obtain ⟨_, _, _, _, _, _, _, _, rfl, _⟩ := h; rfl) | (obtain ⟨_, _, _, _, _, _, _, _, _, rfl, _⟩ := h; rfl) | (obtain ⟨_, _, _, _, _, _, _, _, _, _, rfl, _⟩ := h; rfl) | (obtain ⟨_, _, _, _, _, _, _, _, _, _, _, rfl, _⟩ := h; rfl) | (obtain ⟨_, _, _, _, _, _, _, _, _, _, _, _, rfl, _⟩ := h; rfl) | (obtain ⟨_, _, _, _, _, _, _, _, _, _, _, _, _, rfl, _⟩ := h; rfl) | exact wk_len h) (fun cdv AA outer s H vs Q E hr h => ?_)
  obtain ⟨a, r, at_, many, rfl, hA, ⟨xs, hR, hx⟩, h0, h1, hm, q⟩ := h
  refine ⟨_, (pss_cons (ps_set (i := 2) sc_law_next.nd rfl (by first | exact Or.inl rfl | exact Or.inr rfl) (pe_ix ix_seq (pv 0) pe_int (fun _ _ => rfl)))
      (pss_cons (ps_set (i := 3) sc_law_next.nd rfl (by first | exact Or.inl rfl | exact Or.inr rfl) (pe_ix ix_seq (pv 0) pe_int (fun _ _ => rfl)))
      (pss_cons (ps_asg (pe_op op_add (pv 3) pe_int) (pg_sub (pv 0) pe_int set_list))
      (pss_cons (ps_if (pt_cmpR op_lt (pv 3) (pe_callB (id := "len") b_len (by rfl) T.z_len (by decide +kernel) (pa_cons (pv 2) pa_nil)) (nomark _)) (pss_one (ps_ret (pe_op op_mod (pe_callTy (T := "int") b_int (by rfl) T.z_int (by decide +kernel) (pa_cons (pe_ix ix_seq (pv 2) (pv 3) (fun _ _ => rfl)) pa_nil)) (pv 1)))) pss_nil)
      (pss_one (ps_ret (pe_op op_mod (pe_callTy (T := "int") b_int (by rfl) T.z_int (by decide +kernel) (pa_cons (pe_op op_add (pe_op op_mul (pe_op op_mul (pv 3) (pv 3)) pe_int) (pv 3)) pa_nil)) (pv 1)))))))), ?_⟩
  try dsimp only [cxOf, Cx.nox, Cx.wish, Cx.blk]
  have hrow : ∀ H', H' = upd H a (drw r (at_ + 1)) → SqL K H' r (xs.map V.int) := fun H' e => by
    subst e
    rcases hR with (z | ⟨o, z⟩) | z
    · have : r ≠ a := fun e => by
        subst e
        rw [hA] at z
        cases xs with
        | nil => cases z
        | cons y ys => cases z
      exact .inl (.inl (by rw [upd_ne this]; exact z))
    · have : r ≠ a := fun e => by
        subst e
        rw [hA] at z
        cases z
      exact .inl (.inr ⟨o, by rw [upd_ne this]; exact z⟩)
    · exact .inr z
  refine ⟨_, rfl, .inl ⟨a, _, _, _, rfl, rfl, SqL.of hA, rfl, ?_⟩⟩
  refine ⟨_, rfl, .inl ⟨a, _, _, _, rfl, rfl, SqL.of hA, rfl, ?_⟩⟩
  refine ⟨_, rfl, _, _, rfl, rfl, _, rfl, a, _, _, _, rfl, rfl, hA, rfl, ?_⟩
  refine ⟨_, rfl, _, rfl, r, _, rfl, .inl (hrow _ rfl), _, _, rfl, rfl, _, rfl, ite2 (fun e => ?_) (fun e => ?_)⟩
  · have e1 : at_ < ((xs.map V.int).length : Int) := of_decide_eq_true e
    rw [List.length_map] at e1
    have hk : at_.toNat < xs.length := by omega
    refine ⟨_, rfl, _, rfl, .inl ⟨r, _, at_, .int xs[at_.toNat], rfl, rfl, hrow _ rfl, at_of (j := at_.toNat) (by omega) (by rw [List.getElem?_map, List.getElem?_eq_getElem hk]; rfl), .inl ⟨_, rfl, ?_⟩⟩⟩
    exact ⟨_, rfl, _, _, rfl, rfl, hm, q _ (Int.emod_nonneg _ (by omega)) (Int.emod_lt_of_pos _ hm)⟩
  · refine ⟨_, rfl, _, rfl, at_, at_, rfl, rfl, .inl ⟨by omega, by omega⟩, at_ * at_, 7, rfl, rfl, .inr ⟨by omega, by omega⟩, _, rfl, _, _, rfl, rfl, .inl ⟨_, rfl, _, rfl, _, _, rfl, rfl, hm, ?_⟩⟩
    exact q _ (Int.emod_nonneg _ (by omega)) (Int.emod_lt_of_pos _ hm)
theorem go_next_ {G0 H0 G H : Hp} {D : List Addr} {M M' : List (Addr × HO)} {Q : VK} {E : XK} {a r : Addr} {at_ many : Int} {i : Nat} (hS : Sta K G0 H0 D G M H) (hi : M[i]? = some (a, drw r at_)) (hr : RowOk K G r) (h0 : 0 ≤ at_) (h1 : at_ ≤ 1000000000) (hm : 0 < many)
    (hM : M.set i (a, drw r (at_ + 1)) = M') (q : ∀ v H1, 0 ≤ v → v < many → Sta K G0 H0 D G M' H1 → Q (.int v) H1) : spNext K [.ref a, .int many] H Q E := by
  subst hM
  exact ⟨a, r, at_, many, rfl, hS.get hi, hr.up hS.gh, h0, h1, hm, fun v h2 h3 => q v _ h2 h3 (hS.set hi _)⟩
/-! ### the row of draws -/
def spDraws (K : PySem.W.Frag) : Sp := fun vs H Q _ => ∃ (c : Int) (G : Hp), vs = [.int c] ∧ Same G H ∧ ∀ a r G' H', Adv [] G H G' H' → H a = none → H' a = some (drw r 0) → G' a = none → RowOk K G' r → Q (.ref a) H'
theorem ok_law_draws (T : Txt K mg A) : FnOk P w K mg base CX0 1 A.f_law_draws A.d_law_draws ["cell"] (spDraws K) := by
  refine T.F_law_draws.ok sc_law_draws (fun vs H Q E h => by first | (obtain ⟨rfl, _⟩ := h; rfl) | (obtain ⟨_, rfl, _⟩ := h; rfl) | (obtain ⟨_, _, rfl, _⟩ := h; rfl) | (obtain ⟨_, _, _, rfl, _⟩ := h; rfl) | (obtain ⟨_, _, _, _, rfl, _⟩ := h; rfl) | (obtain ⟨_, _, _, _, _, rfl, _⟩ := h; rfl) | (obtain ⟨_, _, _, _, _, _, rfl, _⟩ := h; rfl) | (obtain ⟨_, _, _, _, _, _, _, rfl, _⟩ := h; rfl) | (obtain ⟨_, _, _, _, _, _, _, _, rfl, _⟩ := h; rfl) | (obtain ⟨_, _, _, _, _, _, _, _, _, rfl, _⟩ := h; rfl) | (obtain ⟨_, _, _, _, _, _, _, _, _, _, rfl, _⟩ := h; rfl) | (obtain ⟨_, _, _, _, _, _, _, _, _, _, _, rfl, _⟩ := h; rfl) | (obtain ⟨_, _, _, _, _, _, _, _, _, _, _, _, rfl, _⟩ := h; rfl) | (obtain ⟨_, _, _, _, _, _, _, _, _, _, _, _, _, rfl, _⟩ := h; rfl) | exact wk_len h) (fun cdv AA outer s H vs Q E hr h => ?_)
  obtain ⟨c, G, rfl, hG, q⟩ := h
  refine ⟨_, (pss_cons (ps_set (i := 1) sc_law_draws.nd rfl (by first | exact Or.inl rfl | exact Or.inr rfl) (pe_lst pa_nil))
      (pss_cons (ps_set (i := 2) sc_law_draws.nd rfl (by first | exact Or.inl rfl | exact Or.inr rfl) (pe_callB (id := "abs") b_abs (by rfl) T.z_abs (by decide +kernel) (pa_cons (pv 0) pa_nil)))
      (pss_cons (ps_set (i := 3) sc_law_draws.nd rfl (by first | exact Or.inl rfl | exact Or.inr rfl) (pe_op op_mod (pe_callTy (T := "int") b_int (by rfl) T.z_int (by decide +kernel) (pa_cons (pv 2) pa_nil)) pe_int))
      (pss_cons (ps_set (i := 4) sc_law_draws.nd rfl (by first | exact Or.inl rfl | exact Or.inr rfl) (pe_cmpR op_ge (pv 2) (pe_op op_pow pe_int pe_int) (nomark _)))
      (pss_cons (ps_for PassesOwn.never rfl (pi_range1 (by rfl) T.z_range (pa_cons pe_int pa_nil)) (pg_name (i := 5) sc_law_draws.nd rfl (by first | exact Or.inl rfl | exact Or.inr rfl)) (pss_one (ps_if (PW.pt (pw_and (pt_val (pv 4)) (pw_and1 (pt_cmpR op_gt (pv 2) pe_int (nomark _))))) (pss_cons (ps_expr (pe_bm PySem.F.plainAttrs_list PySem.F.slot_list_append PySem.F.type_list_append mt_append (pv 1) (pa_cons (pe_op op_mod (pe_callTy (T := "int") b_int (by rfl) T.z_int (by decide +kernel) (pa_cons (pv 2) pa_nil)) pe_int) pa_nil)))
      (pss_one (ps_set (i := 2) sc_law_draws.nd rfl (by first | exact Or.inl rfl | exact Or.inr rfl) (pe_op op_fdiv (pv 2) pe_int)))) (pss_cons (ps_set (i := 3) sc_law_draws.nd rfl (by first | exact Or.inl rfl | exact Or.inr rfl) (pe_op op_mod (pe_callTy (T := "int") b_int (by rfl) T.z_int (by decide +kernel) (pa_cons (pe_op op_add (pe_op op_mul (pv 3) pe_int) pe_int) pa_nil)) pe_int))
      (pss_one (ps_expr (pe_bm PySem.F.plainAttrs_list PySem.F.slot_list_append PySem.F.type_list_append mt_append (pv 1) (pa_cons (pe_op op_fdiv (pe_op op_mod (pe_callTy (T := "int") b_int (by rfl) T.z_int (by decide +kernel) (pa_cons (pe_op op_add (pe_op op_mul (pv 3) pe_int) pe_int) pa_nil)) pe_int) pe_int) pa_nil))))))))
      (pss_one (ps_ret (pe_lst (pa_cons (pv 1) (pa_cons pe_int pa_nil)))))))))), ?_⟩
  try dsimp only [cxOf, Cx.nox, Cx.wish, Cx.blk]
  have hS := Sta.start (K := K) hG
  refine go_start (σ := [some (.int c), none, none, none, none, none]) rfl ?_
  walk_at "go"
  refine go_mutL hS (by decide) fun row H1 r0 r1 hS => ?_
  walk_at "go"
  have hab : 0 ≤ (if c < 0 then -c else c) := by split <;> omega
  generalize (if c < 0 then -c else c) = ab at hab ⊢
  refine forR hS (fun i σ G1 M1 => G1 = G ∧ ∃ (xs : List Int) (rest mixed : Int) (gr : Bool) (kv : Option V), M1 = [(row, .lst (xs.map .int))] ∧ xs.length = i ∧ 0 ≤ rest ∧ 0 ≤ mixed ∧ mixed < 2147483647 ∧ σ = [some (.int c), some (.ref row), some (.int rest), some (.int mixed), some (.bl gr), kv])
    ⟨rfl, [], ab, ab % 2147483647, _, none, rfl, rfl, hab, Int.emod_nonneg _ (by decide), Int.emod_lt_of_pos _ (by decide), rfl⟩ ?_ ?_
  · rintro i σ G1 M1 H2 hi e1 hS2 ⟨rfl, xs, rest, mixed, gr, kv, rfl, hx, h0, h1, h2, rfl⟩
    have hi' : i < 200 := hi
    have fin : ∀ (σ' : L2.St) (H3 : Hp) (y rest' mixed' : Int), Sta K G1 H [] G1 [(row, .lst (xs.map .int ++ [.int y]))] H3 → 0 ≤ rest' → 0 ≤ mixed' → mixed' < 2147483647 → (∃ kv, σ' = [some (.int c), some (.ref row), some (.int rest'), some (.int mixed'), some (.bl gr), kv]) →
        Nx K G1 H [] G1 (fun σ G2 M2 => G2 = G1 ∧ ∃ (xs : List Int) (rest mixed : Int) (gr : Bool) (kv : Option V), M2 = [(row, .lst (xs.map .int))] ∧ xs.length = i + 1 ∧ 0 ≤ rest ∧ 0 ≤ mixed ∧ mixed < 2147483647 ∧ σ = [some (.int c), some (.ref row), some (.int rest), some (.int mixed), some (.bl gr), kv]) σ' H3 :=
      fun σ' H3 y rest' mixed' s3 a1 a2 a3 ⟨kv, a4⟩ => Nx.mk s3 (Same.refl _) ⟨rfl, xs ++ [y], rest', mixed', gr, kv, by simp, by simp [hx], a1, a2, a3, a4⟩
    walk_at "go"
    refine go_iteB (fun hg => ?_) (fun hg => ?_)
    · walk_at "go"
      · exact fin _ _ _ _ _ (by assumption) (Int.ediv_nonneg h0 (by decide)) h1 h2 ⟨_, rfl⟩
      · exact fin _ _ _ _ _ (by assumption) h0 (Int.emod_nonneg _ (by decide)) (Int.emod_lt_of_pos _ (by decide)) ⟨_, rfl⟩
    · walk_at "go"
      exact fin _ _ _ _ _ (by assumption) h0 (Int.emod_nonneg _ (by decide)) (Int.emod_lt_of_pos _ (by decide)) ⟨_, rfl⟩
  · rintro σ G1 M1 H2 e1 hS2 ⟨rfl, xs, rest, mixed, gr, kv, rfl, hx, h0, h1, h2, rfl⟩
    have hx' : xs.length = 200 := hx
    walk_at "go"
    obtain ⟨hS3, e3⟩ := hS2.frz r0
    refine ⟨sz (by simp), fun p hp => ?_⟩
    have hS4 := hS3.mut hp (drw row 0)
    exact q p row _ _ hS4.adv (hS3.h0 hp) upd_same (hS3.gn hp) ⟨xs, .inl (.inl upd_same), by omega⟩
theorem go_draws {G0 H0 G H : Hp} {D : List Addr} {M : List (Addr × HO)} {Q : VK} {E : XK} {c : Int} (hS : Sta K G0 H0 D G M H) (q : ∀ a r G1 H1, Same G G1 → Sta K G0 H0 D G1 ((a, drw r 0) :: M) H1 → RowOk K G1 r → Q (.ref a) H1) : spDraws K [.int c] H Q E :=
  ⟨c, G, rfl, hS.gh, fun a r G1 H1 ad h1 h2 h3 h4 => q a r G1 H1 ad.gg (hS.callNew ad h1 h2 h3) h4⟩
/-! ### _law_same of equal data -/
def spSame (K : PySem.W.Frag) (n : Nat) : Sp := fun vs H Q _ => ∃ (x y : V) (G : Hp) (d : Dt), vs = [x, y] ∧ Same G H ∧ Rp K G x d ∧ Rp K G y d ∧ okD n d = true ∧ ∀ G' H', Adv [] G H G' H' → Q (.bl true) H'
theorem none_same {f : Addr} {fd : FuncData} : FnOk P w K mg base CX0 0 f fd ["actual", "expected"] (spSame K 0) := by
  have no : ∀ vs H Q E, ¬ spSame K 0 vs H Q E := fun vs H Q E h => by
    obtain ⟨x, y, G, d, _, _, _, _, h1, _⟩ := h
    cases d <;> cases h1
  exact ⟨fun vs H Q E h => absurd h (no vs H Q E), fun A outer s H args us vs Q E _ _ _ _ h => absurd h (no vs H Q E)⟩
theorem step_same (T : Txt K mg A) {n : Nat} (G_law_same : FnOk P w K mg base CX0 n A.f_law_same A.d_law_same ["actual", "expected"] (spSame K n)) : FnOk P w K mg base CX0 (n + 1) A.f_law_same A.d_law_same ["actual", "expected"] (spSame K (n + 1)) := by
  refine T.F_law_same.ok sc_law_same (fun vs H Q E h => by obtain ⟨_, _, _, _, rfl, _⟩ := h; rfl) (fun cdv AA outer s H vs Q E hr h => ?_)
  obtain ⟨x, y, G, d, rfl, hG, hx, hy, hd, q⟩ := h
  refine ⟨_, (pss_cons (ps_if (pt_val (pe_callB (id := "isinstance") call_isiT (by rfl) T.z_isinstance (by decide +kernel) (pa_cons (pv 1) (pa_cons (pe_tup (pa_cons (pe_bltn (v := .ty "tuple") (u := .type "tuple") (by rfl) T.z_tuple (by decide +kernel) rfl) (pa_cons (pe_bltn (v := .ty "list") (u := .type "list") (by rfl) T.z_list (by decide +kernel) rfl) pa_nil))) pa_nil)))) (pss_cons (ps_if (PW.pt (pw_or (pt_cmpR op_ne (pe_callB (id := "isinstance") call_isi (by rfl) T.z_isinstance (by decide +kernel) (pa_cons (pv 0) (pa_cons (pe_bltn (v := .ty "tuple") (u := .type "tuple") (by rfl) T.z_tuple (by decide +kernel) rfl) pa_nil))) (pe_callB (id := "isinstance") call_isi (by rfl) T.z_isinstance (by decide +kernel) (pa_cons (pv 1) (pa_cons (pe_bltn (v := .ty "tuple") (u := .type "tuple") (by rfl) T.z_tuple (by decide +kernel) rfl) pa_nil))) (nomark _)) (pw_or1 (pt_cmpR op_ne (pe_callB (id := "isinstance") call_isi (by rfl) T.z_isinstance (by decide +kernel) (pa_cons (pv 0) (pa_cons (pe_bltn (v := .ty "list") (u := .type "list") (by rfl) T.z_list (by decide +kernel) rfl) pa_nil))) (pe_callB (id := "isinstance") call_isi (by rfl) T.z_isinstance (by decide +kernel) (pa_cons (pv 1) (pa_cons (pe_bltn (v := .ty "list") (u := .type "list") (by rfl) T.z_list (by decide +kernel) rfl) pa_nil))) (nomark _))))) (pss_one (ps_ret pe_bl)) pss_nil)
      (pss_cons (ps_if (pt_cmpR op_ne (pe_callB (id := "len") b_len (by rfl) T.z_len (by decide +kernel) (pa_cons (pv 0) pa_nil)) (pe_callB (id := "len") b_len (by rfl) T.z_len (by decide +kernel) (pa_cons (pv 1) pa_nil)) (nomark _)) (pss_one (ps_ret pe_bl)) pss_nil)
      (pss_cons (ps_for PassesOwn.never rfl (pi_range1 (by rfl) T.z_range (pa_cons (pe_callB (id := "len") b_len (by rfl) T.z_len (by decide +kernel) (pa_cons (pv 1) pa_nil)) pa_nil)) (pg_name (i := 2) sc_law_same.nd rfl (by first | exact Or.inl rfl | exact Or.inr rfl)) (pss_one (ps_if (pt_not (pt_val (pe_call G_law_same (hr.mono (by first | decide | omega)) (by rfl) T.m_law_same T.F_law_same.kp T.b_law_same .nil pass0 (pa_cons (pe_ix ix_seq (pv 0) (pv 2) (fun _ _ => rfl)) (pa_cons (pe_ix ix_seq (pv 1) (pv 2) (fun _ _ => rfl)) pa_nil))))) (pss_one (ps_ret pe_bl)) pss_nil)))
      (pss_one (ps_ret pe_bl))))) pss_nil)
      (pss_cons (ps_if (PW.pt (pw_or (pt_val (pe_callB (id := "isinstance") call_isi (by rfl) T.z_isinstance (by decide +kernel) (pa_cons (pv 1) (pa_cons (pe_bltn (v := .ty "bool") (u := .type "bool") (by rfl) T.z_bool (by decide +kernel) rfl) pa_nil)))) (pw_or1 (pt_val (pe_callB (id := "isinstance") call_isi (by rfl) T.z_isinstance (by decide +kernel) (pa_cons (pv 0) (pa_cons (pe_bltn (v := .ty "bool") (u := .type "bool") (by rfl) T.z_bool (by decide +kernel) rfl) pa_nil))))))) (pss_one (ps_ret (pe_and (pe_callB (id := "isinstance") call_isi (by rfl) T.z_isinstance (by decide +kernel) (pa_cons (pv 0) (pa_cons (pe_bltn (v := .ty "bool") (u := .type "bool") (by rfl) T.z_bool (by decide +kernel) rfl) pa_nil))) (pe_and (pe_callB (id := "isinstance") call_isi (by rfl) T.z_isinstance (by decide +kernel) (pa_cons (pv 1) (pa_cons (pe_bltn (v := .ty "bool") (u := .type "bool") (by rfl) T.z_bool (by decide +kernel) rfl) pa_nil))) (pe_one (pe_cmpR op_eq (pv 0) (pv 1) (nomark _))))))) pss_nil)
      (pss_cons (ps_if (pt_cmp (pc_isN (pv 1))) (pss_one (ps_ret (pe_cmp (pc_isN (pv 0)) rfl))) pss_nil)
      (pss_cons (ps_if (pt_val (pe_callB (id := "isinstance") call_isi (by rfl) T.z_isinstance (by decide +kernel) (pa_cons (pv 1) (pa_cons (pe_bltn (v := .ty "int") (u := .type "int") (by rfl) T.z_int (by decide +kernel) rfl) pa_nil)))) (pss_one (ps_ret (pe_and (pe_callB (id := "isinstance") call_isi (by rfl) T.z_isinstance (by decide +kernel) (pa_cons (pv 0) (pa_cons (pe_bltn (v := .ty "int") (u := .type "int") (by rfl) T.z_int (by decide +kernel) rfl) pa_nil))) (pe_one (pe_cmpR op_eq (pv 0) (pv 1) (nomark _)))))) pss_nil)
      (pss_one (ps_ret (pe_and (pe_callB (id := "isinstance") call_isi (by rfl) T.z_isinstance (by decide +kernel) (pa_cons (pv 0) (pa_cons (pe_bltn (v := .ty "str") (u := .type "str") (by rfl) T.z_str (by decide +kernel) rfl) pa_nil))) (pe_one (pe_cmpR op_eq (pv 0) (pv 1) (nomark _)))))))))), ?_⟩
  try dsimp only [cxOf, Cx.nox, Cx.wish, Cx.blk]
  have hS := Sta.start (K := K) hG
  refine go_start (σ := [some x, some y, none]) rfl ?_
  have qb : ∀ {b : Bool} {G1 H1 : Hp}, Sta K G H [] G1 [] H1 → b = true → Q (.bl b) H1 := fun s e => by subst e; exact q _ _ s.adv
  walk_at "go"
  refine go_rawT hS (sz (by simp)) fun p G1 H1 e1 hS hp => ?_
  walk_at "go"
  have hx1 := hx.up e1
  have hy1 := hy.up e1
  cases d with
  | ins C fs => cases hd
  | non =>
    cases Rp.non_inv hx
    cases Rp.non_inv hy
    refine go_isiT hy1 hS.gh hp (t := "NoneType") rfl (by decide) (b1 := false) (b2 := false) (by walk_at "kit") (by walk_at "kit") ?_
    walk_at "go"
    exact qb hS rfl
  | bl b =>
    cases Rp.bl_inv hx
    cases Rp.bl_inv hy
    refine go_isiT hy1 hS.gh hp (t := "bool") rfl (by decide) (b1 := false) (b2 := false) (by walk_at "kit") (by walk_at "kit") ?_
    walk_at "go"
    exact qb hS (decide_eq_true rfl)
  | int i =>
    cases Rp.int_inv hx
    cases Rp.int_inv hy
    refine go_isiT hy1 hS.gh hp (t := "int") rfl (by decide) (b1 := false) (b2 := false) (by walk_at "kit") (by walk_at "kit") ?_
    walk_at "go"
    exact qb hS (decide_eq_true rfl)
  | str i =>
    cases Rp.str_inv hx
    cases Rp.str_inv hy
    refine go_isiT hy1 hS.gh hp (t := "str") rfl (by decide) (b1 := false) (b2 := false) (by walk_at "kit") (by walk_at "kit") ?_
    walk_at "go"
    exact qb hS (decide_eq_true rfl)
  | tup ds =>
    have hdl : ds.length ≤ 100000 ∧ ∀ e ∈ ds, okD n e = true := by
      simpa [okD] using hd
    refine go_isiT hy1 hS.gh hp (t := "tuple") rfl (by decide) (b1 := true) (b2 := false) (by walk_at "kit") (by walk_at "kit") ?_
    walk_at "go"
    walk_at "go"
    refine forR hS (fun i σ G2 M2 => M2 = [] ∧ ∃ kv, σ = [some x, some y, kv]) ⟨rfl, none, rfl⟩ ?_ ?_
    · rintro i σ G2 M2 H2 hi e2 hS2 ⟨rfl, kv, rfl⟩
      have hi' : i < ds.length := by simpa using hi
      have hat : atI ds (0 + (i : Int)) = some ds[i] := by rw [Int.zero_add]; exact atI_nat (List.getElem?_eq_getElem hi')
      walk_at "go"
      refine go_ixA (hx1.up e2) hS2.gh hat fun u hu => ?_
      walk_at "go"
      refine go_ixA (hy1.up e2) hS2.gh hat fun v hv => ?_
      walk_at "go"
      refine ⟨u, v, G2, ds[i], rfl, hS2.gh, hu, hv, hdl.2 _ (List.getElem_mem hi'), fun G3 H3 ad => ?_⟩
      walk_at "go"
      exact Nx.mk (hS2.call ad) (e2.trans ad.gg) ⟨rfl, _, rfl⟩
    · rintro σ G2 M2 H2 e2 hS2 ⟨rfl, kv, rfl⟩
      walk_at "go"
      exact qb hS2 rfl
  | lst ds =>
    have hdl : ds.length ≤ 100000 ∧ ∀ e ∈ ds, okD n e = true := by
      simpa [okD] using hd
    refine go_isiT hy1 hS.gh hp (t := "list") rfl (by decide) (b1 := false) (b2 := true) (by walk_at "kit") (by walk_at "kit") ?_
    walk_at "go"
    walk_at "go"
    refine forR hS (fun i σ G2 M2 => M2 = [] ∧ ∃ kv, σ = [some x, some y, kv]) ⟨rfl, none, rfl⟩ ?_ ?_
    · rintro i σ G2 M2 H2 hi e2 hS2 ⟨rfl, kv, rfl⟩
      have hi' : i < ds.length := by simpa using hi
      have hat : atI ds (0 + (i : Int)) = some ds[i] := by rw [Int.zero_add]; exact atI_nat (List.getElem?_eq_getElem hi')
      walk_at "go"
      refine go_ixB (hx1.up e2) hS2.gh hat fun u hu => ?_
      walk_at "go"
      refine go_ixB (hy1.up e2) hS2.gh hat fun v hv => ?_
      walk_at "go"
      refine ⟨u, v, G2, ds[i], rfl, hS2.gh, hu, hv, hdl.2 _ (List.getElem_mem hi'), fun G3 H3 ad => ?_⟩
      walk_at "go"
      exact Nx.mk (hS2.call ad) (e2.trans ad.gg) ⟨rfl, _, rfl⟩
    · rintro σ G2 M2 H2 e2 hS2 ⟨rfl, kv, rfl⟩
      walk_at "go"
      exact qb hS2 rfl
theorem ok_law_same (T : Txt K mg A) : FnOk P w K mg base CX0 5 A.f_law_same A.d_law_same ["actual", "expected"] (spSame K 5) := step_same T (step_same T (step_same T (step_same T (step_same T none_same))))
theorem go_same {G0 H0 G H : Hp} {D : List Addr} {M : List (Addr × HO)} {Q : VK} {E : XK} {x y : V} {d : Dt} (hS : Sta K G0 H0 D G M H) (hx : Rp K G x d) (hy : Rp K G y d) (hd : okD 5 d = true) (q : ∀ G1 H1, Same G G1 → Sta K G0 H0 D G1 M H1 → Q (.bl true) H1) : spSame K 5 [x, y] H Q E :=
  ⟨x, y, G, d, rfl, hS.gh, hx, hy, hd, fun G1 H1 ad => q G1 H1 ad.gg (hS.call ad)⟩
local macro_rules | `(tactic| walk_at "ro") => `(tactic| first | assumption | ((with_reducible refine' RowOk.up (G := ?m) ?e ?g); (case e => assumption); (case g => walk_at "ro")) | fail)
local macro_rules | `(tactic| walk_at "s") => `(tactic| first | ((with_reducible refine' go_next_ (at_ := ?t) (r := ?r) (i := ?i) (M' := ?M') ?hS ?hi ?hr ?h0 ?h1 ?hm ?hM ?_); (case hS => assumption); (case hi => walk_at "mi"); (case hr => walk_at "ro"); (case h0 => omega); (case h1 => omega); (case hm => omega); (case hM => walk_at "set"); (intro v H1 hv1 hv2 hS1)) | fail)
local macro_rules | `(tactic| walk_at "s") => `(tactic| first | ((with_reducible refine' go_cell (G := ?G) (ns := ?ns) ?hS ?hl ?h0 ?_); (case hS => assumption); (case hl => walk_at "rp"); (case h0 => omega); (intro v)) | fail)
def okB (last : Int) (c : Bar) : Prop := 0 ≤ c.1 ∧ c.1 ≤ last ∧ ∀ d, c.2 = some d → c.1 < d ∧ d ≤ last
def lotB (os : List Bar) (k : Int) : Bar := os.getD k.toNat (0, none)
theorem lotB_at {os : List Bar} {k : Int} (h0 : 0 ≤ k) (h1 : k < (os.length : Int)) : atI (os.map barD) k = some (barD (lotB os k)) := by
  obtain ⟨n, rfl⟩ := Int.eq_ofNat_of_zero_le h0
  have h : n < os.length := by omega
  exact atI_nat (by rw [List.getElem?_map]; simp [lotB, List.getD, h])
theorem lex_eq : ∀ (xs ys : List Int), HT.lexLt xs ys = false → HT.lexLt ys xs = false → xs = ys
  | [], [], _, _ => rfl
  | [], y :: ys, h, _ => by rw [HT.lexLt_nil_cons] at h; cases h
  | x :: xs, [], _, h => by rw [HT.lexLt_nil_cons] at h; cases h
  | x :: xs, y :: ys, h1, h2 => by
    rw [HT.lexLt_cons] at h1 h2
    by_cases e : x = y
    · subst e
      rw [if_pos rfl] at h1 h2
      rw [lex_eq xs ys h1 h2]
    · rw [if_neg e] at h1
      rw [if_neg (Ne.symm e)] at h2
      have a := of_decide_eq_false h1
      have c := of_decide_eq_false h2
      omega
/-! ### bars paired within classes, by ranks: plain -/
/-- the place in a list that an order puts in a row -/
theorem pos_cnt {lt : Int → Int → Bool} (as : ∀ x y, lt x y = true → lt y x = false) (ir : ∀ x, lt x x = false) : ∀ {L : List Int} {j : Nat} {a : Int}, L.Pairwise (fun x y => lt x y = true) → L[j]? = some a → L.countP (fun x => lt x a) = j
  | [], _, _, _, h => by simp at h
  | x :: L, 0, a, pw, h => by
    cases h
    have pw := List.pairwise_cons.mp pw
    rw [List.countP_cons, List.countP_eq_zero.mpr fun y hy => by rw [as _ _ (pw.1 y hy)]; decide]
    simp [ir]
  | x :: L, j + 1, a, pw, h => by
    have pw' := List.pairwise_cons.mp pw
    have h' : L[j]? = some a := h
    rw [List.countP_cons, pos_cnt as ir pw'.2 h', if_pos (pw'.1 a (List.mem_of_getElem? h'))]
theorem zip_mem_iff {lt1 lt2 : Int → Int → Bool} (as1 : ∀ x y, lt1 x y = true → lt1 y x = false) (ir1 : ∀ x, lt1 x x = false) (as2 : ∀ x y, lt2 x y = true → lt2 y x = false) (ir2 : ∀ x, lt2 x x = false) {L1 L2 : List Int}
    (p1 : L1.Pairwise (fun x y => lt1 x y = true)) (p2 : L2.Pairwise (fun x y => lt2 x y = true)) (a b : Int) : (a, b) ∈ L1.zip L2 ↔ a ∈ L1 ∧ b ∈ L2 ∧ L1.countP (fun x => lt1 x a) = L2.countP (fun y => lt2 y b) := by
  constructor
  · intro h
    obtain ⟨j, hj⟩ := List.mem_iff_getElem?.mp h
    rw [List.getElem?_zip_eq_some] at hj
    exact ⟨List.mem_of_getElem? hj.1, List.mem_of_getElem? hj.2, by rw [pos_cnt as1 ir1 p1 hj.1, pos_cnt as2 ir2 p2 hj.2]⟩
  · rintro ⟨ha, hb, e⟩
    obtain ⟨i, hi⟩ := List.mem_iff_getElem?.mp ha
    obtain ⟨j, hj⟩ := List.mem_iff_getElem?.mp hb
    rw [pos_cnt as1 ir1 p1 hi, pos_cnt as2 ir2 p2 hj] at e
    subst e
    exact List.mem_of_getElem? (i := i) (by rw [List.getElem?_zip_eq_some]; exact ⟨hi, hj⟩)
theorem zip_pw {R : Int → Int → Prop} : ∀ {L1 L2 : List Int}, L1.Pairwise R → (L1.zip L2).Pairwise fun x y => R x.1 y.1
  | [], _, _ => by simp
  | _ :: _, [], _ => by simp
  | a :: L1, b :: L2, h => by
    have h' := List.pairwise_cons.mp h
    rw [List.zip_cons_cons]
    refine List.pairwise_cons.mpr ⟨fun p hp => ?_, zip_pw h'.2⟩
    exact h'.1 _ (List.of_mem_zip hp).1
/-- what is due: the pairs that a test tells, in order -/
def dueL (n m : Nat) (c : Nat → Nat → Bool) : List (Int × Int) := (List.range n).flatMap fun i => ((List.range m).filter (c i)).map fun j : Nat => ((i : Int), (j : Int))
theorem dueL_mem {n m : Nat} {c : Nat → Nat → Bool} {p : Int × Int} : p ∈ dueL n m c ↔ ∃ i j : Nat, i < n ∧ j < m ∧ c i j = true ∧ p = ((i : Int), (j : Int)) := by
  unfold dueL
  simp only [List.mem_flatMap, List.mem_range, List.mem_map, List.mem_filter]
  constructor
  · rintro ⟨i, hi, j, ⟨hj, hc⟩, rfl⟩
    exact ⟨i, j, hi, hj, hc, rfl⟩
  · rintro ⟨i, j, hi, hj, hc, rfl⟩
    exact ⟨i, hi, j, ⟨hj, hc⟩, rfl⟩
def ltP (a b : Int × Int) : Prop := a.1 < b.1 ∨ a.1 = b.1 ∧ a.2 < b.2
theorem dueL_pw (n m : Nat) (c : Nat → Nat → Bool) : (dueL n m c).Pairwise ltP := by
  unfold dueL
  rw [List.pairwise_flatMap]
  refine ⟨fun i _ => ?_, List.pairwise_lt_range.imp fun {a b} h => ?_⟩
  · rw [List.pairwise_map]
    refine (List.pairwise_lt_range.filter _).imp fun {a b : Nat} (h : a < b) => ?_
    show ltP ((i : Int), (a : Int)) ((i : Int), (b : Int))
    refine .inr ⟨rfl, ?_⟩
    show (a : Int) < (b : Int)
    omega
  · intro x hx y hy
    obtain ⟨j, _, rfl⟩ := List.mem_map.mp hx
    obtain ⟨k, _, rfl⟩ := List.mem_map.mp hy
    left
    show (a : Int) < (b : Int)
    omega
theorem due_uniq {n m : Nat} {c : Nat → Nat → Bool} {qs : List (Int × Int)} (s : qs.Pairwise leP) (nd : qs.Nodup) (mem : ∀ p, p ∈ qs ↔ p ∈ dueL n m c) : qs = dueL n m c := by
  have nd2 : (dueL n m c).Nodup := (dueL_pw n m c).imp fun {a b} h e => by
    subst e
    rcases h with h | ⟨_, h⟩ <;> omega
  refine List.Perm.eq_of_pairwise (le := leP) (fun a b _ _ h1 h2 => ?_) s ((dueL_pw n m c).imp fun {a b} h => by
    rcases h with h | ⟨h, h2⟩
    · exact .inl h
    · exact .inr ⟨h, by omega⟩) ((List.perm_ext_iff_of_nodup nd nd2).mpr mem)
  obtain ⟨a1, a2⟩ := a
  obtain ⟨b1, b2⟩ := b
  simp only [leP] at h1 h2
  have e1 : a1 = b1 := by omega
  have e2 : a2 = b2 := by omega
  rw [e1, e2]
/-- the rank of a place within its class -/
def rnkN {γ : Type} [DecidableEq γ] (n : Nat) (cls : Nat → γ) (lt : Int → Int → Bool) (i : Nat) : Nat := ((List.range n).filter fun k => decide (cls k = cls i) && lt (k : Int) (i : Int)).length
/-- the classes one by one, sorted and zipped -/
theorem classes_due {γ : Type} [DecidableEq γ] {n m : Nat} {cls1 cls2 : Nat → γ} {lt1 lt2 : Int → Int → Bool} (as1 : ∀ x y, lt1 x y = true → lt1 y x = false) (ir1 : ∀ x, lt1 x x = false) (as2 : ∀ x y, lt2 x y = true → lt2 y x = false) (ir2 : ∀ x, lt2 x x = false)
    {cl : List γ} {S1 S2 : γ → List Int} (nd : cl.Nodup) (hc : ∀ i j, i < n → j < m → cls1 i = cls2 j → cls1 i ∈ cl)
    (s1 : ∀ g ∈ cl, (S1 g).Pairwise fun x y => lt1 x y = true) (s2 : ∀ g ∈ cl, (S2 g).Pairwise fun x y => lt2 x y = true)
    (p1 : ∀ g ∈ cl, (S1 g).Perm (((List.range n).filter fun k => decide (cls1 k = g)).map fun k : Nat => (k : Int))) (p2 : ∀ g ∈ cl, (S2 g).Perm (((List.range m).filter fun k => decide (cls2 k = g)).map fun k : Nat => (k : Int))) :
    (∀ p, p ∈ cl.flatMap (fun g => (S1 g).zip (S2 g)) ↔ p ∈ dueL n m fun i j => decide (cls1 i = cls2 j) && decide (rnkN n cls1 lt1 i = rnkN m cls2 lt2 j)) ∧
    (cl.flatMap fun g => (S1 g).zip (S2 g)).Pairwise (fun x y => x.1 ≠ y.1) := by
  have m1 : ∀ g ∈ cl, ∀ a, a ∈ S1 g ↔ ∃ i : Nat, i < n ∧ cls1 i = g ∧ a = (i : Int) := fun g hg a => by
    rw [(p1 g hg).mem_iff]
    simp only [List.mem_map, List.mem_filter, List.mem_range, decide_eq_true_eq]
    exact ⟨fun ⟨i, h, e⟩ => ⟨i, h.1, h.2, e.symm⟩, fun ⟨i, h1, h2, e⟩ => ⟨i, ⟨h1, h2⟩, e.symm⟩⟩
  have m2 : ∀ g ∈ cl, ∀ a, a ∈ S2 g ↔ ∃ i : Nat, i < m ∧ cls2 i = g ∧ a = (i : Int) := fun g hg a => by
    rw [(p2 g hg).mem_iff]
    simp only [List.mem_map, List.mem_filter, List.mem_range, decide_eq_true_eq]
    exact ⟨fun ⟨i, h, e⟩ => ⟨i, h.1, h.2, e.symm⟩, fun ⟨i, h1, h2, e⟩ => ⟨i, ⟨h1, h2⟩, e.symm⟩⟩
  have c1 : ∀ g ∈ cl, ∀ i : Nat, cls1 i = g → (S1 g).countP (fun x => lt1 x (i : Int)) = rnkN n cls1 lt1 i := fun g hg i e => by
    rw [(p1 g hg).countP_eq, List.countP_map, List.countP_filter, List.countP_eq_length_filter]
    unfold rnkN
    rw [e]
    congr 1
    refine List.filter_congr fun k _ => ?_
    show (lt1 (k : Int) (i : Int) && decide (cls1 k = g)) = _
    exact Bool.and_comm _ _
  have c2 : ∀ g ∈ cl, ∀ i : Nat, cls2 i = g → (S2 g).countP (fun x => lt2 x (i : Int)) = rnkN m cls2 lt2 i := fun g hg i e => by
    rw [(p2 g hg).countP_eq, List.countP_map, List.countP_filter, List.countP_eq_length_filter]
    unfold rnkN
    rw [e]
    congr 1
    refine List.filter_congr fun k _ => ?_
    show (lt2 (k : Int) (i : Int) && decide (cls2 k = g)) = _
    exact Bool.and_comm _ _
  refine ⟨fun p => ?_, ?_⟩
  · rw [dueL_mem, List.mem_flatMap]
    constructor
    · rintro ⟨g, hg, h⟩
      obtain ⟨a, b⟩ := p
      rw [zip_mem_iff as1 ir1 as2 ir2 (s1 g hg) (s2 g hg), m1 g hg, m2 g hg] at h
      obtain ⟨⟨i, hi, e1, rfl⟩, ⟨j, hj, e2, rfl⟩, e⟩ := h
      rw [c1 g hg i e1, c2 g hg j e2] at e
      exact ⟨i, j, hi, hj, by rw [decide_eq_true (e1.trans e2.symm), decide_eq_true e]; rfl, rfl⟩
    · rintro ⟨i, j, hi, hj, h, rfl⟩
      rw [Bool.and_eq_true, decide_eq_true_eq, decide_eq_true_eq] at h
      have hg := hc i j hi hj h.1
      refine ⟨cls1 i, hg, ?_⟩
      rw [zip_mem_iff as1 ir1 as2 ir2 (s1 _ hg) (s2 _ hg), m1 _ hg, m2 _ hg, c1 _ hg i rfl, c2 _ hg j h.1.symm]
      exact ⟨⟨i, hi, rfl, rfl⟩, ⟨j, hj, h.1.symm, rfl⟩, h.2⟩
  · rw [List.pairwise_flatMap]
    refine ⟨fun g hg => zip_pw ((s1 g hg).imp fun {a b} h e => by subst e; rw [ir1] at h; cases h), ?_⟩
    refine List.Pairwise.imp_of_mem (fun {g g'} hg hg' ne x hx y hy e => ?_) nd
    obtain ⟨i, _, e1, e2⟩ := (m1 g hg x.1).mp (List.of_mem_zip hx).1
    obtain ⟨j, _, e3, e4⟩ := (m1 g' hg' y.1).mp (List.of_mem_zip hy).1
    have : i = j := by omega
    subst this
    exact ne (e1.symm.trans e3)
/-! elder, longer -/
def eldB (bs : List Bar) (i j : Int) : Bool := decide ((lotB bs i).1 < (lotB bs j).1) || (decide ((lotB bs i).1 = (lotB bs j).1) && decide (i < j))
def lngB (bs : List Bar) (i j : Int) : Bool := if (lotB bs i).2 = (lotB bs j).2 then decide (i < j) else match (lotB bs i).2, (lotB bs j).2 with
  | none, _ => true
  | some _, none => false
  | some x, some y => decide (y < x)
theorem eldB_as (bs : List Bar) (x y : Int) (h : eldB bs x y = true) : eldB bs y x = false := by
  unfold eldB at h ⊢
  rw [Bool.or_eq_true, Bool.and_eq_true, decide_eq_true_eq, decide_eq_true_eq, decide_eq_true_eq] at h
  rw [Bool.or_eq_false_iff, Bool.and_eq_false_iff, decide_eq_false_iff_not, decide_eq_false_iff_not, decide_eq_false_iff_not]
  omega
theorem eldB_ir (bs : List Bar) (x : Int) : eldB bs x x = false := by simp [eldB]
theorem lngB_as (bs : List Bar) (x y : Int) (h : lngB bs x y = true) : lngB bs y x = false := by
  unfold lngB at h ⊢
  by_cases e : (lotB bs x).2 = (lotB bs y).2
  · rw [if_pos e] at h
    rw [if_pos e.symm]
    have := of_decide_eq_true h
    exact decide_eq_false (by omega)
  · rw [if_neg e] at h
    rw [if_neg (Ne.symm e)]
    generalize (lotB bs x).2 = p at *
    generalize (lotB bs y).2 = q at *
    cases p <;> cases q
    · exact absurd rfl e
    · rfl
    · cases h
    · have := of_decide_eq_true h
      exact decide_eq_false (by omega)
theorem lngB_ir (bs : List Bar) (x : Int) : lngB bs x x = false := by simp [lngB]
/-- a stable sort of places that ascend -/
theorem srtA_asc {kf : Int → List Int} {l : List Int} (pw : l.Pairwise (· < ·)) : (srtA kf l).Pairwise fun x y => HT.lexLt (kf x) (kf y) = true ∨ (kf x = kf y ∧ x < y) := by
  have pw' : (l.map fun i => (kf i, i)).Pairwise fun p q : List Int × Int => p.2 < q.2 := List.pairwise_map.mpr pw
  obtain ⟨sd, st⟩ := srtK_ok (l.map fun i => (kf i, i))
  unfold srtA
  rw [List.pairwise_map]
  have mk : ∀ p ∈ srtK (l.map fun i => (kf i, i)), p.1 = kf p.2 := fun p hp => by
    obtain ⟨i, _, rfl⟩ := List.mem_map.mp (st.perm.mem_iff.mp hp)
    rfl
  generalize srtK (l.map fun i => (kf i, i)) = L at *
  refine List.pairwise_iff_forall_sublist.mpr fun {x y} sub => ?_
  have hx := mk x (sub.subset List.mem_cons_self)
  have hy := mk y (sub.subset (List.mem_cons_of_mem _ List.mem_cons_self))
  have h1 : ltK y x = false := List.pairwise_iff_forall_sublist.mp sd sub
  rw [← hx, ← hy]
  cases h2 : HT.lexLt x.1 y.1 with
  | true => exact .inl rfl
  | false =>
    have h1' : HT.lexLt y.1 x.1 = false := h1
    have ek := lex_eq _ _ h2 h1'
    refine .inr ⟨ek, ?_⟩
    have xx : ltK x x = false := swo_ltK.refl x
    have f := sub.filter (SrtO.eqv ltK x)
    rw [List.filter_cons_of_pos (by rw [SrtO.eqv_iff]; exact ⟨xx, xx⟩), List.filter_cons_of_pos (by rw [SrtO.eqv_iff]; exact ⟨h2, h1⟩), List.filter_nil, st.cls x] at f
    exact List.pairwise_iff_forall_sublist.mp pw' (f.trans List.filter_sublist)
/-- the places of a class, the eldest first; the longest first -/
def eldS (bs : List Bar) (l : List Int) : List Int := srtA (fun i => [(lotB bs i).1]) l
theorem eldS_pw (bs : List Bar) {l : List Int} (pw : l.Pairwise (· < ·)) : (eldS bs l).Pairwise fun x y => eldB bs x y = true := by
  refine (srtA_asc (kf := fun i => [(lotB bs i).1]) pw).imp fun {x y} h => ?_
  unfold eldB
  rw [Bool.or_eq_true, Bool.and_eq_true, decide_eq_true_eq, decide_eq_true_eq, decide_eq_true_eq]
  rcases h with h | ⟨h, h'⟩
  · rw [HT.lexLt_cons] at h
    by_cases e : (lotB bs x).1 = (lotB bs y).1
    · rw [if_pos e, HT.lexLt_nil_nil] at h
      cases h
    · rw [if_neg e] at h
      exact .inl (of_decide_eq_true h)
  · exact .inr ⟨by simpa using h, h'⟩
def lngS (bs : List Bar) (l : List Int) : List Int := l.filter (fun i => decide ((lotB bs i).2 = none)) ++ srtA (fun i => [-((lotB bs i).2.getD 0)]) (l.filter fun i => !decide ((lotB bs i).2 = none))
theorem lngS_perm (bs : List Bar) (l : List Int) : (lngS bs l).Perm l := ((List.Perm.refl _).append (srtA_perm _ _)).trans (List.filter_append_perm (fun i => decide ((lotB bs i).2 = none)) l)
theorem lngS_pw (bs : List Bar) {l : List Int} (pw : l.Pairwise (· < ·)) : (lngS bs l).Pairwise fun x y => lngB bs x y = true := by
  refine List.pairwise_append.mpr ⟨?_, ?_, fun x hx y hy => ?_⟩
  · refine List.Pairwise.imp_of_mem (fun {x y} hx hy h => ?_) (pw.filter _)
    have hx := of_decide_eq_true (List.mem_filter.mp hx).2
    have hy := of_decide_eq_true (List.mem_filter.mp hy).2
    unfold lngB
    rw [hx, hy, if_pos rfl]
    exact decide_eq_true h
  · refine List.Pairwise.imp_of_mem (fun {x y} hx hy h => ?_) (srtA_asc (kf := fun i => [-((lotB bs i).2.getD 0)]) (pw.filter _))
    have hx := (List.mem_filter.mp ((srtA_perm _ _).mem_iff.mp hx)).2
    have hy := (List.mem_filter.mp ((srtA_perm _ _).mem_iff.mp hy)).2
    unfold lngB
    generalize (lotB bs x).2 = p at *
    generalize (lotB bs y).2 = q at *
    cases p with
    | none => cases hx
    | some p => cases q with
      | none => cases hy
      | some q =>
        rcases h with h | ⟨h, h'⟩
        · rw [HT.lexLt_cons] at h
          have h : (if -p = -q then HT.lexLt [] [] else decide (-p < -q)) = true := h
          by_cases e : -p = -q
          · rw [if_pos e, HT.lexLt_nil_nil] at h
            cases h
          · rw [if_neg e] at h
            have h := of_decide_eq_true h
            rw [if_neg (by intro z; cases z; exact e rfl)]
            exact decide_eq_true (by omega)
        · have h : -p = -q := by simpa using h
          have e : p = q := by omega
          rw [e, if_pos rfl]
          exact decide_eq_true h'
  · have hx := of_decide_eq_true (List.mem_filter.mp hx).2
    have hy := (List.mem_filter.mp ((srtA_perm _ _).mem_iff.mp hy)).2
    unfold lngB
    rw [hx]
    generalize (lotB bs y).2 = q at *
    cases q with
    | none => cases hy
    | some q => rfl
/-- by_deaths, by_births -/
def clsD (bs : List Bar) (lag : Int) (i : Nat) : Option Int := ((lotB bs (i : Int)).2).map (· + lag)
def bdF (part whole : List Bar) (lag : Int) : List (Int × Int) := dueL part.length whole.length fun i j => decide (clsD part lag i = (lotB whole (j : Int)).2) && decide (rnkN part.length (clsD part lag) (eldB part) i = rnkN whole.length (fun k => (lotB whole (k : Int)).2) (eldB whole) j)
def bbF (whole made : List Bar) : List (Int × Int) := dueL whole.length made.length fun i j => decide ((lotB whole (i : Int)).1 = (lotB made (j : Int)).1) && decide (rnkN whole.length (fun k => (lotB whole (k : Int)).1) (lngB whole) i = rnkN made.length (fun k => (lotB made (k : Int)).1) (lngB made) j)
def ixs (n : Nat) (p : Nat → Bool) : List Int := ((List.range n).filter p).map fun k : Nat => (k : Int)
theorem ixs_pw (n : Nat) (p : Nat → Bool) : (ixs n p).Pairwise (· < ·) := by
  unfold ixs
  rw [List.pairwise_map]
  refine (List.pairwise_lt_range.filter _).imp fun {a b} (h : a < b) => ?_
  show (a : Int) < (b : Int)
  omega
theorem ixs_mem {n : Nat} {p : Nat → Bool} {a : Int} : a ∈ ixs n p ↔ ∃ i : Nat, i < n ∧ p i = true ∧ a = (i : Int) := by
  unfold ixs
  simp only [List.mem_map, List.mem_filter, List.mem_range]
  exact ⟨fun ⟨i, h, e⟩ => ⟨i, h.1, h.2, e.symm⟩, fun ⟨i, h1, h2, e⟩ => ⟨i, ⟨h1, h2⟩, e.symm⟩⟩
/-- the program's pairs by deaths, ahead of their sort -/
def bdP (part whole : List Bar) (lag : Int) (ks : List Int) : List (Int × Int) :=
  ks.flatMap (fun d => (eldS part (ixs part.length fun k => decide ((lotB part (k : Int)).2 = some d))).zip (eldS whole (ixs whole.length fun k => decide ((lotB whole (k : Int)).2 = some (d + lag))))) ++
  (eldS part (ixs part.length fun k => decide ((lotB part (k : Int)).2 = none))).zip (eldS whole (ixs whole.length fun k => decide ((lotB whole (k : Int)).2 = none)))
theorem bdP_due {part whole : List Bar} {lag : Int} {ks : List Int} (pk : ks.Pairwise (· < ·)) (mk : ∀ k, k ∈ ks ↔ ∃ b ∈ part, b.2 = some k) : (∀ p, p ∈ bdP part whole lag ks ↔ p ∈ bdF part whole lag) ∧ (bdP part whole lag ks).Pairwise fun x y => x.1 ≠ y.1 := by
  have e : bdP part whole lag ks = (ks.map (fun d => some (d + lag)) ++ [none]).flatMap fun g => (eldS part (ixs part.length fun k => decide (clsD part lag k = g))).zip (eldS whole (ixs whole.length fun k => decide ((lotB whole (k : Int)).2 = g))) := by
    rw [List.flatMap_append, List.flatMap_map, List.flatMap_singleton]
    unfold bdP
    have e1 : ∀ d : Int, (fun k : Nat => decide ((lotB part (k : Int)).2 = some d)) = fun k => decide (clsD part lag k = some (d + lag)) := fun d => by
      funext k
      unfold clsD
      cases (lotB part (k : Int)).2 with
      | none => simp
      | some x =>
        rw [Bool.eq_iff_iff]
        simp
    have e2 : (fun k : Nat => decide ((lotB part (k : Int)).2 = none)) = fun k => decide (clsD part lag k = none) := by
      funext k
      unfold clsD
      cases (lotB part (k : Int)).2 <;> simp
    rw [e2]
    congr 1
    congr 1
    funext d
    rw [e1]
  rw [e]
  refine classes_due (eldB_as part) (eldB_ir part) (eldB_as whole) (eldB_ir whole) ?_ (fun i j hi hj _ => ?_) (fun g _ => eldS_pw part (ixs_pw _ _)) (fun g _ => eldS_pw whole (ixs_pw _ _)) (fun g _ => srtA_perm _ _) fun g _ => srtA_perm _ _
  · refine List.nodup_append.mpr ⟨?_, by simp, fun x hx y hy z => ?_⟩
    · rw [List.Nodup, List.pairwise_map]
      exact pk.imp fun {a b} (h : a < b) z => by
        have : a + lag = b + lag := Option.some.inj z
        omega
    · obtain ⟨d, _, rfl⟩ := List.mem_map.mp hx
      rw [List.mem_singleton] at hy
      subst hy
      cases z
  · have hl : lotB part (i : Int) = part[i] := by unfold lotB; rw [Int.toNat_natCast]; simp [List.getD, hi]
    unfold clsD
    cases hd : (lotB part (i : Int)).2 with
    | none => exact List.mem_append_right _ (List.mem_singleton.mpr rfl)
    | some d => exact List.mem_append_left _ (List.mem_map.mpr ⟨d, (mk d).mpr ⟨part[i], List.getElem_mem hi, by rw [← hl]; exact hd⟩, rfl⟩)
/-- the program's pairs by births, ahead of their sort -/
def bbP (whole made : List Bar) (ks : List Int) : List (Int × Int) :=
  ks.flatMap fun d => (lngS whole (ixs whole.length fun k => decide ((lotB whole (k : Int)).1 = d))).zip (lngS made (ixs made.length fun k => decide ((lotB made (k : Int)).1 = d)))
theorem bbP_due {whole made : List Bar} {ks : List Int} (pk : ks.Pairwise (· < ·)) (mk : ∀ k, k ∈ ks ↔ ∃ b ∈ made, b.1 = k) : (∀ p, p ∈ bbP whole made ks ↔ p ∈ bbF whole made) ∧ (bbP whole made ks).Pairwise fun x y => x.1 ≠ y.1 := by
  refine classes_due (cls1 := fun k => (lotB whole (k : Int)).1) (cls2 := fun k => (lotB made (k : Int)).1) (lngB_as whole) (lngB_ir whole) (lngB_as made) (lngB_ir made) (pk.imp fun {a b} (h : a < b) => by omega) (fun i j hi hj e => ?_) (fun g _ => lngS_pw whole (ixs_pw _ _)) (fun g _ => lngS_pw made (ixs_pw _ _)) (fun g _ => lngS_perm _ _) fun g _ => lngS_perm _ _
  have hl : lotB made (j : Int) = made[j] := by unfold lotB; rw [Int.toNat_natCast]; simp [List.getD, hj]
  refine (mk _).mpr ⟨made[j], List.getElem_mem hj, ?_⟩
  rw [← hl]
  exact e.symm
theorem sorted_due {n m : Nat} {c : Nat → Nat → Bool} {P qs : List (Int × Int)} (h : (∀ p, p ∈ P ↔ p ∈ dueL n m c) ∧ P.Pairwise fun x y => x.1 ≠ y.1) (pm : qs.Perm P) (s : qs.Pairwise leP) : qs = dueL n m c := by
  have nd : P.Nodup := h.2.imp fun {a b} h e => h (by rw [e])
  exact due_uniq s (pm.nodup_iff.mpr nd) fun p => (pm.mem_iff).trans (h.1 p)
theorem due_len {n m : Nat} {c : Nat → Nat → Bool} {P : List (Int × Int)} (h : (∀ p, p ∈ P ↔ p ∈ dueL n m c) ∧ P.Pairwise fun x y => x.1 ≠ y.1) : P.length ≤ n ∧ ∀ p ∈ P, 0 ≤ p.1 ∧ p.1 < (n : Int) ∧ 0 ≤ p.2 ∧ p.2 < (m : Int) := by
  have bd : ∀ p ∈ P, 0 ≤ p.1 ∧ p.1 < (n : Int) ∧ 0 ≤ p.2 ∧ p.2 < (m : Int) := fun p hp => by
    obtain ⟨i, j, hi, hj, _, rfl⟩ := dueL_mem.mp ((h.1 p).mp hp)
    exact ⟨by show (0 : Int) ≤ i; omega, by show (i : Int) < n; omega, by show (0 : Int) ≤ j; omega, by show (j : Int) < m; omega⟩
  refine ⟨?_, bd⟩
  have nd : (P.map (·.1)).Nodup := List.pairwise_map.mpr h.2
  have := len_leI (l := P.map (·.1)) (m := (List.range n).map fun k : Nat => (k : Int)) nd fun x hx => by
    obtain ⟨p, hp, rfl⟩ := List.mem_map.mp hx
    have := bd p hp
    exact List.mem_map.mpr ⟨p.1.toNat, by rw [List.mem_range]; omega, by omega⟩
  simpa using this
/-! ### bars that never die; places that tell two lists apart -/
def nD (k : Nat) : Dt := .int (k : Int)
def nevL (bs : List Bar) : List Nat := (List.range bs.length).filter fun k => (bs.getD k (0, none)).2.isNone
theorem nevL_len (bs : List Bar) : (nevL bs).length = (bs.filter fun c => c.2.isNone).length := by
  have : ∀ bs : List Bar, ((List.range bs.length).filter fun k => (bs.getD k (0, none)).2.isNone).length = bs.countP fun c => c.2.isNone := by
    intro bs
    induction bs with
    | nil => rfl
    | cons c bs ih =>
      rw [List.length_cons, List.range_succ_eq_map, List.filter_cons, List.filter_map, List.countP_cons, ← ih]
      have e : (List.range bs.length).filter ((fun k => ((c :: bs).getD k (0, none)).2.isNone) ∘ Nat.succ) = (List.range bs.length).filter fun k => (bs.getD k (0, none)).2.isNone := by
        refine List.filter_congr fun k _ => ?_
        simp
      rw [e]
      have e0 : (c :: bs).getD 0 (0, none) = c := rfl
      rw [e0]
      cases c.2.isNone <;> simp
  unfold nevL
  rw [this, List.countP_eq_length_filter]
def spNever (K : PySem.W.Frag) : Sp := fun vs H Q _ => ∃ (x : V) (k : Bool) (G : Hp) (bs : List Bar), vs = [x] ∧ Same G H ∧ Rp K G x (seqD k (bs.map barD)) ∧ bs.length ≤ 1000 ∧ ∀ p G1 H1, Adv [] G H G1 H1 → Rp K G1 (.ref p) (.tup ((nevL bs).map nD)) → Q (.ref p) H1
theorem ok_never (T : Txt K mg A) : FnOk P w K mg base CX0 1 A.f_never A.d_never ["bars"] (spNever K) := by
  refine T.F_never.ok sc_never (fun vs H Q E h => by first | (obtain ⟨rfl, _⟩ := h; rfl) | (obtain ⟨_, rfl, _⟩ := h; rfl) | (obtain ⟨_, _, rfl, _⟩ := h; rfl) | (obtain ⟨_, _, _, rfl, _⟩ := h; rfl) | (obtain ⟨_, _, _, _, rfl, _⟩ := h; rfl) | (obtain ⟨_, _, _, _, _, rfl, _⟩ := h; rfl) | (obtain ⟨_, _, _, _, _, _, rfl, _⟩ := h; rfl) | (obtain ⟨_, _, _, _, _, _, _, rfl, _⟩ := h; rfl) | (obtain ⟨_, _, _, _, _, _, _, _, rfl, _⟩ := h; rfl) | (obtain ⟨_, _, _, _, _, _, _, _, _, rfl, _⟩ := h; rfl) | (obtain ⟨_, _, _, _, _, _, _, _, _, _, rfl, _⟩ := h; rfl) | (obtain ⟨_, _, _, _, _, _, _, _, _, _, _, rfl, _⟩ := h; rfl) | (obtain ⟨_, _, _, _, _, _, _, _, _, _, _, _, rfl, _⟩ := h; rfl) | (obtain ⟨_, _, _, _, _, _, _, _, _, _, _, _, _, rfl, _⟩ := h; rfl) | exact wk_len h) (fun cdv AA outer s H vs Q E hr h => ?_)
  obtain ⟨x, k, G, bs, rfl, hG, hx, hl, q⟩ := h
  refine ⟨_, (pss_one (ps_ret (pe_callTy (T := "tuple") b_tuple (by rfl) T.z_tuple (by decide +kernel) (pa_cons (pe_lc (own := [("place", 1), ("bar", 2)]) (g := gTup K 2 (gCons (gName 1) (gCons (gName 2) gNil))) rfl sc_never.nd (pi_enumA (by rfl) T.z_enumerate (pa_cons (pv 0) pa_nil)) (blkOk_by (N := ["bars", "place", "bar"]) (sc := defScope s_never) (by decide +kernel)) (fun _ _ _ _ _ => pg_tup (by rfl) (pgs_cons (pg_name (i := 1) sc_never.nd rfl (by first | exact Or.inl rfl | exact Or.inr rfl)) (pgs_cons (pg_name (i := 2) sc_never.nd rfl (by first | exact Or.inl rfl | exact Or.inr rfl)) pgs_nil))) (fun _ _ _ _ _ => (pts_one (pt_cmp (pc_isN (pe_ix (show IxR _ (rIx K) from ix_seq) (pv 2) pe_int (fun _ _ => rfl)))))) (fun _ _ _ _ _ => (pv 1))) pa_nil)))), ?_⟩
  try dsimp only [cxOf, Cx.nox, Cx.wish, Cx.blk]
  have hS := Sta.start (K := K) hG
  refine go_start (σ := [some x, none, none]) rfl ?_
  walk_at "go"
  refine go_etkK hx hS.gh fun a xs ea hq hr => ?_
  cases ea
  refine lcFiltE (k := k) (as := bs) (Da := barD) (p := fun j => (bs.getD j (0, none)).2.isNone) (F := nD) hS hq hr (by omega) ?_ ?_
  · intro i z c L3 G3 vs3 es3 H3 Z Z0 hi hc hz e3 l3 hS3 hvs3 fin3 fin30 σ2 eσ
    have ec : bs.getD i (0, none) = c := by rw [List.getD, hc]; rfl
    rw [ec] at fin3 fin30
    subst eσ
    simp only [wipe, List.set_cons_zero, List.set_cons_succ, List.map_cons, List.map_nil, List.foldl_cons, List.foldl_nil]
    refine ⟨trivial, ?_⟩
    obtain ⟨c0, o⟩ := c
    have hz' : Rp K G3 z (.tup [.int c0, optD o]) := hz
    cases o with
    | none =>
      walk_at "go"
      exact fin3 rfl _ _ _ (Same.refl _) hS3 (.int _)
    | some d =>
      walk_at "go"
      exact fin30 rfl _ _ (Same.refl _) hS3
  intro p3 G3 H3 e3 hS3 hr3
  walk_at "go"
  exact q _ _ _ (Sta.adv (by assumption)) (by assumption)
theorem go_never {G0 H0 G H : Hp} {D : List Addr} {M : List (Addr × HO)} {Q : VK} {E : XK} {x : V} {k : Bool} {bs : List Bar} (hS : Sta K G0 H0 D G M H) (hx : Rp K G x (seqD k (bs.map barD))) (hl : bs.length ≤ 1000)
    (q : ∀ p G1 H1, Same G G1 → Sta K G0 H0 D G1 M H1 → Rp K G1 (.ref p) (.tup ((nevL bs).map nD)) → Q (.ref p) H1) : spNever K [x] H Q E :=
  ⟨x, k, G, bs, rfl, hS.gh, hx, hl, fun p G1 H1 ad r => q p G1 H1 ad.gg (hS.call ad) r⟩
/-! ### places, the eldest first -/
abbrev PlI (bs : List Bar) := {i : Int // 0 ≤ i ∧ i < (bs.length : Int)}
def plD (bs : List Bar) (i : PlI bs) : Dt := .int i.1
theorem pl_lift {bs : List Bar} {l : List Int} (h : ∀ i ∈ l, 0 ≤ i ∧ i < (bs.length : Int)) : ∃ m : List (PlI bs), m.map (·.1) = l ∧ m.map (plD bs) = l.map .int := by
  refine ⟨l.attach.map fun x => ⟨x.1, h x.1 x.2⟩, ?_, ?_⟩
  · rw [List.map_map]
    exact List.attach_map_subtype_val l
  · rw [List.map_map]
    have e : l.attach.map (fun x => Dt.int x.1) = (l.attach.map (·.1)).map .int := by rw [List.map_map]; rfl
    exact e.trans (by rw [List.attach_map_subtype_val])
theorem seq_at {k : Bool} {G H : Hp} {Q : VK} {x : V} {bs : List Bar} {i : Int} (hx : Rp K G x (seqD k (bs.map barD))) (e : Same G H) (h : 0 ≤ i ∧ i < (bs.length : Int)) (q : ∀ v, Rp K G v (.tup [.int (lotB bs i).1, optD (lotB bs i).2]) → Q v H) : rIx K x (.int i) H Q := by
  cases k with
  | true => exact go_ixA hx e (lotB_at h.1 h.2) q
  | false => exact go_ixB hx e (lotB_at h.1 h.2) q
def spEld (K : PySem.W.Frag) (P_ : Addr) (lq : Str) (F : List Bar → List Int → List Int) : Sp := fun vs H Q _ => ∃ (x y : V) (k k2 : Bool) (G : Hp) (bs : List Bar) (l : List Int) (ps : Array Value), vs = [x, y] ∧ Same G H ∧ G P_ = none ∧ H P_ = some (.tbl ps) ∧ TabP G ps lq ∧ Rp K G x (seqD k (bs.map barD)) ∧ Rp K G y (seqD k2 (l.map .int)) ∧ (∀ i ∈ l, 0 ≤ i ∧ i < (bs.length : Int)) ∧ l.length ≤ 1000 ∧
  ∀ p ps' G1 H1, Adv [P_] G H G1 H1 → H1 P_ = some (.tbl ps') → TabP G1 ps' lq → Rp K G1 p (.lst ((F bs l).map .int)) → Q p H1
theorem go_eld {G0 H0 G H : Hp} {D : List Addr} {M : List (Addr × HO)} {Q : VK} {E : XK} {x y : V} {k k2 : Bool} {bs : List Bar} {l : List Int} {ps : Array Value} {P_ : Addr} {lq : Str} {F : List Bar → List Int → List Int} {i : Nat} (hS : Sta K G0 H0 D G M H) (hi : M[i]? = some (P_, .tbl ps)) (tab : TabP G ps lq) (hx : Rp K G x (seqD k (bs.map barD))) (hy : Rp K G y (seqD k2 (l.map .int))) (hl : ∀ i ∈ l, 0 ≤ i ∧ i < (bs.length : Int)) (hn : l.length ≤ 1000)
    (q : ∀ p ps' G1 H1, TabP G1 ps' lq → Same G G1 → Sta K G0 H0 D G1 (M.set i (P_, .tbl ps')) H1 → Rp K G1 p (.lst ((F bs l).map .int)) → Q p H1) : spEld K P_ lq F [x, y] H Q E :=
  ⟨x, y, k, k2, G, bs, l, ps, rfl, hS.gh, (hS.mh _ (List.mem_of_getElem? hi)).2.1, hS.get hi, tab, hx, hy, hl, hn, fun p ps' G1 H1 ad g1 g2 g3 => q p ps' G1 H1 g2 ad.gg (hS.callM hi ad g1) g3⟩
theorem ok_eldest (T : Txt K mg A) (B : Tbs base mg A) : FnOk P w K mg base CX0 5 A.f_eldest A.d_eldest ["bars", "places"] (spEld K A.p_eldest lq_eldest eldS) := by
  refine T.FC_eldest.ok sc_eldest (fun vs H Q E h => by first | (obtain ⟨rfl, _⟩ := h; rfl) | (obtain ⟨_, rfl, _⟩ := h; rfl) | (obtain ⟨_, _, rfl, _⟩ := h; rfl) | (obtain ⟨_, _, _, rfl, _⟩ := h; rfl) | (obtain ⟨_, _, _, _, rfl, _⟩ := h; rfl) | (obtain ⟨_, _, _, _, _, rfl, _⟩ := h; rfl) | (obtain ⟨_, _, _, _, _, _, rfl, _⟩ := h; rfl) | (obtain ⟨_, _, _, _, _, _, _, rfl, _⟩ := h; rfl) | (obtain ⟨_, _, _, _, _, _, _, _, rfl, _⟩ := h; rfl) | (obtain ⟨_, _, _, _, _, _, _, _, _, rfl, _⟩ := h; rfl) | (obtain ⟨_, _, _, _, _, _, _, _, _, _, rfl, _⟩ := h; rfl) | (obtain ⟨_, _, _, _, _, _, _, _, _, _, _, rfl, _⟩ := h; rfl) | (obtain ⟨_, _, _, _, _, _, _, _, _, _, _, _, rfl, _⟩ := h; rfl) | (obtain ⟨_, _, _, _, _, _, _, _, _, _, _, _, _, rfl, _⟩ := h; rfl) | exact wk_len h) (fun AA outer s H vs Q E hr h => ?_)
  obtain ⟨x, y, k, k2, G, bs, l, ps, rfl, hG, hgp, hP, tab, hx, hy, hl, hn, q⟩ := h
  refine ⟨_, (pss_one (ps_ret (pe_sortL (N := ["place", "bars"]) (fr := ["bars"]) (x := "place") (q := lq_eldest) (js := [0]) (n := 1) B.tb_eldest rfl (by rfl) (by rfl) T.z_sorted (pa_cons (pv 1) pa_nil) (NdefX.nscope_by (by first | kernel_rfl | rfl)) (by first | kernel_rfl | rfl) (by rfl) (hr.mono (by first | decide | omega)) (by rfl) (fun _ _ _ _ _ => by rfl) (fun _ _ _ _ hr => (pe_ix (show IxR _ (rIx K) from ix_seq) (pe_ix (show IxR _ (rIx K) from ix_seq) (pv 1) (pv 0) (fun _ _ => rfl)) pe_int (fun _ _ => rfl)))))), ?_⟩
  try dsimp only [cxOf, Cx.nox, Cx.wish, Cx.blk]
  have hS := Sta.start1 (K := K) hG hP hgp
  obtain ⟨m, em, ed⟩ := pl_lift hl
  refine go_start (σ := [some x, some y]) rfl ?_
  walk_at "go"
  refine go_soK (i := 0) (as := m) (Da := plD bs) (kf := fun i => [(lotB bs i.1).1]) (kd := fun l => .int (l.getD 0 0)) hS rfl tab (by rw [ed]; cases k2 with
    | true => exact .inr hy
    | false => exact .inl hy) (fun Gb eb => ?_) (fun ks G1 H1 e h => .inl (keysT_i (kv := fun i => (lotB bs i.1).1) (fun a _ => rfl) h)) fun due dv ps' G21 H21 d0 dg e21 tab2 hS21 hdv => ?_
  · intro z c G0 H0 G H D M Q e0 hS hz q
    have hx' := hx.up (eb.trans e0)
    have hz' : Rp K G z (.int c.1) := hz
    cases Rp.int_inv hz'
    walk_at "go"
    refine seq_at hx' hS.gh c.2 fun v hv => ?_
    walk_at "go"
    exact q _ _ _ (Same.refl _) hS (.int _)
  simp only [List.set_cons_zero] at hS21
  obtain ⟨G3, e3, hS3, r3⟩ := hS21.frzL d0 hdv
  have et : (srtA (fun i : PlI bs => [(lotB bs i.1).1]) m).map (plD bs) = (eldS bs l).map .int := by
    have := srtA_map (fun i : PlI bs => i.1) (fun i => [(lotB bs i).1]) m
    rw [em] at this
    unfold eldS
    rw [← this, List.map_map]
    rfl
  rw [et] at r3
  exact q _ ps' _ _ hS3.adv (hS3.get (i := 0) rfl) (tab2.up e3) r3
/-! ### pairs by deaths -/
theorem zw_pr : ∀ (as bs : List Int), List.zipWith (fun a b => Dt.tup [Dt.int a, Dt.int b]) as bs = (as.zip bs).map prD
  | [], _ => by simp
  | _ :: _, [] => by simp
  | a :: as, b :: bs => congrArg (Dt.tup [.int a, .int b] :: ·) (zw_pr as bs)
theorem flat_len {α β : Type} {f : α → List β} {B : Nat} (h : ∀ a, (f a).length ≤ B) : ∀ l : List α, (l.flatMap f).length ≤ l.length * B
  | [] => by simp
  | a :: l => by
    rw [List.flatMap_cons, List.length_append, List.length_cons, Nat.add_mul, Nat.one_mul]
    have := h a
    have := flat_len h l
    omega
theorem ixs_len (n : Nat) (p : Nat → Bool) : (ixs n p).length ≤ n := by
  unfold ixs
  rw [List.length_map]
  exact Nat.le_trans (List.length_filter_le _ _) (by simp)
theorem ixs_bd {bs : List Bar} {p : Nat → Bool} : ∀ i ∈ ixs bs.length p, 0 ≤ i ∧ i < (bs.length : Int) := fun i hi => by
  obtain ⟨k, hk, _, rfl⟩ := ixs_mem.mp hi
  omega
theorem ixs_nD (n : Nat) (p : Nat → Bool) : ((List.range n).filter p).map nD = (ixs n p).map .int := by
  unfold ixs
  rw [List.map_map]
  rfl
theorem nev_ix (bs : List Bar) : (nevL bs).map nD = (ixs bs.length fun k => decide ((lotB bs (k : Int)).2 = none)).map .int := by
  rw [← ixs_nD]
  unfold nevL
  congr 1
  refine List.filter_congr fun k _ => ?_
  unfold lotB
  rw [Int.toNat_natCast]
  cases (bs.getD k (0, none)).2 <;> rfl
theorem eldS_len (bs : List Bar) (l : List Int) : (eldS bs l).length = l.length := srtA_len _ _
def zipD (part whole : List Bar) (lag d : Int) : List (Int × Int) := (eldS part (ixs part.length fun k => decide ((lotB part (k : Int)).2 = some d))).zip (eldS whole (ixs whole.length fun k => decide ((lotB whole (k : Int)).2 = some (d + lag))))
theorem zipD_len (part whole : List Bar) (lag d : Int) : (zipD part whole lag d).length ≤ part.length := by
  unfold zipD
  rw [List.length_zip, eldS_len]
  have := ixs_len part.length fun k => decide ((lotB part (k : Int)).2 = some d)
  omega
def spBD (K : PySem.W.Frag) (P_ : Addr) (lq : Str) : Sp := fun vs H Q _ => ∃ (x y : V) (lag : Int) (k1 k2 : Bool) (G : Hp) (part whole : List Bar) (ps : Array Value), vs = [x, y, .int lag] ∧ Same G H ∧ G P_ = none ∧ H P_ = some (.tbl ps) ∧ TabP G ps lq ∧ Rp K G x (seqD k1 (part.map barD)) ∧ Rp K G y (seqD k2 (whole.map barD)) ∧ part.length ≤ 60 ∧ whole.length ≤ 60 ∧
  ∀ p vs ps' G1 H1, Adv [P_] G H G1 H1 → H1 P_ = some (.tbl ps') → TabP G1 ps' lq → H p = none → H1 p = some (.lst vs) → G1 p = none → RpAll K G1 vs ((bdF part whole lag).map prD) → Q (.ref p) H1
theorem ok_by_deaths (T : Txt K mg A) (B : Tbs base mg A) : FnOk P w K mg base CX0 6 A.f_by_deaths A.d_by_deaths ["part", "whole", "lag"] (spBD K A.p_eldest lq_eldest) := by
  have G_eldest := ok_eldest (P := P) (w := w) (base := base) T B
  have G_never := ok_never (P := P) (w := w) (base := base) T
  refine T.F_by_deaths.ok sc_by_deaths (fun vs H Q E h => by first | (obtain ⟨rfl, _⟩ := h; rfl) | (obtain ⟨_, rfl, _⟩ := h; rfl) | (obtain ⟨_, _, rfl, _⟩ := h; rfl) | (obtain ⟨_, _, _, rfl, _⟩ := h; rfl) | (obtain ⟨_, _, _, _, rfl, _⟩ := h; rfl) | (obtain ⟨_, _, _, _, _, rfl, _⟩ := h; rfl) | (obtain ⟨_, _, _, _, _, _, rfl, _⟩ := h; rfl) | (obtain ⟨_, _, _, _, _, _, _, rfl, _⟩ := h; rfl) | (obtain ⟨_, _, _, _, _, _, _, _, rfl, _⟩ := h; rfl) | (obtain ⟨_, _, _, _, _, _, _, _, _, rfl, _⟩ := h; rfl) | (obtain ⟨_, _, _, _, _, _, _, _, _, _, rfl, _⟩ := h; rfl) | (obtain ⟨_, _, _, _, _, _, _, _, _, _, _, rfl, _⟩ := h; rfl) | (obtain ⟨_, _, _, _, _, _, _, _, _, _, _, _, rfl, _⟩ := h; rfl) | (obtain ⟨_, _, _, _, _, _, _, _, _, _, _, _, _, rfl, _⟩ := h; rfl) | exact wk_len h) (fun cdv AA outer s H vs Q E hr h => ?_)
  obtain ⟨x, y, lag, k1, k2, G, part, whole, ps, rfl, hG, hgp, hP, tab, hx, hy, l1, l2, q⟩ := h
  refine ⟨_, (pss_cons (ps_set (i := 3) sc_by_deaths.nd rfl (by first | exact Or.inl rfl | exact Or.inr rfl) (pe_lst pa_nil))
      (pss_cons (ps_for PassesOwn.never rfl (pi_list (pe_callB (id := "sorted") (cr_sortedSet rfl) (by rfl) T.z_sorted (by decide +kernel) (pa_cons (pe_si (own := [("bar", 7)]) (g := gName 7) rfl sc_by_deaths.nd ((pi_K k1) (pv 0)) (blkOk_by (N := ["part", "whole", "lag", "pairs", "death", "ours", "theirs", "bar", "place"]) (sc := defScope s_by_deaths) (by decide +kernel)) (fun _ _ _ _ _ => pg_name (i := 7) sc_by_deaths.nd rfl (by first | exact Or.inl rfl | exact Or.inr rfl)) (fun _ _ _ _ _ => (pts_one (pt_cmp (pc_notN (pe_ix (show IxR _ (rIx K) from ix_seq) (pv 7) pe_int (fun _ _ => rfl)))))) (fun _ _ _ _ _ => (pe_ix (show IxR _ (rIx K) from ix_seq) (pv 7) pe_int (fun _ _ => rfl)))) pa_nil))) (pg_name (i := 4) sc_by_deaths.nd rfl (by first | exact Or.inl rfl | exact Or.inr rfl)) (pss_cons (ps_setLc (i := 5) (own := [("place", 8), ("bar", 7)]) (g := gTup K 2 (gCons (gName 8) (gCons (gName 7) gNil))) rfl sc_by_deaths.nd rfl rfl (sw_true rfl rfl rfl (by decide +kernel)) (pi_enumA (by rfl) T.z_enumerate (pa_cons (pv 0) pa_nil)) (blkOk_by (N := ["part", "whole", "lag", "pairs", "death", "ours", "theirs", "bar", "place"]) (sc := defScope s_by_deaths) (by decide +kernel)) (fun _ _ _ _ _ => pg_tup (by rfl) (pgs_cons (pg_name (i := 8) sc_by_deaths.nd rfl (by first | exact Or.inl rfl | exact Or.inr rfl)) (pgs_cons (pg_name (i := 7) sc_by_deaths.nd rfl (by first | exact Or.inl rfl | exact Or.inr rfl)) pgs_nil))) (fun _ _ _ _ _ => (pts_one (pt_cmpR op_eq (pe_ix (show IxR _ (rIx K) from ix_seq) (pv 7) pe_int (fun _ _ => rfl)) (pv 4) (nomark _)))) (fun _ _ _ _ _ => (pv 8)))
      (pss_cons (ps_setLc (i := 6) (own := [("place", 8), ("bar", 7)]) (g := gTup K 2 (gCons (gName 8) (gCons (gName 7) gNil))) rfl sc_by_deaths.nd rfl rfl (sw_true rfl rfl rfl (by decide +kernel)) (pi_enumA (by rfl) T.z_enumerate (pa_cons (pv 1) pa_nil)) (blkOk_by (N := ["part", "whole", "lag", "pairs", "death", "ours", "theirs", "bar", "place"]) (sc := defScope s_by_deaths) (by decide +kernel)) (fun _ _ _ _ _ => pg_tup (by rfl) (pgs_cons (pg_name (i := 8) sc_by_deaths.nd rfl (by first | exact Or.inl rfl | exact Or.inr rfl)) (pgs_cons (pg_name (i := 7) sc_by_deaths.nd rfl (by first | exact Or.inl rfl | exact Or.inr rfl)) pgs_nil))) (fun _ _ _ _ _ => (pts_one (pt_cmpR op_eq (pe_ix (show IxR _ (rIx K) from ix_seq) (pv 7) pe_int (fun _ _ => rfl)) (pe_op op_add (pv 4) (pv 2)) (nomark _)))) (fun _ _ _ _ _ => (pv 8)))
      (pss_one (ps_expr (pe_bm PySem.F.plainAttrs_list PySem.F.slot_list_extend PySem.F.type_list_extend mt_extend (pv 3) (pa_cons (pe_listZip (by rfl) T.z_list (by rfl) T.z_zip (pa_cons (pe_call G_eldest (hr.mono (by first | decide | omega)) (by rfl) T.m_eldest T.F_eldest.kp T.b_eldest .nil pass0 (pa_cons (pv 0) (pa_cons (pv 5) pa_nil))) (pa_cons (pe_call G_eldest (hr.mono (by first | decide | omega)) (by rfl) T.m_eldest T.F_eldest.kp T.b_eldest .nil pass0 (pa_cons (pv 1) (pa_cons (pv 6) pa_nil))) pa_nil))) pa_nil)))))))
      (pss_cons (ps_expr (pe_bm PySem.F.plainAttrs_list PySem.F.slot_list_extend PySem.F.type_list_extend mt_extend (pv 3) (pa_cons (pe_listZip (by rfl) T.z_list (by rfl) T.z_zip (pa_cons (pe_call G_eldest (hr.mono (by first | decide | omega)) (by rfl) T.m_eldest T.F_eldest.kp T.b_eldest .nil pass0 (pa_cons (pv 0) (pa_cons (pe_call G_never (hr.mono (by first | decide | omega)) (by rfl) T.m_never T.F_never.kp T.b_never .nil pass0 (pa_cons (pv 0) pa_nil)) pa_nil))) (pa_cons (pe_call G_eldest (hr.mono (by first | decide | omega)) (by rfl) T.m_eldest T.F_eldest.kp T.b_eldest .nil pass0 (pa_cons (pv 1) (pa_cons (pe_call G_never (hr.mono (by first | decide | omega)) (by rfl) T.m_never T.F_never.kp T.b_never .nil pass0 (pa_cons (pv 1) pa_nil)) pa_nil))) pa_nil))) pa_nil)))
      (pss_one (ps_ret (pe_callB (id := "sorted") (cr_sortT (d := 2) (B := 1000) (by decide)) (by rfl) T.z_sorted (by decide +kernel) (pa_cons (pv 3) pa_nil))))))), ?_⟩
  try dsimp only [cxOf, Cx.nox, Cx.wish, Cx.blk]
  have hS := Sta.start1 (K := K) hG hP hgp
  refine go_start (σ := [some x, some y, some (.int lag), none, none, none, none, none, none]) rfl ?_
  walk_at "go"
  refine go_mutL hS (sz (by simp)) fun pp H1 p0 pg hS1 => ?_
  walk_at "go"
  rename_i xa xs xq xr
  refine scFiltK (k := k1) (as := part) (Da := barD) (p := fun c => !decide (c.2 = none)) (F := fun c => c.2.getD 0) hS1 xq xr (by omega) ?_ ?_
  · intro z c L3 o3 G3 H3 Z Z0 hc hz e3 l3 hS3 fin3 fin30
    obtain ⟨c0, o⟩ := c
    have hz' : Rp K G3 z (.tup [.int c0, optD o]) := hz
    cases o with
    | none =>
      walk_at "go"
      exact fin30 rfl _ _ (Same.refl _) hS3
    | some d =>
      walk_at "go"
      exact fin3 rfl _ _ (Same.refl _) hS3
  intro sv n G2 H2 e2 hS2 hn hsv
  walk_at "go"
  refine go_sortSet hS2 hsv (by omega) fun p3 ks G3 H3 pk mk lk e3 hS3 hr3 => ?_
  have mk' : ∀ k, k ∈ ks ↔ ∃ b ∈ part, b.2 = some k := fun k => by
    rw [mk k]
    simp only [List.mem_map, List.mem_filter, Bool.not_eq_true', decide_eq_false_iff_not]
    constructor
    · rintro ⟨⟨b0, o⟩, ⟨hb, hne⟩, e⟩
      cases o with
      | none => exact absurd rfl hne
      | some d =>
        have e : d = k := e
        subst e
        exact ⟨_, hb, rfl⟩
    · rintro ⟨⟨b0, o⟩, hb, e⟩
      have e : o = some k := e
      subst e
      exact ⟨_, ⟨hb, fun z => by cases z⟩, rfl⟩
  have due := bdP_due (part := part) (whole := whole) (lag := lag) pk mk'
  have tab3 := (tab.up e2).up e3
  have hx3 := (hx.up e2).up e3
  have hy3 := (hy.up e2).up e3
  walk_at "go"
  rename_i kxs kr kq
  refine forL hS3 kq kr (fun i σ G' M' => ∃ (vs : List V) (ps' : Array Value) (u4 u5 u6 : Option V), M' = [(pp, .lst vs), (A.p_eldest, .tbl ps')] ∧ TabP G' ps' lq_eldest ∧ RpAll K G' vs (((ks.take i).flatMap (zipD part whole lag)).map prD) ∧
    σ = [some (.ref xa), some y, some (.int lag), some (.ref pp), u4, u5, u6, none, none]) ⟨[], ps, _, _, _, rfl, tab3, .nil, rfl⟩ ?_ ?_
  · rintro i w d σ G4 M4 H4 hi hd e4 hS4 hw ⟨vs, ps4, u4, u5, u6, rfl, tab4, hvs, rfl⟩
    have hi' : i < ks.length := by simpa using hi
    rw [List.getElem?_map, List.getElem?_eq_getElem hi'] at hd
    cases hd
    cases Rp.int_inv hw
    have hx4 := hx3.up e4
    have hy4 := hy3.up e4
    have tk : (ks.take (i + 1)).flatMap (zipD part whole lag) = (ks.take i).flatMap (zipD part whole lag) ++ zipD part whole lag ks[i] := by
      rw [List.take_add_one, List.getElem?_eq_getElem hi', List.flatMap_append]
      simp
    have vl := hvs.length
    rw [List.length_map] at vl
    have fl := flat_len (B := 60) (fun d => Nat.le_trans (zipD_len part whole lag d) l1) (ks.take i)
    have tl : (ks.take i).length ≤ 64 := by rw [List.length_take]; omega
    have zl := zipD_len part whole lag ks[i]
    have vb : vs.length ≤ 64 * 60 := by omega
    generalize ks[i] = d at *
    walk_at "go"
    refine go_etkK hx4 hS4.gh fun a5 xs5 ea hq5 hr5 => ?_
    cases ea
    refine lcFiltE (k := k1) (as := part) (Da := barD) (p := fun j => decide ((lotB part (j : Int)).2 = some d)) (F := nD) hS4 hq5 hr5 (by omega) ?_ ?_
    · intro i z c L5 G5 vs5 es5 H5 Z Z0 hi hc hz e5 l5 hS5 hvs5 fin5 fin50 σ2 eσ
      have ec : lotB part (i : Int) = c := by unfold lotB; rw [Int.toNat_natCast, List.getD, hc]; rfl
      rw [ec] at fin5 fin50
      subst eσ
      simp only [wipe, List.set_cons_zero, List.set_cons_succ, List.map_cons, List.map_nil, List.foldl_cons, List.foldl_nil]
      refine ⟨trivial, ?_⟩
      obtain ⟨c0, o⟩ := c
      have hz' : Rp K G5 z (.tup [.int c0, optD o]) := hz
      cases o with
      | none =>
        walk_at "go"
        exact fin50 rfl _ _ (Same.refl _) hS5
      | some t =>
        walk_at "go"
        · rename_i hd
          exact fin5 (decide_eq_true (by rw [hd])) _ _ _ (Same.refl _) hS5 (.int _)
        · rename_i hd
          exact fin50 (decide_eq_false fun z => hd (by cases z; rfl)) _ _ (Same.refl _) hS5
    intro p5 G5 H5 e5 hS5 hr5'
    rw [ixs_nD] at hr5'
    have hy5 := hy4.up e5
    have hx5 := hx4.up e5
    walk_at "go"
    refine go_etkK hy5 hS5.gh fun a6 xs6 ea hq6 hr6 => ?_
    cases ea
    refine lcFiltE (k := k2) (as := whole) (Da := barD) (p := fun j => decide ((lotB whole (j : Int)).2 = some (d + lag))) (F := nD) hS5 hq6 hr6 (by omega) ?_ ?_
    · intro i z c L6 G6 vs6 es6 H6 Z Z0 hi hc hz e6 l6 hS6 hvs6 fin6 fin60 σ2 eσ
      have ec : lotB whole (i : Int) = c := by unfold lotB; rw [Int.toNat_natCast, List.getD, hc]; rfl
      rw [ec] at fin6 fin60
      subst eσ
      simp only [wipe, List.set_cons_zero, List.set_cons_succ, List.map_cons, List.map_nil, List.foldl_cons, List.foldl_nil]
      refine ⟨trivial, ?_⟩
      obtain ⟨c0, o⟩ := c
      have hz' : Rp K G6 z (.tup [.int c0, optD o]) := hz
      cases o with
      | none =>
        walk_at "go"
        exact fin60 rfl _ _ (Same.refl _) hS6
      | some t =>
        walk_at "go"
        · rename_i hd
          exact fin6 (decide_eq_true (by rw [hd])) _ _ _ (Same.refl _) hS6 (.int _)
        · rename_i hd
          exact fin60 (decide_eq_false fun z => hd (by cases z; rfl)) _ _ (Same.refl _) hS6
    intro p6 G6 H6 e6 hS6 hr6'
    rw [ixs_nD] at hr6'
    have hx6 := hx5.up e6
    have hy6 := hy5.up e6
    walk_at "go"
    refine go_eld (i := 1) (k := k1) (k2 := false) hS6 rfl ((tab4.up e5).up e6) hx6 (hr5'.up e6) ixs_bd (Nat.le_trans (ixs_len _ _) (by omega)) fun z7 ps7 G7 H7 tab7 e7 hS7 hz7 => ?_
    simp only [List.set_cons_zero, List.set_cons_succ] at hS7
    walk_at "go"
    refine go_eld (i := 1) (k := k2) (k2 := false) hS7 rfl tab7 (hy6.up e7) (hr6'.up e7) ixs_bd (Nat.le_trans (ixs_len _ _) (by omega)) fun z8 ps8 G8 H8 tab8 e8 hS8 hz8 => ?_
    simp only [List.set_cons_zero, List.set_cons_succ] at hS8
    walk_at "go"
    refine go_lz hS8 (hz7.up e8) hz8 (by rw [eldS_len]; exact Nat.le_trans (ixs_len _ _) (by omega)) (by rw [eldS_len]; exact Nat.le_trans (ixs_len _ _) (by omega)) fun p9 G9 H9 e9 hS9 hz9 => ?_
    obtain ⟨zs, hzs, hzr⟩ := hz9
    rw [zw_pr] at hzr
    have zsl := hzr.length
    rw [List.length_map] at zsl
    have hzr' : RpAll K G9 zs ((zipD part whole lag d).map prD) := hzr
    have zsl : zs.length = (zipD part whole lag d).length := zsl
    walk_at "go"
    refine go_ext (i := 0) hS9 rfl hzs (by omega) rfl fun H10 hS10 => ?_
    walk_at "go"
    refine Nx.mk hS10 (((((e4.trans e5).trans e6).trans e7).trans e8).trans e9) ⟨_, _, _, _, _, rfl, tab8.up e9, ?_, rfl⟩
    rw [tk, List.map_append]
    exact (hvs.up ((((e5.trans e6).trans e7).trans e8).trans e9)).app hzr'
  rintro σ' G4 M4 H4 e4 hS4 ⟨vs, ps4, u4, u5, u6, rfl, tab4, hvs, rfl⟩
  rw [List.length_map, List.take_length] at hvs
  have hx4 := hx3.up e4
  have hy4 := hy3.up e4
  have fl := flat_len (B := 60) (fun d => Nat.le_trans (zipD_len part whole lag d) l1) ks
  have vl := hvs.length
  rw [List.length_map] at vl
  have vb : vs.length ≤ 64 * 60 := by omega
  walk_at "go"
  refine go_never hS4 hx4 (by omega) fun p5 G5 H5 e5 hS5 hr5 => ?_
  rw [nev_ix] at hr5
  walk_at "go"
  refine go_eld (i := 1) (k := k1) (k2 := true) hS5 rfl (tab4.up e5) (hx4.up e5) hr5 ixs_bd (Nat.le_trans (ixs_len _ _) (by omega)) fun z6 ps6 G6 H6 tab6 e6 hS6 hz6 => ?_
  simp only [List.set_cons_zero, List.set_cons_succ] at hS6
  have hy6 := (hy4.up e5).up e6
  walk_at "go"
  refine go_never hS6 hy6 (by omega) fun p7 G7 H7 e7 hS7 hr7 => ?_
  rw [nev_ix] at hr7
  walk_at "go"
  refine go_eld (i := 1) (k := k2) (k2 := true) hS7 rfl (tab6.up e7) (hy6.up e7) hr7 ixs_bd (Nat.le_trans (ixs_len _ _) (by omega)) fun z8 ps8 G8 H8 tab8 e8 hS8 hz8 => ?_
  simp only [List.set_cons_zero, List.set_cons_succ] at hS8
  walk_at "go"
  refine go_lz hS8 ((hz6.up e7).up e8) hz8 (by rw [eldS_len]; exact Nat.le_trans (ixs_len _ _) (by omega)) (by rw [eldS_len]; exact Nat.le_trans (ixs_len _ _) (by omega)) fun p9 G9 H9 e9 hS9 hz9 => ?_
  obtain ⟨zs, hzs, hzr⟩ := hz9
  rw [zw_pr] at hzr
  have zsl := hzr.length
  rw [List.length_map, List.length_zip, eldS_len] at zsl
  have il := ixs_len part.length fun k => decide ((lotB part (k : Int)).2 = none)
  walk_at "go"
  refine go_ext (i := 0) hS9 rfl hzs (by omega) rfl fun H10 hS10 => ?_
  have hall := (hvs.up ((((e5.trans e6).trans e7).trans e8).trans e9)).app hzr
  rw [← List.map_append] at hall
  have hall' : RpAll K G9 (vs ++ zs) ((bdP part whole lag ks).map prD) := hall
  have dl := due_len due
  obtain ⟨G11, e11, hS11, hpp⟩ := hS10.frzL p0 hall'
  walk_at "go"
  refine go_sortPM hS11 hpp (by omega) (fun p hp => by
    have := dl.2 p hp
    omega) fun p12 vs12 qs H12 z12 g12 pm pw hS12 hr12 => ?_
  have eq := sorted_due due pm pw
  subst eq
  walk_at "go"
  exact q _ _ _ _ _ hS12.pop.adv (hS12.get (i := 1) rfl) ((tab8.up e9).up e11) z12 (hS12.get (i := 0) rfl) ((hS12.mh _ (List.mem_cons_self)).2.1) hr12
theorem go_bd {G0 H0 G H : Hp} {D : List Addr} {M : List (Addr × HO)} {Q : VK} {E : XK} {x y : V} {lag : Int} {k1 k2 : Bool} {part whole : List Bar} {ps : Array Value} {P_ : Addr} {lq : Str} {i : Nat} (hS : Sta K G0 H0 D G M H) (hi : M[i]? = some (P_, .tbl ps)) (tab : TabP G ps lq) (hx : Rp K G x (seqD k1 (part.map barD))) (hy : Rp K G y (seqD k2 (whole.map barD))) (l1 : part.length ≤ 60) (l2 : whole.length ≤ 60)
    (q : ∀ p vs ps' G1 H1, TabP G1 ps' lq → Same G G1 → H0 p = none → G p = none → Sta K G0 H0 D G1 ((p, .lst vs) :: M.set i (P_, .tbl ps')) H1 → RpAll K G1 vs ((bdF part whole lag).map prD) → Q (.ref p) H1) : spBD K P_ lq [x, y, .int lag] H Q E :=
  ⟨x, y, lag, k1, k2, G, part, whole, ps, rfl, hS.gh, (hS.mh _ (List.mem_of_getElem? hi)).2.1, hS.get hi, tab, hx, hy, l1, l2, fun p vs ps' G1 H1 ad g1 g2 n0 n1 n2 g3 => q p vs ps' G1 H1 g2 ad.gg (hS.h0 n0) (hS.gn n0) ((hS.callM hi ad g1).adopt n1 n2 (hS.h0 n0) fun z hz e => by
    rcases set_mem hS.md hi hz with rfl | ⟨hz, _⟩
    · rw [← e, hS.get hi] at n0
      cases n0
    · rw [← e, (hS.mh _ hz).1] at n0
      cases n0) g3⟩
/-! ### places, the longest first -/
theorem ok_longest (T : Txt K mg A) (B : Tbs base mg A) : FnOk P w K mg base CX0 5 A.f_longest A.d_longest ["bars", "places"] (spEld K A.p_longest lq_longest lngS) := by
  refine T.FC_longest.ok sc_longest (fun vs H Q E h => by first | (obtain ⟨rfl, _⟩ := h; rfl) | (obtain ⟨_, rfl, _⟩ := h; rfl) | (obtain ⟨_, _, rfl, _⟩ := h; rfl) | (obtain ⟨_, _, _, rfl, _⟩ := h; rfl) | (obtain ⟨_, _, _, _, rfl, _⟩ := h; rfl) | (obtain ⟨_, _, _, _, _, rfl, _⟩ := h; rfl) | (obtain ⟨_, _, _, _, _, _, rfl, _⟩ := h; rfl) | (obtain ⟨_, _, _, _, _, _, _, rfl, _⟩ := h; rfl) | (obtain ⟨_, _, _, _, _, _, _, _, rfl, _⟩ := h; rfl) | (obtain ⟨_, _, _, _, _, _, _, _, _, rfl, _⟩ := h; rfl) | (obtain ⟨_, _, _, _, _, _, _, _, _, _, rfl, _⟩ := h; rfl) | (obtain ⟨_, _, _, _, _, _, _, _, _, _, _, rfl, _⟩ := h; rfl) | (obtain ⟨_, _, _, _, _, _, _, _, _, _, _, _, rfl, _⟩ := h; rfl) | (obtain ⟨_, _, _, _, _, _, _, _, _, _, _, _, _, rfl, _⟩ := h; rfl) | exact wk_len h) (fun AA outer s H vs Q E hr h => ?_)
  obtain ⟨x, y, k, k2, G, bs, l, ps, rfl, hG, hgp, hP, tab, hx, hy, hl, hn, q⟩ := h
  refine ⟨_, (pss_cons (ps_setLc (i := 2) (own := [("place", 3)]) (g := gName 3) rfl sc_longest.nd rfl rfl (sw_true rfl rfl rfl (by decide +kernel)) ((pi_K k2) (pv 1)) (blkOk_by (N := ["bars", "places", "rest", "place"]) (sc := defScope s_longest) (by decide +kernel)) (fun _ _ _ _ _ => pg_name (i := 3) sc_longest.nd rfl (by first | exact Or.inl rfl | exact Or.inr rfl)) (fun _ _ _ _ _ => (pts_one (pt_cmp (pc_notN (pe_ix (show IxR _ (rIx K) from ix_seq) (pe_ix (show IxR _ (rIx K) from ix_seq) (pv 0) (pv 3) (fun _ _ => rfl)) pe_int (fun _ _ => rfl)))))) (fun _ _ _ _ _ => (pv 3)))
      (pss_one (ps_ret (pe_op op_cat (pe_lc (own := [("place", 3)]) (g := gName 3) rfl sc_longest.nd ((pi_K k2) (pv 1)) (blkOk_by (N := ["bars", "places", "rest", "place"]) (sc := defScope s_longest) (by decide +kernel)) (fun _ _ _ _ _ => pg_name (i := 3) sc_longest.nd rfl (by first | exact Or.inl rfl | exact Or.inr rfl)) (fun _ _ _ _ _ => (pts_one (pt_cmp (pc_isN (pe_ix (show IxR _ (rIx K) from ix_seq) (pe_ix (show IxR _ (rIx K) from ix_seq) (pv 0) (pv 3) (fun _ _ => rfl)) pe_int (fun _ _ => rfl)))))) (fun _ _ _ _ _ => (pv 3))) (pe_sortL (N := ["place", "bars"]) (fr := ["bars"]) (x := "place") (q := lq_longest) (js := [0]) (n := 1) B.tb_longest rfl (by rfl) (by rfl) T.z_sorted (pa_cons (pv 2) pa_nil) (NdefX.nscope_by (by first | kernel_rfl | rfl)) (by first | kernel_rfl | rfl) (by rfl) (hr.mono (by first | decide | omega)) (by rfl) (fun _ _ _ _ _ => by rfl) (fun _ _ _ _ hr => (pe_un un_neg (pe_ix (show IxR _ (rIx K) from ix_seq) (pe_ix (show IxR _ (rIx K) from ix_seq) (pv 1) (pv 0) (fun _ _ => rfl)) pe_int (fun _ _ => rfl))))))))), ?_⟩
  try dsimp only [cxOf, Cx.nox, Cx.wish, Cx.blk]
  have hS := Sta.start1 (K := K) hG hP hgp
  obtain ⟨m, em, ed⟩ := sub_lift hl
  have ml : m.length = l.length := by rw [← em, List.length_map]
  refine go_start (σ := [some x, some y, none, none]) rfl ?_
  walk_at "go"
  rename_i ya yxs yq yr
  have yr' : RpAll K G yxs (m.map fun i => Dt.int i.1) := by rw [ed]; exact yr
  have key : ∀ {G3 H3 : Hp} {M3 : List (Addr × HO)} {z : V} {c : {i : Int // 0 ≤ i ∧ i < (bs.length : Int)}} {R : VK}, Same G G3 → Sta K G H [A.p_longest] G3 M3 H3 → Rp K G3 z (.int c.1) → (∀ v, Rp K G3 v (.tup [.int (lotB bs c.1).1, optD (lotB bs c.1).2]) → R v H3) → rIx K x z H3 R := fun {G3 H3 M3 z c R} e s hz q => by
    cases Rp.int_inv hz
    exact seq_at (hx.up e) s.gh c.2 q
  refine lcFiltK (k := k2) (as := m) (Da := fun i => Dt.int i.1) (p := fun i => !decide ((lotB bs i.1).2 = none)) (F := fun i => Dt.int i.1) hS yq yr' (by omega) ?_ ?_
  · intro z c L3 G3 vs3 es3 H3 Z Z0 hc hz e3 l3 hS3 hvs3 fin3 fin30
    walk_at "go"
    refine key e3 hS3 hz fun v hv => ?_
    generalize (lotB bs c.1).2 = o at *
    cases o with
    | none =>
      walk_at "go"
      exact fin30 rfl _ _ (Same.refl _) hS3
    | some d =>
      walk_at "go"
      exact fin3 rfl _ _ _ (Same.refl _) hS3 hz
  intro p3 G3 H3 e3 hS3 hr3
  have fm : ((m.filter fun i => !decide ((lotB bs i.1).2 = none)).map fun i => Dt.int i.1) = (l.filter fun i => !decide ((lotB bs i).2 = none)).map .int := by
    rw [← em, List.filter_map, List.map_map]
    rfl
  rw [fm] at hr3
  have fl : ∀ i ∈ l.filter fun i => !decide ((lotB bs i).2 = none), (0 ≤ i ∧ i < (bs.length : Int)) ∧ (lotB bs i).2 ≠ none := fun i hi => by
    have h2 := (List.mem_filter.mp hi).2
    refine ⟨hl i (List.mem_filter.mp hi).1, fun e => ?_⟩
    rw [e] at h2
    cases h2
  have yq3 := yq.up e3
  have yr3 := yr'.up e3
  have hy3 := hy.up e3
  walk_at "go"
  rename_i yxb yrb yqb
  refine lcFiltKR (k := k2) (as := m) (Da := fun i => Dt.int i.1) (p := fun i => decide ((lotB bs i.1).2 = none)) (F := fun i => Dt.int i.1) hS3 yqb (by rw [ed]; exact yrb) (by omega) ?_ ?_
  · intro z c L4 G4 vs4 es4 H4 Z Z0 hc hz e4 l4 hS4 hvs4 fin4 fin40
    walk_at "go"
    refine key (e3.trans e4) hS4 hz fun v hv => ?_
    generalize (lotB bs c.1).2 = o at *
    cases o with
    | none =>
      walk_at "go"
      exact fin4 rfl _ _ _ (Same.refl _) hS4 hz
    | some d =>
      walk_at "go"
      exact fin40 rfl _ _ (Same.refl _) hS4
  intro p4 G4 H4 e4 hS4 hr4
  have fm2 : ((m.filter fun i => decide ((lotB bs i.1).2 = none)).map fun i => Dt.int i.1) = (l.filter fun i => decide ((lotB bs i).2 = none)).map .int := by
    rw [← em, List.filter_map, List.map_map]
    rfl
  rw [fm2] at hr4
  have hr34 := hr3.up e4
  obtain ⟨m2, em2, ed2⟩ := sub_lift fl
  walk_at "go"
  refine go_soK (i := 0) (as := m2) (Da := fun i => Dt.int i.1) (kf := fun i => [-((lotB bs i.1).2.getD 0)]) (kd := fun l => .int (l.getD 0 0)) hS4 rfl ((tab.up e3).up e4) (.inl (by rw [ed2]; exact hr34)) (fun Gb eb => ?_) (fun ks G1 H1 e h => .inl (keysT_i (kv := fun i => -((lotB bs i.1).2.getD 0)) (fun a _ => rfl) h)) fun due dv ps' G21 H21 d0 dg e21 tab2 hS21 hdv => ?_
  · intro z c G0 H0 G' H' D M Q e0 hS' hz q
    have hx' := hx.up (((e3.trans e4).trans eb).trans e0)
    have hz' : Rp K G' z (.int c.1) := hz
    cases Rp.int_inv hz'
    walk_at "go"
    refine seq_at hx' hS'.gh c.2.1 fun v hv => ?_
    have ne := c.2.2
    cases eo : (lotB bs c.1).2 with
    | none => exact absurd eo ne
    | some d =>
      rw [eo] at hv
      have hk : Rp K G' (.int (-d)) (.int (-((lotB bs c.1).2.getD 0))) := by rw [eo]; exact .int _
      walk_at "go"
      exact q _ _ _ (Same.refl _) hS' hk
  simp only [List.set_cons_zero] at hS21
  obtain ⟨hS5, e5⟩ := hS21.frz d0
  obtain ⟨ls, hls, hlr⟩ := hr4
  have vl := hdv.length
  have ll := hlr.length
  rw [List.length_map, srtA_len] at vl
  rw [List.length_map] at ll
  have f1 := List.length_filter_le (fun i => decide ((lotB bs i).2 = none)) l
  have f2 := List.length_filter_le (fun i => !decide ((lotB bs i).2 = none)) l
  have m2l : m2.length = (l.filter fun i => !decide ((lotB bs i).2 = none)).length := by rw [← em2, List.length_map]
  walk_at "go"
  refine go_cat_ hS5 (e5 _ _ (e21 _ _ hls)) upd_same (by omega) fun p6 G6 H6 e6 hS6 hp6 => ?_
  walk_at "go"
  refine q _ ps' _ _ hS6.adv (hS6.get (i := 0) rfl) ((tab2.up e5).up e6) (raw_l hp6 ?_)
  have et : (srtA (fun i : {i : Int // (0 ≤ i ∧ i < (bs.length : Int)) ∧ (lotB bs i).2 ≠ none} => [-((lotB bs i.1).2.getD 0)]) m2).map (fun i => Dt.int i.1) = (srtA (fun i => [-((lotB bs i).2.getD 0)]) (l.filter fun i => !decide ((lotB bs i).2 = none))).map .int := by
    have := srtA_map (fun i : {i : Int // (0 ≤ i ∧ i < (bs.length : Int)) ∧ (lotB bs i).2 ≠ none} => i.1) (fun i => [-((lotB bs i).2.getD 0)]) m2
    rw [em2] at this
    rw [← this, List.map_map]
    rfl
  unfold lngS
  rw [List.map_append, ← et]
  exact (hlr.up ((e21.trans e5).trans e6)).app (hdv.up (e5.trans e6))
/-! ### pairs by births -/
theorem lngS_len (bs : List Bar) (l : List Int) : (lngS bs l).length = l.length := (lngS_perm bs l).length_eq
def zipB (whole made : List Bar) (d : Int) : List (Int × Int) := (lngS whole (ixs whole.length fun k => decide ((lotB whole (k : Int)).1 = d))).zip (lngS made (ixs made.length fun k => decide ((lotB made (k : Int)).1 = d)))
theorem zipB_len (whole made : List Bar) (d : Int) : (zipB whole made d).length ≤ whole.length := by
  unfold zipB
  rw [List.length_zip, lngS_len]
  have := ixs_len whole.length fun k => decide ((lotB whole (k : Int)).1 = d)
  omega
def spBB (K : PySem.W.Frag) (P_ : Addr) (lq : Str) : Sp := fun vs H Q _ => ∃ (x y : V) (k1 k2 : Bool) (G : Hp) (whole made : List Bar) (ps : Array Value), vs = [x, y] ∧ Same G H ∧ G P_ = none ∧ H P_ = some (.tbl ps) ∧ TabP G ps lq ∧ Rp K G x (seqD k1 (whole.map barD)) ∧ Rp K G y (seqD k2 (made.map barD)) ∧ whole.length ≤ 60 ∧ made.length ≤ 60 ∧
  ∀ p vs ps' G1 H1, Adv [P_] G H G1 H1 → H1 P_ = some (.tbl ps') → TabP G1 ps' lq → H p = none → H1 p = some (.lst vs) → G1 p = none → RpAll K G1 vs ((bbF whole made).map prD) → Q (.ref p) H1
theorem ok_by_births (T : Txt K mg A) (B : Tbs base mg A) : FnOk P w K mg base CX0 6 A.f_by_births A.d_by_births ["whole", "made"] (spBB K A.p_longest lq_longest) := by
  have G_longest := ok_longest (P := P) (w := w) (base := base) T B
  refine T.F_by_births.ok sc_by_births (fun vs H Q E h => by first | (obtain ⟨rfl, _⟩ := h; rfl) | (obtain ⟨_, rfl, _⟩ := h; rfl) | (obtain ⟨_, _, rfl, _⟩ := h; rfl) | (obtain ⟨_, _, _, rfl, _⟩ := h; rfl) | (obtain ⟨_, _, _, _, rfl, _⟩ := h; rfl) | (obtain ⟨_, _, _, _, _, rfl, _⟩ := h; rfl) | (obtain ⟨_, _, _, _, _, _, rfl, _⟩ := h; rfl) | (obtain ⟨_, _, _, _, _, _, _, rfl, _⟩ := h; rfl) | (obtain ⟨_, _, _, _, _, _, _, _, rfl, _⟩ := h; rfl) | (obtain ⟨_, _, _, _, _, _, _, _, _, rfl, _⟩ := h; rfl) | (obtain ⟨_, _, _, _, _, _, _, _, _, _, rfl, _⟩ := h; rfl) | (obtain ⟨_, _, _, _, _, _, _, _, _, _, _, rfl, _⟩ := h; rfl) | (obtain ⟨_, _, _, _, _, _, _, _, _, _, _, _, rfl, _⟩ := h; rfl) | (obtain ⟨_, _, _, _, _, _, _, _, _, _, _, _, _, rfl, _⟩ := h; rfl) | exact wk_len h) (fun cdv AA outer s H vs Q E hr h => ?_)
  obtain ⟨x, y, k1, k2, G, whole, made, ps, rfl, hG, hgp, hP, tab, hx, hy, l1, l2, q⟩ := h
  refine ⟨_, (pss_cons (ps_set (i := 2) sc_by_births.nd rfl (by first | exact Or.inl rfl | exact Or.inr rfl) (pe_lst pa_nil))
      (pss_cons (ps_for PassesOwn.never rfl (pi_list (pe_callB (id := "sorted") (cr_sortedSet rfl) (by rfl) T.z_sorted (by decide +kernel) (pa_cons (pe_si (own := [("bar", 6)]) (g := gName 6) rfl sc_by_births.nd ((pi_K k2) (pv 1)) (blkOk_by (N := ["whole", "made", "pairs", "birth", "ours", "theirs", "bar", "place"]) (sc := defScope s_by_births) (by decide +kernel)) (fun _ _ _ _ _ => pg_name (i := 6) sc_by_births.nd rfl (by first | exact Or.inl rfl | exact Or.inr rfl)) (fun _ _ _ _ _ => pts_nil) (fun _ _ _ _ _ => (pe_ix (show IxR _ (rIx K) from ix_seq) (pv 6) pe_int (fun _ _ => rfl)))) pa_nil))) (pg_name (i := 3) sc_by_births.nd rfl (by first | exact Or.inl rfl | exact Or.inr rfl)) (pss_cons (ps_setLc (i := 4) (own := [("place", 7), ("bar", 6)]) (g := gTup K 2 (gCons (gName 7) (gCons (gName 6) gNil))) rfl sc_by_births.nd rfl rfl (sw_true rfl rfl rfl (by decide +kernel)) (pi_enumA (by rfl) T.z_enumerate (pa_cons (pv 0) pa_nil)) (blkOk_by (N := ["whole", "made", "pairs", "birth", "ours", "theirs", "bar", "place"]) (sc := defScope s_by_births) (by decide +kernel)) (fun _ _ _ _ _ => pg_tup (by rfl) (pgs_cons (pg_name (i := 7) sc_by_births.nd rfl (by first | exact Or.inl rfl | exact Or.inr rfl)) (pgs_cons (pg_name (i := 6) sc_by_births.nd rfl (by first | exact Or.inl rfl | exact Or.inr rfl)) pgs_nil))) (fun _ _ _ _ _ => (pts_one (pt_cmpR op_eq (pe_ix (show IxR _ (rIx K) from ix_seq) (pv 6) pe_int (fun _ _ => rfl)) (pv 3) (nomark _)))) (fun _ _ _ _ _ => (pv 7)))
      (pss_cons (ps_setLc (i := 5) (own := [("place", 7), ("bar", 6)]) (g := gTup K 2 (gCons (gName 7) (gCons (gName 6) gNil))) rfl sc_by_births.nd rfl rfl (sw_true rfl rfl rfl (by decide +kernel)) (pi_enumA (by rfl) T.z_enumerate (pa_cons (pv 1) pa_nil)) (blkOk_by (N := ["whole", "made", "pairs", "birth", "ours", "theirs", "bar", "place"]) (sc := defScope s_by_births) (by decide +kernel)) (fun _ _ _ _ _ => pg_tup (by rfl) (pgs_cons (pg_name (i := 7) sc_by_births.nd rfl (by first | exact Or.inl rfl | exact Or.inr rfl)) (pgs_cons (pg_name (i := 6) sc_by_births.nd rfl (by first | exact Or.inl rfl | exact Or.inr rfl)) pgs_nil))) (fun _ _ _ _ _ => (pts_one (pt_cmpR op_eq (pe_ix (show IxR _ (rIx K) from ix_seq) (pv 6) pe_int (fun _ _ => rfl)) (pv 3) (nomark _)))) (fun _ _ _ _ _ => (pv 7)))
      (pss_one (ps_expr (pe_bm PySem.F.plainAttrs_list PySem.F.slot_list_extend PySem.F.type_list_extend mt_extend (pv 2) (pa_cons (pe_listZip (by rfl) T.z_list (by rfl) T.z_zip (pa_cons (pe_call G_longest (hr.mono (by first | decide | omega)) (by rfl) T.m_longest T.F_longest.kp T.b_longest .nil pass0 (pa_cons (pv 0) (pa_cons (pv 4) pa_nil))) (pa_cons (pe_call G_longest (hr.mono (by first | decide | omega)) (by rfl) T.m_longest T.F_longest.kp T.b_longest .nil pass0 (pa_cons (pv 1) (pa_cons (pv 5) pa_nil))) pa_nil))) pa_nil)))))))
      (pss_one (ps_ret (pe_callB (id := "sorted") (cr_sortT (d := 2) (B := 1000) (by decide)) (by rfl) T.z_sorted (by decide +kernel) (pa_cons (pv 2) pa_nil)))))), ?_⟩
  try dsimp only [cxOf, Cx.nox, Cx.wish, Cx.blk]
  have hS := Sta.start1 (K := K) hG hP hgp
  refine go_start (σ := [some x, some y, none, none, none, none, none, none]) rfl ?_
  walk_at "go"
  refine go_mutL hS (sz (by simp)) fun pp H1 p0 pg hS1 => ?_
  walk_at "go"
  rename_i ya yxs yr yq
  refine scFiltK (k := k2) (as := made) (Da := barD) (p := fun c => true) (F := fun c => c.1) hS1 ‹SqK k2 K G _ _› ‹RpAll K G _ (made.map barD)› (by omega) ?_ ?_
  · intro z c L3 o3 G3 H3 Z Z0 hc hz e3 l3 hS3 fin3 fin30
    obtain ⟨c0, o⟩ := c
    have hz' : Rp K G3 z (.tup [.int c0, optD o]) := hz
    walk_at "go"
    exact fin3 rfl _ _ (Same.refl _) hS3
  intro sv n G2 H2 e2 hS2 hn hsv
  rw [List.filter_eq_self.mpr fun _ _ => rfl] at hsv
  walk_at "go"
  refine go_sortSet hS2 hsv (by omega) fun p3 ks G3 H3 pk mk lk e3 hS3 hr3 => ?_
  have mk' : ∀ k, k ∈ ks ↔ ∃ b ∈ made, b.1 = k := fun k => by
    rw [mk k, List.mem_map]
  have due := bbP_due (whole := whole) (made := made) pk mk'
  have tab3 := (tab.up e2).up e3
  have hx3 := (hx.up e2).up e3
  have hy3 := (hy.up e2).up e3
  walk_at "go"
  rename_i kxs kr kq
  refine forL hS3 kq kr (fun i σ G' M' => ∃ (vs : List V) (ps' : Array Value) (u3 u4 u5 : Option V), M' = [(pp, .lst vs), (A.p_longest, .tbl ps')] ∧ TabP G' ps' lq_longest ∧ RpAll K G' vs (((ks.take i).flatMap (zipB whole made)).map prD) ∧
    σ = [some x, some (.ref ya), some (.ref pp), u3, u4, u5, none, none]) ⟨[], ps, _, _, _, rfl, tab3, .nil, rfl⟩ ?_ ?_
  · rintro i w d σ G4 M4 H4 hi hd e4 hS4 hw ⟨vs, ps4, u3, u4, u5, rfl, tab4, hvs, rfl⟩
    have hi' : i < ks.length := by simpa using hi
    rw [List.getElem?_map, List.getElem?_eq_getElem hi'] at hd
    cases hd
    cases Rp.int_inv hw
    have hx4 := hx3.up e4
    have hy4 := hy3.up e4
    have tk : (ks.take (i + 1)).flatMap (zipB whole made) = (ks.take i).flatMap (zipB whole made) ++ zipB whole made ks[i] := by
      rw [List.take_add_one, List.getElem?_eq_getElem hi', List.flatMap_append]
      simp
    have vl := hvs.length
    rw [List.length_map] at vl
    have fl := flat_len (B := 60) (fun d => Nat.le_trans (zipB_len whole made d) l1) (ks.take i)
    have tl : (ks.take i).length ≤ 64 := by rw [List.length_take]; omega
    have zl := zipB_len whole made ks[i]
    have vb : vs.length ≤ 64 * 60 := by omega
    generalize ks[i] = d at *
    walk_at "go"
    refine go_etkK hx4 hS4.gh fun a5 xs5 ea hq5 hr5 => ?_
    cases ea
    refine lcFiltE (k := k1) (as := whole) (Da := barD) (p := fun j => decide ((lotB whole (j : Int)).1 = d)) (F := nD) hS4 hq5 hr5 (by omega) ?_ ?_
    · intro i z c L5 G5 vs5 es5 H5 Z Z0 hi hc hz e5 l5 hS5 hvs5 fin5 fin50 σ2 eσ
      have ec : lotB whole (i : Int) = c := by unfold lotB; rw [Int.toNat_natCast, List.getD, hc]; rfl
      rw [ec] at fin5 fin50
      subst eσ
      simp only [wipe, List.set_cons_zero, List.set_cons_succ, List.map_cons, List.map_nil, List.foldl_cons, List.foldl_nil]
      refine ⟨trivial, ?_⟩
      obtain ⟨c0, o⟩ := c
      have hz' : Rp K G5 z (.tup [.int c0, optD o]) := hz
      walk_at "go"
      · rename_i hd
        exact fin5 (decide_eq_true hd) _ _ _ (Same.refl _) hS5 (.int _)
      · rename_i hd
        exact fin50 (decide_eq_false hd) _ _ (Same.refl _) hS5
    intro p5 G5 H5 e5 hS5 hr5'
    rw [ixs_nD] at hr5'
    have hy5 := hy4.up e5
    have hx5 := hx4.up e5
    walk_at "go"
    refine go_etkK hy5 hS5.gh fun a6 xs6 ea hq6 hr6 => ?_
    cases ea
    refine lcFiltE (k := k2) (as := made) (Da := barD) (p := fun j => decide ((lotB made (j : Int)).1 = d)) (F := nD) hS5 hq6 hr6 (by omega) ?_ ?_
    · intro i z c L6 G6 vs6 es6 H6 Z Z0 hi hc hz e6 l6 hS6 hvs6 fin6 fin60 σ2 eσ
      have ec : lotB made (i : Int) = c := by unfold lotB; rw [Int.toNat_natCast, List.getD, hc]; rfl
      rw [ec] at fin6 fin60
      subst eσ
      simp only [wipe, List.set_cons_zero, List.set_cons_succ, List.map_cons, List.map_nil, List.foldl_cons, List.foldl_nil]
      refine ⟨trivial, ?_⟩
      obtain ⟨c0, o⟩ := c
      have hz' : Rp K G6 z (.tup [.int c0, optD o]) := hz
      walk_at "go"
      · rename_i hd
        exact fin6 (decide_eq_true hd) _ _ _ (Same.refl _) hS6 (.int _)
      · rename_i hd
        exact fin60 (decide_eq_false hd) _ _ (Same.refl _) hS6
    intro p6 G6 H6 e6 hS6 hr6'
    rw [ixs_nD] at hr6'
    have hx6 := hx5.up e6
    have hy6 := hy5.up e6
    walk_at "go"
    refine go_eld (i := 1) (k := k1) (k2 := false) hS6 rfl ((tab4.up e5).up e6) hx6 (hr5'.up e6) ixs_bd (Nat.le_trans (ixs_len _ _) (by omega)) fun z7 ps7 G7 H7 tab7 e7 hS7 hz7 => ?_
    simp only [List.set_cons_zero, List.set_cons_succ] at hS7
    walk_at "go"
    refine go_eld (i := 1) (k := k2) (k2 := false) hS7 rfl tab7 (hy6.up e7) (hr6'.up e7) ixs_bd (Nat.le_trans (ixs_len _ _) (by omega)) fun z8 ps8 G8 H8 tab8 e8 hS8 hz8 => ?_
    simp only [List.set_cons_zero, List.set_cons_succ] at hS8
    walk_at "go"
    refine go_lz hS8 (hz7.up e8) hz8 (by rw [lngS_len]; exact Nat.le_trans (ixs_len _ _) (by omega)) (by rw [lngS_len]; exact Nat.le_trans (ixs_len _ _) (by omega)) fun p9 G9 H9 e9 hS9 hz9 => ?_
    obtain ⟨zs, hzs, hzr⟩ := hz9
    rw [zw_pr] at hzr
    have zsl := hzr.length
    rw [List.length_map] at zsl
    have hzr' : RpAll K G9 zs ((zipB whole made d).map prD) := hzr
    have zsl : zs.length = (zipB whole made d).length := zsl
    walk_at "go"
    refine go_ext (i := 0) hS9 rfl hzs (by omega) rfl fun H10 hS10 => ?_
    walk_at "go"
    refine Nx.mk hS10 (((((e4.trans e5).trans e6).trans e7).trans e8).trans e9) ⟨_, _, _, _, _, rfl, tab8.up e9, ?_, rfl⟩
    rw [tk, List.map_append]
    exact (hvs.up ((((e5.trans e6).trans e7).trans e8).trans e9)).app hzr'
  rintro σ' G4 M4 H4 e4 hS4 ⟨vs, ps4, u3, u4, u5, rfl, tab4, hvs, rfl⟩
  rw [List.length_map, List.take_length] at hvs
  have hvs' : RpAll K G4 vs ((bbP whole made ks).map prD) := hvs
  have dl := due_len due
  obtain ⟨G11, e11, hS11, hpp⟩ := hS4.frzL p0 hvs'
  walk_at "go"
  refine go_sortPM hS11 hpp (by omega) (fun p hp => by
    have := dl.2 p hp
    omega) fun p12 vs12 qs H12 z12 g12 pm pw hS12 hr12 => ?_
  have eq := sorted_due due pm pw
  subst eq
  walk_at "go"
  exact q _ _ _ _ _ hS12.pop.adv (hS12.get (i := 1) rfl) (tab4.up e11) z12 (hS12.get (i := 0) rfl) ((hS12.mh _ (List.mem_cons_self)).2.1) hr12
theorem go_bb {G0 H0 G H : Hp} {D : List Addr} {M : List (Addr × HO)} {Q : VK} {E : XK} {x y : V} {k1 k2 : Bool} {whole made : List Bar} {ps : Array Value} {P_ : Addr} {lq : Str} {i : Nat} (hS : Sta K G0 H0 D G M H) (hi : M[i]? = some (P_, .tbl ps)) (tab : TabP G ps lq) (hx : Rp K G x (seqD k1 (whole.map barD))) (hy : Rp K G y (seqD k2 (made.map barD))) (l1 : whole.length ≤ 60) (l2 : made.length ≤ 60)
    (q : ∀ p vs ps' G1 H1, TabP G1 ps' lq → Same G G1 → H0 p = none → G p = none → Sta K G0 H0 D G1 ((p, .lst vs) :: M.set i (P_, .tbl ps')) H1 → RpAll K G1 vs ((bbF whole made).map prD) → Q (.ref p) H1) : spBB K P_ lq [x, y] H Q E :=
  ⟨x, y, k1, k2, G, whole, made, ps, rfl, hS.gh, (hS.mh _ (List.mem_of_getElem? hi)).2.1, hS.get hi, tab, hx, hy, l1, l2, fun p vs ps' G1 H1 ad g1 g2 n0 n1 n2 g3 => q p vs ps' G1 H1 g2 ad.gg (hS.h0 n0) (hS.gn n0) ((hS.callM hi ad g1).adopt n1 n2 (hS.h0 n0) fun z hz e => by
    rcases set_mem hS.md hi hz with rfl | ⟨hz, _⟩
    · rw [← e, hS.get hi] at n0
      cases n0
    · rw [← e, (hS.mh _ hz).1] at n0
      cases n0) g3⟩
local macro_rules | `(tactic| walk_at "s") => `(tactic| first
  | ((with_reducible refine' go_ixB (G := ?G) (ds := ?ds) (d := ?d) ?hx ?e ?hi ?_); (case e => exact Sta.gh (by assumption)); (case hx => walk_at "rp"); (case hi => with_reducible assumption); walk_at "val")
  | ((with_reducible refine' go_ixA (G := ?G) (ds := ?ds) (d := ?d) ?hx ?e ?hi ?_); (case e => exact Sta.gh (by assumption)); (case hx => walk_at "rp"); (case hi => with_reducible assumption); walk_at "val") | fail)
/-! ### the law's pairs by ranks -/
theorem go_eqO {G H : Hp} {Q : VK} {v : V} {t o : Option Int} (hv : Rp K G v (optD t)) (q : Q (.bl (decide (t = o))) H) : rEq v (optV o) H Q := by
  have := optD_inv hv
  subst this
  cases t <;> cases o
  · exact go_eqNN q
  · exact go_eqNI (by simpa using q)
  · exact go_eqIN (by simpa using q)
  · rename_i a b
    refine go_eqI ?_
    have e : decide (some a = some b) = decide (a = b) := by simp
    rw [e] at q
    exact q
theorem rnk_clsD {part : List Bar} {lag : Int} {lt : Int → Int → Bool} {n i : Nat} : rnkN n (clsD part lag) lt i = rnkN n (fun k => (lotB part (k : Int)).2) lt i := by
  unfold rnkN
  congr 1
  refine List.filter_congr fun k _ => ?_
  congr 1
  show decide (((lotB part (k : Int)).2).map (· + lag) = ((lotB part (i : Int)).2).map (· + lag)) = decide ((lotB part (k : Int)).2 = (lotB part (i : Int)).2)
  generalize (lotB part (k : Int)).2 = s
  generalize (lotB part (i : Int)).2 = t
  cases s <;> cases t <;> rw [Bool.eq_iff_iff] <;> simp
def spEB (K : PySem.W.Frag) (F : List Bar → Int → Int → Bool) : Sp := fun vs H Q _ => ∃ (x : V) (i j : Int) (G : Hp) (bs : List Bar), vs = [x, .int i, .int j] ∧ Same G H ∧ Rp K G x (.lst (bs.map barD)) ∧ (0 ≤ i ∧ i < (bs.length : Int)) ∧ (0 ≤ j ∧ j < (bs.length : Int)) ∧ Q (.bl (F bs i j)) H
theorem go_eb {G0 H0 G H : Hp} {D : List Addr} {M : List (Addr × HO)} {Q : VK} {E : XK} {x : V} {i j : Int} {bs : List Bar} {F : List Bar → Int → Int → Bool} (hS : Sta K G0 H0 D G M H) (hx : Rp K G x (.lst (bs.map barD))) (hi : 0 ≤ i ∧ i < (bs.length : Int)) (hj : 0 ≤ j ∧ j < (bs.length : Int)) (q : Q (.bl (F bs i j)) H) : spEB K F [x, .int i, .int j] H Q E := ⟨x, i, j, G, bs, rfl, hS.gh, hx, hi, hj, q⟩
theorem ok_law_elder (T : Txt K mg A) : FnOk P w K mg base CX0 1 A.f_law_elder A.d_law_elder ["bars", "one", "other"] (spEB K eldB) := by
  refine T.F_law_elder.ok sc_law_elder (fun vs H Q E h => by first | (obtain ⟨rfl, _⟩ := h; rfl) | (obtain ⟨_, rfl, _⟩ := h; rfl) | (obtain ⟨_, _, rfl, _⟩ := h; rfl) | (obtain ⟨_, _, _, rfl, _⟩ := h; rfl) | (obtain ⟨_, _, _, _, rfl, _⟩ := h; rfl) | (obtain ⟨_, _, _, _, _, rfl, _⟩ := h; rfl) | (obtain ⟨_, _, _, _, _, _, rfl, _⟩ := h; rfl) | (obtain ⟨_, _, _, _, _, _, _, rfl, _⟩ := h; rfl) | (obtain ⟨_, _, _, _, _, _, _, _, rfl, _⟩ := h; rfl) | (obtain ⟨_, _, _, _, _, _, _, _, _, rfl, _⟩ := h; rfl) | (obtain ⟨_, _, _, _, _, _, _, _, _, _, rfl, _⟩ := h; rfl) | (obtain ⟨_, _, _, _, _, _, _, _, _, _, _, rfl, _⟩ := h; rfl) | (obtain ⟨_, _, _, _, _, _, _, _, _, _, _, _, rfl, _⟩ := h; rfl) | (obtain ⟨_, _, _, _, _, _, _, _, _, _, _, _, _, rfl, _⟩ := h; rfl) | exact wk_len h) (fun cdv AA outer s H vs Q E hr h => ?_)
  obtain ⟨x, i, j, G, bs, rfl, hG, hx, hi, hj, q⟩ := h
  refine ⟨_, (pss_one (ps_ret (pe_or (pe_cmpR op_lt (pe_ix ix_seq (pe_ix ix_seq (pv 0) (pv 1) (fun _ _ => rfl)) pe_int (fun _ _ => rfl)) (pe_ix ix_seq (pe_ix ix_seq (pv 0) (pv 2) (fun _ _ => rfl)) pe_int (fun _ _ => rfl)) (nomark _)) (pe_one (pe_and (pe_cmpR op_eq (pe_ix ix_seq (pe_ix ix_seq (pv 0) (pv 1) (fun _ _ => rfl)) pe_int (fun _ _ => rfl)) (pe_ix ix_seq (pe_ix ix_seq (pv 0) (pv 2) (fun _ _ => rfl)) pe_int (fun _ _ => rfl)) (nomark _)) (pe_one (pe_cmpR op_lt (pv 1) (pv 2) (nomark _)))))))), ?_⟩
  try dsimp only [cxOf, Cx.nox, Cx.wish, Cx.blk]
  have hS := Sta.start (K := K) hG
  refine go_start (σ := [some x, some (.int i), some (.int j)]) rfl ?_
  have ai : atI (bs.map barD) i = some (.tup [.int (lotB bs i).1, optD (lotB bs i).2]) := lotB_at hi.1 hi.2
  have aj : atI (bs.map barD) j = some (.tup [.int (lotB bs j).1, optD (lotB bs j).2]) := lotB_at hj.1 hj.2
  have fin : ∀ {b : Bool}, b = eldB bs i j → Q (.bl b) H := fun e => by rw [e]; exact q
  clear q
  walk_at "go"
  all_goals (refine fin ?_; rw [Bool.eq_iff_iff]; simp only [eldB, Bool.or_eq_true, Bool.and_eq_true, decide_eq_true_eq, true_iff, iff_true, Bool.false_eq_true, false_iff]; omega)
theorem ok_law_longer (T : Txt K mg A) : FnOk P w K mg base CX0 1 A.f_law_longer A.d_law_longer ["bars", "one", "other"] (spEB K lngB) := by
  refine T.F_law_longer.ok sc_law_longer (fun vs H Q E h => by first | (obtain ⟨rfl, _⟩ := h; rfl) | (obtain ⟨_, rfl, _⟩ := h; rfl) | (obtain ⟨_, _, rfl, _⟩ := h; rfl) | (obtain ⟨_, _, _, rfl, _⟩ := h; rfl) | (obtain ⟨_, _, _, _, rfl, _⟩ := h; rfl) | (obtain ⟨_, _, _, _, _, rfl, _⟩ := h; rfl) | (obtain ⟨_, _, _, _, _, _, rfl, _⟩ := h; rfl) | (obtain ⟨_, _, _, _, _, _, _, rfl, _⟩ := h; rfl) | (obtain ⟨_, _, _, _, _, _, _, _, rfl, _⟩ := h; rfl) | (obtain ⟨_, _, _, _, _, _, _, _, _, rfl, _⟩ := h; rfl) | (obtain ⟨_, _, _, _, _, _, _, _, _, _, rfl, _⟩ := h; rfl) | (obtain ⟨_, _, _, _, _, _, _, _, _, _, _, rfl, _⟩ := h; rfl) | (obtain ⟨_, _, _, _, _, _, _, _, _, _, _, _, rfl, _⟩ := h; rfl) | (obtain ⟨_, _, _, _, _, _, _, _, _, _, _, _, _, rfl, _⟩ := h; rfl) | exact wk_len h) (fun cdv AA outer s H vs Q E hr h => ?_)
  obtain ⟨x, i, j, G, bs, rfl, hG, hx, hi, hj, q⟩ := h
  refine ⟨_, (pss_cons (ps_if (pt_cmpR op_eq (pe_ix ix_seq (pe_ix ix_seq (pv 0) (pv 1) (fun _ _ => rfl)) pe_int (fun _ _ => rfl)) (pe_ix ix_seq (pe_ix ix_seq (pv 0) (pv 2) (fun _ _ => rfl)) pe_int (fun _ _ => rfl)) (nomark _)) (pss_one (ps_ret (pe_cmpR op_lt (pv 1) (pv 2) (nomark _)))) pss_nil)
      (pss_cons (ps_if (PW.pt (pw_or (pt_cmp (pc_isN (pe_ix ix_seq (pe_ix ix_seq (pv 0) (pv 1) (fun _ _ => rfl)) pe_int (fun _ _ => rfl)))) (pw_or1 (pt_cmp (pc_isN (pe_ix ix_seq (pe_ix ix_seq (pv 0) (pv 2) (fun _ _ => rfl)) pe_int (fun _ _ => rfl))))))) (pss_one (ps_ret (pe_cmp (pc_isN (pe_ix ix_seq (pe_ix ix_seq (pv 0) (pv 1) (fun _ _ => rfl)) pe_int (fun _ _ => rfl))) rfl))) pss_nil)
      (pss_one (ps_ret (pe_cmpR op_gt (pe_ix ix_seq (pe_ix ix_seq (pv 0) (pv 1) (fun _ _ => rfl)) pe_int (fun _ _ => rfl)) (pe_ix ix_seq (pe_ix ix_seq (pv 0) (pv 2) (fun _ _ => rfl)) pe_int (fun _ _ => rfl)) (nomark _)))))), ?_⟩
  try dsimp only [cxOf, Cx.nox, Cx.wish, Cx.blk]
  have hS := Sta.start (K := K) hG
  refine go_start (σ := [some x, some (.int i), some (.int j)]) rfl ?_
  have ai : atI (bs.map barD) i = some (.tup [.int (lotB bs i).1, optD (lotB bs i).2]) := lotB_at hi.1 hi.2
  have aj : atI (bs.map barD) j = some (.tup [.int (lotB bs j).1, optD (lotB bs j).2]) := lotB_at hj.1 hj.2
  unfold lngB at q
  generalize (lotB bs i).2 = s at *
  generalize (lotB bs j).2 = t at *
  cases s <;> cases t
  · walk_at "go"
    rw [if_pos rfl] at q
    exact q
  · walk_at "go"
    rw [if_neg (fun z => by cases z)] at q
    exact q
  · walk_at "go"
    rw [if_neg (fun z => by cases z)] at q
    exact q
  · rename_i s0 t0
    walk_at "go"
    · have h := ‹s0 = t0›
      rw [if_pos (by rw [h])] at q
      exact q
    · have h := ‹¬ s0 = t0›
      rw [if_neg (fun z => h (by cases z; rfl))] at q
      exact q
def rowP (c : Nat → Nat → Bool) (i m : Nat) : List (Int × Int) := ((List.range m).filter (c i)).map fun j : Nat => ((i : Int), (j : Int))
theorem rowP_succ (c : Nat → Nat → Bool) (i m : Nat) : rowP c i (m + 1) = rowP c i m ++ if c i m = true then [((i : Int), (m : Int))] else [] := by
  unfold rowP
  rw [List.range_succ, List.filter_append, List.map_append]
  by_cases h : c i m = true <;> simp [h]
theorem rowP_len (c : Nat → Nat → Bool) (i m : Nat) : (rowP c i m).length ≤ m := by
  unfold rowP
  rw [List.length_map]
  exact Nat.le_trans (List.length_filter_le _ _) (by simp)
def dueI (c : Nat → Nat → Bool) (m i : Nat) : List (Int × Int) := (List.range i).flatMap fun i => rowP c i m
theorem dueI_succ (c : Nat → Nat → Bool) (m i : Nat) : dueI c m (i + 1) = dueI c m i ++ rowP c i m := by
  unfold dueI
  rw [List.range_succ, List.flatMap_append]
  simp
theorem dueI_len (c : Nat → Nat → Bool) (m i : Nat) : (dueI c m i).length ≤ i * m := by
  have := flat_len (f := fun i => rowP c i m) (B := m) (fun a => rowP_len c a m) (List.range i)
  rw [List.length_range] at this
  exact this
def spDueD (K : PySem.W.Frag) : Sp := fun vs H Q _ => ∃ (x y : V) (lag : Int) (G : Hp) (part whole : List Bar), vs = [x, y, .int lag] ∧ Same G H ∧ Rp K G x (.lst (part.map barD)) ∧ Rp K G y (.lst (whole.map barD)) ∧ part.length ≤ 60 ∧ whole.length ≤ 60 ∧ ∀ p G1 H1, Adv [] G H G1 H1 → Rp K G1 p (.lst ((bdF part whole lag).map prD)) → Q p H1
theorem go_dued {G0 H0 G H : Hp} {D : List Addr} {M : List (Addr × HO)} {Q : VK} {E : XK} {x y : V} {lag : Int} {part whole : List Bar} (hS : Sta K G0 H0 D G M H) (hx : Rp K G x (.lst (part.map barD))) (hy : Rp K G y (.lst (whole.map barD))) (l1 : part.length ≤ 60) (l2 : whole.length ≤ 60) (q : ∀ p G1 H1, Same G G1 → Sta K G0 H0 D G1 M H1 → Rp K G1 p (.lst ((bdF part whole lag).map prD)) → Q p H1) : spDueD K [x, y, .int lag] H Q E :=
  ⟨x, y, lag, G, part, whole, rfl, hS.gh, hx, hy, l1, l2, fun p G1 H1 ad r => q p G1 H1 ad.gg (hS.call ad) r⟩
theorem ok_law_due_deaths (T : Txt K mg A) : FnOk P w K mg base CX0 2 A.f_law_due_deaths A.d_law_due_deaths ["part", "whole", "lag"] (spDueD K) := by
  have G_law_elder := ok_law_elder (P := P) (w := w) (base := base) T
  refine T.F_law_due_deaths.ok sc_law_due_deaths (fun vs H Q E h => by first | (obtain ⟨rfl, _⟩ := h; rfl) | (obtain ⟨_, rfl, _⟩ := h; rfl) | (obtain ⟨_, _, rfl, _⟩ := h; rfl) | (obtain ⟨_, _, _, rfl, _⟩ := h; rfl) | (obtain ⟨_, _, _, _, rfl, _⟩ := h; rfl) | (obtain ⟨_, _, _, _, _, rfl, _⟩ := h; rfl) | (obtain ⟨_, _, _, _, _, _, rfl, _⟩ := h; rfl) | (obtain ⟨_, _, _, _, _, _, _, rfl, _⟩ := h; rfl) | (obtain ⟨_, _, _, _, _, _, _, _, rfl, _⟩ := h; rfl) | (obtain ⟨_, _, _, _, _, _, _, _, _, rfl, _⟩ := h; rfl) | (obtain ⟨_, _, _, _, _, _, _, _, _, _, rfl, _⟩ := h; rfl) | (obtain ⟨_, _, _, _, _, _, _, _, _, _, _, rfl, _⟩ := h; rfl) | (obtain ⟨_, _, _, _, _, _, _, _, _, _, _, _, rfl, _⟩ := h; rfl) | (obtain ⟨_, _, _, _, _, _, _, _, _, _, _, _, _, rfl, _⟩ := h; rfl) | exact wk_len h) (fun cdv AA outer s H vs Q E hr h => ?_)
  obtain ⟨x, y, lag, G, part, whole, rfl, hG, hx, hy, l1, l2, q⟩ := h
  refine ⟨_, (pss_cons (ps_set (i := 3) sc_law_due_deaths.nd rfl (by first | exact Or.inl rfl | exact Or.inr rfl) (pe_lst pa_nil))
      (pss_cons (ps_for PassesOwn.never rfl (pi_range1 (by rfl) T.z_range (pa_cons (pe_callB (id := "len") b_len (by rfl) T.z_len (by decide +kernel) (pa_cons (pv 0) pa_nil)) pa_nil)) (pg_name (i := 4) sc_law_due_deaths.nd rfl (by first | exact Or.inl rfl | exact Or.inr rfl)) (pss_cons (ps_set (i := 5) sc_law_due_deaths.nd rfl (by first | exact Or.inl rfl | exact Or.inr rfl) (pe_ix ix_seq (pe_ix ix_seq (pv 0) (pv 4) (fun _ _ => rfl)) pe_int (fun _ _ => rfl)))
      (pss_cons (ps_set (i := 6) sc_law_due_deaths.nd rfl (by first | exact Or.inl rfl | exact Or.inr rfl) (pe_callB (id := "len") b_len (by rfl) T.z_len (by decide +kernel) (pa_cons (pe_lc (own := [("k", 9)]) (g := gName 9) rfl sc_law_due_deaths.nd (pi_range1 (by rfl) T.z_range (pa_cons (pe_callB (id := "len") b_len (by rfl) T.z_len (by decide +kernel) (pa_cons (pv 0) pa_nil)) pa_nil)) (blkOk_by (N := ["part", "whole", "lag", "pairs", "one", "death", "ahead", "other", "before", "k"]) (sc := defScope s_law_due_deaths) (by decide +kernel)) (fun _ _ _ _ _ => pg_name (i := 9) sc_law_due_deaths.nd rfl (by first | exact Or.inl rfl | exact Or.inr rfl)) (fun _ _ _ _ _ => (pts_one (PW.pt (pw_and (pt_cmpR op_eq (pe_ix (show IxR _ (rIx K) from ix_seq) (pe_ix (show IxR _ (rIx K) from ix_seq) (pv 0) (pv 9) (fun _ _ => rfl)) pe_int (fun _ _ => rfl)) (pv 5) (nomark _)) (pw_and1 (pt_val (pe_call G_law_elder (hr.mono (by first | decide | omega)) (by rfl) T.m_law_elder T.F_law_elder.kp T.b_law_elder .nil pass0 (pa_cons (pv 0) (pa_cons (pv 9) (pa_cons (pv 4) pa_nil)))))))))) (fun _ _ _ _ _ => (pv 9))) pa_nil)))
      (pss_cons (ps_if (pt_cmp (pc_notN (pv 5))) (pss_one (ps_set (i := 5) sc_law_due_deaths.nd rfl (by first | exact Or.inl rfl | exact Or.inr rfl) (pe_op op_add (pv 5) (pv 2)))) pss_nil)
      (pss_one (ps_for PassesOwn.never rfl (pi_range1 (by rfl) T.z_range (pa_cons (pe_callB (id := "len") b_len (by rfl) T.z_len (by decide +kernel) (pa_cons (pv 1) pa_nil)) pa_nil)) (pg_name (i := 7) sc_law_due_deaths.nd rfl (by first | exact Or.inl rfl | exact Or.inr rfl)) (pss_one (ps_if (pt_cmpR op_eq (pe_ix ix_seq (pe_ix ix_seq (pv 1) (pv 7) (fun _ _ => rfl)) pe_int (fun _ _ => rfl)) (pv 5) (nomark _)) (pss_cons (ps_set (i := 8) sc_law_due_deaths.nd rfl (by first | exact Or.inl rfl | exact Or.inr rfl) (pe_callB (id := "len") b_len (by rfl) T.z_len (by decide +kernel) (pa_cons (pe_lc (own := [("k", 9)]) (g := gName 9) rfl sc_law_due_deaths.nd (pi_range1 (by rfl) T.z_range (pa_cons (pe_callB (id := "len") b_len (by rfl) T.z_len (by decide +kernel) (pa_cons (pv 1) pa_nil)) pa_nil)) (blkOk_by (N := ["part", "whole", "lag", "pairs", "one", "death", "ahead", "other", "before", "k"]) (sc := defScope s_law_due_deaths) (by decide +kernel)) (fun _ _ _ _ _ => pg_name (i := 9) sc_law_due_deaths.nd rfl (by first | exact Or.inl rfl | exact Or.inr rfl)) (fun _ _ _ _ _ => (pts_one (PW.pt (pw_and (pt_cmpR op_eq (pe_ix (show IxR _ (rIx K) from ix_seq) (pe_ix (show IxR _ (rIx K) from ix_seq) (pv 1) (pv 9) (fun _ _ => rfl)) pe_int (fun _ _ => rfl)) (pv 5) (nomark _)) (pw_and1 (pt_val (pe_call G_law_elder (hr.mono (by first | decide | omega)) (by rfl) T.m_law_elder T.F_law_elder.kp T.b_law_elder .nil pass0 (pa_cons (pv 1) (pa_cons (pv 9) (pa_cons (pv 7) pa_nil)))))))))) (fun _ _ _ _ _ => (pv 9))) pa_nil)))
      (pss_one (ps_if (pt_cmpR op_eq (pv 8) (pv 6) (nomark _)) (pss_one (ps_expr (pe_bm PySem.F.plainAttrs_list PySem.F.slot_list_append PySem.F.type_list_append mt_append (pv 3) (pa_cons (pe_tup (pa_cons (pv 4) (pa_cons (pv 7) pa_nil))) pa_nil)))) pss_nil))) pss_nil))))))))
      (pss_one (ps_ret (pv 3))))), ?_⟩
  try dsimp only [cxOf, Cx.nox, Cx.wish, Cx.blk]
  have hS := Sta.start (K := K) hG
  have pm : (part.map barD).length = part.length := List.length_map ..
  have wm : (whole.map barD).length = whole.length := List.length_map ..
  obtain ⟨c, hc⟩ : ∃ c : Nat → Nat → Bool, c = fun i j : Nat => decide (clsD part lag i = (lotB whole (j : Int)).2) && decide (rnkN part.length (clsD part lag) (eldB part) i = rnkN whole.length (fun k => (lotB whole (k : Int)).2) (eldB whole) j) := ⟨_, rfl⟩
  have hF : bdF part whole lag = dueI c whole.length part.length := by rw [hc]; rfl
  refine go_start (σ := [some x, some y, some (.int lag), none, none, none, none, none, none, none]) rfl ?_
  walk_at "go"
  refine go_mutL hS (sz (by simp)) fun pp H1 p0 pg hS1 => ?_
  walk_at "go"
  refine forR hS1 (fun i σ G' M' => ∃ (vs : List V) (u4 u5 u6 u7 u8 : Option V), M' = [(pp, .lst vs)] ∧ RpAll K G' vs ((dueI c whole.length i).map prD) ∧ σ = [some x, some y, some (.int lag), some (.ref pp), u4, u5, u6, u7, u8, none]) ⟨[], _, _, _, _, _, rfl, .nil, rfl⟩ ?_ ?_
  · rintro i σ G2 M2 H2 hi e2 hS2 ⟨vs, u4, u5, u6, u7, u8, rfl, hvs, rfl⟩
    have hi' : i < part.length := by omega
    have hx2 := hx.up e2
    have hy2 := hy.up e2
    have pi : atI (part.map barD) (0 + (i : Int)) = some (.tup [.int (lotB part (i : Int)).1, optD (lotB part (i : Int)).2]) := by rw [Int.zero_add]; exact lotB_at (by omega) (by omega)
    walk_at "go"
    rename_i v2 hv2
    have ev := optD_inv hv2
    subst ev
    walk_at "go"
    refine lcFiltR (p := fun k => decide ((lotB part (k : Int)).2 = (lotB part (i : Int)).2) && eldB part (k : Int) (i : Int)) (F := nD) hS2 (by omega) ?_ ?_
    · intro k L3 G3 vs3 es3 H3 Z Z0 hk e3 l3 hS3 hvs3 fin3 fin30
      have hk : k < part.length := by omega
      have hx3 := hx2.up e3
      have pk : atI (part.map barD) (0 + (k : Int)) = some (.tup [.int (lotB part (k : Int)).1, optD (lotB part (k : Int)).2]) := by rw [Int.zero_add]; exact lotB_at (by omega) (by omega)
      walk_at "go"
      refine go_eqO (by assumption) ?_
      walk_at "go"
      · rename_i hd
        refine go_eb hS3 hx3 (by omega) (by omega) ?_
        refine go_k ?_
        simp only [Int.zero_add]
        refine go_iteB (fun hb => ?_) (fun hb => ?_)
        · walk_at "go"
          exact fin3 (by rw [decide_eq_true hd, hb]; rfl) _ _ _ (Same.refl _) hS3 (.int _)
        · walk_at "go"
          exact fin30 (by rw [hb, Bool.and_false]) _ _ (Same.refl _) hS3
      · rename_i hd
        exact fin30 (by rw [decide_eq_false hd, Bool.false_and]) _ _ (Same.refl _) hS3
    intro p4 G4 H4 e4 hS4 hr4
    have cnt : ((((List.range part.length).filter fun k : Nat => decide ((lotB part (k : Int)).2 = (lotB part (i : Int)).2) && eldB part (k : Int) (i : Int)).map nD).length : Int) = ((rnkN part.length (clsD part lag) (eldB part) i : Nat) : Int) := by
      rw [List.length_map, rnk_clsD]
      rfl
    have hx4 := hx2.up e4
    have hy4 := hy2.up e4
    walk_at "to"
    rw [pm, Int.toNat_natCast, cnt]
    generalize hrk : rnkN part.length (clsD part lag) (eldB part) i = rk at *
    refine go_seq ?_
    have rk0 : rk ≤ 100 := by
      rw [← hrk]
      unfold rnkN
      exact Nat.le_trans (List.length_filter_le _ _) (by rw [List.length_range]; omega)
    generalize ho : (lotB part (i : Int)).2 = o at *
    have hci : ∀ j : Nat, c i j = (decide (o.map (· + lag) = (lotB whole (j : Int)).2) && decide (rk = rnkN whole.length (fun k => (lotB whole (k : Int)).2) (eldB whole) j)) := fun j => by
      have e1 : clsD part lag i = o.map (· + lag) := by unfold clsD; rw [ho]
      rw [hc]
      simp only [e1, hrk]
    have vl := hvs.length
    rw [List.length_map] at vl
    have dl := dueI_len c whole.length i
    have dm : i * whole.length ≤ 60 * 60 := Nat.mul_le_mul (by omega) l2
    refine go_join (fun σ' H' => Sta K G H [] G4 [(pp, .lst vs)] H' ∧ σ' = [some x, some y, some (.int lag), some (.ref pp), some (.int (0 + (i : Int))), some (optV (o.map (· + lag))), some (.int (rk : Int)), u7, u8, none]) ?_ ?_
    · intro N hN
      cases o with
      | none =>
        walk_at "go"
        exact hN _ _ ⟨hS4, rfl⟩
      | some d =>
        simp only [optV]
        walk_at "go"
        exact hN _ _ ⟨hS4, rfl⟩
    clear hS4 hS2
    rintro σ' H5 ⟨hS5, rfl⟩
    generalize o.map (· + lag) = od at *
    have hvs4 := hvs.up e4
    walk_at "go"
    refine forR hS5 (fun j σ G' M' => ∃ (vs : List V) (u7 u8 : Option V), M' = [(pp, .lst vs)] ∧ RpAll K G' vs ((dueI c whole.length i ++ rowP c i j).map prD) ∧ σ = [some x, some y, some (.int lag), some (.ref pp), some (.int (0 + (i : Int))), some (optV od), some (.int (rk : Int)), u7, u8, none]) ⟨vs, _, _, rfl, by show RpAll K G4 vs ((dueI c whole.length i ++ []).map prD); rw [List.append_nil]; exact hvs4, rfl⟩ ?_ ?_
    · rintro j σ G6 M6 H6 hj e6 hS6 ⟨vs6, u7', u8', rfl, hvs6, rfl⟩
      have hj' : j < whole.length := by omega
      have hx6 := hx4.up e6
      have hy6 := hy4.up e6
      have vl6 := hvs6.length
      rw [List.length_map, List.length_append] at vl6
      have rl := rowP_len c i j
      have hcj := hci j
      have rs := rowP_succ c i j
      have pj : atI (whole.map barD) (0 + (j : Int)) = some (.tup [.int (lotB whole (j : Int)).1, optD (lotB whole (j : Int)).2]) := by rw [Int.zero_add]; exact lotB_at (by omega) (by omega)
      walk_at "go"
      refine go_eqO (by assumption) ?_
      walk_at "go"
      rotate_left
      · rename_i hne
        rw [decide_eq_false (fun z => hne z.symm), Bool.false_and] at hcj
        rw [hcj, if_neg (by decide), List.append_nil] at rs
        refine Nx.mk hS6 e6 ⟨_, _, _, rfl, ?_, rfl⟩
        rw [rs]
        exact hvs6
      rename_i heq
      refine lcFiltR (p := fun k => decide ((lotB whole (k : Int)).2 = od) && eldB whole (k : Int) (j : Int)) (F := nD) hS6 (by omega) ?_ ?_
      · intro k L7 G7 vs7 es7 H7 Z Z0 hk e7 l7 hS7 hvs7 fin7 fin70
        have hk : k < whole.length := by omega
        have hx7 := hy6.up e7
        have pk : atI (whole.map barD) (0 + (k : Int)) = some (.tup [.int (lotB whole (k : Int)).1, optD (lotB whole (k : Int)).2]) := by rw [Int.zero_add]; exact lotB_at (by omega) (by omega)
        walk_at "go"
        refine go_eqO (by assumption) ?_
        walk_at "go"
        · rename_i hd
          refine go_eb hS7 hx7 (by omega) (by omega) ?_
          refine go_k ?_
          simp only [Int.zero_add]
          refine go_iteB (fun hb => ?_) (fun hb => ?_)
          · walk_at "go"
            exact fin7 (by rw [decide_eq_true hd, hb]; rfl) _ _ _ (Same.refl _) hS7 (.int _)
          · walk_at "go"
            exact fin70 (by rw [hb, Bool.and_false]) _ _ (Same.refl _) hS7
        · rename_i hd
          exact fin70 (by rw [decide_eq_false hd, Bool.false_and]) _ _ (Same.refl _) hS7
      intro p8 G8 H8 e8 hS8 hr8
      have cnt8 : ((((List.range whole.length).filter fun k : Nat => decide ((lotB whole (k : Int)).2 = od) && eldB whole (k : Int) (j : Int)).map nD).length : Int) = ((rnkN whole.length (fun k => (lotB whole (k : Int)).2) (eldB whole) j : Nat) : Int) := by
        rw [List.length_map, ← heq]
        rfl
      rw [decide_eq_true heq.symm, Bool.true_and] at hcj
      rw [wm, Int.toNat_natCast] at hr8
      walk_at "go"
      · rename_i hr _ G9 H9 e9 hS9 hr9 H10 hS10
        rw [cnt8] at hr
        have hr : rnkN whole.length (fun k => (lotB whole (k : Int)).2) (eldB whole) j = rk := by omega
        rw [decide_eq_true hr.symm] at hcj
        rw [hcj, if_pos rfl] at rs
        refine Nx.mk hS10 ((e6.trans e8).trans e9) ⟨_, _, _, rfl, ?_, rfl⟩
        rw [rs, ← List.append_assoc, List.map_append]
        rw [Int.zero_add, Int.zero_add] at hr9
        exact (hvs6.up (e8.trans e9)).app (.one hr9)
      · rename_i hr
        rw [cnt8] at hr
        rw [decide_eq_false (fun z => hr (by rw [z]))] at hcj
        rw [hcj, if_neg (by decide), List.append_nil] at rs
        refine Nx.mk hS8 (e6.trans e8) ⟨_, _, _, rfl, ?_, rfl⟩
        rw [rs]
        exact hvs6.up e8
    · rintro σ G6 M6 H6 e6 hS6 ⟨vs6, u7', u8', rfl, hvs6, rfl⟩
      refine Nx.mk hS6 ((e2.trans e4).trans e6) ⟨_, _, _, _, _, _, rfl, ?_, rfl⟩
      rw [dueI_succ]
      rw [wm, Int.toNat_natCast] at hvs6
      exact hvs6
  rintro σ' G2 M2 H2 e2 hS2 ⟨vs, u4, u5, u6, u7, u8, rfl, hvs, rfl⟩
  rw [pm, Int.toNat_natCast, ← hF] at hvs
  obtain ⟨G3, e3, hS3, hr3⟩ := hS2.frzL p0 hvs
  walk_at "go"
  exact q _ _ _ hS3.adv hr3
def spDueB (K : PySem.W.Frag) : Sp := fun vs H Q _ => ∃ (x y : V) (G : Hp) (whole made : List Bar), vs = [x, y] ∧ Same G H ∧ Rp K G x (.lst (whole.map barD)) ∧ Rp K G y (.lst (made.map barD)) ∧ whole.length ≤ 60 ∧ made.length ≤ 60 ∧ ∀ p G1 H1, Adv [] G H G1 H1 → Rp K G1 p (.lst ((bbF whole made).map prD)) → Q p H1
theorem go_dueb {G0 H0 G H : Hp} {D : List Addr} {M : List (Addr × HO)} {Q : VK} {E : XK} {x y : V} {whole made : List Bar} (hS : Sta K G0 H0 D G M H) (hx : Rp K G x (.lst (whole.map barD))) (hy : Rp K G y (.lst (made.map barD))) (l1 : whole.length ≤ 60) (l2 : made.length ≤ 60) (q : ∀ p G1 H1, Same G G1 → Sta K G0 H0 D G1 M H1 → Rp K G1 p (.lst ((bbF whole made).map prD)) → Q p H1) : spDueB K [x, y] H Q E :=
  ⟨x, y, G, whole, made, rfl, hS.gh, hx, hy, l1, l2, fun p G1 H1 ad r => q p G1 H1 ad.gg (hS.call ad) r⟩
theorem ok_law_due_births (T : Txt K mg A) : FnOk P w K mg base CX0 2 A.f_law_due_births A.d_law_due_births ["whole", "made"] (spDueB K) := by
  have G_law_longer := ok_law_longer (P := P) (w := w) (base := base) T
  refine T.F_law_due_births.ok sc_law_due_births (fun vs H Q E h => by first | (obtain ⟨rfl, _⟩ := h; rfl) | (obtain ⟨_, rfl, _⟩ := h; rfl) | (obtain ⟨_, _, rfl, _⟩ := h; rfl) | (obtain ⟨_, _, _, rfl, _⟩ := h; rfl) | (obtain ⟨_, _, _, _, rfl, _⟩ := h; rfl) | (obtain ⟨_, _, _, _, _, rfl, _⟩ := h; rfl) | (obtain ⟨_, _, _, _, _, _, rfl, _⟩ := h; rfl) | (obtain ⟨_, _, _, _, _, _, _, rfl, _⟩ := h; rfl) | (obtain ⟨_, _, _, _, _, _, _, _, rfl, _⟩ := h; rfl) | (obtain ⟨_, _, _, _, _, _, _, _, _, rfl, _⟩ := h; rfl) | (obtain ⟨_, _, _, _, _, _, _, _, _, _, rfl, _⟩ := h; rfl) | (obtain ⟨_, _, _, _, _, _, _, _, _, _, _, rfl, _⟩ := h; rfl) | (obtain ⟨_, _, _, _, _, _, _, _, _, _, _, _, rfl, _⟩ := h; rfl) | (obtain ⟨_, _, _, _, _, _, _, _, _, _, _, _, _, rfl, _⟩ := h; rfl) | exact wk_len h) (fun cdv AA outer s H vs Q E hr h => ?_)
  obtain ⟨x, y, G, whole, made, rfl, hG, hx, hy, l1, l2, q⟩ := h
  refine ⟨_, (pss_cons (ps_set (i := 2) sc_law_due_births.nd rfl (by first | exact Or.inl rfl | exact Or.inr rfl) (pe_lst pa_nil))
      (pss_cons (ps_for PassesOwn.never rfl (pi_range1 (by rfl) T.z_range (pa_cons (pe_callB (id := "len") b_len (by rfl) T.z_len (by decide +kernel) (pa_cons (pv 0) pa_nil)) pa_nil)) (pg_name (i := 3) sc_law_due_births.nd rfl (by first | exact Or.inl rfl | exact Or.inr rfl)) (pss_cons (ps_set (i := 4) sc_law_due_births.nd rfl (by first | exact Or.inl rfl | exact Or.inr rfl) (pe_callB (id := "len") b_len (by rfl) T.z_len (by decide +kernel) (pa_cons (pe_lc (own := [("k", 7)]) (g := gName 7) rfl sc_law_due_births.nd (pi_range1 (by rfl) T.z_range (pa_cons (pe_callB (id := "len") b_len (by rfl) T.z_len (by decide +kernel) (pa_cons (pv 0) pa_nil)) pa_nil)) (blkOk_by (N := ["whole", "made", "pairs", "one", "ahead", "other", "before", "k"]) (sc := defScope s_law_due_births) (by decide +kernel)) (fun _ _ _ _ _ => pg_name (i := 7) sc_law_due_births.nd rfl (by first | exact Or.inl rfl | exact Or.inr rfl)) (fun _ _ _ _ _ => (pts_one (PW.pt (pw_and (pt_cmpR op_eq (pe_ix (show IxR _ (rIx K) from ix_seq) (pe_ix (show IxR _ (rIx K) from ix_seq) (pv 0) (pv 7) (fun _ _ => rfl)) pe_int (fun _ _ => rfl)) (pe_ix (show IxR _ (rIx K) from ix_seq) (pe_ix (show IxR _ (rIx K) from ix_seq) (pv 0) (pv 3) (fun _ _ => rfl)) pe_int (fun _ _ => rfl)) (nomark _)) (pw_and1 (pt_val (pe_call G_law_longer (hr.mono (by first | decide | omega)) (by rfl) T.m_law_longer T.F_law_longer.kp T.b_law_longer .nil pass0 (pa_cons (pv 0) (pa_cons (pv 7) (pa_cons (pv 3) pa_nil)))))))))) (fun _ _ _ _ _ => (pv 7))) pa_nil)))
      (pss_one (ps_for PassesOwn.never rfl (pi_range1 (by rfl) T.z_range (pa_cons (pe_callB (id := "len") b_len (by rfl) T.z_len (by decide +kernel) (pa_cons (pv 1) pa_nil)) pa_nil)) (pg_name (i := 5) sc_law_due_births.nd rfl (by first | exact Or.inl rfl | exact Or.inr rfl)) (pss_one (ps_if (pt_cmpR op_eq (pe_ix ix_seq (pe_ix ix_seq (pv 1) (pv 5) (fun _ _ => rfl)) pe_int (fun _ _ => rfl)) (pe_ix ix_seq (pe_ix ix_seq (pv 0) (pv 3) (fun _ _ => rfl)) pe_int (fun _ _ => rfl)) (nomark _)) (pss_cons (ps_set (i := 6) sc_law_due_births.nd rfl (by first | exact Or.inl rfl | exact Or.inr rfl) (pe_callB (id := "len") b_len (by rfl) T.z_len (by decide +kernel) (pa_cons (pe_lc (own := [("k", 7)]) (g := gName 7) rfl sc_law_due_births.nd (pi_range1 (by rfl) T.z_range (pa_cons (pe_callB (id := "len") b_len (by rfl) T.z_len (by decide +kernel) (pa_cons (pv 1) pa_nil)) pa_nil)) (blkOk_by (N := ["whole", "made", "pairs", "one", "ahead", "other", "before", "k"]) (sc := defScope s_law_due_births) (by decide +kernel)) (fun _ _ _ _ _ => pg_name (i := 7) sc_law_due_births.nd rfl (by first | exact Or.inl rfl | exact Or.inr rfl)) (fun _ _ _ _ _ => (pts_one (PW.pt (pw_and (pt_cmpR op_eq (pe_ix (show IxR _ (rIx K) from ix_seq) (pe_ix (show IxR _ (rIx K) from ix_seq) (pv 1) (pv 7) (fun _ _ => rfl)) pe_int (fun _ _ => rfl)) (pe_ix (show IxR _ (rIx K) from ix_seq) (pe_ix (show IxR _ (rIx K) from ix_seq) (pv 1) (pv 5) (fun _ _ => rfl)) pe_int (fun _ _ => rfl)) (nomark _)) (pw_and1 (pt_val (pe_call G_law_longer (hr.mono (by first | decide | omega)) (by rfl) T.m_law_longer T.F_law_longer.kp T.b_law_longer .nil pass0 (pa_cons (pv 1) (pa_cons (pv 7) (pa_cons (pv 5) pa_nil)))))))))) (fun _ _ _ _ _ => (pv 7))) pa_nil)))
      (pss_one (ps_if (pt_cmpR op_eq (pv 6) (pv 4) (nomark _)) (pss_one (ps_expr (pe_bm PySem.F.plainAttrs_list PySem.F.slot_list_append PySem.F.type_list_append mt_append (pv 2) (pa_cons (pe_tup (pa_cons (pv 3) (pa_cons (pv 5) pa_nil))) pa_nil)))) pss_nil))) pss_nil))))))
      (pss_one (ps_ret (pv 2))))), ?_⟩
  try dsimp only [cxOf, Cx.nox, Cx.wish, Cx.blk]
  have hS := Sta.start (K := K) hG
  have pm : (whole.map barD).length = whole.length := List.length_map ..
  have wm : (made.map barD).length = made.length := List.length_map ..
  obtain ⟨c, hc⟩ : ∃ c : Nat → Nat → Bool, c = fun i j : Nat => decide ((lotB whole (i : Int)).1 = (lotB made (j : Int)).1) && decide (rnkN whole.length (fun k => (lotB whole (k : Int)).1) (lngB whole) i = rnkN made.length (fun k => (lotB made (k : Int)).1) (lngB made) j) := ⟨_, rfl⟩
  have hF : bbF whole made = dueI c made.length whole.length := by rw [hc]; rfl
  refine go_start (σ := [some x, some y, none, none, none, none, none, none]) rfl ?_
  walk_at "go"
  refine go_mutL hS (sz (by simp)) fun pp H1 p0 pg hS1 => ?_
  walk_at "go"
  refine forR hS1 (fun i σ G' M' => ∃ (vs : List V) (u4 u5 u6 u7 : Option V), M' = [(pp, .lst vs)] ∧ RpAll K G' vs ((dueI c made.length i).map prD) ∧ σ = [some x, some y, some (.ref pp), u4, u5, u6, u7, none]) ⟨[], _, _, _, _, rfl, .nil, rfl⟩ ?_ ?_
  · rintro i σ G2 M2 H2 hi e2 hS2 ⟨vs, u4, u5, u6, u7, rfl, hvs, rfl⟩
    have hi' : i < whole.length := by omega
    have hx2 := hx.up e2
    have hy2 := hy.up e2
    have pi : atI (whole.map barD) (0 + (i : Int)) = some (.tup [.int (lotB whole (i : Int)).1, optD (lotB whole (i : Int)).2]) := by rw [Int.zero_add]; exact lotB_at (by omega) (by omega)
    walk_at "go"
    refine lcFiltR (p := fun k => decide ((lotB whole (k : Int)).1 = (lotB whole (i : Int)).1) && lngB whole (k : Int) (i : Int)) (F := nD) hS2 (by omega) ?_ ?_
    · intro k L3 G3 vs3 es3 H3 Z Z0 hk e3 l3 hS3 hvs3 fin3 fin30
      have hk : k < whole.length := by omega
      have hx3 := hx2.up e3
      have pk : atI (whole.map barD) (0 + (k : Int)) = some (.tup [.int (lotB whole (k : Int)).1, optD (lotB whole (k : Int)).2]) := by rw [Int.zero_add]; exact lotB_at (by omega) (by omega)
      walk_at "go"

      · rename_i hd
        refine go_eb hS3 hx3 (by omega) (by omega) ?_
        refine go_k ?_
        simp only [Int.zero_add]
        refine go_iteB (fun hb => ?_) (fun hb => ?_)
        · walk_at "go"
          exact fin3 (by rw [decide_eq_true hd, hb]; rfl) _ _ _ (Same.refl _) hS3 (.int _)
        · walk_at "go"
          exact fin30 (by rw [hb, Bool.and_false]) _ _ (Same.refl _) hS3
      · rename_i hd
        exact fin30 (by rw [decide_eq_false hd, Bool.false_and]) _ _ (Same.refl _) hS3
    intro p4 G4 H4 e4 hS4 hr4
    have cnt : ((((List.range whole.length).filter fun k : Nat => decide ((lotB whole (k : Int)).1 = (lotB whole (i : Int)).1) && lngB whole (k : Int) (i : Int)).map nD).length : Int) = ((rnkN whole.length (fun k => (lotB whole (k : Int)).1) (lngB whole) i : Nat) : Int) := by
      rw [List.length_map]
      rfl
    have hx4 := hx2.up e4
    have hy4 := hy2.up e4
    rw [pm, Int.toNat_natCast] at hr4
    have hci : ∀ j : Nat, c i j = (decide ((lotB whole (i : Int)).1 = (lotB made (j : Int)).1) && decide (rnkN whole.length (fun k => (lotB whole (k : Int)).1) (lngB whole) i = rnkN made.length (fun k => (lotB made (k : Int)).1) (lngB made) j)) := fun j => by rw [hc]
    have vl := hvs.length
    rw [List.length_map] at vl
    have dl := dueI_len c made.length i
    have dm : i * made.length ≤ 60 * 60 := Nat.mul_le_mul (by omega) l2
    have hvs4 := hvs.up e4
    walk_at "go"
    rw [cnt]
    generalize rnkN whole.length (fun k => (lotB whole (k : Int)).1) (lngB whole) i = rk at *
    refine forR hS4 (fun j σ G' M' => ∃ (vs : List V) (u6 u7 : Option V), M' = [(pp, .lst vs)] ∧ RpAll K G' vs ((dueI c made.length i ++ rowP c i j).map prD) ∧ σ = [some x, some y, some (.ref pp), some (.int (0 + (i : Int))), some (.int (rk : Int)), u6, u7, none]) ⟨vs, _, _, rfl, by show RpAll K G4 vs ((dueI c made.length i ++ []).map prD); rw [List.append_nil]; exact hvs4, rfl⟩ ?_ ?_
    · rintro j σ G6 M6 H6 hj e6 hS6 ⟨vs6, u6', u7', rfl, hvs6, rfl⟩
      have hj' : j < made.length := by omega
      have hx6 := hx4.up e6
      have hy6 := hy4.up e6
      have vl6 := hvs6.length
      rw [List.length_map, List.length_append] at vl6
      have rl := rowP_len c i j
      have hcj := hci j
      have rs := rowP_succ c i j
      have pj : atI (made.map barD) (0 + (j : Int)) = some (.tup [.int (lotB made (j : Int)).1, optD (lotB made (j : Int)).2]) := by rw [Int.zero_add]; exact lotB_at (by omega) (by omega)
      walk_at "go"
      rotate_left
      · have hne := ‹¬ (lotB made (j : Int)).1 = (lotB whole (i : Int)).1›
        rw [decide_eq_false (fun z => hne z.symm), Bool.false_and] at hcj
        rw [hcj, if_neg (by decide), List.append_nil] at rs
        refine Nx.mk hS6 e6 ⟨_, _, _, rfl, ?_, rfl⟩
        rw [rs]
        exact hvs6
      have heq := ‹(lotB made (j : Int)).1 = (lotB whole (i : Int)).1›
      refine lcFiltR (p := fun k => decide ((lotB made (k : Int)).1 = (lotB made (j : Int)).1) && lngB made (k : Int) (j : Int)) (F := nD) hS6 (by omega) ?_ ?_
      · intro k L7 G7 vs7 es7 H7 Z Z0 hk e7 l7 hS7 hvs7 fin7 fin70
        have hk : k < made.length := by omega
        have hx7 := hy6.up e7
        have pk : atI (made.map barD) (0 + (k : Int)) = some (.tup [.int (lotB made (k : Int)).1, optD (lotB made (k : Int)).2]) := by rw [Int.zero_add]; exact lotB_at (by omega) (by omega)
        walk_at "go"

        · rename_i hd
          refine go_eb hS7 hx7 (by omega) (by omega) ?_
          refine go_k ?_
          simp only [Int.zero_add]
          refine go_iteB (fun hb => ?_) (fun hb => ?_)
          · walk_at "go"
            exact fin7 (by rw [decide_eq_true hd, hb]; rfl) _ _ _ (Same.refl _) hS7 (.int _)
          · walk_at "go"
            exact fin70 (by rw [hb, Bool.and_false]) _ _ (Same.refl _) hS7
        · rename_i hd
          exact fin70 (by rw [decide_eq_false hd, Bool.false_and]) _ _ (Same.refl _) hS7
      intro p8 G8 H8 e8 hS8 hr8
      have cnt8 : ((((List.range made.length).filter fun k : Nat => decide ((lotB made (k : Int)).1 = (lotB made (j : Int)).1) && lngB made (k : Int) (j : Int)).map nD).length : Int) = ((rnkN made.length (fun k => (lotB made (k : Int)).1) (lngB made) j : Nat) : Int) := by
        rw [List.length_map]
        rfl
      rw [decide_eq_true heq.symm, Bool.true_and] at hcj
      rw [wm, Int.toNat_natCast] at hr8
      walk_at "go"
      · rename_i hr _ G9 H9 e9 hS9 hr9 H10 hS10
        rw [cnt8] at hr
        have hr : rnkN made.length (fun k => (lotB made (k : Int)).1) (lngB made) j = rk := by omega
        rw [decide_eq_true hr.symm] at hcj
        rw [hcj, if_pos rfl] at rs
        refine Nx.mk hS10 ((e6.trans e8).trans e9) ⟨_, _, _, rfl, ?_, rfl⟩
        rw [rs, ← List.append_assoc, List.map_append]
        rw [Int.zero_add, Int.zero_add] at hr9
        exact (hvs6.up (e8.trans e9)).app (.one hr9)
      · rename_i hr
        rw [cnt8] at hr
        rw [decide_eq_false (fun z => hr (by rw [z]))] at hcj
        rw [hcj, if_neg (by decide), List.append_nil] at rs
        refine Nx.mk hS8 (e6.trans e8) ⟨_, _, _, rfl, ?_, rfl⟩
        rw [rs]
        exact hvs6.up e8
    · rintro σ G6 M6 H6 e6 hS6 ⟨vs6, u6', u7', rfl, hvs6, rfl⟩
      refine Nx.mk hS6 ((e2.trans e4).trans e6) ⟨_, _, _, _, _, rfl, ?_, rfl⟩
      rw [dueI_succ]
      rw [wm, Int.toNat_natCast] at hvs6
      exact hvs6
  rintro σ' G2 M2 H2 e2 hS2 ⟨vs, u4, u5, u6, u7, rfl, hvs, rfl⟩
  rw [pm, Int.toNat_natCast, ← hF] at hvs
  obtain ⟨G3, e3, hS3, hr3⟩ := hS2.frzL p0 hvs
  walk_at "go"
  exact q _ _ _ hS3.adv hr3
theorem SqL.less {K : PySem.W.Frag} {H : Hp} {P a : Addr} {ps : Array Value} {xs : List V} (hP : H P = some (.tbl ps)) (h : SqL K H a xs) : SqL K (fun b => if b = P then none else H b) a xs := by
  have ne : ∀ {o : HO}, H a = some o → (∀ q, o ≠ .tbl q) → (fun b => if b = P then none else H b) a = some o := fun {o} e n => by
    have : a ≠ P := fun z => by
      rw [z, hP] at e
      exact n ps (Option.some.inj e).symm
    show (if a = P then none else H a) = some o
    rw [if_neg this]
    exact e
  rcases h with (h | ⟨o, h⟩) | h
  · exact .inl (.inl (ne h fun q z => by cases z))
  · exact .inl (.inr ⟨o, ne h fun q z => by cases z⟩)
  · exact .inr h
def spLawT (K : PySem.W.Frag) (A : Ad) : Sp := fun vs H Q _ => ∃ (a : Addr) (ns : List Int), vs = [.ref a] ∧ SqL K H a (ns.map V.int) ∧ ns.length ≤ 63 ∧ (∀ p ∈ A.tabs, H p.2 = some (.tbl #[])) ∧ ∀ H', Q (.bl true) H'
theorem spLawT_in {K : PySem.W.Frag} {A : Ad} {H : Hp} {a : Addr} {ns : List Int} (hl : ns.length ≤ 63) (hS : SqL K H a (ns.map V.int)) (ht : ∀ p ∈ A.tabs, H p.2 = some (.tbl #[])) : spLawT K A [.ref a] H (fun v _ => v = .bl true) fun _ _ _ => False := ⟨a, ns, rfl, hS, hl, ht, fun _ => rfl⟩
/-- the law's start: one table -/
theorem start_tab {K : PySem.W.Frag} {H : Hp} {P : Addr} (hP : H P = some (.tbl #[])) : Sta K (fun b => if b = P then none else H b) H [P] (fun b => if b = P then none else H b) [(P, .tbl #[])] H :=
  Sta.start1 (fun b o e => by
    have e : (if b = P then none else H b) = some o := e
    split at e
    · cases e
    · exact e) hP (if_pos rfl)
/-! ### the law's drawn bar -/
def spBar (K : PySem.W.Frag) : Sp := fun vs H Q _ => ∃ (a r : Addr) (at_ last : Int) (G : Hp), vs = [.ref a, .int last] ∧ Same G H ∧ G a = none ∧ H a = some (drw r at_) ∧ RowOk K G r ∧ 0 ≤ at_ ∧ at_ ≤ 900000000 ∧ 0 ≤ last ∧
  ∀ p b G1 H1, Adv [a] G H G1 H1 → H1 a = some (drw r (at_ + 2)) → Rp K G1 p (barD b) → 0 ≤ b.1 → b.1 ≤ last → (∀ d, b.2 = some d → b.1 < d ∧ d ≤ last) → Q p H1
theorem ok_law_bar (T : Txt K mg A) : FnOk P w K mg base CX0 2 A.f_law_bar A.d_law_bar ["draws", "last"] (spBar K) := by
  have G_law_next := ok_law_next (P := P) (w := w) (base := base) T
  refine T.F_law_bar.ok sc_law_bar (fun vs H Q E h => by first | (obtain ⟨rfl, _⟩ := h; rfl) | (obtain ⟨_, rfl, _⟩ := h; rfl) | (obtain ⟨_, _, rfl, _⟩ := h; rfl) | (obtain ⟨_, _, _, rfl, _⟩ := h; rfl) | (obtain ⟨_, _, _, _, rfl, _⟩ := h; rfl) | (obtain ⟨_, _, _, _, _, rfl, _⟩ := h; rfl) | (obtain ⟨_, _, _, _, _, _, rfl, _⟩ := h; rfl) | (obtain ⟨_, _, _, _, _, _, _, rfl, _⟩ := h; rfl) | (obtain ⟨_, _, _, _, _, _, _, _, rfl, _⟩ := h; rfl) | (obtain ⟨_, _, _, _, _, _, _, _, _, rfl, _⟩ := h; rfl) | (obtain ⟨_, _, _, _, _, _, _, _, _, _, rfl, _⟩ := h; rfl) | (obtain ⟨_, _, _, _, _, _, _, _, _, _, _, rfl, _⟩ := h; rfl) | (obtain ⟨_, _, _, _, _, _, _, _, _, _, _, _, rfl, _⟩ := h; rfl) | (obtain ⟨_, _, _, _, _, _, _, _, _, _, _, _, _, rfl, _⟩ := h; rfl) | exact wk_len h) (fun cdv AA outer s H vs Q E hr h => ?_)
  obtain ⟨a, r, at_, last, G, rfl, hG, hga, hA, hR, h0, h1, hl, q⟩ := h
  refine ⟨_, (pss_cons (ps_set (i := 2) sc_law_bar.nd rfl (by first | exact Or.inl rfl | exact Or.inr rfl) (pe_call G_law_next (hr.mono (by first | decide | omega)) (by rfl) T.m_law_next T.F_law_next.kp T.b_law_next .nil pass0 (pa_cons (pv 0) (pa_cons (pe_op op_add (pv 1) pe_int) pa_nil))))
      (pss_cons (ps_set (i := 3) sc_law_bar.nd rfl (by first | exact Or.inl rfl | exact Or.inr rfl) (pe_op op_add (pe_op op_add (pv 2) pe_int) (pe_call G_law_next (hr.mono (by first | decide | omega)) (by rfl) T.m_law_next T.F_law_next.kp T.b_law_next .nil pass0 (pa_cons (pv 0) (pa_cons (pe_op op_add (pv 1) pe_int) pa_nil)))))
      (pss_cons (ps_if (pt_cmpR op_gt (pv 3) (pv 1) (nomark _)) (pss_one (ps_ret (pe_tup (pa_cons (pv 2) (pa_cons pe_non pa_nil))))) pss_nil)
      (pss_one (ps_ret (pe_tup (pa_cons (pv 2) (pa_cons (pv 3) pa_nil)))))))), ?_⟩
  try dsimp only [cxOf, Cx.nox, Cx.wish, Cx.blk]
  have hS := Sta.start1 (K := K) hG hA hga
  refine go_start (σ := [some (.ref a), some (.int last), none, none]) rfl ?_
  walk_at "go"
  · rename_i b H1 hb1 hb2 hS1 d H2 hd1 hd2 hS2 hgt p G3 H3 e3 hS3 hr3
    exact q _ (b, none) G3 H3 hS3.adv (by have := hS3.get (i := 0) rfl; rw [this, Int.add_assoc]; rfl) hr3 hb1 (by show b ≤ last; omega) (fun _ z => nomatch z)
  · rename_i b H1 hb1 hb2 hS1 d H2 hd1 hd2 hS2 hgt p G3 H3 e3 hS3 hr3
    exact q _ (b, some (b + 1 + d)) G3 H3 hS3.adv (by have := hS3.get (i := 0) rfl; rw [this, Int.add_assoc]; rfl) hr3 hb1 (by show b ≤ last; omega) (fun z hz => by cases hz; show b < b + 1 + d ∧ b + 1 + d ≤ last; omega)
theorem go_bar {G0 H0 G H : Hp} {D : List Addr} {M M' : List (Addr × HO)} {Q : VK} {E : XK} {a r : Addr} {at_ last : Int} {i : Nat} (hS : Sta K G0 H0 D G M H) (hi : M[i]? = some (a, drw r at_)) (hr : RowOk K G r) (h0 : 0 ≤ at_) (h1 : at_ ≤ 900000000) (hl : 0 ≤ last)
    (hM : M.set i (a, drw r (at_ + 2)) = M') (q : ∀ p b G1 H1, Same G G1 → Sta K G0 H0 D G1 M' H1 → Rp K G1 p (barD b) → 0 ≤ b.1 → b.1 ≤ last → (∀ d, b.2 = some d → b.1 < d ∧ d ≤ last) → Q p H1) : spBar K [.ref a, .int last] H Q E := by
  subst hM
  exact ⟨a, r, at_, last, G, rfl, hS.gh, (hS.mh _ (List.mem_of_getElem? hi)).2.1, hS.get hi, hr, h0, h1, hl, fun p b G1 H1 ad h1 h2 h3 h4 h5 => q p b G1 H1 ad.gg (hS.callM hi ad h1) h2 h3 h4 h5⟩
local macro_rules | `(tactic| walk_at "s") => `(tactic| first | ((with_reducible refine' go_bar (at_ := ?t) (r := ?r) (i := ?i) (M' := ?M') ?hS ?hi ?hr ?h0 ?h1 ?hm ?hM ?_); (case hS => assumption); (case hi => walk_at "mi"); (case hr => walk_at "ro"); (case h0 => omega); (case h1 => omega); (case hm => omega); (case hM => walk_at "set"); (intro p b G1 H1 e1 hS1 hr1 hb1 hb2 hb3)) | fail)
local macro_rules | `(tactic| walk_at "s") => `(tactic| first | ((with_reducible refine' go_same (G := ?G) (d := ?d) ?hS ?hx ?hy ?hd ?_); (case hS => assumption); (case hx => walk_at "rp"); (case hy => walk_at "rp"); (case hd => first | exact rfl | assumption); (intro G1 H1 e1 hS1)) | fail)
theorem bars_of {P : Bar → Prop} : ∀ {es : List Dt}, (∀ (i : Nat) d, es[i]? = some d → ∃ c, d = barD c ∧ P c) → ∃ bs : List Bar, es = bs.map barD ∧ ∀ c ∈ bs, P c
  | [], _ => ⟨[], rfl, fun c hc => by cases hc⟩
  | d :: es, h => by
    obtain ⟨c, rfl, hc⟩ := h 0 d rfl
    obtain ⟨bs, rfl, hb⟩ := bars_of (es := es) fun i d e => h (i + 1) d (by simpa using e)
    exact ⟨c :: bs, rfl, fun x hx => by
      rcases List.mem_cons.mp hx with rfl | hx
      · exact hc
      · exact hb x hx⟩
/-! ### the law's lot of bars -/
def spLot30 (K : PySem.W.Frag) : Sp := fun vs H Q _ => ∃ (a r : Addr) (at_ : Int) (G : Hp), vs = [.ref a] ∧ Same G H ∧ G a = none ∧ H a = some (drw r at_) ∧ RowOk K G r ∧ 0 ≤ at_ ∧ at_ ≤ 800000000 ∧
  ∀ y (bs : List Bar) at' G1 H1, Adv [a] G H G1 H1 → H1 a = some (drw r at') → at_ ≤ at' → at' ≤ at_ + 1000 → bs.length ≤ 8 → Rp K G1 y (.lst (bs.map barD)) → Q y H1
theorem ok_law_lot (T : Txt K mg A) : FnOk P w K mg base CX0 3 A.f_law_lot A.d_law_lot ["draws"] (spLot30 K) := by
  have G_law_bar := ok_law_bar (P := P) (w := w) (base := base) T
  have G_law_next := ok_law_next (P := P) (w := w) (base := base) T
  refine T.F_law_lot.ok sc_law_lot (fun vs H Q E h => by first | (obtain ⟨rfl, _⟩ := h; rfl) | (obtain ⟨_, rfl, _⟩ := h; rfl) | (obtain ⟨_, _, rfl, _⟩ := h; rfl) | (obtain ⟨_, _, _, rfl, _⟩ := h; rfl) | (obtain ⟨_, _, _, _, rfl, _⟩ := h; rfl) | (obtain ⟨_, _, _, _, _, rfl, _⟩ := h; rfl) | (obtain ⟨_, _, _, _, _, _, rfl, _⟩ := h; rfl) | (obtain ⟨_, _, _, _, _, _, _, rfl, _⟩ := h; rfl) | (obtain ⟨_, _, _, _, _, _, _, _, rfl, _⟩ := h; rfl) | (obtain ⟨_, _, _, _, _, _, _, _, _, rfl, _⟩ := h; rfl) | (obtain ⟨_, _, _, _, _, _, _, _, _, _, rfl, _⟩ := h; rfl) | (obtain ⟨_, _, _, _, _, _, _, _, _, _, _, rfl, _⟩ := h; rfl) | (obtain ⟨_, _, _, _, _, _, _, _, _, _, _, _, rfl, _⟩ := h; rfl) | (obtain ⟨_, _, _, _, _, _, _, _, _, _, _, _, _, rfl, _⟩ := h; rfl) | exact wk_len h) (fun cdv AA outer s H vs Q E hr h => ?_)
  obtain ⟨a, r, at_, G, rfl, hG, hga, hA, hR, h0, h1, q⟩ := h
  refine ⟨_, (pss_cons (ps_setLc (i := 1) (own := [("k", 2)]) (g := gName 2) rfl sc_law_lot.nd rfl rfl (sw_true rfl rfl rfl (by decide +kernel)) (pi_range1 (by rfl) T.z_range (pa_cons (pe_call G_law_next (hr.mono (by first | decide | omega)) (by rfl) T.m_law_next T.F_law_next.kp T.b_law_next .nil pass0 (pa_cons (pv 0) (pa_cons pe_int pa_nil))) pa_nil)) (blkOk_by (N := ["draws", "bars", "k"]) (sc := defScope s_law_lot) (by decide +kernel)) (fun _ _ _ _ _ => pg_name (i := 2) sc_law_lot.nd rfl (by first | exact Or.inl rfl | exact Or.inr rfl)) (fun _ _ _ _ _ => pts_nil) (fun _ _ _ _ _ => (pe_call G_law_bar (hr.mono (by first | decide | omega)) (by rfl) T.m_law_bar T.F_law_bar.kp T.b_law_bar .nil pass0 (pa_cons (pv 0) (pa_cons pe_int pa_nil)))))
      (pss_cons (ps_for PassesOwn.never rfl (pi_range1 (by rfl) T.z_range (pa_cons (pe_callB (id := "len") b_len (by rfl) T.z_len (by decide +kernel) (pa_cons (pv 1) pa_nil)) pa_nil)) (pg_name (i := 2) sc_law_lot.nd rfl (by first | exact Or.inl rfl | exact Or.inr rfl)) (pss_one (ps_if (pt_cmpR op_eq (pe_call G_law_next (hr.mono (by first | decide | omega)) (by rfl) T.m_law_next T.F_law_next.kp T.b_law_next .nil pass0 (pa_cons (pv 0) (pa_cons pe_int pa_nil))) pe_int (nomark _)) (pss_one (ps_asg (pe_ix ix_seq (pv 1) (pe_call G_law_next (hr.mono (by first | decide | omega)) (by rfl) T.m_law_next T.F_law_next.kp T.b_law_next .nil pass0 (pa_cons (pv 0) (pa_cons (pe_callB (id := "len") b_len (by rfl) T.z_len (by decide +kernel) (pa_cons (pv 1) pa_nil)) pa_nil))) (fun _ _ => rfl)) (pg_sub (pv 1) (pv 2) set_list))) pss_nil)))
      (pss_one (ps_ret (pv 1))))), ?_⟩
  try dsimp only [cxOf, Cx.nox, Cx.wish, Cx.blk]
  have hS := Sta.start1 (K := K) hG hA hga
  refine go_start (σ := [some (.ref a), none, none]) rfl ?_
  walk_at "go"
  rename_i n H1 n0 n1 hS1
  obtain ⟨N, rfl⟩ := Int.eq_ofNat_of_zero_le n0
  rw [Int.toNat_natCast]
  refine lcDrawR (j := 0) (c := 2) hS1 rfl (by omega) (fun _ d => ∃ c, d = barD c ∧ True) ?_ ?_
  · intro i L G16 at3 vs es H16 Z hi e16 l0 a1 a2 hS16 hvs fin
    simp only [List.set_cons_zero] at hS16
    have hR16 := hR.up e16
    walk_at "go"
    rename_i p c G17 H17 e17 hS17 hr17 hb1 hb2 hb3
    exact fin _ _ _ _ _ e17 hS17 (by omega) (by omega) hr17 ⟨c, rfl, trivial⟩
  intro L at3 vs es G2 H2 e2 l0 a1 a2 hS2 hvs hel hPb
  obtain ⟨bs, rfl, -⟩ := bars_of hPb
  simp only [List.set_cons_zero] at hS2
  rw [List.length_map] at hel
  have vl := hvs.length
  rw [List.length_map] at vl
  have hR2 := hR.up e2
  walk_at "go"
  refine forR hS2 (fun i σ G' M' => ∃ (vs : List V) (bs : List Bar) (at' : Int) (u2 : Option V), M' = [(L, .lst vs), (a, drw r at')] ∧ RpAll K G' vs (bs.map barD) ∧ bs.length = N ∧ at3 ≤ at' ∧ at' ≤ at3 + 2 * i ∧ σ = [some (.ref a), some (.ref L), u2]) ⟨vs, bs, at3, _, rfl, hvs, hel, by omega, by omega, rfl⟩ ?_ ?_
  · rintro i σ G3 M3 H3 hi e3 hS3 ⟨vs3, bs3, at4, u2, rfl, hvs3, bl3, b1, b2, rfl⟩
    have vl3 := hvs3.length
    rw [List.length_map] at vl3
    have hi' : i < bs3.length := by omega
    have hR3 := hR2.up e3
    walk_at "go"
    · rename_i z H4 z0 z1 hS4 hz j H5 j0 j1 hS5
      have hj : j < (bs3.length : Int) := by omega
      refine go_ixMR hS5 (i := 0) rfl hvs3 (lotB_at j0 hj) fun v hv => ?_
      walk_at "go"
      refine go_setL (i := 0) hS5 rfl (by rw [Int.zero_add]; exact ixN_nat (by omega)) rfl fun H6 hS6 => ?_
      exact Nx.mk hS6 e3 ⟨_, bs3.set i (lotB bs3 j), _, _, rfl, by rw [List.map_set]; exact hvs3.set hv i, by rw [List.length_set]; exact bl3, by omega, by omega, rfl⟩
    · exact Nx.mk (by assumption) e3 ⟨_, bs3, _, _, rfl, hvs3, bl3, by omega, by omega, rfl⟩
  rintro σ' G3 M3 H3 e3 hS3 ⟨vs3, bs3, at4, u2, rfl, hvs3, bl3, b1, b2, rfl⟩
  have vl3 := hvs3.length
  rw [List.length_map] at vl3
  obtain ⟨G4, e4, hS4, hr4⟩ := hS3.frzL l0 hvs3
  walk_at "go"
  exact q _ bs3 _ _ _ hS4.adv (hS4.get (i := 0) rfl) (by omega) (by omega) (by omega) hr4
theorem go_lot30 {G0 H0 G H : Hp} {D : List Addr} {M : List (Addr × HO)} {Q : VK} {E : XK} {a r : Addr} {at_ : Int} {i : Nat} (hS : Sta K G0 H0 D G M H) (hi : M[i]? = some (a, drw r at_)) (hr : RowOk K G r) (h0 : 0 ≤ at_) (h1 : at_ ≤ 800000000)
    (q : ∀ y (bs : List Bar) at' G1 H1, Same G G1 → Sta K G0 H0 D G1 (M.set i (a, drw r at')) H1 → at_ ≤ at' → at' ≤ at_ + 1000 → bs.length ≤ 8 → Rp K G1 y (.lst (bs.map barD)) → Q y H1) : spLot30 K [.ref a] H Q E :=
  ⟨a, r, at_, G, rfl, hS.gh, (hS.mh _ (List.mem_of_getElem? hi)).2.1, hS.get hi, hr, h0, h1, fun y bs at' G1 H1 ad g1 g2 g3 g4 g5 => q y bs at' G1 H1 ad.gg (hS.callM hi ad g1) g2 g3 g4 g5⟩
theorem bdF_len (part whole : List Bar) (lag : Int) : (bdF part whole lag).length ≤ part.length * whole.length := by
  have : bdF part whole lag = dueI _ whole.length part.length := rfl
  rw [this]
  exact dueI_len _ _ _
theorem bbF_len (whole made : List Bar) : (bbF whole made).length ≤ whole.length * made.length := by
  have : bbF whole made = dueI _ made.length whole.length := rfl
  rw [this]
  exact dueI_len _ _ _
theorem okD_prs {ps : List (Int × Int)} (h : ps.length ≤ 100000) : okD 5 (.lst (ps.map prD)) = true := okE_okD (okE_prs h)
theorem ok_law (T : Txt K mg A) (B : Tbs base mg A) : FnOk P w K mg base CX0 7 A.f_law A.d_law ["script"] (spLawT K A) := by
  have G_law_cell := ok_law_cell (P := P) (w := w) (base := base) T
  have G_law_draws := ok_law_draws (P := P) (w := w) (base := base) T
  have G_law_due_births := ok_law_due_births (P := P) (w := w) (base := base) T
  have G_law_due_deaths := ok_law_due_deaths (P := P) (w := w) (base := base) T
  have G_law_lot := ok_law_lot (P := P) (w := w) (base := base) T
  have G_law_next := ok_law_next (P := P) (w := w) (base := base) T
  have G_law_same := ok_law_same (P := P) (w := w) (base := base) T
  have G_by_births := ok_by_births (P := P) (w := w) (base := base) T B
  have G_by_deaths := ok_by_deaths (P := P) (w := w) (base := base) T B
  refine T.F_law.ok sc_law (fun vs H Q E h => by first | (obtain ⟨rfl, _⟩ := h; rfl) | (obtain ⟨_, rfl, _⟩ := h; rfl) | (obtain ⟨_, _, rfl, _⟩ := h; rfl) | (obtain ⟨_, _, _, rfl, _⟩ := h; rfl) | (obtain ⟨_, _, _, _, rfl, _⟩ := h; rfl) | (obtain ⟨_, _, _, _, _, rfl, _⟩ := h; rfl) | (obtain ⟨_, _, _, _, _, _, rfl, _⟩ := h; rfl) | (obtain ⟨_, _, _, _, _, _, _, rfl, _⟩ := h; rfl) | (obtain ⟨_, _, _, _, _, _, _, _, rfl, _⟩ := h; rfl) | (obtain ⟨_, _, _, _, _, _, _, _, _, rfl, _⟩ := h; rfl) | (obtain ⟨_, _, _, _, _, _, _, _, _, _, rfl, _⟩ := h; rfl) | (obtain ⟨_, _, _, _, _, _, _, _, _, _, _, rfl, _⟩ := h; rfl) | (obtain ⟨_, _, _, _, _, _, _, _, _, _, _, _, rfl, _⟩ := h; rfl) | (obtain ⟨_, _, _, _, _, _, _, _, _, _, _, _, _, rfl, _⟩ := h; rfl) | exact wk_len h) (fun cdv AA outer s H vs Q E hr h => ?_)
  obtain ⟨a, ns, rfl, hs, hl, ht, q⟩ := h
  refine ⟨_, (pss_cons (ps_set (i := 1) sc_law.nd rfl (by first | exact Or.inl rfl | exact Or.inr rfl) (pe_call G_law_draws (hr.mono (by first | decide | omega)) (by rfl) T.m_law_draws T.F_law_draws.kp T.b_law_draws .nil pass0 (pa_cons (pe_call G_law_cell (hr.mono (by first | decide | omega)) (by rfl) T.m_law_cell T.F_law_cell.kp T.b_law_cell .nil pass0 (pa_cons (pv 0) (pa_cons pe_int pa_nil))) pa_nil)))
      (pss_cons (ps_set (i := 2) sc_law.nd rfl (by first | exact Or.inl rfl | exact Or.inr rfl) (pe_call G_law_lot (hr.mono (by first | decide | omega)) (by rfl) T.m_law_lot T.F_law_lot.kp T.b_law_lot .nil pass0 (pa_cons (pv 1) pa_nil)))
      (pss_cons (ps_set (i := 3) sc_law.nd rfl (by first | exact Or.inl rfl | exact Or.inr rfl) (pe_call G_law_lot (hr.mono (by first | decide | omega)) (by rfl) T.m_law_lot T.F_law_lot.kp T.b_law_lot .nil pass0 (pa_cons (pe_call G_law_draws (hr.mono (by first | decide | omega)) (by rfl) T.m_law_draws T.F_law_draws.kp T.b_law_draws .nil pass0 (pa_cons (pe_call G_law_cell (hr.mono (by first | decide | omega)) (by rfl) T.m_law_cell T.F_law_cell.kp T.b_law_cell .nil pass0 (pa_cons (pv 0) (pa_cons pe_int pa_nil))) pa_nil)) pa_nil)))
      (pss_cons (ps_set (i := 4) sc_law.nd rfl (by first | exact Or.inl rfl | exact Or.inr rfl) (pe_lst (pa_cons (pe_callTy (T := "list") b_list (by rfl) T.z_list (by decide +kernel) (pa_cons (pv 2) pa_nil)) (pa_cons (pe_callTy (T := "list") b_list (by rfl) T.z_list (by decide +kernel) (pa_cons (pv 3) pa_nil)) pa_nil))))
      (pss_cons (ps_set (i := 5) sc_law.nd rfl (by first | exact Or.inl rfl | exact Or.inr rfl) (pe_call G_law_next (hr.mono (by first | decide | omega)) (by rfl) T.m_law_next T.F_law_next.kp T.b_law_next .nil pass0 (pa_cons (pv 1) (pa_cons pe_int pa_nil))))
      (pss_cons (ps_if (pt_not (pt_val (pe_call G_law_same (hr.mono (by first | decide | omega)) (by rfl) T.m_law_same T.F_law_same.kp T.b_law_same .nil pass0 (pa_cons (pe_callN G_by_deaths (hr.mono (by first | decide | omega)) (by rfl) T.m_by_deaths T.F_by_deaths.kp T.k2_by_deaths pass0 (pa_cons (pe_ix ix_seq (pv 4) pe_int (fun _ _ => rfl)) (pa_cons (pe_ix ix_seq (pv 4) pe_int (fun _ _ => rfl)) pa_nil)) (pk_cons (pv 5) pk_nil)) (pa_cons (pe_call G_law_due_deaths (hr.mono (by first | decide | omega)) (by rfl) T.m_law_due_deaths T.F_law_due_deaths.kp T.b_law_due_deaths .nil pass0 (pa_cons (pv 2) (pa_cons (pv 3) (pa_cons (pv 5) pa_nil)))) pa_nil))))) (pss_one (ps_ret pe_bl)) pss_nil)
      (pss_cons (ps_if (pt_not (pt_val (pe_call G_law_same (hr.mono (by first | decide | omega)) (by rfl) T.m_law_same T.F_law_same.kp T.b_law_same .nil pass0 (pa_cons (pe_call G_by_deaths (hr.mono (by first | decide | omega)) (by rfl) T.m_by_deaths T.F_by_deaths.kp T.kd_by_deaths.choose_spec.2 T.kd_by_deaths.choose_spec.1 pass0 (pa_cons (pe_callTy (T := "tuple") b_tuple (by rfl) T.z_tuple (by decide +kernel) (pa_cons (pv 2) pa_nil)) (pa_cons (pe_callTy (T := "tuple") b_tuple (by rfl) T.z_tuple (by decide +kernel) (pa_cons (pv 3) pa_nil)) pa_nil))) (pa_cons (pe_call G_law_due_deaths (hr.mono (by first | decide | omega)) (by rfl) T.m_law_due_deaths T.F_law_due_deaths.kp T.b_law_due_deaths .nil pass0 (pa_cons (pv 2) (pa_cons (pv 3) (pa_cons pe_int pa_nil)))) pa_nil))))) (pss_one (ps_ret pe_bl)) pss_nil)
      (pss_cons (ps_set (i := 6) sc_law.nd rfl (by first | exact Or.inl rfl | exact Or.inr rfl) (pe_call G_by_births (hr.mono (by first | decide | omega)) (by rfl) T.m_by_births T.F_by_births.kp T.b_by_births .nil pass0 (pa_cons (pe_ix ix_seq (pv 4) pe_int (fun _ _ => rfl)) (pa_cons (pe_ix ix_seq (pv 4) pe_int (fun _ _ => rfl)) pa_nil))))
      (pss_cons (ps_if (PW.pt (pw_or (pt_not (pt_val (pe_call G_law_same (hr.mono (by first | decide | omega)) (by rfl) T.m_law_same T.F_law_same.kp T.b_law_same .nil pass0 (pa_cons (pv 6) (pa_cons (pe_call G_law_due_births (hr.mono (by first | decide | omega)) (by rfl) T.m_law_due_births T.F_law_due_births.kp T.b_law_due_births .nil pass0 (pa_cons (pv 2) (pa_cons (pv 3) pa_nil))) pa_nil))))) (pw_or1 (pt_cmpR (op_neD hr.units) (pv 4) (pe_lst (pa_cons (pv 2) (pa_cons (pv 3) pa_nil))) (nomark _))))) (pss_one (ps_ret pe_bl)) pss_nil)
      (pss_cons (ps_expr (pe_bm PySem.F.plainAttrs_list PySem.F.slot_list_append PySem.F.type_list_append mt_append (pv 6) (pa_cons (pe_tup (pa_cons pe_int (pa_cons pe_int pa_nil))) pa_nil)))
      (pss_one (ps_ret (pe_call G_law_same (hr.mono (by first | decide | omega)) (by rfl) T.m_law_same T.F_law_same.kp T.b_law_same .nil pass0 (pa_cons (pe_call G_by_births (hr.mono (by first | decide | omega)) (by rfl) T.m_by_births T.F_by_births.kp T.b_by_births .nil pass0 (pa_cons (pv 2) (pa_cons (pv 3) pa_nil))) (pa_cons (pe_call G_law_due_births (hr.mono (by first | decide | omega)) (by rfl) T.m_law_due_births T.F_law_due_births.kp T.b_law_due_births .nil pass0 (pa_cons (pv 2) (pa_cons (pv 3) pa_nil))) pa_nil))))))))))))))), ?_⟩
  try dsimp only [cxOf, Cx.nox, Cx.wish, Cx.blk]
  have hP : ∀ p ∈ [A.p_eldest, A.p_longest], H p = some (.tbl #[]) := fun p hp => by
    simp only [List.mem_cons, List.not_mem_nil, or_false] at hp
    rcases hp with rfl | rfl
    · exact ht (A.c_eldest, A.p_eldest) (by simp [Ad.tabs])
    · exact ht (A.c_longest, A.p_longest) (by simp [Ad.tabs])
  have hS := start_tabs (K := K) hP (by
    have n1 := T.ne_eldest_longest
    simp [n1])
  have hsc : Rp K (lessL H [A.p_eldest, A.p_longest]) (.ref a) (.lst (ns.map .int)) := .lst (sqL_lessL hP hs) .ints
  generalize lessL H [A.p_eldest, A.p_longest] = G at *
  simp only [List.map_cons, List.map_nil] at hS
  generalize hD : [A.p_eldest, A.p_longest] = D at hS
  refine go_start (σ := [some (.ref a), none, none, none, none, none, none]) rfl ?_
  walk_at "go"
  refine go_draws ‹_› fun da r G2 H2 e2 hS2 hR => ?_
  walk_at "go"
  refine go_lot30 (i := 0) hS2 rfl hR (by omega) (by omega) fun fv fs at3 G3 H3 e3 hS3 a31 a32 fl hf => ?_
  simp only [List.set_cons_zero] at hS3
  have hsc3 := (hsc.up e2).up e3
  walk_at "go"
  refine go_draws ‹_› fun db r2 G4 H4 e4 hS4 hR2 => ?_
  walk_at "go"
  refine go_lot30 (i := 0) hS4 rfl hR2 (by omega) (by omega) fun sv ss at5 G5 H5 e5 hS5 a51 a52 sl hs5 => ?_
  simp only [List.set_cons_zero] at hS5
  have hf5 := (hf.up e4).up e5
  have hR5 := ((hR.up e3).up e4).up e5
  walk_at "go"
  rename_i h1 G6 H6 e6 hS6 hh1 h2 G7 H7 e7 hS7 hh2
  walk_at "nl"
  rename_i hh G8 H8 e8 hS8 hhr
  have hf8 := ((hf5.up e6).up e7).up e8
  have hs8 := ((hs5.up e6).up e7).up e8
  have hR8 := ((hR5.up e6).up e7).up e8
  walk_at "go"
  rename_i lag H9 lg0 lg1 hS9 v1 hv1 v2 hv2
  refine go_bd (i := 2) (k1 := false) (k2 := false) hS9 rfl TabP.nil hv1 hv2 (by omega) (by omega) fun p10 vs10 ps10 G10 H10 tab10 e10 z10 g10 hS10 hr10 => ?_
  simp only [List.set_cons_succ, List.set_cons_zero] at hS10
  obtain ⟨G11, e11, hS11, hp11⟩ := hS10.frzL z10 hr10
  have hf11 := (hf8.up e10).up e11
  have hs11 := (hs8.up e10).up e11
  walk_at "go"
  refine go_dued hS11 hf11 hs11 (by omega) (by omega) fun p12 G12 H12 e12 hS12 hp12 => ?_
  have bl1 := bdF_len fs ss lag
  have bl2 := bdF_len fs ss 0
  have bl3 := bbF_len fs ss
  have fsl : fs.length * ss.length ≤ 8 * 8 := Nat.mul_le_mul fl sl
  have ok1 := okD_prs (ps := bdF fs ss lag) (by omega)
  have ok2 := okD_prs (ps := bdF fs ss 0) (by omega)
  have ok3 := okD_prs (ps := bbF fs ss) (by omega)
  have hf12 := hf11.up e12
  have hs12 := hs11.up e12
  have hp12' := hp11.up e12
  walk_at "go"
  rename_i G13 H13 e13 hS13 t1 G14 H14 e14 hS14 ht1 t2 G15 H15 e15 hS15 ht2
  have hf13 := hf12.up e13
  have hs13 := hs12.up e13
  have tab15 := (((((tab10.up e11).up e12).up e13).up e14).up e15)
  refine go_bd (i := 2) (k1 := true) (k2 := true) (lag := 0) hS15 rfl tab15 (ht1.up e15) ht2 (by omega) (by omega) fun p16 vs16 ps16 G16 H16 tab16 e16 z16 g16 hS16 hr16 => ?_
  simp only [List.set_cons_succ, List.set_cons_zero] at hS16
  obtain ⟨G17, e17, hS17, hp17⟩ := hS16.frzL z16 hr16
  have hf17 := (((hf13.up e14).up e15).up e16).up e17
  have hs17 := (((hs13.up e14).up e15).up e16).up e17
  walk_at "go"
  refine go_dued hS17 hf17 hs17 (by omega) (by omega) fun p18 G18 H18 e18 hS18 hp18 => ?_
  have hp18' := hp17.up e18
  walk_at "go"
  rename_i G19 H19 e19 hS19 v3 hv3 v4 hv4
  have e8_19 : Same G8 G19 := ((((((((e10.trans e11).trans e12).trans e13).trans e14).trans e15).trans e16).trans e17).trans e18).trans e19
  have hh19 := hhr.up e8_19
  have hf19 := hf8.up e8_19
  have hs19 := hs8.up e8_19
  refine go_bb (i := 3) (k1 := false) (k2 := false) hS19 rfl TabP.nil hv3 hv4 (by omega) (by omega) fun p20 vs20 ps20 G20 H20 tab20 e20 z20 g20 hS20 hr20 => ?_
  simp only [List.set_cons_succ, List.set_cons_zero] at hS20
  have hf20 := hf19.up e20
  have hs20 := hs19.up e20
  walk_at "go"
  refine go_dueb hS20 hf20 hs20 (by omega) (by omega) fun p21 G21 H21 e21 hS21 hp21 => ?_
  have hr21 := hr20.up e21
  have vl21 := hr21.length
  rw [List.length_map] at vl21
  walk_at "go"
  obtain ⟨G22, e22, e22', hT, lend⟩ := go_sameLend hS21 hr21
  refine ⟨_, _, G22, _, rfl, e22', hT, hp21.up e22, ok3, fun G23 H23 ad => ?_⟩
  obtain ⟨G24, e24, hS24⟩ := lend _ _ ad
  have hf24 := (hf20.up e21).up e24
  have hs24 := (hs20.up e21).up e24
  have hh24 := ((hh19.up e20).up e21).up e24
  walk_at "go"
  walk_at "nl"
  rename_i hn G25 H25 e25 hS25 hnr
  walk_at "go"
  have okh : okE 6 (.lst [.lst (fs.map barD), .lst (ss.map barD)]) = true := by
    have h1 := okE_bars fs (by omega)
    have h2 := okE_bars ss (by omega)
    refine okE_lst (by simp) fun e he => ?_
    simp only [List.mem_cons, List.not_mem_nil, or_false] at he
    rcases he with rfl | rfl
    · exact okE_up h1 (by omega)
    · exact okE_up h2 (by omega)
  refine go_neSame (n := 6) (hh24.up e25) hnr hS25.gh okh (by decide) ?_
  walk_at "go"
  rename_i pt G26 H26 e26 hS26 hpt H27 hS27
  have e20_26 : Same G20 G26 := ((e21.trans e24).trans e25).trans e26
  have hf26 := hf20.up e20_26
  have hs26 := hs20.up e20_26
  refine go_bb (i := 4) (k1 := false) (k2 := false) hS27 rfl (tab20.up e20_26) hf26 hs26 (by omega) (by omega) fun p28 vs28 ps28 G28 H28 tab28 e28 z28 g28 hS28 hr28 => ?_
  obtain ⟨G29, e29, hS29, hp29⟩ := hS28.frzL z28 hr28
  walk_at "go"
  refine go_dueb hS29 ((hf26.up e28).up e29) ((hs26.up e28).up e29) (by omega) (by omega) fun p30 G30 H30 e30 hS30 hp30 => ?_
  have hp30' := hp29.up e30
  walk_at "go"
  exact q _
end
theorem all_mk {l : PySem.W.OpenLaw} {w : World} {K : PySem.W.Frag} {h : Heap} {mg : Str → Option Value} {fa : Addr} (X : K.In h) (G : h.Ns mainGlobals mg) (hfa : mg "law" = some (.ref fa))
    {f0 : Addr} {od0 an0 : Option Addr} {sl0 : Array (Option Value)} {oc0 kV0 dc0 pm0 cd0 ct0 : Value}
    {f1 kq1 : Addr} {od1 an1 : Option Addr} {sl1 : Array (Option Value)} {oc1 dc1 pm1 cd1 ct1 : Value} {tq1_lag : Tok}
    {f2 cc2 pp2 : Addr} {od2 an2 : Option Addr} {sl2 : Array (Option Value)} {oc2 kV2 dc2 pm2 ct2 : Value} {cd2 : Option Addr} {cv2 : Array Value} {cs2 : Array (Option Value)}
    {f3 : Addr} {od3 an3 : Option Addr} {sl3 : Array (Option Value)} {oc3 kV3 dc3 pm3 cd3 ct3 : Value}
    {f4 cc4 pp4 : Addr} {od4 an4 : Option Addr} {sl4 : Array (Option Value)} {oc4 kV4 dc4 pm4 ct4 : Value} {cd4 : Option Addr} {cv4 : Array Value} {cs4 : Array (Option Value)}
    {f5 : Addr} {od5 an5 : Option Addr} {sl5 : Array (Option Value)} {oc5 kV5 dc5 pm5 cd5 ct5 : Value}
    {f6 : Addr} {od6 an6 : Option Addr} {sl6 : Array (Option Value)} {oc6 kV6 dc6 pm6 cd6 ct6 : Value}
    {f7 : Addr} {od7 an7 : Option Addr} {sl7 : Array (Option Value)} {oc7 kV7 dc7 pm7 cd7 ct7 : Value}
    {f8 : Addr} {od8 an8 : Option Addr} {sl8 : Array (Option Value)} {oc8 kV8 dc8 pm8 cd8 ct8 : Value}
    {f9 : Addr} {od9 an9 : Option Addr} {sl9 : Array (Option Value)} {oc9 kV9 dc9 pm9 cd9 ct9 : Value}
    {f10 : Addr} {od10 an10 : Option Addr} {sl10 : Array (Option Value)} {oc10 kV10 dc10 pm10 cd10 ct10 : Value}
    {f11 : Addr} {od11 an11 : Option Addr} {sl11 : Array (Option Value)} {oc11 kV11 dc11 pm11 cd11 ct11 : Value}
    {f12 : Addr} {od12 an12 : Option Addr} {sl12 : Array (Option Value)} {oc12 kV12 dc12 pm12 cd12 ct12 : Value}
    {f13 : Addr} {od13 an13 : Option Addr} {sl13 : Array (Option Value)} {oc13 kV13 dc13 pm13 cd13 ct13 : Value}
    {f14 : Addr} {od14 an14 : Option Addr} {sl14 : Array (Option Value)} {oc14 kV14 dc14 pm14 cd14 ct14 : Value}
    {f15 : Addr} {od15 an15 : Option Addr} {sl15 : Array (Option Value)} {oc15 kV15 dc15 pm15 cd15 ct15 : Value}
    (a0 : PySem.W.nsIn K mainGlobals "never" = some (some (.ref f0)))
    (l0 : K.lookup f0 = some ⟨oc0, od0, .func (PySem.W.fnOf "never" "never" (defArgs s_never) (defBody s_never) (defScope s_never) .none kV0 dc0 pm0 an0 cd0 ct0), sl0⟩) (c0 : PySem.W.codeIn K cd0 "never" = true) (k0 : PySem.W.keepIn K (.ref f0) = true)
    (a1 : PySem.W.nsIn K mainGlobals "by_deaths" = some (some (.ref f1)))
    (l1 : K.lookup f1 = some ⟨oc1, od1, .func (PySem.W.fnOf "by_deaths" "by_deaths" (defArgs s_by_deaths) (defBody s_by_deaths) (defScope s_by_deaths) .none (.ref kq1) dc1 pm1 an1 cd1 ct1), sl1⟩) (c1 : PySem.W.codeIn K cd1 "by_deaths" = true) (k1 : PySem.W.keepIn K (.ref f1) = true)
    (vq1_lag : PySem.W.nsIn K kq1 "lag" = some (some (.int 0 tq1_lag)))
    (a2 : PySem.W.nsIn K mainGlobals "eldest" = some (some (.ref f2)))
    (l2 : K.lookup f2 = some ⟨oc2, od2, .func (PySem.W.fnOf "eldest" "eldest" (defArgs s_eldest) (defBody s_eldest) (defScope s_eldest) .none kV2 dc2 pm2 an2 (.ref cc2) ct2), sl2⟩) (c2 : PySem.W.codeIn K (.ref cc2) "eldest" = true) (k2 : PySem.W.keepIn K (.ref f2) = true)
    (lc2 : K.lookup cc2 = some ⟨.type "code", cd2, .fields cv2, cs2⟩) (vp2 : (cv2[11]? : Option Value) = some (.ref pp2)) (hb2 : PySem.W.codeHdIn [(cc2, ⟨.type "code", none, .fields cv2, #[]⟩)] cc2 pp2 = true) (nt2 : K.lookup pp2 = none) (he2 : h.get? pp2 = some { cls := .none, data := .fields #[] })
    (a3 : PySem.W.nsIn K mainGlobals "by_births" = some (some (.ref f3)))
    (l3 : K.lookup f3 = some ⟨oc3, od3, .func (PySem.W.fnOf "by_births" "by_births" (defArgs s_by_births) (defBody s_by_births) (defScope s_by_births) .none kV3 dc3 pm3 an3 cd3 ct3), sl3⟩) (c3 : PySem.W.codeIn K cd3 "by_births" = true) (k3 : PySem.W.keepIn K (.ref f3) = true)
    (a4 : PySem.W.nsIn K mainGlobals "longest" = some (some (.ref f4)))
    (l4 : K.lookup f4 = some ⟨oc4, od4, .func (PySem.W.fnOf "longest" "longest" (defArgs s_longest) (defBody s_longest) (defScope s_longest) .none kV4 dc4 pm4 an4 (.ref cc4) ct4), sl4⟩) (c4 : PySem.W.codeIn K (.ref cc4) "longest" = true) (k4 : PySem.W.keepIn K (.ref f4) = true)
    (lc4 : K.lookup cc4 = some ⟨.type "code", cd4, .fields cv4, cs4⟩) (vp4 : (cv4[11]? : Option Value) = some (.ref pp4)) (hb4 : PySem.W.codeHdIn [(cc4, ⟨.type "code", none, .fields cv4, #[]⟩)] cc4 pp4 = true) (nt4 : K.lookup pp4 = none) (he4 : h.get? pp4 = some { cls := .none, data := .fields #[] })
    (a5 : PySem.W.nsIn K mainGlobals "_law_cell" = some (some (.ref f5)))
    (l5 : K.lookup f5 = some ⟨oc5, od5, .func (PySem.W.fnOf "_law_cell" "_law_cell" (defArgs s_law_cell) (defBody s_law_cell) (defScope s_law_cell) .none kV5 dc5 pm5 an5 cd5 ct5), sl5⟩) (c5 : PySem.W.codeIn K cd5 "_law_cell" = true) (k5 : PySem.W.keepIn K (.ref f5) = true)
    (a6 : PySem.W.nsIn K mainGlobals "_law_draws" = some (some (.ref f6)))
    (l6 : K.lookup f6 = some ⟨oc6, od6, .func (PySem.W.fnOf "_law_draws" "_law_draws" (defArgs s_law_draws) (defBody s_law_draws) (defScope s_law_draws) .none kV6 dc6 pm6 an6 cd6 ct6), sl6⟩) (c6 : PySem.W.codeIn K cd6 "_law_draws" = true) (k6 : PySem.W.keepIn K (.ref f6) = true)
    (a7 : PySem.W.nsIn K mainGlobals "_law_next" = some (some (.ref f7)))
    (l7 : K.lookup f7 = some ⟨oc7, od7, .func (PySem.W.fnOf "_law_next" "_law_next" (defArgs s_law_next) (defBody s_law_next) (defScope s_law_next) .none kV7 dc7 pm7 an7 cd7 ct7), sl7⟩) (c7 : PySem.W.codeIn K cd7 "_law_next" = true) (k7 : PySem.W.keepIn K (.ref f7) = true)
    (a8 : PySem.W.nsIn K mainGlobals "_law_same" = some (some (.ref f8)))
    (l8 : K.lookup f8 = some ⟨oc8, od8, .func (PySem.W.fnOf "_law_same" "_law_same" (defArgs s_law_same) (defBody s_law_same) (defScope s_law_same) .none kV8 dc8 pm8 an8 cd8 ct8), sl8⟩) (c8 : PySem.W.codeIn K cd8 "_law_same" = true) (k8 : PySem.W.keepIn K (.ref f8) = true)
    (a9 : PySem.W.nsIn K mainGlobals "_law_bar" = some (some (.ref f9)))
    (l9 : K.lookup f9 = some ⟨oc9, od9, .func (PySem.W.fnOf "_law_bar" "_law_bar" (defArgs s_law_bar) (defBody s_law_bar) (defScope s_law_bar) .none kV9 dc9 pm9 an9 cd9 ct9), sl9⟩) (c9 : PySem.W.codeIn K cd9 "_law_bar" = true) (k9 : PySem.W.keepIn K (.ref f9) = true)
    (a10 : PySem.W.nsIn K mainGlobals "_law_elder" = some (some (.ref f10)))
    (l10 : K.lookup f10 = some ⟨oc10, od10, .func (PySem.W.fnOf "_law_elder" "_law_elder" (defArgs s_law_elder) (defBody s_law_elder) (defScope s_law_elder) .none kV10 dc10 pm10 an10 cd10 ct10), sl10⟩) (c10 : PySem.W.codeIn K cd10 "_law_elder" = true) (k10 : PySem.W.keepIn K (.ref f10) = true)
    (a11 : PySem.W.nsIn K mainGlobals "_law_longer" = some (some (.ref f11)))
    (l11 : K.lookup f11 = some ⟨oc11, od11, .func (PySem.W.fnOf "_law_longer" "_law_longer" (defArgs s_law_longer) (defBody s_law_longer) (defScope s_law_longer) .none kV11 dc11 pm11 an11 cd11 ct11), sl11⟩) (c11 : PySem.W.codeIn K cd11 "_law_longer" = true) (k11 : PySem.W.keepIn K (.ref f11) = true)
    (a12 : PySem.W.nsIn K mainGlobals "_law_due_deaths" = some (some (.ref f12)))
    (l12 : K.lookup f12 = some ⟨oc12, od12, .func (PySem.W.fnOf "_law_due_deaths" "_law_due_deaths" (defArgs s_law_due_deaths) (defBody s_law_due_deaths) (defScope s_law_due_deaths) .none kV12 dc12 pm12 an12 cd12 ct12), sl12⟩) (c12 : PySem.W.codeIn K cd12 "_law_due_deaths" = true) (k12 : PySem.W.keepIn K (.ref f12) = true)
    (a13 : PySem.W.nsIn K mainGlobals "_law_due_births" = some (some (.ref f13)))
    (l13 : K.lookup f13 = some ⟨oc13, od13, .func (PySem.W.fnOf "_law_due_births" "_law_due_births" (defArgs s_law_due_births) (defBody s_law_due_births) (defScope s_law_due_births) .none kV13 dc13 pm13 an13 cd13 ct13), sl13⟩) (c13 : PySem.W.codeIn K cd13 "_law_due_births" = true) (k13 : PySem.W.keepIn K (.ref f13) = true)
    (a14 : PySem.W.nsIn K mainGlobals "_law_lot" = some (some (.ref f14)))
    (l14 : K.lookup f14 = some ⟨oc14, od14, .func (PySem.W.fnOf "_law_lot" "_law_lot" (defArgs s_law_lot) (defBody s_law_lot) (defScope s_law_lot) .none kV14 dc14 pm14 an14 cd14 ct14), sl14⟩) (c14 : PySem.W.codeIn K cd14 "_law_lot" = true) (k14 : PySem.W.keepIn K (.ref f14) = true)
    (a15 : PySem.W.nsIn K mainGlobals "law" = some (some (.ref f15)))
    (l15 : K.lookup f15 = some ⟨oc15, od15, .func (PySem.W.fnOf "law" "law" (defArgs s_law) (defBody s_law) (defScope s_law) .none kV15 dc15 pm15 an15 cd15 ct15), sl15⟩) (c15 : PySem.W.codeIn K cd15 "law" = true) (k15 : PySem.W.keepIn K (.ref f15) = true)
    (z_abs : PySem.W.nsIn K mainGlobals "abs" = some none)
    (z_bool : PySem.W.nsIn K mainGlobals "bool" = some none)
    (z_enumerate : PySem.W.nsIn K mainGlobals "enumerate" = some none)
    (z_int : PySem.W.nsIn K mainGlobals "int" = some none)
    (z_isinstance : PySem.W.nsIn K mainGlobals "isinstance" = some none)
    (z_len : PySem.W.nsIn K mainGlobals "len" = some none)
    (z_list : PySem.W.nsIn K mainGlobals "list" = some none)
    (z_place : PySem.W.nsIn K mainGlobals "place" = some none)
    (z_range : PySem.W.nsIn K mainGlobals "range" = some none)
    (z_sorted : PySem.W.nsIn K mainGlobals "sorted" = some none)
    (z_str : PySem.W.nsIn K mainGlobals "str" = some none)
    (z_tuple : PySem.W.nsIn K mainGlobals "tuple" = some none)
    (z_zip : PySem.W.nsIn K mainGlobals "zip" = some none)
    (ne_2_4 : pp2 ≠ pp4)
    : LamX.LawAtS l w K CX0 7 63 "script" mg fa h := by
  have e : f15 = fa := by
    have e := hfa.symm.trans (PySem.W.mg_of X G a15)
    cases e
    rfl
  subst e
  have F0 := fun_mk (st := s_never) l0 c0 k0
  have F1 := fun_mk (st := s_by_deaths) l1 c1 k1
  have F2 := fun_mk (st := s_eldest) l2 c2 k2
  have F3 := fun_mk (st := s_by_births) l3 c3 k3
  have F4 := fun_mk (st := s_longest) l4 c4 k4
  have F5 := fun_mk (st := s_law_cell) l5 c5 k5
  have F6 := fun_mk (st := s_law_draws) l6 c6 k6
  have F7 := fun_mk (st := s_law_next) l7 c7 k7
  have F8 := fun_mk (st := s_law_same) l8 c8 k8
  have F9 := fun_mk (st := s_law_bar) l9 c9 k9
  have F10 := fun_mk (st := s_law_elder) l10 c10 k10
  have F11 := fun_mk (st := s_law_longer) l11 c11 k11
  have F12 := fun_mk (st := s_law_due_deaths) l12 c12 k12
  have F13 := fun_mk (st := s_law_due_births) l13 c13 k13
  have F14 := fun_mk (st := s_law_lot) l14 c14 k14
  have F15 := fun_mk (st := s_law) l15 c15 k15
  let A : Ad := { f_never := f0, d_never := PySem.W.fnOf "never" "never" (defArgs s_never) (defBody s_never) (defScope s_never) .none kV0 dc0 pm0 an0 cd0 ct0, f_by_deaths := f1, d_by_deaths := PySem.W.fnOf "by_deaths" "by_deaths" (defArgs s_by_deaths) (defBody s_by_deaths) (defScope s_by_deaths) .none (.ref kq1) dc1 pm1 an1 cd1 ct1, f_eldest := f2, d_eldest := PySem.W.fnOf "eldest" "eldest" (defArgs s_eldest) (defBody s_eldest) (defScope s_eldest) .none kV2 dc2 pm2 an2 (.ref cc2) ct2, f_by_births := f3, d_by_births := PySem.W.fnOf "by_births" "by_births" (defArgs s_by_births) (defBody s_by_births) (defScope s_by_births) .none kV3 dc3 pm3 an3 cd3 ct3, f_longest := f4, d_longest := PySem.W.fnOf "longest" "longest" (defArgs s_longest) (defBody s_longest) (defScope s_longest) .none kV4 dc4 pm4 an4 (.ref cc4) ct4, f_law_cell := f5, d_law_cell := PySem.W.fnOf "_law_cell" "_law_cell" (defArgs s_law_cell) (defBody s_law_cell) (defScope s_law_cell) .none kV5 dc5 pm5 an5 cd5 ct5, f_law_draws := f6, d_law_draws := PySem.W.fnOf "_law_draws" "_law_draws" (defArgs s_law_draws) (defBody s_law_draws) (defScope s_law_draws) .none kV6 dc6 pm6 an6 cd6 ct6, f_law_next := f7, d_law_next := PySem.W.fnOf "_law_next" "_law_next" (defArgs s_law_next) (defBody s_law_next) (defScope s_law_next) .none kV7 dc7 pm7 an7 cd7 ct7, f_law_same := f8, d_law_same := PySem.W.fnOf "_law_same" "_law_same" (defArgs s_law_same) (defBody s_law_same) (defScope s_law_same) .none kV8 dc8 pm8 an8 cd8 ct8, f_law_bar := f9, d_law_bar := PySem.W.fnOf "_law_bar" "_law_bar" (defArgs s_law_bar) (defBody s_law_bar) (defScope s_law_bar) .none kV9 dc9 pm9 an9 cd9 ct9, f_law_elder := f10, d_law_elder := PySem.W.fnOf "_law_elder" "_law_elder" (defArgs s_law_elder) (defBody s_law_elder) (defScope s_law_elder) .none kV10 dc10 pm10 an10 cd10 ct10, f_law_longer := f11, d_law_longer := PySem.W.fnOf "_law_longer" "_law_longer" (defArgs s_law_longer) (defBody s_law_longer) (defScope s_law_longer) .none kV11 dc11 pm11 an11 cd11 ct11, f_law_due_deaths := f12, d_law_due_deaths := PySem.W.fnOf "_law_due_deaths" "_law_due_deaths" (defArgs s_law_due_deaths) (defBody s_law_due_deaths) (defScope s_law_due_deaths) .none kV12 dc12 pm12 an12 cd12 ct12, f_law_due_births := f13, d_law_due_births := PySem.W.fnOf "_law_due_births" "_law_due_births" (defArgs s_law_due_births) (defBody s_law_due_births) (defScope s_law_due_births) .none kV13 dc13 pm13 an13 cd13 ct13, f_law_lot := f14, d_law_lot := PySem.W.fnOf "_law_lot" "_law_lot" (defArgs s_law_lot) (defBody s_law_lot) (defScope s_law_lot) .none kV14 dc14 pm14 an14 cd14 ct14, f_law := f15, d_law := PySem.W.fnOf "law" "law" (defArgs s_law) (defBody s_law) (defScope s_law) .none kV15 dc15 pm15 an15 cd15 ct15, c_eldest := cc2, p_eldest := pp2, c_longest := cc4, p_longest := pp4 }
  have T : Txt K mg A := {
    F_never := F0
    m_never := PySem.W.mg_of X G a0
    b_never := F0.binds (ps := ["bars"]) fun _ _ _ _ _ _ us hl => match us, hl with | [_], _ => rfl
    kd_by_deaths := FunD.binds0 (F := (⟨⟨_, _, .none, .ref kq1, _, _, _, _, _, _, rfl, l1, c1, .inl ⟨rfl, rfl⟩, .inr ⟨kq1, rfl, fun q hq => by cases List.mem_singleton.mp hq; exact ⟨_, vq1_lag, ⟨_, rfl⟩⟩⟩⟩, k1⟩ : FunD K "by_deaths" "by_deaths" (defArgs s_by_deaths) (defBody s_by_deaths) (defScope s_by_deaths) [] [("lag", .int 0)] f1 _)) 2 (by simp) rfl fun D _ _ _ _ _ us ks h1 h2 => match us, ks, h1, h2 with | [_, _], [_], _, _ => ⟨_, _, _, _, _, _, rfl, rfl, rfl⟩
    F_by_deaths := F1
    m_by_deaths := PySem.W.mg_of X G a1
    k2_by_deaths := Fun.kbn F1 fun _ _ _ _ _ _ us ws hl hm => match us, ws, hl, hm with | [_, _], [_], _, _ => rfl
    F_eldest := F2
    FC_eldest := funC_mk (st := s_eldest) l2 c2
    m_eldest := PySem.W.mg_of X G a2
    b_eldest := F2.binds (ps := ["bars", "places"]) fun _ _ _ _ _ _ us hl => match us, hl with | [_, _], _ => rfl
    F_by_births := F3
    m_by_births := PySem.W.mg_of X G a3
    b_by_births := F3.binds (ps := ["whole", "made"]) fun _ _ _ _ _ _ us hl => match us, hl with | [_, _], _ => rfl
    F_longest := F4
    FC_longest := funC_mk (st := s_longest) l4 c4
    m_longest := PySem.W.mg_of X G a4
    b_longest := F4.binds (ps := ["bars", "places"]) fun _ _ _ _ _ _ us hl => match us, hl with | [_, _], _ => rfl
    F_law_cell := F5
    m_law_cell := PySem.W.mg_of X G a5
    b_law_cell := F5.binds (ps := ["script", "k"]) fun _ _ _ _ _ _ us hl => match us, hl with | [_, _], _ => rfl
    F_law_draws := F6
    m_law_draws := PySem.W.mg_of X G a6
    b_law_draws := F6.binds (ps := ["cell"]) fun _ _ _ _ _ _ us hl => match us, hl with | [_], _ => rfl
    F_law_next := F7
    m_law_next := PySem.W.mg_of X G a7
    b_law_next := F7.binds (ps := ["draws", "many"]) fun _ _ _ _ _ _ us hl => match us, hl with | [_, _], _ => rfl
    F_law_same := F8
    m_law_same := PySem.W.mg_of X G a8
    b_law_same := F8.binds (ps := ["actual", "expected"]) fun _ _ _ _ _ _ us hl => match us, hl with | [_, _], _ => rfl
    F_law_bar := F9
    m_law_bar := PySem.W.mg_of X G a9
    b_law_bar := F9.binds (ps := ["draws", "last"]) fun _ _ _ _ _ _ us hl => match us, hl with | [_, _], _ => rfl
    F_law_elder := F10
    m_law_elder := PySem.W.mg_of X G a10
    b_law_elder := F10.binds (ps := ["bars", "one", "other"]) fun _ _ _ _ _ _ us hl => match us, hl with | [_, _, _], _ => rfl
    F_law_longer := F11
    m_law_longer := PySem.W.mg_of X G a11
    b_law_longer := F11.binds (ps := ["bars", "one", "other"]) fun _ _ _ _ _ _ us hl => match us, hl with | [_, _, _], _ => rfl
    F_law_due_deaths := F12
    m_law_due_deaths := PySem.W.mg_of X G a12
    b_law_due_deaths := F12.binds (ps := ["part", "whole", "lag"]) fun _ _ _ _ _ _ us hl => match us, hl with | [_, _, _], _ => rfl
    F_law_due_births := F13
    m_law_due_births := PySem.W.mg_of X G a13
    b_law_due_births := F13.binds (ps := ["whole", "made"]) fun _ _ _ _ _ _ us hl => match us, hl with | [_, _], _ => rfl
    F_law_lot := F14
    m_law_lot := PySem.W.mg_of X G a14
    b_law_lot := F14.binds (ps := ["draws"]) fun _ _ _ _ _ _ us hl => match us, hl with | [_], _ => rfl
    F_law := F15
    m_law := PySem.W.mg_of X G a15
    b_law := F15.binds (ps := ["script"]) fun _ _ _ _ _ _ us hl => match us, hl with | [_], _ => rfl
    ne_eldest_longest := ne_2_4
    z_abs := PySem.W.mg_none_of X G z_abs
    z_bool := PySem.W.mg_none_of X G z_bool
    z_enumerate := PySem.W.mg_none_of X G z_enumerate
    z_int := PySem.W.mg_none_of X G z_int
    z_isinstance := PySem.W.mg_none_of X G z_isinstance
    z_len := PySem.W.mg_none_of X G z_len
    z_list := PySem.W.mg_none_of X G z_list
    z_place := PySem.W.mg_none_of X G z_place
    z_range := PySem.W.mg_none_of X G z_range
    z_sorted := PySem.W.mg_none_of X G z_sorted
    z_str := PySem.W.mg_none_of X G z_str
    z_tuple := PySem.W.mg_none_of X G z_tuple
    z_zip := PySem.W.mg_none_of X G z_zip }
  have all : ∀ {φ : Addr × Addr → Prop}, φ (cc2, pp2) → φ (cc4, pp4) → ∀ p ∈ A.tabs, φ p := fun {φ} h2 h4 p hp => by
    simp only [Ad.tabs, List.mem_cons, List.not_mem_nil, or_false, A] at hp
    rcases hp with rfl | rfl
    · exact h2
    · exact h4
  refine ⟨_, A.tabs, spLawT K A, all he2 he4, all nt2 nt4, all (codeHd_by X lc2 hb2) (codeHd_by X lc4 hb4), fun s v => .of_eq rfl, fun H a ns hl _ ht hs => spLawT_in hl hs ht, fun base _ _ TB => ok_law T ⟨TB (cc2, pp2) (by simp [Ad.tabs, A]), TB (cc4, pp4) (by simp [Ad.tabs, A])⟩⟩
end Bw
open PySem PySem.W PyProof.Rows
set_option maxRecDepth 100000 in
set_option maxHeartbeats 0 in
theorem PySem.Challenge.cw_barswoven_k30_pairs_by_deaths_and_births_holds : PySem.Challenge.rw_barswoven_k30_pairs_by_deaths_and_births.Holds := by
  w_on; o_law; k_head; (case hw => w_witness2)
  k_fill
  refine B.walk_tabs (l := PySem.Challenge.rw_barswoven_k30_pairs_by_deaths_and_births) (n := 63) (k := 7) (x := "script") (CX := fun _ => L2.CX0) rfl (by decide) rfl ⟨rfl, by decide, by decide⟩ (fun w h Y => PySem.W.km_in_of Y) ?F (fun _ _ _ _ _ h => h)
  case F =>
    intro w mg fa h Y KX G hmg tabs
    refine' Bw.all_mk KX G hmg ?a0 ?l0 ?c0 ?k0 ?a1 ?l1 ?c1 ?k1 ?vq1_lag ?a2 ?l2 ?c2 ?k2 ?lc2 ?vp2 ?hb2 ?nt2 ?he2 ?a3 ?l3 ?c3 ?k3 ?a4 ?l4 ?c4 ?k4 ?lc4 ?vp4 ?hb4 ?nt4 ?he4 ?a5 ?l5 ?c5 ?k5 ?a6 ?l6 ?c6 ?k6 ?a7 ?l7 ?c7 ?k7 ?a8 ?l8 ?c8 ?k8 ?a9 ?l9 ?c9 ?k9 ?a10 ?l10 ?c10 ?k10 ?a11 ?l11 ?c11 ?k11 ?a12 ?l12 ?c12 ?k12 ?a13 ?l13 ?c13 ?k13 ?a14 ?l14 ?c14 ?k14 ?a15 ?l15 ?c15 ?k15 ?z_abs ?z_bool ?z_enumerate ?z_int ?z_isinstance ?z_len ?z_list ?z_place ?z_range ?z_sorted ?z_str ?z_tuple ?z_zip ?ne_2_4
    (case a0 => k_is)
    (case l0 => k_is)
    (case c0 => k_is)
    (case k0 => k_is)
    (case a1 => k_is)
    (case l1 => k_is)
    (case c1 => k_is)
    (case k1 => k_is)
    (case vq1_lag => k_is)
    (case a2 => k_is)
    (case l2 => k_is)
    (case c2 => k_is)
    (case k2 => k_is)
    (case lc2 => k_is)
    (case vp2 => exact rfl)
    (case hb2 => exact rfl)
    (case nt2 => (first | kernel_rfl | exact rfl | decide))
    (case he2 => exact PySem.W.km_tabs_of Y _ (by simp))
    (case a3 => k_is)
    (case l3 => k_is)
    (case c3 => k_is)
    (case k3 => k_is)
    (case a4 => k_is)
    (case l4 => k_is)
    (case c4 => k_is)
    (case k4 => k_is)
    (case lc4 => k_is)
    (case vp4 => exact rfl)
    (case hb4 => exact rfl)
    (case nt4 => (first | kernel_rfl | exact rfl | decide))
    (case he4 => exact PySem.W.km_tabs_of Y _ (by simp))
    (case a5 => k_is)
    (case l5 => k_is)
    (case c5 => k_is)
    (case k5 => k_is)
    (case a6 => k_is)
    (case l6 => k_is)
    (case c6 => k_is)
    (case k6 => k_is)
    (case a7 => k_is)
    (case l7 => k_is)
    (case c7 => k_is)
    (case k7 => k_is)
    (case a8 => k_is)
    (case l8 => k_is)
    (case c8 => k_is)
    (case k8 => k_is)
    (case a9 => k_is)
    (case l9 => k_is)
    (case c9 => k_is)
    (case k9 => k_is)
    (case a10 => k_is)
    (case l10 => k_is)
    (case c10 => k_is)
    (case k10 => k_is)
    (case a11 => k_is)
    (case l11 => k_is)
    (case c11 => k_is)
    (case k11 => k_is)
    (case a12 => k_is)
    (case l12 => k_is)
    (case c12 => k_is)
    (case k12 => k_is)
    (case a13 => k_is)
    (case l13 => k_is)
    (case c13 => k_is)
    (case k13 => k_is)
    (case a14 => k_is)
    (case l14 => k_is)
    (case c14 => k_is)
    (case k14 => k_is)
    (case a15 => k_is)
    (case l15 => k_is)
    (case c15 => k_is)
    (case k15 => k_is)
    (case z_abs => k_is)
    (case z_bool => k_is)
    (case z_enumerate => k_is)
    (case z_int => k_is)
    (case z_isinstance => k_is)
    (case z_len => k_is)
    (case z_list => k_is)
    (case z_place => k_is)
    (case z_range => k_is)
    (case z_sorted => k_is)
    (case z_str => k_is)
    (case z_tuple => k_is)
    (case z_zip => k_is)
    (case ne_2_4 => decide)
