import PyProof.Rows.All
import Wide.All
import OpenK.AllK
import Wide.FinOn
import HandS.ForMost
import HandS.IsInst
import HandS.Defaults
import HandS.Flow
import HandS.Walk
import HandS.SortKw
import HandS.Keys
import HandS.NamedTupSort
import HandS.Iter
import HandS.TupLe
import HandS.WordsExc
import HandS.ExcOwn
import HandS.CallSlots
import HandS.ClsMeth
import HandS.Property
import HandS.ExcIs
import HandS.TryOnly
import HandS.Zip
import HandS.TupMul
import HandS.TupAny
import HandS.OwnEq
import KE.GoesEnum
import KE.GoesMore
import HandS.Nested
import HandS.EndTab
import HandS.Style
import PySem.Challenge.RW_barswoven_k09_rows_made
set_option Elab.async false
set_option linter.all false
set_option maxRecDepth 100000
set_option maxHeartbeats 4000000
namespace B
open PySem L2

/-! ### data -/
inductive Dt where
  | non | bl (b : Bool) | int (i : Int) | str (x : Str) | lst (xs : List Dt) | tup (xs : List Dt) | ins (C : Addr) (fs : List (Str × Dt))

mutual
inductive Rp (K : PySem.W.Frag) (G : Hp) : V → Dt → Prop
  | non : Rp K G .non .non
  | bl (b : Bool) : Rp K G (.bl b) (.bl b)
  | int (i : Int) : Rp K G (.int i) (.int i)
  | str (x : Str) : Rp K G (.str x) (.str x)
  | lst {a : Addr} {xs : List V} {ds : List Dt} : SqL K G a xs → RpAll K G xs ds → Rp K G (.ref a) (.lst ds)
  | tup {a : Addr} {xs : List V} {ds : List Dt} : SqT K G a xs → RpAll K G xs ds → Rp K G (.ref a) (.tup ds)
  | ins {a C dx : Addr} {fs : List (Str × V)} {ds : List (Str × Dt)} : G a = some (.ins C dx fs) → RpF K G fs ds → Rp K G (.ref a) (.ins C ds)
inductive RpAll (K : PySem.W.Frag) (G : Hp) : List V → List Dt → Prop
  | nil : RpAll K G [] []
  | cons {v : V} {vs : List V} {d : Dt} {ds : List Dt} : Rp K G v d → RpAll K G vs ds → RpAll K G (v :: vs) (d :: ds)
inductive RpF (K : PySem.W.Frag) (G : Hp) : List (Str × V) → List (Str × Dt) → Prop
  | nil : RpF K G [] []
  | cons {f : Str} {v : V} {vs : List (Str × V)} {d : Dt} {ds : List (Str × Dt)} : Rp K G v d → RpF K G vs ds → RpF K G ((f, v) :: vs) ((f, d) :: ds)
end

theorem Same.l {K : PySem.W.Frag} {H H' : Hp} {a : Addr} {xs : List V} (e : Same H H') (h : SqL K H a xs) : SqL K H' a xs := e.seq h
theorem Same.t {K : PySem.W.Frag} {H H' : Hp} {a : Addr} {xs : List V} (e : Same H H') (h : SqT K H a xs) : SqT K H' a xs := by
  rcases h with (h | ⟨o, h⟩) | h
  · exact .inl (.inl (e _ _ h))
  · exact .inl (.inr ⟨o, e _ _ h⟩)
  · exact .inr h

section
variable {K : PySem.W.Frag} {G G' : Hp}
mutual
theorem Rp.mono (e : Same G G') : ∀ (d : Dt) (v : V), Rp K G v d → Rp K G' v d
  | .non, _, h => by cases h; exact .non
  | .bl b, _, h => by cases h; exact .bl _
  | .int i, _, h => by cases h; exact .int _
  | .str x, _, h => by cases h; exact .str _
  | .lst ds, _, h => by
    cases h with
    | lst hs ha => exact .lst (e.seq hs) (RpAll.mono e ds _ ha)
  | .tup ds, _, h => by
    cases h with
    | tup hs ha => exact .tup (Same.t e hs) (RpAll.mono e ds _ ha)
  | .ins C ds, _, h => by
    cases h with
    | ins hs ha => exact .ins (e _ _ hs) (RpF.mono e ds _ ha)
theorem RpAll.mono (e : Same G G') : ∀ (ds : List Dt) (vs : List V), RpAll K G vs ds → RpAll K G' vs ds
  | [], _, h => by cases h; exact .nil
  | d :: ds, _, h => by
    cases h with
    | cons h1 h2 => exact .cons (Rp.mono e d _ h1) (RpAll.mono e ds _ h2)
theorem RpF.mono (e : Same G G') : ∀ (ds : List (Str × Dt)) (vs : List (Str × V)), RpF K G vs ds → RpF K G' vs ds
  | [], _, h => by cases h; exact .nil
  | (f, d) :: ds, _, h => by
    cases h with
    | cons h1 h2 => exact .cons (Rp.mono e d _ h1) (RpF.mono e ds _ h2)
end
theorem Rp.up {v : V} {d : Dt} (e : Same G G') (h : Rp K G v d) : Rp K G' v d := Rp.mono e d v h
theorem RpAll.up {v : List V} {d : List Dt} (e : Same G G') (h : RpAll K G v d) : RpAll K G' v d := RpAll.mono e d v h
theorem RpF.up {v : List (Str × V)} {d : List (Str × Dt)} (e : Same G G') (h : RpF K G v d) : RpF K G' v d := RpF.mono e d v h

theorem Rp.non_inv {v : V} (h : Rp K G v .non) : v = .non := by cases h; rfl
theorem Rp.bl_inv {v : V} {b : Bool} (h : Rp K G v (.bl b)) : v = .bl b := by cases h; rfl
theorem Rp.int_inv {v : V} {b : Int} (h : Rp K G v (.int b)) : v = .int b := by cases h; rfl
theorem Rp.str_inv {v : V} {b : Str} (h : Rp K G v (.str b)) : v = .str b := by cases h; rfl
theorem Rp.lst_inv {v : V} {ds : List Dt} (h : Rp K G v (.lst ds)) : ∃ a xs, v = .ref a ∧ SqL K G a xs ∧ RpAll K G xs ds := by
  cases h with
  | lst h1 h2 => exact ⟨_, _, rfl, h1, h2⟩
theorem Rp.tup_inv {v : V} {ds : List Dt} (h : Rp K G v (.tup ds)) : ∃ a xs, v = .ref a ∧ SqT K G a xs ∧ RpAll K G xs ds := by
  cases h with
  | tup h1 h2 => exact ⟨_, _, rfl, h1, h2⟩
theorem Rp.ins_inv {v : V} {C : Addr} {ds : List (Str × Dt)} (h : Rp K G v (.ins C ds)) : ∃ a dx fs, v = .ref a ∧ G a = some (.ins C dx fs) ∧ RpF K G fs ds := by
  cases h with
  | ins h1 h2 => exact ⟨_, _, _, rfl, h1, h2⟩
theorem RpAll.length : ∀ {vs : List V} {ds : List Dt}, RpAll K G vs ds → vs.length = ds.length
  | _, [], h => by cases h; rfl
  | _, d :: ds, h => by
    cases h with
    | cons h1 h2 => exact congrArg Nat.succ (RpAll.length h2)
theorem RpAll.get : ∀ {vs : List V} {ds : List Dt} {i : Nat} {d : Dt}, RpAll K G vs ds → ds[i]? = some d → ∃ v, vs[i]? = some v ∧ Rp K G v d
  | _, [], i, d, h, e => by simp at e
  | _, d :: ds, 0, _, h, e => by
    cases h with
    | cons h1 h2 =>
      simp at e
      subst e
      exact ⟨_, rfl, h1⟩
  | _, d :: ds, i + 1, _, h, e => by
    cases h with
    | cons h1 h2 => exact RpAll.get (i := i) h2 (by simpa using e)
theorem RpAll.getV : ∀ {vs : List V} {ds : List Dt} {i : Nat} {v : V}, RpAll K G vs ds → vs[i]? = some v → ∃ d, ds[i]? = some d ∧ Rp K G v d
  | _, [], i, d, h, e => by cases h; simp at e
  | _, d :: ds, 0, _, h, e => by
    cases h with
    | cons h1 h2 =>
      simp at e
      subst e
      exact ⟨_, rfl, h1⟩
  | _, d :: ds, i + 1, _, h, e => by
    cases h with
    | cons h1 h2 => exact RpAll.getV (i := i) h2 (by simpa using e)
theorem RpAll.atI {vs : List V} {ds : List Dt} {i : Int} {d : Dt} (h : RpAll K G vs ds) (e : atI ds i = some d) : ∃ v, L2.atI vs i = some v ∧ Rp K G v d := by
  unfold L2.atI at e ⊢
  rw [h.length]
  cases hi : ixN ds.length i with
  | none => rw [hi] at e; cases e
  | some j =>
    rw [hi] at e
    exact h.get e
theorem RpAll.app {vs ws : List V} {ds es : List Dt} (h : RpAll K G vs ds) (h' : RpAll K G ws es) : RpAll K G (vs ++ ws) (ds ++ es) := by
  induction ds generalizing vs with
  | nil => cases h; exact h'
  | cons d ds ih =>
    cases h with
    | cons h1 h2 => exact .cons h1 (ih h2)
theorem RpAll.one {v : V} {d : Dt} (h : Rp K G v d) : RpAll K G [v] [d] := .cons h .nil
theorem RpAll.bls_inv : ∀ {vs : List V} {bs : List Bool}, RpAll K G vs (bs.map .bl) → vs = bs.map .bl
  | _, [], h => by cases h; rfl
  | _, b :: bs, h => by
    cases h with
    | cons h1 h2 => rw [Rp.bl_inv h1, RpAll.bls_inv h2]; rfl
theorem RpAll.ints_inv : ∀ {vs : List V} {bs : List Int}, RpAll K G vs (bs.map .int) → vs = bs.map .int
  | _, [], h => by cases h; rfl
  | _, b :: bs, h => by
    cases h with
    | cons h1 h2 => rw [Rp.int_inv h1, RpAll.ints_inv h2]; rfl
theorem RpAll.ints : ∀ {bs : List Int}, RpAll K G (bs.map .int) (bs.map .int)
  | [] => .nil
  | b :: bs => .cons (.int b) RpAll.ints
theorem RpAll.take (h : RpAll K G vs ds) (n : Nat) : RpAll K G (vs.take n) (ds.take n) := by
  induction ds generalizing vs n with
  | nil => cases h; simp; exact .nil
  | cons d ds ih =>
    cases h with
    | cons h1 h2 =>
      cases n with
      | zero => exact .nil
      | succ n => exact .cons h1 (ih h2 n)
theorem RpAll.drop (h : RpAll K G vs ds) (n : Nat) : RpAll K G (vs.drop n) (ds.drop n) := by
  induction ds generalizing vs n with
  | nil => cases h; simp; exact .nil
  | cons d ds ih =>
    cases h with
    | cons h1 h2 =>
      cases n with
      | zero => exact .cons h1 h2
      | succ n => exact ih h2 n
theorem RpAll.set {v : V} {d : Dt} (h : RpAll K G vs ds) (r : Rp K G v d) (n : Nat) : RpAll K G (vs.set n v) (ds.set n d) := by
  induction ds generalizing vs n with
  | nil => cases h; simp; exact .nil
  | cons e ds ih =>
    cases h with
    | cons h1 h2 =>
      cases n with
      | zero => exact .cons r h2
      | succ n => exact .cons h1 (ih h2 n)
/-- equal lengths and places -/
theorem RpAll.of_get {vs : List V} {ds : List Dt} (hl : vs.length = ds.length) (h : ∀ (i : Nat) v d, vs[i]? = some v → ds[i]? = some d → Rp K G v d) : RpAll K G vs ds := by
  induction ds generalizing vs with
  | nil =>
    cases vs with
    | nil => exact .nil
    | cons v vs => simp at hl
  | cons d ds ih =>
    cases vs with
    | nil => simp at hl
    | cons v vs =>
      refine .cons (h 0 v d rfl rfl) (ih (by simpa using hl) fun i v' d' h1 h2 => h (i + 1) v' d' (by simpa using h1) (by simpa using h2))
end

/-! ### the state -/
structure Adv (D : List Addr) (G H G' H' : Hp) : Prop where
  gg : Same G G'
  gh : Same G' H'
  fr : ∀ a, H a ≠ none → G' a = G a
  kp : ∀ a o, H a = some o → a ∉ D → H' a = some o
  up : ∀ a, H a ≠ none → H' a ≠ none

structure Sta (K : PySem.W.Frag) (G0 H0 : Hp) (D : List Addr) (G : Hp) (M : List (Addr × HO)) (H : Hp) : Prop where
  g0 : Same G0 G
  gh : Same G H
  fr : ∀ a, H0 a ≠ none → G a = G0 a
  kp : ∀ a o, H0 a = some o → a ∉ D → H a = some o
  up : ∀ a, H0 a ≠ none → H a ≠ none
  md : (M.map (·.1)).Nodup
  mh : ∀ q ∈ M, H q.1 = some q.2 ∧ G q.1 = none ∧ (q.1 ∈ D ∨ H0 q.1 = none)

section
variable {K : PySem.W.Frag} {G0 H0 G H G1 H1 : Hp} {D : List Addr} {M : List (Addr × HO)} {p : Addr} {o : HO}
theorem same_upd {H : Hp} {p : Addr} {o : HO} (h : H p = none) : Same H (upd H p o) := fun b x e => by
  rw [upd_ne (ne_of_none e h)]
  exact e
theorem same_upd2 {G H : Hp} {p : Addr} {o : HO} (e : Same G H) : Same (upd G p o) (upd H p o) := fun b x h => by
  by_cases hb : b = p
  · subst hb
    rw [upd_same] at h ⊢
    exact h
  · rw [upd_ne hb] at h ⊢
    exact e _ _ h
theorem same_updR {G H : Hp} {p : Addr} {o : HO} (e : Same G H) (h : G p = none) : Same G (upd H p o) := fun b x hb => by
  rw [upd_ne (ne_of_none hb h)]
  exact e _ _ hb
theorem Sta.adv (h : Sta K G0 H0 D G M H) : Adv D G0 H0 G H := ⟨h.g0, h.gh, h.fr, h.kp, h.up⟩
theorem Sta.start (e : Same G H) : Sta K G H [] G [] H :=
  ⟨Same.refl G, e, fun _ _ => rfl, fun _ _ h _ => h, fun _ h => h, by simp, fun q hq => by simp at hq⟩
theorem Sta.start1 (e : Same G H) (hp : H p = some o) (hg : G p = none) : Sta K G H [p] G [(p, o)] H :=
  ⟨Same.refl G, e, fun _ _ => rfl, fun _ _ h _ => h, fun _ h => h, by simp, fun q hq => by
    simp at hq
    subst hq
    exact ⟨hp, hg, .inl (by simp)⟩⟩
theorem Sta.h0 (h : Sta K G0 H0 D G M H) (hp : H p = none) : H0 p = none := by
  cases e : H0 p with
  | none => rfl
  | some u => exact absurd hp (h.up p (by rw [e]; exact fun z => nomatch z))
theorem Sta.gn (h : Sta K G0 H0 D G M H) (hp : H p = none) : G p = none := h.gh.free hp
theorem Sta.mn (h : Sta K G0 H0 D G M H) (hp : H p = none) : ∀ q ∈ M, q.1 ≠ p := fun q hq e => by
  have := (h.mh q hq).1
  rw [e, hp] at this
  cases this
/-- a new object that never changes -/
theorem Sta.imm (h : Sta K G0 H0 D G M H) (hp : H p = none) (o : HO) : Sta K G0 H0 D (upd G p o) M (upd H p o) where
  g0 := h.g0.trans (same_upd (h.gn hp))
  gh := same_upd2 h.gh
  fr := fun a ha => by
    have : a ≠ p := fun e => ha (by rw [e]; exact h.h0 hp)
    rw [upd_ne this]
    exact h.fr a ha
  kp := fun a u ha hd => by
    rw [upd_ne (ne_of_none ha (h.h0 hp))]
    exact h.kp a u ha hd
  up := fun a ha => by
    have : a ≠ p := fun e => ha (by rw [e]; exact h.h0 hp)
    rw [upd_ne this]
    exact h.up a ha
  md := h.md
  mh := fun q hq => by
    have := h.mn hp q hq
    rw [upd_ne this, upd_ne this]
    exact h.mh q hq
/-- a new object that will change -/
theorem Sta.mut (h : Sta K G0 H0 D G M H) (hp : H p = none) (o : HO) : Sta K G0 H0 D G ((p, o) :: M) (upd H p o) where
  g0 := h.g0
  gh := same_updR h.gh (h.gn hp)
  fr := h.fr
  kp := fun a u ha hd => by
    rw [upd_ne (ne_of_none ha (h.h0 hp))]
    exact h.kp a u ha hd
  up := fun a ha => by
    have : a ≠ p := fun e => ha (by rw [e]; exact h.h0 hp)
    rw [upd_ne this]
    exact h.up a ha
  md := by
    simp only [List.map_cons, List.nodup_cons]
    exact ⟨fun hm => by
      obtain ⟨q, hq, e⟩ := List.mem_map.mp hm
      exact h.mn hp q hq e, h.md⟩
  mh := fun q hq => by
    rcases List.mem_cons.mp hq with rfl | hq
    · exact ⟨upd_same, h.gn hp, .inr (h.h0 hp)⟩
    · rw [upd_ne (h.mn hp q hq)]
      exact h.mh q hq
theorem Sta.get (h : Sta K G0 H0 D G M H) {i : Nat} (hi : M[i]? = some (p, o)) : H p = some o := (h.mh _ (List.mem_of_getElem? hi)).1
theorem nd_at {α β : Type} {M : List (α × β)} (nd : (M.map (·.1)).Nodup) {i j : Nat} {p q : α × β} (hi : M[i]? = some p) (hj : M[j]? = some q) (e : p.1 = q.1) : i = j := by
  have h1 : (M.map (·.1))[i]? = some p.1 := by rw [List.getElem?_map, hi]; rfl
  have h2 : (M.map (·.1))[j]? = some q.1 := by rw [List.getElem?_map, hj]; rfl
  exact L2.nd_ix nd h1 (by rw [e]; exact h2)
theorem set_keys {M : List (Addr × HO)} {i : Nat} {p : Addr} {o u : HO} (hi : M[i]? = some (p, o)) : (M.set i (p, u)).map (·.1) = M.map (·.1) := by
  rw [List.map_set]
  apply List.ext_getElem?
  intro j
  rw [List.getElem?_set]
  split
  · rename_i e
    subst e
    split
    · rw [List.getElem?_map, hi]; rfl
    · rename_i hn
      have := (List.getElem?_eq_some_iff.mp hi).1
      simp at hn
      omega
  · rfl
theorem set_mem {M : List (Addr × HO)} {i : Nat} {p : Addr} {o u : HO} (nd : (M.map (·.1)).Nodup) (hi : M[i]? = some (p, o)) {q : Addr × HO} (hq : q ∈ M.set i (p, u)) : q = (p, u) ∨ (q ∈ M ∧ q.1 ≠ p) := by
  obtain ⟨j, hj⟩ := List.mem_iff_getElem?.mp hq
  rw [List.getElem?_set] at hj
  split at hj
  · split at hj
    · exact .inl (Option.some.inj hj).symm
    · cases hj
  · rename_i hne
    refine .inr ⟨List.mem_of_getElem? hj, fun e => hne ?_⟩
    exact nd_at nd hi hj e.symm
/-- an object that may change is written -/
theorem Sta.set (h : Sta K G0 H0 D G M H) {i : Nat} (hi : M[i]? = some (p, o)) (u : HO) : Sta K G0 H0 D G (M.set i (p, u)) (upd H p u) where
  g0 := h.g0
  gh := same_updR h.gh (h.mh _ (List.mem_of_getElem? hi)).2.1
  fr := h.fr
  kp := fun a v ha hd => by
    have : a ≠ p := fun e => by
      subst e
      rcases (h.mh _ (List.mem_of_getElem? hi)).2.2 with z | z
      · exact hd z
      · have z' : H0 a = none := z
        rw [ha] at z'
        cases z'
    rw [upd_ne this]
    exact h.kp a v ha hd
  up := fun a ha => by
    by_cases e : a = p
    · rw [e, upd_same]; exact fun z => nomatch z
    · rw [upd_ne e]; exact h.up a ha
  md := by rw [set_keys hi]; exact h.md
  mh := fun q hq => by
    rcases set_mem h.md hi hq with rfl | ⟨hm, hn⟩
    · exact ⟨upd_same, (h.mh _ (List.mem_of_getElem? hi)).2⟩
    · rw [upd_ne hn]
      exact h.mh q hm
/-- the first of what may change will not change any more -/
theorem Sta.frz (h : Sta K G0 H0 D G ((p, o) :: M) H) (h0 : H0 p = none) : Sta K G0 H0 D (upd G p o) M H ∧ Same G (upd G p o) := by
  have hm := h.mh _ List.mem_cons_self
  have hmn : ∀ q ∈ M, q.1 ≠ p := fun q hq e => by
    have := h.md
    simp only [List.map_cons, List.nodup_cons] at this
    exact this.1 (List.mem_map.mpr ⟨q, hq, e⟩)
  have sg : Same G (upd G p o) := same_upd hm.2.1
  refine ⟨⟨h.g0.trans sg, fun b x e => ?_, fun a ha => ?_, h.kp, h.up, ?_, fun q hq => ?_⟩, sg⟩
  · by_cases hb : b = p
    · subst hb
      rw [upd_same] at e
      cases e
      exact hm.1
    · rw [upd_ne hb] at e
      exact h.gh _ _ e
  · have : a ≠ p := fun e => ha (by rw [e]; exact h0)
    rw [upd_ne this]
    exact h.fr a ha
  · have := h.md
    simp only [List.map_cons, List.nodup_cons] at this
    exact this.2
  · rw [upd_ne (hmn q hq)]
    exact h.mh q (List.mem_cons_of_mem _ hq)
theorem Sta.frzL (h : Sta K G0 H0 D G ((p, .lst xs) :: M) H) (h0 : H0 p = none) (hx : RpAll K G xs ds) : ∃ G1, Same G G1 ∧ Sta K G0 H0 D G1 M H ∧ Rp K G1 (.ref p) (.lst ds) := by
  obtain ⟨h1, e⟩ := h.frz h0
  exact ⟨_, e, h1, .lst (.inl (.inl upd_same)) (hx.up e)⟩
/-- the first of what may change is forgotten (it was the def's own) -/
theorem Sta.pop (h : Sta K G0 H0 D G ((p, o) :: M) H) : Sta K G0 H0 D G M H :=
  ⟨h.g0, h.gh, h.fr, h.kp, h.up, by
    have := h.md
    simp only [List.map_cons, List.nodup_cons] at this
    exact this.2, fun q hq => h.mh q (List.mem_cons_of_mem _ hq)⟩
/-- a call that changes nothing that stood -/
theorem Sta.call (h : Sta K G0 H0 D G M H) (a : Adv [] G H G1 H1) : Sta K G0 H0 D G1 M H1 where
  g0 := h.g0.trans a.gg
  gh := a.gh
  fr := fun b hb => by rw [a.fr b (h.up b hb)]; exact h.fr b hb
  kp := fun b u hb hd => a.kp b u (h.kp b u hb hd) (by simp)
  up := fun b hb => a.up b (h.up b hb)
  md := h.md
  mh := fun q hq => by
    obtain ⟨e1, e2, e3⟩ := h.mh q hq
    exact ⟨a.kp _ _ e1 (by simp), by rw [a.fr _ (by rw [e1]; exact fun z => nomatch z)]; exact e2, e3⟩
/-- a call that changes one thing that may change -/
theorem Sta.callM (h : Sta K G0 H0 D G M H) {i : Nat} {u : HO} (hi : M[i]? = some (p, o)) (a : Adv [p] G H G1 H1) (hp : H1 p = some u) : Sta K G0 H0 D G1 (M.set i (p, u)) H1 where
  g0 := h.g0.trans a.gg
  gh := a.gh
  fr := fun b hb => by rw [a.fr b (h.up b hb)]; exact h.fr b hb
  kp := fun b v hb hd => by
    have : b ≠ p := fun e => by
      subst e
      rcases (h.mh _ (List.mem_of_getElem? hi)).2.2 with z | z
      · exact hd z
      · have z' : H0 b = none := z
        rw [hb] at z'
        cases z'
    exact a.kp b v (h.kp b v hb hd) (by simpa using this)
  up := fun b hb => a.up b (h.up b hb)
  md := by rw [set_keys hi]; exact h.md
  mh := fun q hq => by
    rcases set_mem h.md hi hq with rfl | ⟨hm, hn⟩
    · obtain ⟨e1, e2, e3⟩ := h.mh _ (List.mem_of_getElem? hi)
      exact ⟨hp, by rw [a.fr _ (by rw [e1]; exact fun z => nomatch z)]; exact e2, e3⟩
    · obtain ⟨e1, e2, e3⟩ := h.mh q hm
      exact ⟨a.kp _ _ e1 (by simpa using hn), by rw [a.fr _ (by rw [e1]; exact fun z => nomatch z)]; exact e2, e3⟩
end
end B
namespace B
open PySem L2

theorem sz {n : Nat} (h : n ≤ 100000) : n ≤ sizeLine := Nat.le_trans h (by decide)
/-! ### the readings' parts by names (the wish stays an argument) -/
def NT (Q : VK) (xs : List V) (H : Hp) : Prop := xs.length ≤ sizeLine ∧ ∀ p, H p = none → Q (.ref p) (upd H p (.tup xs))
def NL (Q : VK) (xs : List V) (H : Hp) : Prop := xs.length ≤ sizeLine ∧ ∀ p, H p = none → Q (.ref p) (upd H p (.lst xs))
def TK (P : Bool → Hp → Prop) (x : V) (H : Hp) : Prop := ∃ k, x = .bl k ∧ P k H
def TKA (A B : Hp → Prop) (x : V) (H : Hp) : Prop := ∃ k, x = .bl k ∧ if k = true then A H else B H
def RK1 (k : It → Hp → Prop) (vs : List V) (H : Hp) : Prop := ∃ j : Int, vs = [.int j] ∧ -(2 ^ 62) ≤ j ∧ j < 2 ^ 62 ∧ k (Itr 0 j.toNat) H
def RK2 (k : It → Hp → Prop) (vs : List V) (H : Hp) : Prop := ∃ i j : Int, vs = [.int i, .int j] ∧ (-(2 ^ 62) ≤ i ∧ i < 2 ^ 62 ∧ -(2 ^ 62) ≤ j ∧ j < 2 ^ 62) ∧ k (Itr i (j - i).toNat) H
def LK (K : PySem.W.Frag) (k : It → Hp → Prop) (x : V) (H : Hp) : Prop := ∃ a, x = .ref a ∧ (∃ xs, SqL K H a xs) ∧ k (Itl K a) H
def FK (K : PySem.W.Frag) (f : Str) (Q : VK) (x : V) (H : Hp) : Prop := ∃ a C dx fs v, x = .ref a ∧ H a = some (.ins C dx fs) ∧ Cls K C ∧ NoAttr K C f ∧ fs.lookup f = some v ∧ Q v H
def CN (n m : Nat) (sp : Sp) (gV : List V → List V → List V) (Q : VK) (E : XK) (vs zs : List V) (H : Hp) : Prop := vs.length = n ∧ zs.length = m ∧ sp (gV vs zs) H Q E
def P2 (p : L2.St → Hp → Prop) (σ : L2.St) (i j : Nat) (vs : List V) (H : Hp) : Prop := ∃ v w, vs = [v, w] ∧ p ((σ.set i (some v)).set j (some w)) H
def BMK (K : PySem.W.Frag) (T : String) (k : Hp → Prop) (x : V) (H : Hp) : Prop := tyV K T x H ∧ k H
def rAbs_ : List V → Hp → VK → Prop := fun xs H Q => ∃ i, xs = [.int i] ∧ Q (.int (if i < 0 then -i else i)) H
def rMax2_ : List V → Hp → VK → Prop := fun xs H Q => ∃ i j, xs = [.int i, .int j] ∧ Q (.int (if j > i then j else i)) H
def rMin2_ : List V → Hp → VK → Prop := fun xs H Q => ∃ i j, xs = [.int i, .int j] ∧ Q (.int (if j < i then j else i)) H
def rInt_ : List V → Hp → VK → Prop := fun xs H Q => (∃ i, xs = [.int i] ∧ Q (.int i) H) ∨ ∃ k, xs = [.bl k] ∧ Q (.int (if k then 1 else 0)) H
def rLen_ (K : PySem.W.Frag) : List V → Hp → VK → Prop := fun xs H Q => ∃ p ys, xs = [.ref p] ∧ (SqL K H p ys ∨ SqT K H p ys) ∧ Q (.int ys.length) H
def rLenS_ : List V → Hp → VK → Prop := fun xs H Q => ∃ z, xs = [.str z] ∧ z.length ≤ sizeLine ∧ Q (.int z.length) H
def rListOf_ (K : PySem.W.Frag) : List V → Hp → VK → Prop := fun xs H Q => ∃ p ys, xs = [.ref p] ∧ (SqL K H p ys ∨ SqT K H p ys) ∧ ∀ l, H l = none → Q (.ref l) (upd H l (.lst ys))
def rTupOf_ (K : PySem.W.Frag) : List V → Hp → VK → Prop := fun xs H Q => ∃ p ys, xs = [.ref p] ∧ ((SqL K H p ys ∧ ∀ l, H l = none → Q (.ref l) (upd H l (.tup ys))) ∨ (SqT K H p ys ∧ Q (.ref p) H))
def rIsN_ : R2 := fun x y H Q => y = .non ∧ Q (.bl (decide (x = .non))) H
def rNotN_ : R2 := fun x y H Q => y = .non ∧ Q (.bl (!decide (x = .non))) H
def rTru_ (K : PySem.W.Frag) (P : Bool → Hp → Prop) (x : V) (H : Hp) : Prop := ∃ k, TruV K x H k ∧ P k H
def tTru_ (K : PySem.W.Frag) (ta : TE) : TT := fun σ H Q => ta σ H fun x H' => rTru_ K Q x H'
section
variable {X : Cx}
theorem b_abs : CallR X (.builtin "abs") rAbs_ := call_abs
theorem b_max (hc : X.calm = true) : CallR X (.builtin "max") rMax2_ := call_max2 hc
theorem b_min (hc : X.calm = true) : CallR X (.builtin "min") rMin2_ := call_min2 hc
theorem b_int : CallR X (.type "int") rInt_ := call_int1
theorem b_len : CallR X (.builtin "len") (rLen_ X.K) := call_len_seq
theorem b_lenS : CallR X (.builtin "len") rLenS_ := call_len_str
theorem b_list : CallR X (.type "list") (rListOf_ X.K) := call_list_of
theorem b_tuple : CallR X (.type "tuple") (rTupOf_ X.K) := call_tuple_of
theorem o_isN : OpR X (compareOp .Is) rIsN_ := op_isN
theorem o_notN : OpR X (compareOp .IsNot) rNotN_ := op_notN
theorem pt_tru {a : Expr} {ta : TE} (ha : PE X a ta) (he : ∀ whole, isTrue a X.env whole = (do let v ← whole; standAt a.pos; holding [v] (truthy v)) := by intro _; rfl) : PT X a (tTru_ X.K ta) := pt_truth ha he
end

theorem mi0 {M : List (Addr × HO)} {q : Addr × HO} (h : M[0]? = some q) : M[0]? = some q := h
theorem mi1 {M : List (Addr × HO)} {q : Addr × HO} (h : M[1]? = some q) : M[1]? = some q := h
theorem mi2 {M : List (Addr × HO)} {q : Addr × HO} (h : M[2]? = some q) : M[2]? = some q := h
theorem mi3 {M : List (Addr × HO)} {q : Addr × HO} (h : M[3]? = some q) : M[3]? = some q := h
/-! ### one step each: the reading's head is taken off -/
section
variable {K : PySem.W.Frag} {G0 H0 G H : Hp} {D : List Addr} {M : List (Addr × HO)} {σ σ' : L2.St} {Q : VK} {nx bk ct : L2.St → Hp → Prop} {rt : VK} {t u : TS} {c c' : TT} {ta tb te : TE} {x y v : V} {d : Dt} {ds : List Dt} {P : Bool → Hp → Prop} {R : List V → Hp → Prop} {i : Nat} {b : Bool}
theorem go_σ {p : L2.St → Hp → Prop} (e : List.set σ i (some x) = σ') (h : p σ' H) : p (List.set σ i (some x)) H := by rw [e]; exact h
theorem go_start {N : List Str} {vs : List V} {De : Ends} (e : start N vs = σ) (h : t De σ H) : t De (start N vs) H := by rw [e]; exact h
theorem go_seq (h : t ⟨u ⟨nx, rt, bk, ct⟩, rt, bk, ct⟩ σ H) : tSeq t u ⟨nx, rt, bk, ct⟩ σ H := h
theorem go_next (h : nx σ H) : tNext ⟨nx, rt, bk, ct⟩ σ H := h
theorem go_break (h : bk σ H) : tBreak ⟨nx, rt, bk, ct⟩ σ H := h
theorem go_cont (h : ct σ H) : tCont ⟨nx, rt, bk, ct⟩ σ H := h
theorem go_asg {g : TG} (h : te σ H fun x H1 => g x σ H1 nx) : tAsg te g ⟨nx, rt, bk, ct⟩ σ H := h
theorem go_gname {p : L2.St → Hp → Prop} (e : List.set σ i (some x) = σ') (h : p σ' H) : gName i x σ H p := by show p (List.set σ i (some x)) H; rw [e]; exact h
theorem go_aug {ti : TIp} (e : σ[i]? = some (some x)) (h : te σ H fun y H1 => ti x y H1 fun z H2 => nx (σ.set i (some z)) H2) : tAug i te ti ⟨nx, rt, bk, ct⟩ σ H := ⟨x, e, h⟩
theorem go_ipI {f : Int → Int → Int} {i j : Int} (h : Q (.int (f i j)) H) : ipI f (.int i) (.int j) H Q := ⟨i, j, rfl, rfl, h⟩
theorem go_ret (h : te σ H rt) : tRet te ⟨nx, rt, bk, ct⟩ σ H := h
theorem go_retN (h : rt .non H) : tRetN ⟨nx, rt, bk, ct⟩ σ H := h
theorem go_drop (h : te σ H fun _ H1 => nx σ H1) : tDrop te ⟨nx, rt, bk, ct⟩ σ H := h
theorem go_ifS (h : c σ H fun b H1 => if b = true then t ⟨nx, rt, bk, ct⟩ σ H1 else u ⟨nx, rt, bk, ct⟩ σ H1) : tIfS c t u ⟨nx, rt, bk, ct⟩ σ H := h
theorem go_par {i j : Nat} {t : TA} (h : t σ H fun vs H1 => P2 nx σ i j vs H1) : tPar i j t ⟨nx, rt, bk, ct⟩ σ H := h
theorem go_par2 {p : L2.St → Hp → Prop} {i j : Nat} (e : List.set (List.set σ i (some x)) j (some y) = σ') (h : p σ' H) : P2 p σ i j [x, y] H := ⟨x, y, rfl, by rw [e]; exact h⟩

theorem go_var (e : σ[i]? = some (some v)) (h : Q v H) : tVar i σ H Q := ⟨v, e, h⟩
theorem go_c (h : Q v H) : tC v σ H Q := h
theorem go_op {r : R2} (h : ta σ H fun x H1 => tb σ H1 fun y H2 => r x y H2 Q) : tOp r ta tb σ H Q := h
theorem go_un {r : V → Hp → VK → Prop} (h : ta σ H fun x H1 => r x H1 Q) : tUn r ta σ H Q := h
theorem go_rI0 {g : Int → Int → V} {i j : Int} (h : Q (g i j) H) : rI0 g (.int i) (.int j) H Q := ⟨i, j, rfl, rfl, h⟩
theorem go_rI {C : Int → Int → Prop} {g : Int → Int → V} {i j : Int} (hc : C i j) (h : Q (g i j) H) : rI C g (.int i) (.int j) H Q := ⟨i, j, rfl, rfl, hc, h⟩
theorem go_rU {g : Int → V} {i : Int} (h : Q (g i) H) : rU g (.int i) H Q := ⟨i, rfl, h⟩
theorem go_eqI {i j : Int} (h : Q (.bl (decide (i = j))) H) : rEq (.int i) (.int j) H Q := ⟨rfl, by
  have : decide (V.int i = V.int j) = decide (i = j) := by simp
  rw [this]; exact h⟩
theorem go_neI {i j : Int} (h : Q (.bl (!decide (i = j))) H) : rNe (.int i) (.int j) H Q := ⟨rfl, by
  have : decide (V.int i = V.int j) = decide (i = j) := by simp
  rw [this]; exact h⟩
theorem go_eqB {i j : Bool} (h : Q (.bl (decide (i = j))) H) : rEq (.bl i) (.bl j) H Q := ⟨rfl, by
  have : decide (V.bl i = V.bl j) = decide (i = j) := by simp
  rw [this]; exact h⟩
theorem go_neB {i j : Bool} (h : Q (.bl (!decide (i = j))) H) : rNe (.bl i) (.bl j) H Q := ⟨rfl, by
  have : decide (V.bl i = V.bl j) = decide (i = j) := by simp
  rw [this]; exact h⟩
theorem go_eqS {i j : Str} (h : Q (.bl (decide (i = j))) H) : rEq (.str i) (.str j) H Q := ⟨rfl, by
  have : decide (V.str i = V.str j) = decide (i = j) := by simp
  rw [this]; exact h⟩
theorem go_neS {i j : Str} (h : Q (.bl (!decide (i = j))) H) : rNe (.str i) (.str j) H Q := ⟨rfl, by
  have : decide (V.str i = V.str j) = decide (i = j) := by simp
  rw [this]; exact h⟩
theorem go_tIsN (h : ta σ H fun x H1 => Q (.bl (decide (x = .non))) H1) : tIsN ta σ H Q := h
theorem go_tNotN (h : ta σ H fun x H1 => Q (.bl (!decide (x = .non))) H1) : tNotN ta σ H Q := h
theorem isN_int {i : Int} : decide (V.int i = .non) = false := rfl
theorem isN_non : decide (V.non = .non) = true := rfl
theorem isN_ref {i : Addr} : decide (V.ref i = .non) = false := rfl
theorem isN_bl {i : Bool} : decide (V.bl i = .non) = false := rfl
theorem isN_str {i : Str} : decide (V.str i = .non) = false := rfl
theorem go_tTest (h : te σ H fun x H1 => TK P x H1) : tTest te σ H P := h
theorem go_tB (h : te σ H fun x H1 => TK P x H1) : tB te σ H P := h
theorem go_k (h : P b H) : TK P (.bl b) H := ⟨b, rfl, h⟩
theorem go_tAnd (h : c σ H fun b H1 => if b = true then c' σ H1 P else P false H1) : tAnd c c' σ H P := h
theorem go_tOr (h : c σ H fun b H1 => if b = true then P true H1 else c' σ H1 P) : tOr c c' σ H P := h
theorem go_tNot (h : c σ H fun b H1 => P (!b) H1) : tNot c σ H P := h
theorem go_tAndV (h : ta σ H fun x H1 => TKA (fun H2 => tb σ H2 Q) (fun H2 => Q (.bl false) H2) x H1) : tAndV ta tb σ H Q := h
theorem go_tOrV (h : ta σ H fun x H1 => TKA (fun H2 => Q (.bl true) H2) (fun H2 => tb σ H2 Q) x H1) : tOrV ta tb σ H Q := h
theorem go_tNotV (h : ta σ H fun x H1 => TK (fun k H2 => Q (.bl (!k)) H2) x H1) : tNotV ta σ H Q := h
theorem go_kand {A B : Hp → Prop} (h : if b = true then A H else B H) : TKA A B (.bl b) H := ⟨b, rfl, h⟩
theorem go_tIf (h : c σ H fun b H1 => if b = true then ta σ H1 Q else tb σ H1 Q) : tIf c ta tb σ H Q := h
theorem go_tYes (h : P true H) : tYes σ H P := h
theorem go_cons {tr : TA} (h : ta σ H fun x H1 => tr σ H1 fun xs H2 => R (x :: xs) H2) : tCons ta tr σ H R := h
theorem go_nil (h : R [] H) : tNil σ H R := h
theorem go_tCB {r : List V → Hp → VK → Prop} {t : TA} (h : t σ H fun vs H1 => r vs H1 Q) : tCB r t σ H Q := h
theorem go_call {sp : Sp} {dvs : List V} {E : XK} {t : TA} (h : t σ H fun vs H1 => sp (vs ++ dvs) H1 Q E) : tCall sp dvs E t σ H Q := h
theorem go_call0 {sp : Sp} {vs : List V} {E : XK} (h : sp vs H Q E) : sp (vs ++ []) H Q E := by rw [List.append_nil]; exact h
theorem go_callN {n m : Nat} {sp : Sp} {gV : List V → List V → List V} {E : XK} {t tk : TA} (h : t σ H fun vs H1 => tk σ H1 fun zs H2 => CN n m sp gV Q E vs zs H2) : tCallN n m sp gV E t tk σ H Q := h
theorem go_chain {r r' : R2} {tc : TE} (h : ta σ H fun x H1 => tb σ H1 fun y H2 => r x y H2 fun z H3 => TKA (fun H4 => tc σ H4 fun w H5 => r' y w H5 Q) (fun H4 => Q (.bl false) H4) z H3) : tChain r r' ta tb tc σ H Q := h
theorem go_ite {p : Prop} [Decidable p] {A B : Prop} (h1 : p → A) (h2 : ¬ p → B) : if decide p = true then A else B := by
  by_cases h : p
  · rw [if_pos (decide_eq_true h)]; exact h1 h
  · rw [if_neg (by simpa using h)]; exact h2 h
theorem go_iteN {p : Prop} [Decidable p] {A B : Prop} (h1 : ¬ p → A) (h2 : p → B) : if (!decide p) = true then A else B := by
  by_cases h : p
  · rw [if_neg (by simpa using h)]; exact h2 h
  · rw [if_pos (by simpa using h)]; exact h1 h
theorem go_iteT {A B : Prop} (h : A) : if true = true then A else B := by rw [if_pos rfl]; exact h
theorem go_iteF {A B : Prop} (h : B) : if false = true then A else B := by rw [if_neg (by decide)]; exact h
theorem go_iteX1 {A B : Prop} (e : b = true) (h : A) : if b = true then A else B := by rw [if_pos e]; exact h
theorem go_iteX0 {A B : Prop} (e : b = false) (h : B) : if b = true then A else B := by rw [if_neg (by rw [e]; decide)]; exact h
theorem go_iteB {A B : Prop} (h1 : b = true → A) (h2 : b = false → B) : if b = true then A else B := by
  cases b with
  | true => rw [if_pos rfl]; exact h1 rfl
  | false => rw [if_neg (by decide)]; exact h2 rfl
theorem go_iteBN {A B : Prop} (h1 : b = false → A) (h2 : b = true → B) : if (!b) = true then A else B := by
  cases b with
  | true => show if false = true then A else B; rw [if_neg (by decide)]; exact h2 rfl
  | false => show if true = true then A else B; rw [if_pos rfl]; exact h1 rfl

/-! ### items -/
theorem go_ixT {n : Int} (hx : Rp K G x (.tup ds)) (e : Same G H) (hi : atI ds n = some d) (k : ∀ v, Rp K G v d → Q v H) : rIxT K x (.int n) H Q := by
  obtain ⟨a, xs, rfl, hs, ha⟩ := Rp.tup_inv hx
  obtain ⟨v, hv, hr⟩ := ha.atI hi
  exact ⟨a, xs, n, v, rfl, rfl, Same.t e hs, hv, k v hr⟩
theorem go_ixL {n : Int} (hx : Rp K G x (.lst ds)) (e : Same G H) (hi : atI ds n = some d) (k : ∀ v, Rp K G v d → Q v H) : rIxL K x (.int n) H Q := by
  obtain ⟨a, xs, rfl, hs, ha⟩ := Rp.lst_inv hx
  obtain ⟨v, hv, hr⟩ := ha.atI hi
  exact ⟨a, xs, n, v, rfl, rfl, e.seq hs, hv, k v hr⟩
theorem go_ixA {n : Int} (hx : Rp K G x (.tup ds)) (e : Same G H) (hi : atI ds n = some d) (k : ∀ v, Rp K G v d → Q v H) : rIx K x (.int n) H Q := .inr (.inl (go_ixT hx e hi k))
theorem go_ixB {n : Int} (hx : Rp K G x (.lst ds)) (e : Same G H) (hi : atI ds n = some d) (k : ∀ v, Rp K G v d → Q v H) : rIx K x (.int n) H Q := .inl (go_ixL hx e hi k)
theorem go_ixM {p : Addr} {xs : List V} {n : Int} (hp : H p = some (.lst xs)) (hi : atI xs n = some v) (k : Q v H) : rIx K (.ref p) (.int n) H Q := .inl ⟨p, xs, n, v, rfl, rfl, SqL.of hp, hi, k⟩
/-- len -/
theorem go_lenL (hx : Rp K G x (.lst ds)) (e : Same G H) (k : Q (.int ds.length) H) : rLen_ K [x] H Q := by
  obtain ⟨a, xs, rfl, hs, ha⟩ := Rp.lst_inv hx
  exact ⟨a, xs, rfl, .inl (e.seq hs), by rw [ha.length]; exact k⟩
theorem go_lenT (hx : Rp K G x (.tup ds)) (e : Same G H) (k : Q (.int ds.length) H) : rLen_ K [x] H Q := by
  obtain ⟨a, xs, rfl, hs, ha⟩ := Rp.tup_inv hx
  exact ⟨a, xs, rfl, .inr (Same.t e hs), by rw [ha.length]; exact k⟩
/-- a new tuple, a new list that never changes, a new list that will change -/
theorem go_tup {t : TA} (h : t σ H fun xs H1 => NT Q xs H1) : tTup t σ H Q := h
theorem go_lst {t : TA} (h : t σ H fun xs H1 => NL Q xs H1) : tLst t σ H Q := h
theorem go_newT {xs : List V} (hS : Sta K G0 H0 D G M H) (hx : RpAll K G xs ds) (hl : xs.length ≤ sizeLine) (k : ∀ p G1 H1, Same G G1 → Sta K G0 H0 D G1 M H1 → Rp K G1 (.ref p) (.tup ds) → Q (.ref p) H1) : NT Q xs H :=
  ⟨hl, fun p hp => k p (upd G p (.tup xs)) _ (same_upd (hS.gn hp)) (hS.imm hp _) (.tup (.inl (.inl upd_same)) (hx.up (same_upd (hS.gn hp))))⟩
theorem go_newL {xs : List V} (hS : Sta K G0 H0 D G M H) (hx : RpAll K G xs ds) (hl : xs.length ≤ sizeLine) (k : ∀ p G1 H1, Same G G1 → Sta K G0 H0 D G1 M H1 → Rp K G1 (.ref p) (.lst ds) → Q (.ref p) H1) : NL Q xs H :=
  ⟨hl, fun p hp => k p (upd G p (.lst xs)) _ (same_upd (hS.gn hp)) (hS.imm hp _) (.lst (.inl (.inl upd_same)) (hx.up (same_upd (hS.gn hp))))⟩
theorem go_mutL {xs : List V} (hS : Sta K G0 H0 D G M H) (hl : xs.length ≤ sizeLine) (k : ∀ p H1, H0 p = none → G p = none → Sta K G0 H0 D G ((p, .lst xs) :: M) H1 → Q (.ref p) H1) : NL Q xs H :=
  ⟨hl, fun p hp => k p _ (hS.h0 hp) (hS.gn hp) (hS.mut hp _)⟩
/-- xs.append(e) -/
theorem go_bm {T : String} {r : V → List V → Hp → VK → Prop} {t : TA} (h : te σ H fun x H1 => BMK K T (fun H2 => t σ H2 fun xs H3 => r x xs H3 Q) x H1) : tBM K T r te t σ H Q := h
theorem go_bm0 {T : String} {r : V → List V → Hp → VK → Prop} (h : te σ H fun x H1 => BMK K T (fun H2 => r x [] H2 Q) x H1) : tBM0 K T r te σ H Q := h
theorem go_bmL {p : Addr} {xs : List V} {k : Hp → Prop} (hp : H p = some (.lst xs)) (h : k H) : BMK K "list" k (.ref p) H := ⟨.inl ⟨rfl, _, .inl (.inl hp)⟩, h⟩
theorem go_bmLR {p : Addr} {k : Hp → Prop} (hx : Rp K G (.ref p) (.lst ds)) (e : Same G H) (h : k H) : BMK K "list" k (.ref p) H := by
  obtain ⟨a, xs, e1, hs, _⟩ := Rp.lst_inv hx
  cases e1
  exact ⟨.inl ⟨rfl, _, e.seq hs⟩, h⟩
theorem go_append {p : Addr} {xs : List V} {M' : List (Addr × HO)} {i : Nat} (hS : Sta K G0 H0 D G M H) (hi : M[i]? = some (p, .lst xs)) (hl : xs.length < 100000) (hM : M.set i (p, .lst (xs ++ [y])) = M') (k : ∀ H1, Sta K G0 H0 D G M' H1 → Q .non H1) : rAppend (.ref p) [y] H Q := by
  subst hM
  exact ⟨p, xs, y, rfl, rfl, hS.get hi, Nat.lt_of_lt_of_le hl (by decide), k _ (hS.set hi _)⟩
/-- xs[i] = e, xs a list that may change -/
theorem go_setL {p : Addr} {xs : List V} {M' : List (Addr × HO)} {i j : Nat} {n : Int} {k : Hp → Prop} (hS : Sta K G0 H0 D G M H) (hi : M[i]? = some (p, .lst xs)) (hj : ixN xs.length n = some j) (hM : M.set i (p, .lst (xs.set j v)) = M') (h : ∀ H1, Sta K G0 H0 D G M' H1 → k H1) : rSetL (.ref p) (.int n) v H k := by
  subst hM
  exact ⟨p, xs, n, j, rfl, rfl, hS.get hi, hj, h _ (hS.set hi _)⟩
theorem go_gsub {to ti : TE} {ts : TSet} {p : L2.St → Hp → Prop} (h : to σ H fun o H1 => ti σ H1 fun i H2 => ts o i v H2 fun H3 => p σ H3) : gSub to ti ts v σ H p := h
/-- int(x), abs(x) -/
theorem go_int {i : Int} (h : Q (.int i) H) : rInt_ [.int i] H Q := .inl ⟨i, rfl, h⟩
theorem go_intB {k : Bool} (h : Q (.int (if k then 1 else 0)) H) : rInt_ [.bl k] H Q := .inr ⟨k, rfl, h⟩
/-- o.f -/
theorem go_fld {f : Str} (h : ta σ H fun x H1 => FK K f Q x H1) : tFld K ta f σ H Q := h
theorem RpF.look {fs : List (Str × V)} {ds : List (Str × Dt)} (h : RpF K G fs ds) {f : Str} {d : Dt} (e : ds.lookup f = some d) : ∃ v, fs.lookup f = some v ∧ Rp K G v d := by
  induction ds generalizing fs with
  | nil => simp at e
  | cons q ds ih =>
    cases h with
    | cons h1 h2 =>
      rename_i f' v' vs' d'
      rw [List.lookup_cons] at e ⊢
      cases hb : f == f' with
      | true =>
        rw [hb] at e
        cases e
        exact ⟨_, rfl, h1⟩
      | false =>
        rw [hb] at e
        exact ih h2 e
theorem go_fldR {C : Addr} {fds : List (Str × Dt)} {f : Str} (hx : Rp K G x (.ins C fds)) (e : Same G H) (cl : Cls K C) (na : NoAttr K C f) (hi : fds.lookup f = some d) (k : ∀ v, Rp K G v d → Q v H) : FK K f Q x H := by
  obtain ⟨a, dx, fs, rfl, hs, ha⟩ := Rp.ins_inv hx
  obtain ⟨v, hv, hr⟩ := ha.look hi
  exact ⟨a, C, dx, fs, v, rfl, e _ _ hs, cl, na, hv, k v hr⟩
/-! ### loops -/
def ForG (J : It) (g : TG) (tb : TS) (De : Ends) (σ : L2.St) (H : Hp) : Prop := ∃ W : Nat → Nat → L2.St → Hp → Prop, (∃ m, W 0 m σ H) ∧ ∀ i m σ H, W i m σ H →
  (J.stop i H ∧ De.nx σ H) ∨ (J.go i H ∧ ∃ N : L2.St → Hp → Prop, (∀ σ' H', N σ' H' → ∃ m', m' < m ∧ W (i + 1) m' σ' H') ∧ ∀ x H', J.yld i H x H' → g x σ H' fun σ2 H2 => tb { De with nx := N, ct := N, bk := De.nx } σ2 H2)
theorem go_for {wi : TI} {g : TG} (h : wi σ H fun J H1 => ForG J g t ⟨nx, rt, bk, ct⟩ σ H1) : tFor wi g t ⟨nx, rt, bk, ct⟩ σ H := h
def Nx (K : PySem.W.Frag) (G0 H0 : Hp) (D : List Addr) (G : Hp) (W : L2.St → Hp → List (Addr × HO) → Prop) : L2.St → Hp → Prop := fun σ H => ∃ G1 M1, Same G G1 ∧ Sta K G0 H0 D G1 M1 H ∧ W σ G1 M1
theorem Nx.mk {W : L2.St → Hp → List (Addr × HO) → Prop} {G1 : Hp} (hS : Sta K G0 H0 D G1 M H) (e : Same G G1) (w : W σ G1 M) : Nx K G0 H0 D G W σ H := ⟨G1, M, e, hS, w⟩
theorem forI {J : It} {n : Nat} {Gd : Hp → Prop} {Y : Nat → Hp → V → Hp → Prop} (w : Walk J n Gd Y) {g : TG} (hS : Sta K G0 H0 D G M H) (hg : ∀ H1, Same G H1 → Gd H1) (W : Nat → L2.St → Hp → List (Addr × HO) → Prop) (h0 : W 0 σ G M)
    (hs : ∀ i x σ' G1 M1 H1 H2, i < n → Same G G1 → Sta K G0 H0 D G1 M1 H1 → W i σ' G1 M1 → Y i H1 x H2 → g x σ' H2 fun σ2 H3 => t ⟨Nx K G0 H0 D G (W (i + 1)), rt, nx, Nx K G0 H0 D G (W (i + 1))⟩ σ2 H3)
    (hd : ∀ σ' G1 M1 H1, Same G G1 → Sta K G0 H0 D G1 M1 H1 → W n σ' G1 M1 → nx σ' H1) : ForG J g t ⟨nx, rt, bk, ct⟩ σ H :=
  for_it w (D := ⟨nx, rt, bk, ct⟩) (fun i => Nx K G0 H0 D G (W i)) ⟨G, M, Same.refl G, hS, h0⟩ (fun i σ' H1 _ ⟨G1, M1, e, s, _⟩ => hg H1 (e.trans s.gh)) (fun i x σ' H1 H2 hi ⟨G1, M1, e, s, w⟩ y => hs i x σ' G1 M1 H1 H2 hi e s w y) (fun σ' H1 ⟨G1, M1, e, s, w⟩ => hd σ' G1 M1 H1 e s w)
theorem forR {lo : Int} {n : Nat} {g : TG} (hS : Sta K G0 H0 D G M H) (W : Nat → L2.St → Hp → List (Addr × HO) → Prop) (h0 : W 0 σ G M)
    (hs : ∀ i σ' G1 M1 H1, i < n → Same G G1 → Sta K G0 H0 D G1 M1 H1 → W i σ' G1 M1 → g (.int (lo + i)) σ' H1 fun σ2 H3 => t ⟨Nx K G0 H0 D G (W (i + 1)), rt, nx, Nx K G0 H0 D G (W (i + 1))⟩ σ2 H3)
    (hd : ∀ σ' G1 M1 H1, Same G G1 → Sta K G0 H0 D G1 M1 H1 → W n σ' G1 M1 → nx σ' H1) : ForG (Itr lo n) g t ⟨nx, rt, bk, ct⟩ σ H :=
  forI walk_range hS (fun _ _ => trivial) W h0 (fun i x σ' G1 M1 H1 H2 hi e s w y => by
    obtain ⟨rfl, rfl⟩ := y
    exact hs i σ' G1 M1 H2 hi e s w) hd
theorem forL {a : Addr} {xs : List V} {g : TG} (hS : Sta K G0 H0 D G M H) (hq : SqL K G a xs) (hr : RpAll K G xs ds) (W : Nat → L2.St → Hp → List (Addr × HO) → Prop) (h0 : W 0 σ G M)
    (hs : ∀ i x d σ' G1 M1 H1, i < ds.length → ds[i]? = some d → Same G G1 → Sta K G0 H0 D G1 M1 H1 → Rp K G1 x d → W i σ' G1 M1 → g x σ' H1 fun σ2 H3 => t ⟨Nx K G0 H0 D G (W (i + 1)), rt, nx, Nx K G0 H0 D G (W (i + 1))⟩ σ2 H3)
    (hd : ∀ σ' G1 M1 H1, Same G G1 → Sta K G0 H0 D G1 M1 H1 → W ds.length σ' G1 M1 → nx σ' H1) : ForG (Itl K a) g t ⟨nx, rt, bk, ct⟩ σ H :=
  forI (walk_list (xs := xs)) hS (fun H1 e => e.seq hq) W h0 (fun i x σ' G1 M1 H1 H2 hi e s w y => by
    obtain ⟨rfl, hx⟩ := y
    obtain ⟨d, hd, r⟩ := hr.getV hx
    exact hs i x d σ' G1 M1 H2 (by rw [← hr.length]; exact hi) hd e s (r.up e) w) (by rw [hr.length]; exact hd)
/-- a loop that changes its own name alone -/
theorem forLS {a : Addr} {xs : List V} {j : Nat} (hS : Sta K G0 H0 D G M H) (hq : SqL K G a xs) (hr : RpAll K G xs ds)
    (hs : ∀ i x d G1 H1, i < ds.length → ds[i]? = some d → Same G G1 → Sta K G0 H0 D G1 M H1 → Rp K G1 x d → t ⟨Nx K G0 H0 D G (fun σ' _ M' => M' = M ∧ ∃ u, σ' = σ.set j u), rt, nx, Nx K G0 H0 D G (fun σ' _ M' => M' = M ∧ ∃ u, σ' = σ.set j u)⟩ (σ.set j (some x)) H1)
    (hd : ∀ u G1 H1, Same G G1 → Sta K G0 H0 D G1 M H1 → nx (σ.set j u) H1) : ForG (Itl K a) (gName j) t ⟨nx, rt, bk, ct⟩ σ H := by
  have e0 : ∃ u, σ = σ.set j u := by
    by_cases hj : j < σ.length
    · refine ⟨σ[j], ?_⟩
      rw [List.set_getElem_self]
    · exact ⟨none, by rw [List.set_eq_of_length_le (by omega)]⟩
  refine forL hS hq hr (fun _ σ' _ M' => M' = M ∧ ∃ u, σ' = σ.set j u) ⟨rfl, e0⟩ (fun i x d σ' G1 M1 H1 hi hd' e s r w => ?_) (fun σ' G1 M1 H1 e s w => ?_)
  · obtain ⟨rfl, u, rfl⟩ := w
    show t _ ((σ.set j u).set j (some x)) H1
    rw [List.set_set]
    exact hs i x d G1 H1 hi hd' e s r
  · obtain ⟨rfl, u, rfl⟩ := w
    exact hd u G1 H1 e s
/-- the same over a range -/
theorem forRS {lo : Int} {n j : Nat} (hS : Sta K G0 H0 D G M H)
    (hs : ∀ (i : Nat) G1 H1, i < n → Same G G1 → Sta K G0 H0 D G1 M H1 → t ⟨Nx K G0 H0 D G (fun σ' _ M' => M' = M ∧ ∃ u, σ' = σ.set j u), rt, nx, Nx K G0 H0 D G (fun σ' _ M' => M' = M ∧ ∃ u, σ' = σ.set j u)⟩ (σ.set j (some (.int (lo + i)))) H1)
    (hd : ∀ u G1 H1, Same G G1 → Sta K G0 H0 D G1 M H1 → nx (σ.set j u) H1) : ForG (Itr lo n) (gName j) t ⟨nx, rt, bk, ct⟩ σ H := by
  have e0 : ∃ u, σ = σ.set j u := by
    by_cases hj : j < σ.length
    · refine ⟨σ[j], ?_⟩
      rw [List.set_getElem_self]
    · exact ⟨none, by rw [List.set_eq_of_length_le (by omega)]⟩
  refine forR hS (fun _ σ' _ M' => M' = M ∧ ∃ u, σ' = σ.set j u) ⟨rfl, e0⟩ (fun i σ' G1 M1 H1 hi e s w => ?_) (fun σ' G1 M1 H1 e s w => ?_)
  · obtain ⟨rfl, u, rfl⟩ := w
    show t _ ((σ.set j u).set j (some (.int (lo + i)))) H1
    rw [List.set_set]
    exact hs i G1 H1 hi e s
  · obtain ⟨rfl, u, rfl⟩ := w
    exact hd u G1 H1 e s
theorem go_iList {tl : TE} {k : It → Hp → Prop} (h : tl σ H fun x H1 => LK K k x H1) : iList K tl σ H k := h
theorem go_iRng1 {t : TA} {k : It → Hp → Prop} (h : t σ H fun vs H1 => RK1 k vs H1) : iRng1 t σ H k := h
theorem go_iRng2 {t : TA} {k : It → Hp → Prop} (h : t σ H fun vs H1 => RK2 k vs H1) : iRng2 t σ H k := h
theorem go_rng1 {n : Int} {k : It → Hp → Prop} (h1 : -(2 ^ 62) ≤ n ∧ n < 2 ^ 62) (h : k (Itr 0 n.toNat) H) : RK1 k [.int n] H := ⟨n, rfl, h1.1, h1.2, h⟩
theorem go_rng2 {m n : Int} {k : It → Hp → Prop} (h1 : -(2 ^ 62) ≤ m ∧ m < 2 ^ 62 ∧ -(2 ^ 62) ≤ n ∧ n < 2 ^ 62) (h : k (Itr m (n - m).toNat) H) : RK2 k [.int m, .int n] H := ⟨m, n, rfl, h1, h⟩
theorem go_itl {k : It → Hp → Prop} (hx : Rp K G x (.lst ds)) (e : Same G H) (h : ∀ a xs, x = .ref a → SqL K G a xs → RpAll K G xs ds → k (Itl K a) H) : LK K k x H := by
  obtain ⟨a, xs, rfl, hs, ha⟩ := Rp.lst_inv hx
  exact ⟨a, rfl, ⟨xs, e.seq hs⟩, h a xs rfl hs ha⟩
/-- abs, max, min of two -/
theorem go_abs {i : Int} (h : Q (.int (if i < 0 then -i else i)) H) : rAbs_ [.int i] H Q := ⟨i, rfl, h⟩
theorem go_max {m n : Int} (h : Q (.int (if n > m then n else m)) H) : rMax2_ [.int m, .int n] H Q := ⟨m, n, rfl, h⟩
theorem go_min {m n : Int} (h : Q (.int (if n < m then n else m)) H) : rMin2_ [.int m, .int n] H Q := ⟨m, n, rfl, h⟩
theorem go_lenM {p : Addr} {xs : List V} (hp : H p = some (.lst xs)) (k : Q (.int xs.length) H) : rLen_ K [.ref p] H Q := ⟨p, xs, rfl, .inl (SqL.of hp), k⟩
theorem go_calln {n m : Nat} {sp : Sp} {E : XK} {vs zs ws : List V} (h1 : vs.length = n) (h2 : zs.length = m) (e : vs ++ zs = ws) (h : sp ws H Q E) : CN n m sp (fun a b => a ++ b) Q E vs zs H := ⟨h1, h2, by show sp (vs ++ zs) H Q E; rw [e]; exact h⟩
end
theorem Fun.kbn {K : PySem.W.Frag} {x qual : Str} {st : Stmt} {f : Addr} {fd : FuncData} {ps : List Str} {n : Nat} {ks : List Str} (F : Fun K x qual st f fd)
    (h : ∀ (kV doc pm : Value) (an : Option Addr) (cdv ct : Value) (us ws : List Value), us.length = n → ws.length = ks.length → bindArgs (PySem.W.fnOf x qual (defArgs st) (defBody st) (defScope st) .none kV doc pm an cdv ct) ⟨us, ks.zip ws⟩ = pure (ps.zip (us ++ ws))) :
    KBn K fd ps n ks (fun a b => a ++ b) (fun a b => a ++ b) := by
  obtain ⟨oc, od, kV, doc, pm, an, cdv, ct, osl, rfl, lk, hcd⟩ := F.ex
  exact ⟨fun s us ws _ h1 h2 => .of_eq (h kV doc pm an cdv ct us ws h1 h2), fun r1 r2 => r1.append r2⟩
theorem intD_zero : (0 : Int) = ((0 : Nat) : Int) := rfl
/-! ### bars -/
def optD : Option Int → Dt
  | none => .non
  | some i => .int i
def optV : Option Int → V
  | none => .non
  | some i => .int i
abbrev Bar := Int × Option Int
def barD (b : Bar) : Dt := .tup [.int b.1, optD b.2]
theorem optD_inv {K : PySem.W.Frag} {G : Hp} {v : V} {o : Option Int} (h : Rp K G v (optD o)) : v = optV o := by
  cases o with
  | none => exact Rp.non_inv h
  | some i => exact Rp.int_inv h
theorem optD_rp {K : PySem.W.Frag} {G : Hp} {o : Option Int} : Rp K G (optV o) (optD o) := by
  cases o with
  | none => exact .non
  | some i => exact .int i
/-! ### what the laws draw from -/
def drw (r : Addr) (at_ : Int) : HO := .lst [.ref r, .int at_]
theorem pick2 {a b i : Int} (h0 : 0 ≤ i) (h1 : i < 2) : ∃ m, atI [Dt.int a, Dt.int b] i = some (.int m) ∧ (i = 0 ∧ m = a ∨ i = 1 ∧ m = b) := by
  have : i = 0 ∨ i = 1 := by omega
  rcases this with rfl | rfl
  · exact ⟨a, rfl, .inl ⟨rfl, rfl⟩⟩
  · exact ⟨b, rfl, .inr ⟨rfl, rfl⟩⟩
theorem go_pick2 {K : PySem.W.Frag} {G H : Hp} {x : V} {a b i : Int} {Q : VK} (hx : Rp K G x (.lst [.int a, .int b])) (e : Same G H) (h0 : 0 ≤ i) (h1 : i < 2) (k : ∀ m, (i = 0 ∧ m = a ∨ i = 1 ∧ m = b) → Q (.int m) H) : rIx K x (.int i) H Q := by
  obtain ⟨m, h2, h3⟩ := pick2 (a := a) (b := b) h0 h1
  exact go_ixB hx e h2 fun v hv => by cases Rp.int_inv hv; exact k m h3
def RowOk (K : PySem.W.Frag) (G : Hp) (r : Addr) : Prop := ∃ xs : List Int, SqL K G r (xs.map .int) ∧ xs.length ≤ 200
theorem RowOk.up {K : PySem.W.Frag} {G G' : Hp} {r : Addr} (e : Same G G') (h : RowOk K G r) : RowOk K G' r := by
  obtain ⟨xs, h1, h2⟩ := h
  exact ⟨xs, e.seq h1, h2⟩
theorem Sta.callNew {K : PySem.W.Frag} {G0 H0 G H G1 H1 : Hp} {D : List Addr} {M : List (Addr × HO)} {p : Addr} {o : HO} (h : Sta K G0 H0 D G M H) (a : Adv [] G H G1 H1) (hp : H p = none) (h1 : H1 p = some o) (hg : G1 p = none) : Sta K G0 H0 D G1 ((p, o) :: M) H1 := by
  have s := h.call a
  refine ⟨s.g0, s.gh, s.fr, s.kp, s.up, ?_, fun q hq => ?_⟩
  · simp only [List.map_cons, List.nodup_cons]
    exact ⟨fun hm => by
      obtain ⟨q, hq, e⟩ := List.mem_map.mp hm
      exact h.mn hp q hq e, h.md⟩
  · rcases List.mem_cons.mp hq with rfl | hq
    · exact ⟨h1, hg, .inr (h.h0 hp)⟩
    · exact s.mh q hq

/-! ### isinstance of data -/
def tyD : Dt → String
  | .non => "NoneType" | .bl _ => "bool" | .int _ => "int" | .str _ => "str" | .lst _ => "list" | .tup _ => "tuple" | .ins _ _ => "?"
theorem tyD_non : tyD .non = "NoneType" := rfl
theorem tyD_bl {b : Bool} : tyD (.bl b) = "bool" := rfl
theorem tyD_int {b : Int} : tyD (.int b) = "int" := rfl
theorem tyD_str {b : Str} : tyD (.str b) = "str" := rfl
theorem tyD_lst {b : List Dt} : tyD (.lst b) = "list" := rfl
theorem tyD_tup {b : List Dt} : tyD (.tup b) = "tuple" := rfl
theorem tyX_l {K : PySem.W.Frag} {H : Hp} {a : Addr} {xs : List V} (h : SqL K H a xs) : TyX K H (.ref a) (.type "list") := by
  rcases h with (h | ⟨o, h⟩) | ⟨o, its, n, h1, h2, _⟩
  · exact .base (.lst h)
  · exact .base (.frz h)
  · exact .kList h1 h2
theorem tyX_t {K : PySem.W.Frag} {H : Hp} {a : Addr} {xs : List V} (h : SqT K H a xs) : TyX K H (.ref a) (.type "tuple") := by
  rcases h with (h | ⟨o, h⟩) | ⟨o, its, n, h1, h2, _⟩
  · exact .base (.tup h)
  · exact .fTuple h
  · exact .kTuple h1 h2
theorem tyX_d {K : PySem.W.Frag} {G H : Hp} {x : V} : ∀ {d : Dt}, tyD d ≠ "?" → Rp K G x d → Same G H → TyX K H x (.type (tyD d))
  | .non, _, h, _ => by cases h; exact .base .non
  | .bl _, _, h, _ => by cases h; exact .base (.bl _)
  | .int _, _, h, _ => by cases h; exact .base (.int _)
  | .str _, _, h, _ => by cases h; exact .base (.str _)
  | .lst _, _, h, e => by
    cases h with
    | lst h1 _ => exact tyX_l (e.seq h1)
  | .tup _, _, h, e => by
    cases h with
    | tup h1 _ => exact tyX_t (Same.t e h1)
  | .ins _ _, hn, _, _ => absurd rfl hn
section
variable {K : PySem.W.Frag} {G0 H0 G H : Hp} {D : List Addr} {M : List (Addr × HO)} {Q : VK} {x : V} {d : Dt} {b b1 b2 : Bool}
theorem kit_NoneType_tuple : kitB "NoneType" "tuple" = some false := by decide +kernel
theorem kit_NoneType_list : kitB "NoneType" "list" = some false := by decide +kernel
theorem kit_NoneType_bool : kitB "NoneType" "bool" = some false := by decide +kernel
theorem kit_NoneType_int : kitB "NoneType" "int" = some false := by decide +kernel
theorem kit_NoneType_str : kitB "NoneType" "str" = some false := by decide +kernel
theorem kit_bool_tuple : kitB "bool" "tuple" = some false := by decide +kernel
theorem kit_bool_list : kitB "bool" "list" = some false := by decide +kernel
theorem kit_bool_bool : kitB "bool" "bool" = some true := by decide +kernel
theorem kit_bool_int : kitB "bool" "int" = some true := by decide +kernel
theorem kit_bool_str : kitB "bool" "str" = some false := by decide +kernel
theorem kit_int_tuple : kitB "int" "tuple" = some false := by decide +kernel
theorem kit_int_list : kitB "int" "list" = some false := by decide +kernel
theorem kit_int_bool : kitB "int" "bool" = some false := by decide +kernel
theorem kit_int_int : kitB "int" "int" = some true := by decide +kernel
theorem kit_int_str : kitB "int" "str" = some false := by decide +kernel
theorem kit_str_tuple : kitB "str" "tuple" = some false := by decide +kernel
theorem kit_str_list : kitB "str" "list" = some false := by decide +kernel
theorem kit_str_bool : kitB "str" "bool" = some false := by decide +kernel
theorem kit_str_int : kitB "str" "int" = some false := by decide +kernel
theorem kit_str_str : kitB "str" "str" = some true := by decide +kernel
theorem kit_list_tuple : kitB "list" "tuple" = some false := by decide +kernel
theorem kit_list_list : kitB "list" "list" = some true := by decide +kernel
theorem kit_list_bool : kitB "list" "bool" = some false := by decide +kernel
theorem kit_list_int : kitB "list" "int" = some false := by decide +kernel
theorem kit_list_str : kitB "list" "str" = some false := by decide +kernel
theorem kit_tuple_tuple : kitB "tuple" "tuple" = some true := by decide +kernel
theorem kit_tuple_list : kitB "tuple" "list" = some false := by decide +kernel
theorem kit_tuple_bool : kitB "tuple" "bool" = some false := by decide +kernel
theorem kit_tuple_int : kitB "tuple" "int" = some false := by decide +kernel
theorem kit_tuple_str : kitB "tuple" "str" = some false := by decide +kernel
theorem go_isi {S t : String} (hx : Rp K G x d) (e : Same G H) (ht : tyD d = t) (hn : t ≠ "?") (hb : kitB t S = some b) (k : Q (.bl b) H) : rIsi K [x, .ty S] H Q := by
  subst ht
  exact ⟨x, .ty S, _, _, b, rfl, .ty S, tyX_d hn hx e, kit_ty hb, k⟩
theorem go_isiT {S1 S2 t : String} {p : Addr} (hx : Rp K G x d) (e : Same G H) (hp : H p = some (.tup [.ty S1, .ty S2])) (ht : tyD d = t) (hn : t ≠ "?") (hb1 : kitB t S1 = some b1) (hb2 : kitB t S2 = some b2) (k : Q (.bl (b1 || b2)) H) : rIsiT K [x, .ref p] H Q := by
  subst ht
  refine ⟨x, p, _, _, [.type S1, .type S2], b1 || b2, rfl, hp, .cons (.ty S1) (.cons (.ty S2) .nil), tyX_d hn hx e, ?_, k⟩
  refine kitAny_cons (b := b1) (kit_ty hb1) (fun e1 => ?_) (fun e1 => by rw [e1]; rfl)
  refine kitAny_cons (b := b2) (kit_ty hb2) (fun e2 => ?_) (fun e2 => by rw [e1, e2]; rfl)
  rw [e1, e2]
  exact kitAny_nil
theorem go_rawT {xs : List V} (hS : Sta K G0 H0 D G M H) (hl : xs.length ≤ sizeLine) (k : ∀ p G1 H1, Same G G1 → Sta K G0 H0 D G1 M H1 → H1 p = some (.tup xs) → Q (.ref p) H1) : NT Q xs H :=
  ⟨hl, fun p hp => k p (upd G p (.tup xs)) _ (same_upd (hS.gn hp)) (hS.imm hp _) upd_same⟩
end
/-- data without instances, n deep at most -/
def okD : Nat → Dt → Bool
  | 0, _ => false
  | n + 1, .tup xs => decide (xs.length ≤ 100000) && xs.all (okD n)
  | n + 1, .lst xs => decide (xs.length ≤ 100000) && xs.all (okD n)
  | _ + 1, .ins _ _ => false
  | _ + 1, _ => true

/-! ### comprehensions -/
section
variable {K : PySem.W.Frag} {G0 H0 G H : Hp} {D : List Addr} {M : List (Addr × HO)} {σ σ' : L2.St} {Q : VK} {tt : TT} {te : TE} {ds : List Dt} {vss : List Nat} {nx bk ct : L2.St → Hp → Prop} {rt : VK} {t : TS} {x y : V} {d : Dt}
def LcG (J : It) (g : TG) (tt : TT) (te : TE) (vss : List Nat) (σ : L2.St) (Q : VK) (H1 : Hp) : Prop := ∀ D, H1 D = none → ∃ W : Nat → Nat → Hp → Prop, (∃ m, W 0 m (upd H1 D (.lst []))) ∧ ∀ i m H, W i m H →
  (J.stop i H ∧ Q (.ref D) H) ∨ (J.go i H ∧ ∃ Nx : Hp → Prop, (∀ H', Nx H' → ∃ m', m' < m ∧ W (i + 1) m' H') ∧ ∀ x H', J.yld i H x H' → g x (wipe σ vss) H' fun σ2 H2 => wipe σ2 vss = wipe σ vss ∧ tt σ2 H2 fun b H3 =>
    if b = true then te σ2 H3 fun y H4 => ∃ acc, H4 D = some (.lst acc) ∧ acc.length < sizeLine ∧ Nx (upd H4 D (.lst (acc ++ [y]))) else Nx H3)
theorem go_lc {wi : TI} {g : TG} (h : wi σ H fun J H1 => LcG J g tt te vss σ Q H1) : tLc wi g tt te vss σ H Q := h
/-- behind a turn: the list so far stands at L, what may change is M1, the data so far ds; W says what holds -/
def LcP (K : PySem.W.Frag) (G0 H0 : Hp) (D : List Addr) (G : Hp) (L : Addr) (W : List (Addr × HO) → List Dt → Prop) (H : Hp) : Prop := ∃ G1 M1 vs ds, Same G G1 ∧ Sta K G0 H0 D G1 ((L, .lst vs) :: M1) H ∧ RpAll K G1 vs ds ∧ W M1 ds
def LcY (K : PySem.W.Frag) (G0 H0 : Hp) (D : List Addr) (G : Hp) (L : Addr) (W : List (Addr × HO) → List Dt → Prop) : VK := fun y H4 => ∃ acc, H4 L = some (.lst acc) ∧ acc.length < sizeLine ∧ LcP K G0 H0 D G L W (upd H4 L (.lst (acc ++ [y])))
theorem lcY {L : Addr} {W : List (Addr × HO) → List Dt → Prop} {G4 H4 : Hp} {vs : List V} (hS : Sta K G0 H0 D G4 ((L, .lst vs) :: M) H4) (e : Same G G4) (hv : RpAll K G4 vs ds) (hy : Rp K G4 y d) (hl : ds.length < 100000) (w : W M (ds ++ [d])) : LcY K G0 H0 D G L W y H4 :=
  ⟨vs, hS.get (i := 0) rfl, by rw [hv.length]; exact Nat.lt_of_lt_of_le hl (by decide), G4, M, vs ++ [y], ds ++ [d], e, hS.set (i := 0) rfl _, hv.app (.one hy), w⟩
theorem lcN {L : Addr} {W : List (Addr × HO) → List Dt → Prop} {G4 H4 : Hp} {vs : List V} (hS : Sta K G0 H0 D G4 ((L, .lst vs) :: M) H4) (e : Same G G4) (hv : RpAll K G4 vs ds) (w : W M ds) : LcP K G0 H0 D G L W H4 :=
  ⟨G4, M, vs, ds, e, hS, hv, w⟩
/-- a comprehension; the list may change afterwards -/
theorem lcIM {J : It} {n : Nat} {Gd : Hp → Prop} {Y : Nat → Hp → V → Hp → Prop} (w : Walk J n Gd Y) {g : TG} (hS : Sta K G0 H0 D G M H) (hg : ∀ H1, Same G H1 → Gd H1) (W : Nat → List (Addr × HO) → List Dt → Prop) (h0 : W 0 M [])
    (hs : ∀ i x L G1 M1 vs ds H1 H2, i < n → Same G G1 → H0 L = none → Sta K G0 H0 D G1 ((L, .lst vs) :: M1) H1 → RpAll K G1 vs ds → W i M1 ds → Y i H1 x H2 → g x (wipe σ vss) H2 fun σ2 H3 => wipe σ2 vss = wipe σ vss ∧ tt σ2 H3 fun b H4 =>
      if b = true then te σ2 H4 (LcY K G0 H0 D G L (W (i + 1))) else LcP K G0 H0 D G L (W (i + 1)) H4)
    (hd : ∀ L G1 M1 vs ds H1, Same G G1 → H0 L = none → Sta K G0 H0 D G1 ((L, .lst vs) :: M1) H1 → RpAll K G1 vs ds → W n M1 ds → Q (.ref L) H1) : LcG J g tt te vss σ Q H := by
  intro L hL
  have l0 := hS.h0 hL
  refine lc_it w (fun i => LcP K G0 H0 D G L (W i)) ⟨G, M, [], [], Same.refl G, hS.mut hL _, .nil, h0⟩ (fun i H1 _ p => ?_) (fun i x H1 H2 hi p y => ?_) (fun H1 p => ?_)
  · obtain ⟨G1, M1, vs, ds, e, s, _⟩ := p
    exact hg H1 (e.trans s.gh)
  · obtain ⟨G1, M1, vs, ds, e, s, r, w'⟩ := p
    exact hs i x L G1 M1 vs ds H1 H2 hi e l0 s r w' y
  · obtain ⟨G1, M1, vs, ds, e, s, r, w'⟩ := p
    exact hd L G1 M1 vs ds H1 e l0 s r w'
/-- .. it will not change -/
theorem lcI {J : It} {n : Nat} {Gd : Hp → Prop} {Y : Nat → Hp → V → Hp → Prop} (w : Walk J n Gd Y) {g : TG} (hS : Sta K G0 H0 D G M H) (hg : ∀ H1, Same G H1 → Gd H1) (W : Nat → List (Addr × HO) → List Dt → Prop) (h0 : W 0 M [])
    (hs : ∀ i x L G1 M1 vs ds H1 H2, i < n → Same G G1 → H0 L = none → Sta K G0 H0 D G1 ((L, .lst vs) :: M1) H1 → RpAll K G1 vs ds → W i M1 ds → Y i H1 x H2 → g x (wipe σ vss) H2 fun σ2 H3 => wipe σ2 vss = wipe σ vss ∧ tt σ2 H3 fun b H4 =>
      if b = true then te σ2 H4 (LcY K G0 H0 D G L (W (i + 1))) else LcP K G0 H0 D G L (W (i + 1)) H4)
    (hd : ∀ p G1 M1 ds H1, Same G G1 → Sta K G0 H0 D G1 M1 H1 → Rp K G1 (.ref p) (.lst ds) → W n M1 ds → Q (.ref p) H1) : LcG J g tt te vss σ Q H :=
  lcIM w hS hg W h0 hs fun L G1 M1 vs ds H1 e l0 s r w' => by
    obtain ⟨G2, e2, s2, r2⟩ := s.frzL l0 r
    exact hd L G2 M1 ds H1 (e.trans e2) s2 r2 w'
/-- over a range, a list -/
theorem lcR {lo : Int} {n : Nat} {g : TG} (hS : Sta K G0 H0 D G M H) (W : Nat → List (Addr × HO) → List Dt → Prop) (h0 : W 0 M [])
    (hs : ∀ i L G1 M1 vs ds H1, i < n → Same G G1 → H0 L = none → Sta K G0 H0 D G1 ((L, .lst vs) :: M1) H1 → RpAll K G1 vs ds → W i M1 ds → g (.int (lo + i)) (wipe σ vss) H1 fun σ2 H3 => wipe σ2 vss = wipe σ vss ∧ tt σ2 H3 fun b H4 =>
      if b = true then te σ2 H4 (LcY K G0 H0 D G L (W (i + 1))) else LcP K G0 H0 D G L (W (i + 1)) H4)
    (hd : ∀ p G1 M1 ds H1, Same G G1 → Sta K G0 H0 D G1 M1 H1 → Rp K G1 (.ref p) (.lst ds) → W n M1 ds → Q (.ref p) H1) : LcG (Itr lo n) g tt te vss σ Q H :=
  lcI walk_range hS (fun _ _ => trivial) W h0 (fun i x L G1 M1 vs ds H1 H2 hi e l0 s r w y => by
    obtain ⟨rfl, rfl⟩ := y
    exact hs i L G1 M1 vs ds H2 hi e l0 s r w) hd
theorem lcL {a : Addr} {xs : List V} {g : TG} (hS : Sta K G0 H0 D G M H) (hq : SqL K G a xs) (hr : RpAll K G xs ds) (W : Nat → List (Addr × HO) → List Dt → Prop) (h0 : W 0 M [])
    (hs : ∀ i x d L G1 M1 vs es H1, i < ds.length → ds[i]? = some d → Rp K G1 x d → Same G G1 → H0 L = none → Sta K G0 H0 D G1 ((L, .lst vs) :: M1) H1 → RpAll K G1 vs es → W i M1 es → g x (wipe σ vss) H1 fun σ2 H3 => wipe σ2 vss = wipe σ vss ∧ tt σ2 H3 fun b H4 =>
      if b = true then te σ2 H4 (LcY K G0 H0 D G L (W (i + 1))) else LcP K G0 H0 D G L (W (i + 1)) H4)
    (hd : ∀ p G1 M1 es H1, Same G G1 → Sta K G0 H0 D G1 M1 H1 → Rp K G1 (.ref p) (.lst es) → W ds.length M1 es → Q (.ref p) H1) : LcG (Itl K a) g tt te vss σ Q H :=
  lcI (walk_list (xs := xs)) hS (fun H1 e => e.seq hq) W h0 (fun i x L G1 M1 vs es H1 H2 hi e l0 s r w y => by
    obtain ⟨rfl, hx⟩ := y
    obtain ⟨d, hd', rd⟩ := hr.getV hx
    exact hs i x d L G1 M1 vs es H2 (by rw [← hr.length]; exact hi) hd' (rd.up e) e l0 s r w) (by rw [hr.length]; exact hd)
/-- the target a pair -/
theorem go_gpair {i j : Nat} {T : Addr} {p : L2.St → Hp → Prop} (h : SqT K H T [x, y]) (e : List.set (List.set σ i (some x)) j (some y) = σ') (k : p σ' H) : gTup K 2 (gCons (gName i) (gCons (gName j) gNil)) (.ref T) σ H p :=
  ⟨T, [x, y], rfl, h, rfl, x, [y], rfl, y, [], rfl, rfl, by show p (List.set (List.set σ i (some x)) j (some y)) H; rw [e]; exact k⟩
/-- a new pair made by a walk: the state behind it -/
theorem Sta.pair {T : Addr} {H1 : Hp} (hS : Sta K G0 H0 D G M H) (hT : H T = none) (e : H1 = upd H T (.tup [x, y])) : ∃ G1, Same G G1 ∧ Sta K G0 H0 D G1 M H1 ∧ SqT K H1 T [x, y] := by
  subst e
  exact ⟨_, same_upd (hS.gn hT), hS.imm hT _, .inl (.inl upd_same)⟩
/-- enumerate(list) -/
theorem lcE {a : Addr} {xs : List V} {i1 j1 : Nat} (hS : Sta K G0 H0 D G M H) (hq : SqL K G a xs) (hr : RpAll K G xs ds) (W : Nat → List (Addr × HO) → List Dt → Prop) (h0 : W 0 M [])
    (hs : ∀ i x d L G1 M1 vs es H1, i < ds.length → ds[i]? = some d → Rp K G1 x d → Same G G1 → H0 L = none → Sta K G0 H0 D G1 ((L, .lst vs) :: M1) H1 → RpAll K G1 vs es → W i M1 es → ∀ σ2, List.set (List.set (wipe σ vss) i1 (some (.int i))) j1 (some x) = σ2 → wipe σ2 vss = wipe σ vss ∧ tt σ2 H1 fun b H4 =>
      if b = true then te σ2 H4 (LcY K G0 H0 D G L (W (i + 1))) else LcP K G0 H0 D G L (W (i + 1)) H4)
    (hd : ∀ p G1 M1 es H1, Same G G1 → Sta K G0 H0 D G1 M1 H1 → Rp K G1 (.ref p) (.lst es) → W ds.length M1 es → Q (.ref p) H1) : LcG (Ite K a) (gTup K 2 (gCons (gName i1) (gCons (gName j1) gNil))) tt te vss σ Q H :=
  lcI (walk_enum (xs := xs)) hS (fun H1 e => e.seq hq) W h0 (fun i x L G1 M1 vs es H1 H2 hi e l0 s r w y => by
    obtain ⟨T, u, v, rfl, hT, eH, h1, h2⟩ := y
    cases h1
    obtain ⟨d, hd', rd⟩ := hr.getV h2
    obtain ⟨G2, e2, s2, q2⟩ := s.pair hT eH
    exact go_gpair q2 rfl (hs i v d L G2 M1 vs es H2 (by rw [← hr.length]; exact hi) hd' (rd.up (e.trans e2)) (e.trans e2) l0 s2 (r.up e2) w _ rfl)) (by rw [hr.length]; exact hd)
/-- zip(list, list) -/
theorem lcZ {a b : Addr} {xs ys : List V} {fs : List Dt} {i1 j1 : Nat} (hS : Sta K G0 H0 D G M H) (hq : SqL K G a xs) (hr : RpAll K G xs ds) (hq' : SqL K G b ys) (hr' : RpAll K G ys fs) (W : Nat → List (Addr × HO) → List Dt → Prop) (h0 : W 0 M [])
    (hs : ∀ i x y d f L G1 M1 vs es H1, i < min ds.length fs.length → ds[i]? = some d → fs[i]? = some f → Rp K G1 x d → Rp K G1 y f → Same G G1 → H0 L = none → Sta K G0 H0 D G1 ((L, .lst vs) :: M1) H1 → RpAll K G1 vs es → W i M1 es → ∀ σ2, List.set (List.set (wipe σ vss) i1 (some x)) j1 (some y) = σ2 → wipe σ2 vss = wipe σ vss ∧ tt σ2 H1 fun b H4 =>
      if b = true then te σ2 H4 (LcY K G0 H0 D G L (W (i + 1))) else LcP K G0 H0 D G L (W (i + 1)) H4)
    (hd : ∀ p G1 M1 es H1, Same G G1 → Sta K G0 H0 D G1 M1 H1 → Rp K G1 (.ref p) (.lst es) → W (min ds.length fs.length) M1 es → Q (.ref p) H1) : LcG (Itz K a b) (gTup K 2 (gCons (gName i1) (gCons (gName j1) gNil))) tt te vss σ Q H :=
  lcI (walk_zip (xs := xs) (ys := ys) rfl) hS (fun H1 e => ⟨e.seq hq, e.seq hq'⟩) W h0 (fun i x L G1 M1 vs es H1 H2 hi e l0 s r w y => by
    obtain ⟨T, u, v, rfl, hT, eH, h1, h2⟩ := y
    obtain ⟨d, hd', rd⟩ := hr.getV h1
    obtain ⟨f, hf', rf⟩ := hr'.getV h2
    obtain ⟨G2, e2, s2, q2⟩ := s.pair hT eH
    exact go_gpair q2 rfl (hs i u v d f L G2 M1 vs es H2 (by rw [← hr.length, ← hr'.length]; exact hi) hd' hf' (rd.up (e.trans e2)) (rf.up (e.trans e2)) (e.trans e2) l0 s2 (r.up e2) w _ rfl)) (by rw [hr.length, hr'.length]; exact hd)
theorem go_iEnum {ta : TA} {k : It → Hp → Prop} (h : ta σ H fun vs H1 => ∃ a xs, vs = [.ref a] ∧ SqL K H1 a xs ∧ k (Ite K a) H1) : iEnum K ta σ H k := h
def EK (K : PySem.W.Frag) (k : It → Hp → Prop) (vs : List V) (H : Hp) : Prop := ∃ a xs, vs = [.ref a] ∧ SqL K H a xs ∧ k (Ite K a) H
def ZK (K : PySem.W.Frag) (k : It → Hp → Prop) (vs : List V) (H : Hp) : Prop := ∃ a b xs ys, vs = [.ref a, .ref b] ∧ SqL K H a xs ∧ SqL K H b ys ∧ k (Itz K a b) H
theorem go_iEnum' {ta : TA} {k : It → Hp → Prop} (h : ta σ H fun vs H1 => EK K k vs H1) : iEnum K ta σ H k := h
theorem go_iZip {ta : TA} {k : It → Hp → Prop} (h : ta σ H fun vs H1 => ZK K k vs H1) : iZip K ta σ H k := h
theorem go_ite_ {k : It → Hp → Prop} (hx : Rp K G x (.lst ds)) (e : Same G H) (h : ∀ a xs, x = .ref a → SqL K G a xs → RpAll K G xs ds → k (Ite K a) H) : EK K k [x] H := by
  obtain ⟨a, xs, rfl, hs, ha⟩ := Rp.lst_inv hx
  exact ⟨a, xs, rfl, e.seq hs, h a xs rfl hs ha⟩
theorem go_itz_ {k : It → Hp → Prop} {fs : List Dt} (hx : Rp K G x (.lst ds)) (hy : Rp K G y (.lst fs)) (e : Same G H) (h : ∀ a xs b ys, x = .ref a → y = .ref b → SqL K G a xs → RpAll K G xs ds → SqL K G b ys → RpAll K G ys fs → k (Itz K a b) H) : ZK K k [x, y] H := by
  obtain ⟨a, xs, rfl, hs, ha⟩ := Rp.lst_inv hx
  obtain ⟨b, ys, rfl, hs', ha'⟩ := Rp.lst_inv hy
  exact ⟨a, b, xs, ys, rfl, e.seq hs, e.seq hs', h a xs b ys rfl rfl hs ha hs' ha'⟩
/-- all, any, sum of a list -/
theorem go_all {bs : List Bool} (hx : Rp K G x (.lst (bs.map .bl))) (e : Same G H) (k : Q (.bl (bs.all id)) H) : rAll K [x] H Q := by
  obtain ⟨a, xs, rfl, hs, ha⟩ := Rp.lst_inv hx
  rw [ha.bls_inv] at hs
  exact ⟨a, bs, rfl, e.seq hs, k⟩
theorem go_any {bs : List Bool} (hx : Rp K G x (.lst (bs.map .bl))) (e : Same G H) (k : Q (.bl (bs.any id)) H) : rAny K [x] H Q := by
  obtain ⟨a, xs, rfl, hs, ha⟩ := Rp.lst_inv hx
  rw [ha.bls_inv] at hs
  exact ⟨a, bs, rfl, e.seq hs, k⟩
theorem go_sum {bs : List Int} (hx : Rp K G x (.lst (bs.map .int))) (e : Same G H) (k : Q (.int bs.sum) H) : rSum K [x] H Q := by
  obtain ⟨a, xs, rfl, hs, ha⟩ := Rp.lst_inv hx
  rw [ha.ints_inv] at hs
  exact ⟨a, bs, rfl, e.seq hs, k⟩
/-- list(x), tuple(x) -/
theorem go_listL (hS : Sta K G0 H0 D G M H) (hx : Rp K G x (.lst ds)) (k : ∀ p G1 H1, Same G G1 → Sta K G0 H0 D G1 M H1 → Rp K G1 (.ref p) (.lst ds) → Q (.ref p) H1) : rListOf_ K [x] H Q := by
  obtain ⟨a, xs, rfl, hs, ha⟩ := Rp.lst_inv hx
  exact ⟨a, xs, rfl, .inl (hS.gh.seq hs), fun p hp => k p _ _ (same_upd (hS.gn hp)) (hS.imm hp _) (.lst (.inl (.inl upd_same)) (ha.up (same_upd (hS.gn hp))))⟩
theorem go_listT (hS : Sta K G0 H0 D G M H) (hx : Rp K G x (.tup ds)) (k : ∀ p G1 H1, Same G G1 → Sta K G0 H0 D G1 M H1 → Rp K G1 (.ref p) (.lst ds) → Q (.ref p) H1) : rListOf_ K [x] H Q := by
  obtain ⟨a, xs, rfl, hs, ha⟩ := Rp.tup_inv hx
  exact ⟨a, xs, rfl, .inr (Same.t hS.gh hs), fun p hp => k p _ _ (same_upd (hS.gn hp)) (hS.imm hp _) (.lst (.inl (.inl upd_same)) (ha.up (same_upd (hS.gn hp))))⟩
theorem go_tupL (hS : Sta K G0 H0 D G M H) (hx : Rp K G x (.lst ds)) (k : ∀ p G1 H1, Same G G1 → Sta K G0 H0 D G1 M H1 → Rp K G1 (.ref p) (.tup ds) → Q (.ref p) H1) : rTupOf_ K [x] H Q := by
  obtain ⟨a, xs, rfl, hs, ha⟩ := Rp.lst_inv hx
  exact ⟨a, xs, rfl, .inl ⟨hS.gh.seq hs, fun p hp => k p _ _ (same_upd (hS.gn hp)) (hS.imm hp _) (.tup (.inl (.inl upd_same)) (ha.up (same_upd (hS.gn hp))))⟩⟩
theorem go_tupT (hS : Sta K G0 H0 D G M H) (hx : Rp K G x (.tup ds)) (k : ∀ p G1 H1, Same G G1 → Sta K G0 H0 D G1 M H1 → Rp K G1 (.ref p) (.tup ds) → Q (.ref p) H1) : rTupOf_ K [x] H Q := by
  obtain ⟨a, xs, rfl, hs, ha⟩ := Rp.tup_inv hx
  exact ⟨a, xs, rfl, .inr ⟨Same.t hS.gh hs, k a G H (Same.refl G) hS hx⟩⟩
/-! ### == of data -/
mutual
def toPy : Dt → PyData
  | .non => .none | .bl b => .bool b | .int i => .int i | .str x => .str x | .lst xs => .list (toPyL xs) | .tup xs => .tuple (toPyL xs) | .ins _ _ => .dict []
def toPyL : List Dt → List PyData
  | [] => [] | d :: ds => toPy d :: toPyL ds
end
mutual
theorem Rp.dp : ∀ {n : Nat} {d : Dt} {v : V}, okD n d = true → Rp K G v d → Dp K G v (toPy d)
  | _, .non, _, _, h => by cases h; exact .non
  | _, .bl _, _, _, h => by cases h; exact .bl _
  | _, .int _, _, _, h => by cases h; exact .int _
  | _, .str _, _, _, h => by cases h; exact .str _
  | 0, .lst _, _, e, _ => by cases e
  | 0, .tup _, _, e, _ => by cases e
  | n + 1, .lst ds, _, e, h => by
    cases h with
    | lst h1 h2 =>
      have e' : ds.length ≤ 100000 ∧ ∀ e ∈ ds, okD n e = true := by simpa [okD] using e
      exact .lst h1 (RpAll.dp e'.2 h2)
  | n + 1, .tup ds, _, e, h => by
    cases h with
    | tup h1 h2 =>
      have e' : ds.length ≤ 100000 ∧ ∀ e ∈ ds, okD n e = true := by simpa [okD] using e
      exact .tup h1 (RpAll.dp e'.2 h2)
  | 0, .ins _ _, _, e, _ => by cases e
  | _ + 1, .ins _ _, _, e, _ => by cases e
theorem RpAll.dp : ∀ {n : Nat} {ds : List Dt} {vs : List V}, (∀ e ∈ ds, okD n e = true) → RpAll K G vs ds → DpAll K G vs (toPyL ds)
  | _, [], _, _, h => by cases h; exact .nil
  | n, d :: ds, _, e, h => by
    cases h with
    | cons h1 h2 => exact .cons (Rp.dp (e d List.mem_cons_self) h1) (RpAll.dp (fun x hx => e x (List.mem_cons_of_mem _ hx)) h2)
end
end

/-- data of numbers, truth values, None, lists, tuples, n deep at most -/
def okE : Nat → Dt → Bool
  | 0, _ => false
  | n + 1, .tup xs => decide (xs.length ≤ 100000) && xs.all (okE n)
  | n + 1, .lst xs => decide (xs.length ≤ 100000) && xs.all (okE n)
  | _ + 1, .ins _ _ => false
  | _ + 1, .str _ => false
  | _ + 1, _ => true
mutual
theorem okE_okD : ∀ {n : Nat} {d : Dt}, okE n d = true → okD n d = true
  | 0, _, e => by cases e
  | n + 1, .non, _ => rfl
  | n + 1, .bl _, _ => rfl
  | n + 1, .int _, _ => rfl
  | n + 1, .str _, e => by cases e
  | n + 1, .ins _ _, e => by cases e
  | n + 1, .lst ds, e => by
    have e' : ds.length ≤ 100000 ∧ ∀ e ∈ ds, okE n e = true := by simpa [okE] using e
    have : ∀ x ∈ ds, okD n x = true := okE_okDL e'.2
    simp [okD, e'.1]
    exact this
  | n + 1, .tup ds, e => by
    have e' : ds.length ≤ 100000 ∧ ∀ e ∈ ds, okE n e = true := by simpa [okE] using e
    have : ∀ x ∈ ds, okD n x = true := okE_okDL e'.2
    simp [okD, e'.1]
    exact this
theorem okE_okDL : ∀ {n : Nat} {ds : List Dt}, (∀ e ∈ ds, okE n e = true) → ∀ e ∈ ds, okD n e = true
  | _, [], _, e, he => by cases he
  | n, d :: ds, h, e, he => by
    have h1 := okE_okD (h d List.mem_cons_self)
    rcases List.mem_cons.mp he with e1 | he
    · rw [e1]; exact h1
    · exact okE_okDL (fun x hx => h x (List.mem_cons_of_mem _ hx)) e he
end
mutual
theorem lay_toPy : ∀ {n : Nat} {d : Dt}, okE n d = true → (toPy d).canLay0 = true ∧ (toPy d).depth ≤ n
  | 0, _, e => by cases e
  | n + 1, .non, _ => ⟨rfl, Nat.zero_le _⟩
  | n + 1, .bl _, _ => ⟨rfl, Nat.zero_le _⟩
  | n + 1, .int _, _ => ⟨rfl, Nat.zero_le _⟩
  | n + 1, .str _, e => by cases e
  | n + 1, .ins _ _, e => by cases e
  | n + 1, .lst ds, e => by
    have e' : ds.length ≤ 100000 ∧ ∀ e ∈ ds, okE n e = true := by simpa [okE] using e
    have := lay_toPyL (n := n) (ds := ds) e'.2
    exact ⟨by simpa [toPy, PyData.canLay0] using this.1, by simpa [toPy, PyData.depth] using this.2⟩
  | n + 1, .tup ds, e => by
    have e' : ds.length ≤ 100000 ∧ ∀ e ∈ ds, okE n e = true := by simpa [okE] using e
    have := lay_toPyL (n := n) (ds := ds) e'.2
    exact ⟨by simpa [toPy, PyData.canLay0] using this.1, by simpa [toPy, PyData.depth] using this.2⟩
theorem lay_toPyL : ∀ {n : Nat} {ds : List Dt}, (∀ e ∈ ds, okE n e = true) → PyData.canLayAll0 (toPyL ds) = true ∧ PyData.depthAll (toPyL ds) ≤ n
  | _, [], _ => ⟨rfl, Nat.zero_le _⟩
  | n, d :: ds, h => by
    have h1 := lay_toPy (h d List.mem_cons_self)
    have h2 := lay_toPyL (n := n) (ds := ds) fun x hx => h x (List.mem_cons_of_mem _ hx)
    exact ⟨by simp [toPyL, PyData.canLayAll0, h1.1, h2.1], by simp [toPyL, PyData.depthAll]; omega⟩
end
theorem shaped_toPy {n : Nat} {d : Dt} (h : okE n d = true) (hn : n ≤ 64) : SeqAt.shaped (toPy d) = true := by
  have := lay_toPy h
  simp [SeqAt.shaped, this.1]
  omega
theorem eqv_ints : ∀ (as bs : List Int), PyData.eqvAll (toPyL (as.map .int)) (toPyL (bs.map .int)) = decide (as = bs)
  | [], [] => by simp [toPyL, PyData.eqvAll]
  | [], b :: bs => by simp [toPyL, PyData.eqvAll]
  | a :: as, [] => by simp [toPyL, PyData.eqvAll]
  | a :: as, b :: bs => by
    have := eqv_ints as bs
    simp only [List.map_cons, toPyL, toPy, PyData.eqvAll, PyData.eqv, this]
    rw [Bool.eq_iff_iff]
    simp
theorem okE_ints (as : List Int) (h : as.length ≤ 100000) : okE 2 (.lst (as.map .int)) = true := by
  simp [okE, h]
section
variable {K : PySem.W.Frag} {G H : Hp} {x y : V} {d : Dt} {n : Nat} {Q : VK}
theorem go_eqSame (hx : Rp K G x d) (hy : Rp K G y d) (e : Same G H) (hd : okE n d = true) (hn : n ≤ 64) (k : Q (.bl true) H) : rEqD K x y H Q := by
  have s := shaped_toPy hd hn
  refine ⟨toPy d, toPy d, Rp.dp (okE_okD hd) (hx.up e), Rp.dp (okE_okD hd) (hy.up e), s, s, ?_⟩
  rw [SeqAt.eqv_refl _ (SeqAt.canLay_of_shaped s)]
  exact k
theorem go_neSame (hx : Rp K G x d) (hy : Rp K G y d) (e : Same G H) (hd : okE n d = true) (hn : n ≤ 64) (k : Q (.bl false) H) : rNeD K x y H Q := by
  have s := shaped_toPy hd hn
  refine ⟨toPy d, toPy d, Rp.dp (okE_okD hd) (hx.up e), Rp.dp (okE_okD hd) (hy.up e), s, s, ?_⟩
  rw [SeqAt.eqv_refl _ (SeqAt.canLay_of_shaped s)]
  exact k
theorem go_eqInts {as bs : List Int} (hx : Rp K G x (.lst (as.map .int))) (hy : Rp K G y (.lst (bs.map .int))) (e : Same G H) (ha : as.length ≤ 100000) (hb : bs.length ≤ 100000) (k : Q (.bl (decide (as = bs))) H) : rEqD K x y H Q := by
  refine ⟨_, _, Rp.dp (okE_okD (okE_ints as ha)) (hx.up e), Rp.dp (okE_okD (okE_ints bs hb)) (hy.up e), shaped_toPy (okE_ints as ha) (by decide), shaped_toPy (okE_ints bs hb) (by decide), ?_⟩
  have : PyData.eqv (toPy (.lst (as.map .int))) (toPy (.lst (bs.map .int))) = decide (as = bs) := eqv_ints as bs
  rw [this]
  exact k
theorem go_neInts {as bs : List Int} (hx : Rp K G x (.lst (as.map .int))) (hy : Rp K G y (.lst (bs.map .int))) (e : Same G H) (ha : as.length ≤ 100000) (hb : bs.length ≤ 100000) (k : Q (.bl (!decide (as = bs))) H) : rNeD K x y H Q := by
  refine ⟨_, _, Rp.dp (okE_okD (okE_ints as ha)) (hx.up e), Rp.dp (okE_okD (okE_ints bs hb)) (hy.up e), shaped_toPy (okE_ints as ha) (by decide), shaped_toPy (okE_ints bs hb) (by decide), ?_⟩
  have : PyData.eqv (toPy (.lst (as.map .int))) (toPy (.lst (bs.map .int))) = decide (as = bs) := eqv_ints as bs
  rw [this]
  exact k
end
end B
namespace B
open PySem PySem.Spec PyProof.Rows L2 SrtO

/-! ### the order of keys: lists of ints; the stable sort by insertion -/
def ltK {α : Type} (p q : List Int × α) : Bool := HT.lexLt p.1 q.1
theorem swo_ltK {α : Type} : Swo (ltK (α := α)) := ⟨fun x y => NtL.lex_asym _ _, fun x y z => NtL.lex_tr _ _ _⟩
def insK {α : Type} (y : List Int × α) : List (List Int × α) → List (List Int × α)
  | [] => [y]
  | x :: l => if ltK y x = true then y :: x :: l else x :: insK y l
def srtK {α : Type} (l : List (List Int × α)) : List (List Int × α) := l.foldl (fun acc y => insK y acc) []
theorem insK_split {α : Type} (y : List Int × α) : ∀ l : List (List Int × α), Srtd ltK l → ∃ M N, l = M ++ N ∧ insK y l = M ++ y :: N ∧ (∀ x ∈ M, ltK y x = false) ∧ ∀ x ∈ N, ltK y x = true
  | [], _ => ⟨[], [], rfl, rfl, fun _ h => absurd h (by simp), fun _ h => absurd h (by simp)⟩
  | x :: l, h => by
    by_cases e : ltK y x = true
    · exact ⟨[], x :: l, rfl, by simp [insK, e], fun _ h => absurd h (by simp), swo_ltK.lt_all h e⟩
    · obtain ⟨M, N, e1, e2, e3, e4⟩ := insK_split y l (List.pairwise_cons.mp h).2
      refine ⟨x :: M, N, by rw [e1]; rfl, by simp [insK, e, e2], fun z hz => ?_, e4⟩
      rcases List.mem_cons.mp hz with rfl | hz
      · simpa using e
      · exact e3 z hz
theorem srtK_go {α : Type} : ∀ (l acc O1 : List (List Int × α)), Srtd ltK acc → Stb ltK acc O1 → Srtd ltK (l.foldl (fun acc y => insK y acc) acc) ∧ Stb ltK (l.foldl (fun acc y => insK y acc) acc) (O1 ++ l)
  | [], acc, O1, h1, h2 => by rw [List.append_nil]; exact ⟨h1, h2⟩
  | y :: l, acc, O1, h1, h2 => by
    obtain ⟨M, N, e1, e2, e3, e4⟩ := insK_split y acc h1
    subst e1
    have := srtK_go l (insK y (M ++ N)) (O1 ++ [y]) (by rw [e2]; exact ins_srtd swo_ltK h1 e3 e4) (by rw [e2]; exact ins_stb swo_ltK e4 h2)
    rw [List.append_assoc] at this
    exact this
theorem srtK_ok {α : Type} (l : List (List Int × α)) : Srtd ltK (srtK l) ∧ Stb ltK (srtK l) l := srtK_go l [] [] List.Pairwise.nil (Stb.refl _)
theorem srtK_perm {α : Type} (l : List (List Int × α)) : (srtK l).Perm l := (srtK_ok l).2.perm
theorem srtK_uniq {α : Type} {l m : List (List Int × α)} (h1 : Srtd ltK m) (h2 : Stb ltK m l) : m = srtK l :=
  stb_uniq swo_ltK h1 (srtK_ok l).1 (h2.trans ⟨(srtK_ok l).2.perm.symm, fun x => ((srtK_ok l).2.cls x).symm⟩)

/-! ### keys in the heap -/
def kfO (h : Heap) : Value → List Int
  | .int i _ => [i]
  | .ref a => match h.get? a with
    | some o => match o.data with
      | .seq xs _ => xs.toList.map iv
      | _ => []
    | none => []
  | _ => []
def ltO (h : Heap) (p q : Keyed) : Bool := HT.lexLt (kfO h p.1) (kfO h q.1)
theorem swo_ltO (h : Heap) : Swo (ltO h) := ⟨fun x y => NtL.lex_asym _ _, fun x y z => NtL.lex_tr _ _ _⟩
def IntKey (v : Value) : Prop := ∃ i t, v = Value.int i t
def TupKey (h : Heap) (v : Value) (ns : List Int) : Prop := ∃ a items, v = .ref a ∧ IsTup h a items ∧ IntsAre items.toList ns ∧ ns ≠ []
theorem TupKey.kf {h : Heap} {v : Value} {ns : List Int} (x : TupKey h v ns) : kfO h v = ns := by
  obtain ⟨a, items, rfl, ⟨o, ho, hc, n, hd⟩, hi, hn⟩ := x
  simp only [kfO, ho, hd]
  exact iv_ints hi
def KeysOK (h : Heap) (keys : List Value) : Prop := (∀ k ∈ keys, IntKey k) ∨ ∀ k ∈ keys, ∃ ns, TupKey h k ns
section
variable {prog : Program} {w : World} {A : Around} {E : Value → Shared → Prop} {s : Shared}
theorem cmp_ik {keys : List Value} (hk : ∀ k ∈ keys, IntKey k) : Cmp prog w A s oneType' (fun p => p.1 ∈ keys) (ltO s.heap) := by
  intro p q hm hm'
  obtain ⟨a, t, e⟩ := hk _ hm
  obtain ⟨b, u, e'⟩ := hk _ hm'
  show wpAny (model prog w) A (keyLt' oneType' p.1 q.1) (fun r s' => s' = s ∧ r = HT.lexLt (kfO s.heap p.1) (kfO s.heap q.1)) (fun _ _ => False) s
  rw [e, e', keyLt'_oneType]
  refine oneLt_int ⟨rfl, ?_⟩
  show decide (a < b) = HT.lexLt [a] [b]
  rw [HT.lexLt_cons]
  by_cases z : a = b
  · rw [if_pos z, HT.lexLt_nil_nil]
    exact decide_eq_false (by omega)
  · rw [if_neg z]
theorem lex_at {Q : Bool → Shared → Prop} {b : Bool} : ∀ {xs ys : List Value} {ns ms : List Int} (i : Nat), IntsAre xs ns → IntsAre ys ms → Q (HT.lexLt ns ms) s → PySem.W.KatLex prog w A b (decide (xs.length < ys.length)) Q (xs.zip ys) i s
  | _, _, _, _, i, .nil, .nil, h => by
    rw [HT.lexLt_nil_nil] at h
    exact PySem.W.kat_nil h
  | _, _, _, _, i, .nil, .cons n t r, h => by
    rw [HT.lexLt_nil_cons] at h
    exact PySem.W.kat_nil (by simpa using h)
  | _, _, _, _, i, .cons n t r, .nil, h => by
    rw [HT.lexLt_cons_nil] at h
    exact PySem.W.kat_nil (by simpa using h)
  | _, _, _, _, i, .cons n t r, .cons m u r', h => by
    rw [HT.lexLt_cons] at h
    refine PySem.W.kat_cons (SeqAt.EqAt.int_int n t m u prog w _ _ ?_)
    refine PySem.W.kat_go (fun e1 => ?_) (fun e1 => ?_)
    · have e : n = m := by simpa using e1
      rw [if_pos e] at h
      have := lex_at (b := b) (i + 1) r r' h
      refine PySem.W.kat_yes ?_
      simp only [List.length_cons, Nat.add_lt_add_iff_right]
      exact this
    · have e : ¬ n = m := by simpa using e1
      rw [if_neg e] at h
      exact PySem.W.kat_no (TS.oneLt_ints _ h)
theorem cmp_tk {keys : List Value} (hk : ∀ k ∈ keys, ∃ ns, TupKey s.heap k ns) : Cmp prog w A s (tuples' true) (fun p => p.1 ∈ keys) (ltO s.heap) := by
  intro p q hm hm'
  obtain ⟨ns, h1⟩ := hk _ hm
  obtain ⟨ms, h2⟩ := hk _ hm'
  show wpAny (model prog w) A (keyLt' (tuples' true) p.1 q.1) (fun r s' => s' = s ∧ r = HT.lexLt (kfO s.heap p.1) (kfO s.heap q.1)) (fun _ _ => False) s
  rw [h1.kf, h2.kf]
  obtain ⟨a, items, e, ⟨o, ho, hc, n, hd⟩, hi, hn⟩ := h1
  obtain ⟨a', items', e', ⟨o', ho', hc', n', hd'⟩, hi', hn'⟩ := h2
  rw [e, e']
  refine PySem.W.kat_lt ho hd ho' hd' ?_
  have := lex_at (prog := prog) (w := w) (A := A) (s := s) (Q := fun r s' => s' = s ∧ r = HT.lexLt ns ms) (b := true) 0 hi hi' ⟨rfl, rfl⟩
  simpa using this
theorem firsts_tk {h : Heap} : ∀ {vs : List Value}, (∀ v ∈ vs, ∃ ns, TupKey h v ns) → ∃ fs : List Value, PySem.W.KatTups h vs fs ∧ fs.length = vs.length ∧ ∀ f ∈ fs, ∃ x t, f = Value.int x t
  | [], _ => ⟨[], PySem.W.KatTups.nil, rfl, fun _ h => absurd h (by simp)⟩
  | v :: vs, hv => by
    obtain ⟨fs, h1, h2, h3⟩ := firsts_tk (vs := vs) fun u hu => hv u (List.mem_cons_of_mem _ hu)
    obtain ⟨ns, a, items, rfl, ⟨o, ho, hc, n, hd⟩, hi, hn⟩ := hv v List.mem_cons_self
    obtain ⟨x, t, hx⟩ : ∃ x t, items[0]? = some (Value.int x t) := by
      generalize e : items.toList = l at hi
      cases hi with
      | nil => exact absurd rfl hn
      | cons m t r =>
        refine ⟨m, t, ?_⟩
        rw [← Array.getElem?_toList, e]
        rfl
    refine ⟨.int x t :: fs, PySem.W.KatTups.cons ho hc hd hx h1, by simp [h2], fun f hf => ?_⟩
    rcases List.mem_cons.mp hf with rfl | hf
    · exact ⟨x, t, rfl⟩
    · exact h3 f hf
theorem ints_of {vs : List Value} (h : ∀ v ∈ vs, IntKey v) : ∃ ns, IntsAre vs ns := ⟨_, ints_iv h⟩
theorem kind_cmp {keys : List Value} (hk : KeysOK s.heap keys) (h2 : 2 ≤ keys.length) : ∃ κ, (∀ (Q : SortKind → Shared → Prop) (E : Value → Shared → Prop), Q κ s → wpAny (model prog w) A (keyKind' keys.toArray) Q E s) ∧ Cmp prog w A s κ (fun p => p.1 ∈ keys) (ltO s.heap) := by
  rcases hk with hk | hk
  · obtain ⟨ns, hi⟩ := ints_of hk
    refine ⟨oneType', fun Q E hq => ?_, cmp_ik hk⟩
    have e : keys = keys.toArray.toList := by simp
    rw [e] at hi
    rw [ksk_kind hi (by simpa using h2)]
    exact wpAny_pure hq
  · obtain ⟨fs, h1, h3, h4⟩ := firsts_tk hk
    refine ⟨tuples' true, fun Q E hq => ?_, cmp_tk hk⟩
    refine PySem.W.kat_kind (T := .type "int") h1 (by omega) (fun f hm => ?_) (by rfl) ?_
    · obtain ⟨x, t, rfl⟩ := h4 f hm
      exact PySem.W.Looks.now
    · have e : (Value.type "int" != Value.type "tuple") = true := by first | decide +kernel | rfl | decide
      rw [e]
      exact hq
theorem ksort_end {a kS : Addr} {vs : List Value} {keys : Array Value} {e e1 : Nat} {P : PySem.Fin → Shared → Prop} (nk : s.heap.get? kS = some (seqObj "list" keys e)) (na : s.heap.get? a = some (seqObj "list" #[] e1)) (hka : kS ≠ a)
    (hlen : keys.size = vs.length) (hz : vs.length ≤ sizeLine) (hk : KeysOK s.heap keys.toList)
    (h : ∀ (arr : Array Keyed) (out : Array Value) tk, out = arr.map (·.2) → Srtd (ltO s.heap) arr.toList → Stb (ltO s.heap) arr.toList (keys.toList.zip vs) → P (.done (.ret .none)) { s with heap := (s.heap.update kS (Obj.mapSeq fun _ => #[])).update a (Obj.mapSeq fun _ => out), toks := tk }) :
    wpAny (model prog w) A (ksk_end a false vs.toArray e1 (.ref kS) keys) P E s := by
  have na1 : (s.heap.update kS (Obj.mapSeq fun _ => (#[] : Array Value))).get? a = some (seqObj "list" #[] e1) := ((Heap.SameBut.update s.heap kS (Obj.mapSeq fun _ => (#[] : Array Value))).2 a hka.symm).trans na
  have tail : ∀ st : SortSt, Srtd (ltO s.heap) (arrOf st).toList → Stb (ltO s.heap) (arrOf st).toList (keys.zip vs.toArray).toList → failedOf st = none → wpAny (model prog w) A (ksk_tail a false e1 (.ref kS) st) P E s := by
    intro st h1 h2 hfl
    rw [ksk_zip] at h2
    have hl := h2.len
    rw [Array.length_toList, List.length_zip, Array.length_toList, hlen, Nat.min_self] at hl
    unfold ksk_tail
    try dsimp only
    refine wpAny_bind (listUpdate_at nk rfl ?_ (by rw [hlen]; exact hz) (Nat.zero_le _))
    refine wpAny_bind (wpAny_letGo ?_)
    refine wpAny_bind (seqEpoch_at na1 rfl ?_)
    refine wpAny_bind (listUpdate_at na1 rfl ?_ (Nat.zero_le _) (by simp only [Bool.false_eq_true, if_false, Array.size_map]; omega))
    rw [hfl]
    simp only [bne_self_eq_false, Bool.false_eq_true, if_false]
    exact wpAny_pure (h _ _ _ rfl h1 h2)
  unfold ksk_end
  try dsimp only
  simp only [Bool.false_eq_true, if_false]
  by_cases h2 : vs.toArray.size < 2
  · rw [if_pos h2, if_pos h2]
    refine wpAny_bind (wpAny_pure ?_)
    rw [StateT.run_pure]
    refine wpAny_bind (wpAny_pure ?_)
    try dsimp only
    refine tail (SortSt.mk' general' (keys.zip vs.toArray) #[] 7 none) ?_ (Stb.refl _) rfl
    show Srtd (ltO s.heap) (keys.zip vs.toArray).toList
    have hl : (keys.zip vs.toArray).toList.length < 2 := by
      rw [ksk_zip, List.length_zip, Array.length_toList, hlen, Nat.min_self]
      simpa using h2
    generalize (keys.zip vs.toArray).toList = l at hl
    match l, hl with
    | [], _ => exact List.Pairwise.nil
    | [v], _ => exact List.pairwise_singleton _ _
    | _ :: _ :: l, h => exact absurd h (by rw [List.length_cons, List.length_cons]; omega)
  · rw [if_neg h2, if_neg h2]
    have h2' : 2 ≤ keys.toList.length := by
      rw [Array.length_toList, hlen]
      simpa using h2
    obtain ⟨κ, hkind, hT⟩ := kind_cmp (prog := prog) (w := w) (A := A) hk h2'
    have ek : keys = keys.toList.toArray := by simp
    rw [ek]
    refine wpAny_bind (hkind _ _ ?_)
    rw [← ek]
    have hall : AllL (fun p : Keyed => p.1 ∈ keys.toList) (keys.zip vs.toArray).toList := fun p hm => by
      rw [ksk_zip] at hm
      exact (List.of_mem_zip (a := p.1) (b := p.2) hm).1
    refine wpAny_bind (wpAny_mono (wpS_sortO (st0 := SortSt.mk' κ (keys.zip vs.toArray) #[] 7 none)
      (Q := fun _ st' => Srtd (ltO s.heap) (arrOf st').toList ∧ Stb (ltO s.heap) (arrOf st').toList (keys.zip vs.toArray).toList ∧ failedOf st' = none) (swo_ltO s.heap) hT rfl hall rfl rfl fun st' a1 a2 a3 => ⟨a1, a2, a3⟩) ?_ fun _ _ e => e)
    rintro ⟨⟨⟩, st'⟩ s' ⟨rfl, hp1, hp2, hf⟩
    try dsimp only
    exact tail st' hp1 hp2 hf
end

/-! ### sorted(xs, key=f) -/
def keysT (r : V → Hp → VK → Prop) : List V → Hp → (List V → Hp → Prop) → Prop
  | [], H, Q => Q [] H
  | x :: xs, H, Q => r x H fun k H1 => keysT r xs H1 fun ks H2 => Q (k :: ks) H2
/-- the key function at f does what r says -/
structure KeyRun (X : Cx) (W : List (Addr × Obj)) (σ : L2.St) (f : Addr) (r : V → Hp → VK → Prop) : Prop where
  run : ∀ (pins : List (Addr × Obj)) (s : Shared) (H : Hp) (x : V) (u : Value) (Q : VK), (∀ p ∈ W, p ∈ pins) → Inv X pins σ H s → RelV x u → r x H Q → wpAny (model X.prog X.w) X.A.in1.in1 (call (.ref f) [u]) (EP X pins σ Q) (fun _ _ => False) s
theorem KeyRun.of_fn {X : Cx} {σ : L2.St} {CX : CXT} {k : Nat} {f : Addr} {fd : FuncData} {ps : List Str} {sp : Sp} {E : XK} (F : FnOk X.prog X.w X.K X.mg X.base CX k f fd ps sp) (hr : Room (k + 2) X.A) (hb : Binds X.K fd ps []) (hx : ∀ H s e s', ¬ CX X.stack H s E e s') :
    KeyRun X [] σ f fun x H Q => sp [x] H Q E := ⟨fun pins s H x u Q _ I rx h => by
  have r2 : Vals [x] [u] := .cons rx .nil
  have hl : ([u] ++ []).length = ps.length := F.len _ _ _ _ h
  refine wpAny_call (codeAny_mono (F.run X.A.in1.in1 X.stack s H ⟨[u], []⟩ ([u] ++ []) [x] Q E hr.in1.in1 I.env0.in1.in1 (hb s [u] I.kIn hl) r2 h) fun r s' hq => ?_)
  cases r with
  | error e => exact hx _ _ _ _ hq
  | ok fl =>
    cases fl with
    | ret u => exact I.after hq
    | next => exact False.elim hq
    | brk => exact False.elim hq
    | cont => exact False.elim hq⟩
/-- the keys are these: all ints, or all tuples of ints -/
def KeyI (k : V) (l : List Int) : Prop := ∃ i, k = .int i ∧ l = [i]
def KeyT (K : PySem.W.Frag) (H : Hp) (k : V) (l : List Int) : Prop := ∃ a, k = .ref a ∧ SqT K H a (l.map .int) ∧ l ≠ []
def KeysAre (K : PySem.W.Frag) (H : Hp) (ks : List V) (ls : List (List Int)) : Prop := Paired KeyI ks ls ∨ Paired (KeyT K H) ks ls
/-- the abstract value of a value -/
def backA : Value → V
  | .none => .non
  | .bool b => .bl b
  | .int i _ => .int i
  | .str x _ => .str x
  | .bytes b _ => .byt b
  | .float b _ => .flt b
  | .ref a => .ref a
  | .type n => .ty n
  | _ => .non
theorem backA_of : ∀ {x : V} {u : Value}, RelV x u → backA u = x
  | .non, _, h => by cases h; rfl
  | .bl _, _, h => by cases h; rfl
  | .int _, _, h => by obtain ⟨t, rfl⟩ := h; rfl
  | .str _, _, h => by obtain ⟨t, rfl⟩ := h; rfl
  | .byt _, _, h => by obtain ⟨t, rfl⟩ := h; rfl
  | .flt _, _, h => by obtain ⟨t, rfl⟩ := h; rfl
  | .ref _, _, h => by cases h; rfl
  | .ty _, _, h => by cases h; rfl
theorem backA_vals : ∀ {xs : List V} {us : List Value}, Vals xs us → us.map backA = xs
  | _, _, .nil => rfl
  | _, _, .cons r t => by rw [List.map_cons, backA_of r, backA_vals t]
theorem vals_backA {xs : List V} {us : List Value} (r : Vals xs us) : ∀ u ∈ us, RelV (backA u) u := by
  induction r with
  | nil => exact fun _ h => absurd h (by simp)
  | cons r t ih =>
    intro u hu
    rcases List.mem_cons.mp hu with rfl | hu
    · rw [backA_of r]; exact r
    · exact ih u hu
theorem vals_mapA : ∀ {us : List Value}, (∀ u ∈ us, RelV (backA u) u) → Vals (us.map backA) us
  | [], _ => .nil
  | u :: us, h => .cons (h u List.mem_cons_self) (vals_mapA fun w hw => h w (List.mem_cons_of_mem _ hw))
def rSortK (K : PySem.W.Frag) (f : Addr) (r : V → Hp → VK → Prop) : List V → List V → Hp → VK → Prop := fun vs zs H Q => ∃ (a : Addr) (xs : List V), vs = [.ref a] ∧ zs = [.ref f] ∧ (SqL K H a xs ∨ SqT K H a xs) ∧
  keysT r xs H fun ks H1 => ∃ ls : List (List Int), KeysAre K H1 ks ls ∧ ∀ p, H1 p = none → Q (.ref p) (upd H1 p (.lst ((srtK (ls.zip xs)).map (·.2))))
section
variable {X : Cx} {pins : List (Addr × Obj)} {σ : L2.St} {H : Hp} {s : Shared}
theorem keysAre_ok (I : Inv X pins σ H s) {ks : List V} {us : List Value} {ls : List (List Int)} (rk : Vals ks us) (h : KeysAre X.K H ks ls) : KeysOK s.heap us ∧ us.map (kfO s.heap) = ls := by
  rcases h with h | h
  · have : (∀ k ∈ us, IntKey k) ∧ us.map (kfO s.heap) = ls := by
      induction h generalizing us with
      | nil => cases rk; exact ⟨fun _ h => absurd h (by simp), rfl⟩
      | cons h1 h2 ih =>
        cases rk with
        | cons r t =>
          obtain ⟨a, b⟩ := ih t
          obtain ⟨i, rfl, rfl⟩ := h1
          obtain ⟨t, rfl⟩ := r
          refine ⟨fun k hk => ?_, by rw [List.map_cons, b]; rfl⟩
          rcases List.mem_cons.mp hk with rfl | hk
          · exact ⟨_, _, rfl⟩
          · exact a k hk
    exact ⟨.inl this.1, this.2⟩
  · have : (∀ k ∈ us, ∃ ns, TupKey s.heap k ns) ∧ us.map (kfO s.heap) = ls := by
      induction h generalizing us with
      | nil => cases rk; exact ⟨fun _ h => absurd h (by simp), rfl⟩
      | cons h1 h2 ih =>
        cases rk with
        | cons r t =>
          obtain ⟨a, b⟩ := ih t
          obtain ⟨a', rfl, hs, hn⟩ := h1
          cases r
          obtain ⟨its, r2, ht, _⟩ := I.tuple hs
          have tk : TupKey s.heap (.ref a') _ := ⟨a', its.toArray, rfl, ht, r2.ints, hn⟩
          refine ⟨fun k hk => ?_, by rw [List.map_cons, b, tk.kf]⟩
          rcases List.mem_cons.mp hk with rfl | hk
          · exact ⟨_, tk⟩
          · exact a k hk
    exact ⟨.inr this.1, this.2⟩
/-- what stands of an address of ours besides what is tracked -/
def StA (X : Cx) (pins : List (Addr × Obj)) (b : Addr) : Prop := b ≠ X.env.locals ∧ b ∉ X.fs ∧ (b ∈ X.ex ∨ X.s_0.heap.objs.size ≤ b) ∧ (∀ x c, X.env.cells.lookup x = some c → c ≠ b) ∧ ∀ p ∈ X.pn ++ pins, p.1 ≠ b
theorem ksort_loop {f : Addr} {r : V → Hp → VK → Prop} {W : List (Addr × Obj)} (KR : KeyRun X W σ f r) (hW : ∀ p ∈ W, p ∈ pins) {a kS : Addr} {vs : List Value} {xs : List V} {e1 : Nat} {P : PySem.Fin → Shared → Prop} {E : Value → Shared → Prop} {Qk : List V → Hp → Prop} (I : Inv X pins σ H s) (rv : Vals xs vs) (hz : vs.length ≤ sizeLine)
    (nk : s.heap.get? kS = some (seqObj "list" #[] 0)) (na : s.heap.get? a = some (seqObj "list" #[] e1)) (hka : kS ≠ a) (hHk : H kS = none) (hHa : H a = none) (sk : StA X pins kS) (sa : StA X pins a) (h : keysT r xs H Qk)
    (done : ∀ (s' : Shared) (H' : Hp) (ks : List V) (keys : Array Value) (e : Nat), Inv X pins σ H' s' → s'.heap.get? kS = some (seqObj "list" keys e) → s'.heap.get? a = some (seqObj "list" #[] e1) → H' kS = none → H' a = none → Vals ks keys.toList → keys.size = vs.length → Qk ks H' →
      wpAny (model X.prog X.w) X.A.in1.in1 (ksk_end a false vs.toArray e1 (.ref kS) keys) P E s') :
    wpAny (model X.prog X.w) X.A.in1.in1 (ksk_rest a (.ref f) false vs.toArray e1 (.ref kS)) P E s := by
  unfold ksk_rest
  refine wpAny_bind (wpAny_rule ?_)
  first
    | rw [List.forIn_toArray]
    | (rw [← Array.forIn_toList]; simp only [List.toList_toArray])
    | rw [← Array.forIn_toList]
  refine wpAny_bind (ksk_fold (fun i s' => ∃ (H' : Hp) (kA : Array Value) (e : Nat) (ks : List V), Inv X pins σ H' s' ∧ s'.heap.get? kS = some (seqObj "list" kA e) ∧ s'.heap.get? a = some (seqObj "list" #[] e1) ∧ H' kS = none ∧ H' a = none ∧ Vals ks kA.toList ∧ kA.size = i ∧ keysT r (xs.drop i) H' (fun ks' H2 => Qk (ks ++ ks') H2)) vs 0 s
    ⟨H, #[], 0, [], I, nk, na, hHk, hHa, .nil, rfl, h⟩ ?step ?done)
  case step =>
    rintro j x s' hx ⟨H', kA, e, ks, I', gk, ga, ek, ea, rk, hsz, hq⟩
    simp only [Nat.zero_add] at hsz hq ⊢
    have hj : j < vs.length := (List.getElem?_eq_some_iff.mp hx).1
    have hjx : j < xs.length := by rw [rv.length]; exact hj
    have hxj : xs[j]? = some xs[j] := List.getElem?_eq_getElem hjx
    obtain ⟨u, hu, ru⟩ := rv.get hxj
    rw [hx] at hu
    cases hu
    rw [List.drop_eq_getElem_cons hjx] at hq
    have Ip : Inv X (pins ++ [(a, seqObj "list" #[] e1), (kS, seqObj "list" kA e)]) σ H' s' := I'.pins_of fun p hp => by
      rcases List.mem_append.mp hp with hp | hp
      · exact I'.pin p (List.mem_append_right _ hp)
      · rcases List.mem_cons.mp hp with rfl | hp
        · exact ⟨ga, ea, sa.1, sa.2.1, fun v => by simp [seqObj]⟩
        · rw [List.mem_singleton.mp hp]
          exact ⟨gk, ek, sk.1, sk.2.1, fun v => by simp [seqObj]⟩
    refine wpAny_bind (wpAny_attempt (wpAny_mono (KR.run _ s' H' _ x _ (fun p hp => List.mem_append_left _ (hW p hp)) Ip ru hq) (fun v s'' he => ?_) fun _ _ hF => hF.elim))
    obtain ⟨k, H2, I2, rk2, q2⟩ := he
    have pa := I2.pin (a, seqObj "list" #[] e1) (List.mem_append_right _ (List.mem_append_right _ (by simp)))
    have pk := I2.pin (kS, seqObj "list" kA e) (List.mem_append_right _ (List.mem_append_right _ (by simp)))
    have I3 : Inv X pins σ H2 s'' := I2.unpinned
    obtain ⟨hh, g, d, t, os⟩ := s''
    try dsimp only at pa pk I3 ⊢
    have s1 := Heap.SameBut.update hh kS (Obj.mapSeq (·.push v))
    obtain ⟨c2, hc2⟩ : ∃ c2, (hh.update kS (Obj.mapSeq (·.push v))).get? kS = some (seqObj "list" (kA.push v) c2) := ⟨_, get?_update_seq pk.1 (·.push v)⟩
    refine wpAny_bind (listUpdate_at pk.1 rfl ?_ (by omega) (Nat.le_trans (Nat.le_of_eq (Array.size_push ..)) (by omega)))
    refine wpAny_pure ⟨rfl, H2, kA.push v, c2, ks ++ [k], ?_, hc2, (s1.2 a hka.symm).trans pa.1, pk.2.1, pa.2.1, ?_, by rw [Array.size_push]; omega, ?_⟩
    · exact I3.turned (t' := t) (it := kS) (h' := hh.update kS (Obj.mapSeq (·.push v))) (fun b o hb e => (s1.2 b hb).trans e) pk.2.1 sk.1 sk.2.2.1 sk.2.2.2.1 sk.2.2.2.2
    · have : (kA.push v).toList = kA.toList ++ [v] := by simp
      rw [this]
      exact rk.append (.cons rk2 .nil)
    · have e : (fun ks' H2 => Qk ((ks ++ [k]) ++ ks') H2) = fun ks' H2 => Qk (ks ++ (k :: ks')) H2 := by
        funext ks' H2
        rw [List.append_assoc]
        rfl
      rw [e]
      exact q2
  case done =>
    rintro s' ⟨H', kA, e, ks, I', gk, ga, ek, ea, rk, hsz, hq⟩
    simp only [Nat.zero_add] at hsz hq
    rw [List.drop_of_length_le (by rw [rv.length]; exact Nat.le_refl _)] at hq
    have hq' : Qk ks H' := by
      have := hq
      unfold keysT at this
      rw [List.append_nil] at this
      exact this
    try dsimp only
    refine wpAny_bind (listItems_at gk rfl ?_)
    exact done s' H' ks kA e I' gk ga ek ea rk hsz hq'
theorem fpOk_sta {b : Addr} (h : FpOk X pins H b) : StA X pins b := h.2
theorem ksort_mid {f : Addr} {r : V → Hp → VK → Prop} {W : List (Addr × Obj)} (KR : KeyRun X W σ f r) (hW : ∀ p ∈ W, p ∈ pins) {a kS : Addr} {vs : List Value} {xs : List V} {e1 : Nat} {P : PySem.Fin → Shared → Prop} {E : Value → Shared → Prop} {Q : V → Hp → Prop} (I : Inv X pins σ H s) (rv : Vals xs vs) (hz : vs.length ≤ sizeLine)
    (nk : s.heap.get? kS = some (seqObj "list" #[] 0)) (na : s.heap.get? a = some (seqObj "list" #[] e1)) (hka : kS ≠ a) (hHk : H kS = none) (hHa : H a = none) (sk : StA X pins kS) (sa : StA X pins a)
    (h : keysT r xs H fun ks H1 => ∃ ls : List (List Int), KeysAre X.K H1 ks ls ∧ ∀ p, H1 p = none → Q (.ref p) (upd H1 p (.lst ((srtK (ls.zip xs)).map (·.2)))))
    (done : ∀ s' H', Inv X pins σ H' s' → Q (.ref a) H' → P (.done (.ret .none)) s') :
    wpAny (model X.prog X.w) X.A.in1.in1 (ksk_rest a (.ref f) false vs.toArray e1 (.ref kS)) P E s := by
  refine ksort_loop KR hW I rv hz nk na hka hHk hHa sk sa h fun s' H' ks keys e I' gk ga ek ea rk hsz hq => ?_
  obtain ⟨ls, hk, hq⟩ := hq
  obtain ⟨ok, ek2⟩ := keysAre_ok I' rk hk
  refine ksort_end gk ga hka hsz hz ok fun arr out tk ho h1 h2 => ?_
  have e1 : (arr.toList.map fun p : Keyed => (kfO s'.heap p.1, backA p.2)) = srtK (ls.zip xs) := by
    refine srtK_uniq (List.pairwise_map.mpr h1) ?_
    have := SrtO.Stb.map (lt := ltK) swo_ltK (fun p : Keyed => (kfO s'.heap p.1, backA p.2)) (l := arr.toList) (m := keys.toList.zip vs) h2
    have e2 : (keys.toList.zip vs).map (fun p : Keyed => (kfO s'.heap p.1, backA p.2)) = ls.zip xs := by
      rw [← ek2, ← backA_vals rv, List.zip_map]
      rfl
    rw [e2] at this
    exact this
  have hmem : ∀ p ∈ arr.toList, p.2 ∈ vs := fun p hp => (List.of_mem_zip (a := p.1) (b := p.2) (h2.perm.mem_iff.mp hp)).2
  have e3 : (srtK (ls.zip xs)).map (·.2) = out.toList.map backA := by
    rw [← e1, ho, List.map_map, Array.toList_map, List.map_map]
    rfl
  have hlen : ((srtK (ls.zip xs)).map (·.2)).length ≤ sizeLine := by
    rw [e3, ho, List.length_map, Array.length_toList, Array.size_map, ← Array.length_toList, h2.len, List.length_zip]
    exact Nat.le_trans (Nat.min_le_right _ _) hz
  have t1 := Heap.SameBut.update s'.heap kS (Obj.mapSeq fun _ => (#[] : Array Value))
  have I5 := I'.turned (t' := tk) (it := kS) (h' := s'.heap.update kS (Obj.mapSeq fun _ => (#[] : Array Value))) (fun b o hb e => (t1.2 b hb).trans e) ek sk.1 sk.2.2.1 sk.2.2.2.1 sk.2.2.2.2
  have ga1 := (t1.2 a hka.symm).trans ga
  have t2 := Heap.SameBut.update (s'.heap.update kS (Obj.mapSeq fun _ => (#[] : Array Value))) a (Obj.mapSeq fun _ => out)
  obtain ⟨c2, hc2⟩ : ∃ c2, ((s'.heap.update kS (Obj.mapSeq fun _ => (#[] : Array Value))).update a (Obj.mapSeq fun _ => out)).get? a = some (seqObj "list" out c2) := ⟨_, get?_update_seq ga1 fun _ => out⟩
  have ob : ObjOk X.prog X.w (upd H' a (.lst ((srtK (ls.zip xs)).map (·.2)))) ((s'.heap.update kS (Obj.mapSeq fun _ => (#[] : Array Value))).update a (Obj.mapSeq fun _ => out)) a (.lst ((srtK (ls.zip xs)).map (·.2))) := by
    refine ⟨hlen, out.toList, c2, ?_, by rw [Array.toArray_toList]; exact hc2⟩
    rw [e3]
    refine vals_mapA fun u hu => ?_
    rw [ho, Array.toList_map] at hu
    obtain ⟨p, hp, rfl⟩ := List.mem_map.mp hu
    exact vals_backA rv _ (hmem p hp)
  have I6 := I5.take (t' := tk) (it := a) (h' := (s'.heap.update kS (Obj.mapSeq fun _ => (#[] : Array Value))).update a (Obj.mapSeq fun _ => out)) (o := .lst ((srtK (ls.zip xs)).map (·.2))) (fun b o hb e => (t2.2 b hb).trans e) ⟨ea, sa⟩ ob
  exact done _ _ I6 (hq a ea)
theorem ksort_tree {f : Addr} {r : V → Hp → VK → Prop} {W : List (Addr × Obj)} (KR : KeyRun X W σ f r) (hW : ∀ p ∈ W, p ∈ pins) {a : Addr} {vs : List Value} {xs : List V} {n : Nat} {P : PySem.Fin → Shared → Prop} {E : Value → Shared → Prop} {Q : V → Hp → Prop} (I : Inv X pins σ H s) (rv : Vals xs vs) (hz : vs.length ≤ sizeLine)
    (na : s.heap.get? a = some (seqObj "list" vs.toArray n)) (hHa : H a = none) (sa : StA X pins a)
    (h : keysT r xs H fun ks H1 => ∃ ls : List (List Int), KeysAre X.K H1 ks ls ∧ ∀ p, H1 p = none → Q (.ref p) (upd H1 p (.lst ((srtK (ls.zip xs)).map (·.2)))))
    (done : ∀ s' H', Inv X pins σ H' s' → Q (.ref a) H' → P (.done (.ret .none)) s') :
    wpAny (model X.prog X.w) X.A.in1.in1 (ksk_tree a (.ref f) false) P E s := by
  have ha : a < s.heap.objs.size := Heap.lt_size na
  have s1 := Heap.SameBut.update s.heap a (Obj.mapSeq fun _ => (#[] : Array Value))
  obtain ⟨e1, ho1⟩ : ∃ e1, (s.heap.update a (Obj.mapSeq fun _ => (#[] : Array Value))).get? a = some (seqObj "list" #[] e1) := ⟨_, get?_update_seq na fun _ => #[]⟩
  have I1 : Inv X pins σ H { s with heap := s.heap.update a (Obj.mapSeq fun _ => (#[] : Array Value)) } := I.turned (t' := s.toks) (it := a) (h' := s.heap.update a (Obj.mapSeq fun _ => (#[] : Array Value))) (fun b o hb e => (s1.2 b hb).trans e) hHa sa.1 sa.2.2.1 sa.2.2.2.1 sa.2.2.2.2
  unfold ksk_tree
  refine wpAny_bind (listItems_at na rfl ?_)
  refine wpAny_bind (listUpdate_at na rfl ?_ (by rw [List.size_toArray]; exact hz) (Nat.zero_le _))
  refine wpAny_bind (seqEpoch_at ho1 rfl ?_)
  have hlt : a < (s.heap.update a (Obj.mapSeq fun _ => (#[] : Array Value))).objs.size := Heap.lt_size ho1
  generalize s.heap.update a (Obj.mapSeq fun _ => (#[] : Array Value)) = hA at I1 ho1 hlt ⊢
  refine wpAny_bind (wpAny_newTuple ?_ (by show vs.length ≤ _; exact hz))
  refine wpAny_bind (wpAny_newList ?_ (Nat.zero_le _))
  refine wpAny_holding ?_
  have I2 : Inv X pins σ H { s with heap := hA.push (seqObj "tuple" vs.toArray 0) } := I1.kept (t' := s.toks) fun b o e => Heap.get?_push_of_some _ e
  have ho2 : (hA.push (seqObj "tuple" vs.toArray 0)).get? a = some (seqObj "list" #[] e1) := Heap.get?_push_of_some _ ho1
  have hl2 : a < (hA.push (seqObj "tuple" vs.toArray 0)).objs.size := Heap.lt_size ho2
  show wpAny _ _ (ksk_rest a (.ref f) false vs.toArray e1 (.ref (hA.push (seqObj "tuple" vs.toArray 0)).objs.size)) _ _ { s with heap := (hA.push (seqObj "tuple" vs.toArray 0)).push (seqObj "list" #[] 0) }
  generalize hA.push (seqObj "tuple" vs.toArray 0) = hB at I2 ho2 hl2 ⊢
  have fk : FpOk X pins H hB.objs.size := I2.fpOk (Nat.le_refl _) (I2.hok.fresh (Nat.le_refl _))
  have I3 : Inv X pins σ H { s with heap := hB.push (seqObj "list" #[] 0) } := I2.kept (t' := s.toks) fun b o e => Heap.get?_push_of_some _ e
  exact ksort_mid KR hW I3 rv hz (Heap.get?_push_size _ rfl) (Heap.get?_push_of_some _ ho2) (Nat.ne_of_gt hl2) fk.1 hHa fk.2 sa h done
theorem sortK_call {f : Addr} {r : V → Hp → VK → Prop} {W : List (Addr × Obj)} (KR : KeyRun X W σ f r) (hW : ∀ p ∈ W, p ∈ pins) {l : Addr} {xs : List V} {Q : VK} (I : Inv X pins σ H s) (hs : SqL X.K H l xs ∨ SqT X.K H l xs)
    (q : keysT r xs H fun ks H1 => ∃ ls : List (List Int), KeysAre X.K H1 ks ls ∧ ∀ p, H1 p = none → Q (.ref p) (upd H1 p (.lst ((srtK (ls.zip xs)).map (·.2))))) :
    wpAny (model X.prog X.w) X.A (call (.builtin "sorted") [.ref l] [(Str.ofString "key", .ref f)]) (EP X pins σ Q) X.xe s := by
  have key : ∀ (its : List Value) (T : String) (o : Obj) (n : Nat), Vals xs its → (T = "list" ∨ T = "tuple") → s.heap.get? l = some o → o.cls = .type T → o.data = .seq its.toArray n → xs.length ≤ sizeLine → wpAny (model X.prog X.w) X.A (call (.builtin "sorted") [.ref l] [(Str.ofString "key", .ref f)]) (EP X pins σ Q) X.xe s := by
    intro its T o n rv hT ho hc hd hz
    have hz' : its.length ≤ sizeLine := by rw [← rv.length]; exact hz
    refine call_function_entry_kw kind_sorted plain_sorted entry_sorted (ksk_s1 _ _) ?_
    unfold Builtin.«sorted»
    refine wpAny_bind (m := checkCount "sorted" 1 1 _) (wpAny_pure ?_)
    refine wpAny_bind (wpAny_collect_seq l hT ho hc hd (fun h' hk => ?_) (by rw [List.size_toArray]; exact hz'))
    have el : its.toArray.toList = its := by simp
    rw [el]
    have I1 : Inv X pins σ H { s with heap := h' } := I.kept (t' := s.toks) hk
    refine wpAny_bind (wpAny_newList ?_ hz')
    have I2 : Inv X pins σ H { s with heap := h'.push (seqObj "list" its.toArray 0) } := I1.kept (t' := s.toks) fun b o e => Heap.get?_push_of_some _ e
    have fa : FpOk X pins H h'.objs.size := I1.fpOk (Nat.le_refl _) (I1.hok.fresh (Nat.le_refl _))
    have hoL : (h'.push (seqObj "list" its.toArray 0)).get? h'.objs.size = some (seqObj "list" its.toArray 0) := Heap.get?_push_size _ rfl
    show wpAny _ _ _ _ _ { s with heap := h'.push (seqObj "list" its.toArray 0) }
    refine wpAny_bind (wpAny_holding (wpAny_call_entry_kw slot_list_sort ⟨_, hoL, rfl⟩ entry_list_sort ?body (ksk_l1 _ _)))
    case body =>
      show wpAny (model X.prog X.w) X.A.in1.in1 (Builtin.«list.sort» ⟨[.ref h'.objs.size], [(Str.ofString "key", .ref f)]⟩) _ _ _
      rw [ksk_t1]
      refine ksort_tree (s := { s with heap := h'.push (seqObj "list" its.toArray 0) }) KR hW I2 rv hz' hoL fa.1 fa.2 q fun s' H' I' q' => ⟨_, rfl, ?_⟩
      exact wpAny_pure ⟨_, rfl, .ref h'.objs.size, H', I', rfl, q'⟩
  rcases hs with hs | hs
  · obtain ⟨its, rv, hl, hz⟩ := I.list hs
    obtain ⟨o, ho, hc, n, hd⟩ := hl.isList
    exact key its "list" o n rv (.inl rfl) ho hc hd hz
  · obtain ⟨its, rv, ⟨o, ho, hc, n, hd⟩, hz⟩ := I.tuple hs
    exact key its "tuple" o n rv (.inr rfl) ho hc hd hz
theorem cr_sortK {f : Addr} {r : V → Hp → VK → Prop} (KR : ∀ σ, KeyRun X [] σ f r) : CallRK X (.builtin "sorted") [Str.ofString "key"] (rSortK X.K f r) := by
  intro pins s σ H vs zs us ws Q I rv0 rz h
  obtain ⟨l, xs, rfl, rfl, hs, q⟩ := h
  obtain rfl := Vals.ref1 rv0
  obtain ⟨w1, rfl, ew⟩ := vals1 rz
  obtain rfl : w1 = Value.ref f := ew
  exact sortK_call (KR σ) (fun p hp => by simp at hp) I hs q
end

/-! ### the stable sort of data -/
def srtA {α : Type} (kf : α → List Int) (as : List α) : List α := (srtK (as.map fun a => (kf a, a))).map (·.2)
section
variable {α β : Type} {R : α → β → Prop}
abbrev RK_ (R : α → β → Prop) : List (List Int × α) → List (List Int × β) → Prop := Paired fun p q => p.1 = q.1 ∧ R p.2 q.2
theorem insK_rel {p : List Int × α} {q : List Int × β} (h : p.1 = q.1 ∧ R p.2 q.2) : ∀ {l : List (List Int × α)} {m : List (List Int × β)}, RK_ R l m → RK_ R (insK p l) (insK q m)
  | _, _, .nil => .cons h .nil
  | _, _, .cons (a := a) (b := b) r t => by
    have e : ltK p a = ltK q b := by unfold ltK; rw [h.1, r.1]
    unfold insK
    by_cases z : ltK q b = true
    · rw [if_pos z, if_pos (by rw [e]; exact z)]
      exact .cons h (.cons r t)
    · rw [if_neg z, if_neg (by rw [e]; exact z)]
      exact .cons r (insK_rel h t)
theorem srtK_relG : ∀ {l : List (List Int × α)} {m : List (List Int × β)} {a : List (List Int × α)} {b : List (List Int × β)}, RK_ R l m → RK_ R a b → RK_ R (l.foldl (fun acc y => insK y acc) a) (m.foldl (fun acc y => insK y acc) b)
  | _, _, _, _, .nil, h => h
  | _, _, _, _, .cons r t, h => by
    simp only [List.foldl_cons]
    exact srtK_relG t (insK_rel r h)
theorem srtK_rel {l : List (List Int × α)} {m : List (List Int × β)} (h : RK_ R l m) : RK_ R (srtK l) (srtK m) := srtK_relG h .nil
end
theorem rpAll_of {K : PySem.W.Frag} {G : Hp} {α : Type} {Da : α → Dt} : ∀ {l : List (List Int × V)} {m : List (List Int × α)}, RK_ (fun v a => Rp K G v (Da a)) l m → RpAll K G (l.map (·.2)) ((m.map (·.2)).map Da)
  | _, _, .nil => .nil
  | _, _, .cons r t => .cons r.2 (rpAll_of t)
theorem rk_of {K : PySem.W.Frag} {G : Hp} {α : Type} {Da : α → Dt} {kf : α → List Int} : ∀ {as : List α} {xs : List V}, RpAll K G xs (as.map Da) → RK_ (fun v a => Rp K G v (Da a)) ((as.map kf).zip xs) (as.map fun a => (kf a, a))
  | [], _, h => by cases h; exact .nil
  | a :: as, _, h => by
    cases h with
    | cons h1 h2 => exact .cons ⟨rfl, h1⟩ (rk_of h2)
section
variable {K : PySem.W.Frag} {G0 H0 G H : Hp} {D : List Addr} {M : List (Addr × HO)} {α : Type} {Da : α → Dt} {kf : α → List Int} {r : V → Hp → VK → Prop} {kd : List Int → Dt}
/-- what a key function does to the items' data -/
def KeyDo (K : PySem.W.Frag) (Da : α → Dt) (kf : α → List Int) (kd : List Int → Dt) (r : V → Hp → VK → Prop) : Prop := ∀ (x : V) (a : α) (G0 H0 G H : Hp) (D : List Addr) (M : List (Addr × HO)) (Q : VK), Sta K G0 H0 D G M H → Rp K G x (Da a) →
  (∀ k G1 H1, Same G G1 → Sta K G0 H0 D G1 M H1 → Rp K G1 k (kd (kf a)) → Q k H1) → r x H Q
theorem keysT_go (hd : KeyDo K Da kf kd r) : ∀ (as : List α) (xs : List V) (G H : Hp) (Q : List V → Hp → Prop), Sta K G0 H0 D G M H → RpAll K G xs (as.map Da) →
    (∀ ks G1 H1, Same G G1 → Sta K G0 H0 D G1 M H1 → RpAll K G1 ks (as.map fun a => kd (kf a)) → Q ks H1) → keysT r xs H Q
  | [], xs, G, H, Q, hS, hx, q => by
    cases hx
    exact q [] G H (Same.refl G) hS .nil
  | a :: as, _, G, H, Q, hS, hx, q => by
    cases hx with
    | cons h1 h2 =>
      refine hd _ a G0 H0 G H D M _ hS h1 fun k G1 H1 e1 hS1 hk => ?_
      refine keysT_go hd as _ G1 H1 _ hS1 (h2.up e1) fun ks G2 H2 e2 hS2 hks => ?_
      exact q _ G2 H2 (e1.trans e2) hS2 (.cons (hk.up e2) hks)
theorem keysT_t {K : PySem.W.Frag} {G H : Hp} (e : Same G H) : ∀ {as : List α} {ks : List V}, (∀ a ∈ as, kf a ≠ []) → RpAll K G ks (as.map fun a => .tup ((kf a).map .int)) → Paired (KeyT K H) ks (as.map kf)
  | [], _, _, h => by cases h; exact .nil
  | a :: as, _, hn, h => by
    cases h with
    | cons h1 h2 =>
      obtain ⟨p, xs, rfl, hs, hr⟩ := Rp.tup_inv h1
      rw [hr.ints_inv] at hs
      exact .cons ⟨p, rfl, Same.t e hs, hn a List.mem_cons_self⟩ (keysT_t e (fun b hb => hn b (List.mem_cons_of_mem _ hb)) h2)
theorem keysT_i {kv : α → Int} : ∀ {as : List α} {ks : List V}, (∀ a ∈ as, kf a = [kv a]) → RpAll K G ks (as.map fun a => .int (kv a)) → Paired KeyI ks (as.map kf)
  | [], _, _, h => by cases h; exact .nil
  | a :: as, _, hn, h => by
    cases h with
    | cons h1 h2 =>
      cases Rp.int_inv h1
      exact .cons ⟨_, rfl, hn a List.mem_cons_self⟩ (keysT_i (fun b hb => hn b (List.mem_cons_of_mem _ hb)) h2)
/-- sorted(xs, key=f): a new list, which may change -/
theorem go_sortK {f : Addr} {as : List α} {x : V} {Q : VK} {kd : List Int → Dt} (hd : KeyDo K Da kf kd r) (hk : ∀ ks G1 H1, Same G1 H1 → RpAll K G1 ks (as.map fun a => kd (kf a)) → KeysAre K H1 ks (as.map kf)) (hS : Sta K G0 H0 D G M H) (hx : Rp K G x (.lst (as.map Da)) ∨ Rp K G x (.tup (as.map Da)))
    (q : ∀ p vs G1 H1, H0 p = none → G p = none → Same G G1 → Sta K G0 H0 D G1 ((p, .lst vs) :: M) H1 → RpAll K G1 vs ((srtA kf as).map Da) → Q (.ref p) H1) : rSortK K f r [x] [.ref f] H Q := by
  obtain ⟨a, xs, rfl, hs, ha⟩ : ∃ a xs, x = .ref a ∧ (SqL K H a xs ∨ SqT K H a xs) ∧ RpAll K G xs (as.map Da) := by
    rcases hx with hx | hx
    · obtain ⟨a, xs, rfl, hs, ha⟩ := Rp.lst_inv hx
      exact ⟨a, xs, rfl, .inl (hS.gh.seq hs), ha⟩
    · obtain ⟨a, xs, rfl, hs, ha⟩ := Rp.tup_inv hx
      exact ⟨a, xs, rfl, .inr (Same.t hS.gh hs), ha⟩
  refine ⟨a, xs, rfl, rfl, hs, ?_⟩
  refine keysT_go hd as xs G H _ hS ha fun ks G1 H1 e1 hS1 hks => ?_
  refine ⟨as.map kf, hk ks G1 H1 hS1.gh hks, fun p hp => ?_⟩
  have hg : G p = none := by
    cases e : G p with
    | none => rfl
    | some o =>
      have := hS1.gh _ _ (e1 _ _ e)
      rw [hp] at this
      cases this
  exact q p _ G1 _ (hS1.h0 hp) hg e1 (hS1.mut hp _) (rpAll_of (srtK_rel (rk_of (ha.up e1))))
end
/-! ### lists that are known as they are: slices, sums -/
section
variable {K : PySem.W.Frag} {G0 H0 G H : Hp} {D : List Addr} {M : List (Addr × HO)} {Q : VK}
theorem go_cat_ {l b : Addr} {xs zs : List V} (hS : Sta K G0 H0 D G M H) (hx : G l = some (.lst xs)) (hz : G b = some (.lst zs)) (hl : xs.length + zs.length ≤ 100000) (k : ∀ p G1 H1, Same G G1 → Sta K G0 H0 D G1 M H1 → G1 p = some (.lst (xs ++ zs)) → Q (.ref p) H1) : rCat (.ref l) (.ref b) H Q :=
  ⟨l, b, xs, zs, rfl, rfl, hS.gh _ _ hx, hS.gh _ _ hz, sz hl, fun p hp => k p _ _ (same_upd (hS.gn hp)) (hS.imm hp _) upd_same⟩
theorem go_newR {xs : List V} (hS : Sta K G0 H0 D G M H) (hl : xs.length ≤ 100000) (k : ∀ p G1 H1, Same G G1 → Sta K G0 H0 D G1 M H1 → G1 p = some (.lst xs) → Q (.ref p) H1) : NL Q xs H :=
  ⟨sz hl, fun p hp => k p (upd G p (.lst xs)) _ (same_upd (hS.gn hp)) (hS.imm hp _) upd_same⟩
theorem go_slL {xs : List V} {a : Addr} {lo hi : Option Int} (hS : Sta K G0 H0 D G M H) (hx : SqL K G a xs) (k : ∀ p G1 H1, Same G G1 → Sta K G0 H0 D G1 M H1 → G1 p = some (.lst (cutV xs lo hi)) → Q (.ref p) H1) : rSlL K (.ref a) lo hi H Q :=
  ⟨a, xs, rfl, hS.gh.seq hx, fun p hp => k p _ _ (same_upd (hS.gn hp)) (hS.imm hp _) upd_same⟩
theorem raw_l {p : Addr} {xs : List V} {ds : List Dt} (h : G p = some (.lst xs)) (r : RpAll K G xs ds) : Rp K G (.ref p) (.lst ds) := .lst (.inl (.inl h)) r
/-- t <= u of tuples of three ints -/
theorem le3 (a b c d e f : Int) : Ob.lexAt (fun j => decide (([a, b, c] : List Int).getD j 0 = ([d, e, f] : List Int).getD j 0)) (fun j => decide (([a, b, c] : List Int).getD j 0 ≤ ([d, e, f] : List Int).getD j 0)) (decide (([a, b, c] : List Int).length ≤ ([d, e, f] : List Int).length)) 0 (min ([a, b, c] : List Int).length ([d, e, f] : List Int).length) = !HT.lexLt [d, e, f] [a, b, c] := by
  show Ob.lexAt _ _ _ 0 3 = _
  simp only [Ob.lexAt, List.getD_cons_zero, List.getD_cons_succ, HT.lexLt_cons, HT.lexLt_nil_nil, List.length_cons, List.length_nil, decide_eq_true_eq]
  by_cases h1 : a = d
  · by_cases h2 : b = e
    · by_cases h3 : c = f
      · simp [h1, h2, h3]
      · have h3' : ¬ f = c := fun z => h3 z.symm
        simp only [h1, h2, h3, h3', if_true, if_false]
        rw [Bool.eq_iff_iff]
        simp
    · have h2' : ¬ e = b := fun z => h2 z.symm
      simp only [h1, h2, h2', if_true, if_false]
      rw [Bool.eq_iff_iff]
      simp
  · have h1' : ¬ d = a := fun z => h1 z.symm
    simp only [h1, h1', if_false]
    rw [Bool.eq_iff_iff]
    simp
theorem go_leT {x y : V} {ns ms : List Int} {b : Bool} (hx : Rp K G x (.tup (ns.map .int))) (hy : Rp K G y (.tup (ms.map .int))) (e : Same G H)
    (hb : Ob.lexAt (fun j => decide (ns.getD j 0 = ms.getD j 0)) (fun j => decide (ns.getD j 0 ≤ ms.getD j 0)) (decide (ns.length ≤ ms.length)) 0 (min ns.length ms.length) = b) (k : Q (.bl b) H) : rLeT K x y H Q := by
  obtain ⟨a, xs, rfl, hs, ha⟩ := Rp.tup_inv hx
  obtain ⟨c, ys, rfl, hs', ha'⟩ := Rp.tup_inv hy
  rw [ha.ints_inv] at hs
  rw [ha'.ints_inv] at hs'
  exact ⟨a, c, ns, ms, rfl, rfl, Same.t e hs, Same.t e hs', by rw [hb]; exact k⟩
end
/-! ### the place of an item in a sorted list -/
theorem insK_take {α : Type} (y : List Int × α) (l : List (List Int × α)) (h : Srtd ltK l) : insK y l = l.take (l.countP fun o => !ltK y o) ++ y :: l.drop (l.countP fun o => !ltK y o) := by
  obtain ⟨M, N, e1, e2, e3, e4⟩ := insK_split y l h
  have hc : l.countP (fun o => !ltK y o) = M.length := by
    rw [e1, List.countP_append]
    have h1 : M.countP (fun o => !ltK y o) = M.length := List.countP_eq_length.mpr fun x hx => by simp [e3 x hx]
    have h2 : N.countP (fun o => !ltK y o) = 0 := List.countP_eq_zero.mpr fun x hx => by simp [e4 x hx]
    omega
  rw [hc, e2, e1, List.take_left, List.drop_left]
theorem srtK_snoc {α : Type} (l : List (List Int × α)) (y : List Int × α) : srtK (l ++ [y]) = insK y (srtK l) := by simp [srtK]
theorem countP_sndG {α : Type} (kf : α → List Int) (b : α) : ∀ (l : List (List Int × α)), (∀ p ∈ l, p.1 = kf p.2) → (l.map (·.2)).countP (fun o => !HT.lexLt (kf b) (kf o)) = l.countP (fun p => !ltK (kf b, b) p)
  | [], _ => rfl
  | p :: l, hp => by
    have h1 : p.1 = kf p.2 := hp p List.mem_cons_self
    have e : ltK (kf b, b) p = HT.lexLt (kf b) (kf p.2) := by rw [← h1]; rfl
    rw [List.map_cons, List.countP_cons, List.countP_cons, countP_sndG kf b l fun q hq => hp q (List.mem_cons_of_mem _ hq), e]
theorem countP_snd {α : Type} (kf : α → List Int) (b : α) (as : List α) : (srtA kf as).countP (fun o => !HT.lexLt (kf b) (kf o)) = (srtK (as.map fun a => (kf a, a))).countP (fun p => !ltK (kf b, b) p) := by
  refine countP_sndG kf b _ fun p hp => ?_
  have := (srtK_perm (as.map fun a => (kf a, a))).mem_iff.mp hp
  obtain ⟨a, _, rfl⟩ := List.mem_map.mp this
  rfl
theorem srtA_snoc {α : Type} (kf : α → List Int) (as : List α) (b : α) : srtA kf (as ++ [b]) = (srtA kf as).take ((srtA kf as).countP fun o => !HT.lexLt (kf b) (kf o)) ++ b :: (srtA kf as).drop ((srtA kf as).countP fun o => !HT.lexLt (kf b) (kf o)) := by
  rw [countP_snd]
  unfold srtA
  rw [List.map_append, List.map_cons, List.map_nil, srtK_snoc, insK_take _ _ (srtK_ok _).1, List.map_append, List.map_cons, List.map_take, List.map_drop]
theorem srtA_perm {α : Type} (kf : α → List Int) (as : List α) : (srtA kf as).Perm as := by
  have := (srtK_perm (as.map fun a => (kf a, a))).map (·.2)
  rw [List.map_map] at this
  have e : as.map ((fun p : List Int × α => p.2) ∘ fun a => (kf a, a)) = as := by
    conv => rhs; rw [← List.map_id as]
    rfl
  rw [e] at this
  exact this
theorem srtA_len {α : Type} (kf : α → List Int) (as : List α) : (srtA kf as).length = as.length := (srtA_perm kf as).length_eq
/-- a list that may change, read by a callee as one that does not -/
theorem Sta.lend {K : PySem.W.Frag} {G0 H0 G H : Hp} {D : List Addr} {M : List (Addr × HO)} {p : Addr} {o : HO} (h : Sta K G0 H0 D G ((p, o) :: M) H) :
    Same G (upd G p o) ∧ Same (upd G p o) H ∧ ∀ G1 H1, Adv [] (upd G p o) H G1 H1 → ∃ G2, Same G G2 ∧ Sta K G0 H0 D G2 ((p, o) :: M) H1 ∧ ∀ a, a ≠ p → G2 a = G1 a := by
  have hm := h.mh _ List.mem_cons_self
  have hmn : ∀ q ∈ M, q.1 ≠ p := fun q hq e => by
    have := h.md
    simp only [List.map_cons, List.nodup_cons] at this
    exact this.1 (List.mem_map.mpr ⟨q, hq, e⟩)
  have sgh : Same (upd G p o) H := fun b x e => by
    by_cases hb : b = p
    · subst hb
      rw [upd_same] at e
      cases e
      exact hm.1
    · rw [upd_ne hb] at e
      exact h.gh _ _ e
  refine ⟨same_upd hm.2.1, sgh, fun G1 H1 ad => ?_⟩
  let G2 : Hp := fun a => if a = p then none else G1 a
  have g2p : G2 p = none := by show (if p = p then none else G1 p) = none; rw [if_pos rfl]
  have g2n : ∀ a, a ≠ p → G2 a = G1 a := fun a ha => by show (if a = p then none else G1 a) = G1 a; rw [if_neg ha]
  have e12 : Same G G2 := fun b x e => by
    have hb : b ≠ p := fun z => by subst z; rw [hm.2.1] at e; cases e
    rw [g2n b hb]
    exact ad.gg b x (by rw [upd_ne hb]; exact e)
  have e2h : Same G2 H1 := fun b x e => by
    by_cases hb : b = p
    · subst hb; rw [g2p] at e; cases e
    · rw [g2n b hb] at e
      exact ad.gh _ _ e
  refine ⟨G2, e12, ⟨h.g0.trans e12, e2h, fun a ha => ?_, fun a u ha hd => ad.kp a u (h.kp a u ha hd) (by simp), fun a ha => ad.up a (h.up a ha), h.md, fun q hq => ?_⟩, g2n⟩
  · by_cases hb : a = p
    · subst hb
      rw [g2p, ← h.fr a ha, hm.2.1]
    · rw [g2n a hb, ad.fr a (h.up a ha), upd_ne hb]
      exact h.fr a ha
  · obtain ⟨e1, e2, e3⟩ := h.mh q hq
    refine ⟨ad.kp _ _ e1 (by simp), ?_, e3⟩
    by_cases hb : q.1 = p
    · rw [hb]; exact g2p
    · rw [g2n _ hb, ad.fr _ (by rw [e1]; exact fun z => nomatch z), upd_ne hb]
      exact e2
/-! ### more steps -/
def PTK (Q : Option Int → Hp → Prop) (x : V) (H : Hp) : Prop := ∃ i, x = .int i ∧ Q (some i) H
def OTK (K : PySem.W.Frag) (Q : VK) (B : Hp → Prop) (x : V) (H : Hp) : Prop := ∃ k, TruV K x H k ∧ if k = true then Q x H else B H
section
variable {K : PySem.W.Frag} {G H : Hp} {σ σ2 : L2.St} {Q : VK} {ta tb te : TE} {vss : List Nat} {A : Prop} {B : Hp → Prop} {i : Int} {x : V}
theorem go_wipe (e : wipe σ2 vss = wipe σ vss) (h : A) : wipe σ2 vss = wipe σ vss ∧ A := ⟨e, h⟩
theorem go_sl {r : V → Option Int → Option Int → Hp → VK → Prop} {tl th : TO} (h : te σ H fun x H1 => tl σ H1 fun l H2 => th σ H2 fun u H3 => r x l u H3 Q) : tSl r te tl th σ H Q := h
theorem go_noPart {Q : Option Int → Hp → Prop} (h : Q none H) : tNoPart σ H Q := h
theorem go_part {Q : Option Int → Hp → Prop} (h : te σ H fun x H1 => PTK Q x H1) : tPart te σ H Q := h
theorem go_ptk {Q : Option Int → Hp → Prop} (h : Q (some i) H) : PTK Q (.int i) H := ⟨i, rfl, h⟩
theorem go_orT (h : ta σ H fun x H1 => OTK K Q (fun H2 => tb σ H2 Q) x H1) : tOrT K ta tb σ H Q := h
theorem go_ckw {r : List V → List V → Hp → VK → Prop} {t tk : TA} (h : t σ H fun vs H1 => tk σ H1 fun zs H2 => r vs zs H2 Q) : tCKw r t tk σ H Q := h
theorem go_otk_non (h : B H) : OTK K Q B .non H := ⟨false, rfl, by rw [if_neg (by decide)]; exact h⟩
theorem go_otk_int (h1 : i ≠ 0 → Q (.int i) H) (h2 : i = 0 → B H) : OTK K Q B (.int i) H := by
  refine ⟨i != 0, rfl, ?_⟩
  by_cases e : i = 0
  · rw [if_neg (by simp [e])]; exact h2 e
  · rw [if_pos (by simp [e])]; exact h1 e
end
theorem cut_hi (xs : List V) (n : Nat) : cutV xs none (some (n : Int)) = xs.take n := by
  unfold cutV
  rw [HT.sIx_none, HT.sIx_nat, List.drop_zero, Nat.sub_zero]
  by_cases h : n ≤ xs.length
  · rw [Nat.min_eq_left h]
  · rw [Nat.min_eq_right (by omega), List.take_of_length_le (by omega), List.take_of_length_le (by omega)]
theorem cut_lo (xs : List V) (n : Nat) : cutV xs (some (n : Int)) none = xs.drop n := by
  unfold cutV
  rw [HT.sIx_none, HT.sIx_nat]
  by_cases h : n ≤ xs.length
  · rw [Nat.min_eq_left h, List.take_of_length_le (by rw [List.length_drop]; omega)]
  · rw [Nat.min_eq_right (by omega), List.drop_of_length_le (Nat.le_refl _), List.drop_of_length_le (by omega), List.take_nil]
theorem okD_bar (b : Bar) (n : Nat) : okD (n + 2) (barD b) = true := by
  obtain ⟨x, o⟩ := b
  cases o <;> simp [barD, optD, okD]
theorem okD_bars (bs : List Bar) (h : bs.length ≤ 100000) : okD 5 (.lst (bs.map barD)) = true := by
  simp only [okD, List.length_map, h, decide_true, Bool.true_and, List.all_eq_true]
  intro d hd
  obtain ⟨b, _, rfl⟩ := List.mem_map.mp hd
  exact okD_bar b 2
theorem okE_bar (b : Bar) (n : Nat) : okE (n + 2) (barD b) = true := by
  obtain ⟨x, o⟩ := b
  cases o <;> simp [barD, optD, okE]
theorem okE_bars (bs : List Bar) (h : bs.length ≤ 100000) : okE 5 (.lst (bs.map barD)) = true := by
  simp only [okE, List.length_map, h, decide_true, Bool.true_and, List.all_eq_true]
  intro d hd
  obtain ⟨b, _, rfl⟩ := List.mem_map.mp hd
  exact okE_bar b 2
theorem go_sameLend {K : PySem.W.Frag} {G0 H0 G H : Hp} {D : List Addr} {M : List (Addr × HO)} {p : Addr} {xs : List V} {ds : List Dt} (h : Sta K G0 H0 D G ((p, .lst xs) :: M) H) (hx : RpAll K G xs ds) :
    ∃ G', Same G G' ∧ Same G' H ∧ Rp K G' (.ref p) (.lst ds) ∧ ∀ G1 H1, Adv [] G' H G1 H1 → ∃ G2, Same G G2 ∧ Sta K G0 H0 D G2 ((p, .lst xs) :: M) H1 := by
  obtain ⟨e1, e2, l⟩ := h.lend
  exact ⟨_, e1, e2, .lst (.inl (.inl upd_same)) (hx.up e1), fun G1 H1 ad => by
    obtain ⟨G2, a, b, _⟩ := l G1 H1 ad
    exact ⟨G2, a, b⟩⟩
theorem atI_get {α : Type} {xs : List α} {n : Nat} {v : Int} (hl : xs.length = n) (h0 : 0 ≤ v) (h1 : v < n) : ∃ x, L2.atI xs v = some x ∧ xs[v.toNat]? = some x := by
  have hk : v.toNat < xs.length := by omega
  refine ⟨xs[v.toNat], ?_, List.getElem?_eq_getElem hk⟩
  have := atI_nat (j := v.toNat) (List.getElem?_eq_getElem hk)
  rw [Int.toNat_of_nonneg h0] at this
  exact this
theorem ixN_nat {n : Nat} {i : Nat} (h : i < n) : ixN n (i : Int) = some i := by
  unfold ixN
  rw [if_pos (Int.natCast_nonneg i), if_pos (by omega), Int.toNat_natCast]
end B
namespace B
open PySem PySem.Spec PyProof.Rows L2 RZ

/-! ### what a callee may let out -/
theorem passN {X : Cx} (σ : L2.St) : PassesAt (L2.CX X.prog X.w) X σ (fun _ _ _ => False) := fun pins H s e s' I h => passL (X := X) pins σ H s e s' I h
/-- how a call o.m(args) runs -/
abbrev MCall (X : Cx) (ob : Expr) (m : Str) (apos pos : Pos) (args : List Expr) (pl : Sem Bool) : Prop :=
  eval (.Call (.Attribute ob m apos) args [] pos) X.env = (do let ov ← eval ob X.env; standAt apos.atName; let (f, first) ← holding [ov] (getMethod ov m pl); callWith pos f first (backTo pos (starEach args X.env)) (backToKw pos (keywordEach [] X.env)))
abbrev PlainA (X : Cx) (pos : Pos) (e : Expr) (es : List Expr) : Prop := starEach (e :: es) X.env = (false, eval e X.env) :: starEach es X.env ∧ (backTo pos (starEach es X.env)).any (·.1) = false
/-! ### a static method off its class -/
structure Stat (K : PySem.W.Frag) (C : Addr) (m : Str) (g : Addr) : Prop where
  ex : ∃ (mc : Value) (p : Addr) (rest : List Value), PySem.W.readsIn K C mc = true ∧ PySem.W.specialIn K (.ref C) "__getattribute__" = some (some (.builtin "type.__getattribute__")) ∧
    PySem.W.findCls K (.ref C) mc m = some (.get (.builtin "staticmethod.__get__") (.ref p) .none (.ref C)) ∧ PySem.W.recIn K p "staticmethod" = some (.ref g :: rest)
  hv : PySem.W.handedIn (.ref g) = true
  kp : PySem.W.keepIn K (.ref g) = true
section
variable {X : Cx} {CX : CXT} {k : Nat} {C g f a b : Addr} {fd : FuncData} {ps : List Str} {sp : Sp} {E : L2.St → XK} {o e : Expr} {es : List Expr} {x m : Str} {p pos apos : Pos} {ta tb : TE} {t : TA} {pl : Sem Bool}
theorem stat_get {pins : List (Addr × Obj)} {σ : L2.St} {H : Hp} {s : Shared} {A : Around} {E : Value → Shared → Prop} {Q : Value × List Value → Shared → Prop} (I : Inv X pins σ H s) (S : Stat X.K C m g)
    (h : ∀ s', Inv X pins σ H s' → Q (.ref g, []) s') : wpAny (model X.prog X.w) A (getMethod (.ref C) m pl) Q E s := by
  obtain ⟨mc, p, rest, h1, h2, h3, h4⟩ := S.ex
  refine PySem.W.method_cls I.kIn h2 ?_
  refine PySem.W.cls_bind I.kIn h1 h3 (wpAny_call ?_)
  have J := I.tok (s.toks + 1)
  exact PySem.W.sm_get (s := { s with toks := s.toks + 1 }) J.kIn h4 (PySem.W.handed_on S.hv (h _ J))
def tStat (C : Addr) (sp : Sp) (E : L2.St → XK) (ta : TE) (t : TA) : TE := fun σ H Q => ta σ H fun x H1 => x = .ref C ∧ t σ H1 fun vs H2 => sp vs H2 Q (E σ)
theorem pe_stat (he : PE X o ta) (S : Stat X.K C m g) (F : FnOk X.prog X.w X.K X.mg X.base CX k g fd ps sp) (hr : Room k X.A) (hb : Binds X.K fd ps []) (hx : ∀ σ, PassesAt CX X σ (E σ)) (ha : PA X (e :: es) t)
    (hst : PlainA X pos e es := by exact ⟨rfl, rfl⟩) (ht : MCall X o m apos pos (e :: es) pl := by rfl) :
    PE X (.Call (.Attribute o m apos) (e :: es) [] pos) (tStat C sp E ta t) := by
  refine ⟨fun pins s σ H Q I h => ?_⟩
  refine PySem.W.methodCall_KW (pl := pl) (thn (he.run pins s σ H _ I h) fun u s1 hu => ?_) ht
  obtain ⟨xv, H1, I1, rx, ex, q⟩ := hu
  subst ex
  obtain rfl : u = Value.ref C := rx
  refine stat_get I1 S fun s2 I2 => ?_
  refine PySem.W.callWith_K (h₀ := X.base) I.ok.mod.kin S.kp (thn (ha.run pos pins s2 σ H1 _ I2 q) fun us s3 hu => ?_) hst.1 hst.2
  obtain ⟨vs, H2, I3, rv, q2⟩ := hu
  exact ⟨I3.kIn, run_fnS F hr hb (hx σ) I3 rv q2⟩
/-! ### o.m(..), C(..) where what is raised is wished for at the caller's slots -/
def tMetS (C : Addr) (m : Str) (sp : Sp) (E : L2.St → XK) (ta : TE) (t : TA) : TE := fun σ H Q => ta σ H fun x H1 => ∃ a dx fs, x = .ref a ∧ H1 a = some (.ins C dx fs) ∧ fs.lookup m = none ∧ t σ H1 fun vs H2 => sp (x :: vs) H2 Q (E σ)
theorem pe_methS (he : PE X o ta) (c : Cls X.K C) (hm : Meth X.K C m f) (F : FnOk X.prog X.w X.K X.mg X.base CX k f fd ps sp) (hr : Room k X.A) (hb : Binds X.K fd ps []) (hx : ∀ σ, PassesAt CX X σ (E σ)) (ha : PA X (e :: es) t)
    (hst : PlainA X pos e es := by exact ⟨rfl, rfl⟩) (ht : MCall X o m apos pos (e :: es) pl := by rfl) :
    PE X (.Call (.Attribute o m apos) (e :: es) [] pos) (tMetS C m sp E ta t) := by
  refine ⟨fun pins s σ H Q I h => ?_⟩
  refine PySem.W.methodCall_KW (pl := pl) (thn (he.run pins s σ H _ I h) fun u s1 hu => ?_) ht
  obtain ⟨xv, H1, I1, rx, a, dx, fs, ex, ea, l, q⟩ := hu
  subst ex
  obtain rfl : u = Value.ref a := rx
  refine getmeth_ok I1 ea c hm l ?_
  refine PySem.W.callWith_K (first := [.ref a]) (h₀ := X.base) I.ok.mod.kin hm.kp (thn (ha.run pos pins s1 σ H1 _ I1 q) fun us s2 hu => ?_) hst.1 hst.2
  obtain ⟨vs, H2, I2, r, q2⟩ := hu
  exact ⟨I2.kIn, run_fnS (us := .ref a :: us) (vs := .ref a :: vs) F hr hb (hx σ) I2 (.cons rfl r) q2⟩
theorem pe_methS0 (he : PE X o ta) (c : Cls X.K C) (hm : Meth X.K C m f) (F : FnOk X.prog X.w X.K X.mg X.base CX k f fd ps sp) (hr : Room k X.A) (hb : Binds X.K fd ps []) (hx : ∀ σ, PassesAt CX X σ (E σ))
    (ht : MCall X o m apos pos [] pl := by rfl) :
    PE X (.Call (.Attribute o m apos) [] [] pos) (tMetS C m sp E ta tNil) := by
  refine ⟨fun pins s σ H Q I h => ?_⟩
  refine PySem.W.methodCall_KW (pl := pl) (thn (he.run pins s σ H _ I h) fun u s1 hu => ?_) ht
  obtain ⟨xv, H1, I1, rx, a, dx, fs, ex, ea, l, q⟩ := hu
  subst ex
  obtain rfl : u = Value.ref a := rx
  refine getmeth_ok I1 ea c hm l ?_
  exact PySem.W.callWith_K0 (first := [.ref a]) I1.kIn hm.kp (run_fnS (us := [.ref a]) (vs := [.ref a]) F hr hb (hx σ) I1 (.cons rfl .nil) q)
def tMakeS (C : Addr) (sp : Sp) (E : L2.St → XK) (t : TA) : TE := fun σ H Q => t σ H fun vs H1 => ∀ x dx, H1 x = none → H1 dx = none → dx ≠ x → sp (.ref x :: vs) (upd (upd H1 dx (.own x)) x (.ins C dx [])) (fun v H2 => v = .non ∧ Q (.ref x) H2) (E σ)
theorem run_makeS {pins : List (Addr × Obj)} {σ : L2.St} {H : Hp} {s : Shared} {Q : VK} {us : List Value} {vs : List V} (M : Mk X.K C f) (F : FnOk X.prog X.w X.K X.mg X.base CX k f fd ps sp) (hr : Room (k + 1) X.A) (hb : Binds X.K fd ps [])
    (hx : PassesAt CX X σ (E σ)) (I : Inv X pins σ H s) (r : Vals vs us)
    (h : ∀ x dx, H x = none → H dx = none → dx ≠ x → sp (.ref x :: vs) (upd (upd H dx (.own x)) x (.ins C dx [])) (fun v H2 => v = .non ∧ Q (.ref x) H2) (E σ)) :
    wpAny (model X.prog X.w) X.A (call (.ref C) us) (EP X pins σ Q) X.xe s := by
  have hq := h _ _ (I.hok.fresh (Nat.le_succ s.heap.objs.size)) (I.hok.fresh (Nat.le_refl s.heap.objs.size)) (Nat.ne_of_lt (Nat.lt_succ_self s.heap.objs.size))
  have J := Inv.made (C := C) I
  have rr : Vals (V.ref (s.heap.objs.size + 1) :: vs) (Value.ref (s.heap.objs.size + 1) :: us) := .cons rfl r
  have hl : ((Value.ref (s.heap.objs.size + 1) :: us) ++ []).length = ps.length := by
    rw [List.append_nil, ← rr.length]
    exact F.len _ _ _ _ hq
  have rb := hb _ (Value.ref (s.heap.objs.size + 1) :: us) J.kIn hl
  rw [List.append_nil] at rb
  refine wpAny_call (make_map (f := f) I.kIn M.makes M.init (beq_iff_eq.mp M.fn) (codeAny_mono (F.run _ X.stack _ _ ⟨Value.ref (s.heap.objs.size + 1) :: us, []⟩ (Value.ref (s.heap.objs.size + 1) :: us) _ _ (E σ) (hr.make C us [])
    (J.env0.make C us []) rb rr hq) fun r s' hq' => ?_))
  cases r with
  | error e => exact hx pins _ _ e s' J hq'
  | ok fl =>
    cases fl with
    | ret u =>
      obtain ⟨v, H', J', rv, ev, q3⟩ := J.after hq'
      subst ev
      exact ⟨rv, V.ref (s.heap.objs.size + 1), H', J', rfl, q3⟩
    | next => exact False.elim hq'
    | brk => exact False.elim hq'
    | cont => exact False.elim hq'
theorem pe_makeS (M : Mk X.K C f) (F : FnOk X.prog X.w X.K X.mg X.base CX k f fd ps sp) (hr : Room (k + 1) X.A) (hg : Gl X x) (hm : X.mg x = some (.ref C)) (hb : Binds X.K fd ps []) (hx : ∀ σ, PassesAt CX X σ (E σ))
    (ha : PA X (e :: es) t) (hdb : (x == ("__debug__" : Str)) = false := by decide) (hst : PlainA X pos e es := by exact ⟨rfl, rfl⟩) :
    PE X (.Call (.Name x p) (e :: es) [] pos) (tMakeS C sp E t) := by
  refine ⟨fun pins s σ H Q I h => ?_⟩
  refine wpAny_Call_Name_kw (ld_glob I hg hm ?_ hdb)
  refine PySem.W.callWith_K (h₀ := X.base) I.ok.mod.kin M.kp (thn (ha.run pos pins s σ H _ I h) fun us s1 hu => ?_) hst.1 hst.2
  obtain ⟨vs, H1, I1, r, q⟩ := hu
  exact ⟨I1.kIn, run_makeS M F hr hb (hx σ) I1 r q⟩
/-! ### a op b by the class's own method -/
structure OwnOp (K : PySem.W.Frag) (C : Addr) (op : Operator) (f : Addr) : Prop where
  at_ : PySem.W.findIn K (.ref C) (PySem.dunder op.info.2) = some (some (.ref f))
  fn : PySem.W.isFn K (.ref f) = true
  sf : PySem.W.selfFirst K C = true
def tOpS (C : Addr) (sp : Sp) (E : L2.St → XK) (ta tb : TE) : TE := fun σ H Q => ta σ H fun x H1 => tb σ H1 fun y H2 => ∃ a b dx dy fs gs, x = .ref a ∧ y = .ref b ∧ H2 a = some (.ins C dx fs) ∧ H2 b = some (.ins C dy gs) ∧ sp [x, y] H2 Q (E σ)
theorem pe_opS {op : Operator} (he : PE X o ta) (he' : PE X e tb) (W : OwnOp X.K C op f) (F : FnOk X.prog X.w X.K X.mg X.base CX k f fd ps sp) (hr : Room k X.A) (hb : Binds X.K fd ps []) (hx : ∀ σ, PassesAt CX X σ (E σ)) :
    PE X (.BinOp o op e pos) (tOpS C sp E ta tb) := by
  refine ⟨fun pins s σ H Q I h => ?_⟩
  refine wpAny_BinOp (thn (he.run pins s σ H _ I h) fun u s1 hu => ?_)
  obtain ⟨x, H1, I1, rx, q1⟩ := hu
  refine thn (he'.run pins s1 σ H1 _ I1 q1) fun u2 s2 hu => ?_
  obtain ⟨y, H2, I2, ry, a, b, dx, dy, fs, gs, rfl, rfl, ea, eb, q⟩ := hu
  obtain rfl : u = Value.ref a := rx
  obtain rfl : u2 = Value.ref b := ry
  obtain ⟨mA, O, _, _, _, _⟩ := ins_get I2.hok ea
  obtain ⟨od, J, _⟩ := O.look
  obtain ⟨mB, O', _, _, _, _⟩ := ins_get I2.hok eb
  obtain ⟨od', J', _⟩ := O'.look
  obtain ⟨m, Fm⟩ := I2.fr
  refine PySem.W.binop_K Fm I2.mod.kin J J'.type W.sf W.at_ W.fn (wpAny_mono (run_fnS (us := [.ref a, .ref b]) (vs := [.ref a, .ref b]) F hr hb (hx σ) I2 (.cons rfl (.cons rfl .nil)) q) (fun v s' hv => ?_) fun _ _ z => z)
  obtain ⟨v', H3, I3, rv, q3⟩ := hv
  have r0 := rv
  cases v' <;> first | (cases rv; exact ⟨_, H3, I3, r0, q3⟩) | (obtain ⟨t, rfl⟩ := rv; exact ⟨_, H3, I3, r0, q3⟩)
end
/-! ### classes of errors; isinstance, except -/
structure ExcOk (K : PySem.W.Frag) (C : Addr) : Prop extends ExcC K C where
  q : PySem.W.excIn K C [.type "ValueError", .type "Exception", .type "BaseException", .type "object"] "ValueError.__new__" = true
  kp : PySem.W.keepIn K (.ref C) = true
  ty : PySem.W.typeIn K (.ref C) = some (.type "type")
  sf : PySem.W.selfFirst K C = true
  ve : PySem.W.subIn K (.ref C) (.type "ValueError") = some true
theorem ExcOk.cls {K : PySem.W.Frag} {C : Addr} (x : ExcOk K C) : (PySem.W.clsIn K C).isSome = true := by
  obtain ⟨cd, h, _⟩ := PySem.W.any_some x.sf
  rw [h]
  rfl
theorem kitCls_own {K : PySem.W.Frag} {C : Addr} {t : Value} {b : Bool} (x : ExcOk K C) (h : PySem.W.subIn K t (.ref C) = some b) : PySem.W.kitCls K t (.ref C) = some b := by
  show (if ((PySem.W.clsIn K C).isSome && PySem.W.typeIn K (.ref C) == some (.type "type")) = true then PySem.W.subIn K t (.ref C) else none) = some b
  rw [if_pos (by rw [x.cls, x.ty]; rfl)]
  exact h
theorem exm_own {K : PySem.W.Frag} {C : Addr} {t : Value} {b : Bool} (x : ExcOk K C) (h : PySem.W.subIn K t (.ref C) = some b) : PySem.W.exmOne K t (.ref C) = some b := by
  unfold PySem.W.exmOne
  rw [if_pos (by rw [x.hs]; rfl)]
  exact kitCls_own x h
theorem sub_self {K : PySem.W.Frag} {C : Addr} {b : Bool} (h1 : PySem.W.selfFirst K C = true) (h : PySem.W.subIn K (.ref C) (.ref C) = some b) : b = true := by
  obtain ⟨cd, hc, hm⟩ := PySem.W.any_some h1
  have h' : PySem.W.mroIn K C (.ref C) = some b := h
  unfold PySem.W.mroIn at h'
  rw [hc] at h'
  cases q : cd.mro with
  | nil => rw [q] at hm; cases hm
  | cons a r =>
    rw [q, List.head?_cons] at hm
    cases (beq_iff_eq.mp hm)
    have : (if cd.mro.isEmpty = true then none else some (cd.mro.contains (Value.ref C))) = some b := h'
    rw [q] at this
    simp at this
    exact this
theorem kit_own {K : PySem.W.Frag} {C : Addr} {t : Value} {b : Bool} (x : ExcOk K C) (h : PySem.W.subIn K t (.ref C) = some b) : PySem.W.kitOne K t (.ref C) = some b := by
  unfold PySem.W.kitOne
  by_cases e : (t == Value.ref C) = true
  · rw [if_pos e]
    cases eq_of_beq e
    rw [sub_self x.sf h]
  · rw [if_neg e]
    exact kitCls_own x h
theorem kit_val {K : PySem.W.Frag} {D : Addr} (x : ExcOk K D) : PySem.W.kitOne K (.ref D) (.type "ValueError") = some true := by
  unfold PySem.W.kitOne
  rw [if_neg (by simp)]
  show (if PySem.W.kitMeta "ValueError" = true then PySem.W.subIn K (.ref D) (.type "ValueError") else none) = some true
  rw [if_pos (by decide +kernel)]
  exact x.ve
/-- raise X('m') -/
theorem pmk_x {X : Cx} {C : Addr} {x m : Str} {j : Nat} {p p2 pos : Pos} (h : ExcOk X.K C) (gC : X.mg x = some (.ref C)) (hg : Gl X x) (hdb : (x == ("__debug__" : Str)) = false := by decide) :
    PMk X (.Call (.Name x p) [.Constant (.str m) j p2] [] pos) (fun _ H Q => Q (.ref C) none H) := pmk_own PySem.F.excBase_ValueError h.q gC h.kp (raises_own h.hs h.ty) hg hdb
theorem go_isE {K : PySem.W.Frag} {H : Hp} {D a : Addr} {c : V} {cv : Value} {b : Bool} {Q : VK} (hc : ∀ u, RelV c u → u = cv) (hk : PySem.W.kitOne K (.ref D) cv = some b) (q : Q (.bl b) H) : rIsE K D a [.ref a, c] H Q := ⟨c, cv, b, rfl, hc, hk, q⟩
/-- what isinstance asks of the instances of a class -/
structure DcOk (K : PySem.W.Frag) (C : Addr) : Prop where
  ha : PySem.W.findIn K (.ref C) "__class__" = some (some (.builtin "object.__class__"))
  hn : PySem.W.specialIn K (.builtin "object.__class__") "__get__" = some (some (.builtin "getset_descriptor.__get__"))
  ht : PySem.W.takesIn K (.builtin "object.__class__") = some true
  hm : PySem.W.mroIn K C (.type "object") = some true
theorem go_isOwn {K : PySem.W.Frag} {G0 H0 G H : Hp} {D : List Addr} {M : List (Addr × HO)} {Q : VK} {x : V} {C : Addr} {fds : List (Str × Dt)} (hS : Sta K G0 H0 D G M H) (hx : Rp K G x (.ins C fds)) (cl : Cls K C) (dc : DcOk K C) (k : Q (.bl true) H) : rIsi K [x, .ref C] H Q := by
  obtain ⟨a, dx, fs, rfl, hs, _⟩ := Rp.ins_inv hx
  exact ⟨.ref a, .ref C, .ref C, .ref C, true, rfl, .own C, .base (.ins (hS.gh _ _ hs) cl dc.ha dc.hn dc.ht dc.hm), by unfold PySem.W.kitOne; rw [if_pos (by simp)], k⟩
theorem pass0S {X : Cx} {E : XK} (σ : L2.St) : PassesAt CX0 X σ E := fun _ _ _ _ _ _ h => h.elim
/-- a suite's reading that wants something of the error -/
theorem pss_when {X : Cx} {sts : List Stmt} {P : Prop} {t : TS} (h : P → PSs X sts t) : PSs X sts (fun D σ H => P ∧ t D σ H) := ⟨fun pins s σ H D I q => (h q.1).run pins s σ H D I q.2⟩
/-! ### tuples: loops, comprehensions -/
section
variable {K : PySem.W.Frag} {G0 H0 G H : Hp} {D : List Addr} {M : List (Addr × HO)} {σ σ' : L2.St} {Q : VK} {tt : TT} {ta te : TE} {ds fs : List Dt} {vss : List Nat} {nx bk ct : L2.St → Hp → Prop} {rt : VK} {t : TS} {x y : V} {d : Dt}
def TKT (K : PySem.W.Frag) (k : It → Hp → Prop) (x : V) (H : Hp) : Prop := ∃ a, x = .ref a ∧ (∃ xs, SqT K H a xs) ∧ k (Itt K a) H
theorem go_iTup {k : It → Hp → Prop} (h : ta σ H fun x H1 => TKT K k x H1) : iTup K ta σ H k := h
theorem go_itt {k : It → Hp → Prop} (hx : Rp K G x (.tup ds)) (e : Same G H) (h : ∀ a xs, x = .ref a → SqT K G a xs → RpAll K G xs ds → k (Itt K a) H) : TKT K k x H := by
  obtain ⟨a, xs, rfl, hs, ha⟩ := Rp.tup_inv hx
  exact ⟨a, rfl, ⟨xs, Same.t e hs⟩, h a xs rfl hs ha⟩
theorem forT {a : Addr} {xs : List V} {g : TG} (hS : Sta K G0 H0 D G M H) (hq : SqT K G a xs) (hr : RpAll K G xs ds) (W : Nat → L2.St → Hp → List (Addr × HO) → Prop) (h0 : W 0 σ G M)
    (hs : ∀ i x d σ' G1 M1 H1, i < ds.length → ds[i]? = some d → Same G G1 → Sta K G0 H0 D G1 M1 H1 → Rp K G1 x d → W i σ' G1 M1 → g x σ' H1 fun σ2 H3 => t ⟨Nx K G0 H0 D G (W (i + 1)), rt, nx, Nx K G0 H0 D G (W (i + 1))⟩ σ2 H3)
    (hd : ∀ σ' G1 M1 H1, Same G G1 → Sta K G0 H0 D G1 M1 H1 → W ds.length σ' G1 M1 → nx σ' H1) : ForG (Itt K a) g t ⟨nx, rt, bk, ct⟩ σ H :=
  forI (walk_tup (xs := xs)) hS (fun H1 e => Same.t e hq) W h0 (fun i x σ' G1 M1 H1 H2 hi e s w y => by
    obtain ⟨rfl, hx⟩ := y
    obtain ⟨d, hd, r⟩ := hr.getV hx
    exact hs i x d σ' G1 M1 H2 (by rw [← hr.length]; exact hi) hd e s (r.up e) w) (by rw [hr.length]; exact hd)
theorem lcT {a : Addr} {xs : List V} {g : TG} (hS : Sta K G0 H0 D G M H) (hq : SqT K G a xs) (hr : RpAll K G xs ds) (W : Nat → List (Addr × HO) → List Dt → Prop) (h0 : W 0 M [])
    (hs : ∀ i x d L G1 M1 vs es H1, i < ds.length → ds[i]? = some d → Rp K G1 x d → Same G G1 → H0 L = none → Sta K G0 H0 D G1 ((L, .lst vs) :: M1) H1 → RpAll K G1 vs es → W i M1 es → g x (wipe σ vss) H1 fun σ2 H3 => wipe σ2 vss = wipe σ vss ∧ tt σ2 H3 fun b H4 =>
      if b = true then te σ2 H4 (LcY K G0 H0 D G L (W (i + 1))) else LcP K G0 H0 D G L (W (i + 1)) H4)
    (hd : ∀ p G1 M1 es H1, Same G G1 → Sta K G0 H0 D G1 M1 H1 → Rp K G1 (.ref p) (.lst es) → W ds.length M1 es → Q (.ref p) H1) : LcG (Itt K a) g tt te vss σ Q H :=
  lcI (walk_tup (xs := xs)) hS (fun H1 e => Same.t e hq) W h0 (fun i x L G1 M1 vs es H1 H2 hi e l0 s r w y => by
    obtain ⟨rfl, hx⟩ := y
    obtain ⟨d, hd', rd⟩ := hr.getV hx
    exact hs i x d L G1 M1 vs es H2 (by rw [← hr.length]; exact hi) hd' (rd.up e) e l0 s r w) (by rw [hr.length]; exact hd)
/-- a comprehension that maps what stands in a list or tuple, each by itself; nothing that may change is touched -/
theorem lcMapL {α : Type} {a : Addr} {xs : List V} {g : TG} {as : List α} {Da : α → Dt} {F : α → Dt} (hS : Sta K G0 H0 D G M H) (hq : SqL K G a xs) (hr : RpAll K G xs (as.map Da)) (hl : as.length ≤ 100000)
    (hs : ∀ x c L G1 vs es H1 (Z : List (Addr × HO) → List Dt → Prop), c ∈ as → Rp K G1 x (Da c) → Same G G1 → H0 L = none → Sta K G0 H0 D G1 ((L, .lst vs) :: M) H1 → RpAll K G1 vs es → (∀ y G2 H2, Same G1 G2 → Sta K G0 H0 D G2 ((L, .lst vs) :: M) H2 → Rp K G2 y (F c) → LcY K G0 H0 D G L Z y H2) →
      g x (wipe σ vss) H1 fun σ2 H3 => wipe σ2 vss = wipe σ vss ∧ tt σ2 H3 fun b H4 => if b = true then te σ2 H4 (LcY K G0 H0 D G L Z) else LcP K G0 H0 D G L Z H4)
    (hd : ∀ p G1 H1, Same G G1 → Sta K G0 H0 D G1 M H1 → Rp K G1 (.ref p) (.lst (as.map F)) → Q (.ref p) H1) : LcG (Itl K a) g tt te vss σ Q H := by
  refine lcL hS hq hr (fun i M1 es => M1 = M ∧ es = (as.take i).map F) ⟨rfl, rfl⟩ (fun i x d L G1 M1 vs es H1 hi hd' hx e l0 s r w => ?_) (fun p G1 M1 es H1 e s r w => ?_)
  · obtain ⟨rfl, rfl⟩ := w
    rw [List.length_map] at hi
    rw [List.getElem?_map, List.getElem?_eq_getElem hi] at hd'
    cases hd'
    refine hs x as[i] L G1 vs _ H1 _ (List.getElem_mem hi) hx e l0 s r fun y G2 H2 e2 s2 hy => ?_
    refine lcY s2 (e.trans e2) (r.up e2) hy (by simp; omega) ⟨rfl, ?_⟩
    rw [List.take_add_one, List.getElem?_eq_getElem hi, List.map_append]
    rfl
  · obtain ⟨rfl, rfl⟩ := w
    rw [List.length_map, List.take_length] at r
    exact hd p G1 H1 e s r
theorem lcMapT {α : Type} {a : Addr} {xs : List V} {g : TG} {as : List α} {Da : α → Dt} {F : α → Dt} (hS : Sta K G0 H0 D G M H) (hq : SqT K G a xs) (hr : RpAll K G xs (as.map Da)) (hl : as.length ≤ 100000)
    (hs : ∀ x c L G1 vs es H1 (Z : List (Addr × HO) → List Dt → Prop), c ∈ as → Rp K G1 x (Da c) → Same G G1 → H0 L = none → Sta K G0 H0 D G1 ((L, .lst vs) :: M) H1 → RpAll K G1 vs es → (∀ y G2 H2, Same G1 G2 → Sta K G0 H0 D G2 ((L, .lst vs) :: M) H2 → Rp K G2 y (F c) → LcY K G0 H0 D G L Z y H2) →
      g x (wipe σ vss) H1 fun σ2 H3 => wipe σ2 vss = wipe σ vss ∧ tt σ2 H3 fun b H4 => if b = true then te σ2 H4 (LcY K G0 H0 D G L Z) else LcP K G0 H0 D G L Z H4)
    (hd : ∀ p G1 H1, Same G G1 → Sta K G0 H0 D G1 M H1 → Rp K G1 (.ref p) (.lst (as.map F)) → Q (.ref p) H1) : LcG (Itt K a) g tt te vss σ Q H := by
  refine lcT hS hq hr (fun i M1 es => M1 = M ∧ es = (as.take i).map F) ⟨rfl, rfl⟩ (fun i x d L G1 M1 vs es H1 hi hd' hx e l0 s r w => ?_) (fun p G1 M1 es H1 e s r w => ?_)
  · obtain ⟨rfl, rfl⟩ := w
    rw [List.length_map] at hi
    rw [List.getElem?_map, List.getElem?_eq_getElem hi] at hd'
    cases hd'
    refine hs x as[i] L G1 vs _ H1 _ (List.getElem_mem hi) hx e l0 s r fun y G2 H2 e2 s2 hy => ?_
    refine lcY s2 (e.trans e2) (r.up e2) hy (by simp; omega) ⟨rfl, ?_⟩
    rw [List.take_add_one, List.getElem?_eq_getElem hi, List.map_append]
    rfl
  · obtain ⟨rfl, rfl⟩ := w
    rw [List.length_map, List.take_length] at r
    exact hd p G1 H1 e s r
/-- .. over a range -/
theorem lcMapR {lo : Int} {n : Nat} {g : TG} {F : Nat → Dt} (hS : Sta K G0 H0 D G M H) (hl : n ≤ 100000)
    (hs : ∀ (i : Nat) L G1 vs es H1 (Z : List (Addr × HO) → List Dt → Prop), i < n → Same G G1 → H0 L = none → Sta K G0 H0 D G1 ((L, .lst vs) :: M) H1 → RpAll K G1 vs es → (∀ y G2 H2, Same G1 G2 → Sta K G0 H0 D G2 ((L, .lst vs) :: M) H2 → Rp K G2 y (F i) → LcY K G0 H0 D G L Z y H2) →
      g (.int (lo + i)) (wipe σ vss) H1 fun σ2 H3 => wipe σ2 vss = wipe σ vss ∧ tt σ2 H3 fun b H4 => if b = true then te σ2 H4 (LcY K G0 H0 D G L Z) else LcP K G0 H0 D G L Z H4)
    (hd : ∀ p G1 H1, Same G G1 → Sta K G0 H0 D G1 M H1 → Rp K G1 (.ref p) (.lst ((List.range n).map F)) → Q (.ref p) H1) : LcG (Itr lo n) g tt te vss σ Q H := by
  refine lcR hS (fun i M1 es => M1 = M ∧ es = (List.range i).map F) ⟨rfl, rfl⟩ (fun i L G1 M1 vs es H1 hi e l0 s r w => ?_) (fun p G1 M1 es H1 e s r w => ?_)
  · obtain ⟨rfl, rfl⟩ := w
    refine hs i L G1 vs _ H1 _ hi e l0 s r fun y G2 H2 e2 s2 hy => ?_
    refine lcY s2 (e.trans e2) (r.up e2) hy (by simp; omega) ⟨rfl, ?_⟩
    rw [List.range_succ, List.map_append]
    rfl
  · obtain ⟨rfl, rfl⟩ := w
    exact hd p G1 H1 e s r
end
/-! ### instances: made, their fields set -/
def MKS (C : Addr) (sp : Sp) (E : XK) (Q : VK) (vs : List V) (H : Hp) : Prop := ∀ x dx, H x = none → H dx = none → dx ≠ x → sp (.ref x :: vs) (upd (upd H dx (.own x)) x (.ins C dx [])) (fun v H2 => v = .non ∧ Q (.ref x) H2) E
def SFK (K : PySem.W.Frag) (f : Str) (y : V) (k : Hp → Prop) (x : V) (H : Hp) : Prop := ∃ a C dx fs, x = .ref a ∧ H a = some (.ins C dx fs) ∧ Cls K C ∧ NoAttr K C f ∧ fs.length < 1000 ∧ k (upd H a (.ins C dx (putF f y fs)))
section
variable {K : PySem.W.Frag} {G0 H0 G H : Hp} {D : List Addr} {M M' : List (Addr × HO)} {σ : L2.St} {Q : VK} {ta tb te : TE} {t : TA} {nx bk ct : L2.St → Hp → Prop} {rt : VK} {C : Addr} {sp : Sp} {E : L2.St → XK} {vs : List V}
theorem go_makeS (h : t σ H fun vs H1 => MKS C sp (E σ) Q vs H1) : tMakeS C sp E t σ H Q := h
theorem go_mks {E : XK} (hS : Sta K G0 H0 D G M H) (h : ∀ x dx G1 H1, Same G G1 → H0 x = none → Sta K G0 H0 D G1 ((x, .ins C dx []) :: M) H1 → sp (.ref x :: vs) H1 (fun v H2 => v = .non ∧ Q (.ref x) H2) E) : MKS C sp E Q vs H := by
  intro x dx hx hdx hne
  have s1 := hS.imm hdx (.own x)
  have hx1 : upd H dx (.own x) x = none := by rw [upd_ne (Ne.symm hne)]; exact hx
  exact h x dx _ _ (same_upd (hS.gn hdx)) (hS.h0 hx) (s1.mut hx1 _)
theorem go_callS {k : L2.St → XK} (h : t σ H fun vs H1 => sp vs H1 Q (k σ)) : tCallS sp k t σ H Q := h
end
/-! ### more steps of instances -/
def PRK (C : Addr) (sp : Sp) (dvs : List V) (E : XK) (Q : VK) (x : V) (H : Hp) : Prop := ∃ a dx fs, x = .ref a ∧ H a = some (.ins C dx fs) ∧ sp (.ref a :: dvs) H Q E
def MTK (C : Addr) (m : Str) (k : Hp → Prop) (x : V) (H : Hp) : Prop := ∃ a dx fs, x = .ref a ∧ H a = some (.ins C dx fs) ∧ fs.lookup m = none ∧ k H
def OPK (C : Addr) (sp : Sp) (E : XK) (Q : VK) (x y : V) (H : Hp) : Prop := ∃ a b dx dy fs gs, x = .ref a ∧ y = .ref b ∧ H a = some (.ins C dx fs) ∧ H b = some (.ins C dy gs) ∧ sp [x, y] H Q E
def STK (C : Addr) (k : Hp → Prop) (x : V) (H : Hp) : Prop := x = .ref C ∧ k H
theorem look_none {K : PySem.W.Frag} {G : Hp} {f : Str} : ∀ {fs : List (Str × V)} {ds : List (Str × Dt)}, RpF K G fs ds → ds.lookup f = none → fs.lookup f = none
  | _, [], h, _ => by cases h; rfl
  | _, (g, d) :: ds, h, e => by
    cases h with
    | cons h1 h2 =>
      rw [List.lookup_cons] at e ⊢
      cases hb : f == g with
      | true => rw [hb] at e; cases e
      | false =>
        rw [hb] at e
        exact look_none h2 e
section
variable {K : PySem.W.Frag} {G0 H0 G H : Hp} {D : List Addr} {M M' : List (Addr × HO)} {σ : L2.St} {Q : VK} {ta tb te tv : TE} {t : TA} {nx bk ct : L2.St → Hp → Prop} {rt : VK} {C a dx : Addr} {sp : Sp} {vs dvs : List V} {E : XK} {k : L2.St → XK} {f m : Str} {x y : V} {fs : List (Str × V)} {fds gds : List (Str × Dt)} {i : Nat} {kk : Hp → Prop}
theorem go_sFld (h : tv σ H fun y H1 => ta σ H1 fun x H2 => SFK K f y (fun H3 => nx σ H3) x H2) : sFld K ta tv f ⟨nx, rt, bk, ct⟩ σ H := h
theorem go_sfk (hS : Sta K G0 H0 D G M H) (hi : M[i]? = some (a, .ins C dx fs)) (cl : Cls K C) (na : NoAttr K C f) (hl : fs.length < 1000) (hM : M.set i (a, .ins C dx (putF f y fs)) = M') (h : ∀ H1, Sta K G0 H0 D G M' H1 → kk H1) : SFK K f y kk (.ref a) H := by
  subst hM
  exact ⟨a, C, dx, fs, rfl, hS.get hi, cl, na, hl, h _ (hS.set hi _)⟩
theorem go_prop (h : ta σ H fun x H1 => PRK C sp dvs E Q x H1) : tProp C sp dvs E ta σ H Q := h
theorem go_prk (hx : Rp K G x (.ins C fds)) (e : Same G H) (h : ∀ a, x = .ref a → sp (.ref a :: dvs) H Q E) : PRK C sp dvs E Q x H := by
  obtain ⟨a, dx, fs, rfl, hs, _⟩ := Rp.ins_inv hx
  exact ⟨a, dx, fs, rfl, e _ _ hs, h a rfl⟩
theorem go_metS (h : ta σ H fun x H1 => MTK C m (fun H2 => t σ H2 fun vs H3 => sp (x :: vs) H3 Q (k σ)) x H1) : tMetS C m sp k ta t σ H Q := h
theorem go_mtk (hx : Rp K G x (.ins C fds)) (e : Same G H) (hm : fds.lookup m = none) (h : kk H) : MTK C m kk x H := by
  obtain ⟨a, dx, fs, rfl, hs, hf⟩ := Rp.ins_inv hx
  exact ⟨a, dx, fs, rfl, e _ _ hs, look_none hf hm, h⟩
theorem go_opS (h : ta σ H fun x H1 => tb σ H1 fun y H2 => OPK C sp (k σ) Q x y H2) : tOpS C sp k ta tb σ H Q := h
theorem go_opk (hx : Rp K G x (.ins C fds)) (hy : Rp K G y (.ins C gds)) (e : Same G H) (h : sp [x, y] H Q E) : OPK C sp E Q x y H := by
  obtain ⟨a, dx, fs, rfl, hs, _⟩ := Rp.ins_inv hx
  obtain ⟨b, dy, gs, rfl, hs', _⟩ := Rp.ins_inv hy
  exact ⟨a, b, dx, dy, fs, gs, rfl, rfl, e _ _ hs, e _ _ hs', h⟩
theorem go_stat (h : ta σ H fun x H1 => STK C (fun H2 => t σ H2 fun vs H3 => sp vs H3 Q (k σ)) x H1) : tStat C sp k ta t σ H Q := h
theorem go_stk (h : kk H) : STK C kk (.ref C) H := ⟨rfl, h⟩
end
theorem putF2 {f g : Str} {v u : V} : (putF f v (putF g u [])).length < 1000 := by
  have h1 := length_putF f v (putF g u [])
  have h2 := length_putF g u []
  simp at h2
  omega
/-! ### a call that fails: what it made is forgotten -/
theorem Sta.callX {K : PySem.W.Frag} {G0 H0 G H G1 H1 : Hp} {D : List Addr} {M : List (Addr × HO)} {x : Addr} (h : Sta K G0 H0 D G M H) (a : Adv [x] G H G1 H1) (hx : H0 x = none) (hm : ∀ q ∈ M, q.1 ≠ x) : Sta K G0 H0 D G1 M H1 where
  g0 := h.g0.trans a.gg
  gh := a.gh
  fr := fun b hb => by rw [a.fr b (h.up b hb)]; exact h.fr b hb
  kp := fun b u hb hd => a.kp b u (h.kp b u hb hd) (fun z => by
    have : b = x := by simpa using z
    subst this
    rw [hx] at hb
    cases hb)
  up := fun b hb => a.up b (h.up b hb)
  md := h.md
  mh := fun q hq => by
    obtain ⟨e1, e2, e3⟩ := h.mh q hq
    exact ⟨a.kp _ _ e1 (by simpa using hm q hq), by rw [a.fr _ (by rw [e1]; exact fun z => nomatch z)]; exact e2, e3⟩
theorem Sta.apart {K : PySem.W.Frag} {G0 H0 G H : Hp} {D : List Addr} {M : List (Addr × HO)} {p : Addr} {o : HO} (h : Sta K G0 H0 D G ((p, o) :: M) H) : ∀ q ∈ M, q.1 ≠ p := fun q hq e => by
  have := h.md
  simp only [List.map_cons, List.nodup_cons] at this
  exact this.1 (List.mem_map.mpr ⟨q, hq, e⟩)
/-! ### zip of two tuples -/
theorem walk_zT {K : PySem.W.Frag} {a b : Addr} {xs ys : List V} : Walk (ItzT K a b) (min xs.length ys.length) (fun H => SqT K H a xs ∧ SqT K H b ys) (fun i H v H' => ∃ T x y, v = .ref T ∧ H T = none ∧ H' = upd H T (.tup [x, y]) ∧ xs[i]? = some x ∧ ys[i]? = some y) := by
  refine ⟨fun i H hi q => ?_, fun H q => ⟨xs, ys, q.1, q.2, by omega⟩, fun i H v H' hi q y => ?_⟩
  · have h1 : i < xs.length := by omega
    have h2 : i < ys.length := by omega
    exact ⟨xs, ys, _, _, q.1, q.2, List.getElem?_eq_getElem h1, List.getElem?_eq_getElem h2⟩
  · obtain ⟨T, x, y, rfl, hT, eH, hx, hy⟩ := y
    exact ⟨T, x, y, rfl, hT, eH, hx xs q.1, hy ys q.2⟩
section
variable {K : PySem.W.Frag} {G0 H0 G H : Hp} {D : List Addr} {M : List (Addr × HO)} {σ σ' : L2.St} {Q : VK} {tt : TT} {ta te : TE} {t : TA} {ds fs : List Dt} {vss : List Nat} {x y : V} {d : Dt}
def ZTK (K : PySem.W.Frag) (k : It → Hp → Prop) (vs : List V) (H : Hp) : Prop := ∃ a b xs ys, vs = [.ref a, .ref b] ∧ ((SqL K H a xs ∧ SqL K H b ys ∧ k (Itz K a b) H) ∨ (SqT K H a xs ∧ SqT K H b ys ∧ k (ItzT K a b) H))
theorem go_iZipA {k : It → Hp → Prop} (h : t σ H fun vs H1 => ZTK K k vs H1) : iZipA K t σ H k := h
theorem go_ztk {k : It → Hp → Prop} (hx : Rp K G x (.tup ds)) (hy : Rp K G y (.tup fs)) (e : Same G H) (h : ∀ a b xs ys, x = .ref a → y = .ref b → SqT K G a xs → RpAll K G xs ds → SqT K G b ys → RpAll K G ys fs → k (ItzT K a b) H) : ZTK K k [x, y] H := by
  obtain ⟨a, xs, rfl, hs, ha⟩ := Rp.tup_inv hx
  obtain ⟨b, ys, rfl, hs', ha'⟩ := Rp.tup_inv hy
  exact ⟨a, b, xs, ys, rfl, .inr ⟨Same.t e hs, Same.t e hs', h a b xs ys rfl rfl hs ha hs' ha'⟩⟩
/-- a comprehension over zip of two tuples of one length, each pair by itself -/
theorem lcMapZ {α β : Type} {a b : Addr} {xs ys : List V} {as : List α} {bs : List β} {Da : α → Dt} {Db : β → Dt} {F : α → β → Dt} {i1 j1 : Nat} (hS : Sta K G0 H0 D G M H) (hq : SqT K G a xs) (hr : RpAll K G xs (as.map Da)) (hq' : SqT K G b ys) (hr' : RpAll K G ys (bs.map Db)) (hab : as.length = bs.length) (hl : as.length ≤ 100000)
    (hs : ∀ x y c e L G1 vs es H1 (Z : List (Addr × HO) → List Dt → Prop), c ∈ as → e ∈ bs → Rp K G1 x (Da c) → Rp K G1 y (Db e) → Same G G1 → H0 L = none → Sta K G0 H0 D G1 ((L, .lst vs) :: M) H1 → RpAll K G1 vs es → (∀ y G2 H2, Same G1 G2 → Sta K G0 H0 D G2 ((L, .lst vs) :: M) H2 → Rp K G2 y (F c e) → LcY K G0 H0 D G L Z y H2) →
      ∀ σ2, List.set (List.set (wipe σ vss) i1 (some x)) j1 (some y) = σ2 → wipe σ2 vss = wipe σ vss ∧ tt σ2 H1 fun b H4 => if b = true then te σ2 H4 (LcY K G0 H0 D G L Z) else LcP K G0 H0 D G L Z H4)
    (hd : ∀ p G1 H1, Same G G1 → Sta K G0 H0 D G1 M H1 → Rp K G1 (.ref p) (.lst (List.zipWith F as bs)) → Q (.ref p) H1) : LcG (ItzT K a b) (gTup K 2 (gCons (gName i1) (gCons (gName j1) gNil))) tt te vss σ Q H := by
  have hxl := hr.length
  have hyl := hr'.length
  rw [List.length_map] at hxl hyl
  refine lcI (walk_zT (xs := xs) (ys := ys)) hS (fun H1 e => ⟨Same.t e hq, Same.t e hq'⟩) (fun i M1 es => M1 = M ∧ es = (List.zipWith F as bs).take i) ⟨rfl, rfl⟩ (fun i v L G1 M1 vs es H1 H2 hi e l0 s r w yy => ?_) (fun p G1 M1 es H1 e s r w => ?_)
  · obtain ⟨rfl, rfl⟩ := w
    obtain ⟨T, u, z, rfl, hT, eH, h1, h2⟩ := yy
    have ha : i < as.length := by omega
    have hb : i < bs.length := by omega
    obtain ⟨d, hd', rd⟩ := hr.getV h1
    obtain ⟨f, hf', rf⟩ := hr'.getV h2
    rw [List.getElem?_map, List.getElem?_eq_getElem ha] at hd'
    rw [List.getElem?_map, List.getElem?_eq_getElem hb] at hf'
    cases hd'
    cases hf'
    obtain ⟨G2, e2, s2, q2⟩ := s.pair hT eH
    refine go_gpair q2 rfl (hs u z as[i] bs[i] L G2 vs _ H2 _ (List.getElem_mem ha) (List.getElem_mem hb) (rd.up (e.trans e2)) (rf.up (e.trans e2)) (e.trans e2) l0 s2 (r.up e2) (fun y G3 H3 e3 s3 hy => ?_) _ rfl)
    refine lcY s3 (e.trans (e2.trans e3)) ((r.up e2).up e3) hy (by simp; omega) ⟨rfl, ?_⟩
    have hz : i < (List.zipWith F as bs).length := by rw [List.length_zipWith]; omega
    rw [List.take_add_one, List.getElem?_eq_getElem hz]
    simp
  · obtain ⟨rfl, rfl⟩ := w
    rw [hxl, hyl, hab, Nat.min_self, List.take_of_length_le (by rw [List.length_zipWith]; omega)] at r
    exact hd p G1 H1 e s r
end
/-! ### != of tuples of ints -/
theorem okE_tints (as : List Int) (h : as.length ≤ 100000) : okE 2 (.tup (as.map .int)) = true := by
  simp [okE, h]
section
variable {K : PySem.W.Frag} {G H : Hp} {x y : V} {Q : VK}
theorem go_neTI {as bs : List Int} (hx : Rp K G x (.tup (as.map .int))) (hy : Rp K G y (.tup (bs.map .int))) (e : Same G H) (ha : as.length ≤ 100000) (hb : bs.length ≤ 100000) (k : Q (.bl (!decide (as = bs))) H) : rNeD K x y H Q := by
  refine ⟨_, _, Rp.dp (okE_okD (okE_tints as ha)) (hx.up e), Rp.dp (okE_okD (okE_tints bs hb)) (hy.up e), shaped_toPy (okE_tints as ha) (by decide), shaped_toPy (okE_tints bs hb) (by decide), ?_⟩
  have : PyData.eqv (toPy (.tup (as.map .int))) (toPy (.tup (bs.map .int))) = decide (as = bs) := eqv_ints as bs
  rw [this]
  exact k
end
/-! ### t * n, any n from 0 -/
section
open PySem.AutoSeq1 (wpAny_loadPart')
theorem mul_one (l : Addr) (its : Array Value) (n : Nat) (dd : Option Addr) (sl : Array (Option Value)) (u : Tok) :
    Meets (Builtin.«tuple.__mul__» ⟨[.ref l, .int 1 u], []⟩) (fun _ R s => s.heap.get? l = some { cls := .type "tuple", dict := dd, data := .seq its n, slots := sl } ∧ R (.ok (.ret (.ref l))) s) := .of_wp fun prog w A R s h => by
  obtain ⟨hh, gg, d, tk, os⟩ := s
  obtain ⟨hl, q⟩ := h
  have ix := AutoSeq1.idx_int
  wp_walk using wpAny_loadPart' hl
  repeat (first
    | (refine wpAny_ite_false (by decide) ?_; wp_walk using wpAny_loadPart' hl)
    | (refine wpAny_ite_true (by simp) ?_; wp_walk using wpAny_loadPart' hl))
  exact ⟨_, rfl, q⟩
theorem mul_zero (l : Addr) (its : Array Value) (n : Nat) (dd : Option Addr) (sl : Array (Option Value)) (u : Tok) (he : its.isEmpty = false) :
    Meets (Builtin.«tuple.__mul__» ⟨[.ref l, .int 0 u], []⟩) (fun _ R s => s.heap.get? l = some { cls := .type "tuple", dict := dd, data := .seq its n, slots := sl } ∧ R (.ok (.ret (Value.ref s.heap.objs.size))) { s with heap := s.heap.push { cls := .type "tuple", data := .seq #[] } }) := .of_wp fun prog w A R s h => by
  obtain ⟨hh, gg, d, tk, os⟩ := s
  obtain ⟨hl, q⟩ := h
  have ix := AutoSeq1.idx_int
  wp_walk using wpAny_loadPart' hl
  exact ⟨_, rfl, q⟩
end
def rRepA (K : PySem.W.Frag) : R2 := fun x y H Q => ∃ (l : Addr) (k : Nat) (xs : List V), x = .ref l ∧ y = .int (k : Int) ∧ SqT K H l xs ∧ xs ≠ [] ∧ k ≤ 1000 ∧ xs.length ≤ 1000 ∧ (k = 1 → Q (.ref l) H) ∧ (k ≠ 1 → ∀ p, H p = none → Q (.ref p) (upd H p (.tup (List.replicate k xs).flatten)))
theorem op_repA {X : Cx} : OpR X (binaryOp .Mult) (rRepA X.K) := by
  intro pins s σ H x y v u Q I rx ry h
  obtain ⟨l, k, xs, rfl, rfl, hT, hne, h1, hz, q1, q2⟩ := h
  by_cases hk : 2 ≤ k
  · refine op_repT pins s σ H _ _ v u Q I rx ry ⟨l, k, xs, rfl, rfl, hT, hne, by omega, by omega, hz, fun p hp => ?_⟩
    rw [Int.toNat_natCast]
    exact q2 (by omega) p hp
  cases rx
  obtain ⟨t, rfl⟩ := ry
  obtain ⟨its, r, ⟨⟨cls, dd, data, sl⟩, ho, hc, n, hd⟩, hs⟩ := I.tuple hT
  simp only at hc hd
  subst hc hd
  have hlen := r.length
  have hn : its ≠ [] := fun e => hne (List.eq_nil_of_length_eq_zero (by rw [hlen, e]; rfl))
  have hi : its.toArray.isEmpty = false := by
    cases its with
    | nil => exact absurd rfl hn
    | cons a b => rfl
  have go : ∀ {W : Value → Shared → Prop}, wpAny (model X.prog X.w) X.A (call (.builtin "tuple.__mul__") [.ref l, .int (k : Int) t]) W X.xe s → wpAny (model X.prog X.w) X.A (binaryOp .Mult (.ref l) (.int (k : Int) t)) W X.xe s := fun {W} hw =>
    wpAny_binaryOp_repeat_ref (T := "tuple") (U := "int") (by decide) ⟨_, ho, rfl⟩ (fun s' => typeIs_int s' (k : Int) t) noFill_tuple_mul F.fills_int_mul F.slot_int_rmul repeat_tuple F.slot_int_index.lookup
      (call_meets F.slot_int_rmul (typeIs_int s (k : Int) t) F.entry_int_rmul (F.args_int_rmul_2 _ _) (int_rmul_tuple (k : Int) t l its.toArray n dd sl) ⟨ho, rfl, ⟨_, ho, rfl⟩, hw⟩)
  have e01 : k = 0 ∨ k = 1 := by omega
  rcases e01 with rfl | rfl
  · refine go (call_meets F.slot_tuple_mul ⟨_, ho, rfl⟩ F.entry_tuple_mul (F.args_tuple_mul_2 _ _) (mul_zero l its.toArray n dd sl t hi) ⟨ho, ?_⟩)
    exact ⟨.ref s.heap.objs.size, _, I.laid (t' := s.toks) (o := .tup []) (fun b ob q => Heap.get?_push_of_some _ q) (Nat.le_refl _) ⟨Nat.zero_le _, [], .nil, IsTup.new _ _⟩, rfl, q2 (by decide) _ (I.hok.fresh (Nat.le_refl _))⟩
  · refine go (call_meets F.slot_tuple_mul ⟨_, ho, rfl⟩ F.entry_tuple_mul (F.args_tuple_mul_2 _ _) (mul_one l its.toArray n dd sl t) ⟨ho, ?_⟩)
    exact ⟨.ref l, H, I, rfl, q1 rfl⟩
theorem go_repA {K : PySem.W.Frag} {G0 H0 G H : Hp} {D : List Addr} {M : List (Addr × HO)} {Q : VK} {x : V} {as : List Int} {k : Int} (hS : Sta K G0 H0 D G M H) (hx : Rp K G x (.tup (as.map .int))) (hk : 0 ≤ k) (hk2 : k ≤ 1000) (hn : as ≠ []) (hl : as.length ≤ 1000)
    (q : ∀ p G1 H1, Same G G1 → Sta K G0 H0 D G1 M H1 → Rp K G1 p (.tup ((List.replicate k.toNat as).flatten.map .int)) → Q p H1) : rRepA K x (.int k) H Q := by
  obtain ⟨a, xs, rfl, hs, ha⟩ := Rp.tup_inv hx
  have ei := ha.ints_inv
  subst ei
  refine ⟨a, k.toNat, _, rfl, by rw [Int.toNat_of_nonneg hk], Same.t hS.gh hs, by simpa using hn, by omega, by simpa using hl, fun e1 => ?_, fun e1 p hp => ?_⟩
  · refine q _ G H (Same.refl G) hS ?_
    rw [e1]
    simpa using hx
  · have ef : (List.replicate k.toNat (as.map V.int)).flatten = ((List.replicate k.toNat as).flatten).map V.int := by
      rw [List.map_flatten, List.map_replicate]
    rw [ef]
    exact q _ _ _ (same_upd (hS.gn hp)) (hS.imm hp _) (.tup (.inl (.inl upd_same)) .ints)
theorem go_catA {K : PySem.W.Frag} {G0 H0 G H : Hp} {D : List Addr} {M : List (Addr × HO)} {Q : VK} {x y : V} {ds es : List Dt} (hS : Sta K G0 H0 D G M H) (hx : Rp K G x (.tup ds)) (hy : Rp K G y (.tup es)) (hl : ds.length + es.length ≤ 100000)
    (q : ∀ p G1 H1, Same G G1 → Sta K G0 H0 D G1 M H1 → Rp K G1 p (.tup (ds ++ es)) → Q p H1) : rCatA K x y H Q := by
  have hx0 := hx
  have hy0 := hy
  obtain ⟨a, xs, rfl, hs, ha⟩ := Rp.tup_inv hx
  obtain ⟨b, ys, rfl, hs', ha'⟩ := Rp.tup_inv hy
  refine ⟨a, b, xs, ys, rfl, rfl, Same.t hS.gh hs, Same.t hS.gh hs', sz (by rw [ha.length, ha'.length]; exact hl), fun e => ?_, fun _ e => ?_, fun _ _ p hp => ?_⟩
  · subst e
    cases ds with
    | nil => exact q _ G H (Same.refl G) hS hy0
    | cons d ds => cases ha
  · subst e
    cases es with
    | nil => exact q _ G H (Same.refl G) hS (by rw [List.append_nil]; exact hx0)
    | cons d ds => cases ha'
  · exact q _ _ _ (same_upd (hS.gn hp)) (hS.imm hp _) (.tup (.inl (.inl upd_same)) ((ha.app ha').up (same_upd (hS.gn hp))))
/-! ### lists that are known as they are -/
def RpL (K : PySem.W.Frag) (G : Hp) (p : Addr) (ds : List Dt) : Prop := ∃ vs, G p = some (.lst vs) ∧ RpAll K G vs ds
theorem RpL.rp {K : PySem.W.Frag} {G : Hp} {p : Addr} {ds : List Dt} (h : RpL K G p ds) : Rp K G (.ref p) (.lst ds) := by
  obtain ⟨vs, h1, h2⟩ := h
  exact .lst (.inl (.inl h1)) h2
theorem RpL.up {K : PySem.W.Frag} {G G' : Hp} {p : Addr} {ds : List Dt} (e : Same G G') (h : RpL K G p ds) : RpL K G' p ds := by
  obtain ⟨vs, h1, h2⟩ := h
  exact ⟨vs, e _ _ h1, h2.up e⟩
section
variable {K : PySem.W.Frag} {G0 H0 G H : Hp} {D : List Addr} {M : List (Addr × HO)} {σ : L2.St} {Q : VK} {tt : TT} {te : TE} {vss : List Nat} {x : V} {ds es : List Dt}
theorem lcMapTR {α : Type} {a : Addr} {xs : List V} {g : TG} {as : List α} {Da : α → Dt} {F : α → Dt} (hS : Sta K G0 H0 D G M H) (hq : SqT K G a xs) (hr : RpAll K G xs (as.map Da)) (hl : as.length ≤ 100000)
    (hs : ∀ x c L G1 vs es H1 (Z : List (Addr × HO) → List Dt → Prop), c ∈ as → Rp K G1 x (Da c) → Same G G1 → H0 L = none → Sta K G0 H0 D G1 ((L, .lst vs) :: M) H1 → RpAll K G1 vs es → (∀ y G2 H2, Same G1 G2 → Sta K G0 H0 D G2 ((L, .lst vs) :: M) H2 → Rp K G2 y (F c) → LcY K G0 H0 D G L Z y H2) →
      g x (wipe σ vss) H1 fun σ2 H3 => wipe σ2 vss = wipe σ vss ∧ tt σ2 H3 fun b H4 => if b = true then te σ2 H4 (LcY K G0 H0 D G L Z) else LcP K G0 H0 D G L Z H4)
    (hd : ∀ p G1 H1, Same G G1 → Sta K G0 H0 D G1 M H1 → RpL K G1 p (as.map F) → Q (.ref p) H1) : LcG (Itt K a) g tt te vss σ Q H := by
  refine lcIM (walk_tup (xs := xs)) hS (fun H1 e => Same.t e hq) (fun i M1 es => M1 = M ∧ es = (as.take i).map F) ⟨rfl, rfl⟩ (fun i x L G1 M1 vs es H1 H2 hi e l0 s r w yy => ?_) (fun L G1 M1 vs es H1 e l0 s r w => ?_)
  · obtain ⟨rfl, rfl⟩ := w
    obtain ⟨rfl, hx⟩ := yy
    have hi2 : i < as.length := by
      have := hr.length
      rw [List.length_map] at this
      omega
    obtain ⟨d, hd', rd⟩ := hr.getV hx
    rw [List.getElem?_map, List.getElem?_eq_getElem hi2] at hd'
    cases hd'
    refine hs x as[i] L G1 vs _ H2 _ (List.getElem_mem hi2) (rd.up e) e l0 s r fun y G2 H3 e2 s2 hy => ?_
    refine lcY s2 (e.trans e2) (r.up e2) hy (by simp; omega) ⟨rfl, ?_⟩
    rw [List.take_add_one, List.getElem?_eq_getElem hi2, List.map_append]
    rfl
  · obtain ⟨rfl, rfl⟩ := w
    have hl2 := hr.length
    rw [List.length_map] at hl2
    rw [List.take_of_length_le (by omega)] at r
    obtain ⟨s2, e2⟩ := s.frz l0
    exact hd L _ H1 (e.trans e2) s2 ⟨vs, upd_same, r.up e2⟩
theorem go_catL {l b : Addr} (hS : Sta K G0 H0 D G M H) (hx : RpL K G l ds) (hy : RpL K G b es) (hl : ds.length + es.length ≤ 100000) (q : ∀ p G1 H1, Same G G1 → Sta K G0 H0 D G1 M H1 → RpL K G1 p (ds ++ es) → Q (.ref p) H1) : rCat (.ref l) (.ref b) H Q := by
  obtain ⟨xs, h1, h2⟩ := hx
  obtain ⟨ys, h3, h4⟩ := hy
  exact go_cat_ hS h1 h3 (by rw [h2.length, h4.length]; exact hl) fun p G1 H1 e s hp => q p G1 H1 e s ⟨_, hp, (h2.app h4).up e⟩
end
/-! ### rows that are lists known as they are -/
def RawI (G : Hp) (v : V) (r : List Int) : Prop := ∃ q, v = V.ref q ∧ G q = some (.lst (r.map .int))
theorem RawI.up {G G' : Hp} {v : V} {r : List Int} (e : Same G G') (h : RawI G v r) : RawI G' v r := by
  obtain ⟨q, h1, h2⟩ := h
  exact ⟨q, h1, e _ _ h2⟩
theorem RawI.rp {K : PySem.W.Frag} {G : Hp} {v : V} {r : List Int} (h : RawI G v r) : Rp K G v (.lst (r.map .int)) := by
  obtain ⟨q, rfl, h2⟩ := h
  exact .lst (.inl (.inl h2)) .ints
theorem pairedI_up {G G' : Hp} (e : Same G G') {vs : List V} {rs : List (List Int)} (h : Paired (RawI G) vs rs) : Paired (RawI G') vs rs := Paired.mapP h fun _ _ x => x.up e
theorem pairedI_rp {K : PySem.W.Frag} {G : Hp} {vs : List V} {rs : List (List Int)} (h : Paired (RawI G) vs rs) : RpAll K G vs (rs.map fun r => .lst (r.map .int)) := by
  induction h with
  | nil => exact .nil
  | cons h1 _ ih => exact .cons h1.rp ih
theorem pairedI_snoc {G : Hp} {v : V} {r : List Int} (hv : RawI G v r) {vs : List V} {rs : List (List Int)} (h : Paired (RawI G) vs rs) : Paired (RawI G) (vs ++ [v]) (rs ++ [r]) := by
  induction h with
  | nil => exact .cons hv .nil
  | cons h1 _ ih => exact .cons h1 ih
theorem paired_get {α β : Type} {R : α → β → Prop} {vs : List α} {rs : List β} (h : Paired R vs rs) : ∀ {i : Nat} {v : α}, vs[i]? = some v → ∃ r, rs[i]? = some r ∧ R v r := by
  induction h with
  | nil => intro i v e; simp at e
  | cons h1 _ ih =>
    intro i v e
    cases i with
    | zero => simp at e; subst e; exact ⟨_, rfl, h1⟩
    | succ i => exact ih (by simpa using e)
section
variable {K : PySem.W.Frag} {G0 H0 G H : Hp} {D : List Addr} {M : List (Addr × HO)} {σ : L2.St} {Q : VK} {tt : TT} {te : TE} {vss : List Nat} {x : V}
theorem lcMapI {a : Addr} {xs : List V} {g : TG} {as : List (List Int)} {F : List Int → Dt} (hS : Sta K G0 H0 D G M H) (hq : SqL K G a xs) (hr : Paired (RawI G) xs as) (hl : as.length ≤ 100000)
    (hs : ∀ x c L G1 vs es H1 (Z : List (Addr × HO) → List Dt → Prop), c ∈ as → RawI G1 x c → Same G G1 → H0 L = none → Sta K G0 H0 D G1 ((L, .lst vs) :: M) H1 → RpAll K G1 vs es → (∀ y G2 H2, Same G1 G2 → Sta K G0 H0 D G2 ((L, .lst vs) :: M) H2 → Rp K G2 y (F c) → LcY K G0 H0 D G L Z y H2) →
      g x (wipe σ vss) H1 fun σ2 H3 => wipe σ2 vss = wipe σ vss ∧ tt σ2 H3 fun b H4 => if b = true then te σ2 H4 (LcY K G0 H0 D G L Z) else LcP K G0 H0 D G L Z H4)
    (hd : ∀ p G1 H1, Same G G1 → Sta K G0 H0 D G1 M H1 → RpL K G1 p (as.map F) → Q (.ref p) H1) : LcG (Itl K a) g tt te vss σ Q H := by
  have hxl : xs.length = as.length := hr.length
  refine lcIM (walk_list (xs := xs)) hS (fun H1 e => e.seq hq) (fun i M1 es => M1 = M ∧ es = (as.take i).map F) ⟨rfl, rfl⟩ (fun i x L G1 M1 vs es H1 H2 hi e l0 s r w yy => ?_) (fun L G1 M1 vs es H1 e l0 s r w => ?_)
  · obtain ⟨rfl, rfl⟩ := w
    obtain ⟨rfl, hx⟩ := yy
    have hi2 : i < as.length := by omega
    obtain ⟨c, hc, rd⟩ := paired_get hr hx
    rw [List.getElem?_eq_getElem hi2] at hc
    cases hc
    refine hs x as[i] L G1 vs _ H2 _ (List.getElem_mem hi2) (rd.up e) e l0 s r fun y G2 H3 e2 s2 hy => ?_
    refine lcY s2 (e.trans e2) (r.up e2) hy (by simp; omega) ⟨rfl, ?_⟩
    rw [List.take_add_one, List.getElem?_eq_getElem hi2, List.map_append]
    rfl
  · obtain ⟨rfl, rfl⟩ := w
    rw [List.take_of_length_le (by omega)] at r
    obtain ⟨s2, e2⟩ := s.frz l0
    exact hd L _ H1 (e.trans e2) s2 ⟨vs, upd_same, r.up e2⟩
/-- list * n -/
theorem go_repL {l : Addr} {k : Int} {xs : List V} (hS : Sta K G0 H0 D G M H) (hx : G l = some (.lst xs)) (hk : 0 ≤ k) (hk2 : k ≤ 1000) (hl : xs.length * k.toNat ≤ 100000) (q : ∀ p G1 H1, Same G G1 → Sta K G0 H0 D G1 M H1 → G1 p = some (.lst (List.replicate k.toNat xs).flatten) → Q (.ref p) H1) : rRep (.ref l) (.int k) H Q :=
  ⟨l, k, xs, rfl, rfl, hS.gh _ _ hx, by omega, by omega, sz hl, fun p hp => q p _ _ (same_upd (hS.gn hp)) (hS.imm hp _) upd_same⟩
end
theorem rep_ints (n : Nat) : (List.replicate n [V.int 0]).flatten = (List.replicate n (0 : Int)).map V.int := by
  induction n with
  | zero => rfl
  | succ n ih => simp [List.replicate_succ, ih]
theorem rep_one {v : V} (n : Nat) : (List.replicate n [v]).flatten = List.replicate n v := by
  induction n with
  | zero => rfl
  | succ n ih => simp [List.replicate_succ, ih]
theorem paired_rep {G : Hp} {v : V} {r : List Int} (h : RawI G v r) : ∀ n : Nat, Paired (RawI G) (List.replicate n v) (List.replicate n r)
  | 0 => .nil
  | n + 1 => .cons h (paired_rep h n)
/-! ### a == b of two instances of one class by its own method -/
def tEqS (C : Addr) (sp : Sp) (E : L2.St → XK) (ta tb : TE) : TE := fun σ H Q => ta σ H fun x H1 => tb σ H1 fun y H2 => ∃ a b dx dy fs gs, x = .ref a ∧ y = .ref b ∧ H2 a = some (.ins C dx fs) ∧ H2 b = some (.ins C dy gs) ∧ sp [x, y] H2 Q (E σ)
theorem op_eqOwn {X : Cx} {CX : CXT} {k : Nat} {C f : Addr} {fd : FuncData} {ps : List Str} {sp : Sp} {E : XK} (hs : PySem.W.findIn X.K (.ref C) "__eq__" = some (some (.ref f))) (hf : PySem.W.isFn X.K (.ref f) = true) (F : FnOk X.prog X.w X.K X.mg X.base CX k f fd ps sp) (hr : Room k X.A) (hb : Binds X.K fd ps []) (hx : Passes CX X E) :
    OpR X (compareOp .Eq) (fun x y H Q => ∃ a b dx dy fs gs, x = .ref a ∧ y = .ref b ∧ H a = some (.ins C dx fs) ∧ H b = some (.ins C dy gs) ∧ sp [x, y] H Q E) := by
  intro pins s σ H x y v u Q I rx ry h
  obtain ⟨a, b, dx, dy, fs, gs, rfl, rfl, ea, eb, q⟩ := h
  obtain rfl : v = Value.ref a := rx
  obtain rfl : u = Value.ref b := ry
  obtain ⟨mA, O, _, _, _, _⟩ := ins_get I.hok ea
  obtain ⟨od, J, _⟩ := O.look
  obtain ⟨mB, O', _, _, _, _⟩ := ins_get I.hok eb
  obtain ⟨od', J', _⟩ := O'.look
  obtain ⟨m, Fm⟩ := I.fr
  refine PySem.W.cmp_K (op := .Eq) (tb := .ref C) hr.units0 Fm I.mod.kin J J'.type (by simp [PySem.W.notFirst]) hs hf (wpAny_mono (run_fn (us := [.ref a, .ref b]) (vs := [.ref a, .ref b]) (ds := []) (dvs := []) F hr hb .nil hx I (.cons rfl (.cons rfl .nil)) (by simpa using q)) (fun v s' hv => ?_) fun _ _ z => z)
  obtain ⟨v', H3, I3, rv, q3⟩ := hv
  have r0 := rv
  cases v' <;> first | (cases rv; exact ⟨_, H3, I3, r0, q3⟩) | (obtain ⟨t, rfl⟩ := rv; exact ⟨_, H3, I3, r0, q3⟩)
end B
namespace B
/-! ### matrices of residues as lists of rows: plain -/
def sm (n : Nat) (f : Nat → Int) : Int := ((List.range n).map f).sum
theorem sm_zero (f : Nat → Int) : sm 0 f = 0 := rfl
theorem sm_succ (n : Nat) (f : Nat → Int) : sm (n + 1) f = sm n f + f n := by
  simp [sm, List.range_succ]
theorem sm_congr {n : Nat} {f g : Nat → Int} (h : ∀ k, k < n → f k = g k) : sm n f = sm n g := by
  induction n with
  | zero => rfl
  | succ n ih => rw [sm_succ, sm_succ, ih fun k hk => h k (by omega), h n (by omega)]
theorem sm_add (n : Nat) (f g : Nat → Int) : sm n (fun k => f k + g k) = sm n f + sm n g := by
  induction n with
  | zero => rfl
  | succ n ih => rw [sm_succ, sm_succ, sm_succ, ih]; omega
theorem sm_mul (n : Nat) (f : Nat → Int) (c : Int) : sm n (fun k => f k * c) = sm n f * c := by
  induction n with
  | zero => simp [sm]
  | succ n ih => rw [sm_succ, sm_succ, ih, Int.add_mul]
theorem sm_mul_left (n : Nat) (f : Nat → Int) (c : Int) : sm n (fun k => c * f k) = c * sm n f := by
  rw [Int.mul_comm, ← sm_mul]
  exact sm_congr fun k _ => Int.mul_comm _ _
theorem sm_zeros (n : Nat) : sm n (fun _ => 0) = 0 := by
  induction n with
  | zero => rfl
  | succ n ih => rw [sm_succ, ih]; rfl
theorem sm_comm (n m : Nat) (f : Nat → Nat → Int) : sm n (fun k => sm m (f k)) = sm m fun j => sm n fun k => f k j := by
  induction n with
  | zero => exact (sm_zeros m).symm
  | succ n ih =>
    rw [sm_succ, ih, ← sm_add]
    exact sm_congr fun j _ => (sm_succ n _).symm
theorem sm_mod (n : Nat) (f : Nat → Int) (b : Int) : sm n (fun k => f k % b) % b = sm n f % b := by
  induction n with
  | zero => rfl
  | succ n ih => rw [sm_succ, sm_succ, Int.add_emod, ih, Int.emod_emod, ← Int.add_emod]
theorem sm_mod_congr {n : Nat} {f g : Nat → Int} {b : Int} (h : ∀ k, k < n → f k % b = g k % b) : sm n f % b = sm n g % b := by
  rw [← sm_mod n f, ← sm_mod n g, sm_congr h]
theorem sm_one (n i : Nat) (hi : i < n) (f : Nat → Int) : sm n (fun k => (if i = k then 1 else 0) * f k) = f i := by
  induction n with
  | zero => omega
  | succ n ih =>
    rw [sm_succ]
    by_cases e : i = n
    · subst e
      have : sm i (fun k => (if i = k then 1 else 0) * f k) = sm i fun _ => 0 := sm_congr fun k hk => by rw [if_neg (by omega), Int.zero_mul]
      rw [this, sm_zeros, if_pos rfl]
      omega
    · rw [ih (by omega), if_neg e]
      omega
theorem sm_one' (n i : Nat) (hi : i < n) (f : Nat → Int) : sm n (fun k => f k * (if k = i then 1 else 0)) = f i := by
  rw [← sm_one n i hi f]
  refine sm_congr fun k _ => ?_
  by_cases e : k = i
  · rw [if_pos e, if_pos e.symm, Int.mul_comm]
  · rw [if_neg e, if_neg (fun z => e z.symm), Int.mul_comm]
abbrev ent (rs : List (List Int)) (i j : Nat) : Int := (rs.getD i []).getD j 0
def mkM (h w : Nat) (f : Nat → Nat → Int) : List (List Int) := (List.range h).map fun i => (List.range w).map fun j => f i j
theorem mkM_len (h w : Nat) (f : Nat → Nat → Int) : (mkM h w f).length = h := by simp [mkM]
theorem mkM_ent {h w : Nat} {f : Nat → Nat → Int} {i j : Nat} (hi : i < h) (hj : j < w) : ent (mkM h w f) i j = f i j := by
  simp [ent, mkM, hi, hj, List.getD]
theorem mkM_congr {h w : Nat} {f g : Nat → Nat → Int} (e : ∀ i j, i < h → j < w → f i j = g i j) : mkM h w f = mkM h w g := by
  refine List.map_congr_left fun i hi => List.map_congr_left fun j hj => e i j (List.mem_range.mp hi) (List.mem_range.mp hj)
theorem mkM_eta {rs : List (List Int)} {w : Nat} (h : ∀ r ∈ rs, r.length = w) : rs = mkM rs.length w (ent rs) := by
  apply List.ext_getElem
  · rw [mkM_len]
  · intro i hi hi'
    have hl := h rs[i] (List.getElem_mem hi)
    simp only [mkM, List.getElem_map, List.getElem_range]
    apply List.ext_getElem
    · simp [hl]
    · intro j hj hj'
      simp [ent, hi, hj, List.getD]
theorem mkM_row {h w : Nat} {f : Nat → Nat → Int} {r : List Int} (hr : r ∈ mkM h w f) : r.length = w := by
  obtain ⟨i, _, rfl⟩ := List.mem_map.mp hr
  simp
theorem mkM_mem {h w : Nat} {f : Nat → Nat → Int} {r : List Int} (hr : r ∈ mkM h w f) {e : Int} (he : e ∈ r) : ∃ i j, i < h ∧ j < w ∧ e = f i j := by
  obtain ⟨i, hi, rfl⟩ := List.mem_map.mp hr
  obtain ⟨j, hj, rfl⟩ := List.mem_map.mp he
  exact ⟨i, j, List.mem_range.mp hi, List.mem_range.mp hj, rfl⟩
/-- the product; the width of the second one is told -/
def muF (b : Int) (rs qs : List (List Int)) (w : Int) : List (List Int) := mkM rs.length w.toNat fun i j => sm qs.length (fun k => ent rs i k * ent qs k j) % b
def idM (n : Int) : List (List Int) := mkM n.toNat n.toNat fun i j => if i = j then 1 else 0
theorem muF_len (b : Int) (rs qs : List (List Int)) (w : Int) : (muF b rs qs w).length = rs.length := mkM_len _ _ _
theorem muF_assoc {b : Int} {rs qs ts : List (List Int)} {w v : Int} (hq : qs.length ≤ qs.length) (hw : ts.length = w.toNat) : muF b (muF b rs qs w) ts v = muF b rs (muF b qs ts v) v := by
  unfold muF
  rw [mkM_len, mkM_len]
  refine mkM_congr fun i l hi hl => ?_
  have e1 : sm ts.length (fun j => ent (mkM rs.length w.toNat fun i j => sm qs.length (fun k => ent rs i k * ent qs k j) % b) i j * ent ts j l) % b = sm ts.length (fun j => sm qs.length (fun k => ent rs i k * ent qs k j * ent ts j l)) % b := by
    refine sm_mod_congr fun j hj => ?_
    rw [mkM_ent hi (by omega), sm_mul, Int.mul_emod, Int.emod_emod, ← Int.mul_emod]
  have e2 : sm qs.length (fun k => ent rs i k * ent (mkM qs.length v.toNat fun i j => sm ts.length (fun k => ent qs i k * ent ts k j) % b) k l) % b = sm qs.length (fun k => sm ts.length (fun j => ent rs i k * ent qs k j * ent ts j l)) % b := by
    refine sm_mod_congr fun k hk => ?_
    rw [mkM_ent hk hl, Int.mul_emod, Int.emod_emod, ← Int.mul_emod, ← sm_mul_left]
    exact congrArg (· % b) (sm_congr fun j _ => by rw [Int.mul_assoc])
  rw [e1, e2, sm_comm]
theorem muF_id {b : Int} {qs : List (List Int)} {w n : Int} (hn : qs.length = n.toNat) (hb : ∀ i j, i < qs.length → j < w.toNat → 0 ≤ ent qs i j ∧ ent qs i j < b) (hw : ∀ r ∈ qs, r.length = w.toNat) : muF b (idM n) qs w = qs := by
  conv => rhs; rw [mkM_eta hw]
  unfold muF
  rw [idM, mkM_len, ← hn]
  refine mkM_congr fun i j hi hj => ?_
  have : sm qs.length (fun k => ent (mkM qs.length qs.length fun i j => if i = j then 1 else 0) i k * ent qs k j) = sm qs.length (fun k => (if i = k then 1 else 0) * ent qs k j) := sm_congr fun k hk => by rw [mkM_ent hi hk]
  rw [this, sm_one _ _ hi]
  have := hb i j hi hj
  exact Int.emod_eq_of_lt this.1 this.2
theorem idF_id {b : Int} {rs : List (List Int)} {w : Int} (hb : ∀ i j, i < rs.length → j < w.toNat → 0 ≤ ent rs i j ∧ ent rs i j < b) (hw : ∀ r ∈ rs, r.length = w.toNat) : muF b rs (idM w) w = rs := by
  conv => rhs; rw [mkM_eta hw]
  unfold muF
  refine mkM_congr fun i j hi hj => ?_
  rw [idM, mkM_len]
  have : sm w.toNat (fun k => ent rs i k * ent (mkM w.toNat w.toNat fun i j => if i = j then 1 else 0) k j) = sm w.toNat (fun k => ent rs i k * (if k = j then 1 else 0)) := sm_congr fun k hk => by rw [mkM_ent hk hj]
  rw [this, sm_one' _ _ hj]
  have := hb i j hi hj
  exact Int.emod_eq_of_lt this.1 this.2
theorem sum_range_getD (r : List Int) (g : Nat → Int) : ((List.range r.length).map fun k => r.getD k 0 * g k).sum = sm r.length fun k => r.getD k 0 * g k := rfl
theorem zip_sm : ∀ (r s : List Int), r.length = s.length → (List.zipWith (fun a c => a * c) r s).sum = sm r.length fun k => r.getD k 0 * s.getD k 0
  | r, s, h => by
    have e : List.zipWith (fun a c => a * c) r s = (List.range r.length).map fun k => r.getD k 0 * s.getD k 0 := by
      apply List.ext_getElem
      · simp; omega
      · intro i hi hi'
        rw [List.length_zipWith] at hi
        simp [List.getD, show i < r.length by omega, show i < s.length by omega]
    rw [e]
    rfl
end B
namespace B
open PySem PySem.Spec PyProof.Rows L2 RZ
/-! ### more loops and comprehensions -/
section
variable {K : PySem.W.Frag} {G0 H0 G H : Hp} {D : List Addr} {M : List (Addr × HO)} {σ σ' : L2.St} {Q : VK} {tt : TT} {ta te : TE} {ds fs : List Dt} {vss : List Nat} {nx bk ct : L2.St → Hp → Prop} {rt : VK} {t : TS} {x y : V} {d : Dt}
/-- what follows a statement is shown once, from what holds behind it -/
theorem go_join (W : L2.St → Hp → Prop) (h1 : ∀ N : L2.St → Hp → Prop, (∀ σ' H', W σ' H' → N σ' H') → t ⟨N, rt, bk, ct⟩ σ H) (h2 : ∀ σ' H', W σ' H' → nx σ' H') : t ⟨nx, rt, bk, ct⟩ σ H := h1 nx h2
/-- for i, x in enumerate(list) -/
theorem forE {a : Addr} {xs : List V} {i1 j1 : Nat} (hS : Sta K G0 H0 D G M H) (hq : SqL K G a xs) (hr : RpAll K G xs ds) (W : Nat → L2.St → Hp → List (Addr × HO) → Prop) (h0 : W 0 σ G M)
    (hs : ∀ i x d σ' G1 M1 H1, i < ds.length → ds[i]? = some d → Same G G1 → Sta K G0 H0 D G1 M1 H1 → Rp K G1 x d → (∃ G2, Same G2 G1 ∧ W i σ' G2 M1) → ∀ σ2, List.set (List.set σ' i1 (some (.int i))) j1 (some x) = σ2 → t ⟨Nx K G0 H0 D G (W (i + 1)), rt, nx, Nx K G0 H0 D G (W (i + 1))⟩ σ2 H1)
    (hd : ∀ σ' G1 M1 H1, Same G G1 → Sta K G0 H0 D G1 M1 H1 → W ds.length σ' G1 M1 → nx σ' H1) : ForG (Ite K a) (gTup K 2 (gCons (gName i1) (gCons (gName j1) gNil))) t ⟨nx, rt, bk, ct⟩ σ H :=
  forI (walk_enum (xs := xs)) hS (fun H1 e => e.seq hq) W h0 (fun i x σ' G1 M1 H1 H2 hi e s w y => by
    obtain ⟨T, u, v, rfl, hT, eH, h1, h2⟩ := y
    cases h1
    obtain ⟨d, hd', rd⟩ := hr.getV h2
    obtain ⟨G2, e2, s2, q2⟩ := s.pair hT eH
    exact go_gpair q2 rfl (hs i v d σ' G2 M1 H2 (by rw [← hr.length]; exact hi) hd' (e.trans e2) s2 (rd.up (e.trans e2)) ⟨G1, e2, w⟩ _ rfl)) (by rw [hr.length]; exact hd)
/-- a comprehension over a range whose turns draw -/
theorem lcDrawR {lo : Int} {n c : Nat} {g : TG} {a r : Addr} {at_ : Int} {j : Nat} (hS : Sta K G0 H0 D G M H) (hj : M[j]? = some (a, drw r at_)) (hl : n ≤ 100000) (P : Nat → Dt → Prop)
    (hs : ∀ (i : Nat) L G1 at1 vs es H1 (Z : List (Addr × HO) → List Dt → Prop), i < n → Same G G1 → H0 L = none → at_ ≤ at1 → at1 ≤ at_ + (c * i : Nat) → Sta K G0 H0 D G1 ((L, .lst vs) :: M.set j (a, drw r at1)) H1 → RpAll K G1 vs es →
      (∀ y d at2 G2 H2, Same G1 G2 → Sta K G0 H0 D G2 ((L, .lst vs) :: M.set j (a, drw r at2)) H2 → at1 ≤ at2 → at2 ≤ at1 + c → Rp K G2 y d → P i d → LcY K G0 H0 D G L Z y H2) →
      g (.int (lo + i)) (wipe σ vss) H1 fun σ2 H3 => wipe σ2 vss = wipe σ vss ∧ tt σ2 H3 fun b H4 => if b = true then te σ2 H4 (LcY K G0 H0 D G L Z) else LcP K G0 H0 D G L Z H4)
    (hd : ∀ L at1 vs es G1 H1, Same G G1 → H0 L = none → at_ ≤ at1 → at1 ≤ at_ + (c * n : Nat) → Sta K G0 H0 D G1 ((L, .lst vs) :: M.set j (a, drw r at1)) H1 → RpAll K G1 vs es → es.length = n → (∀ i d, es[i]? = some d → P i d) → Q (.ref L) H1) : LcG (Itr lo n) g tt te vss σ Q H := by
  have m0 : M = M.set j (a, drw r at_) := by
    apply List.ext_getElem?
    intro i
    rw [List.getElem?_set]
    split
    · rename_i e
      subst e
      rw [hj]
      have := (List.getElem?_eq_some_iff.mp hj).1
      rw [if_pos this]
    · rfl
  refine lcIM walk_range hS (fun _ _ => trivial) (fun i M1 es => ∃ at1, M1 = M.set j (a, drw r at1) ∧ at_ ≤ at1 ∧ at1 ≤ at_ + (c * i : Nat) ∧ es.length = i ∧ ∀ k d, es[k]? = some d → P k d) ⟨at_, m0, Int.le_refl _, by simp, rfl, fun k d e => by simp at e⟩ (fun i x L G1 M1 vs es H1 H2 hi e l0 s rr w yy => ?_) (fun L G1 M1 vs es H1 e l0 s rr w => ?_)
  · obtain ⟨at1, rfl, a1, a2, el, hp⟩ := w
    obtain ⟨rfl, rfl⟩ := yy
    refine hs i L G1 at1 vs es H2 _ hi e l0 a1 a2 s rr fun y d at2 G2 H3 e2 s2 b1 b2 hy hP => ?_
    refine lcY s2 (e.trans e2) (rr.up e2) hy (by omega) ⟨at2, rfl, by omega, ?_, by simp [el], fun k d' hk => ?_⟩
    · have : ((c * (i + 1) : Nat) : Int) = ((c * i : Nat) : Int) + c := by rw [Nat.mul_succ]; exact Int.natCast_add _ _
      omega
    · by_cases ek : k < es.length
      · rw [List.getElem?_append_left ek] at hk
        exact hp k d' hk
      · rw [List.getElem?_append_right (by omega)] at hk
        have : k - es.length = 0 := by
          cases z : k - es.length with
          | zero => rfl
          | succ z' => rw [z] at hk; simp at hk
        rw [this] at hk
        cases Option.some.inj hk
        have : k = i := by omega
        rw [this]; exact hP
  · obtain ⟨at1, rfl, a1, a2, el, hp⟩ := w
    exact hd L at1 vs es G1 H1 e l0 a1 a2 s rr el hp
/-- over a range: ints, a list known as it is -/
theorem lcRawI {lo : Int} {n : Nat} {g : TG} {F : Nat → Int} (hS : Sta K G0 H0 D G M H) (hl : n ≤ 100000)
    (hs : ∀ (i : Nat) L G1 vs es H1 (Z : List (Addr × HO) → List Dt → Prop), i < n → Same G G1 → H0 L = none → Sta K G0 H0 D G1 ((L, .lst vs) :: M) H1 → RpAll K G1 vs es → (∀ y G2 H2, Same G1 G2 → Sta K G0 H0 D G2 ((L, .lst vs) :: M) H2 → Rp K G2 y (.int (F i)) → LcY K G0 H0 D G L Z y H2) →
      g (.int (lo + i)) (wipe σ vss) H1 fun σ2 H3 => wipe σ2 vss = wipe σ vss ∧ tt σ2 H3 fun b H4 => if b = true then te σ2 H4 (LcY K G0 H0 D G L Z) else LcP K G0 H0 D G L Z H4)
    (hd : ∀ p G1 H1, Same G G1 → Sta K G0 H0 D G1 M H1 → G1 p = some (.lst (((List.range n).map F).map .int)) → Q (.ref p) H1) : LcG (Itr lo n) g tt te vss σ Q H := by
  refine lcIM walk_range hS (fun _ _ => trivial) (fun i M1 es => M1 = M ∧ es = (List.range i).map fun k => .int (F k)) ⟨rfl, rfl⟩ (fun i x L G1 M1 vs es H1 H2 hi e l0 s r w yy => ?_) (fun L G1 M1 vs es H1 e l0 s r w => ?_)
  · obtain ⟨rfl, rfl⟩ := w
    obtain ⟨rfl, rfl⟩ := yy
    refine hs i L G1 vs _ H2 _ hi e l0 s r fun y G2 H3 e2 s2 hy => ?_
    refine lcY s2 (e.trans e2) (r.up e2) hy (by simp; omega) ⟨rfl, ?_⟩
    rw [List.range_succ, List.map_append]
    rfl
  · obtain ⟨rfl, rfl⟩ := w
    obtain ⟨s2, e2⟩ := s.frz l0
    have ei : (List.range n).map (fun k => Dt.int (F k)) = ((List.range n).map F).map .int := by rw [List.map_map]; rfl
    rw [ei] at r
    have := r.ints_inv
    subst this
    exact hd L _ H1 (e.trans e2) s2 upd_same
/-- over a range: lists of ints, all known as they are -/
theorem lcRawR {lo : Int} {n : Nat} {g : TG} {F : Nat → List Int} (hS : Sta K G0 H0 D G M H) (hl : n ≤ 100000)
    (hs : ∀ (i : Nat) L G1 vs H1 (Z : VK) (ZP : Hp → Prop), i < n → Same G G1 → H0 L = none → Sta K G0 H0 D G1 ((L, .lst vs) :: M) H1 → (∀ y G2 H2, Same G1 G2 → Sta K G0 H0 D G2 ((L, .lst vs) :: M) H2 → RawI G2 y (F i) → Z y H2) →
      g (.int (lo + i)) (wipe σ vss) H1 fun σ2 H3 => wipe σ2 vss = wipe σ vss ∧ tt σ2 H3 fun b H4 => if b = true then te σ2 H4 Z else ZP H4)
    (hd : ∀ p G1 H1, Same G G1 → Sta K G0 H0 D G1 M H1 → H p = none → (∃ vs, G1 p = some (.lst vs) ∧ Paired (RawI G1) vs ((List.range n).map F)) → Q (.ref p) H1) : LcG (Itr lo n) g tt te vss σ Q H := by
  intro L hL
  have l0 := hS.h0 hL
  refine lc_it walk_range (fun i H1 => ∃ G1 vs, Same G G1 ∧ Sta K G0 H0 D G1 ((L, .lst vs) :: M) H1 ∧ Paired (RawI G1) vs ((List.range i).map F)) ⟨G, [], Same.refl G, hS.mut hL _, .nil⟩ (fun i H1 _ _ => trivial) (fun i x H1 H2 hi p y => ?_) (fun H1 p => ?_)
  · obtain ⟨G1, vs, e, s, r⟩ := p
    obtain ⟨rfl, rfl⟩ := y
    refine hs i L G1 vs H2 _ _ hi e l0 s fun y G2 H3 e2 s2 hy => ?_
    have hvl : vs.length = i := by rw [r.length]; simp
    exact ⟨vs, s2.get (i := 0) rfl, by rw [hvl]; exact Nat.lt_of_lt_of_le (show i < 100000 by omega) (by decide), G2, vs ++ [y], e.trans e2, s2.set (i := 0) rfl _, by
      rw [List.range_succ, List.map_append]
      exact pairedI_snoc hy (pairedI_up e2 r)⟩
  · obtain ⟨G1, vs, e, s, r⟩ := p
    obtain ⟨s2, e2⟩ := s.frz l0
    exact hd L _ H1 (e.trans e2) s2 hL ⟨vs, upd_same, pairedI_up e2 r⟩
end
end B
namespace B
open PySem PySem.Spec PyProof.Rows L2 RZ
/-! ### == of tuples whose items are asked by their own ==, both answers -/
section
open PySem.SeqAt PySem.AutoSeq1 MeetsSeq MeetsSeq2 MeetsSeq3 SeqRoads2
variable {prog : Program} {w : World} {A : Around} {R : Result → Shared → Prop}
theorem tup_eqB (l b : Addr) (us vs : Array Value) (n m : Nat) (dl db : Option Addr) (sl sb : Array (Option Value)) (e : Nat → Bool) (I : Nat → Shared → Prop)
    (ask : ∀ i (h1 : i < us.size) (h2 : i < vs.size) s, I i s → wpAny (model prog w) A.in1 (eqBool us[i] vs[i]) (fun r s' => r = e i ∧ I (i + 1) s') (fun x s' => R (.error x) s') s)
    (out : ∀ i s r, I i s → r = ((List.range (min us.size vs.size)).all e && us.size == vs.size) → R (.ok (.ret (.bool r))) s) {s : Shared} (hl : s.heap.get? l = some { cls := .type "tuple", dict := dl, data := .seq us n, slots := sl }) (hb : s.heap.get? b = some { cls := .type "tuple", dict := db, data := .seq vs m, slots := sb }) (h : I 0 s) :
    wpAny (model prog w) A.in1 (Builtin.«tuple.__eq__» ⟨[.ref l, .ref b], []⟩) (GQ.FinOf prog w A R) (fun x s' => R (.error x) s') s := by
  have sub := AutoSeq1.sub_tuple_tuple
  have len : (us.toList.zip vs.toList).length = min us.size vs.size := by simp
  have start := h
  obtain ⟨hp, g, d, tk, os⟩ := s
  wp_walk using wpAny_loadPart' hl, wpAny_loadPart' hb, wpAny_forIn_list _ (fun rest q s' => q.1 = none ∧ ∃ i, rest = (us.toList.zip vs.toList).drop i ∧ (∀ j, j < i → e j = true) ∧ i ≤ min us.size vs.size ∧ I i s') _
  case turn =>
    rintro ⟨y, x⟩ rest q s' ⟨hq, i, hz, hall, hi, hI⟩
    have lt : i < (us.toList.zip vs.toList).length := Nat.lt_of_not_le fun no => by
      rw [List.drop_of_length_le no] at hz
      cases hz
    have h1 : i < us.size := by omega
    have h2 : i < vs.size := by omega
    rw [List.drop_eq_getElem_cons lt] at hz
    injection hz with hyx more
    obtain rfl : y = us[i] := by simpa using congrArg Prod.fst hyx
    obtain rfl : x = vs[i] := by simpa using congrArg Prod.snd hyx
    refine wpAny_bind (wpAny_mono (ask i h1 h2 s' hI) (fun r s2 q2 => ?_) fun _ _ z => z)
    obtain ⟨hr, q2⟩ := q2
    cases er : e i with
    | true =>
      rw [er] at hr
      subst hr
      wp_walk
      refine ⟨rfl, i + 1, more, fun j hj => ?_, by omega, q2⟩
      by_cases ej : j = i
      · rw [ej]; exact er
      · exact hall j (by omega)
    | false =>
      rw [er] at hr
      subst hr
      have no : ((List.range (min us.size vs.size)).all e && us.size == vs.size) = false := by
        rw [Bool.and_eq_false_iff]
        left
        exact List.all_eq_false.mpr ⟨i, List.mem_range.mpr (by omega), by rw [er]; decide⟩
      have fin := out (i + 1) s2 false q2 no.symm
      wp_walk
      exact fin
  case fin =>
    rintro ⟨b1, b2⟩ s' ⟨hq, i, hz, hall, hi, hI⟩
    simp only at hq
    subst hq
    have ge : min us.size vs.size ≤ i := Nat.le_of_not_lt fun no => by
      rw [List.drop_eq_getElem_cons (by omega)] at hz
      cases hz
    have al : (List.range (min us.size vs.size)).all e = true := List.all_eq_true.mpr fun j hj => hall j (by have := List.mem_range.mp hj; omega)
    have fin := out i s' (us.size == vs.size) hI (by rw [al, Bool.true_and])
    wp_walk
    simpa [Builtin.Tuple.tupleCompareSizes] using fin
  case h => exact ⟨rfl, 0, rfl, fun j hj => absurd hj (Nat.not_lt_zero _), Nat.zero_le _, start⟩
end
section
variable {prog : Program} {w : World} {A : Around} {E : Value → Shared → Prop} {s : Shared}
theorem rc_tupB {l b : Addr} {us vs : Array Value} {Q : Value → Shared → Prop} (hu : A.units < cLine) (e : Nat → Bool) (I : Nat → Shared → Prop) (hl : s.heap.IsTuple l us) (hb : s.heap.IsTuple b vs)
    (ask : ∀ i (h1 : i < us.size) (h2 : i < vs.size) s, I i s → wpAny (model prog w) A.in1 (eqBool us[i] vs[i]) (fun r s' => r = e i ∧ I (i + 1) s') E s)
    (out : ∀ i s r, I i s → r = ((List.range (min us.size vs.size)).all e && us.size == vs.size) → Q (.bool r) s) (h : I 0 s) : wpAny (model prog w) A (richCompare .Eq (.ref l) (.ref b)) Q E s := by
  obtain ⟨⟨cl, dl, al, sl⟩, ol, hcl, n, hdl⟩ := id hl
  obtain ⟨⟨cb, db, ab, sb⟩, ob, hcb, m, hdb⟩ := id hb
  simp only at hcl hdl hcb hdb
  subst hcl hdl hcb hdb
  refine wpAny_richCompare_same_room (op := .Eq) ⟨_, ol, rfl⟩ ⟨_, ob, rfl⟩ F.slot_tuple_eq (GQ.call_here F.slot_tuple_eq ⟨_, ol, rfl⟩ F.entry_tuple_eq (F.args_tuple_eq_2 _ _) ?_) hu
  exact tup_eqB (R := wants (fun v s' => v ≠ .notImplemented ∧ Q v s') E) l b us vs n m dl db sl sb e I ask (fun i s' r q er => ⟨(fun z => nomatch z), out i s' r q er⟩) ol ob h
end
/-- == by what D says, making new objects alone -/
abbrev Eqb := V → V → Bool → Hp → Prop
def EqB (X : Cx) (n : Nat) (D : Eqb) : Prop :=
  ∀ (A : Around) (pins : List (Addr × Obj)) (s : Shared) (σ : L2.St) (H : Hp) (x y : V) (r : Bool) (u v : Value), Sub X n A → Inv X pins σ H s → RelV x u → RelV y v → D x y r H →
    wpAny (model X.prog X.w) A (eqBool u v) (fun q s' => q = r ∧ ∃ H', Inv X pins σ H' s' ∧ Same H H') X.xe s
def RcB (X : Cx) (n : Nat) (D : Eqb) : Prop :=
  ∀ (A : Around) (pins : List (Addr × Obj)) (s : Shared) (σ : L2.St) (H : Hp) (x y : V) (r : Bool) (u v : Value), Sub X n A → Inv X pins σ H s → RelV x u → RelV y v → D x y r H →
    wpAny (model X.prog X.w) A (richCompare .Eq u v) (fun q s' => q = .bool r ∧ ∃ H', Inv X pins σ H' s' ∧ Same H H') X.xe s
def MonB (D : Eqb) : Prop := ∀ x y r H H', Same H H' → D x y r H → D x y r H'
/-- what is one object is seen to be equal -/
def OneB (X : Cx) (D : Eqb) : Prop := ∀ pins σ H s a r, Inv X pins σ H s → D (.ref a) (.ref a) r H → r = true
def DTupB (K : PySem.W.Frag) (D : Eqb) : Eqb := fun x y r H => ∃ a b xs ys e, x = .ref a ∧ y = .ref b ∧ SqT K H a xs ∧ SqT K H b ys ∧ (∀ (i : Nat) u v, xs[i]? = some u → ys[i]? = some v → D u v (e i) H) ∧ r = ((List.range (min xs.length ys.length)).all e && xs.length == ys.length)
def DInsB (C : Addr) (R : Addr → Addr → Bool → Hp → Prop) : Eqb := fun x y r H => ∃ a b dx dy fs gs, x = .ref a ∧ y = .ref b ∧ H a = some (.ins C dx fs) ∧ H b = some (.ins C dy gs) ∧ R a b r H
def spEqB (R : Addr → Addr → Bool → Hp → Prop) : Sp := fun vs H Q _ => ∃ a b r, vs = [.ref a, .ref b] ∧ R a b r H ∧ ∀ H', Same H H' → Q (.bl r) H'
section
variable {X : Cx} {n m : Nat} {D : Eqb}
theorem rcB_tup (hD : MonB D) (h : EqB X n D) : RcB X (n + 1) (DTupB X.K D) := by
  intro A pins s σ H x y r u v sb I rx ry d
  obtain ⟨a, b, xs, ys, e, rfl, rfl, ha, hb, p, er⟩ := d
  cases rx
  cases ry
  obtain ⟨its, rv, t1, z1⟩ := I.tuple ha
  obtain ⟨its2, rv2, t2, z2⟩ := I.tuple hb
  refine rc_tupB sb.room.units0 e (fun _ s' => ∃ H', Inv X pins σ H' s' ∧ Same H H') t1 t2 (fun i h1 h2 s' q => ?_) (fun i s' r' q er' => ⟨?_, q⟩) ⟨H, I, Same.refl H⟩
  · obtain ⟨H1, I1, e1⟩ := q
    have k1 : i < its.length := by simpa using h1
    have k2 : i < its2.length := by simpa using h2
    have l1 : i < xs.length := by rw [rv.length]; exact k1
    have l2 : i < ys.length := by rw [rv2.length]; exact k2
    obtain ⟨u', hu, ru⟩ := rv.get (List.getElem?_eq_getElem l1)
    obtain ⟨v', hv, rv'⟩ := rv2.get (List.getElem?_eq_getElem l2)
    rw [List.getElem?_eq_getElem k1] at hu
    rw [List.getElem?_eq_getElem k2] at hv
    cases hu
    cases hv
    have := h A.in1 pins s' σ H1 _ _ (e i) its[i] its2[i] sb.in1 I1 ru rv' (hD _ _ _ _ _ e1 (p i _ _ (List.getElem?_eq_getElem l1) (List.getElem?_eq_getElem l2)))
    simp only [List.getElem_toArray]
    refine wpAny_mono this (fun q s2 z => ?_) fun _ _ z => z
    obtain ⟨hq, H2, I2, e2⟩ := z
    exact ⟨hq, H2, I2, e1.trans e2⟩
  · rw [er', er, List.size_toArray, List.size_toArray, rv.length, rv2.length]
theorem rcB_ins {CX : CXT} {C f : Addr} {fd : FuncData} {ps : List Str} {R : Addr → Addr → Bool → Hp → Prop} {E : XK} (F : FnOk X.prog X.w X.K X.mg X.base CX n f fd ps (spEqB R))
    (hs : PySem.W.findIn X.K (.ref C) "__eq__" = some (some (.ref f))) (hf : PySem.W.isFn X.K (.ref f) = true) (hb : Binds X.K fd ps []) (hx : Passes CX X E) : RcB X n (DInsB C R) := by
  intro A pins s σ H x y r u v sb I rx ry d
  obtain ⟨a, b, dx, dy, fs, gs, rfl, rfl, ha, hb', hr⟩ := d
  cases rx
  cases ry
  obtain ⟨mA, J, _⟩ := ins_get I.hok ha
  obtain ⟨mB, J', _⟩ := ins_get I.hok hb'
  obtain ⟨od, J, _⟩ := J.look
  obtain ⟨od', J', _⟩ := J'.look
  obtain ⟨m, hF⟩ := I.fr
  refine PySem.W.cmp_K (op := .Eq) (tb := .ref C) sb.room.units0 hF I.ok.mod.kin J J'.type (by simp [PySem.W.notFirst]) hs hf ?_
  have hsp : spEqB R [.ref a, .ref b] H (fun v H' => v = .bl r ∧ Same H H') E := ⟨a, b, r, rfl, hr, fun H' e => ⟨rfl, e⟩⟩
  have e0 : Env0 X.prog X.w X.K X.mg X.base A X.stack s H := by
    have z := I.env0
    exact ⟨by rw [sb.fr]; exact z.frames, z.mod, z.bs, z.bsz, z.funs, z.frf, z.hok, z.bare⟩
  have hl := F.len _ _ _ _ hsp
  have r2 : Vals [V.ref a, V.ref b] [Value.ref a, Value.ref b] := .cons rfl (.cons rfl .nil)
  refine wpAny_call (codeAny_mono (F.run A X.stack s H ⟨[.ref a, .ref b], []⟩ [.ref a, .ref b] [.ref a, .ref b] _ E sb.room e0 (by
    have z := hb s [.ref a, .ref b] I.kIn (by simpa using hl)
    simpa using z) r2 hsp) fun q s' hq => ?_)
  cases q with
  | error x => exact hx pins σ H s x s' I hq
  | ok fl =>
    cases fl with
    | ret w' =>
      obtain ⟨z, H', I', rz, ez, ex⟩ := I.after hq
      subst ez
      cases rz
      exact ⟨rfl, H', I', ex⟩
    | next => exact False.elim hq
    | brk => exact False.elim hq
    | cont => exact False.elim hq
theorem RcB.eqB (h : RcB X n D) (one : OneB X D) (hr : ∀ x y r H, D x y r H → ∃ a b, x = .ref a ∧ y = .ref b) : EqB X n D := by
  intro A pins s σ H x y r u v sb I rx ry d
  obtain ⟨a, b, rfl, rfl⟩ := hr _ _ _ _ d
  cases rx
  cases ry
  by_cases hab : a = b
  · subst hab
    have := one _ _ _ _ _ _ I d
    subst this
    exact SeqAt.EqAt.same (A := A) (s := s) (.ref a) X.prog X.w X.xe _ ⟨rfl, H, I, Same.refl H⟩
  · refine GQ.eqBool_refG hab (wpAny_mono (h A pins s σ H (.ref a) (.ref b) r _ _ sb I rfl rfl d) (fun q s' z => ?_) fun _ _ z => z)
    obtain ⟨hq, z⟩ := z
    exact ⟨r, hq, rfl, z⟩
/-- x == y as an expression -/
def rEqB (D : Eqb) : R2 := fun x y H Q => ∃ r, D x y r H ∧ ∀ H', Same H H' → Q (.bl r) H'
theorem op_eqB (h : RcB X n D) (hr : Room n X.A) : OpR X (compareOp .Eq) (rEqB D) := by
  intro pins s σ H x y v u Q I rx ry hq
  obtain ⟨r, d, q⟩ := hq
  show wpAny (model X.prog X.w) X.A (richCompare .Eq v u) (EP X pins σ Q) X.xe s
  refine wpAny_mono (h X.A pins s σ H x y r v u ⟨hr, rfl⟩ I rx ry d) (fun w' s' z => ?_) fun _ _ z => z
  obtain ⟨hr', H', I', e⟩ := z
  subst hr'
  exact ⟨.bl r, H', I', rfl, q H' e⟩
/-- the data of a value are told by the heap -/
theorem vals_inj : ∀ {xs ys : List V} {us : List Value}, Vals xs us → Vals ys us → xs = ys := fun r1 r2 => (backA_vals r1).symm.trans (backA_vals r2)
end
/-! ### own == asked with a thing of a built-in kind; isinstance of such a thing -/
theorem not_own (C : Addr) : ∀ l : List String, (l.map Value.type).contains (Value.ref C) = false
  | [] => rfl
  | t :: l => by
    have h := not_own C l
    have ht : (Value.ref C == Value.type t) = false := by simp
    simp only [List.map_cons, List.contains_cons, h, Bool.or_false]
    exact ht
theorem sub_builtin {K : PySem.W.Frag} {T : String} (C : Addr) (h : (fastFind? T).isSome = true) : PySem.W.subIn K (.type T) (.ref C) = some false := by
  show (fastBuiltinMro T).map (·.contains (Value.ref C)) = some false
  unfold fastBuiltinMro
  cases e : fastFind? T with
  | none => rw [e] at h; cases h
  | some d =>
    show some (((d.mro.map Value.type).contains (Value.ref C))) = some false
    rw [not_own]
theorem known_kind : ∀ d : Dt, tyD d ≠ "?" → (fastFind? (tyD d)).isSome = true
  | .non, _ => by show (fastFind? "NoneType").isSome = true; decide +kernel
  | .bl _, _ => by show (fastFind? "bool").isSome = true; decide +kernel
  | .int _, _ => by show (fastFind? "int").isSome = true; decide +kernel
  | .str _, _ => by show (fastFind? "str").isSome = true; decide +kernel
  | .lst _, _ => by show (fastFind? "list").isSome = true; decide +kernel
  | .tup _, _ => by show (fastFind? "tuple").isSome = true; decide +kernel
  | .ins _ _, h => absurd rfl h
/-- what isinstance asks of an own class -/
structure OcOk (K : PySem.W.Frag) (C : Addr) : Prop where
  sf : PySem.W.selfFirst K C = true
  ty : PySem.W.typeIn K (.ref C) = some (.type "type")
theorem OcOk.cls {K : PySem.W.Frag} {C : Addr} (x : OcOk K C) : (PySem.W.clsIn K C).isSome = true := by
  obtain ⟨cd, h, _⟩ := PySem.W.any_some x.sf
  rw [h]
  rfl
theorem kit_not {K : PySem.W.Frag} {C : Addr} {T : String} (x : OcOk K C) (h : (fastFind? T).isSome = true) : PySem.W.kitOne K (.type T) (.ref C) = some false := by
  unfold PySem.W.kitOne
  rw [if_neg (by simp)]
  show (if ((PySem.W.clsIn K C).isSome && PySem.W.typeIn K (.ref C) == some (.type "type")) = true then PySem.W.subIn K (.type T) (.ref C) else none) = some false
  rw [if_pos (by rw [x.cls, x.ty]; rfl)]
  exact sub_builtin C h
theorem go_isNot {K : PySem.W.Frag} {G H : Hp} {Q : VK} {x : V} {C : Addr} {d : Dt} (hx : Rp K G x d) (e : Same G H) (hd : tyD d ≠ "?") (oc : OcOk K C) (k : Q (.bl false) H) : rIsi K [x, .ref C] H Q :=
  ⟨x, .ref C, _, .ref C, false, rfl, .own C, tyX_d hd hx e, kit_not oc (known_kind d hd), k⟩
def EQX (K : PySem.W.Frag) (C : Addr) (sp : Sp) (E : XK) : R2 := fun x y H Q => ∃ a dx fs t, x = .ref a ∧ H a = some (.ins C dx fs) ∧ TyX K H y (.type t) ∧ (fastFind? t).isSome = true ∧ sp [x, y] H Q E
theorem op_eqOwnX {X : Cx} {CX : CXT} {k : Nat} {C f : Addr} {fd : FuncData} {ps : List Str} {sp : Sp} {E : XK} (hs : PySem.W.findIn X.K (.ref C) "__eq__" = some (some (.ref f))) (hf : PySem.W.isFn X.K (.ref f) = true) (F : FnOk X.prog X.w X.K X.mg X.base CX k f fd ps sp) (hr : Room k X.A) (hb : Binds X.K fd ps []) (hx : Passes CX X E) :
    OpR X (compareOp .Eq) (EQX X.K C sp E) := by
  intro pins s σ H x y v u Q I rx ry h
  obtain ⟨a, dx, fs, t, rfl, ea, ty, hk, q⟩ := h
  obtain rfl : v = Value.ref a := rx
  obtain ⟨mA, O, _, _, _, _⟩ := ins_get I.hok ea
  obtain ⟨od, J, _⟩ := O.look
  obtain ⟨P, Z, p, _⟩ := kit_of I ry ty
  obtain ⟨m, Fm⟩ := I.fr
  refine PySem.W.cmp_K (op := .Eq) (tb := .type t) hr.units0 Fm I.mod.kin J (Z.ty _ _ I.kIn p) (by unfold PySem.W.notFirst; rw [sub_builtin C hk]; rfl) hs hf (wpAny_mono (run_fn (us := [.ref a, u]) (vs := [.ref a, y]) (ds := []) (dvs := []) F hr hb .nil hx I (.cons rfl (.cons ry .nil)) (by simpa using q)) (fun v s' hv => ?_) fun _ _ z => z)
  obtain ⟨v', H3, I3, rv, q3⟩ := hv
  have r0 := rv
  cases v' <;> first | (cases rv; exact ⟨_, H3, I3, r0, q3⟩) | (obtain ⟨t, rfl⟩ := rv; exact ⟨_, H3, I3, r0, q3⟩)
theorem go_eqx {K : PySem.W.Frag} {G H : Hp} {Q : VK} {x y : V} {C : Addr} {fds : List (Str × Dt)} {d : Dt} {sp : Sp} {E : XK} (hx : Rp K G x (.ins C fds)) (hy : Rp K G y d) (e : Same G H) (hd : tyD d ≠ "?") (h : sp [x, y] H Q E) : EQX K C sp E x y H Q := by
  obtain ⟨a, dx, fs, rfl, hs, _⟩ := Rp.ins_inv hx
  exact ⟨a, dx, fs, _, rfl, e _ _ hs, tyX_d hd hy e, known_kind d hd, h⟩
/-! ### enumerate of a tuple -/
section
open PySem.Sem (wp)
open AutoSeq1 (wpAny_loadPart')
theorem enum_new1 {v : Value} {o : Obj} {P : Heap → Prop} (B : Begins v o P) :
    Meets (Builtin.«enumerate.__new__» ⟨[.type "enumerate", v], []⟩) (fun _ R s => P s.heap ∧ R (.ok (.ret (.ref (s.heap.push o).objs.size)))
      { s with heap := (s.heap.push o).push { cls := .type "enumerate", data := .fields #[.none, .bool false, .ref s.heap.objs.size, rawInt 0, .none, .none] } }) := .of_wp fun prog w A R s h => by
  obtain ⟨hp, g, d, tk, os⟩ := s
  obtain ⟨h1, h⟩ := h
  have sub := sub_enumerate
  have it0 : ∀ {A' : Around} {E Q : Value → Shared → Prop}, Q (.ref hp.objs.size) ⟨hp.push o, g, d, tk, os⟩ → wpAny (model prog w) A' (pyIter v) Q E ⟨hp, g, d, tk, os⟩ := fun q => B.iter prog w _ _ ⟨hp, g, d, tk, os⟩ _ h1 q
  wp_walk using it0
  refine wpAny_stack_any fun st => wpAny_pure ?_
  split
  · rename_i c _ _ _ _ _
    by_cases hc : (c == Value.type "enumerate") = true
    · simp only [hc]
      wp_walk using it0
      exact ⟨_, rfl, h⟩
    · simp only [Bool.not_eq_true] at hc
      simp only [hc]
      wp_walk using it0
      exact ⟨_, rfl, h⟩
  · wp_walk using it0
    exact ⟨_, rfl, h⟩
end
section
variable {prog : Program} {w : World} {A : Around} {E : Value → Shared → Prop} {s : Shared}
theorem enum_call1 {v : Value} {o : Obj} {P : Heap → Prop} {Q : Value → Shared → Prop} (B : Begins v o P) (h1 : P s.heap)
    (h : ∀ h', IsEnum h' (s.heap.objs.size + 1) s.heap.objs.size 0 .none → h'.get? s.heap.objs.size = some o → (∀ b u, s.heap.get? b = some u → h'.get? b = some u) → Q (.ref (s.heap.objs.size + 1)) { s with heap := h' }) :
    wpAny (model prog w) A (call (.type "enumerate") [v]) Q E s := by
  refine callType_new F.called_enumerate (by decide) (F.typeCall_enumerate_1 _) (F.newCall_enumerate_1 _) (fun obj => F.args_object_init_2 obj _) F.entry_enumerate_new (enum_new1 B) ⟨h1, ?_⟩
  have sz : (s.heap.push o).objs.size = s.heap.objs.size + 1 := Heap.size_push ..
  show _ ∧ _
  rw [sz]
  have en : IsEnum ((s.heap.push o).push { cls := .type "enumerate", data := .fields #[.none, .bool false, .ref s.heap.objs.size, rawInt 0, .none, .none] }) (s.heap.objs.size + 1) s.heap.objs.size 0 .none := by
    have z := Heap.get?_push_size (s.heap.push o) (o := { cls := .type "enumerate", data := .fields #[.none, .bool false, .ref s.heap.objs.size, rawInt 0, .none, .none] }) rfl
    rw [sz] at z
    exact z
  exact ⟨⟨_, en, rfl⟩, h _ en (Heap.get?_push_of_some _ (Heap.get?_push_size _ B.free)) fun b u x => Heap.get?_push_of_some _ (Heap.get?_push_of_some _ x)⟩
end
def IteT (K : PySem.W.Frag) (a : Addr) : It :=
  ⟨fun i H => ∃ (xs : List V) (x : V), SqT K H a xs ∧ xs[i]? = some x, fun i H v H' => ∃ T x, v = .ref T ∧ H T = none ∧ H' = upd H T (.tup [.int (i : Nat), x]) ∧ ∀ xs, SqT K H a xs → xs[i]? = some x, fun i H => ∃ xs : List V, SqT K H a xs ∧ xs.length = i⟩
theorem turn_enumT {P : Program} {w : World} {K : PySem.W.Frag} {elts : List Expr} {kk : Nat} {tpos : Pos} (a e it : Addr) :
    Turn P w K (.Tuple elts kk tpos) (IteT K a) [e, it] e (fun i h => (∃ old, IsEnum h e it ((i : Nat) : Int) old) ∧ h.IsTupleIter it a i ∧ e ≠ it ∧ a ≠ it ∧ e ≠ a) where
  mem := by simp
  obj := fun i h st b hb => by
    obtain ⟨⟨old, en⟩, ⟨o, ho, _, hd⟩, _⟩ := st
    rcases (show b = e ∨ b = it by simpa using hb) with rfl | rfl
    · exact ⟨_, en, fun v q => nomatch q⟩
    · exact ⟨o, ho, fun v q => by rw [hd] at q; cases q⟩
  keep := fun i h h' st k => by
    obtain ⟨⟨old, en⟩, hi, z⟩ := st
    exact ⟨⟨old, k e (by simp) _ en⟩, hi.at fun o q => k it (by simp) o q, z⟩
  item := by
    intro X hP hw hK hc i pins s σ H E I hf st hg
    subst hP hw hK
    obtain ⟨⟨old, en⟩, hit, n1, n2, n3⟩ := st
    obtain ⟨xs, x, hq, hx⟩ := hg
    obtain ⟨its, rv, p, hz⟩ := I.tuple hq
    obtain ⟨u, hu, ru⟩ := rv.get hx
    have elt : e < s.heap.objs.size := Heap.lt_size en
    have ilt : it < s.heap.objs.size := by obtain ⟨_, q, _⟩ := hit; exact Heap.lt_size q
    have il : i < its.toArray.size := by
      have := (List.getElem?_eq_some_iff.mp hu).1
      simpa using this
    refine wpAny_pyNext_enum_itemD (Draws.tuple (show X.A.in1.handled = none from I.ok.hd hc) it a n2 its.toArray) en ⟨hit, p⟩ il n1 (by simp; exact ⟨n1, n3⟩) fun y h' tk hy ho ⟨hit', p'⟩ hT hsz hk => ?_
    have ey : y = u := by
      have z : its.toArray[i]? = some u := by simpa using hu
      rw [z] at hy
      exact (Option.some.inj hy).symm
    subst ey
    refine ⟨_, rfl, wpAny_letOwnedTupleGo_enum (s := { s with heap := h', toks := tk + 1 }) ho fun h'' en' sb => ?_⟩
    have hT2 : h''.get? s.heap.objs.size = some { cls := .type "tuple", data := .seq #[.int i tk, y] } := (sb.2 _ (Nat.ne_of_gt elt)).trans hT
    have new : ObjOk X.prog X.w (upd H s.heap.objs.size (.tup [.int (i : Nat), x])) h'' s.heap.objs.size (.tup [.int (i : Nat), x]) :=
      ⟨by show 2 ≤ sizeLine; decide, [.int i tk, y], .cons ⟨_, rfl⟩ (.cons ru .nil), ⟨_, hT2, rfl, _, rfl⟩⟩
    have I1 : Inv X pins σ (upd H s.heap.objs.size (.tup [.int (i : Nat), x])) { s with heap := h'', toks := tk + 1 } :=
      I.turnedNew (ch := [e, it]) (fun b o hb q => (sb.2 b (fun z => hb (by simp [z]))).trans (hk b o (fun z => hb (by simp [z])) (fun z => hb (by simp [z])) q)) hf (Nat.le_refl _) new
    refine ⟨.ref s.heap.objs.size, _, I1, rfl, ⟨_, x, rfl, I.hok.fresh (Nat.le_refl _), rfl, fun ys hy => by rw [I.tuple_inj hy hq]; exact hx⟩, ⟨⟨y, ?_⟩, hit'.at fun o q => (sb.2 it (Ne.symm n1)).trans q, n1, n2, n3⟩, fun b hb => ?_⟩
    · have ei : ((i + 1 : Nat) : Int) = (i : Int) + 1 := by omega
      rw [ei]
      exact en'
    · have lt : b < s.heap.objs.size := by
        rcases (show b = e ∨ b = it by simpa using hb) with rfl | rfl
        · exact elt
        · exact ilt
      rw [upd_ne (Nat.ne_of_lt lt)]
      exact (hf b hb).1
  done := by
    intro X hP hw hK hc i pins s σ H E I hf st hg
    subst hP hw hK
    obtain ⟨⟨old, en⟩, hit, n1, n2, n3⟩ := st
    obtain ⟨xs, hq, hx⟩ := hg
    obtain ⟨its, rv, p, hz⟩ := I.tuple hq
    have hl := rv.length
    obtain ⟨f0, f1, f2, f3, f4, f5⟩ := hf it (by simp)
    have ei : its.toArray.size = i := by simp; omega
    have D := Draws.tuple (prog := X.prog) (w := X.w) (A := X.A.in1) (show X.A.in1.handled = none from I.ok.hd hc) it a n2 its.toArray
    rw [ei] at D
    exact wpAny_pyNext_enum_endD D en ⟨hit, p⟩ fun h' eb => ⟨rfl, I.turned (t' := s.toks) (fun b o hb q => eb b o hb q) f0 f1 f3 f4 f5⟩
  self := fun A i s Q E st h => by
    obtain ⟨⟨_, en⟩, _⟩ := st
    exact wpAny_pyIter_enum en h
def iEnumA (K : PySem.W.Frag) (ta : TA) : TI := fun σ H R => ta σ H fun vs H1 => ∃ a xs, vs = [.ref a] ∧ ((SqL K H1 a xs ∧ R (Ite K a) H1) ∨ (SqT K H1 a xs ∧ R (IteT K a) H1))
theorem pi_enumA {X : Cx} {e : Expr} {ta : TA} {p pos tpos : Pos} {elts : List Expr} {kk : Nat} (hg : Gl X "enumerate") (hm : X.mg "enumerate" = none) (ha : PA X [e] ta) (hs : starEach [e] X.env = [(false, eval e X.env)] := by rfl) :
    PI X (.Tuple elts kk tpos) (.Call (.Name "enumerate" p) [e] [] pos) (iEnumA X.K ta) := by
  refine ⟨fun pins s σ H R I h => ?_⟩
  refine Call_ (ld_blt I hg hm boot_enumerate (PyProof.Rows.callWith_type1 (thn (ha.run pos pins s σ H _ I h) fun us s1 ⟨vs, H1, I1, r1, q1⟩ => ?_) hs rfl))
  obtain ⟨a, xs, rfl, q1⟩ := q1
  obtain ⟨u, rfl, ru⟩ : ∃ u, us = [u] ∧ RelV (.ref a) u := by
    cases r1 with
    | cons r rr => cases rr; exact ⟨_, rfl, r⟩
  cases ru
  have new : ∀ b ∈ [s1.heap.objs.size + 1, s1.heap.objs.size], FpOk X pins H1 b := fun b hb => by
    have hle : s1.heap.objs.size ≤ b := by
      rcases (show b = s1.heap.objs.size + 1 ∨ b = s1.heap.objs.size by simpa using hb) with z | z
      · exact z ▸ Nat.le_add_right _ _
      · exact z ▸ Nat.le_refl _
    exact I1.fpOk hle (I1.hok.fresh hle)
  rcases q1 with ⟨hq, q⟩ | ⟨hq, q⟩
  · obtain ⟨its, rv, t, hz⟩ := I1.list hq
    refine call_enumerate_list t.isList fun h' en hit _ hk => wpAny_pyIter_enum en ?_
    have I2 : Inv X pins σ H1 { s1 with heap := h' } := I1.kept (t' := s1.toks) hk
    exact ⟨s1.heap.objs.size + 1, _, _, _, H1, rfl, I2, turn_enum a (s1.heap.objs.size + 1) s1.heap.objs.size, ⟨⟨.none, en⟩, hit, Nat.succ_ne_self _⟩, new, q⟩
  · obtain ⟨its, rv, t, hz⟩ := I1.tuple hq
    obtain ⟨o0, ho0, _⟩ := id t
    have la : a < s1.heap.objs.size := Heap.lt_size ho0
    refine enum_call1 (begins_tuple a its.toArray) t fun h' en hit hk => wpAny_pyIter_enum en ?_
    have I2 : Inv X pins σ H1 { s1 with heap := h' } := I1.kept (t' := s1.toks) hk
    exact ⟨s1.heap.objs.size + 1, _, _, _, H1, rfl, I2, turn_enumT a (s1.heap.objs.size + 1) s1.heap.objs.size, ⟨⟨.none, en⟩, ⟨_, hit, rfl, rfl⟩, Nat.succ_ne_self _, Nat.ne_of_lt la, Nat.ne_of_gt (Nat.lt_succ_of_lt la)⟩, new, q⟩
theorem walk_enumT {K : PySem.W.Frag} {a : Addr} {xs : List V} : Walk (IteT K a) xs.length (fun H => SqT K H a xs) (fun i H v H' => ∃ T x, v = .ref T ∧ H T = none ∧ H' = upd H T (.tup [.int (i : Nat), x]) ∧ xs[i]? = some x) :=
  ⟨fun i H hi q => ⟨xs, xs[i], q, List.getElem?_eq_getElem hi⟩, fun H q => ⟨xs, q, rfl⟩, fun i H v H' hi q y => by
    obtain ⟨T, x, rfl, hT, eH, hx⟩ := y
    exact ⟨T, x, rfl, hT, eH, hx xs q⟩⟩
section
variable {K : PySem.W.Frag} {G0 H0 G H : Hp} {D : List Addr} {M : List (Addr × HO)} {σ σ' : L2.St} {Q : VK} {tt : TT} {ta te : TE} {t : TA} {ts : TS} {ds fs : List Dt} {vss : List Nat} {nx bk ct : L2.St → Hp → Prop} {rt : VK} {x y : V} {d : Dt}
def ETK (K : PySem.W.Frag) (k : It → Hp → Prop) (vs : List V) (H : Hp) : Prop := ∃ a xs, vs = [.ref a] ∧ ((SqL K H a xs ∧ k (Ite K a) H) ∨ (SqT K H a xs ∧ k (IteT K a) H))
theorem go_iEnumA {k : It → Hp → Prop} (h : t σ H fun vs H1 => ETK K k vs H1) : iEnumA K t σ H k := h
theorem go_etkL {k : It → Hp → Prop} (hx : Rp K G x (.lst ds)) (e : Same G H) (h : ∀ a xs, x = .ref a → SqL K G a xs → RpAll K G xs ds → k (Ite K a) H) : ETK K k [x] H := by
  obtain ⟨a, xs, rfl, hs, ha⟩ := Rp.lst_inv hx
  exact ⟨a, xs, rfl, .inl ⟨e.seq hs, h a xs rfl hs ha⟩⟩
theorem go_etkT {k : It → Hp → Prop} (hx : Rp K G x (.tup ds)) (e : Same G H) (h : ∀ a xs, x = .ref a → SqT K G a xs → RpAll K G xs ds → k (IteT K a) H) : ETK K k [x] H := by
  obtain ⟨a, xs, rfl, hs, ha⟩ := Rp.tup_inv hx
  exact ⟨a, xs, rfl, .inr ⟨Same.t e hs, h a xs rfl hs ha⟩⟩
/-- for i, x in enumerate(tuple) -/
theorem forET {a : Addr} {xs : List V} {i1 j1 : Nat} (hS : Sta K G0 H0 D G M H) (hq : SqT K G a xs) (hr : RpAll K G xs ds) (W : Nat → L2.St → Hp → List (Addr × HO) → Prop) (h0 : W 0 σ G M)
    (hs : ∀ i x d σ' G1 M1 H1, i < ds.length → ds[i]? = some d → Same G G1 → Sta K G0 H0 D G1 M1 H1 → Rp K G1 x d → (∃ G2, Same G2 G1 ∧ W i σ' G2 M1) → ∀ σ2, List.set (List.set σ' i1 (some (.int i))) j1 (some x) = σ2 → ts ⟨Nx K G0 H0 D G (W (i + 1)), rt, nx, Nx K G0 H0 D G (W (i + 1))⟩ σ2 H1)
    (hd : ∀ σ' G1 M1 H1, Same G G1 → Sta K G0 H0 D G1 M1 H1 → W ds.length σ' G1 M1 → nx σ' H1) : ForG (IteT K a) (gTup K 2 (gCons (gName i1) (gCons (gName j1) gNil))) ts ⟨nx, rt, bk, ct⟩ σ H :=
  forI (walk_enumT (xs := xs)) hS (fun H1 e => Same.t e hq) W h0 (fun i x σ' G1 M1 H1 H2 hi e s w y => by
    obtain ⟨T, v, rfl, hT, eH, h2⟩ := y
    obtain ⟨d, hd', rd⟩ := hr.getV h2
    obtain ⟨G2, e2, s2, q2⟩ := s.pair hT eH
    exact go_gpair q2 rfl (hs i v d σ' G2 M1 H2 (by rw [← hr.length]; exact hi) hd' (e.trans e2) s2 (rd.up (e.trans e2)) ⟨G1, e2, w⟩ _ rfl)) (by rw [hr.length]; exact hd)
end
/-! ### a range as a thing of its own -/
def rRange2_ : List V → Hp → VK → Prop := fun vs H Q => ∃ i j, vs = [V.int i, V.int j] ∧ ∀ p, H p = none → Q (.ref p) (upd H p (.rng i j))
theorem b_range2 {X : Cx} : CallR X (.type "range") rRange2_ := cr_range2
def iRngO (te : TE) : TI := fun σ H R => te σ H fun x H1 => ∃ a lo hi, x = .ref a ∧ H1 a = some (.rng lo hi) ∧ (-(2 ^ 62) ≤ lo ∧ lo < 2 ^ 62 ∧ -(2 ^ 62) ≤ hi ∧ hi < 2 ^ 62) ∧ R (Itr lo (hi - lo).toNat) H1
theorem pi_rng {X : Cx} {tg l : Expr} {tl : TE} (hl : PE X l tl) : PI X tg l (iRngO tl) := by
  refine ⟨fun pins s σ H R I h => ?_⟩
  refine thn (hl.run pins s σ H _ I h) fun v s1 ⟨x, H1, I1, r1, q1⟩ => ?_
  obtain ⟨a, lo, hi, rfl, ha, ⟨b1, b2, b3, b4⟩, q⟩ := q1
  cases r1
  obtain ⟨t, u, v, ho⟩ := I1.hok a _ ha
  refine wpAny_pyIter_range ho (small_one b1 b2 b3 b4) ?_
  refine ⟨s1.heap.objs.size, [s1.heap.objs.size], _, _, H1, rfl, I1.kept (t' := s1.toks) fun b o e => Heap.get?_push_of_some _ e, turn_range _ lo (hi - lo).toNat, ?_, fun b hb => ?_, q⟩
  · have z1 : lo + ((0 : Nat) : Int) * 1 = lo := by simp
    have z2 : (((hi - lo).toNat : Nat) : Int) - ((0 : Nat) : Int) = Builtin.Range.rangeSize lo hi 1 := by
      rw [rangeSize_one]
      split <;> omega
    show IsRangeIter _ _ (lo + ((0 : Nat) : Int) * 1) ((((hi - lo).toNat : Nat) : Int) - ((0 : Nat) : Int)) 1
    rw [z1, z2]
    exact Heap.get?_push_size _ rfl
  · have z : b = s1.heap.objs.size := by simpa using hb
    subst z
    exact I1.fpOk (Nat.le_refl _) (I1.hok.fresh (Nat.le_refl _))
section
variable {K : PySem.W.Frag} {G0 H0 G H : Hp} {D : List Addr} {M : List (Addr × HO)} {σ : L2.St} {Q : VK} {te : TE} {x : V}
def RKO (k : It → Hp → Prop) (x : V) (H : Hp) : Prop := ∃ a lo hi, x = .ref a ∧ H a = some (.rng lo hi) ∧ (-(2 ^ 62) ≤ lo ∧ lo < 2 ^ 62 ∧ -(2 ^ 62) ≤ hi ∧ hi < 2 ^ 62) ∧ k (Itr lo (hi - lo).toNat) H
theorem go_iRngO {k : It → Hp → Prop} (h : te σ H fun x H1 => RKO k x H1) : iRngO te σ H k := h
theorem go_rangeV {i j : Int} (hS : Sta K G0 H0 D G M H) (k : ∀ p G1 H1, Same G G1 → Sta K G0 H0 D G1 M H1 → G1 p = some (.rng i j) → Q (.ref p) H1) : rRange2_ [.int i, .int j] H Q :=
  ⟨i, j, rfl, fun p hp => k p _ _ (same_upd (hS.gn hp)) (hS.imm hp _) upd_same⟩
theorem go_rko {a : Addr} {lo hi : Int} {k : It → Hp → Prop} (hx : G a = some (.rng lo hi)) (e : Same G H) (b : -(2 ^ 62) ≤ lo ∧ lo < 2 ^ 62 ∧ -(2 ^ 62) ≤ hi ∧ hi < 2 ^ 62) (h : k (Itr lo (hi - lo).toNat) H) : RKO k (.ref a) H :=
  ⟨a, lo, hi, rfl, e _ _ hx, b, h⟩
end
/-- the class of what was raised -/
def clsA : Value → Addr
  | .ref a => a
  | _ => 0
/-- list(x) of ints: a list known as it is -/
theorem go_listRI {K : PySem.W.Frag} {G0 H0 G H : Hp} {D : List Addr} {M : List (Addr × HO)} {Q : VK} {x : V} {r : List Int} (hS : Sta K G0 H0 D G M H) (hx : Rp K G x (.lst (r.map .int)) ∨ Rp K G x (.tup (r.map .int))) (k : ∀ p G1 H1, Same G G1 → Sta K G0 H0 D G1 M H1 → G1 p = some (.lst (r.map .int)) → Q (.ref p) H1) : rListOf_ K [x] H Q := by
  rcases hx with hx | hx
  · obtain ⟨a, xs, rfl, hs, ha⟩ := Rp.lst_inv hx
    have := ha.ints_inv
    subst this
    exact ⟨a, _, rfl, .inl (hS.gh.seq hs), fun p hp => k p _ _ (same_upd (hS.gn hp)) (hS.imm hp _) upd_same⟩
  · obtain ⟨a, xs, rfl, hs, ha⟩ := Rp.tup_inv hx
    have := ha.ints_inv
    subst this
    exact ⟨a, _, rfl, .inr (Same.t hS.gh hs), fun p hp => k p _ _ (same_upd (hS.gn hp)) (hS.imm hp _) upd_same⟩
section
variable {K : PySem.W.Frag} {G0 H0 G H : Hp} {D : List Addr} {M : List (Addr × HO)} {σ : L2.St} {Q : VK} {tt : TT} {te : TE} {vss : List Nat}
theorem lcMapTRL {α : Type} {a : Addr} {xs : List V} {g : TG} {as : List α} {Da : α → Dt} {F : α → Dt} (hS : Sta K G0 H0 D G M H) (hq : SqL K G a xs) (hr : RpAll K G xs (as.map Da)) (hl : as.length ≤ 100000)
    (hs : ∀ x c L G1 vs es H1 (Z : List (Addr × HO) → List Dt → Prop), c ∈ as → Rp K G1 x (Da c) → Same G G1 → H0 L = none → Sta K G0 H0 D G1 ((L, .lst vs) :: M) H1 → RpAll K G1 vs es → (∀ y G2 H2, Same G1 G2 → Sta K G0 H0 D G2 ((L, .lst vs) :: M) H2 → Rp K G2 y (F c) → LcY K G0 H0 D G L Z y H2) →
      g x (wipe σ vss) H1 fun σ2 H3 => wipe σ2 vss = wipe σ vss ∧ tt σ2 H3 fun b H4 => if b = true then te σ2 H4 (LcY K G0 H0 D G L Z) else LcP K G0 H0 D G L Z H4)
    (hd : ∀ p G1 H1, Same G G1 → Sta K G0 H0 D G1 M H1 → RpL K G1 p (as.map F) → Q (.ref p) H1) : LcG (Itl K a) g tt te vss σ Q H := by
  refine lcIM (walk_list (xs := xs)) hS (fun H1 e => e.seq hq) (fun i M1 es => M1 = M ∧ es = (as.take i).map F) ⟨rfl, rfl⟩ (fun i x L G1 M1 vs es H1 H2 hi e l0 s r w yy => ?_) (fun L G1 M1 vs es H1 e l0 s r w => ?_)
  · obtain ⟨rfl, rfl⟩ := w
    obtain ⟨rfl, hx⟩ := yy
    have hi2 : i < as.length := by
      have := hr.length
      rw [List.length_map] at this
      omega
    obtain ⟨d, hd', rd⟩ := hr.getV hx
    rw [List.getElem?_map, List.getElem?_eq_getElem hi2] at hd'
    cases hd'
    refine hs x as[i] L G1 vs _ H2 _ (List.getElem_mem hi2) (rd.up e) e l0 s r fun y G2 H3 e2 s2 hy => ?_
    refine lcY s2 (e.trans e2) (r.up e2) hy (by simp; omega) ⟨rfl, ?_⟩
    rw [List.take_add_one, List.getElem?_eq_getElem hi2, List.map_append]
    rfl
  · obtain ⟨rfl, rfl⟩ := w
    have hl2 := hr.length
    rw [List.length_map] at hl2
    rw [List.take_of_length_le (by omega)] at r
    obtain ⟨s2, e2⟩ := s.frz l0
    exact hd L _ H1 (e.trans e2) s2 ⟨vs, upd_same, r.up e2⟩
end
end B
namespace B
open PySem PySem.Spec PyProof.Rows L2 RZ
/-! ### states with two things that change; things taken in, frozen -/
section
variable {K : PySem.W.Frag} {G0 H0 G H G1 H1 : Hp} {D : List Addr} {M : List (Addr × HO)} {p q : Addr} {o u o' u' : HO}
theorem Sta.start2 (e : Same G H) (hp : H p = some o) (hq : H q = some o') (gp : G p = none) (gq : G q = none) (n : p ≠ q) : Sta K G H [p, q] G [(p, o), (q, o')] H :=
  ⟨Same.refl G, e, fun _ _ => rfl, fun _ _ h _ => h, fun _ h => h, by simp [n], fun r hr => by
    rcases List.mem_cons.mp hr with rfl | hr
    · exact ⟨hp, gp, .inl (by simp)⟩
    · rw [List.mem_singleton.mp hr]
      exact ⟨hq, gq, .inl (by simp)⟩⟩
theorem Sta.callM2 (h : Sta K G0 H0 D G M H) {i j : Nat} (hi : M[i]? = some (p, o)) (hj : M[j]? = some (q, o')) (n : p ≠ q) (a : Adv [p, q] G H G1 H1) (hp : H1 p = some u) (hq : H1 q = some u') : Sta K G0 H0 D G1 ((M.set i (p, u)).set j (q, u')) H1 := by
  have ij : i ≠ j := fun e => by
    subst e
    rw [hi] at hj
    cases hj
    exact n rfl
  have hj' : (M.set i (p, u))[j]? = some (q, o') := by rw [List.getElem?_set_ne ij]; exact hj
  have nd' : ((M.set i (p, u)).map (·.1)).Nodup := by rw [set_keys hi]; exact h.md
  have own : ∀ r o, (r, o) ∈ M → r ∈ D ∨ H0 r = none := fun r o hr => (h.mh _ hr).2.2
  refine ⟨h.g0.trans a.gg, a.gh, fun b hb => by rw [a.fr b (h.up b hb)]; exact h.fr b hb, fun b v hb hd => ?_, fun b hb => a.up b (h.up b hb), ?_, fun r hr => ?_⟩
  · have np : ∀ (r : Addr) (o : HO), (r, o) ∈ M → b ≠ r := fun r o hr e => by
      subst e
      rcases own _ _ hr with z | z
      · exact hd z
      · rw [hb] at z; cases z
    refine a.kp b v (h.kp b v hb hd) ?_
    simp only [List.mem_cons, List.not_mem_nil, or_false, not_or]
    exact ⟨np _ _ (List.mem_of_getElem? hi), np _ _ (List.mem_of_getElem? hj)⟩
  · rw [set_keys hj']
    exact nd'
  · rcases set_mem nd' hj' hr with rfl | ⟨hm, hn⟩
    · obtain ⟨e1, e2, e3⟩ := h.mh _ (List.mem_of_getElem? hj)
      exact ⟨hq, by rw [a.fr _ (by rw [e1]; exact fun z => nomatch z)]; exact e2, e3⟩
    · rcases set_mem h.md hi hm with rfl | ⟨hm2, hn2⟩
      · obtain ⟨e1, e2, e3⟩ := h.mh _ (List.mem_of_getElem? hi)
        exact ⟨hp, by rw [a.fr _ (by rw [e1]; exact fun z => nomatch z)]; exact e2, e3⟩
      · obtain ⟨e1, e2, e3⟩ := h.mh r hm2
        exact ⟨a.kp _ _ e1 (by simp only [List.mem_cons, List.not_mem_nil, or_false, not_or]; exact ⟨hn2, hn⟩), by rw [a.fr _ (by rw [e1]; exact fun z => nomatch z)]; exact e2, e3⟩
theorem Sta.adopt (h : Sta K G0 H0 D G M H) (hp : H p = some o) (gp : G p = none) (h0 : H0 p = none) (hm : ∀ r ∈ M, r.1 ≠ p) : Sta K G0 H0 D G ((p, o) :: M) H :=
  ⟨h.g0, h.gh, h.fr, h.kp, h.up, by
    simp only [List.map_cons, List.nodup_cons]
    exact ⟨fun z => by
      obtain ⟨r, hr, e⟩ := List.mem_map.mp z
      exact hm r hr e, h.md⟩, fun r hr => by
    rcases List.mem_cons.mp hr with rfl | hr
    · exact ⟨hp, gp, .inr h0⟩
    · exact h.mh r hr⟩
end
/-! ### instances known as they are -/
section
variable {K : PySem.W.Frag} {G0 H0 G H : Hp} {D : List Addr} {M : List (Addr × HO)} {σ : L2.St} {Q : VK} {tt : TT} {te : TE} {t : TS} {vss : List Nat} {x y : V} {ds : List Dt} {C a dx : Addr} {fs : List (Str × V)} {nx bk ct : L2.St → Hp → Prop} {rt : VK}
theorem go_fldI {f : Str} {v : V} (hx : G a = some (.ins C dx fs)) (e : Same G H) (cl : Cls K C) (na : NoAttr K C f) (hi : fs.lookup f = some v) (k : Q v H) : FK K f Q (.ref a) H := ⟨a, C, dx, fs, v, rfl, e _ _ hx, cl, na, hi, k⟩
theorem go_mtkI {m : Str} {kk : Hp → Prop} (hx : G a = some (.ins C dx fs)) (e : Same G H) (hm : fs.lookup m = none) (h : kk H) : MTK C m kk (.ref a) H := ⟨a, dx, fs, rfl, e _ _ hx, hm, h⟩
theorem go_itlR {xs : List V} {k : It → Hp → Prop} (hx : G a = some (.lst xs)) (e : Same G H) (h : k (Itl K a) H) : LK K k (.ref a) H := ⟨a, rfl, ⟨xs, .inl (.inl (e _ _ hx))⟩, h⟩
/-- a loop over a list known as it is -/
theorem forV {xs : List V} {g : TG} (hS : Sta K G0 H0 D G M H) (hq : G a = some (.lst xs)) (W : Nat → L2.St → Hp → List (Addr × HO) → Prop) (h0 : W 0 σ G M)
    (hs : ∀ i x σ' G1 M1 H1, i < xs.length → xs[i]? = some x → Same G G1 → Sta K G0 H0 D G1 M1 H1 → W i σ' G1 M1 → g x σ' H1 fun σ2 H3 => t ⟨Nx K G0 H0 D G (W (i + 1)), rt, nx, Nx K G0 H0 D G (W (i + 1))⟩ σ2 H3)
    (hd : ∀ σ' G1 M1 H1, Same G G1 → Sta K G0 H0 D G1 M1 H1 → W xs.length σ' G1 M1 → nx σ' H1) : ForG (Itl K a) g t ⟨nx, rt, bk, ct⟩ σ H :=
  forI (walk_list (xs := xs)) hS (fun H1 e => .inl (.inl (e _ _ hq))) W h0 (fun i x σ' G1 M1 H1 H2 hi e s w y => by
    obtain ⟨rfl, hx⟩ := y
    exact hs i x σ' G1 M1 H2 hi hx e s w) hd
/-- items of a list that may change -/
theorem go_ixMR {xs : List V} {n : Int} {d : Dt} (hS : Sta K G0 H0 D G M H) {i : Nat} (hi : M[i]? = some (a, .lst xs)) (hr : RpAll K G xs ds) (hd : atI ds n = some d) (k : ∀ v, Rp K G v d → Q v H) : rIx K (.ref a) (.int n) H Q := by
  obtain ⟨v, hv, rv⟩ := hr.atI hd
  exact .inl ⟨a, xs, n, v, rfl, rfl, SqL.of (hS.get hi), hv, k v rv⟩
/-- a comprehension with a test, over a range -/
theorem lcFiltR {lo : Int} {n : Nat} {g : TG} {p : Nat → Bool} {F : Nat → Dt} (hS : Sta K G0 H0 D G M H) (hl : n ≤ 100000)
    (hs : ∀ (i : Nat) L G1 vs es H1 (Z Z0 : List (Addr × HO) → List Dt → Prop), i < n → Same G G1 → H0 L = none → Sta K G0 H0 D G1 ((L, .lst vs) :: M) H1 → RpAll K G1 vs es → (p i = true → ∀ y G2 H2, Same G1 G2 → Sta K G0 H0 D G2 ((L, .lst vs) :: M) H2 → Rp K G2 y (F i) → LcY K G0 H0 D G L Z y H2) → (p i = false → ∀ G2 H2, Same G1 G2 → Sta K G0 H0 D G2 ((L, .lst vs) :: M) H2 → LcP K G0 H0 D G L Z H2) →
      g (.int (lo + i)) (wipe σ vss) H1 fun σ2 H3 => wipe σ2 vss = wipe σ vss ∧ tt σ2 H3 fun b H4 => if b = true then te σ2 H4 (LcY K G0 H0 D G L Z) else LcP K G0 H0 D G L Z H4)
    (hd : ∀ p' G1 H1, Same G G1 → Sta K G0 H0 D G1 M H1 → Rp K G1 (.ref p') (.lst (((List.range n).filter p).map F)) → Q (.ref p') H1) : LcG (Itr lo n) g tt te vss σ Q H := by
  refine lcR hS (fun i M1 es => M1 = M ∧ es = ((List.range i).filter p).map F) ⟨rfl, rfl⟩ (fun i L G1 M1 vs es H1 hi e l0 s r w => ?_) (fun p' G1 M1 es H1 e s r w => ?_)
  · obtain ⟨rfl, rfl⟩ := w
    have len : (((List.range i).filter p).map F).length ≤ i := by
      rw [List.length_map]
      exact Nat.le_trans (List.length_filter_le _ _) (by simp)
    refine hs i L G1 vs _ H1 _ (fun _ _ => True) hi e l0 s r (fun hp y G2 H2 e2 s2 hy => ?_) (fun hp G2 H2 e2 s2 => ?_)
    · refine lcY s2 (e.trans e2) (r.up e2) hy (by omega) ⟨rfl, ?_⟩
      rw [List.range_succ, List.filter_append, List.map_append]
      simp [hp]
    · refine lcN s2 (e.trans e2) (r.up e2) ⟨rfl, ?_⟩
      rw [List.range_succ, List.filter_append, List.map_append]
      simp [hp]
  · obtain ⟨rfl, rfl⟩ := w
    exact hd p' G1 H1 e s r
/-- over a range, a tuple, a list; the new list may change -/
theorem lcMapRM {lo : Int} {n : Nat} {g : TG} {F : Nat → Dt} (hS : Sta K G0 H0 D G M H) (hl : n ≤ 100000)
    (hs : ∀ (i : Nat) L G1 vs es H1 (Z : List (Addr × HO) → List Dt → Prop), i < n → Same G G1 → H0 L = none → Sta K G0 H0 D G1 ((L, .lst vs) :: M) H1 → RpAll K G1 vs es → (∀ y G2 H2, Same G1 G2 → Sta K G0 H0 D G2 ((L, .lst vs) :: M) H2 → Rp K G2 y (F i) → LcY K G0 H0 D G L Z y H2) →
      g (.int (lo + i)) (wipe σ vss) H1 fun σ2 H3 => wipe σ2 vss = wipe σ vss ∧ tt σ2 H3 fun b H4 => if b = true then te σ2 H4 (LcY K G0 H0 D G L Z) else LcP K G0 H0 D G L Z H4)
    (hd : ∀ L vs G1 H1, Same G G1 → H0 L = none → Sta K G0 H0 D G1 ((L, .lst vs) :: M) H1 → RpAll K G1 vs ((List.range n).map F) → Q (.ref L) H1) : LcG (Itr lo n) g tt te vss σ Q H := by
  refine lcIM walk_range hS (fun _ _ => trivial) (fun i M1 es => M1 = M ∧ es = (List.range i).map F) ⟨rfl, rfl⟩ (fun i x L G1 M1 vs es H1 H2 hi e l0 s r w yy => ?_) (fun L G1 M1 vs es H1 e l0 s r w => ?_)
  · obtain ⟨rfl, rfl⟩ := w
    obtain ⟨rfl, rfl⟩ := yy
    refine hs i L G1 vs _ H2 _ hi e l0 s r fun y G2 H3 e2 s2 hy => ?_
    refine lcY s2 (e.trans e2) (r.up e2) hy (by simp; omega) ⟨rfl, ?_⟩
    rw [List.range_succ, List.map_append]
    rfl
  · obtain ⟨rfl, rfl⟩ := w
    exact hd L vs G1 H1 e l0 s r
theorem lcMapTM {α : Type} {xs : List V} {g : TG} {as : List α} {Da : α → Dt} {F : α → Dt} (hS : Sta K G0 H0 D G M H) (hq : SqT K G a xs) (hr : RpAll K G xs (as.map Da)) (hl : as.length ≤ 100000)
    (hs : ∀ x c L G1 vs es H1 (Z : List (Addr × HO) → List Dt → Prop), c ∈ as → Rp K G1 x (Da c) → Same G G1 → H0 L = none → Sta K G0 H0 D G1 ((L, .lst vs) :: M) H1 → RpAll K G1 vs es → (∀ y G2 H2, Same G1 G2 → Sta K G0 H0 D G2 ((L, .lst vs) :: M) H2 → Rp K G2 y (F c) → LcY K G0 H0 D G L Z y H2) →
      g x (wipe σ vss) H1 fun σ2 H3 => wipe σ2 vss = wipe σ vss ∧ tt σ2 H3 fun b H4 => if b = true then te σ2 H4 (LcY K G0 H0 D G L Z) else LcP K G0 H0 D G L Z H4)
    (hd : ∀ L vs G1 H1, Same G G1 → H0 L = none → Sta K G0 H0 D G1 ((L, .lst vs) :: M) H1 → RpAll K G1 vs (as.map F) → Q (.ref L) H1) : LcG (Itt K a) g tt te vss σ Q H := by
  have xl := hr.length
  rw [List.length_map] at xl
  refine lcIM (walk_tup (xs := xs)) hS (fun H1 e => Same.t e hq) (fun i M1 es => M1 = M ∧ es = (as.take i).map F) ⟨rfl, rfl⟩ (fun i x L G1 M1 vs es H1 H2 hi e l0 s r w yy => ?_) (fun L G1 M1 vs es H1 e l0 s r w => ?_)
  · obtain ⟨rfl, rfl⟩ := w
    obtain ⟨rfl, hx⟩ := yy
    have hi2 : i < as.length := by omega
    obtain ⟨d, hd', rd⟩ := hr.getV hx
    rw [List.getElem?_map, List.getElem?_eq_getElem hi2] at hd'
    cases hd'
    refine hs x as[i] L G1 vs _ H2 _ (List.getElem_mem hi2) (rd.up e) e l0 s r fun y G2 H3 e2 s2 hy => ?_
    refine lcY s2 (e.trans e2) (r.up e2) hy (by simp; omega) ⟨rfl, ?_⟩
    rw [List.take_add_one, List.getElem?_eq_getElem hi2, List.map_append]
    rfl
  · obtain ⟨rfl, rfl⟩ := w
    rw [List.take_of_length_le (by omega)] at r
    exact hd L vs G1 H1 e l0 s r
theorem lcMapLM {α : Type} {xs : List V} {g : TG} {as : List α} {Da : α → Dt} {F : α → Dt} (hS : Sta K G0 H0 D G M H) (hq : SqL K G a xs) (hr : RpAll K G xs (as.map Da)) (hl : as.length ≤ 100000)
    (hs : ∀ x c L G1 vs es H1 (Z : List (Addr × HO) → List Dt → Prop), c ∈ as → Rp K G1 x (Da c) → Same G G1 → H0 L = none → Sta K G0 H0 D G1 ((L, .lst vs) :: M) H1 → RpAll K G1 vs es → (∀ y G2 H2, Same G1 G2 → Sta K G0 H0 D G2 ((L, .lst vs) :: M) H2 → Rp K G2 y (F c) → LcY K G0 H0 D G L Z y H2) →
      g x (wipe σ vss) H1 fun σ2 H3 => wipe σ2 vss = wipe σ vss ∧ tt σ2 H3 fun b H4 => if b = true then te σ2 H4 (LcY K G0 H0 D G L Z) else LcP K G0 H0 D G L Z H4)
    (hd : ∀ L vs G1 H1, Same G G1 → H0 L = none → Sta K G0 H0 D G1 ((L, .lst vs) :: M) H1 → RpAll K G1 vs (as.map F) → Q (.ref L) H1) : LcG (Itl K a) g tt te vss σ Q H := by
  have xl := hr.length
  rw [List.length_map] at xl
  refine lcIM (walk_list (xs := xs)) hS (fun H1 e => e.seq hq) (fun i M1 es => M1 = M ∧ es = (as.take i).map F) ⟨rfl, rfl⟩ (fun i x L G1 M1 vs es H1 H2 hi e l0 s r w yy => ?_) (fun L G1 M1 vs es H1 e l0 s r w => ?_)
  · obtain ⟨rfl, rfl⟩ := w
    obtain ⟨rfl, hx⟩ := yy
    have hi2 : i < as.length := by omega
    obtain ⟨d, hd', rd⟩ := hr.getV hx
    rw [List.getElem?_map, List.getElem?_eq_getElem hi2] at hd'
    cases hd'
    refine hs x as[i] L G1 vs _ H2 _ (List.getElem_mem hi2) (rd.up e) e l0 s r fun y G2 H3 e2 s2 hy => ?_
    refine lcY s2 (e.trans e2) (r.up e2) hy (by simp; omega) ⟨rfl, ?_⟩
    rw [List.take_add_one, List.getElem?_eq_getElem hi2, List.map_append]
    rfl
  · obtain ⟨rfl, rfl⟩ := w
    rw [List.take_of_length_le (by omega)] at r
    exact hd L vs G1 H1 e l0 s r
/-- over zip of two lists of one length -/
theorem lcMapZL {α β : Type} {a b : Addr} {xs ys : List V} {as : List α} {bs : List β} {Da : α → Dt} {Db : β → Dt} {F : α → β → Dt} {i1 j1 : Nat} (hS : Sta K G0 H0 D G M H) (hq : SqL K G a xs) (hr : RpAll K G xs (as.map Da)) (hq' : SqL K G b ys) (hr' : RpAll K G ys (bs.map Db)) (hab : as.length = bs.length) (hl : as.length ≤ 100000)
    (hs : ∀ x y c e L G1 vs es H1 (Z : List (Addr × HO) → List Dt → Prop), c ∈ as → e ∈ bs → Rp K G1 x (Da c) → Rp K G1 y (Db e) → Same G G1 → H0 L = none → Sta K G0 H0 D G1 ((L, .lst vs) :: M) H1 → RpAll K G1 vs es → (∀ y G2 H2, Same G1 G2 → Sta K G0 H0 D G2 ((L, .lst vs) :: M) H2 → Rp K G2 y (F c e) → LcY K G0 H0 D G L Z y H2) →
      ∀ σ2, List.set (List.set (wipe σ vss) i1 (some x)) j1 (some y) = σ2 → wipe σ2 vss = wipe σ vss ∧ tt σ2 H1 fun b H4 => if b = true then te σ2 H4 (LcY K G0 H0 D G L Z) else LcP K G0 H0 D G L Z H4)
    (hd : ∀ p G1 H1, Same G G1 → Sta K G0 H0 D G1 M H1 → Rp K G1 (.ref p) (.lst (List.zipWith F as bs)) → Q (.ref p) H1) : LcG (Itz K a b) (gTup K 2 (gCons (gName i1) (gCons (gName j1) gNil))) tt te vss σ Q H := by
  refine lcZ hS hq hr hq' hr' (fun i M1 es => M1 = M ∧ es = (List.zipWith F as bs).take i) ⟨rfl, rfl⟩ (fun i u z d f L G1 M1 vs es H1 hi hd' hf' rd rf e l0 s r w σ2 eσ => ?_) (fun p G1 M1 es H1 e s r w => ?_)
  · obtain ⟨rfl, rfl⟩ := w
    rw [List.length_map, List.length_map] at hi
    have ha : i < as.length := by omega
    have hb : i < bs.length := by omega
    rw [List.getElem?_map, List.getElem?_eq_getElem ha] at hd'
    rw [List.getElem?_map, List.getElem?_eq_getElem hb] at hf'
    cases hd'
    cases hf'
    refine hs u z as[i] bs[i] L G1 vs _ H1 _ (List.getElem_mem ha) (List.getElem_mem hb) rd rf e l0 s r (fun y G3 H3 e3 s3 hy => ?_) σ2 eσ
    refine lcY s3 (e.trans e3) (r.up e3) hy (by simp; omega) ⟨rfl, ?_⟩
    have hz : i < (List.zipWith F as bs).length := by rw [List.length_zipWith]; omega
    rw [List.take_add_one, List.getElem?_eq_getElem hz]
    simp
  · obtain ⟨rfl, rfl⟩ := w
    rw [List.length_map, List.length_map, List.take_of_length_le (by rw [List.length_zipWith]; omega)] at r
    exact hd p G1 H1 e s r
theorem go_zkL {k : It → Hp → Prop} {fs : List Dt} (hx : Rp K G x (.lst ds)) (hy : Rp K G y (.lst fs)) (e : Same G H) (h : ∀ a b xs ys, x = .ref a → y = .ref b → SqL K G a xs → RpAll K G xs ds → SqL K G b ys → RpAll K G ys fs → k (Itz K a b) H) : ZTK K k [x, y] H := by
  obtain ⟨a, xs, rfl, hs, ha⟩ := Rp.lst_inv hx
  obtain ⟨b, ys, rfl, hs', ha'⟩ := Rp.lst_inv hy
  exact ⟨a, b, xs, ys, rfl, .inl ⟨e.seq hs, e.seq hs', h a b xs ys rfl rfl hs ha hs' ha'⟩⟩
/-- a list asked for its truth -/
theorem go_truL {ds : List Dt} {P : Bool → Hp → Prop} (hx : Rp K G x (.lst ds)) (e : Same G H) (h : P (!ds.isEmpty) H) : rTru_ K P x H := by
  obtain ⟨a, xs, rfl, hs, ha⟩ := Rp.lst_inv hx
  refine ⟨!xs.isEmpty, .inl ⟨xs, e.seq hs, rfl⟩, ?_⟩
  have : xs.isEmpty = ds.isEmpty := by
    cases ha <;> rfl
  rw [this]
  exact h
theorem go_tTru {ta : TE} {P : Bool → Hp → Prop} (h : ta σ H fun x H1 => rTru_ K P x H1) : tTru_ K ta σ H P := h
end
theorem putF3 {f g h : Str} {v u w : V} : (putF f v (putF g u (putF h w []))).length < 1000 := by
  have h1 := length_putF f v (putF g u (putF h w []))
  have h2 := length_putF g u (putF h w [])
  have h3 := length_putF h w []
  simp at h3
  omega
end B
/-! sorted(xs, key=lambda p: ..): the lambda is made anew, its code object stands in the maker's table -/
namespace B
open PySem PySem.Spec PyProof.Rows L2 LamX NdefX
/-- what stands in a maker's table: code objects of the name q, all known -/
def TabP (H : Hp) (ps : Array Value) (q : Str) : Prop := TriplesOk ps.toList ∧ ∀ (at_ : Pos) (u : Value), codeAmong at_ ps.toList = some u → ∃ c, u = .ref c ∧ H c = some (CodeO c q)
theorem TabP.nil {H : Hp} {q : Str} : TabP H #[] q := ⟨True.intro, fun at_ u e => by
  have e : codeAmong at_ [] = some u := e
  simp [codeAmong] at e⟩
theorem TabP.up {H H' : Hp} {ps : Array Value} {q : Str} (t : TabP H ps q) (e : Same H H') : TabP H' ps q := ⟨t.1, fun at_ u h => by
  obtain ⟨c, e1, e2⟩ := t.2 at_ u h
  exact ⟨c, e1, e _ _ e2⟩⟩
def rowT (at_ : Pos) (c : Addr) : Array Value := #[rawInt at_.line, rawInt at_.col, .ref c]
theorem TabP.snoc {H : Hp} {ps : Array Value} {q : Str} (t : TabP H ps q) {c : Addr} (at_ : Pos) (hc : H c = some (CodeO c q)) : TabP H (ps ++ rowT at_ c) q := by
  have el : (ps ++ rowT at_ c).toList = ps.toList ++ [rawInt at_.line, rawInt at_.col, .ref c] := by simp [rowT]
  refine ⟨by rw [el]; exact PySem.TriplesOk_snoc _ _ _ _ t.1, fun at2 u h => ?_⟩
  rw [el] at h
  rcases among_app _ t.1 h with z | z
  · exact t.2 at2 u z
  · exact ⟨c, z, hc⟩
abbrev lamO (q : Str) (params : Arguments) (body : Expr) (scope : Scope) (cl : List (Str × Addr)) (pm : Value) (c : Addr) (ct : Value) : Obj := PySem.W.kla_obj "<lambda>" q params body scope cl pm c ct
section
variable {s : Shared} {H : Hp} {X : Cx} {σ : L2.St} {pins : List (Addr × Obj)}
/-- the lambda's object: its code is found in the table, or new there -/
theorem lam_made {c P : Addr} {params : Arguments} {body : Expr} {scope : Scope} {at_ : Pos} {q : Str} {ps : Array Value} {E : Value → Shared → Prop} {Q : Value → Shared → Prop} (I : Inv X pins σ H s) (TB : TabB X.base X.mg c P) (hc : X.env.code = .ref c) (hq : X.env.qual ++ "<lambda>" = q)
    (hP : H P = some (.tbl ps)) (hT : TabP H ps q) (hd : defaultsOf params X.env = ([], [])) (hf : ∀ y ∈ scope.names, y.2 = .free → ∃ a, X.env.cells.lookup y.1 = some a)
    (old : ∀ (f k : Addr) (pm ct : Value) (s1 : Shared), codeAmong at_ ps.toList = some (.ref k) → H k = some (CodeO k q) → Inv X ((f, lamO q params body scope (cloFrom X.env.cells scope.names []) pm k ct) :: pins) σ H s1 → Q (.ref f) s1)
    (new : ∀ (f k : Addr) (pm ct : Value) (s1 : Shared), H k = none → Inv X ((f, lamO q params body scope (cloFrom X.env.cells scope.names []) pm k ct) :: pins) σ (upd (upd H P (.tbl (ps ++ rowT at_ k))) k (CodeO k q)) s1 → Q (.ref f) s1) :
    wpAny (model X.prog X.w) X.A (eval (.Lambda params body scope at_) X.env) Q E s := by
  subst hq
  have tabAt : s.heap.get? P = some { cls := .none, data := .fields ps } := I.hok P _ hP
  have lsz := I.lt
  have pinned : ∀ {s1 : Shared} {H1 : Hp} {f : Addr} {o : Obj}, Inv X pins σ H1 s1 → s1.heap.get? f = some o → H1 f = none → s.heap.objs.size ≤ f → (∀ v, o.data ≠ .cell v) → Inv X ((f, o) :: pins) σ H1 s1 := fun {s1 H1 f o} J e n hz nc => J.pins_of fun p hp => by
    rcases List.mem_cons.mp hp with rfl | hm
    · exact ⟨e, n, fun z => Nat.lt_irrefl _ (Nat.lt_of_lt_of_le (by rw [← z] at lsz; exact lsz) hz), I.nofs hz, nc⟩
    · exact J.pin p (List.mem_append_right _ hm)
  refine PySem.W.kla_eval hd ?_
  cases e : codeAmong at_ ps.toList with
  | some u =>
    obtain ⟨k, eu, hk⟩ := hT.2 at_ u e
    subst eu
    refine PySem.W.kla_makeFunctionHit (closure_ok hf) I.ok.glob (I.mod.glob.keeps I.bk) hc (TB.code.keeps I.bk) tabAt hT.1 e (TB.bm.keeps I.bk) fun ct h1 tk keep hsz => ?_
    refine old h1.objs.size k _ ct _ e hk (pinned (I.kept (t' := tk) fun b o eb => Heap.get?_push_of_some _ (keep b o eb)) (Heap.get?_push_size _ rfl) (I.hok.fresh hsz) hsz fun v z => by cases z)
  | none =>
    refine PySem.W.kla_makeFunction (closure_ok hf) I.ok.glob (I.mod.glob.keeps I.bk) hc (TB.code.keeps I.bk) tabAt hT.1 e TB.gP (TB.bm.keeps I.bk) fun k ct h1 tk keep hge hlt hrec htab => ?_
    obtain ⟨k2, oc, vs, t, e2, hoc, hdat, hnm⟩ := hrec
    cases e2
    have big : s.heap.objs.size ≤ h1.objs.size := Nat.le_trans hge (Nat.le_of_lt hlt)
    have nk : H k = none := I.hok.fresh hge
    have J := inv_table (t' := tk) (more := rowT at_ k) (h' := h1.push (lamO (X.env.qual ++ "<lambda>") params body scope (cloFrom X.env.cells scope.names []) ((X.mg "__name__").getD .none) k ct)) I hP
      (fun b o hb eb => Heap.get?_push_of_some _ (keep b o hb eb)) (Heap.get?_push_of_some _ htab) hge ⟨oc, vs, t, Heap.get?_push_of_some _ hoc, hdat, hnm⟩
    refine new h1.objs.size k _ ct _ nk (pinned J (Heap.get?_push_size _ rfl) ?_ big fun v z => by cases z)
    have d1 : h1.objs.size ≠ k := Nat.ne_of_gt hlt
    have d2 : h1.objs.size ≠ P := Nat.ne_of_gt (Nat.lt_of_lt_of_le (Heap.lt_size tabAt) big)
    rw [upd_ne d1, upd_ne d2]
    exact I.hok.fresh big
/-- the words of a lambda -/
abbrev lamF (q : Str) (params : Arguments) (scope : Scope) (cl : List (Str × Addr)) (k : Addr) : NF := ⟨"<lambda>", q, params, [], scope, cl, k⟩
/-- where its body is walked -/
abbrev lamX (X : Cx) (N : List Str) (F : NF) (f : Addr) (s : Shared) (H : Hp) : Cx := ncx CX0 X.prog X.w X.K X.mg X.base N F f X.A.in1.in1 X.stack s H E0
/-- a lambda of one parameter, called as a key -/
theorem key_lam {N fr : List Str} {x q : Str} {params : Arguments} {body : Expr} {scope : Scope} {cl : List (Str × Addr)} {pm ct : Value} {f k : Addr} {js : List Nat} {tb : TE} {n : Nat} (S : NScope N [x] fr scope) (cp : Caps X cl fr js) (hr : Room (n + 3) X.A)
    (hb : ∀ u : Value, bindArgs (PySem.W.kla_fn "<lambda>" q params body scope cl pm (.ref k) ct) ⟨[u], []⟩ = pure ([x].zip [u]))
    (hbody : ∀ (s : Shared) (H : Hp), Room n (lamX X N (lamF q params scope cl k) f s H).A → PE (lamX X N (lamF q params scope cl k) f s H) body tb) :
    KeyRun X [(f, lamO q params body scope cl pm k ct)] σ f fun y H1 Q => H1 k = some (CodeO k q) ∧ tb (startF N [y] (js.map (slotAt σ))) H1 Q := ⟨fun pins s H1 y u Q hp I ry h => by
  obtain ⟨hk, ht⟩ := h
  have hf := (I.pin _ (List.mem_append_right _ (hp _ List.mem_cons_self))).1
  have hr2 : Room (n + 1) X.A.in1.in1 := hr.in1.in1
  have e0 := I.env0.in1.in1
  have nolim : s.heap.NoLimit := e0.mod.nolimit.keeps fun a o z => (e0.bs a o z).1
  have go : codeAny (model X.prog X.w) X.A.in1.in1 (.call (.ref f) ⟨[u], []⟩) (CR CX0 X.stack X.prog X.w H1 s Q E0) s := by
    refine PySem.W.kla_callFunE hr2.depth hf rfl S.co S.gen rfl (codeO_at I.hok hk) ?_
    rw [hb u]
    refine wpAny_pure (wpAny_newFunctionEnv S.nocell (fun ⟨a, _⟩ hy => S.par a (List.of_mem_zip hy).1) (fun h₁ hns hsb => ⟨nolim.fresh _ hsb, ?_⟩) S.kind)
    show codeAny _ _ (.expr body (envF (lamF q params scope cl k) f s.heap.objs.size)) _ _
    have kp : ∀ a o, s.heap.get? a = some o → h₁.get? a = some o := fun a o z => hsb.extBut a o (Nat.ne_of_lt (Heap.lt_size z)) (Heap.get?_push_of_some _ z)
    have J : Inv (lamX X N (lamF q params scope cl k) f s H1) [] (startF N [y] (js.map (slotAt σ))) H1 { s with heap := h₁, toks := s.toks + ([x].zip [u]).length } := inv_startN S hr2.hd e0 rfl (.cons ry .nil) (cells_of I cp) hns kp
    refine PySem.W.kla_codeExpr (wpAny_mono ((hbody s H1 (hr2.deeper _)).run [] _ _ H1 Q J ht) (fun v s2 he => ?_) fun e s2 he => he)
    obtain ⟨w', H', J', rv, hq⟩ := he
    exact ⟨w', H', J'.os, J'.bare, J'.base, J'.hok, rv, hq⟩
  refine wpAny_call (codeAny_mono go fun r s2 hq => ?_)
  cases r with
  | error e => exact hq.elim
  | ok fl =>
    cases fl with
    | ret u => exact I.after hq
    | next => exact False.elim hq
    | brk => exact False.elim hq
    | cont => exact False.elim hq⟩
/-- sorted by the lambda whose code is at k -/
def rSoL (K : PySem.W.Frag) (q : Str) (N : List Str) (js : List Nat) (tb : TE) (σ : L2.St) (k : Addr) (vs : List V) (H : Hp) (Q : VK) : Prop := ∃ (a : Addr) (xs : List V), vs = [.ref a] ∧ (SqL K H a xs ∨ SqT K H a xs) ∧
  keysT (fun y H1 Q1 => H1 k = some (CodeO k q) ∧ tb (startF N [y] (js.map (slotAt σ))) H1 Q1) xs H fun ks H1 => ∃ ls : List (List Int), KeysAre K H1 ks ls ∧ ∀ p, H1 p = none → Q (.ref p) (upd H1 p (.lst ((srtK (ls.zip xs)).map (·.2))))
def tSoL (K : PySem.W.Frag) (P : Addr) (q : Str) (at_ : Pos) (N : List Str) (js : List Nat) (tb : TE) (t : TA) : TE := fun σ H Q => t σ H fun vs H1 => ∃ ps, H1 P = some (.tbl ps) ∧ TabP H1 ps q ∧
  (∀ k, codeAmong at_ ps.toList = some (.ref k) → H1 k = some (CodeO k q) → rSoL K q N js tb σ k vs H1 Q) ∧ ∀ k, H1 k = none → rSoL K q N js tb σ k vs (upd (upd H1 P (.tbl (ps ++ rowT at_ k))) k (CodeO k q)) Q
/-- its captured names are the maker's -/
def lamB (sc scope : Scope) (fr : List Str) : Bool := (scope.names.all fun y => !decide (y.2 = .free) || decide (sc.names.lookup y.1 = some .cell) || decide (sc.names.lookup y.1 = some .free)) && fr.all fun y => decide ((y, NameKind.free) ∈ scope.names)
theorem lamB_fr {sc scope : Scope} {fr : List Str} (h : lamB sc scope fr = true) : ∀ y ∈ scope.names, y.2 = .free → sc.names.lookup y.1 = some .cell ∨ sc.names.lookup y.1 = some .free := fun y hy e => by
  have z := List.all_eq_true.mp (Bool.and_eq_true_iff.mp h).1 y hy
  simp only [Bool.or_eq_true, Bool.not_eq_true', decide_eq_true_eq, decide_eq_false_iff_not] at z
  rcases z with (z | z) | z
  · exact absurd e z
  · exact .inl z
  · exact .inr z
theorem lamB_fx {sc scope : Scope} {fr : List Str} (h : lamB sc scope fr = true) : ∀ y ∈ fr, (y, NameKind.free) ∈ scope.names := fun y hy => by
  simpa using List.all_eq_true.mp (Bool.and_eq_true_iff.mp h).2 y hy
/-- sorted(e, key=lambda ..) -/
theorem pe_sortL {N fr : List Str} {x q : Str} {params : Arguments} {body : Expr} {scope : Scope} {js : List Nat} {tb : TE} {n : Nat} {c P : Addr} {e : Expr} {t : TA} {lp kp_ p pos : Pos} (TB : TabB X.base X.mg c P) (hc : X.env.code = .ref c) (hq : X.env.qual ++ "<lambda>" = q) (hg : Gl X "sorted") (hm : X.mg "sorted" = none)
    (ha : PA X [e] t) (S : NScope N [x] fr scope) (hl : lamB X.env.scope scope fr = true) (hjs : js.map (fun j => X.N[j]?) = fr.map some)
    (hr : Room (n + 3) X.A) (hd : defaultsOf params X.env = ([], [])) (hb : ∀ (cl : List (Str × Addr)) (pm ct : Value) (k : Addr) (u : Value), bindArgs (PySem.W.kla_fn "<lambda>" q params body scope cl pm (.ref k) ct) ⟨[u], []⟩ = pure ([x].zip [u]))
    (hbody : ∀ (f k : Addr) (s : Shared) (H : Hp), Room n (lamX X N (lamF q params scope (cloFrom X.env.cells scope.names []) k) f s H).A → PE (lamX X N (lamF q params scope (cloFrom X.env.cells scope.names []) k) f s H) body tb)
    (he : backTo pos (starEach [e] X.env) = (false, eval e X.env) :: backTo pos (starEach [] X.env) := by rfl) (hpl : (backTo pos (starEach [e] X.env)).any (·.1) = false := by rfl)
    (hall : (backToKw pos (keywordEach [⟨some (Str.ofString "key"), .Lambda params body scope lp, kp_⟩] X.env)).all (·.1.isSome) = true := by rfl) (hnone : (backToKw pos (keywordEach [⟨some (Str.ofString "key"), .Lambda params body scope lp, kp_⟩] X.env)).any (·.1.isNone) = false := by rfl) :
    PE X (.Call (.Name "sorted" p) [e] [⟨some (Str.ofString "key"), .Lambda params body scope lp, kp_⟩] pos) (tSoL X.K P q lp N js tb t) := by
  refine ⟨fun pins s σ H Q I h => wpAny_Call_Name_kw (ld_blt I hg hm (show bootBuiltins "sorted" = some (.builtin "sorted") by decide +kernel) ?_ (by decide) (by decide))⟩
  refine PyProof.Rows.callWith_kw (thn (ha.run pos pins s σ H _ I h) fun us s1 ⟨vs, H1, I1, r1, q1⟩ => ?_) he hpl hall hnone
  obtain ⟨ps, hP, hT, h1, h2⟩ := q1
  have hfr := lamB_fr hl
  have hfx := lamB_fx hl
  have free : ∀ y ∈ scope.names, y.2 = .free → ∃ a, X.env.cells.lookup y.1 = some a := fun y hy e => (hfr y hy e).elim (fun z => I.ok.has _ (.inl z)) fun z => I.ok.has _ (.inr z)
  have cp : Caps X (cloFrom X.env.cells scope.names []) fr js := Caps.made I.ok hfr hfx hjs
  show wpAny _ _ (evalAll [do let v ← eval (.Lambda params body scope lp) X.env; standAt pos; pure v]) _ _ s1
  have fin : ∀ (f k : Addr) (pm ct : Value) (s2 : Shared) (H2 : Hp), Inv X ((f, lamO q params body scope (cloFrom X.env.cells scope.names []) pm k ct) :: pins) σ H2 s2 → rSoL X.K q N js tb σ k vs H2 Q →
      wpAny (model X.prog X.w) X.A (call (.builtin "sorted") us [(Str.ofString "key", .ref f)]) (EP X pins σ Q) X.xe s2 := fun f k pm ct s2 H2 J ⟨a, xs, ev, hs, hk⟩ => by
    subst ev
    obtain rfl := Vals.ref1 r1
    refine thn (sortK_call (key_lam (pm := pm) (ct := ct) S cp hr (hb _ pm ct k) (hbody f k)) (fun p hp => by rw [List.mem_singleton.mp hp]; exact List.mem_cons_self) J hs hk) fun u s3 ⟨y, H3, J3, ry, hy⟩ => ?_
    exact ⟨y, H3, J3.pins_of fun p hp => J3.pin p (List.mem_append_right _ (List.mem_cons_of_mem _ hp)), ry, hy⟩
  refine wpAny_evalAll_cons (wpAny_bind (lam_made I1 TB hc hq hP hT hd free (fun f k pm ct s2 ht hk J => ?_) fun f k pm ct s2 hk J => ?_))
  · exact wpAny_bind (wpAny_standAt (wpAny_pure (wpAny_evalAll_nil (fin f k pm ct s2 _ J (h1 k ht hk)))))
  · exact wpAny_bind (wpAny_standAt (wpAny_pure (wpAny_evalAll_nil (fin f k pm ct s2 _ J (h2 k hk)))))
end
/-! ### in terms of the state -/
section
variable {K : PySem.W.Frag} {D : List Addr} {G0 H0 G H : Hp} {M : List (Addr × HO)} {α : Type} {Da : α → Dt} {kf : α → List Int} {kd : List Int → Dt}
/-- what a key's body makes of a thing, from G on -/
def KeyFrom (K : PySem.W.Frag) (Gb : Hp) (Da : α → Dt) (kf : α → List Int) (kd : List Int → Dt) (r : V → Hp → VK → Prop) : Prop := ∀ (x : V) (a : α) (G0 H0 G H : Hp) (D : List Addr) (M : List (Addr × HO)) (Q : VK), Same Gb G → Sta K G0 H0 D G M H → Rp K G x (Da a) →
  (∀ k G1 H1, Same G G1 → Sta K G0 H0 D G1 M H1 → Rp K G1 k (kd (kf a)) → Q k H1) → r x H Q
theorem keysT_from {r : V → Hp → VK → Prop} {Gb : Hp} (hd : KeyFrom K Gb Da kf kd r) : ∀ (as : List α) (xs : List V) (G H : Hp) (Q : List V → Hp → Prop), Same Gb G → Sta K G0 H0 D G M H → RpAll K G xs (as.map Da) →
    (∀ ks G1 H1, Same G G1 → Sta K G0 H0 D G1 M H1 → RpAll K G1 ks (as.map fun a => kd (kf a)) → Q ks H1) → keysT r xs H Q
  | [], xs, G, H, Q, _, hS, hx, q => by
    cases hx
    exact q [] G H (Same.refl G) hS .nil
  | a :: as, _, G, H, Q, eb, hS, hx, q => by
    cases hx with
    | cons h1 h2 =>
      refine hd _ a G0 H0 G H D M _ eb hS h1 fun k G1 H1 e1 hS1 hk => ?_
      refine keysT_from hd as _ G1 H1 _ (eb.trans e1) hS1 (h2.up e1) fun ks G2 H2 e2 hS2 hks => ?_
      exact q _ G2 H2 (e1.trans e2) hS2 (.cons (hk.up e2) hks)
/-- the table's new row: the code object is new and never changes -/
theorem Sta.row (h : Sta K G0 H0 D G M H) {i : Nat} {P k : Addr} {o u : HO} {q : Str} (hi : M[i]? = some (P, o)) (hk : H k = none) : Sta K G0 H0 D (upd G k (CodeO k q)) (M.set i (P, u)) (upd (upd H P u) k (CodeO k q)) := by
  have nk : P ≠ k := fun e => by
    have := h.get hi
    rw [e, hk] at this
    cases this
  have h1 := h.set hi u
  exact h1.imm (by rw [upd_ne (fun e => nk e.symm)]; exact hk) _
theorem go_soL {q : Str} {N : List Str} {js : List Nat} {tb : TE} {σ : L2.St} {k : Addr} {as : List α} {x : V} {Q : VK} (gk : G k = some (CodeO k q)) (hd : KeyFrom K G Da kf kd fun y H1 Q1 => tb (startF N [y] (js.map (slotAt σ))) H1 Q1) (hk : ∀ ks G1 H1, Same G1 H1 → RpAll K G1 ks (as.map fun a => kd (kf a)) → KeysAre K H1 ks (as.map kf))
    (hS : Sta K G0 H0 D G M H) (hx : Rp K G x (.lst (as.map Da)) ∨ Rp K G x (.tup (as.map Da)))
    (fin : ∀ p vs G1 H1, H0 p = none → G p = none → Same G G1 → Sta K G0 H0 D G1 ((p, .lst vs) :: M) H1 → RpAll K G1 vs ((srtA kf as).map Da) → Q (.ref p) H1) : rSoL K q N js tb σ k [x] H Q := by
  obtain ⟨a, xs, rfl, hs, ha⟩ : ∃ a xs, x = .ref a ∧ (SqL K H a xs ∨ SqT K H a xs) ∧ RpAll K G xs (as.map Da) := by
    rcases hx with hx | hx
    · obtain ⟨a, xs, rfl, hs, ha⟩ := Rp.lst_inv hx
      exact ⟨a, xs, rfl, .inl (hS.gh.seq hs), ha⟩
    · obtain ⟨a, xs, rfl, hs, ha⟩ := Rp.tup_inv hx
      exact ⟨a, xs, rfl, .inr (Same.t hS.gh hs), ha⟩
  refine ⟨a, xs, rfl, hs, keysT_from (kf := kf) (kd := kd) (Gb := G) (fun y b A0 B0 G1 H1 D1 M1 Q1 e s r w => ⟨s.gh _ _ (e _ _ gk), hd y b A0 B0 G1 H1 D1 M1 Q1 e s r w⟩) as xs G H _ (Same.refl G) hS ha fun ks G1 H1 e1 hS1 hks => ⟨as.map kf, hk ks G1 H1 hS1.gh hks, fun p hp => ?_⟩⟩
  have hg : G p = none := by
    cases e : G p with
    | none => rfl
    | some o =>
      have := hS1.gh _ _ (e1 _ _ e)
      rw [hp] at this
      cases this
  exact fin p _ G1 _ (hS1.h0 hp) hg e1 (hS1.mut hp _) (rpAll_of (srtK_rel (rk_of (ha.up e1))))
/-- sorted(xs, key=lambda ..): the table may have one row more -/
def SoK (K : PySem.W.Frag) (P : Addr) (q : Str) (at_ : Pos) (N : List Str) (js : List Nat) (tb : TE) (σ : L2.St) (Q : VK) (vs : List V) (H1 : Hp) : Prop := ∃ ps, H1 P = some (.tbl ps) ∧ TabP H1 ps q ∧
  (∀ k, codeAmong at_ ps.toList = some (.ref k) → H1 k = some (CodeO k q) → rSoL K q N js tb σ k vs H1 Q) ∧ ∀ k, H1 k = none → rSoL K q N js tb σ k vs (upd (upd H1 P (.tbl (ps ++ rowT at_ k))) k (CodeO k q)) Q
theorem go_tSoL {P : Addr} {q : Str} {at_ : Pos} {N : List Str} {js : List Nat} {tb : TE} {t : TA} {σ : L2.St} {Q : VK} (h : t σ H fun vs H1 => SoK K P q at_ N js tb σ Q vs H1) : tSoL K P q at_ N js tb t σ H Q := h
theorem set_same {M : List (Addr × HO)} {i : Nat} {q : Addr × HO} (h : M[i]? = some q) : M.set i q = M := by
  apply List.ext_getElem?
  intro j
  rw [List.getElem?_set]
  split
  · rename_i e
    subst e
    have hl := (List.getElem?_eq_some_iff.mp h).1
    rw [if_pos hl, h]
  · rfl
theorem go_soK {P : Addr} {q : Str} {at_ : Pos} {N : List Str} {js : List Nat} {tb : TE} {σ : L2.St} {as : List α} {x : V} {Q : VK} {ps : Array Value} {i : Nat} (hS : Sta K G0 H0 D G M H) (hi : M[i]? = some (P, .tbl ps)) (ht : TabP G ps q) (hx : Rp K G x (.lst (as.map Da)) ∨ Rp K G x (.tup (as.map Da)))
    (hd : ∀ Gb, Same G Gb → KeyFrom K Gb Da kf kd fun y H1 Q1 => tb (startF N [y] (js.map (slotAt σ))) H1 Q1) (hk : ∀ ks G1 H1, Same G1 H1 → RpAll K G1 ks (as.map fun a => kd (kf a)) → KeysAre K H1 ks (as.map kf))
    (fin : ∀ p vs ps' G1 H1, H0 p = none → G p = none → Same G G1 → TabP G1 ps' q → Sta K G0 H0 D G1 ((p, .lst vs) :: M.set i (P, .tbl ps')) H1 → RpAll K G1 vs ((srtA kf as).map Da) → Q (.ref p) H1) : SoK K P q at_ N js tb σ Q [x] H := by
  refine ⟨ps, hS.get hi, ht.up hS.gh, fun k hc _ => ?_, fun k hn => ?_⟩
  · obtain ⟨c, e1, e2⟩ := ht.2 at_ _ hc
    cases e1
    refine go_soL e2 (hd G (Same.refl G)) hk hS hx fun p vs G1 H1 h0 hg e s r => fin p vs ps G1 H1 h0 hg e (ht.up e) ?_ r
    rw [set_same hi]
    exact s
  · have hg : G k = none := hS.gn hn
    have eu : Same G (upd G k (CodeO k q)) := same_upd hg
    refine go_soL (G := upd G k (CodeO k q)) upd_same (hd _ eu) hk (hS.row hi hn) (hx.elim (fun z => .inl (z.up eu)) fun z => .inr (z.up eu)) fun p vs G1 H1 h0 hg1 e s r => fin p vs _ G1 H1 h0 (eu.free hg1) (eu.trans e) (((ht.up eu).snoc at_ upd_same).up e) s r
end
/-! ### a def that makes lambdas; the end -/
/-- the def's code object stands at c -/
structure FunC (K : PySem.W.Frag) (x qual : Str) (st : Stmt) (f : Addr) (fd : FuncData) (c : Addr) : Prop where
  ex : ∃ (oc : Value) (od : Option Addr) (kV doc pm : Value) (an : Option Addr) (ct : Value) (osl : Array (Option Value)),
    fd = PySem.W.fnOf x qual (defArgs st) (defBody st) (defScope st) .none kV doc pm an (.ref c) ct ∧ K.lookup f = some ⟨oc, od, .func fd, osl⟩ ∧ PySem.W.codeIn K (.ref c) qual = true
section
variable {P : Program} {w : World} {K : PySem.W.Frag} {mg : Str → Option Value} {base : Heap} {x qual : Str} {st : Stmt} {f c : Addr} {fd : FuncData} {N ps : List Str} {k : Nat} {sp : Sp}
theorem FunC.ok (F : FunC K x qual st f fd c) (S : FnScope N ps (defScope st)) (len : ∀ vs H Q E, sp vs H Q E → vs.length = ps.length)
    (hbody : ∀ (A : Around) (outer : List Env) (s : Shared) (H : Hp) (vs : List V) (Q : VK) (E : XK), Room k (A.deeper (envOfC qual (defScope st) s.heap.objs.size f (.ref c))) → sp vs H Q E →
      ∃ t, PSs (cxOf L2.CX0 P w K mg base N qual (defScope st) f (.ref c) A outer s H E).nox (defBody st) t ∧ t { nx := fun _ H' => Q .non H', rt := Q } (L2.start N vs) H) : FnOk P w K mg base L2.CX0 (k + 1) f fd ps sp := by
  obtain ⟨oc, od, kV, doc, pm, an, ct, osl, rfl, lk, hcd⟩ := F.ex
  refine fn_of lk hcd S len fun A outer s H vs Q E hr h => ?_
  obtain ⟨t, h1, h2⟩ := hbody A outer s H vs Q E hr h
  exact ⟨t, h1.nox, h2⟩
theorem funC_mk {oc : Value} {od an : Option Addr} {osl : Array (Option Value)} {kV doc pm ct : Value} (l : K.lookup f = some ⟨oc, od, .func (PySem.W.fnOf x qual (defArgs st) (defBody st) (defScope st) .none kV doc pm an (.ref c) ct), osl⟩)
    (h : PySem.W.codeIn K (.ref c) qual = true) : FunC K x qual st f (PySem.W.fnOf x qual (defArgs st) (defBody st) (defScope st) .none kV doc pm an (.ref c) ct) c := ⟨⟨oc, od, kV, doc, pm, an, ct, osl, rfl, l, h⟩⟩
end
/-- the table of the top's def x is empty at the head -/
def HeadTab (K : PySem.W.Frag) (q : Program) (h : Heap) : Prop := ∀ (x : Str) (c P : Addr), ((recsOf q).any fun e => e.name == x) = true → PySem.W.tabIn K x = some (c, P) → PySem.W.CodeHd h c P ∧ h.get? P = some { cls := .none, data := .fields #[] }
theorem walk_tabs {l : PySem.W.OpenLaw} {n k : Nat} {q : Program} {loose : List Str} {XP : (Str → Option Value) → Heap → Prop} {YP : World → Heap → Prop} {d : DefRec} {K : Params → PySem.W.Frag} {CX : World → CXT} {x : Str}
    (hn : l.most = some n) (hn2 : n ≤ sizeLine) (hdf : d.params.defaults = []) (hr : Room k callerA) (hY : ∀ (w : World) (h : Heap), YP w h → (K w.params).In h)
    (F : ∀ (w : World) (mg : Str → Option Value) (fa : Addr) (h : Heap), YP w h → (K w.params).In h → h.Ns mainGlobals mg → mg d.name = some (.ref fa) → HeadTab (K w.params) q h → LawAtS l w (K w.params) (CX w) k n x mg fa h)
    (hCX : ∀ (w : World) (H : Hp) (s : Shared) (e : Value) (s' : Shared), CX w [] H s (fun _ _ _ => False) e s' → False) : PySem.W.WalkO q loose XP YP l.row.toRowW d [] (fun f vs => PySem.call f vs) := by
  refine Att.attach_callB hn hdf fun w s0 s1 mg mb fa o pm cd doc a vs ns G Y ho hd hcd hmg hobj hints hlen hbits hg => ?_
  have KX := hY w _ Y
  have tabs : HeadTab (K w.params) q s1.heap := fun y c P hy ht => by
    cases e : (recsOf q).find? (fun e => e.name == y) with
    | none =>
      obtain ⟨r, hr, hy⟩ := List.any_eq_true.mp hy
      exact absurd hy (List.find?_eq_none.mp e r hr)
    | some r => exact PySem.W.tab_of G.T KX e ht
  obtain ⟨fd, cs, sp, h1, h2, h3, h4, h5, h6⟩ := F w mg fa _ Y KX G.T.g hmg tabs
  exact law_callTs KX G.T.g G.T.b G.T.builtins G.T.nolimit hg h1 h2 h3 G.T.bmain hobj hints (Nat.le_trans hlen hn2) hr h6 h4 (fun H hH hS => h5 H a ns hlen hbits hH hS) fun H e s' => hCX w H s1 e s'
/-- objects were laid that no one here knows -/
theorem Sta.grow {K : PySem.W.Frag} {G0 H0 G H H' : Hp} {D : List Addr} {M : List (Addr × HO)} (h : Sta K G0 H0 D G M H) (e : Same H H') : Sta K G0 H0 D G M H' where
  g0 := h.g0
  gh := h.gh.trans e
  fr := h.fr
  kp := fun a o z hd => e _ _ (h.kp a o z hd)
  up := fun a z n => by
    cases q : H a with
    | none => exact h.up a z q
    | some o =>
      rw [e _ _ q] at n
      cases n
  md := h.md
  mh := fun q hq => ⟨e _ _ (h.mh q hq).1, (h.mh q hq).2⟩
/-- xs[::-1] -/
def RVK (K : PySem.W.Frag) (Q : VK) (x : V) (H1 : Hp) : Prop := ∃ a xs, x = .ref a ∧ SqL K H1 a xs ∧ ∀ p, H1 p = none → Q (.ref p) (upd H1 p (.lst xs.reverse))
section
variable {K : PySem.W.Frag} {D : List Addr} {G0 H0 G H : Hp} {M : List (Addr × HO)} {Q : VK} {x : V} {te : TE} {σ : L2.St}
theorem go_tRev (h : te σ H fun y H1 => RVK K Q y H1) : tRevL K te σ H Q := h
theorem rpAll_rev : ∀ {vs : List V} {ds : List Dt}, RpAll K G vs ds → RpAll K G vs.reverse ds.reverse
  | [], _, h => by cases h; exact .nil
  | v :: vs, _, h => by
    cases h with
    | cons h1 h2 =>
      rw [List.reverse_cons, List.reverse_cons]
      exact (rpAll_rev h2).app (.one h1)
theorem go_revL {ds : List Dt} (hS : Sta K G0 H0 D G M H) (hx : Rp K G x (.lst ds)) (k : ∀ p G1 H1, Same G G1 → Sta K G0 H0 D G1 M H1 → Rp K G1 (.ref p) (.lst ds.reverse) → Q (.ref p) H1) : RVK K Q x H := by
  obtain ⟨a, xs, rfl, hs, ha⟩ := Rp.lst_inv hx
  exact ⟨a, xs, rfl, hS.gh.seq hs, fun p hp => k p _ _ (same_upd (hS.gn hp)) (hS.imm hp _) (.lst (.inl (.inl upd_same)) ((rpAll_rev ha).up (same_upd (hS.gn hp))))⟩
end
/-- a code object's words, by themselves -/
theorem codeHd_by {K : PySem.W.Frag} {h : Heap} {c P : Addr} {d : Option Addr} {vs : Array Value} {sl : Array (Option Value)} (KX : K.In h) (hl : K.lookup c = some ⟨.type "code", d, .fields vs, sl⟩) (b : PySem.W.codeHdIn [(c, ⟨.type "code", none, .fields vs, #[]⟩)] c P = true) : PySem.W.CodeHd h c P := by
  refine PySem.W.codeHd_of_K KX ?_
  unfold PySem.W.codeHdIn at b ⊢
  rw [hl]
  simpa [List.lookup] using b
end B
/-! lists that others hold are changed: data without lists do not hang on them; a known list of one's own is changed in place -/
namespace B
open PySem L2
mutual
def noL : Dt → Bool
  | .lst _ => false
  | .tup ds => noLs ds
  | .ins _ fs => noLF fs
  | _ => true
def noLs : List Dt → Bool
  | [] => true
  | d :: ds => noL d && noLs ds
def noLF : List (Str × Dt) → Bool
  | [] => true
  | (_, d) :: ds => noL d && noLF ds
end
section
variable {K : PySem.W.Frag} {G G' : Hp} {p : Addr} {ys : List V}
mutual
/-- what holds no list does not hang on the list at p -/
theorem Rp.shed (e : ∀ a, a ≠ p → G' a = G a) (hp : G p = some (.lst ys)) : ∀ (d : Dt) (v : V), noL d = true → Rp K G v d → Rp K G' v d
  | .non, _, _, h => by cases h; exact .non
  | .bl b, _, _, h => by cases h; exact .bl _
  | .int i, _, _, h => by cases h; exact .int _
  | .str x, _, _, h => by cases h; exact .str _
  | .lst ds, _, n, _ => by simp [noL] at n
  | .tup ds, _, n, h => by
    cases h with
    | tup hs ha =>
      refine .tup ?_ (RpAll.shed e hp ds _ (by simpa [noL] using n) ha)
      have keep : ∀ {a : Addr} {o : HO}, G a = some o → (∀ zs, o ≠ .lst zs) → G' a = some o := fun {a o} h no => by
        rw [e a fun z => by subst z; rw [hp] at h; exact no ys (Option.some.inj h).symm]
        exact h
      rcases hs with (hs | ⟨o, hs⟩) | hs
      · exact .inl (.inl (keep hs fun zs z => by cases z))
      · exact .inl (.inr ⟨o, keep hs fun zs z => by cases z⟩)
      · exact .inr hs
  | .ins C ds, _, n, h => by
    cases h with
    | @ins a C dx fs ds hs ha =>
      refine .ins (dx := dx) (fs := fs) ?_ (RpF.shed e hp ds _ (by simpa [noL] using n) ha)
      rw [e a fun z => by subst z; rw [hp] at hs; cases hs]
      exact hs
theorem RpAll.shed (e : ∀ a, a ≠ p → G' a = G a) (hp : G p = some (.lst ys)) : ∀ (ds : List Dt) (vs : List V), noLs ds = true → RpAll K G vs ds → RpAll K G' vs ds
  | [], _, _, h => by cases h; exact .nil
  | d :: ds, _, n, h => by
    simp only [noLs, Bool.and_eq_true] at n
    cases h with
    | cons h1 h2 => exact .cons (Rp.shed e hp d _ n.1 h1) (RpAll.shed e hp ds _ n.2 h2)
theorem RpF.shed (e : ∀ a, a ≠ p → G' a = G a) (hp : G p = some (.lst ys)) : ∀ (ds : List (Str × Dt)) (vs : List (Str × V)), noLF ds = true → RpF K G vs ds → RpF K G' vs ds
  | [], _, _, h => by cases h; exact .nil
  | (f, d) :: ds, _, n, h => by
    simp only [noLF, Bool.and_eq_true] at n
    cases h with
    | cons h1 h2 => exact .cons (Rp.shed e hp d _ n.1 h1) (RpF.shed e hp ds _ n.2 h2)
end
end
section
variable {K : PySem.W.Frag} {G0 H0 G H : Hp} {D : List Addr} {M : List (Addr × HO)} {p : Addr} {o u : HO} {Q : VK}
/-- a known object of one's own is changed in place: what was known ahead of its making stays known -/
theorem Sta.poke (h : Sta K G0 H0 D G M H) (hp : G p = some o) (h0 : H0 p = none) (g0 : G0 p = none) : Sta K G0 H0 D (upd G p u) M (upd H p u) where
  g0 := fun a w e => by
    have e1 := h.g0 a w e
    rw [upd_ne (ne_of_none e g0)]
    exact e1
  gh := same_upd2 h.gh
  fr := fun a ha => by
    have : a ≠ p := fun e => ha (by rw [e]; exact h0)
    rw [upd_ne this]
    exact h.fr a ha
  kp := fun a w ha hd => by
    rw [upd_ne (ne_of_none ha h0)]
    exact h.kp a w ha hd
  up := fun a ha => by
    have : a ≠ p := fun e => ha (by rw [e]; exact h0)
    rw [upd_ne this]
    exact h.up a ha
  md := h.md
  mh := fun q hq => by
    have n : q.1 ≠ p := fun e => by
      have := (h.mh q hq).2.1
      rw [e, hp] at this
      cases this
    rw [upd_ne n, upd_ne n]
    exact h.mh q hq
/-- list(xs), to be changed later -/
theorem go_listM {x : V} {ds : List Dt} (hS : Sta K G0 H0 D G M H) (hx : Rp K G x (.lst ds)) (k : ∀ q xs H1, H0 q = none → G q = none → RpAll K G xs ds → Sta K G0 H0 D G ((q, .lst xs) :: M) H1 → Q (.ref q) H1) : rListOf_ K [x] H Q := by
  obtain ⟨a, xs, rfl, hs, ha⟩ := Rp.lst_inv hx
  exact ⟨a, xs, rfl, .inl (hS.gh.seq hs), fun l hl => k l xs _ (hS.h0 hl) (hS.gn hl) ha (hS.mut hl _)⟩
/-- a list that may change is lent: a frame of one's own, in which it is known -/
theorem Sta.open (h : Sta K G0 H0 D G ((p, o) :: M) H) : Same G (upd G p o) ∧ Sta K (upd G p o) H (M.map (·.1)) (upd G p o) M H := by
  have hp := h.mh _ List.mem_cons_self
  have nd := List.nodup_cons.mp h.md
  refine ⟨same_upd hp.2.1, ⟨Same.refl _, fun b x e => ?_, fun _ _ => rfl, fun _ _ e _ => e, fun _ n => n, nd.2, fun q hq => ?_⟩⟩
  · by_cases hb : b = p
    · subst hb
      rw [upd_same] at e
      cases e
      exact hp.1
    · rw [upd_ne hb] at e
      exact h.gh _ _ e
  · have hq' := h.mh q (List.mem_cons_of_mem _ hq)
    have n : q.1 ≠ p := fun e => nd.1 (by
      show p ∈ M.map (·.1)
      rw [← e]
      exact List.mem_map.mpr ⟨q, hq, rfl⟩)
    exact ⟨hq'.1, by rw [upd_ne n]; exact hq'.2.1, .inl (List.mem_map.mpr ⟨q, hq, rfl⟩)⟩
/-- .. and taken back -/
theorem Sta.close {G1 H1 : Hp} {M1 : List (Addr × HO)} (h : Sta K G0 H0 D G ((p, o) :: M) H) (i : Sta K (upd G p o) H (M.map (·.1)) G1 M1 H1) :
    ∃ G2, Same G G2 ∧ (∀ a, a ≠ p → G2 a = G1 a) ∧ G1 p = some o ∧ Sta K G0 H0 D G2 ((p, o) :: M1) H1 := by
  have hp := h.mh _ List.mem_cons_self
  have nd := List.nodup_cons.mp h.md
  have g1 : G1 p = some o := i.g0 _ _ upd_same
  have g2n : ∀ a, a ≠ p → (fun b => if b = p then none else G1 b) a = G1 a := fun a ha => if_neg ha
  have g2p : (fun b => if b = p then none else G1 b) p = none := if_pos rfl
  generalize hG : (fun b => if b = p then none else G1 b) = G2 at *
  have sg : Same G G2 := fun b x e => by
    have hb : b ≠ p := fun z => by
      subst z
      have := hp.2.1
      rw [e] at this
      cases this
    rw [g2n b hb]
    exact i.g0 _ _ (by rw [upd_ne hb]; exact e)
  refine ⟨G2, sg, g2n, g1, ⟨h.g0.trans sg, fun b x e => ?_, fun a ha => ?_, fun a w ha hd => ?_, fun a ha => i.up a (h.up a ha), ?_, fun q hq => ?_⟩⟩
  · by_cases hb : b = p
    · subst hb
      rw [g2p] at e
      cases e
    · rw [g2n b hb] at e
      exact i.gh _ _ e
  · by_cases hb : a = p
    · subst hb
      rw [g2p, ← h.fr a ha]
      exact hp.2.1.symm
    · rw [g2n a hb, i.fr a (h.up a ha), upd_ne hb]
      exact h.fr a ha
  · refine i.kp a w (h.kp a w ha hd) fun hm => ?_
    obtain ⟨q, hq, e⟩ := List.mem_map.mp hm
    rcases (h.mh q (List.mem_cons_of_mem _ hq)).2.2 with z | z
    · exact hd (by rw [← e]; exact z)
    · rw [e, ha] at z
      cases z
  · refine List.nodup_cons.mpr ⟨fun hm => ?_, i.md⟩
    obtain ⟨q, hq, e⟩ := List.mem_map.mp hm
    have e : q.1 = p := e
    have := (i.mh q hq).2.1
    rw [e, g1] at this
    cases this
  · rcases List.mem_cons.mp hq with rfl | hq
    · exact ⟨i.kp _ _ hp.1 fun hm => nd.1 hm, g2p, hp.2.2⟩
    · obtain ⟨e1, e2, e3⟩ := i.mh q hq
      have n : q.1 ≠ p := fun e => by
        rw [e, g1] at e2
        cases e2
      refine ⟨e1, by rw [g2n _ n]; exact e2, ?_⟩
      rcases e3 with z | z
      · obtain ⟨q', hq', e⟩ := List.mem_map.mp z
        rcases (h.mh q' (List.mem_cons_of_mem _ hq')).2.2 with y | y
        · exact .inl (by rw [← e]; exact y)
        · exact .inr (by rw [← e]; exact y)
      · refine .inr ?_
        cases y : H0 q.1 with
        | none => rfl
        | some w => exact absurd z (h.up _ (by rw [y]; exact fun z => nomatch z))
end
end B
/-! lists of lists whose rows are changed in place: new rows, known objects taken up as changing ones (melt), and frozen again -/
namespace B
open PySem PySem.Spec PyProof.Rows L2 RZ
def rowsM (as : List Addr) (rs : List (List Int)) : List (Addr × HO) := List.zipWith (fun a r => (a, HO.lst (r.map V.int))) as rs
theorem rowsM_keys : ∀ {as : List Addr} {rs : List (List Int)}, as.length = rs.length → (rowsM as rs).map (·.1) = as
  | [], [], _ => rfl
  | [], _ :: _, h => by cases h
  | _ :: _, [], h => by cases h
  | a :: as, r :: rs, h => congrArg (a :: ·) (rowsM_keys (as := as) (rs := rs) (Nat.succ.inj h))
theorem rowsM_get {as : List Addr} {rs : List (List Int)} {i : Nat} (h : as.length = rs.length) (hi : i < rs.length) : (rowsM as rs)[i]? = some (as.getD i 0, .lst ((rs.getD i []).map V.int)) := by
  unfold rowsM
  rw [List.getElem?_zipWith]
  simp [List.getD, show i < as.length by omega, hi]
theorem rowsM_set {as : List Addr} {rs : List (List Int)} {i : Nat} {r : List Int} (h : as.length = rs.length) (hi : i < rs.length) : (rowsM as rs).set i (as.getD i 0, .lst (r.map V.int)) = rowsM as (rs.set i r) := by
  apply List.ext_getElem?
  intro j
  by_cases e : i = j
  · subst e
    rw [rowsM_get (by rw [List.length_set]; exact h) (by rw [List.length_set]; exact hi), List.getElem?_set, if_pos rfl, if_pos (by unfold rowsM; rw [List.length_zipWith]; omega)]
    simp [List.getD, hi]
  · rw [List.getElem?_set_ne e]
    unfold rowsM
    rw [List.getElem?_zipWith, List.getElem?_zipWith, List.getElem?_set_ne e]
theorem rowsM_mem {as : List Addr} {rs : List (List Int)} (h : as.length = rs.length) {q : Addr × HO} (hq : q ∈ rowsM as rs) : ∃ i, i < rs.length ∧ q = (as.getD i 0, .lst ((rs.getD i []).map V.int)) := by
  obtain ⟨i, hi⟩ := List.mem_iff_getElem?.mp hq
  have : i < rs.length := by
    have := (List.getElem?_eq_some_iff.mp hi).1
    unfold rowsM at this
    rw [List.length_zipWith] at this
    omega
  rw [rowsM_get h this] at hi
  exact ⟨i, this, (Option.some.inj hi).symm⟩
theorem rowsM_snoc {as : List Addr} {rs : List (List Int)} {a : Addr} {r : List Int} (h : as.length = rs.length) : rowsM (as ++ [a]) (rs ++ [r]) = rowsM as rs ++ [(a, .lst (r.map V.int))] := by
  unfold rowsM
  rw [List.zipWith_append h]
  rfl
theorem rowsM_paired {G : Hp} : ∀ {as : List Addr} {rs : List (List Int)}, as.length = rs.length → (∀ q ∈ rowsM as rs, G q.1 = some q.2) → Paired (RawI G) (as.map V.ref) rs
  | [], [], _, _ => .nil
  | [], _ :: _, h, _ => by cases h
  | _ :: _, [], h, _ => by cases h
  | a :: as, r :: rs, h, hq => .cons ⟨a, rfl, hq (a, .lst (r.map V.int)) List.mem_cons_self⟩ (rowsM_paired (Nat.succ.inj h) fun q hm => hq q (List.mem_cons_of_mem _ hm))
section
variable {K : PySem.W.Frag} {G0 H0 G H G1 : Hp} {D : List Addr} {M M' N : List (Addr × HO)} {σ : L2.St} {Q : VK} {tt : TT} {te : TE} {vss : List Nat} {p : Addr} {o : HO}
theorem Sta.perm (h : Sta K G0 H0 D G M H) (p : M.Perm M') : Sta K G0 H0 D G M' H :=
  ⟨h.g0, h.gh, h.fr, h.kp, h.up, (p.map _).nodup_iff.mp h.md, fun q hq => h.mh q (p.mem_iff.mpr hq)⟩
theorem Sta.frzs : ∀ (N : List (Addr × HO)) {G : Hp}, Sta K G0 H0 D G (N ++ M) H → (∀ q ∈ N, H0 q.1 = none) → ∃ G1, Same G G1 ∧ Sta K G0 H0 D G1 M H ∧ ∀ q ∈ N, G1 q.1 = some q.2
  | [], G, h, _ => ⟨G, Same.refl G, h, fun q hq => by cases hq⟩
  | (p, o) :: N, G, h, h0 => by
    obtain ⟨s, e⟩ := Sta.frz (M := N ++ M) h (h0 (p, o) List.mem_cons_self)
    obtain ⟨G1, e1, s1, k⟩ := Sta.frzs N s fun q hq => h0 q (List.mem_cons_of_mem _ hq)
    refine ⟨G1, e.trans e1, s1, fun q hq => ?_⟩
    rcases List.mem_cons.mp hq with rfl | hq
    · exact e1 _ _ upd_same
    · exact k q hq
open Classical in
noncomputable def hole (G : Hp) (as : List Addr) : Hp := fun a => if a ∈ as then none else G a
theorem hole_ne {as : List Addr} {a : Addr} (h : a ∉ as) : hole G as a = G a := if_neg h
theorem hole_in {as : List Addr} {a : Addr} (h : a ∈ as) : hole G as a = none := if_pos h
theorem hole_same {as : List Addr} (e : Same G G1) (h : ∀ a ∈ as, G a = none) : Same G (hole G1 as) := fun a o ha => by
  rw [hole_ne fun z => by rw [h a z] at ha; cases ha]
  exact e _ _ ha
/-- known objects of one's own are taken up as changing ones -/
theorem Sta.melt (h : Sta K G0 H0 D G M H) (N : List (Addr × HO)) (hn : ∀ q ∈ N, G q.1 = some q.2) (h0 : ∀ q ∈ N, H0 q.1 = none) (g0 : ∀ q ∈ N, G0 q.1 = none) (nd : (N.map (·.1)).Nodup) : Sta K G0 H0 D (hole G (N.map (·.1))) (N ++ M) H := by
  have inN : ∀ {a : Addr}, a ∈ N.map (·.1) → ∃ q ∈ N, q.1 = a := fun {a} hm => by
    obtain ⟨q, hq, e⟩ := List.mem_map.mp hm
    exact ⟨q, hq, e⟩
  have mn : ∀ q ∈ M, q.1 ∉ N.map (·.1) := fun q hq hm => by
    obtain ⟨r, hr, e⟩ := inN hm
    have e1 := hn r hr
    rw [e, (h.mh q hq).2.1] at e1
    cases e1
  refine ⟨hole_same h.g0 fun a ha => ?_, fun a x e => ?_, fun a ha => ?_, h.kp, h.up, ?_, fun q hq => ?_⟩
  · obtain ⟨q, hq, rfl⟩ := inN ha
    exact g0 q hq
  · have ne : a ∉ N.map (·.1) := fun z => by rw [hole_in z] at e; cases e
    rw [hole_ne ne] at e
    exact h.gh _ _ e
  · have ne : a ∉ N.map (·.1) := fun z => by
      obtain ⟨q, hq, rfl⟩ := inN z
      exact ha (h0 q hq)
    rw [hole_ne ne]
    exact h.fr a ha
  · rw [List.map_append]
    refine List.nodup_append.mpr ⟨nd, h.md, fun a ha b hb e => ?_⟩
    subst e
    obtain ⟨q, hq, e⟩ := List.mem_map.mp hb
    exact mn q hq (by rw [show q.1 = a from e]; exact ha)
  · rcases List.mem_append.mp hq with hq | hq
    · exact ⟨h.gh _ _ (hn q hq), hole_in (List.mem_map.mpr ⟨q, hq, rfl⟩), .inr (h0 q hq)⟩
    · obtain ⟨e1, e2, e3⟩ := h.mh q hq
      exact ⟨e1, by rw [hole_ne (mn q hq)]; exact e2, e3⟩
/-- a new list of ints by a comprehension over a range: the list is new -/
theorem lcNewI {lo : Int} {n : Nat} {g : TG} {F : Nat → Int} (hS : Sta K G0 H0 D G M H) (hl : n ≤ 100000)
    (hs : ∀ (i : Nat) L G1 vs H1 (Z : VK) (ZP : Hp → Prop), i < n → Same G G1 → H0 L = none → Sta K G0 H0 D G1 ((L, .lst vs) :: M) H1 → (∀ G2 H2, Same G1 G2 → Sta K G0 H0 D G2 ((L, .lst vs) :: M) H2 → Z (.int (F i)) H2) →
      g (.int (lo + i)) (wipe σ vss) H1 fun σ2 H3 => wipe σ2 vss = wipe σ vss ∧ tt σ2 H3 fun b H4 => if b = true then te σ2 H4 Z else ZP H4)
    (hd : ∀ p G1 H1, H p = none → Same G G1 → Sta K G0 H0 D G1 M H1 → G1 p = some (.lst (((List.range n).map F).map .int)) → Q (.ref p) H1) : LcG (Itr lo n) g tt te vss σ Q H := by
  intro L hL
  have l0 := hS.h0 hL
  refine lc_it walk_range (fun i H1 => ∃ G1, Same G G1 ∧ Sta K G0 H0 D G1 ((L, .lst (((List.range i).map F).map .int)) :: M) H1) ⟨G, Same.refl G, hS.mut hL _⟩ (fun i H1 _ _ => trivial) (fun i x H1 H2 hi p y => ?_) (fun H1 p => ?_)
  · obtain ⟨G1, e, s⟩ := p
    obtain ⟨rfl, rfl⟩ := y
    refine hs i L G1 _ H2 _ _ hi e l0 s fun G2 H3 e2 s2 => ?_
    refine ⟨_, s2.get (i := 0) rfl, by simp; exact Nat.lt_of_lt_of_le (show i < 100000 by omega) (by decide), G2, e.trans e2, ?_⟩
    have s3 := s2.set (i := 0) rfl (.lst (((List.range (i + 1)).map F).map .int))
    have el : ((List.range (i + 1)).map F).map V.int = ((List.range i).map F).map V.int ++ [.int (F i)] := by
      rw [List.range_succ, List.map_append, List.map_append]
      rfl
    rw [el] at s3 ⊢
    exact s3
  · obtain ⟨G1, e, s⟩ := p
    obtain ⟨s2, e2⟩ := s.frz l0
    exact hd L _ H1 hL (e.trans e2) s2 upd_same
/-- a new list of new rows -/
theorem lcNewR {lo : Int} {n : Nat} {g : TG} {F : Nat → List Int} (hS : Sta K G0 H0 D G M H) (hl : n ≤ 100000)
    (hs : ∀ (i : Nat) L G1 vs H1 (Z : VK) (ZP : Hp → Prop), i < n → Same G G1 → H0 L = none → Sta K G0 H0 D G1 ((L, .lst vs) :: M) H1 → (∀ a G2 H2, H1 a = none → Same G1 G2 → Sta K G0 H0 D G2 ((L, .lst vs) :: M) H2 → G2 a = some (.lst ((F i).map .int)) → Z (.ref a) H2) →
      g (.int (lo + i)) (wipe σ vss) H1 fun σ2 H3 => wipe σ2 vss = wipe σ vss ∧ tt σ2 H3 fun b H4 => if b = true then te σ2 H4 Z else ZP H4)
    (hd : ∀ p as G1 H1, H p = none → Same G G1 → Sta K G0 H0 D G1 M H1 → G1 p = some (.lst (as.map .ref)) → as.Nodup → as.length = n → (∀ a ∈ as, H0 a = none) → (∀ q ∈ rowsM as ((List.range n).map F), G1 q.1 = some q.2) → Q (.ref p) H1) : LcG (Itr lo n) g tt te vss σ Q H := by
  intro L hL
  have l0 := hS.h0 hL
  refine lc_it walk_range (fun i H1 => ∃ G1 as, Same G G1 ∧ Sta K G0 H0 D G1 ((L, .lst (as.map .ref)) :: M) H1 ∧ as.Nodup ∧ as.length = i ∧ (∀ a ∈ as, H0 a = none) ∧ (∀ q ∈ rowsM as ((List.range i).map F), G1 q.1 = some q.2)) ⟨G, [], Same.refl G, hS.mut hL _, .nil, rfl, (fun a ha => by cases ha), fun q hq => by cases hq⟩ (fun i H1 _ _ => trivial) (fun i x H1 H2 hi p y => ?_) (fun H1 p => ?_)
  · obtain ⟨G1, as, e, s, nd, al, new, rws⟩ := p
    obtain ⟨rfl, rfl⟩ := y
    refine hs i L G1 _ H2 _ _ hi e l0 s fun a G2 H3 ha e2 s2 ga => ?_
    have gn := s.gn ha
    have an : a ∉ as := fun hm => by
      obtain ⟨k, hk⟩ := List.mem_iff_getElem?.mp hm
      have hk1 : k < as.length := (List.getElem?_eq_some_iff.mp hk).1
      have := rws _ (List.mem_of_getElem? (rowsM_get (i := k) (by simp [al]) (by simp; omega)))
      have ek : as.getD k 0 = a := by simp [List.getD, hk]
      dsimp only at this
      rw [ek, gn] at this
      cases this
    refine ⟨_, s2.get (i := 0) rfl, by simp [al]; exact Nat.lt_of_lt_of_le (show i < 100000 by omega) (by decide), G2, as ++ [a], e.trans e2, ?_, ?_, by simp [al], fun b hb => ?_, fun q hq => ?_⟩
    · rw [List.map_append]
      exact s2.set (i := 0) rfl _
    · refine List.nodup_append.mpr ⟨nd, by simp, fun c hc d hd z => ?_⟩
      rw [List.mem_singleton] at hd
      subst z
      subst hd
      exact an hc
    · rcases List.mem_append.mp hb with hb | hb
      · exact new b hb
      · rw [List.mem_singleton.mp hb]
        exact s.h0 ha
    · rw [List.range_succ, List.map_append, show List.map F [i] = [F i] from rfl, rowsM_snoc (by simp [al])] at hq
      rcases List.mem_append.mp hq with hq | hq
      · exact e2 _ _ (rws q hq)
      · rw [List.mem_singleton.mp hq]
        exact ga
  · obtain ⟨G1, as, e, s, nd, al, new, rws⟩ := p
    obtain ⟨s2, e2⟩ := s.frz l0
    exact hd L as _ H1 hL (e.trans e2) s2 upd_same nd al new fun q hq => e2 _ _ (rws q hq)
end
end B
namespace B
open PySem PySem.Spec PyProof.Rows L2 RZ
/-! ### a map over the rows, row by row -/
def mapTo (f : List Int → List Int) (rs : List (List Int)) (i : Nat) : List (List Int) := (rs.take i).map f ++ rs.drop i
theorem mapTo_zero (f : List Int → List Int) (rs : List (List Int)) : mapTo f rs 0 = rs := rfl
theorem mapTo_all {f : List Int → List Int} {rs : List (List Int)} {i : Nat} (h : rs.length ≤ i) : mapTo f rs i = rs.map f := by
  unfold mapTo
  rw [List.take_of_length_le h, List.drop_of_length_le h, List.append_nil]
theorem mapTo_len {f : List Int → List Int} {rs : List (List Int)} {i : Nat} : (mapTo f rs i).length = rs.length := by
  unfold mapTo
  rw [List.length_append, List.length_map, List.length_take, List.length_drop]
  omega
theorem mapTo_get {f : List Int → List Int} {rs : List (List Int)} {i : Nat} (h : i < rs.length) : (mapTo f rs i).getD i [] = rs.getD i [] := by
  unfold mapTo
  rw [List.getD, List.getElem?_append_right (by simp; omega)]
  simp [List.getD, Nat.min_eq_left (Nat.le_of_lt h)]
theorem mapTo_set {f : List Int → List Int} {rs : List (List Int)} {i : Nat} (h : i < rs.length) : (mapTo f rs i).set i (f (rs.getD i [])) = mapTo f rs (i + 1) := by
  unfold mapTo
  have hl : ((rs.take i).map f).length = i := by simp; omega
  rw [List.set_append, if_neg (by omega), hl, Nat.sub_self, List.drop_eq_getElem_cons h, List.set_cons_zero, List.take_add_one, List.getElem?_eq_getElem h, List.map_append]
  simp [List.getD, h]
theorem refs_ints {as : List Addr} {r : List Int} (h : as.map V.ref = r.map V.int) : as = [] := by
  cases as with
  | nil => rfl
  | cons a as =>
    cases r with
    | nil => cases h
    | cons x r => cases h
theorem atI_rowV {r : List Int} {j : Nat} (h : j < r.length) : L2.atI (r.map V.int) (j : Int) = some (.int (r.getD j 0)) := by
  refine L2.atI_nat ?_
  rw [List.getElem?_map, List.getElem?_eq_getElem h]
  simp [List.getD, h]
end B
namespace B
open PySem PySem.Spec PyProof.Rows L2 RZ
/-- list * n, to be changed later -/
theorem go_repM {K : PySem.W.Frag} {G0 H0 G H : Hp} {D : List Addr} {M : List (Addr × HO)} {Q : VK} {l : Addr} {k : Int} {xs : List V} (hS : Sta K G0 H0 D G M H) (hx : H l = some (.lst xs)) (hk : 0 ≤ k) (hk2 : k ≤ 1000) (hl : xs.length * k.toNat ≤ 100000) (q : ∀ p H1, H0 p = none → G p = none → Sta K G0 H0 D G ((p, .lst (List.replicate k.toNat xs).flatten) :: M) H1 → Q (.ref p) H1) : rRep (.ref l) (.int k) H Q :=
  ⟨l, k, xs, rfl, rfl, hx, by omega, by omega, sz hl, fun p hp => q p _ (hS.h0 hp) (hS.gn hp) (hS.mut hp _)⟩
end B
namespace B
open PySem PySem.Spec PyProof.Rows L2 RZ
/-- tuple(xs), xs a list that may change -/
theorem go_tupM {K : PySem.W.Frag} {G0 H0 G H : Hp} {D : List Addr} {M : List (Addr × HO)} {Q : VK} {p : Addr} {xs : List V} {ds : List Dt} {i : Nat} (hS : Sta K G0 H0 D G M H) (hi : M[i]? = some (p, .lst xs)) (hx : RpAll K G xs ds) (q : ∀ l G1 H1, Same G G1 → Sta K G0 H0 D G1 M H1 → Rp K G1 (.ref l) (.tup ds) → Q (.ref l) H1) : rTupOf_ K [.ref p] H Q :=
  ⟨p, xs, rfl, .inl ⟨SqL.of (hS.get hi), fun l hl => q l _ _ (same_upd (hS.gn hl)) (hS.imm hl _) (.tup (.inl (.inl upd_same)) (hx.up (same_upd (hS.gn hl))))⟩⟩
end B
namespace Bw
open PySem L2 B RZ
/-! ### the walk's own steps (local) -/
local macro_rules | `(tactic| walk_at "sm") => `(tactic| first
  | assumption
  | exact Same.refl _
  | (refine' Same.trans (H1 := ?m) ?g ?e; (case e => assumption); (case g => walk_at "sm")) | fail)
local macro_rules | `(tactic| walk_at "rp") => `(tactic| first
  | assumption
  | with_reducible exact Rp.int _
  | with_reducible exact Rp.bl _
  | with_reducible exact Rp.str _
  | with_reducible exact Rp.non
  | with_reducible exact RpAll.nil
  | ((with_reducible refine' RpAll.cons ?a ?b); (case a => walk_at "rp"); (case b => walk_at "rp"))
  | ((with_reducible refine' Rp.up (G := ?m) ?e ?g); (case e => assumption); (case g => walk_at "rp"))
  | ((with_reducible refine' RpAll.up (G := ?m) ?e ?g); (case e => assumption); (case g => walk_at "rp"))
  | ((with_reducible refine' Same.seq (H := ?m) ?e ?g); (case e => assumption); (case g => walk_at "rp"))
  | ((with_reducible refine' Same.t (H := ?m) ?e ?g); (case e => assumption); (case g => walk_at "rp")) | fail)
local macro_rules | `(tactic| walk_at "gh") => `(tactic| first | exact Sta.gh (by assumption) | walk_at "sm")
local macro_rules | `(tactic| walk_at "ar") => `(tactic| first | omega | decide | exact ⟨by omega, by omega⟩ | exact .inl ⟨by omega, by omega⟩ | exact .inr ⟨by omega, by omega⟩ | exact ⟨by omega, by omega, by omega, by omega⟩ | exact ⟨by omega, by omega, by decide⟩ | (show (0 : Int) < _; omega))
local macro_rules | `(tactic| walk_at "sc") => `(tactic| first | (obtain rfl := Rp.int_inv (by assumption)) | skip)
local macro_rules | `(tactic| walk_at "set") => `(tactic| ((try simp only [List.set_cons_zero, List.set_cons_succ]); try rfl))
local macro_rules | `(tactic| walk_at "val") => `(tactic| (intro v hv; first | (cases Rp.int_inv hv; clear hv) | (cases Rp.bl_inv hv; clear hv) | (cases Rp.non_inv hv; clear hv) | (cases Rp.str_inv hv; clear hv) | skip))
local macro_rules | `(tactic| walk_at "kit") => `(tactic| first | with_reducible exact kit_NoneType_tuple | with_reducible exact kit_NoneType_list | with_reducible exact kit_NoneType_bool | with_reducible exact kit_NoneType_int | with_reducible exact kit_NoneType_str | with_reducible exact kit_bool_tuple | with_reducible exact kit_bool_list | with_reducible exact kit_bool_bool | with_reducible exact kit_bool_int | with_reducible exact kit_bool_str | with_reducible exact kit_int_tuple | with_reducible exact kit_int_list | with_reducible exact kit_int_bool | with_reducible exact kit_int_int | with_reducible exact kit_int_str | with_reducible exact kit_str_tuple | with_reducible exact kit_str_list | with_reducible exact kit_str_bool | with_reducible exact kit_str_int | with_reducible exact kit_str_str | with_reducible exact kit_list_tuple | with_reducible exact kit_list_list | with_reducible exact kit_list_bool | with_reducible exact kit_list_int | with_reducible exact kit_list_str | with_reducible exact kit_tuple_tuple | with_reducible exact kit_tuple_list | with_reducible exact kit_tuple_bool | with_reducible exact kit_tuple_int | with_reducible exact kit_tuple_str)
local macro_rules | `(tactic| walk_at "mi") => `(tactic| first | (refine' mi0 ?_; exact rfl) | (refine' mi1 ?_; exact rfl) | (refine' mi2 ?_; exact rfl) | (refine' mi3 ?_; exact rfl))
local macro_rules | `(tactic| walk_at "mg") => `(tactic| first | (refine' Sta.get ?a ?b; (case a => assumption); (case b => walk_at "mi")) | fail)
local macro_rules | `(tactic| walk_at "s") => `(tactic| first
  | with_reducible refine' go_seq ?_
  | with_reducible refine' go_asg ?_
  | ((with_reducible refine' go_gname (σ' := ?s) ?e ?_); (case e => walk_at "set"))
  | ((with_reducible refine' go_σ (σ' := ?s) ?e ?_); (case e => walk_at "set"))
  | ((with_reducible refine' go_var (v := ?v) ?e ?_); (case e => exact rfl))
  | with_reducible refine' go_c ?_
  | with_reducible refine' go_op ?_
  | with_reducible refine' go_rI0 ?_
  | ((with_reducible refine' go_rI ?c ?_); (case c => walk_at "ar"))
  | with_reducible refine' go_un ?_
  | with_reducible refine' go_rU ?_
  | with_reducible refine' go_ret ?_
  | with_reducible refine' go_retN ?_
  | with_reducible refine' go_drop ?_
  | with_reducible refine' go_ifS ?_
  | with_reducible refine' go_tTest ?_
  | with_reducible refine' go_tB ?_
  | with_reducible refine' go_k ?_
  | with_reducible refine' go_kand ?_
  | with_reducible refine' go_tAnd ?_
  | with_reducible refine' go_tOr ?_
  | with_reducible refine' go_tNot ?_
  | with_reducible refine' go_tAndV ?_
  | with_reducible refine' go_tOrV ?_
  | with_reducible refine' go_tNotV ?_
  | with_reducible refine' go_tIf ?_
  | with_reducible refine' go_tYes ?_
  | with_reducible refine' go_eqI ?_
  | with_reducible refine' go_neI ?_
  | with_reducible refine' go_eqB ?_
  | with_reducible refine' go_neB ?_
  | with_reducible refine' go_eqS ?_
  | with_reducible refine' go_neS ?_
  | with_reducible refine' go_tIsN ?_
  | with_reducible refine' go_tNotN ?_
  | with_reducible refine' go_cons ?_
  | with_reducible refine' go_nil ?_
  | with_reducible refine' go_tCB ?_
  | with_reducible refine' go_call ?_
  | with_reducible refine' go_call0 ?_
  | with_reducible refine' go_chain ?_
  | with_reducible refine' go_next ?_
  | with_reducible refine' go_break ?_
  | with_reducible refine' go_cont ?_
  | with_reducible refine' go_par ?_
  | ((with_reducible refine' go_par2 (σ' := ?s) ?e ?_); (case e => walk_at "set"))
  | with_reducible refine' go_callN ?_
  | ((with_reducible refine' go_calln (ws := ?ws) ?a ?b ?e ?_); (case a => exact rfl); (case b => exact rfl); (case e => ((try simp only [List.cons_append, List.nil_append]); try rfl)))
  | with_reducible refine' go_bm0 ?_
  | with_reducible refine' go_abs ?_
  | ((with_reducible refine' go_isi (G := ?G) (d := ?d) (t := ?t) (b := ?b) ?hx ?e ?ht ?hn ?hb ?_); (case e => exact Sta.gh (by assumption)); (case hx => walk_at "rp"); (case ht => first | with_reducible exact tyD_int | with_reducible exact tyD_bl | with_reducible exact tyD_non | with_reducible exact tyD_str | with_reducible exact tyD_lst | with_reducible exact tyD_tup); (case hn => decide); (case hb => walk_at "kit"))
  | with_reducible refine' go_max ?_
  | with_reducible refine' go_min ?_
  | ((with_reducible refine' go_lenL (G := ?G) (ds := ?ds) ?hx ?e ?_); (case e => exact Sta.gh (by assumption)); (case hx => walk_at "rp"))
  | ((with_reducible refine' go_lenT (G := ?G) (ds := ?ds) ?hx ?e ?_); (case e => exact Sta.gh (by assumption)); (case hx => walk_at "rp"))
  | with_reducible refine' go_tup ?_
  | with_reducible refine' go_lst ?_
  | with_reducible refine' go_for ?_
  | with_reducible refine' go_iList ?_
  | ((with_reducible refine' go_itl (G := ?G) (ds := ?ds) ?hx ?e ?_); (case e => exact Sta.gh (by assumption)); (case hx => walk_at "rp"); (intro a xs ea hq hr; cases ea))
  | with_reducible refine' go_iRng1 ?_
  | with_reducible refine' go_iRng2 ?_
  | ((with_reducible refine' go_rng1 ?e ?_); (case e => walk_at "ar"))
  | ((with_reducible refine' go_rng2 ?e ?_); (case e => walk_at "ar"))
  | with_reducible refine' go_iteT ?_
  | with_reducible refine' go_iteF ?_
  | with_reducible refine' go_int ?_
  | with_reducible refine' go_intB ?_
  | ((with_reducible refine' go_ixA (G := ?G) (ds := ?ds) (d := ?d) ?hx ?e ?hi ?_); (case e => exact Sta.gh (by assumption)); (case hx => walk_at "rp"); (case hi => exact rfl); walk_at "val")
  | ((with_reducible refine' go_ixB (G := ?G) (ds := ?ds) (d := ?d) ?hx ?e ?hi ?_); (case e => exact Sta.gh (by assumption)); (case hx => walk_at "rp"); (case hi => exact rfl); walk_at "val")
  | ((with_reducible refine' go_ixM (xs := ?xs) (v := ?v) ?hp ?hi ?_); (case hp => walk_at "mg"); (case hi => exact rfl))
  | with_reducible refine' go_gsub ?_
  | with_reducible refine' go_bm ?_
  | with_reducible refine' go_fld ?_
  | ((with_reducible refine' go_bmL (xs := ?xs) ?hp ?_); (case hp => walk_at "mg"))
  | ((with_reducible refine' go_append (xs := ?xs) (i := ?i) (M' := ?M') ?hS ?hi ?hl ?hM ?_); (case hS => assumption); (case hi => walk_at "mi"); (case hl => first | omega | (simp; omega)); (case hM => walk_at "set"); (intro H1 hS1))
  | ((with_reducible refine' go_lenM (xs := ?xs) ?hp ?_); (case hp => walk_at "mg"))
  | ((with_reducible refine' go_iteX1 ?e ?_); (case e => first | exact rfl | exact decide_eq_true rfl))
  | ((with_reducible refine' go_iteX0 ?e ?_); (case e => first | exact rfl | exact congrArg Bool.not (decide_eq_true rfl)))
  | (with_reducible refine' go_ite (fun h => ?_) (fun h => ?_))
  | (with_reducible refine' go_iteN (fun h => ?_) (fun h => ?_)) | fail)
local macro_rules | `(tactic| walk_at "s") => `(tactic| first | ((with_reducible refine' go_newT (ds := ?ds) ?hS ?hx ?hl ?_); (case hS => assumption); (case hx => walk_at "rp"); (case hl => exact sz (by simp)); (intro p G1 H1 e1 hS1 hr1)) | fail)
local macro_rules | `(tactic| walk_at "nl") => `(tactic| first | ((with_reducible refine' go_newL (ds := ?ds) ?hS ?hx ?hl ?_); (case hS => assumption); (case hx => walk_at "rp"); (case hl => exact sz (by simp)); (intro p G1 H1 e1 hS1 hr1)) | fail)
local macro_rules | `(tactic| walk_at "go") => `(tactic| repeat' walk_at "s")
local macro_rules | `(tactic| walk_at "to") => `(tactic| repeat ((fail_if_success with_reducible refine' go_seq ?_); walk_at "s"))
local macro_rules | `(tactic| walk_at "set") => `(tactic| ((try simp only [wipe, List.set_cons_zero, List.set_cons_succ]); try rfl))
local macro_rules | `(tactic| walk_at "s") => `(tactic| first
  | with_reducible refine' go_lc ?_
  | ((with_reducible refine' go_wipe ?e ?_); (case e => rfl))
  | with_reducible refine' go_sl ?_
  | with_reducible refine' go_noPart ?_
  | with_reducible refine' go_part ?_
  | with_reducible refine' go_ptk ?_
  | with_reducible refine' go_orT ?_
  | with_reducible refine' go_ckw ?_
  | with_reducible refine' go_otk_non ?_
  | ((with_reducible refine' go_tupL (ds := ?ds) ?hS ?hx ?_); (case hS => assumption); (case hx => walk_at "rp"); (intro p G1 H1 e1 hS1 hr1))
  | ((with_reducible refine' go_listL (ds := ?ds) ?hS ?hx ?_); (case hS => assumption); (case hx => walk_at "rp"); (intro p G1 H1 e1 hS1 hr1)) | fail)
local macro_rules | `(tactic| walk_at "set") => `(tactic| ((try simp only [wipe, List.set_cons_zero, List.set_cons_succ]); try rfl))
local macro_rules | `(tactic| walk_at "s") => `(tactic| first
  | with_reducible refine' go_lc ?_
  | ((with_reducible refine' go_wipe ?e ?_); (case e => rfl))
  | ((with_reducible refine' go_tupL (ds := ?ds) ?hS ?hx ?_); (case hS => assumption); (case hx => walk_at "rp"); (intro p G1 H1 e1 hS1 hr1))
  | ((with_reducible refine' go_listL (ds := ?ds) ?hS ?hx ?_); (case hS => assumption); (case hx => walk_at "rp"); (intro p G1 H1 e1 hS1 hr1))
  | ((with_reducible refine' go_tupT (ds := ?ds) ?hS ?hx ?_); (case hS => assumption); (case hx => walk_at "rp"); (intro p G1 H1 e1 hS1 hr1))
  | ((with_reducible refine' go_listT (ds := ?ds) ?hS ?hx ?_); (case hS => assumption); (case hx => walk_at "rp"); (intro p G1 H1 e1 hS1 hr1))
  | with_reducible refine' go_iTup ?_
  | ((with_reducible refine' go_itt (G := ?G) (ds := ?ds) ?hx ?e ?_); (case e => exact Sta.gh (by assumption)); (case hx => walk_at "rp"); (intro a xs ea hq hr; cases ea))
  | with_reducible refine' go_makeS ?_
  | with_reducible refine' go_iZipA ?_
  | ((with_reducible refine' go_ztk (G := ?G) (ds := ?ds) (fs := ?fs) ?hx ?hy ?e ?_); (case e => exact Sta.gh (by assumption)); (case hx => walk_at "rp"); (case hy => walk_at "rp"); (intro a b xs ys ea eb hqa hra hqb hrb; cases ea; cases eb))
  | with_reducible refine' go_callS ?_
  | with_reducible refine' go_sFld ?_
  | ((with_reducible refine' go_sfk (i := ?i) (M' := ?M') ?hS ?hi ?cl ?na ?hl ?hM ?_); (case hS => assumption); (case hi => walk_at "mi"); (case cl => assumption); (case na => assumption); (case hl => first | decide | exact putF2 | (simp [putF])); (case hM => walk_at "set"); (intro H1 hS1))
  | with_reducible refine' go_prop ?_
  | with_reducible refine' go_metS ?_
  | with_reducible refine' go_opS ?_
  | with_reducible refine' go_stat ?_
  | with_reducible refine' go_stk ?_
  | ((with_reducible refine' go_fldR (G := ?G) (fds := ?fds) (d := ?d) ?hx ?e ?cl ?na ?hi ?_); (case e => exact Sta.gh (by assumption)); (case hx => walk_at "rp"); (case cl => assumption); (case na => assumption); (case hi => exact rfl); walk_at "val") | fail)
local macro_rules | `(tactic| walk_at "s") => `(tactic| first
  | with_reducible refine' go_iRngO ?_
  | ((with_reducible refine' go_rangeV ?hS ?_); (case hS => assumption); (intro p G1 H1 e1 hS1 hp1))
  | with_reducible refine' go_iEnumA ?_ | fail)
local macro_rules | `(tactic| walk_at "s") => `(tactic| first
  | with_reducible refine' go_tSoL ?_
  | with_reducible refine' go_tRev ?_
  | ((with_reducible refine' go_revL (ds := ?ds) ?hS ?hx ?_); (case hS => assumption); (case hx => walk_at "rp"); (intro p G1 H1 e1 hS1 hr1)) | fail)
def topS (i : Nat) : Stmt := PySem.Challenge.pw_barswoven_k09_rows_made.main.body.getD i (.Pass ⟨0, 0, 0, 0⟩)
abbrev s_is_base : Stmt := topS 8
theorem sc_is_base : FnScope ["number", "k"] ["number"] (defScope s_is_base) := ⟨rfl, rfl, rfl, by decide +kernel, rfl, by decide +kernel, by decide +kernel⟩
abbrev s_dot : Stmt := topS 9
theorem sc_dot : FnScope ["first", "second", "base", "a", "b"] ["first", "second", "base"] (defScope s_dot) := ⟨rfl, rfl, rfl, by decide +kernel, rfl, by decide +kernel, by decide +kernel⟩
abbrev s_Matrix_init : Stmt := inClass (topS 11) 0
theorem sc_Matrix_init : FnScope ["self", "base", "width", "rows", "row", "entry"] ["self", "base", "width", "rows"] (defScope s_Matrix_init) := ⟨rfl, rfl, rfl, by decide +kernel, rfl, by decide +kernel, by decide +kernel⟩
abbrev s_Matrix_identity : Stmt := inClass (topS 11) 1
theorem sc_Matrix_identity : FnScope ["base", "size", "j", "i"] ["base", "size"] (defScope s_Matrix_identity) := ⟨rfl, rfl, rfl, by decide +kernel, rfl, by decide +kernel, by decide +kernel⟩
abbrev s_Matrix_zero : Stmt := inClass (topS 11) 2
theorem sc_Matrix_zero : FnScope ["base", "height", "width", "_"] ["base", "height", "width"] (defScope s_Matrix_zero) := ⟨rfl, rfl, rfl, by decide +kernel, rfl, by decide +kernel, by decide +kernel⟩
abbrev s_Matrix_height : Stmt := inClass (topS 11) 4
theorem sc_Matrix_height : FnScope ["self"] ["self"] (defScope s_Matrix_height) := ⟨rfl, rfl, rfl, by decide +kernel, rfl, by decide +kernel, by decide +kernel⟩
abbrev s_Matrix_column : Stmt := inClass (topS 11) 6
theorem sc_Matrix_column : FnScope ["self", "place", "row"] ["self", "place"] (defScope s_Matrix_column) := ⟨rfl, rfl, rfl, by decide +kernel, rfl, by decide +kernel, by decide +kernel⟩
abbrev s_Matrix_columns : Stmt := inClass (topS 11) 7
theorem sc_Matrix_columns : FnScope ["self", "place"] ["self"] (defScope s_Matrix_columns) := ⟨rfl, rfl, rfl, by decide +kernel, rfl, by decide +kernel, by decide +kernel⟩
abbrev s_Matrix_scaled : Stmt := inClass (topS 11) 10
theorem sc_Matrix_scaled : FnScope ["self", "factor", "entry", "row"] ["self", "factor"] (defScope s_Matrix_scaled) := ⟨rfl, rfl, rfl, by decide +kernel, rfl, by decide +kernel, by decide +kernel⟩
abbrev s_Matrix_mul : Stmt := inClass (topS 11) 11
theorem sc_Matrix_mul : FnScope ["self", "other", "columns", "rows", "column", "row"] ["self", "other"] (defScope s_Matrix_mul) := ⟨rfl, rfl, rfl, by decide +kernel, rfl, by decide +kernel, by decide +kernel⟩
abbrev s_Matrix_add : Stmt := inClass (topS 11) 12
theorem sc_Matrix_add : FnScope ["self", "other", "rows", "a", "b", "row", "more"] ["self", "other"] (defScope s_Matrix_add) := ⟨rfl, rfl, rfl, by decide +kernel, rfl, by decide +kernel, by decide +kernel⟩
abbrev s_Matrix_sub : Stmt := inClass (topS 11) 13
theorem sc_Matrix_sub : FnScope ["self", "other"] ["self", "other"] (defScope s_Matrix_sub) := ⟨rfl, rfl, rfl, by decide +kernel, rfl, by decide +kernel, by decide +kernel⟩
abbrev s_Matrix_eq : Stmt := inClass (topS 11) 14
theorem sc_Matrix_eq : FnScope ["self", "other"] ["self", "other"] (defScope s_Matrix_eq) := ⟨rfl, rfl, rfl, by decide +kernel, rfl, by decide +kernel, by decide +kernel⟩
abbrev s_check_steps : Stmt := topS 13
theorem sc_check_steps : FnScope ["base", "dims", "steps", "time", "step", "dim"] ["base", "dims", "steps"] (defScope s_check_steps) := ⟨rfl, rfl, rfl, by decide +kernel, rfl, by decide +kernel, by decide +kernel⟩
abbrev s_Row_init : Stmt := inClass (topS 14) 0
theorem sc_Row_init : FnScope ["self", "base", "dims", "steps"] ["self", "base", "dims", "steps"] (defScope s_Row_init) := ⟨rfl, rfl, rfl, by decide +kernel, rfl, by decide +kernel, by decide +kernel⟩
abbrev s_Row_last : Stmt := inClass (topS 14) 1
theorem sc_Row_last : FnScope ["self"] ["self"] (defScope s_Row_last) := ⟨rfl, rfl, rfl, by decide +kernel, rfl, by decide +kernel, by decide +kernel⟩
abbrev s_Row_dim : Stmt := inClass (topS 14) 2
theorem sc_Row_dim : FnScope ["self", "time"] ["self", "time"] (defScope s_Row_dim) := ⟨rfl, rfl, rfl, by decide +kernel, rfl, by decide +kernel, by decide +kernel⟩
abbrev s_Row_step : Stmt := inClass (topS 14) 3
theorem sc_Row_step : FnScope ["self", "time"] ["self", "time"] (defScope s_Row_step) := ⟨rfl, rfl, rfl, by decide +kernel, rfl, by decide +kernel, by decide +kernel⟩
abbrev s_Row_eq : Stmt := inClass (topS 14) 9
theorem sc_Row_eq : FnScope ["self", "other"] ["self", "other"] (defScope s_Row_eq) := ⟨rfl, rfl, rfl, by decide +kernel, rfl, by decide +kernel, by decide +kernel⟩
abbrev s_law_cell : Stmt := topS 16
theorem sc_law_cell : FnScope ["script", "k"] ["script", "k"] (defScope s_law_cell) := ⟨rfl, rfl, rfl, by decide +kernel, rfl, by decide +kernel, by decide +kernel⟩
abbrev s_law_draws : Stmt := topS 17
theorem sc_law_draws : FnScope ["cell", "row", "rest", "mixed", "is_great", "k"] ["cell"] (defScope s_law_draws) := ⟨rfl, rfl, rfl, by decide +kernel, rfl, by decide +kernel, by decide +kernel⟩
abbrev s_law_next : Stmt := topS 18
theorem sc_law_next : FnScope ["draws", "many", "row", "at"] ["draws", "many"] (defScope s_law_next) := ⟨rfl, rfl, rfl, by decide +kernel, rfl, by decide +kernel, by decide +kernel⟩
abbrev s_law_is_prime : Stmt := topS 19
theorem sc_law_is_prime : FnScope ["number", "k"] ["number"] (defScope s_law_is_prime) := ⟨rfl, rfl, rfl, by decide +kernel, rfl, by decide +kernel, by decide +kernel⟩
abbrev s_law_prime : Stmt := topS 20
theorem sc_law_prime : FnScope ["draws", "pick", "number", "k"] ["draws"] (defScope s_law_prime) := ⟨rfl, rfl, rfl, by decide +kernel, rfl, by decide +kernel, by decide +kernel⟩
abbrev s_law_same : Stmt := topS 21
theorem sc_law_same : FnScope ["actual", "expected", "k"] ["actual", "expected"] (defScope s_law_same) := ⟨rfl, rfl, rfl, by decide +kernel, rfl, by decide +kernel, by decide +kernel⟩
abbrev s_law_drawn : Stmt := topS 22
theorem sc_law_drawn : FnScope ["draws", "base", "height", "width", "kind", "rows", "i", "row", "j", "entry"] ["draws", "base", "height", "width"] (defScope s_law_drawn) := ⟨rfl, rfl, rfl, by decide +kernel, rfl, by decide +kernel, by decide +kernel⟩
abbrev s_law_is_matrix : Stmt := topS 23
theorem sc_law_is_matrix : FnScope ["actual", "base", "width", "rows", "row"] ["actual", "base", "width", "rows"] (defScope s_law_is_matrix) := ⟨rfl, rfl, rfl, by decide +kernel, rfl, by decide +kernel, by decide +kernel⟩
abbrev s_law_made_row : Stmt := topS 24
theorem sc_law_made_row : FnScope ["base", "dims", "steps", "time"] ["base", "dims", "steps"] (defScope s_law_made_row) := ⟨rfl, rfl, rfl, by decide +kernel, rfl, by decide +kernel, by decide +kernel⟩
abbrev s_law_any_row : Stmt := topS 25
theorem sc_law_any_row : FnScope ["draws", "base", "last", "dims", "time"] ["draws", "base", "last"] (defScope s_law_any_row) := ⟨rfl, rfl, rfl, by decide +kernel, rfl, by decide +kernel, by decide +kernel⟩
abbrev s_law_fails : Stmt := topS 26
theorem sc_law_fails : FnScope ["base", "dims", "steps", "e"] ["base", "dims", "steps"] (defScope s_law_fails) := ⟨rfl, rfl, rfl, by decide +kernel, rfl, by decide +kernel, by decide +kernel⟩
abbrev s_law_is_row : Stmt := topS 27
theorem sc_law_is_row : FnScope ["row", "base", "dims", "steps", "time"] ["row", "base", "dims", "steps"] (defScope s_law_is_row) := ⟨rfl, rfl, rfl, by decide +kernel, rfl, by decide +kernel, by decide +kernel⟩
abbrev s_law_spoilt : Stmt := topS 28
theorem sc_law_spoilt : FnScope ["draws", "base", "dims", "steps", "pick", "place", "one", "changed", "other", "row"] ["draws", "base", "dims", "steps"] (defScope s_law_spoilt) := ⟨rfl, rfl, rfl, by decide +kernel, rfl, by decide +kernel, by decide +kernel⟩
abbrev s_law : Stmt := topS 29
theorem sc_law : FnScope ["script", "draws", "base", "last", "found", "dims", "steps", "handed", "row", "time", "other", "others", "spoilt", "kept", "line", "step"] ["script"] (defScope s_law) := ⟨rfl, rfl, rfl, by decide +kernel, rfl, by decide +kernel, by decide +kernel⟩
structure Ad where
  f_is_base : Addr
  d_is_base : FuncData
  f_dot : Addr
  d_dot : FuncData
  f_Matrix_init : Addr
  d_Matrix_init : FuncData
  f_Matrix_identity : Addr
  d_Matrix_identity : FuncData
  f_Matrix_zero : Addr
  d_Matrix_zero : FuncData
  f_Matrix_height : Addr
  d_Matrix_height : FuncData
  f_Matrix_column : Addr
  d_Matrix_column : FuncData
  f_Matrix_columns : Addr
  d_Matrix_columns : FuncData
  f_Matrix_scaled : Addr
  d_Matrix_scaled : FuncData
  f_Matrix_mul : Addr
  d_Matrix_mul : FuncData
  f_Matrix_add : Addr
  d_Matrix_add : FuncData
  f_Matrix_sub : Addr
  d_Matrix_sub : FuncData
  f_Matrix_eq : Addr
  d_Matrix_eq : FuncData
  f_check_steps : Addr
  d_check_steps : FuncData
  f_Row_init : Addr
  d_Row_init : FuncData
  f_Row_last : Addr
  d_Row_last : FuncData
  f_Row_dim : Addr
  d_Row_dim : FuncData
  f_Row_step : Addr
  d_Row_step : FuncData
  f_Row_eq : Addr
  d_Row_eq : FuncData
  f_law_cell : Addr
  d_law_cell : FuncData
  f_law_draws : Addr
  d_law_draws : FuncData
  f_law_next : Addr
  d_law_next : FuncData
  f_law_is_prime : Addr
  d_law_is_prime : FuncData
  f_law_prime : Addr
  d_law_prime : FuncData
  f_law_same : Addr
  d_law_same : FuncData
  f_law_drawn : Addr
  d_law_drawn : FuncData
  f_law_is_matrix : Addr
  d_law_is_matrix : FuncData
  f_law_made_row : Addr
  d_law_made_row : FuncData
  f_law_any_row : Addr
  d_law_any_row : FuncData
  f_law_fails : Addr
  d_law_fails : FuncData
  f_law_is_row : Addr
  d_law_is_row : FuncData
  f_law_spoilt : Addr
  d_law_spoilt : FuncData
  f_law : Addr
  d_law : FuncData
  C_WovenError : Addr
  C_InvalidMatrix : Addr
  C_InvalidTime : Addr
  C_InvalidRow : Addr
  C_Matrix : Addr
  C_Row : Addr
structure Txt (K : PySem.W.Frag) (mg : Str → Option Value) (A : Ad) : Prop where
  F_is_base : Fun K "is_base" "is_base" s_is_base A.f_is_base A.d_is_base
  m_is_base : mg "is_base" = some (.ref A.f_is_base)
  b_is_base : Binds K A.d_is_base ["number"] []
  F_dot : Fun K "dot" "dot" s_dot A.f_dot A.d_dot
  m_dot : mg "dot" = some (.ref A.f_dot)
  k2_dot : KBn K A.d_dot ["first", "second", "base"] 2 ["base"] (fun a b => a ++ b) (fun a b => a ++ b)
  F_Matrix_init : Fun K "__init__" "Matrix.__init__" s_Matrix_init A.f_Matrix_init A.d_Matrix_init
  b_Matrix_init : Binds K A.d_Matrix_init ["self", "base", "width", "rows"] []
  F_Matrix_identity : Fun K "identity" "Matrix.identity" s_Matrix_identity A.f_Matrix_identity A.d_Matrix_identity
  st_Matrix_identity : Stat K A.C_Matrix "identity" A.f_Matrix_identity
  b_Matrix_identity : Binds K A.d_Matrix_identity ["base", "size"] []
  F_Matrix_zero : Fun K "zero" "Matrix.zero" s_Matrix_zero A.f_Matrix_zero A.d_Matrix_zero
  st_Matrix_zero : Stat K A.C_Matrix "zero" A.f_Matrix_zero
  b_Matrix_zero : Binds K A.d_Matrix_zero ["base", "height", "width"] []
  F_Matrix_height : Fun K "height" "Matrix.height" s_Matrix_height A.f_Matrix_height A.d_Matrix_height
  pr_Matrix_height : ∃ p, PropOf K A.C_Matrix "height" p A.f_Matrix_height
  b_Matrix_height : Binds K A.d_Matrix_height ["self"] []
  F_Matrix_column : Fun K "column" "Matrix.column" s_Matrix_column A.f_Matrix_column A.d_Matrix_column
  b_Matrix_column : Binds K A.d_Matrix_column ["self", "place"] []
  F_Matrix_columns : Fun K "columns" "Matrix.columns" s_Matrix_columns A.f_Matrix_columns A.d_Matrix_columns
  b_Matrix_columns : Binds K A.d_Matrix_columns ["self"] []
  F_Matrix_scaled : Fun K "scaled" "Matrix.scaled" s_Matrix_scaled A.f_Matrix_scaled A.d_Matrix_scaled
  b_Matrix_scaled : Binds K A.d_Matrix_scaled ["self", "factor"] []
  F_Matrix_mul : Fun K "__mul__" "Matrix.__mul__" s_Matrix_mul A.f_Matrix_mul A.d_Matrix_mul
  op_Matrix_mul : OwnOp K A.C_Matrix .Mult A.f_Matrix_mul
  b_Matrix_mul : Binds K A.d_Matrix_mul ["self", "other"] []
  F_Matrix_add : Fun K "__add__" "Matrix.__add__" s_Matrix_add A.f_Matrix_add A.d_Matrix_add
  op_Matrix_add : OwnOp K A.C_Matrix .Add A.f_Matrix_add
  b_Matrix_add : Binds K A.d_Matrix_add ["self", "other"] []
  F_Matrix_sub : Fun K "__sub__" "Matrix.__sub__" s_Matrix_sub A.f_Matrix_sub A.d_Matrix_sub
  op_Matrix_sub : OwnOp K A.C_Matrix .Sub A.f_Matrix_sub
  b_Matrix_sub : Binds K A.d_Matrix_sub ["self", "other"] []
  F_Matrix_eq : Fun K "__eq__" "Matrix.__eq__" s_Matrix_eq A.f_Matrix_eq A.d_Matrix_eq
  eq_Matrix_eq : PySem.W.findIn K (.ref A.C_Matrix) "__eq__" = some (some (.ref A.f_Matrix_eq)) ∧ PySem.W.isFn K (.ref A.f_Matrix_eq) = true
  b_Matrix_eq : Binds K A.d_Matrix_eq ["self", "other"] []
  F_check_steps : Fun K "check_steps" "check_steps" s_check_steps A.f_check_steps A.d_check_steps
  m_check_steps : mg "check_steps" = some (.ref A.f_check_steps)
  b_check_steps : Binds K A.d_check_steps ["base", "dims", "steps"] []
  F_Row_init : Fun K "__init__" "Row.__init__" s_Row_init A.f_Row_init A.d_Row_init
  b_Row_init : Binds K A.d_Row_init ["self", "base", "dims", "steps"] []
  F_Row_last : Fun K "last" "Row.last" s_Row_last A.f_Row_last A.d_Row_last
  pr_Row_last : ∃ p, PropOf K A.C_Row "last" p A.f_Row_last
  b_Row_last : Binds K A.d_Row_last ["self"] []
  F_Row_dim : Fun K "dim" "Row.dim" s_Row_dim A.f_Row_dim A.d_Row_dim
  b_Row_dim : Binds K A.d_Row_dim ["self", "time"] []
  F_Row_step : Fun K "step" "Row.step" s_Row_step A.f_Row_step A.d_Row_step
  b_Row_step : Binds K A.d_Row_step ["self", "time"] []
  F_Row_eq : Fun K "__eq__" "Row.__eq__" s_Row_eq A.f_Row_eq A.d_Row_eq
  eq_Row_eq : PySem.W.findIn K (.ref A.C_Row) "__eq__" = some (some (.ref A.f_Row_eq)) ∧ PySem.W.isFn K (.ref A.f_Row_eq) = true
  b_Row_eq : Binds K A.d_Row_eq ["self", "other"] []
  F_law_cell : Fun K "_law_cell" "_law_cell" s_law_cell A.f_law_cell A.d_law_cell
  m_law_cell : mg "_law_cell" = some (.ref A.f_law_cell)
  b_law_cell : Binds K A.d_law_cell ["script", "k"] []
  F_law_draws : Fun K "_law_draws" "_law_draws" s_law_draws A.f_law_draws A.d_law_draws
  m_law_draws : mg "_law_draws" = some (.ref A.f_law_draws)
  b_law_draws : Binds K A.d_law_draws ["cell"] []
  F_law_next : Fun K "_law_next" "_law_next" s_law_next A.f_law_next A.d_law_next
  m_law_next : mg "_law_next" = some (.ref A.f_law_next)
  b_law_next : Binds K A.d_law_next ["draws", "many"] []
  F_law_is_prime : Fun K "_law_is_prime" "_law_is_prime" s_law_is_prime A.f_law_is_prime A.d_law_is_prime
  m_law_is_prime : mg "_law_is_prime" = some (.ref A.f_law_is_prime)
  b_law_is_prime : Binds K A.d_law_is_prime ["number"] []
  F_law_prime : Fun K "_law_prime" "_law_prime" s_law_prime A.f_law_prime A.d_law_prime
  m_law_prime : mg "_law_prime" = some (.ref A.f_law_prime)
  b_law_prime : Binds K A.d_law_prime ["draws"] []
  F_law_same : Fun K "_law_same" "_law_same" s_law_same A.f_law_same A.d_law_same
  m_law_same : mg "_law_same" = some (.ref A.f_law_same)
  b_law_same : Binds K A.d_law_same ["actual", "expected"] []
  F_law_drawn : Fun K "_law_drawn" "_law_drawn" s_law_drawn A.f_law_drawn A.d_law_drawn
  m_law_drawn : mg "_law_drawn" = some (.ref A.f_law_drawn)
  b_law_drawn : Binds K A.d_law_drawn ["draws", "base", "height", "width"] []
  F_law_is_matrix : Fun K "_law_is_matrix" "_law_is_matrix" s_law_is_matrix A.f_law_is_matrix A.d_law_is_matrix
  m_law_is_matrix : mg "_law_is_matrix" = some (.ref A.f_law_is_matrix)
  b_law_is_matrix : Binds K A.d_law_is_matrix ["actual", "base", "width", "rows"] []
  F_law_made_row : Fun K "_law_made_row" "_law_made_row" s_law_made_row A.f_law_made_row A.d_law_made_row
  m_law_made_row : mg "_law_made_row" = some (.ref A.f_law_made_row)
  b_law_made_row : Binds K A.d_law_made_row ["base", "dims", "steps"] []
  F_law_any_row : Fun K "_law_any_row" "_law_any_row" s_law_any_row A.f_law_any_row A.d_law_any_row
  m_law_any_row : mg "_law_any_row" = some (.ref A.f_law_any_row)
  b_law_any_row : Binds K A.d_law_any_row ["draws", "base", "last"] []
  F_law_fails : Fun K "_law_fails" "_law_fails" s_law_fails A.f_law_fails A.d_law_fails
  m_law_fails : mg "_law_fails" = some (.ref A.f_law_fails)
  b_law_fails : Binds K A.d_law_fails ["base", "dims", "steps"] []
  F_law_is_row : Fun K "_law_is_row" "_law_is_row" s_law_is_row A.f_law_is_row A.d_law_is_row
  m_law_is_row : mg "_law_is_row" = some (.ref A.f_law_is_row)
  b_law_is_row : Binds K A.d_law_is_row ["row", "base", "dims", "steps"] []
  F_law_spoilt : Fun K "_law_spoilt" "_law_spoilt" s_law_spoilt A.f_law_spoilt A.d_law_spoilt
  m_law_spoilt : mg "_law_spoilt" = some (.ref A.f_law_spoilt)
  b_law_spoilt : Binds K A.d_law_spoilt ["draws", "base", "dims", "steps"] []
  F_law : Fun K "law" "law" s_law A.f_law A.d_law
  m_law : mg "law" = some (.ref A.f_law)
  b_law : Binds K A.d_law ["script"] []
  c_WovenError : mg "WovenError" = some (.ref A.C_WovenError)
  c_InvalidMatrix : mg "InvalidMatrix" = some (.ref A.C_InvalidMatrix)
  c_InvalidTime : mg "InvalidTime" = some (.ref A.C_InvalidTime)
  c_InvalidRow : mg "InvalidRow" = some (.ref A.C_InvalidRow)
  c_Matrix : mg "Matrix" = some (.ref A.C_Matrix)
  c_Row : mg "Row" = some (.ref A.C_Row)
  x_WovenError : ExcOk K A.C_WovenError
  x_InvalidMatrix : ExcOk K A.C_InvalidMatrix
  x_InvalidTime : ExcOk K A.C_InvalidTime
  x_InvalidRow : ExcOk K A.C_InvalidRow
  sb_WovenError_WovenError : PySem.W.subIn K (.ref A.C_WovenError) (.ref A.C_WovenError) = some true
  sb_WovenError_InvalidMatrix : PySem.W.subIn K (.ref A.C_WovenError) (.ref A.C_InvalidMatrix) = some false
  sb_WovenError_InvalidTime : PySem.W.subIn K (.ref A.C_WovenError) (.ref A.C_InvalidTime) = some false
  sb_WovenError_InvalidRow : PySem.W.subIn K (.ref A.C_WovenError) (.ref A.C_InvalidRow) = some false
  sb_InvalidMatrix_WovenError : PySem.W.subIn K (.ref A.C_InvalidMatrix) (.ref A.C_WovenError) = some true
  sb_InvalidMatrix_InvalidMatrix : PySem.W.subIn K (.ref A.C_InvalidMatrix) (.ref A.C_InvalidMatrix) = some true
  sb_InvalidMatrix_InvalidTime : PySem.W.subIn K (.ref A.C_InvalidMatrix) (.ref A.C_InvalidTime) = some false
  sb_InvalidMatrix_InvalidRow : PySem.W.subIn K (.ref A.C_InvalidMatrix) (.ref A.C_InvalidRow) = some false
  sb_InvalidTime_WovenError : PySem.W.subIn K (.ref A.C_InvalidTime) (.ref A.C_WovenError) = some true
  sb_InvalidTime_InvalidMatrix : PySem.W.subIn K (.ref A.C_InvalidTime) (.ref A.C_InvalidMatrix) = some false
  sb_InvalidTime_InvalidTime : PySem.W.subIn K (.ref A.C_InvalidTime) (.ref A.C_InvalidTime) = some true
  sb_InvalidTime_InvalidRow : PySem.W.subIn K (.ref A.C_InvalidTime) (.ref A.C_InvalidRow) = some false
  sb_InvalidRow_WovenError : PySem.W.subIn K (.ref A.C_InvalidRow) (.ref A.C_WovenError) = some true
  sb_InvalidRow_InvalidMatrix : PySem.W.subIn K (.ref A.C_InvalidRow) (.ref A.C_InvalidMatrix) = some false
  sb_InvalidRow_InvalidTime : PySem.W.subIn K (.ref A.C_InvalidRow) (.ref A.C_InvalidTime) = some false
  sb_InvalidRow_InvalidRow : PySem.W.subIn K (.ref A.C_InvalidRow) (.ref A.C_InvalidRow) = some true
  cl_Matrix : Cls K A.C_Matrix
  dc_Matrix : DcOk K A.C_Matrix
  oc_Matrix : OcOk K A.C_Matrix
  mk_Matrix : Mk K A.C_Matrix A.f_Matrix_init
  na_Matrix_base : NoAttr K A.C_Matrix "base"
  na_Matrix_width : NoAttr K A.C_Matrix "width"
  na_Matrix_rows : NoAttr K A.C_Matrix "rows"
  cl_Row : Cls K A.C_Row
  dc_Row : DcOk K A.C_Row
  oc_Row : OcOk K A.C_Row
  mk_Row : Mk K A.C_Row A.f_Row_init
  na_Row_base : NoAttr K A.C_Row "base"
  na_Row_dims : NoAttr K A.C_Row "dims"
  na_Row_steps : NoAttr K A.C_Row "steps"
  me_Matrix_column : Meth K A.C_Matrix "column" A.f_Matrix_column
  me_Matrix_columns : Meth K A.C_Matrix "columns" A.f_Matrix_columns
  me_Matrix_scaled : Meth K A.C_Matrix "scaled" A.f_Matrix_scaled
  me_Row_dim : Meth K A.C_Row "dim" A.f_Row_dim
  me_Row_step : Meth K A.C_Row "step" A.f_Row_step
  g_LARGEST_BASE : ∃ t, mg "LARGEST_BASE" = some (.int 97 t)
  z_ValueError : mg "ValueError" = none
  z_abs : mg "abs" = none
  z_all : mg "all" = none
  z_bool : mg "bool" = none
  z_enumerate : mg "enumerate" = none
  z_int : mg "int" = none
  z_isinstance : mg "isinstance" = none
  z_len : mg "len" = none
  z_list : mg "list" = none
  z_min : mg "min" = none
  z_property : mg "property" = none
  z_range : mg "range" = none
  z_staticmethod : mg "staticmethod" = none
  z_str : mg "str" = none
  z_sum : mg "sum" = none
  z_tuple : mg "tuple" = none
  z_zip : mg "zip" = none
section
variable {P : Program} {w : World} {K : PySem.W.Frag} {mg : Str → Option Value} {base : Heap} {A : Ad}
/-! ### the law's readers: a cell; a draw -/
def spCell (K : PySem.W.Frag) : Sp := fun vs H Q _ => ∃ (l : Addr) (ns : List Int) (k : Int), vs = [.ref l, .int k] ∧ SqL K H l (ns.map V.int) ∧ 0 ≤ k ∧ ∀ v : Int, Q (.int v) H
theorem ok_law_cell (T : Txt K mg A) : FnOk P w K mg base CX0 1 A.f_law_cell A.d_law_cell ["script", "k"] (spCell K) := by
  refine T.F_law_cell.ok sc_law_cell (fun vs H Q E h => by first | (obtain ⟨rfl, _⟩ := h; rfl) | (obtain ⟨_, rfl, _⟩ := h; rfl) | (obtain ⟨_, _, rfl, _⟩ := h; rfl) | (obtain ⟨_, _, _, rfl, _⟩ := h; rfl) | (obtain ⟨_, _, _, _, rfl, _⟩ := h; rfl) | (obtain ⟨_, _, _, _, _, rfl, _⟩ := h; rfl) | (obtain ⟨_, _, _, _, _, _, rfl, _⟩ := h; rfl) | (obtain ⟨_, _, _, _, _, _, _, rfl, _⟩ := h; rfl) | (obtain ⟨_, _, _, _, _, _, _, _, rfl, _⟩ := h; rfl) | (obtain ⟨_, _, _, _, _, _, _, _, _, rfl, _⟩ := h; rfl) | (obtain ⟨_, _, _, _, _, _, _, _, _, _, rfl, _⟩ := h; rfl) | (obtain ⟨_, _, _, _, _, _, _, _, _, _, _, rfl, _⟩ := h; rfl) | (obtain ⟨_, _, _, _, _, _, _, _, _, _, _, _, rfl, _⟩ := h; rfl) | (obtain ⟨_, _, _, _, _, _, _, _, _, _, _, _, _, rfl, _⟩ := h; rfl) | exact wk_len h) (fun cdv AA outer s H vs Q E hr h => ?_)
  obtain ⟨l, ns, k, rfl, hS, h0, q⟩ := h
  refine ⟨_, (pss_cons (ps_if (pt_cmpR op_lt (pv 1) (pe_callB (id := "len") b_len (by rfl) T.z_len (by decide +kernel) (pa_cons (pv 0) pa_nil)) (nomark _)) (pss_one (ps_ret (pe_ix ix_seq (pv 0) (pv 1) (fun _ _ => rfl)))) pss_nil)
      (pss_one (ps_ret pe_int))), ?_⟩
  try dsimp only [cxOf, Cx.nox, Cx.wish, Cx.blk]
  refine ⟨_, rfl, _, rfl, l, _, rfl, .inl hS, k, _, rfl, rfl, _, rfl, ite2 (fun e => ?_) (fun e => ?_)⟩
  · have e1 : k < ((ns.map V.int).length : Int) := of_decide_eq_true e
    rw [List.length_map] at e1
    have hk : k.toNat < ns.length := by omega
    refine ⟨_, rfl, _, rfl, .inl ⟨l, _, k, .int ns[k.toNat], rfl, rfl, hS, at_of (j := k.toNat) (by omega) (by rw [List.getElem?_map, List.getElem?_eq_getElem hk]; rfl), q _⟩⟩
  · exact q 0
theorem go_cell {G0 H0 G H : Hp} {D : List Addr} {M : List (Addr × HO)} {Q : VK} {E : XK} {l : Addr} {ns : List Int} {k : Int} (hS : Sta K G0 H0 D G M H) (hl : Rp K G (.ref l) (.lst (ns.map .int))) (h0 : 0 ≤ k) (q : ∀ v : Int, Q (.int v) H) : spCell K [.ref l, .int k] H Q E := by
  obtain ⟨a, xs, e, hs, ha⟩ := Rp.lst_inv hl
  cases e
  rw [RpAll.ints_inv ha] at hs
  exact ⟨l, ns, k, rfl, hS.gh.seq hs, h0, q⟩
def spNext (K : PySem.W.Frag) : Sp := fun vs H Q _ => ∃ (a r : Addr) (at_ many : Int), vs = [.ref a, .int many] ∧ H a = some (drw r at_) ∧ RowOk K H r ∧ 0 ≤ at_ ∧ at_ ≤ 1000000000 ∧ 0 < many ∧ ∀ v, 0 ≤ v → v < many → Q (.int v) (upd H a (drw r (at_ + 1)))
theorem ok_law_next (T : Txt K mg A) : FnOk P w K mg base CX0 1 A.f_law_next A.d_law_next ["draws", "many"] (spNext K) := by
  refine T.F_law_next.ok sc_law_next (fun vs H Q E h => by first | (obtain ⟨rfl, _⟩ := h; rfl) | (obtain ⟨_, rfl, _⟩ := h; rfl) | (obtain ⟨_, _, rfl, _⟩ := h; rfl) | (obtain ⟨_, _, _, rfl, _⟩ := h; rfl) | (obtain ⟨_, _, _, _, rfl, _⟩ := h; rfl) | (obtain ⟨_, _, _, _, _, rfl, _⟩ := h; rfl) | (obtain ⟨_, _, _, _, _, _, rfl, _⟩ := h; rfl) | (obtain ⟨_, _, _, _, _, _, _, rfl, _⟩ := h; rfl) | (obtain ⟨_, _, _, _, _, _, _, _, rfl, _⟩ := h; rfl) | (obtain ⟨_, _, _, _, _, _, _, _, _, rfl, _⟩ := h; rfl) | (obtain ⟨_, _, _, _, _, _, _, _, _, _, rfl, _⟩ := h; rfl) | (obtain ⟨_, _, _, _, _, _, _, _, _, _, _, rfl, _⟩ := h; rfl) | (obtain ⟨_, _, _, _, _, _, _, _, _, _, _, _, rfl, _⟩ := h; rfl) | (obtain ⟨_, _, _, _, _, _, _, _, _, _, _, _, _, rfl, _⟩ := h; rfl) | exact wk_len h) (fun cdv AA outer s H vs Q E hr h => ?_)
  obtain ⟨a, r, at_, many, rfl, hA, ⟨xs, hR, hx⟩, h0, h1, hm, q⟩ := h
  refine ⟨_, (pss_cons (ps_set (i := 2) sc_law_next.nd rfl (by first | exact Or.inl rfl | exact Or.inr rfl) (pe_ix ix_seq (pv 0) pe_int (fun _ _ => rfl)))
      (pss_cons (ps_set (i := 3) sc_law_next.nd rfl (by first | exact Or.inl rfl | exact Or.inr rfl) (pe_ix ix_seq (pv 0) pe_int (fun _ _ => rfl)))
      (pss_cons (ps_asg (pe_op op_add (pv 3) pe_int) (pg_sub (pv 0) pe_int set_list))
      (pss_cons (ps_if (pt_cmpR op_lt (pv 3) (pe_callB (id := "len") b_len (by rfl) T.z_len (by decide +kernel) (pa_cons (pv 2) pa_nil)) (nomark _)) (pss_one (ps_ret (pe_op op_mod (pe_callTy (T := "int") b_int (by rfl) T.z_int (by decide +kernel) (pa_cons (pe_ix ix_seq (pv 2) (pv 3) (fun _ _ => rfl)) pa_nil)) (pv 1)))) pss_nil)
      (pss_one (ps_ret (pe_op op_mod (pe_callTy (T := "int") b_int (by rfl) T.z_int (by decide +kernel) (pa_cons (pe_op op_add (pe_op op_mul (pe_op op_mul (pv 3) (pv 3)) pe_int) (pv 3)) pa_nil)) (pv 1)))))))), ?_⟩
  try dsimp only [cxOf, Cx.nox, Cx.wish, Cx.blk]
  have hrow : ∀ H', H' = upd H a (drw r (at_ + 1)) → SqL K H' r (xs.map V.int) := fun H' e => by
    subst e
    rcases hR with (z | ⟨o, z⟩) | z
    · have : r ≠ a := fun e => by
        subst e
        rw [hA] at z
        cases xs with
        | nil => cases z
        | cons y ys => cases z
      exact .inl (.inl (by rw [upd_ne this]; exact z))
    · have : r ≠ a := fun e => by
        subst e
        rw [hA] at z
        cases z
      exact .inl (.inr ⟨o, by rw [upd_ne this]; exact z⟩)
    · exact .inr z
  refine ⟨_, rfl, .inl ⟨a, _, _, _, rfl, rfl, SqL.of hA, rfl, ?_⟩⟩
  refine ⟨_, rfl, .inl ⟨a, _, _, _, rfl, rfl, SqL.of hA, rfl, ?_⟩⟩
  refine ⟨_, rfl, _, _, rfl, rfl, _, rfl, a, _, _, _, rfl, rfl, hA, rfl, ?_⟩
  refine ⟨_, rfl, _, rfl, r, _, rfl, .inl (hrow _ rfl), _, _, rfl, rfl, _, rfl, ite2 (fun e => ?_) (fun e => ?_)⟩
  · have e1 : at_ < ((xs.map V.int).length : Int) := of_decide_eq_true e
    rw [List.length_map] at e1
    have hk : at_.toNat < xs.length := by omega
    refine ⟨_, rfl, _, rfl, .inl ⟨r, _, at_, .int xs[at_.toNat], rfl, rfl, hrow _ rfl, at_of (j := at_.toNat) (by omega) (by rw [List.getElem?_map, List.getElem?_eq_getElem hk]; rfl), .inl ⟨_, rfl, ?_⟩⟩⟩
    exact ⟨_, rfl, _, _, rfl, rfl, hm, q _ (Int.emod_nonneg _ (by omega)) (Int.emod_lt_of_pos _ hm)⟩
  · refine ⟨_, rfl, _, rfl, at_, at_, rfl, rfl, .inl ⟨by omega, by omega⟩, at_ * at_, 7, rfl, rfl, .inr ⟨by omega, by omega⟩, _, rfl, _, _, rfl, rfl, .inl ⟨_, rfl, _, rfl, _, _, rfl, rfl, hm, ?_⟩⟩
    exact q _ (Int.emod_nonneg _ (by omega)) (Int.emod_lt_of_pos _ hm)
theorem go_next_ {G0 H0 G H : Hp} {D : List Addr} {M M' : List (Addr × HO)} {Q : VK} {E : XK} {a r : Addr} {at_ many : Int} {i : Nat} (hS : Sta K G0 H0 D G M H) (hi : M[i]? = some (a, drw r at_)) (hr : RowOk K G r) (h0 : 0 ≤ at_) (h1 : at_ ≤ 1000000000) (hm : 0 < many)
    (hM : M.set i (a, drw r (at_ + 1)) = M') (q : ∀ v H1, 0 ≤ v → v < many → Sta K G0 H0 D G M' H1 → Q (.int v) H1) : spNext K [.ref a, .int many] H Q E := by
  subst hM
  exact ⟨a, r, at_, many, rfl, hS.get hi, hr.up hS.gh, h0, h1, hm, fun v h2 h3 => q v _ h2 h3 (hS.set hi _)⟩
/-! ### the row of draws -/
def spDraws (K : PySem.W.Frag) : Sp := fun vs H Q _ => ∃ (c : Int) (G : Hp), vs = [.int c] ∧ Same G H ∧ ∀ a r G' H', Adv [] G H G' H' → H a = none → H' a = some (drw r 0) → G' a = none → RowOk K G' r → Q (.ref a) H'
theorem ok_law_draws (T : Txt K mg A) : FnOk P w K mg base CX0 1 A.f_law_draws A.d_law_draws ["cell"] (spDraws K) := by
  refine T.F_law_draws.ok sc_law_draws (fun vs H Q E h => by first | (obtain ⟨rfl, _⟩ := h; rfl) | (obtain ⟨_, rfl, _⟩ := h; rfl) | (obtain ⟨_, _, rfl, _⟩ := h; rfl) | (obtain ⟨_, _, _, rfl, _⟩ := h; rfl) | (obtain ⟨_, _, _, _, rfl, _⟩ := h; rfl) | (obtain ⟨_, _, _, _, _, rfl, _⟩ := h; rfl) | (obtain ⟨_, _, _, _, _, _, rfl, _⟩ := h; rfl) | (obtain ⟨_, _, _, _, _, _, _, rfl, _⟩ := h; rfl) | (obtain ⟨_, _, _, _, _, _, _, _, rfl, _⟩ := h; rfl) | (obtain ⟨_, _, _, _, _, _, _, _, _, rfl, _⟩ := h; rfl) | (obtain ⟨_, _, _, _, _, _, _, _, _, _, rfl, _⟩ := h; rfl) | (obtain ⟨_, _, _, _, _, _, _, _, _, _, _, rfl, _⟩ := h; rfl) | (obtain ⟨_, _, _, _, _, _, _, _, _, _, _, _, rfl, _⟩ := h; rfl) | (obtain ⟨_, _, _, _, _, _, _, _, _, _, _, _, _, rfl, _⟩ := h; rfl) | exact wk_len h) (fun cdv AA outer s H vs Q E hr h => ?_)
  obtain ⟨c, G, rfl, hG, q⟩ := h
  refine ⟨_, (pss_cons (ps_set (i := 1) sc_law_draws.nd rfl (by first | exact Or.inl rfl | exact Or.inr rfl) (pe_lst pa_nil))
      (pss_cons (ps_set (i := 2) sc_law_draws.nd rfl (by first | exact Or.inl rfl | exact Or.inr rfl) (pe_callB (id := "abs") b_abs (by rfl) T.z_abs (by decide +kernel) (pa_cons (pv 0) pa_nil)))
      (pss_cons (ps_set (i := 3) sc_law_draws.nd rfl (by first | exact Or.inl rfl | exact Or.inr rfl) (pe_op op_mod (pe_callTy (T := "int") b_int (by rfl) T.z_int (by decide +kernel) (pa_cons (pv 2) pa_nil)) pe_int))
      (pss_cons (ps_set (i := 4) sc_law_draws.nd rfl (by first | exact Or.inl rfl | exact Or.inr rfl) (pe_cmpR op_ge (pv 2) (pe_op op_pow pe_int pe_int) (nomark _)))
      (pss_cons (ps_for PassesOwn.never rfl (pi_range1 (by rfl) T.z_range (pa_cons pe_int pa_nil)) (pg_name (i := 5) sc_law_draws.nd rfl (by first | exact Or.inl rfl | exact Or.inr rfl)) (pss_one (ps_if (PW.pt (pw_and (pt_val (pv 4)) (pw_and1 (pt_cmpR op_gt (pv 2) pe_int (nomark _))))) (pss_cons (ps_expr (pe_bm PySem.F.plainAttrs_list PySem.F.slot_list_append PySem.F.type_list_append mt_append (pv 1) (pa_cons (pe_op op_mod (pe_callTy (T := "int") b_int (by rfl) T.z_int (by decide +kernel) (pa_cons (pv 2) pa_nil)) pe_int) pa_nil)))
      (pss_one (ps_set (i := 2) sc_law_draws.nd rfl (by first | exact Or.inl rfl | exact Or.inr rfl) (pe_op op_fdiv (pv 2) pe_int)))) (pss_cons (ps_set (i := 3) sc_law_draws.nd rfl (by first | exact Or.inl rfl | exact Or.inr rfl) (pe_op op_mod (pe_callTy (T := "int") b_int (by rfl) T.z_int (by decide +kernel) (pa_cons (pe_op op_add (pe_op op_mul (pv 3) pe_int) pe_int) pa_nil)) pe_int))
      (pss_one (ps_expr (pe_bm PySem.F.plainAttrs_list PySem.F.slot_list_append PySem.F.type_list_append mt_append (pv 1) (pa_cons (pe_op op_fdiv (pe_op op_mod (pe_callTy (T := "int") b_int (by rfl) T.z_int (by decide +kernel) (pa_cons (pe_op op_add (pe_op op_mul (pv 3) pe_int) pe_int) pa_nil)) pe_int) pe_int) pa_nil))))))))
      (pss_one (ps_ret (pe_lst (pa_cons (pv 1) (pa_cons pe_int pa_nil)))))))))), ?_⟩
  try dsimp only [cxOf, Cx.nox, Cx.wish, Cx.blk]
  have hS := Sta.start (K := K) hG
  refine go_start (σ := [some (.int c), none, none, none, none, none]) rfl ?_
  walk_at "go"
  refine go_mutL hS (by decide) fun row H1 r0 r1 hS => ?_
  walk_at "go"
  have hab : 0 ≤ (if c < 0 then -c else c) := by split <;> omega
  generalize (if c < 0 then -c else c) = ab at hab ⊢
  refine forR hS (fun i σ G1 M1 => G1 = G ∧ ∃ (xs : List Int) (rest mixed : Int) (gr : Bool) (kv : Option V), M1 = [(row, .lst (xs.map .int))] ∧ xs.length = i ∧ 0 ≤ rest ∧ 0 ≤ mixed ∧ mixed < 2147483647 ∧ σ = [some (.int c), some (.ref row), some (.int rest), some (.int mixed), some (.bl gr), kv])
    ⟨rfl, [], ab, ab % 2147483647, _, none, rfl, rfl, hab, Int.emod_nonneg _ (by decide), Int.emod_lt_of_pos _ (by decide), rfl⟩ ?_ ?_
  · rintro i σ G1 M1 H2 hi e1 hS2 ⟨rfl, xs, rest, mixed, gr, kv, rfl, hx, h0, h1, h2, rfl⟩
    have hi' : i < 200 := hi
    have fin : ∀ (σ' : L2.St) (H3 : Hp) (y rest' mixed' : Int), Sta K G1 H [] G1 [(row, .lst (xs.map .int ++ [.int y]))] H3 → 0 ≤ rest' → 0 ≤ mixed' → mixed' < 2147483647 → (∃ kv, σ' = [some (.int c), some (.ref row), some (.int rest'), some (.int mixed'), some (.bl gr), kv]) →
        Nx K G1 H [] G1 (fun σ G2 M2 => G2 = G1 ∧ ∃ (xs : List Int) (rest mixed : Int) (gr : Bool) (kv : Option V), M2 = [(row, .lst (xs.map .int))] ∧ xs.length = i + 1 ∧ 0 ≤ rest ∧ 0 ≤ mixed ∧ mixed < 2147483647 ∧ σ = [some (.int c), some (.ref row), some (.int rest), some (.int mixed), some (.bl gr), kv]) σ' H3 :=
      fun σ' H3 y rest' mixed' s3 a1 a2 a3 ⟨kv, a4⟩ => Nx.mk s3 (Same.refl _) ⟨rfl, xs ++ [y], rest', mixed', gr, kv, by simp, by simp [hx], a1, a2, a3, a4⟩
    walk_at "go"
    refine go_iteB (fun hg => ?_) (fun hg => ?_)
    · walk_at "go"
      · exact fin _ _ _ _ _ (by assumption) (Int.ediv_nonneg h0 (by decide)) h1 h2 ⟨_, rfl⟩
      · exact fin _ _ _ _ _ (by assumption) h0 (Int.emod_nonneg _ (by decide)) (Int.emod_lt_of_pos _ (by decide)) ⟨_, rfl⟩
    · walk_at "go"
      exact fin _ _ _ _ _ (by assumption) h0 (Int.emod_nonneg _ (by decide)) (Int.emod_lt_of_pos _ (by decide)) ⟨_, rfl⟩
  · rintro σ G1 M1 H2 e1 hS2 ⟨rfl, xs, rest, mixed, gr, kv, rfl, hx, h0, h1, h2, rfl⟩
    have hx' : xs.length = 200 := hx
    walk_at "go"
    obtain ⟨hS3, e3⟩ := hS2.frz r0
    refine ⟨sz (by simp), fun p hp => ?_⟩
    have hS4 := hS3.mut hp (drw row 0)
    exact q p row _ _ hS4.adv (hS3.h0 hp) upd_same (hS3.gn hp) ⟨xs, .inl (.inl upd_same), by omega⟩
theorem go_draws {G0 H0 G H : Hp} {D : List Addr} {M : List (Addr × HO)} {Q : VK} {E : XK} {c : Int} (hS : Sta K G0 H0 D G M H) (q : ∀ a r G1 H1, Same G G1 → Sta K G0 H0 D G1 ((a, drw r 0) :: M) H1 → RowOk K G1 r → Q (.ref a) H1) : spDraws K [.int c] H Q E :=
  ⟨c, G, rfl, hS.gh, fun a r G1 H1 ad h1 h2 h3 h4 => q a r G1 H1 ad.gg (hS.callNew ad h1 h2 h3) h4⟩
/-! ### _law_same of equal data -/
def spSame (K : PySem.W.Frag) (n : Nat) : Sp := fun vs H Q _ => ∃ (x y : V) (G : Hp) (d : Dt), vs = [x, y] ∧ Same G H ∧ Rp K G x d ∧ Rp K G y d ∧ okD n d = true ∧ ∀ G' H', Adv [] G H G' H' → Q (.bl true) H'
theorem none_same {f : Addr} {fd : FuncData} : FnOk P w K mg base CX0 0 f fd ["actual", "expected"] (spSame K 0) := by
  have no : ∀ vs H Q E, ¬ spSame K 0 vs H Q E := fun vs H Q E h => by
    obtain ⟨x, y, G, d, _, _, _, _, h1, _⟩ := h
    cases d <;> cases h1
  exact ⟨fun vs H Q E h => absurd h (no vs H Q E), fun A outer s H args us vs Q E _ _ _ _ h => absurd h (no vs H Q E)⟩
theorem step_same (T : Txt K mg A) {n : Nat} (G_law_same : FnOk P w K mg base CX0 n A.f_law_same A.d_law_same ["actual", "expected"] (spSame K n)) : FnOk P w K mg base CX0 (n + 1) A.f_law_same A.d_law_same ["actual", "expected"] (spSame K (n + 1)) := by
  refine T.F_law_same.ok sc_law_same (fun vs H Q E h => by obtain ⟨_, _, _, _, rfl, _⟩ := h; rfl) (fun cdv AA outer s H vs Q E hr h => ?_)
  obtain ⟨x, y, G, d, rfl, hG, hx, hy, hd, q⟩ := h
  refine ⟨_, (pss_cons (ps_if (pt_val (pe_callB (id := "isinstance") call_isiT (by rfl) T.z_isinstance (by decide +kernel) (pa_cons (pv 1) (pa_cons (pe_tup (pa_cons (pe_bltn (v := .ty "tuple") (u := .type "tuple") (by rfl) T.z_tuple (by decide +kernel) rfl) (pa_cons (pe_bltn (v := .ty "list") (u := .type "list") (by rfl) T.z_list (by decide +kernel) rfl) pa_nil))) pa_nil)))) (pss_cons (ps_if (PW.pt (pw_or (pt_cmpR op_ne (pe_callB (id := "isinstance") call_isi (by rfl) T.z_isinstance (by decide +kernel) (pa_cons (pv 0) (pa_cons (pe_bltn (v := .ty "tuple") (u := .type "tuple") (by rfl) T.z_tuple (by decide +kernel) rfl) pa_nil))) (pe_callB (id := "isinstance") call_isi (by rfl) T.z_isinstance (by decide +kernel) (pa_cons (pv 1) (pa_cons (pe_bltn (v := .ty "tuple") (u := .type "tuple") (by rfl) T.z_tuple (by decide +kernel) rfl) pa_nil))) (nomark _)) (pw_or1 (pt_cmpR op_ne (pe_callB (id := "isinstance") call_isi (by rfl) T.z_isinstance (by decide +kernel) (pa_cons (pv 0) (pa_cons (pe_bltn (v := .ty "list") (u := .type "list") (by rfl) T.z_list (by decide +kernel) rfl) pa_nil))) (pe_callB (id := "isinstance") call_isi (by rfl) T.z_isinstance (by decide +kernel) (pa_cons (pv 1) (pa_cons (pe_bltn (v := .ty "list") (u := .type "list") (by rfl) T.z_list (by decide +kernel) rfl) pa_nil))) (nomark _))))) (pss_one (ps_ret pe_bl)) pss_nil)
      (pss_cons (ps_if (pt_cmpR op_ne (pe_callB (id := "len") b_len (by rfl) T.z_len (by decide +kernel) (pa_cons (pv 0) pa_nil)) (pe_callB (id := "len") b_len (by rfl) T.z_len (by decide +kernel) (pa_cons (pv 1) pa_nil)) (nomark _)) (pss_one (ps_ret pe_bl)) pss_nil)
      (pss_cons (ps_for PassesOwn.never rfl (pi_range1 (by rfl) T.z_range (pa_cons (pe_callB (id := "len") b_len (by rfl) T.z_len (by decide +kernel) (pa_cons (pv 1) pa_nil)) pa_nil)) (pg_name (i := 2) sc_law_same.nd rfl (by first | exact Or.inl rfl | exact Or.inr rfl)) (pss_one (ps_if (pt_not (pt_val (pe_call G_law_same (hr.mono (by first | decide | omega)) (by rfl) T.m_law_same T.F_law_same.kp T.b_law_same .nil pass0 (pa_cons (pe_ix ix_seq (pv 0) (pv 2) (fun _ _ => rfl)) (pa_cons (pe_ix ix_seq (pv 1) (pv 2) (fun _ _ => rfl)) pa_nil))))) (pss_one (ps_ret pe_bl)) pss_nil)))
      (pss_one (ps_ret pe_bl))))) pss_nil)
      (pss_cons (ps_if (PW.pt (pw_or (pt_val (pe_callB (id := "isinstance") call_isi (by rfl) T.z_isinstance (by decide +kernel) (pa_cons (pv 1) (pa_cons (pe_bltn (v := .ty "bool") (u := .type "bool") (by rfl) T.z_bool (by decide +kernel) rfl) pa_nil)))) (pw_or1 (pt_val (pe_callB (id := "isinstance") call_isi (by rfl) T.z_isinstance (by decide +kernel) (pa_cons (pv 0) (pa_cons (pe_bltn (v := .ty "bool") (u := .type "bool") (by rfl) T.z_bool (by decide +kernel) rfl) pa_nil))))))) (pss_one (ps_ret (pe_and (pe_callB (id := "isinstance") call_isi (by rfl) T.z_isinstance (by decide +kernel) (pa_cons (pv 0) (pa_cons (pe_bltn (v := .ty "bool") (u := .type "bool") (by rfl) T.z_bool (by decide +kernel) rfl) pa_nil))) (pe_and (pe_callB (id := "isinstance") call_isi (by rfl) T.z_isinstance (by decide +kernel) (pa_cons (pv 1) (pa_cons (pe_bltn (v := .ty "bool") (u := .type "bool") (by rfl) T.z_bool (by decide +kernel) rfl) pa_nil))) (pe_one (pe_cmpR op_eq (pv 0) (pv 1) (nomark _))))))) pss_nil)
      (pss_cons (ps_if (pt_cmp (pc_isN (pv 1))) (pss_one (ps_ret (pe_cmp (pc_isN (pv 0)) rfl))) pss_nil)
      (pss_cons (ps_if (pt_val (pe_callB (id := "isinstance") call_isi (by rfl) T.z_isinstance (by decide +kernel) (pa_cons (pv 1) (pa_cons (pe_bltn (v := .ty "int") (u := .type "int") (by rfl) T.z_int (by decide +kernel) rfl) pa_nil)))) (pss_one (ps_ret (pe_and (pe_callB (id := "isinstance") call_isi (by rfl) T.z_isinstance (by decide +kernel) (pa_cons (pv 0) (pa_cons (pe_bltn (v := .ty "int") (u := .type "int") (by rfl) T.z_int (by decide +kernel) rfl) pa_nil))) (pe_one (pe_cmpR op_eq (pv 0) (pv 1) (nomark _)))))) pss_nil)
      (pss_one (ps_ret (pe_and (pe_callB (id := "isinstance") call_isi (by rfl) T.z_isinstance (by decide +kernel) (pa_cons (pv 0) (pa_cons (pe_bltn (v := .ty "str") (u := .type "str") (by rfl) T.z_str (by decide +kernel) rfl) pa_nil))) (pe_one (pe_cmpR op_eq (pv 0) (pv 1) (nomark _)))))))))), ?_⟩
  try dsimp only [cxOf, Cx.nox, Cx.wish, Cx.blk]
  have hS := Sta.start (K := K) hG
  refine go_start (σ := [some x, some y, none]) rfl ?_
  have qb : ∀ {b : Bool} {G1 H1 : Hp}, Sta K G H [] G1 [] H1 → b = true → Q (.bl b) H1 := fun s e => by subst e; exact q _ _ s.adv
  walk_at "go"
  refine go_rawT hS (sz (by simp)) fun p G1 H1 e1 hS hp => ?_
  walk_at "go"
  have hx1 := hx.up e1
  have hy1 := hy.up e1
  cases d with
  | ins C fs => cases hd
  | non =>
    cases Rp.non_inv hx
    cases Rp.non_inv hy
    refine go_isiT hy1 hS.gh hp (t := "NoneType") rfl (by decide) (b1 := false) (b2 := false) (by walk_at "kit") (by walk_at "kit") ?_
    walk_at "go"
    exact qb hS rfl
  | bl b =>
    cases Rp.bl_inv hx
    cases Rp.bl_inv hy
    refine go_isiT hy1 hS.gh hp (t := "bool") rfl (by decide) (b1 := false) (b2 := false) (by walk_at "kit") (by walk_at "kit") ?_
    walk_at "go"
    exact qb hS (decide_eq_true rfl)
  | int i =>
    cases Rp.int_inv hx
    cases Rp.int_inv hy
    refine go_isiT hy1 hS.gh hp (t := "int") rfl (by decide) (b1 := false) (b2 := false) (by walk_at "kit") (by walk_at "kit") ?_
    walk_at "go"
    exact qb hS (decide_eq_true rfl)
  | str i =>
    cases Rp.str_inv hx
    cases Rp.str_inv hy
    refine go_isiT hy1 hS.gh hp (t := "str") rfl (by decide) (b1 := false) (b2 := false) (by walk_at "kit") (by walk_at "kit") ?_
    walk_at "go"
    exact qb hS (decide_eq_true rfl)
  | tup ds =>
    have hdl : ds.length ≤ 100000 ∧ ∀ e ∈ ds, okD n e = true := by
      simpa [okD] using hd
    refine go_isiT hy1 hS.gh hp (t := "tuple") rfl (by decide) (b1 := true) (b2 := false) (by walk_at "kit") (by walk_at "kit") ?_
    walk_at "go"
    walk_at "go"
    refine forR hS (fun i σ G2 M2 => M2 = [] ∧ ∃ kv, σ = [some x, some y, kv]) ⟨rfl, none, rfl⟩ ?_ ?_
    · rintro i σ G2 M2 H2 hi e2 hS2 ⟨rfl, kv, rfl⟩
      have hi' : i < ds.length := by simpa using hi
      have hat : atI ds (0 + (i : Int)) = some ds[i] := by rw [Int.zero_add]; exact atI_nat (List.getElem?_eq_getElem hi')
      walk_at "go"
      refine go_ixA (hx1.up e2) hS2.gh hat fun u hu => ?_
      walk_at "go"
      refine go_ixA (hy1.up e2) hS2.gh hat fun v hv => ?_
      walk_at "go"
      refine ⟨u, v, G2, ds[i], rfl, hS2.gh, hu, hv, hdl.2 _ (List.getElem_mem hi'), fun G3 H3 ad => ?_⟩
      walk_at "go"
      exact Nx.mk (hS2.call ad) (e2.trans ad.gg) ⟨rfl, _, rfl⟩
    · rintro σ G2 M2 H2 e2 hS2 ⟨rfl, kv, rfl⟩
      walk_at "go"
      exact qb hS2 rfl
  | lst ds =>
    have hdl : ds.length ≤ 100000 ∧ ∀ e ∈ ds, okD n e = true := by
      simpa [okD] using hd
    refine go_isiT hy1 hS.gh hp (t := "list") rfl (by decide) (b1 := false) (b2 := true) (by walk_at "kit") (by walk_at "kit") ?_
    walk_at "go"
    walk_at "go"
    refine forR hS (fun i σ G2 M2 => M2 = [] ∧ ∃ kv, σ = [some x, some y, kv]) ⟨rfl, none, rfl⟩ ?_ ?_
    · rintro i σ G2 M2 H2 hi e2 hS2 ⟨rfl, kv, rfl⟩
      have hi' : i < ds.length := by simpa using hi
      have hat : atI ds (0 + (i : Int)) = some ds[i] := by rw [Int.zero_add]; exact atI_nat (List.getElem?_eq_getElem hi')
      walk_at "go"
      refine go_ixB (hx1.up e2) hS2.gh hat fun u hu => ?_
      walk_at "go"
      refine go_ixB (hy1.up e2) hS2.gh hat fun v hv => ?_
      walk_at "go"
      refine ⟨u, v, G2, ds[i], rfl, hS2.gh, hu, hv, hdl.2 _ (List.getElem_mem hi'), fun G3 H3 ad => ?_⟩
      walk_at "go"
      exact Nx.mk (hS2.call ad) (e2.trans ad.gg) ⟨rfl, _, rfl⟩
    · rintro σ G2 M2 H2 e2 hS2 ⟨rfl, kv, rfl⟩
      walk_at "go"
      exact qb hS2 rfl
theorem ok_law_same (T : Txt K mg A) : FnOk P w K mg base CX0 5 A.f_law_same A.d_law_same ["actual", "expected"] (spSame K 5) := step_same T (step_same T (step_same T (step_same T (step_same T none_same))))
theorem go_same {G0 H0 G H : Hp} {D : List Addr} {M : List (Addr × HO)} {Q : VK} {E : XK} {x y : V} {d : Dt} (hS : Sta K G0 H0 D G M H) (hx : Rp K G x d) (hy : Rp K G y d) (hd : okD 5 d = true) (q : ∀ G1 H1, Same G G1 → Sta K G0 H0 D G1 M H1 → Q (.bl true) H1) : spSame K 5 [x, y] H Q E :=
  ⟨x, y, G, d, rfl, hS.gh, hx, hy, hd, fun G1 H1 ad => q G1 H1 ad.gg (hS.call ad)⟩
/-! ### is_base -/
def isB (n : Int) : Bool := decide (2 ≤ n) && (decide (n ≤ 97) && ((List.range (n - 2).toNat).map fun (i : Nat) => !decide (n % (2 + (i : Int)) = 0)).all id)
def spIsB (K : PySem.W.Frag) : Sp := fun vs H Q _ => ∃ (n : Int) (G : Hp), vs = [.int n] ∧ Same G H ∧ ∀ G1 H1, Adv [] G H G1 H1 → Q (.bl (isB n)) H1
theorem ok_is_base (T : Txt K mg A) : FnOk P w K mg base CX0 1 A.f_is_base A.d_is_base ["number"] (spIsB K) := by
  refine T.F_is_base.ok sc_is_base (fun vs H Q E h => by first | (obtain ⟨rfl, _⟩ := h; rfl) | (obtain ⟨_, rfl, _⟩ := h; rfl) | (obtain ⟨_, _, rfl, _⟩ := h; rfl) | (obtain ⟨_, _, _, rfl, _⟩ := h; rfl) | (obtain ⟨_, _, _, _, rfl, _⟩ := h; rfl) | (obtain ⟨_, _, _, _, _, rfl, _⟩ := h; rfl) | (obtain ⟨_, _, _, _, _, _, rfl, _⟩ := h; rfl) | (obtain ⟨_, _, _, _, _, _, _, rfl, _⟩ := h; rfl) | (obtain ⟨_, _, _, _, _, _, _, _, rfl, _⟩ := h; rfl) | (obtain ⟨_, _, _, _, _, _, _, _, _, rfl, _⟩ := h; rfl) | (obtain ⟨_, _, _, _, _, _, _, _, _, _, rfl, _⟩ := h; rfl) | (obtain ⟨_, _, _, _, _, _, _, _, _, _, _, rfl, _⟩ := h; rfl) | (obtain ⟨_, _, _, _, _, _, _, _, _, _, _, _, rfl, _⟩ := h; rfl) | (obtain ⟨_, _, _, _, _, _, _, _, _, _, _, _, _, rfl, _⟩ := h; rfl) | exact wk_len h) (fun cdv AA outer s H vs Q E hr h => ?_)
  obtain ⟨n, G, rfl, hG, q⟩ := h
  refine ⟨_, (pss_cons (ps_if (pt_not (pt_chain op_le op_le pe_int (pv 0) (pe_glob (v := .int 97) (by rfl) T.g_LARGEST_BASE.choose_spec ⟨_, rfl⟩))) (pss_one (ps_ret pe_bl)) pss_nil)
      (pss_one (ps_ret (pe_callB (id := "all") (cr_all rfl) (by rfl) T.z_all (by decide +kernel) (pa_cons (pe_lc (own := [("k", 1)]) (g := gName 1) rfl sc_is_base.nd (pi_range2 (by rfl) T.z_range (pa_cons pe_int (pa_cons (pv 0) pa_nil))) (blkOk_by (N := ["number", "k"]) (sc := defScope s_is_base) (by decide +kernel)) (fun _ _ _ _ _ => pg_name (i := 1) sc_is_base.nd rfl (by first | exact Or.inl rfl | exact Or.inr rfl)) (fun _ _ _ _ _ => pts_nil) (fun _ _ _ _ _ => (pe_cmpR op_ne (pe_op op_mod (pv 0) (pv 1)) pe_int (nomark _)))) pa_nil))))), ?_⟩
  try dsimp only [cxOf, Cx.nox, Cx.wish, Cx.blk]
  have hS := Sta.start (K := K) hG
  refine go_start (σ := [some (.int n), none]) rfl ?_
  have fin : ∀ (b : Bool) G1 H1, Sta K G H [] G1 [] H1 → isB n = b → Q (.bl b) H1 := fun b G1 H1 s e => by subst e; exact q _ _ s.adv
  walk_at "go"
  · exact fin _ _ _ hS (by simp [isB, *])
  · refine lcMapR (F := fun (i : Nat) => .bl (!decide (n % (2 + (i : Int)) = 0))) (by assumption) (by omega) ?_ ?_
    · intro i L G1 vs es H1 Z hi e1 l0 hS1 hvs fin1
      walk_at "go"
      exact fin1 _ _ _ (Same.refl _) (by assumption) (by walk_at "rp")
    · intro p G1 H1 e1 hS1 hr
      walk_at "go"
      refine go_all (G := G1) (bs := (List.range (n - 2).toNat).map fun (i : Nat) => !decide (n % (2 + (i : Int)) = 0)) (by rw [List.map_map]; exact hr) hS1.gh ?_
      walk_at "go"
      exact fin _ _ _ hS1 (by simp [isB, *])
  · exact fin _ _ _ hS (by simp [isB, *])
theorem go_isB {G0 H0 G H : Hp} {D : List Addr} {M : List (Addr × HO)} {Q : VK} {E : XK} {n : Int} (hS : Sta K G0 H0 D G M H) (q : ∀ G1 H1, Same G G1 → Sta K G0 H0 D G1 M H1 → Q (.bl (isB n)) H1) : spIsB K [.int n] H Q E := ⟨n, G, rfl, hS.gh, fun G1 H1 ad => q G1 H1 ad.gg (hS.call ad)⟩
def spLaw (K : PySem.W.Frag) : Sp := fun vs H Q _ => ∃ (a : Addr) (ns : List Int), vs = [.ref a] ∧ SqL K H a (ns.map V.int) ∧ ns.length ≤ 63 ∧ ∀ H', Q (.bl true) H'
theorem spLaw_in (K : PySem.W.Frag) (H : Hp) (a : Addr) (ns : List Int) (hl : ns.length ≤ 63) (_ : Only H) (hS : SqL K H a (ns.map V.int)) : spLaw K [.ref a] H (fun v _ => v = .bl true) fun _ _ _ => False := ⟨a, ns, rfl, hS, hl, fun _ => rfl⟩
local macro_rules | `(tactic| walk_at "ro") => `(tactic| first | assumption | ((with_reducible refine' RowOk.up (G := ?m) ?e ?g); (case e => assumption); (case g => walk_at "ro")) | fail)
local macro_rules | `(tactic| walk_at "s") => `(tactic| first | ((with_reducible refine' go_next_ (at_ := ?t) (r := ?r) (i := ?i) (M' := ?M') ?hS ?hi ?hr ?h0 ?h1 ?hm ?hM ?_); (case hS => assumption); (case hi => walk_at "mi"); (case hr => walk_at "ro"); (case h0 => omega); (case h1 => omega); (case hm => omega); (case hM => walk_at "set"); (intro v H1 hv1 hv2 hS1)) | fail)
local macro_rules | `(tactic| walk_at "s") => `(tactic| first | ((with_reducible refine' go_cell (G := ?G) (ns := ?ns) ?hS ?hl ?h0 ?_); (case hS => assumption); (case hl => walk_at "rp"); (case h0 => omega); (intro v)) | fail)
local macro_rules | `(tactic| walk_at "s") => `(tactic| first | ((with_reducible refine' go_isB ?hS ?_); (case hS => assumption); (intro G1 H1 e1 hS1)) | fail)
/-! ### matrices -/
def wrD (t : Bool) (r : List Int) : Dt := if t then .tup (r.map .int) else .lst (r.map .int)
def rowD (r : List Int) : Dt := .tup (r.map .int)
def matF (b w : Int) (rs : List (List Int)) : List (Str × Dt) := [("base", .int b), ("width", .int w), ("rows", .tup (rs.map rowD))]
def okRow (b w : Int) (r : List Int) : Bool := decide ((r.length : Int) = w) && (r.map fun e => decide (0 ≤ e) && decide (e < b)).all id
def okM (b w : Int) (rs : List (List Int)) : Bool := isB b && (decide (0 ≤ w) && rs.all (okRow b w))
def kdM (t : Bool) : Bool := true
def spMat (K : PySem.W.Frag) (C Xi : Addr) : Sp := fun vs H Q E => ∃ (x dx : Addr) (b w : Int) (rv : V) (rs : List (List Int)) (t : Bool) (G : Hp), vs = [.ref x, .int b, .int w, rv] ∧ kdM t = true ∧ Same G H ∧ G x = none ∧ H x = some (.ins C dx []) ∧ Rp K G rv (.lst (rs.map (wrD t))) ∧ rs.length ≤ 1000 ∧ (∀ r ∈ rs, r.length ≤ 1000) ∧
  (okM b w rs = true → ∀ fs G1 H1, Adv [x] G H G1 H1 → G1 x = none → H1 x = some (.ins C dx fs) → RpF K G1 fs (matF b w rs) → Q .non H1) ∧ (okM b w rs = false → ∀ G1 H1, Adv [x] G H G1 H1 → E (.ref Xi) none H1)
theorem ok_Matrix_init (T : Txt K mg A) : FnOk P w K mg base (L2.CX P w) 2 A.f_Matrix_init A.d_Matrix_init ["self", "base", "width", "rows"] (spMat K A.C_Matrix A.C_InvalidMatrix) := by
  have G_is_base := ok_is_base (P := P) (w := w) (base := base) T
  refine T.F_Matrix_init.okX sc_Matrix_init (fun vs H Q E h => by first | (obtain ⟨rfl, _⟩ := h; rfl) | (obtain ⟨_, rfl, _⟩ := h; rfl) | (obtain ⟨_, _, rfl, _⟩ := h; rfl) | (obtain ⟨_, _, _, rfl, _⟩ := h; rfl) | (obtain ⟨_, _, _, _, rfl, _⟩ := h; rfl) | (obtain ⟨_, _, _, _, _, rfl, _⟩ := h; rfl) | (obtain ⟨_, _, _, _, _, _, rfl, _⟩ := h; rfl) | (obtain ⟨_, _, _, _, _, _, _, rfl, _⟩ := h; rfl) | (obtain ⟨_, _, _, _, _, _, _, _, rfl, _⟩ := h; rfl) | (obtain ⟨_, _, _, _, _, _, _, _, _, rfl, _⟩ := h; rfl) | (obtain ⟨_, _, _, _, _, _, _, _, _, _, rfl, _⟩ := h; rfl) | (obtain ⟨_, _, _, _, _, _, _, _, _, _, _, rfl, _⟩ := h; rfl) | (obtain ⟨_, _, _, _, _, _, _, _, _, _, _, _, rfl, _⟩ := h; rfl) | (obtain ⟨_, _, _, _, _, _, _, _, _, _, _, _, _, rfl, _⟩ := h; rfl) | exact wk_len h) (fun cdv AA outer s H vs Q E hr h => ?_)
  obtain ⟨x, dx, b, w', rv, rs, t, G, rfl, hk, hG, hgx, hx, hrv, hl1, hl2, q, qE⟩ := h
  obtain ⟨ra, rxs, rfl, hrs, hra⟩ := Rp.lst_inv hrv
  have cl := T.cl_Matrix
  have n1 := T.na_Matrix_base
  have n2 := T.na_Matrix_width
  have n3 := T.na_Matrix_rows
  cases t with
  | false =>
  refine ⟨_, (pss_cons (ps_if (PW.pt (pw_or (pt_not (pt_val (pe_call G_is_base (hr.mono (by first | decide | omega)) (by rfl) T.m_is_base T.F_is_base.kp T.b_is_base .nil pass0 (pa_cons (pv 1) pa_nil)))) (pw_or1 (pt_cmpR op_lt (pv 2) pe_int (nomark _))))) (pss_one (ps_raise rfl (takes_of rfl rfl rfl rfl) (pmk_x T.x_InvalidMatrix T.c_InvalidMatrix (by rfl)))) pss_nil)
      (pss_cons (ps_for (passes_of rfl) rfl (pi_list (pv 3)) (pg_name (i := 4) sc_Matrix_init.nd rfl (by first | exact Or.inl rfl | exact Or.inr rfl)) (pss_one (ps_if (PW.pt (pw_or (pt_cmpR op_ne (pe_callB (id := "len") b_len (by rfl) T.z_len (by decide +kernel) (pa_cons (pv 4) pa_nil)) (pv 2) (nomark _)) (pw_or1 (pt_not (pt_val (pe_callB (id := "all") (cr_all rfl) (by rfl) T.z_all (by decide +kernel) (pa_cons (pe_lc (own := [("entry", 5)]) (g := gName 5) rfl sc_Matrix_init.nd (pi_list (pv 4)) (blkOk_by (N := ["self", "base", "width", "rows", "row", "entry"]) (sc := defScope s_Matrix_init) (by decide +kernel)) (fun _ _ _ _ _ => pg_name (i := 5) sc_Matrix_init.nd rfl (by first | exact Or.inl rfl | exact Or.inr rfl)) (fun _ _ _ _ _ => pts_nil) (fun _ _ _ _ _ => (pe_chain op_le op_lt pe_int (pv 5) (pv 1)))) pa_nil))))))) (pss_one (ps_raise rfl (takes_of rfl rfl rfl rfl) (pmk_x T.x_InvalidMatrix T.c_InvalidMatrix (by rfl)))) pss_nil)))
      (pss_cons (ps_fld (pv 0) (pv 1) rfl)
      (pss_cons (ps_fld (pv 0) (pv 2) rfl)
      (pss_one (ps_fld (pv 0) (pe_callTy (T := "tuple") b_tuple (by rfl) T.z_tuple (by decide +kernel) (pa_cons (pe_lc (own := [("row", 4)]) (g := gName 4) rfl sc_Matrix_init.nd (pi_list (pv 3)) (blkOk_by (N := ["self", "base", "width", "rows", "row", "entry"]) (sc := defScope s_Matrix_init) (by decide +kernel)) (fun _ _ _ _ _ => pg_name (i := 4) sc_Matrix_init.nd rfl (by first | exact Or.inl rfl | exact Or.inr rfl)) (fun _ _ _ _ _ => pts_nil) (fun _ _ _ _ _ => (pe_callTy (T := "tuple") (show CallR _ _ (rTupOf_ K) from b_tuple) (by rfl) T.z_tuple (by decide +kernel) (pa_cons (pv 4) pa_nil)))) pa_nil)) rfl)))))), ?_⟩
  try dsimp only [cxOf, Cx.nox, Cx.wish, Cx.blk]
  have hS := Sta.start1 (K := K) hG hx hgx
  refine go_start (σ := [some (.ref x), some (.int b), some (.int w'), some (.ref ra), none, none]) rfl ?_
  have raised : ∀ G1 H1 M1, okM b w' rs = false → Sta K G H [x] G1 M1 H1 → E (.ref A.C_InvalidMatrix) none H1 := fun G1 H1 M1 e s => qE e G1 H1 s.adv
  walk_at "go"
  refine go_iteBN (fun hb => ?_) (fun hb => ?_)
  · walk_at "go"
    exact raised _ _ _ (by simp [okM, hb]) (by assumption)
  walk_at "go"
  · exact raised _ _ _ (by simp only [okM, Bool.and_eq_false_iff]; right; left; exact decide_eq_false (by omega)) (by assumption)
  refine forL (ds := rs.map (wrD false)) (by assumption) (by walk_at "rp") (by walk_at "rp") (fun i σ G3 M3 => M3 = [(x, .ins A.C_Matrix dx [])] ∧ (∀ r ∈ rs.take i, okRow b w' r = true) ∧ ∃ u4, σ = [some (.ref x), some (.int b), some (.int w'), some (.ref ra), u4, none]) ⟨rfl, fun r hr => by simp at hr, _, rfl⟩ ?_ ?_
  · rintro i y d σ G3 M3 H3 hi hd e3 hS3 hy ⟨rfl, hok, u4, rfl⟩
    have hi' : i < rs.length := by simpa using hi
    obtain ⟨r, hr, rfl⟩ : ∃ r, rs[i]? = some r ∧ wrD false r = d := by
      rw [List.getElem?_map] at hd
      cases e : rs[i]? with
      | none => rw [e] at hd; cases hd
      | some r => rw [e] at hd; exact ⟨r, rfl, Option.some.inj hd⟩
    have hrm : r ∈ rs := List.mem_of_getElem? hr
    have hrl := hl2 r hrm
    have bad : okRow b w' r = false → okM b w' rs = false := fun e => by
      simp only [okM, Bool.and_eq_false_iff]
      right; right
      rw [List.all_eq_false]
      exact ⟨r, hrm, by rw [e]; decide⟩
    simp only [wrD] at hy
    walk_at "go"
    · exact raised _ _ _ (bad (by rename_i hh; simp only [okRow, Bool.and_eq_false_iff]; left; exact decide_eq_false (by simpa using hh))) (by assumption)
    · have hlen : (r.length : Int) = w' := by simpa using ‹((List.map Dt.int r).length : Int) = w'›
      refine lcMapL (Da := .int) (F := fun e => .bl (decide (0 ≤ e) && decide (e < b))) hS3 (by walk_at "rp") (by walk_at "rp") (by omega) ?_ ?_
      · intro z c L G4 vs es H4 Z hc hz e4 l0 hS4 hvs fin
        cases Rp.int_inv hz
        walk_at "go"
        · rename_i h0
          refine fin _ _ _ (Same.refl _) (by assumption) ?_
          rw [decide_eq_true h0, Bool.true_and]
          exact .bl _
        · rename_i h0
          refine fin _ _ _ (Same.refl _) (by assumption) ?_
          rw [decide_eq_false h0, Bool.false_and]
          exact .bl _
      · intro p G4 H4 e4 hS4 hr4
        walk_at "go"
        refine go_all (G := G4) (bs := r.map fun e => decide (0 ≤ e) && decide (e < b)) (by rw [List.map_map]; exact hr4) hS4.gh ?_
        walk_at "go"
        refine go_iteBN (fun ha => ?_) (fun ha => ?_)
        · walk_at "go"
          exact raised _ _ _ (bad (by simp only [okRow, ha, Bool.and_false])) hS4
        · walk_at "go"
          refine Nx.mk hS4 (by walk_at "sm") ⟨rfl, ?_, _, rfl⟩
          intro r' hr'
          rw [List.take_add_one, hr, List.mem_append] at hr'
          rcases hr' with hr' | hr'
          · exact hok r' hr'
          · have : r' = r := by simpa using hr'
            subst this
            simp only [okRow, ha, Bool.and_true]
            exact decide_eq_true hlen
  · rintro σ G3 M3 H3 e3 hS3 ⟨rfl, hok, u4, rfl⟩
    have okT : okM b w' rs = true := by
      simp only [okM, hb, Bool.true_and, Bool.and_eq_true]
      refine ⟨decide_eq_true (by omega), List.all_eq_true.mpr fun r hr => hok r ?_⟩
      rw [List.length_map, List.take_length]
      exact hr
    walk_at "go"
    rename_i xs4 hq4 hr4
    refine lcMapL (Da := wrD false) (F := rowD) (as := rs) (by assumption) (by walk_at "rp") (by walk_at "rp") (by omega) ?_ ?_
    · intro z c L G4 vs es H4 Z hc hz e4 l0 hS4 hvs fin
      simp only [wrD] at hz
      walk_at "go"
      exact fin _ _ _ (by assumption) (by assumption) (by assumption)
    · intro p G4 H4 e4 hS4 hr5
      walk_at "go"
      rename_i p5 G5 H5 e5 hS5 hr6 H6 hS6
      have ef : putF "rows" (V.ref p5) (putF "width" (V.int w') (putF "base" (V.int b) [])) = [(("base" : Str), V.int b), (("width" : Str), V.int w'), (("rows" : Str), V.ref p5)] := by first | rfl | simp [putF]
      rw [ef] at hS6
      exact q okT _ _ _ hS6.adv (hS6.mh _ List.mem_cons_self).2.1 (hS6.get (i := 0) rfl) (.cons (.int _) (.cons (.int _) (.cons hr6 .nil)))
  | true =>
  refine ⟨_, (pss_cons (ps_if (PW.pt (pw_or (pt_not (pt_val (pe_call G_is_base (hr.mono (by first | decide | omega)) (by rfl) T.m_is_base T.F_is_base.kp T.b_is_base .nil pass0 (pa_cons (pv 1) pa_nil)))) (pw_or1 (pt_cmpR op_lt (pv 2) pe_int (nomark _))))) (pss_one (ps_raise rfl (takes_of rfl rfl rfl rfl) (pmk_x T.x_InvalidMatrix T.c_InvalidMatrix (by rfl)))) pss_nil)
      (pss_cons (ps_for (passes_of rfl) rfl (pi_list (pv 3)) (pg_name (i := 4) sc_Matrix_init.nd rfl (by first | exact Or.inl rfl | exact Or.inr rfl)) (pss_one (ps_if (PW.pt (pw_or (pt_cmpR op_ne (pe_callB (id := "len") b_len (by rfl) T.z_len (by decide +kernel) (pa_cons (pv 4) pa_nil)) (pv 2) (nomark _)) (pw_or1 (pt_not (pt_val (pe_callB (id := "all") (cr_all rfl) (by rfl) T.z_all (by decide +kernel) (pa_cons (pe_lc (own := [("entry", 5)]) (g := gName 5) rfl sc_Matrix_init.nd (pi_tup (pv 4)) (blkOk_by (N := ["self", "base", "width", "rows", "row", "entry"]) (sc := defScope s_Matrix_init) (by decide +kernel)) (fun _ _ _ _ _ => pg_name (i := 5) sc_Matrix_init.nd rfl (by first | exact Or.inl rfl | exact Or.inr rfl)) (fun _ _ _ _ _ => pts_nil) (fun _ _ _ _ _ => (pe_chain op_le op_lt pe_int (pv 5) (pv 1)))) pa_nil))))))) (pss_one (ps_raise rfl (takes_of rfl rfl rfl rfl) (pmk_x T.x_InvalidMatrix T.c_InvalidMatrix (by rfl)))) pss_nil)))
      (pss_cons (ps_fld (pv 0) (pv 1) rfl)
      (pss_cons (ps_fld (pv 0) (pv 2) rfl)
      (pss_one (ps_fld (pv 0) (pe_callTy (T := "tuple") b_tuple (by rfl) T.z_tuple (by decide +kernel) (pa_cons (pe_lc (own := [("row", 4)]) (g := gName 4) rfl sc_Matrix_init.nd (pi_list (pv 3)) (blkOk_by (N := ["self", "base", "width", "rows", "row", "entry"]) (sc := defScope s_Matrix_init) (by decide +kernel)) (fun _ _ _ _ _ => pg_name (i := 4) sc_Matrix_init.nd rfl (by first | exact Or.inl rfl | exact Or.inr rfl)) (fun _ _ _ _ _ => pts_nil) (fun _ _ _ _ _ => (pe_callTy (T := "tuple") (show CallR _ _ (rTupOf_ K) from b_tuple) (by rfl) T.z_tuple (by decide +kernel) (pa_cons (pv 4) pa_nil)))) pa_nil)) rfl)))))), ?_⟩
  try dsimp only [cxOf, Cx.nox, Cx.wish, Cx.blk]
  have hS := Sta.start1 (K := K) hG hx hgx
  refine go_start (σ := [some (.ref x), some (.int b), some (.int w'), some (.ref ra), none, none]) rfl ?_
  have raised : ∀ G1 H1 M1, okM b w' rs = false → Sta K G H [x] G1 M1 H1 → E (.ref A.C_InvalidMatrix) none H1 := fun G1 H1 M1 e s => qE e G1 H1 s.adv
  walk_at "go"
  refine go_iteBN (fun hb => ?_) (fun hb => ?_)
  · walk_at "go"
    exact raised _ _ _ (by simp [okM, hb]) (by assumption)
  walk_at "go"
  · exact raised _ _ _ (by simp only [okM, Bool.and_eq_false_iff]; right; left; exact decide_eq_false (by omega)) (by assumption)
  refine forL (ds := rs.map (wrD true)) (by assumption) (by walk_at "rp") (by walk_at "rp") (fun i σ G3 M3 => M3 = [(x, .ins A.C_Matrix dx [])] ∧ (∀ r ∈ rs.take i, okRow b w' r = true) ∧ ∃ u4, σ = [some (.ref x), some (.int b), some (.int w'), some (.ref ra), u4, none]) ⟨rfl, fun r hr => by simp at hr, _, rfl⟩ ?_ ?_
  · rintro i y d σ G3 M3 H3 hi hd e3 hS3 hy ⟨rfl, hok, u4, rfl⟩
    have hi' : i < rs.length := by simpa using hi
    obtain ⟨r, hr, rfl⟩ : ∃ r, rs[i]? = some r ∧ wrD true r = d := by
      rw [List.getElem?_map] at hd
      cases e : rs[i]? with
      | none => rw [e] at hd; cases hd
      | some r => rw [e] at hd; exact ⟨r, rfl, Option.some.inj hd⟩
    have hrm : r ∈ rs := List.mem_of_getElem? hr
    have hrl := hl2 r hrm
    have bad : okRow b w' r = false → okM b w' rs = false := fun e => by
      simp only [okM, Bool.and_eq_false_iff]
      right; right
      rw [List.all_eq_false]
      exact ⟨r, hrm, by rw [e]; decide⟩
    simp only [wrD] at hy
    walk_at "go"
    · exact raised _ _ _ (bad (by rename_i hh; simp only [okRow, Bool.and_eq_false_iff]; left; exact decide_eq_false (by simpa using hh))) (by assumption)
    · have hlen : (r.length : Int) = w' := by simpa using ‹((List.map Dt.int r).length : Int) = w'›
      refine lcMapT (Da := .int) (F := fun e => .bl (decide (0 ≤ e) && decide (e < b))) hS3 (by walk_at "rp") (by walk_at "rp") (by omega) ?_ ?_
      · intro z c L G4 vs es H4 Z hc hz e4 l0 hS4 hvs fin
        cases Rp.int_inv hz
        walk_at "go"
        · rename_i h0
          refine fin _ _ _ (Same.refl _) (by assumption) ?_
          rw [decide_eq_true h0, Bool.true_and]
          exact .bl _
        · rename_i h0
          refine fin _ _ _ (Same.refl _) (by assumption) ?_
          rw [decide_eq_false h0, Bool.false_and]
          exact .bl _
      · intro p G4 H4 e4 hS4 hr4
        walk_at "go"
        refine go_all (G := G4) (bs := r.map fun e => decide (0 ≤ e) && decide (e < b)) (by rw [List.map_map]; exact hr4) hS4.gh ?_
        walk_at "go"
        refine go_iteBN (fun ha => ?_) (fun ha => ?_)
        · walk_at "go"
          exact raised _ _ _ (bad (by simp only [okRow, ha, Bool.and_false])) hS4
        · walk_at "go"
          refine Nx.mk hS4 (by walk_at "sm") ⟨rfl, ?_, _, rfl⟩
          intro r' hr'
          rw [List.take_add_one, hr, List.mem_append] at hr'
          rcases hr' with hr' | hr'
          · exact hok r' hr'
          · have : r' = r := by simpa using hr'
            subst this
            simp only [okRow, ha, Bool.and_true]
            exact decide_eq_true hlen
  · rintro σ G3 M3 H3 e3 hS3 ⟨rfl, hok, u4, rfl⟩
    have okT : okM b w' rs = true := by
      simp only [okM, hb, Bool.true_and, Bool.and_eq_true]
      refine ⟨decide_eq_true (by omega), List.all_eq_true.mpr fun r hr => hok r ?_⟩
      rw [List.length_map, List.take_length]
      exact hr
    walk_at "go"
    rename_i xs4 hq4 hr4
    refine lcMapL (Da := wrD true) (F := rowD) (as := rs) (by assumption) (by walk_at "rp") (by walk_at "rp") (by omega) ?_ ?_
    · intro z c L G4 vs es H4 Z hc hz e4 l0 hS4 hvs fin
      simp only [wrD] at hz
      walk_at "go"
      exact fin _ _ _ (by assumption) (by assumption) (by assumption)
    · intro p G4 H4 e4 hS4 hr5
      walk_at "go"
      rename_i p5 G5 H5 e5 hS5 hr6 H6 hS6
      have ef : putF "rows" (V.ref p5) (putF "width" (V.int w') (putF "base" (V.int b) [])) = [(("base" : Str), V.int b), (("width" : Str), V.int w'), (("rows" : Str), V.ref p5)] := by first | rfl | simp [putF]
      rw [ef] at hS6
      exact q okT _ _ _ hS6.adv (hS6.mh _ List.mem_cons_self).2.1 (hS6.get (i := 0) rfl) (.cons (.int _) (.cons (.int _) (.cons hr6 .nil)))
/-! ### matrices: what is known -/
theorem isB_bd {b : Int} (h : isB b = true) : 2 ≤ b ∧ b ≤ 97 := by
  simp only [isB, Bool.and_eq_true, decide_eq_true_eq] at h
  exact ⟨h.1, h.2.1⟩
theorem okM_iff {b w' : Int} {rs : List (List Int)} : okM b w' rs = true ↔ isB b = true ∧ 0 ≤ w' ∧ ∀ r ∈ rs, (r.length : Int) = w' ∧ ∀ e ∈ r, 0 ≤ e ∧ e < b := by
  simp [okM, okRow, List.all_eq_true]
/-- a matrix as data; what is asked of it -/
abbrev matD (C : Addr) (b w' : Int) (rs : List (List Int)) : Dt := .ins C (matF b w' rs)
def WM (b w' : Int) (rs : List (List Int)) : Prop := okM b w' rs = true ∧ rs.length ≤ 500 ∧ w' ≤ 500
theorem WM.bd {b w' : Int} {rs : List (List Int)} (h : WM b w' rs) : 2 ≤ b ∧ b ≤ 97 := isB_bd (okM_iff.mp h.1).1
theorem WM.w0 {b w' : Int} {rs : List (List Int)} (h : WM b w' rs) : 0 ≤ w' := (okM_iff.mp h.1).2.1
theorem WM.row {b w' : Int} {rs : List (List Int)} (h : WM b w' rs) {r : List Int} (hr : r ∈ rs) : (r.length : Int) = w' ∧ ∀ e ∈ r, 0 ≤ e ∧ e < b := (okM_iff.mp h.1).2.2 r hr
theorem WM.rl {b w' : Int} {rs : List (List Int)} (h : WM b w' rs) {r : List Int} (hr : r ∈ rs) : r.length ≤ 500 := by
  have := (h.row hr).1
  have := h.2.2
  omega
theorem go_mat {A : Ad} {G0 H0 G H : Hp} {D : List Addr} {M : List (Addr × HO)} {Q : VK} {E : XK} {b w' : Int} {rv : V} {rs : List (List Int)} {t : Bool} (hS : Sta K G0 H0 D G M H) (hr : Rp K G rv (.lst (rs.map (wrD t)))) (ok : WM b w' rs)
    (q : ∀ x G1 H1, Same G G1 → Sta K G0 H0 D G1 M H1 → Rp K G1 (.ref x) (matD A.C_Matrix b w' rs) → Q (.ref x) H1) (hk : kdM t = true := by rfl) : MKS A.C_Matrix (spMat K A.C_Matrix A.C_InvalidMatrix) E Q [.int b, .int w', rv] H := by
  refine go_mks hS fun x dx G1 H1 e1 x0 hS1 => ?_
  refine ⟨x, dx, b, w', rv, rs, t, G1, rfl, hk, hS1.gh, (hS1.mh _ List.mem_cons_self).2.1, hS1.get (i := 0) rfl, hr.up e1, Nat.le_trans ok.2.1 (by decide), fun r hm => Nat.le_trans (ok.rl hm) (by decide), fun _ fs G2 H2 ad hg hx hf => ⟨rfl, ?_⟩, fun e => ?_⟩
  · have hS2 : Sta K G0 H0 D G2 ((x, .ins A.C_Matrix dx fs) :: M) H2 := hS1.callM (i := 0) rfl ad hx
    obtain ⟨hS3, e3⟩ := hS2.frz x0
    exact q x _ _ (e1.trans (ad.gg.trans e3)) hS3 (.ins upd_same (hf.up e3))
  · rw [ok.1] at e
    cases e
theorem go_matX {A : Ad} {G0 H0 G H : Hp} {D : List Addr} {M : List (Addr × HO)} {Q : VK} {E : XK} {b w' : Int} {rv : V} {rs : List (List Int)} {t : Bool} (hS : Sta K G0 H0 D G M H) (hr : Rp K G rv (.lst (rs.map (wrD t)))) (no : okM b w' rs = false) (hl1 : rs.length ≤ 1000) (hl2 : ∀ r ∈ rs, r.length ≤ 1000)
    (q : ∀ G1 H1, Same G G1 → Sta K G0 H0 D G1 M H1 → E (.ref A.C_InvalidMatrix) none H1) (hk : kdM t = true := by rfl) : MKS A.C_Matrix (spMat K A.C_Matrix A.C_InvalidMatrix) E Q [.int b, .int w', rv] H := by
  refine go_mks hS fun x dx G1 H1 e1 x0 hS1 => ?_
  refine ⟨x, dx, b, w', rv, rs, t, G1, rfl, hk, hS1.gh, (hS1.mh _ List.mem_cons_self).2.1, hS1.get (i := 0) rfl, hr.up e1, hl1, hl2, fun e => ?_, fun _ G2 H2 ad => ?_⟩
  · rw [no] at e
    cases e
  · exact q G2 H2 (e1.trans ad.gg) (hS1.pop.callX ad x0 hS1.apart)
/-! ### the parts of the class -/
def spHeight (K : PySem.W.Frag) (C : Addr) : Sp := fun vs H Q _ => ∃ (x : V) (G : Hp) (b w' : Int) (rs : List (List Int)), vs = [x] ∧ Same G H ∧ Rp K G x (matD C b w' rs) ∧ Q (.int rs.length) H
theorem ok_Matrix_height (T : Txt K mg A) : FnOk P w K mg base CX0 1 A.f_Matrix_height A.d_Matrix_height ["self"] (spHeight K A.C_Matrix) := by
  refine T.F_Matrix_height.ok sc_Matrix_height (fun vs H Q E h => by first | (obtain ⟨rfl, _⟩ := h; rfl) | (obtain ⟨_, rfl, _⟩ := h; rfl) | (obtain ⟨_, _, rfl, _⟩ := h; rfl) | (obtain ⟨_, _, _, rfl, _⟩ := h; rfl) | (obtain ⟨_, _, _, _, rfl, _⟩ := h; rfl) | (obtain ⟨_, _, _, _, _, rfl, _⟩ := h; rfl) | (obtain ⟨_, _, _, _, _, _, rfl, _⟩ := h; rfl) | (obtain ⟨_, _, _, _, _, _, _, rfl, _⟩ := h; rfl) | (obtain ⟨_, _, _, _, _, _, _, _, rfl, _⟩ := h; rfl) | (obtain ⟨_, _, _, _, _, _, _, _, _, rfl, _⟩ := h; rfl) | (obtain ⟨_, _, _, _, _, _, _, _, _, _, rfl, _⟩ := h; rfl) | (obtain ⟨_, _, _, _, _, _, _, _, _, _, _, rfl, _⟩ := h; rfl) | (obtain ⟨_, _, _, _, _, _, _, _, _, _, _, _, rfl, _⟩ := h; rfl) | (obtain ⟨_, _, _, _, _, _, _, _, _, _, _, _, _, rfl, _⟩ := h; rfl) | exact wk_len h) (fun cdv AA outer s H vs Q E hr h => ?_)
  obtain ⟨x, G, b, w', rs, rfl, hG, hx, q⟩ := h
  have cl := T.cl_Matrix
  have n3 := T.na_Matrix_rows
  refine ⟨_, (pss_one (ps_ret (pe_callB (id := "len") b_len (by rfl) T.z_len (by decide +kernel) (pa_cons (pe_fld (pv 0) rfl) pa_nil)))), ?_⟩
  try dsimp only [cxOf, Cx.nox, Cx.wish, Cx.blk]
  have hS := Sta.start (K := K) hG
  refine go_start (σ := [some x]) rfl ?_
  walk_at "go"
  simpa using q
theorem go_height {A : Ad} {G0 H0 G H : Hp} {D : List Addr} {M : List (Addr × HO)} {Q : VK} {E : XK} {x : V} {b w' : Int} {rs : List (List Int)} (hS : Sta K G0 H0 D G M H) (hx : Rp K G x (matD A.C_Matrix b w' rs)) (q : Q (.int rs.length) H) : PRK A.C_Matrix (spHeight K A.C_Matrix) [] E Q x H := by
  refine go_prk hx hS.gh fun a ea => ?_
  subst ea
  exact ⟨_, G, b, w', rs, rfl, hS.gh, hx, q⟩
local macro_rules | `(tactic| walk_at "s") => `(tactic| first | ((with_reducible refine' go_height (G := ?G) (b := ?b) (w' := ?w) (rs := ?rs) ?hS ?hx ?_); (case hS => assumption); (case hx => walk_at "rp")) | fail)
def okRs (b : Int) (h w' : Int) (rs : List (List Int)) : Prop := (rs.length : Int) = h ∧ ∀ r ∈ rs, (r.length : Int) = w' ∧ ∀ e ∈ r, 0 ≤ e ∧ e < b
theorem okRs.wm' {b h w' : Int} {rs : List (List Int)} (o : okRs b h w' rs) (hb : isB b = true) (h1 : h ≤ 500) (w0 : 0 ≤ w') (w1 : w' ≤ 500) : WM b w' rs := ⟨okM_iff.mpr ⟨hb, w0, o.2⟩, by have := o.1; omega, by omega⟩
local macro_rules | `(tactic| walk_at "s") => `(tactic| first | ((with_reducible refine' go_height (G := ?G) (b := ?b) (w' := ?w) (rs := ?rs) ?hS ?hx ?_); (case hS => assumption); (case hx => walk_at "rp")) | fail)
local macro_rules | `(tactic| walk_at "s") => `(tactic| first | ((with_reducible refine' go_pr ?hS ?h1 ?h2 ?_); (case hS => assumption); (case h1 => omega); (case h2 => omega); (intro G1 H1 e1 hS1)) | fail)
/-! ### identity, zero -/
def zrF (h w' : Int) : List (List Int) := List.replicate h.toNat (List.replicate w'.toNat 0)
theorem WM.id {b n : Int} (hb : isB b = true) (h0 : 0 ≤ n) (h1 : n ≤ 500) : WM b n (idM n) := by
  refine ⟨okM_iff.mpr ⟨hb, h0, fun r hr => ?_⟩, by simp [idM, mkM]; omega, h1⟩
  obtain ⟨i, _, rfl⟩ := List.mem_map.mp hr
  refine ⟨by simp; omega, fun e he => ?_⟩
  obtain ⟨j, _, rfl⟩ := List.mem_map.mp he
  have := isB_bd hb
  dsimp only
  split <;> omega
theorem WM.zr {b h w' : Int} (hb : isB b = true) (h0 : 0 ≤ h) (h1 : h ≤ 500) (w0 : 0 ≤ w') (w1 : w' ≤ 500) : WM b w' (zrF h w') := by
  refine ⟨okM_iff.mpr ⟨hb, w0, fun r hr => ?_⟩, by simp [zrF]; omega, w1⟩
  rw [(List.mem_replicate.mp hr).2]
  refine ⟨by rw [List.length_replicate]; omega, fun e he => ?_⟩
  have := isB_bd hb
  rw [(List.mem_replicate.mp he).2]
  omega
def spIdent (K : PySem.W.Frag) (C : Addr) : Sp := fun vs H Q _ => ∃ (b n : Int) (G : Hp), vs = [.int b, .int n] ∧ Same G H ∧ isB b = true ∧ 0 ≤ n ∧ n ≤ 500 ∧ ∀ y G1 H1, Adv [] G H G1 H1 → Rp K G1 y (matD C b n (idM n)) → Q y H1
theorem ok_Matrix_identity (T : Txt K mg A) : FnOk P w K mg base CX0 4 A.f_Matrix_identity A.d_Matrix_identity ["base", "size"] (spIdent K A.C_Matrix) := by
  have G_Matrix_init := ok_Matrix_init (P := P) (w := w) (base := base) T
  refine T.F_Matrix_identity.ok sc_Matrix_identity (fun vs H Q E h => by first | (obtain ⟨rfl, _⟩ := h; rfl) | (obtain ⟨_, rfl, _⟩ := h; rfl) | (obtain ⟨_, _, rfl, _⟩ := h; rfl) | (obtain ⟨_, _, _, rfl, _⟩ := h; rfl) | (obtain ⟨_, _, _, _, rfl, _⟩ := h; rfl) | (obtain ⟨_, _, _, _, _, rfl, _⟩ := h; rfl) | (obtain ⟨_, _, _, _, _, _, rfl, _⟩ := h; rfl) | (obtain ⟨_, _, _, _, _, _, _, rfl, _⟩ := h; rfl) | (obtain ⟨_, _, _, _, _, _, _, _, rfl, _⟩ := h; rfl) | (obtain ⟨_, _, _, _, _, _, _, _, _, rfl, _⟩ := h; rfl) | (obtain ⟨_, _, _, _, _, _, _, _, _, _, rfl, _⟩ := h; rfl) | (obtain ⟨_, _, _, _, _, _, _, _, _, _, _, rfl, _⟩ := h; rfl) | (obtain ⟨_, _, _, _, _, _, _, _, _, _, _, _, rfl, _⟩ := h; rfl) | (obtain ⟨_, _, _, _, _, _, _, _, _, _, _, _, _, rfl, _⟩ := h; rfl) | exact wk_len h) (fun cdv AA outer s H vs Q E hr h => ?_)
  obtain ⟨b, n, G, rfl, hG, hb, h0, h1, q⟩ := h
  refine ⟨_, (pss_one (ps_ret (pe_makeS  T.mk_Matrix G_Matrix_init (hr.mono (by first | decide | omega)) (by rfl) T.c_Matrix T.b_Matrix_init (fun σ => passN σ) (pa_cons (pv 0) (pa_cons (pv 1) (pa_cons (pe_lc (own := [("i", 3)]) (g := gName 3) rfl sc_Matrix_identity.nd (pi_range1 (by rfl) T.z_range (pa_cons (pv 1) pa_nil)) (blkOk_by (N := ["base", "size", "j", "i"]) (sc := defScope s_Matrix_identity) (by decide +kernel)) (fun _ _ _ _ _ => pg_name (i := 3) sc_Matrix_identity.nd rfl (by first | exact Or.inl rfl | exact Or.inr rfl)) (fun _ _ _ _ _ => pts_nil) (fun _ _ _ _ _ => (pe_lc (own := [("j", 2)]) (g := gName 2) rfl sc_Matrix_identity.nd (pi_range1 (by rfl) T.z_range (pa_cons (pv 1) pa_nil)) (blkOk_by (by first | kernel_rfl | rfl)) (fun _ _ _ _ _ => pg_name (i := 2) sc_Matrix_identity.nd rfl (by first | exact Or.inl rfl | exact Or.inr rfl)) (fun _ _ _ _ _ => pts_nil) (fun _ _ _ _ _ => (pe_callTy (T := "int") b_int (by rfl) T.z_int (by decide +kernel) (pa_cons (pe_cmpR op_eq (pv 3) (pv 2) (nomark _)) pa_nil)))))) pa_nil)))))), ?_⟩
  try dsimp only [cxOf, Cx.nox, Cx.wish, Cx.blk]
  have hS := Sta.start (K := K) hG
  refine go_start (σ := [some (.int b), some (.int n), none, none]) rfl ?_
  walk_at "go"
  refine lcMapR (F := fun (i : Nat) => wrD false ((List.range n.toNat).map fun j => if i = j then 1 else 0)) (by assumption) (by omega) ?_ ?_
  · intro i L G4 vs es H4 Z hi e4 l0 hS4 hvs fin
    walk_at "go"
    refine lcMapR (F := fun (j : Nat) => .int (if i = j then 1 else 0)) (by assumption) (by omega) ?_ ?_
    · intro j L5 G5 vs5 es5 H5 Z5 hj e5 l5 hS5 hvs5 fin5
      walk_at "go"
      refine fin5 _ _ _ (Same.refl _) (by assumption) ?_
      have : (if decide ((0 : Int) + (i : Int) = 0 + (j : Int)) = true then (1 : Int) else 0) = if i = j then 1 else 0 := by
        by_cases e : i = j
        · simp [e]
        · rw [if_neg e, if_neg (by simp; omega)]
      rw [this]
      exact .int _
    · intro p G5 H5 e5 hS5 hr5
      refine fin _ _ _ e5 hS5 ?_
      simp only [wrD, List.map_map]
      exact hr5
  · intro p G4 H4 e4 hS4 hr4
    walk_at "go"
    refine go_mat (t := false) (rs := idM n) hS4 (by rw [idM, mkM, List.map_map]; exact hr4) (WM.id hb h0 h1) fun y G5 H5 e5 hS5 hy => ?_
    exact q _ _ _ hS5.adv hy
def spZero (K : PySem.W.Frag) (C : Addr) : Sp := fun vs H Q _ => ∃ (b h w' : Int) (G : Hp), vs = [.int b, .int h, .int w'] ∧ Same G H ∧ isB b = true ∧ 0 ≤ h ∧ h ≤ 500 ∧ 0 ≤ w' ∧ w' ≤ 500 ∧ ∀ y G1 H1, Adv [] G H G1 H1 → Rp K G1 y (matD C b w' (zrF h w')) → Q y H1
theorem ok_Matrix_zero (T : Txt K mg A) : FnOk P w K mg base CX0 4 A.f_Matrix_zero A.d_Matrix_zero ["base", "height", "width"] (spZero K A.C_Matrix) := by
  have G_Matrix_init := ok_Matrix_init (P := P) (w := w) (base := base) T
  refine T.F_Matrix_zero.ok sc_Matrix_zero (fun vs H Q E h => by first | (obtain ⟨rfl, _⟩ := h; rfl) | (obtain ⟨_, rfl, _⟩ := h; rfl) | (obtain ⟨_, _, rfl, _⟩ := h; rfl) | (obtain ⟨_, _, _, rfl, _⟩ := h; rfl) | (obtain ⟨_, _, _, _, rfl, _⟩ := h; rfl) | (obtain ⟨_, _, _, _, _, rfl, _⟩ := h; rfl) | (obtain ⟨_, _, _, _, _, _, rfl, _⟩ := h; rfl) | (obtain ⟨_, _, _, _, _, _, _, rfl, _⟩ := h; rfl) | (obtain ⟨_, _, _, _, _, _, _, _, rfl, _⟩ := h; rfl) | (obtain ⟨_, _, _, _, _, _, _, _, _, rfl, _⟩ := h; rfl) | (obtain ⟨_, _, _, _, _, _, _, _, _, _, rfl, _⟩ := h; rfl) | (obtain ⟨_, _, _, _, _, _, _, _, _, _, _, rfl, _⟩ := h; rfl) | (obtain ⟨_, _, _, _, _, _, _, _, _, _, _, _, rfl, _⟩ := h; rfl) | (obtain ⟨_, _, _, _, _, _, _, _, _, _, _, _, _, rfl, _⟩ := h; rfl) | exact wk_len h) (fun cdv AA outer s H vs Q E hr h => ?_)
  obtain ⟨b, hh, w', G, rfl, hG, hb, h0, h1, w0, w1, q⟩ := h
  refine ⟨_, (pss_one (ps_ret (pe_makeS  T.mk_Matrix G_Matrix_init (hr.mono (by first | decide | omega)) (by rfl) T.c_Matrix T.b_Matrix_init (fun σ => passN σ) (pa_cons (pv 0) (pa_cons (pv 2) (pa_cons (pe_lc (own := [("_", 3)]) (g := gName 3) rfl sc_Matrix_zero.nd (pi_range1 (by rfl) T.z_range (pa_cons (pv 1) pa_nil)) (blkOk_by (N := ["base", "height", "width", "_"]) (sc := defScope s_Matrix_zero) (by decide +kernel)) (fun _ _ _ _ _ => pg_name (i := 3) sc_Matrix_zero.nd rfl (by first | exact Or.inl rfl | exact Or.inr rfl)) (fun _ _ _ _ _ => pts_nil) (fun _ _ _ _ _ => (pe_op op_rep (pe_lst (pa_cons pe_int pa_nil)) (pv 2)))) pa_nil)))))), ?_⟩
  try dsimp only [cxOf, Cx.nox, Cx.wish, Cx.blk]
  have hS := Sta.start (K := K) hG
  refine go_start (σ := [some (.int b), some (.int hh), some (.int w'), none]) rfl ?_
  walk_at "go"
  refine lcMapR (F := fun (_ : Nat) => wrD false (List.replicate w'.toNat 0)) (by assumption) (by omega) ?_ ?_
  · intro i L G4 vs es H4 Z hi e4 l0 hS4 hvs fin
    walk_at "go"
    refine go_newR hS4 (by simp) fun p6 G6 H6 e6 hS6 hp6 => ?_
    walk_at "go"
    refine go_repL hS6 hp6 w0 (by omega) (by simp; omega) fun p7 G7 H7 e7 hS7 hp7 => ?_
    rw [rep_ints] at hp7
    exact fin _ _ _ (e6.trans e7) hS7 (raw_l hp7 .ints)
  · intro p G4 H4 e4 hS4 hr4
    walk_at "go"
    refine go_mat (t := false) (rs := zrF hh w') hS4 ?_ (WM.zr hb h0 h1 w0 w1) fun y G5 H5 e5 hS5 hy => ?_
    · have e : (List.range hh.toNat).map (fun (_ : Nat) => wrD false (List.replicate w'.toNat 0)) = (zrF hh w').map (wrD false) := by
        rw [zrF, List.map_replicate, List.map_const', List.length_range]
      rw [← e]
      simpa using hr4
    · exact q _ _ _ hS5.adv hy
theorem go_ident {A : Ad} {G0 H0 G H : Hp} {D : List Addr} {M : List (Addr × HO)} {Q : VK} {E : XK} {b n : Int} (hS : Sta K G0 H0 D G M H) (hb : isB b = true) (h0 : 0 ≤ n) (h1 : n ≤ 500)
    (q : ∀ y G1 H1, Same G G1 → Sta K G0 H0 D G1 M H1 → Rp K G1 y (matD A.C_Matrix b n (idM n)) → Q y H1) : spIdent K A.C_Matrix [.int b, .int n] H Q E :=
  ⟨b, n, G, rfl, hS.gh, hb, h0, h1, fun y G1 H1 ad hy => q y G1 H1 ad.gg (hS.call ad) hy⟩
theorem go_zero {A : Ad} {G0 H0 G H : Hp} {D : List Addr} {M : List (Addr × HO)} {Q : VK} {E : XK} {b h w' : Int} (hS : Sta K G0 H0 D G M H) (hb : isB b = true) (h0 : 0 ≤ h) (h1 : h ≤ 500) (w0 : 0 ≤ w') (w1 : w' ≤ 500)
    (q : ∀ y G1 H1, Same G G1 → Sta K G0 H0 D G1 M H1 → Rp K G1 y (matD A.C_Matrix b w' (zrF h w')) → Q y H1) : spZero K A.C_Matrix [.int b, .int h, .int w'] H Q E :=
  ⟨b, h, w', G, rfl, hS.gh, hb, h0, h1, w0, w1, fun y G1 H1 ad hy => q y G1 H1 ad.gg (hS.call ad) hy⟩
theorem atI_getD {r : List Int} {j : Int} (h0 : 0 ≤ j) (h1 : j < r.length) : atI (r.map Dt.int) j = some (.int (r.getD j.toNat 0)) := by
  obtain ⟨k, rfl⟩ := Int.eq_ofNat_of_zero_le h0
  have hk : k < r.length := by omega
  refine atI_nat ?_
  rw [List.getElem?_map, List.getElem?_eq_getElem hk]
  simp [List.getD, hk]
/-! ### a == b of two matrices -/
theorem eqv_rows : ∀ (as bs : List (List Int)), PyData.eqvAll (toPyL (as.map rowD)) (toPyL (bs.map rowD)) = decide (as = bs)
  | [], [] => by simp [toPyL, PyData.eqvAll]
  | [], b :: bs => by simp [toPyL, PyData.eqvAll]
  | a :: as, [] => by simp [toPyL, PyData.eqvAll]
  | a :: as, b :: bs => by
    have h1 := eqv_rows as bs
    have h2 := eqv_ints a b
    simp only [List.map_cons, toPyL, rowD, toPy, PyData.eqvAll, PyData.eqv, h1, h2]
    rw [Bool.eq_iff_iff]
    simp
theorem okE_rows (rs : List (List Int)) (h : rs.length ≤ 500) (h2 : ∀ r ∈ rs, r.length ≤ 500) : okE 5 (.tup (rs.map rowD)) = true := by
  simp only [okE, List.length_map, Bool.and_eq_true, decide_eq_true_eq, List.all_eq_true]
  refine ⟨by omega, fun d hd => ?_⟩
  obtain ⟨r, hr, rfl⟩ := List.mem_map.mp hd
  simp only [rowD, okE, List.length_map, Bool.and_eq_true, decide_eq_true_eq, List.all_eq_true]
  have := h2 r hr
  refine ⟨by omega, fun d hd => ?_⟩
  obtain ⟨e, _, rfl⟩ := List.mem_map.mp hd
  rfl
theorem go_eqRows {H G : Hp} {Q : VK} {x y : V} {as bs : List (List Int)} (hx : Rp K G x (.tup (as.map rowD))) (hy : Rp K G y (.tup (bs.map rowD))) (e : Same G H) (ha : as.length ≤ 500 ∧ ∀ r ∈ as, r.length ≤ 500) (hb : bs.length ≤ 500 ∧ ∀ r ∈ bs, r.length ≤ 500) (k : Q (.bl (decide (as = bs))) H) : rEqD K x y H Q := by
  have o1 := okE_rows as ha.1 ha.2
  have o2 := okE_rows bs hb.1 hb.2
  refine ⟨_, _, Rp.dp (okE_okD o1) (hx.up e), Rp.dp (okE_okD o2) (hy.up e), shaped_toPy o1 (by decide), shaped_toPy o2 (by decide), ?_⟩
  have : PyData.eqv (toPy (.tup (as.map rowD))) (toPy (.tup (bs.map rowD))) = decide (as = bs) := eqv_rows as bs
  rw [this]
  exact k
def eqM (b w' : Int) (rs : List (List Int)) (b2 w2 : Int) (qs : List (List Int)) : Bool := decide (b = b2) && (decide (w' = w2) && decide (rs = qs))
def spEqM (K : PySem.W.Frag) (C : Addr) : Sp := fun vs H Q _ => ∃ (x y : V) (G : Hp) (b w' : Int) (rs : List (List Int)) (b2 w2 : Int) (qs : List (List Int)), vs = [x, y] ∧ Same G H ∧ Rp K G x (matD C b w' rs) ∧ Rp K G y (matD C b2 w2 qs) ∧ WM b w' rs ∧ WM b2 w2 qs ∧ Q (.bl (eqM b w' rs b2 w2 qs)) H
theorem ok_Matrix_eq (T : Txt K mg A) : FnOk P w K mg base CX0 1 A.f_Matrix_eq A.d_Matrix_eq ["self", "other"] (spEqM K A.C_Matrix) := by
  refine T.F_Matrix_eq.ok sc_Matrix_eq (fun vs H Q E h => by first | (obtain ⟨rfl, _⟩ := h; rfl) | (obtain ⟨_, rfl, _⟩ := h; rfl) | (obtain ⟨_, _, rfl, _⟩ := h; rfl) | (obtain ⟨_, _, _, rfl, _⟩ := h; rfl) | (obtain ⟨_, _, _, _, rfl, _⟩ := h; rfl) | (obtain ⟨_, _, _, _, _, rfl, _⟩ := h; rfl) | (obtain ⟨_, _, _, _, _, _, rfl, _⟩ := h; rfl) | (obtain ⟨_, _, _, _, _, _, _, rfl, _⟩ := h; rfl) | (obtain ⟨_, _, _, _, _, _, _, _, rfl, _⟩ := h; rfl) | (obtain ⟨_, _, _, _, _, _, _, _, _, rfl, _⟩ := h; rfl) | (obtain ⟨_, _, _, _, _, _, _, _, _, _, rfl, _⟩ := h; rfl) | (obtain ⟨_, _, _, _, _, _, _, _, _, _, _, rfl, _⟩ := h; rfl) | (obtain ⟨_, _, _, _, _, _, _, _, _, _, _, _, rfl, _⟩ := h; rfl) | (obtain ⟨_, _, _, _, _, _, _, _, _, _, _, _, _, rfl, _⟩ := h; rfl) | exact wk_len h) (fun cdv AA outer s H vs Q E hr h => ?_)
  obtain ⟨x, y, G, b, w', rs, b2, w2, qs, rfl, hG, hx, hy, ok, ok2, q⟩ := h
  have cl := T.cl_Matrix
  have dc := T.dc_Matrix
  have n1 := T.na_Matrix_base
  have n2 := T.na_Matrix_width
  have n3 := T.na_Matrix_rows
  refine ⟨_, (pss_one (ps_ret (pe_and (pe_callB (id := "isinstance") call_isi (by rfl) T.z_isinstance (by decide +kernel) (pa_cons (pv 1) (pa_cons (pe_glob (v := .ref A.C_Matrix) (by rfl) T.c_Matrix rfl) pa_nil))) (pe_and (pe_cmpR op_eq (pe_fld (pv 0) rfl) (pe_fld (pv 1) rfl) (nomark _)) (pe_and (pe_cmpR op_eq (pe_fld (pv 0) rfl) (pe_fld (pv 1) rfl) (nomark _)) (pe_one (pe_cmpR (op_eqD hr.units) (pe_fld (pv 0) rfl) (pe_fld (pv 1) rfl) (nomark _)))))))), ?_⟩
  try dsimp only [cxOf, Cx.nox, Cx.wish, Cx.blk]
  have hS := Sta.start (K := K) hG
  refine go_start (σ := [some x, some y]) rfl ?_
  walk_at "go"
  refine go_isOwn hS hy cl dc ?_
  walk_at "go"
  · rename_i h1 h2 _ _ _ _
    refine go_eqRows (by assumption) (by assumption) hS.gh ⟨ok.2.1, fun r hr => ok.rl hr⟩ ⟨ok2.2.1, fun r hr => ok2.rl hr⟩ ?_
    have : eqM b w' rs b2 w2 qs = decide (rs = qs) := by simp [eqM, *]
    rw [← this]
    exact q
  · have : eqM b w' rs b2 w2 qs = false := by simp [eqM, *]
    rw [← this]
    exact q
  · have : eqM b w' rs b2 w2 qs = false := by simp [eqM, *]
    rw [← this]
    exact q
/-! ### rows: plain -/
def stD (C : Addr) (s : Int × Int × List (List Int)) : Dt := matD C s.1 s.2.1 s.2.2
def rowF (C : Addr) (b : Int) (dims : List Int) (ss : List (Int × Int × List (List Int))) : List (Str × Dt) := [("base", .int b), ("dims", .tup (dims.map .int)), ("steps", .tup (ss.map (stD C)))]
def okS (b : Int) (dims : List Int) (ss : List (Int × Int × List (List Int))) : Prop := ∀ i s, ss[i]? = some s → s.1 = b ∧ s.2.1 = dims.getD i 0 ∧ (s.2.2.length : Int) = dims.getD (i + 1) 0
def okR (b : Int) (dims : List Int) (ss : List (Int × Int × List (List Int))) : Prop := isB b = true ∧ dims.length = ss.length + 1 ∧ (∀ d ∈ dims, 0 ≤ d) ∧ okS b dims ss
def mkS (b : Int) (dims : List Int) (ms : List (List (List Int))) : List (Int × Int × List (List Int)) := (List.range ms.length).map fun t => (b, dims.getD t 0, ms.getD t [])
def dimF (dims : List Int) (t : Int) : Int := if t < 0 then 0 else dims.getD (min t.toNat (dims.length - 1)) 0
def zrM (h : Int) : List (List Int) := List.replicate h.toNat []
def stepR (dims : List Int) (ms : List (List (List Int))) (t : Int) : List (List Int) := if t < 0 then zrM (dimF dims (t + 1)) else if t < ms.length then ms.getD t.toNat [] else idM (dimF dims t)
def caN (b : Int) (dims : List Int) (ms : List (List (List Int))) (s : Int) : Nat → List (List Int)
  | 0 => idM (dimF dims s)
  | n + 1 => muF b (stepR dims ms (s + n)) (caN b dims ms s n) (dimF dims s)
structure WR (b : Int) (dims : List Int) (ms : List (List (List Int))) : Prop where
  hb : isB b = true
  hl : dims.length = ms.length + 1
  hk : dims.length ≤ 200
  hd : ∀ d ∈ dims, 0 ≤ d ∧ d ≤ 200
  hs : ∀ i m, ms[i]? = some m → okRs b (dims.getD (i + 1) 0) (dims.getD i 0) m
theorem WM.rs {b w' : Int} {rs : List (List Int)} (h : WM b w' rs) : okRs b rs.length w' rs := ⟨rfl, fun r hr => h.row hr⟩
theorem okRs.row {b h w' : Int} {rs : List (List Int)} (o : okRs b h w' rs) {i : Nat} (hi : i < rs.length) : ((rs.getD i []).length : Int) = w' ∧ ∀ e ∈ rs.getD i [], 0 ≤ e ∧ e < b := by
  have e1 : rs.getD i [] = rs[i] := by simp [hi]
  rw [e1]
  exact o.2 _ (List.getElem_mem hi)
theorem okRs.ent {b h w' : Int} {rs : List (List Int)} (o : okRs b h w' rs) {i j : Nat} (hi : i < rs.length) (hj : j < w'.toNat) : 0 ≤ ent rs i j ∧ ent rs i j < b := by
  have h1 := o.row hi
  have hjl : j < (rs.getD i []).length := by omega
  have e2 : (rs.getD i []).getD j 0 = (rs.getD i [])[j] := by rw [List.getD, List.getElem?_eq_getElem hjl]; rfl
  unfold B.ent
  rw [e2]
  exact h1.2 _ (List.getElem_mem hjl)
theorem okRs.mu {b h n w' : Int} {rs qs : List (List Int)} (hb : 0 < b) (o : okRs b h n rs) (w0 : 0 ≤ w') : okRs b h w' (muF b rs qs w') := by
  refine ⟨by rw [muF_len]; exact o.1, fun r hr => ⟨by have := mkM_row hr; omega, fun e he => ?_⟩⟩
  obtain ⟨i, j, _, _, rfl⟩ := mkM_mem hr he
  exact ⟨Int.emod_nonneg _ (by omega), Int.emod_lt_of_pos _ (by omega)⟩
theorem okRs.id {b n : Int} (hb : 2 ≤ b) (h0 : 0 ≤ n) : okRs b n n (idM n) := by
  refine ⟨by rw [idM, mkM_len]; omega, fun r hr => ⟨by have := mkM_row hr; omega, fun e he => ?_⟩⟩
  obtain ⟨i, j, _, _, rfl⟩ := mkM_mem hr he
  split <;> omega
theorem okRs.zr {b h : Int} (h0 : 0 ≤ h) : okRs b h 0 (zrM h) := by
  refine ⟨by rw [zrM, List.length_replicate]; omega, fun r hr => ?_⟩
  rw [zrM] at hr
  rw [(List.mem_replicate.mp hr).2]
  exact ⟨rfl, fun e he => by cases he⟩
theorem okRs.zr_eq {b h : Int} {rs : List (List Int)} (o : okRs b h 0 rs) : rs = zrM h := by
  have := o.1
  unfold zrM
  refine List.eq_replicate_iff.mpr ⟨by omega, fun r hr => ?_⟩
  have := (o.2 r hr).1
  exact List.eq_nil_of_length_eq_zero (by omega)
section
variable {b : Int} {dims : List Int} {ms : List (List (List Int))}
theorem WR.bd (h : WR b dims ms) : 2 ≤ b ∧ b ≤ 97 := isB_bd h.hb
theorem WR.d0 (h : WR b dims ms) (t : Int) : 0 ≤ dimF dims t ∧ dimF dims t ≤ 200 := by
  unfold dimF
  split
  · omega
  · have hl := h.hl
    have hi : min t.toNat (dims.length - 1) < dims.length := by omega
    rw [List.getD, List.getElem?_eq_getElem hi]
    exact h.hd _ (List.getElem_mem hi)
theorem dimF_at {t : Nat} (h : t < dims.length) : dimF dims t = dims.getD t 0 := by
  unfold dimF
  rw [if_neg (by omega)]
  congr 1
  omega
theorem dimF_last {t : Int} (h : (dims.length : Int) - 1 ≤ t) (hn : 0 < dims.length) : dimF dims t = dims.getD (dims.length - 1) 0 := by
  unfold dimF
  rw [if_neg (by omega)]
  congr 1
  omega
theorem WR.st (h : WR b dims ms) (t : Int) : okRs b (dimF dims (t + 1)) (dimF dims t) (stepR dims ms t) := by
  have hl := h.hl
  have hb := h.bd
  unfold stepR
  split
  · rename_i ht
    have : dimF dims t = 0 := by unfold dimF; rw [if_pos ht]
    rw [this]
    exact okRs.zr (h.d0 _).1
  · split
    · rename_i h0 h1
      obtain ⟨k, rfl⟩ := Int.eq_ofNat_of_zero_le (show 0 ≤ t by omega)
      have hk : k < ms.length := by omega
      have e := h.hs k ms[k] (List.getElem?_eq_getElem hk)
      have e1 : ((k : Int) + 1) = ((k + 1 : Nat) : Int) := rfl
      rw [e1, dimF_at (t := k + 1) (by omega), dimF_at (t := k) (by omega), Int.toNat_natCast]
      have : ms.getD k [] = ms[k] := by simp [hk]
      rw [this]
      exact e
    · rename_i h0 h1
      have e1 : dimF dims (t + 1) = dimF dims t := by rw [dimF_last (by omega) (by omega), dimF_last (by omega) (by omega)]
      rw [e1]
      exact okRs.id hb.1 (h.d0 _).1
theorem WR.ca (h : WR b dims ms) (s : Int) : ∀ n : Nat, okRs b (dimF dims (s + n)) (dimF dims s) (caN b dims ms s n)
  | 0 => by
    have : s + ((0 : Nat) : Int) = s := by omega
    rw [this]
    exact okRs.id h.bd.1 (h.d0 s).1
  | n + 1 => by
    have e : s + ((n + 1 : Nat) : Int) = s + n + 1 := by omega
    rw [e]
    exact (h.st (s + n)).mu (by have := h.bd; omega) (h.d0 s).1
theorem WR.caId (h : WR b dims ms) {s : Int} {n : Nat} (hn : (ms.length : Int) ≤ s + n) (hs : 0 ≤ s + n) : caN b dims ms s (n + 1) = caN b dims ms s n := by
  have hl := h.hl
  show muF b (stepR dims ms (s + n)) (caN b dims ms s n) (dimF dims s) = _
  have e : stepR dims ms (s + n) = idM (dimF dims (s + n)) := by
    unfold stepR
    rw [if_neg (by omega), if_neg (by omega)]
  have o := h.ca s n
  have d1 := (h.d0 (s + n)).1
  have d2 := (h.d0 s).1
  rw [e]
  exact muF_id (by have := o.1; omega) (fun i j hi hj => o.ent hi (by omega)) (fun r hr => by have := (o.2 r hr).1; omega)
theorem WR.caEnd (h : WR b dims ms) {s : Int} {n : Nat} (hn : (ms.length : Int) ≤ s + n) (hs : 0 ≤ s + n) : ∀ k : Nat, caN b dims ms s (n + k) = caN b dims ms s n
  | 0 => rfl
  | k + 1 => by
    rw [← WR.caEnd h hn hs k]
    exact h.caId (s := s) (n := n + k) (by omega) (by omega)
theorem WR.caAdd (h : WR b dims ms) (s : Int) (n : Nat) : ∀ k : Nat, muF b (caN b dims ms (s + n) k) (caN b dims ms s n) (dimF dims s) = caN b dims ms s (n + k)
  | 0 => by
    have o := h.ca s n
    have d1 := (h.d0 (s + n)).1
    have d2 := (h.d0 s).1
    show muF b (idM (dimF dims (s + n))) _ _ = caN b dims ms s n
    exact muF_id (by have := o.1; omega) (fun i j hi hj => o.ent hi (by omega)) (fun r hr => by have := (o.2 r hr).1; omega)
  | k + 1 => by
    have o := h.ca s n
    have d1 := (h.d0 (s + n)).1
    show muF b (muF b (stepR dims ms (s + n + k)) (caN b dims ms (s + n) k) (dimF dims (s + n))) (caN b dims ms s n) (dimF dims s) = muF b (stepR dims ms (s + ((n + k : Nat) : Int))) (caN b dims ms s (n + k)) (dimF dims s)
    rw [muF_assoc (Nat.le_refl _) (by have := o.1; omega), WR.caAdd h s n k]
    have e : s + ((n + k : Nat) : Int) = s + n + k := by omega
    rw [e]
theorem WR.len (h : WR b dims ms) : (mkS b dims ms).length = ms.length := by simp [mkS]
theorem mkS_get {t : Nat} (ht : t < ms.length) : (mkS b dims ms)[t]? = some (b, dims.getD t 0, ms.getD t []) := by
  rw [mkS, List.getElem?_map, List.getElem?_range ht]
  rfl
theorem okR_mkS {ss : List (Int × Int × List (List Int))} (h : okR b dims ss) : ss = mkS b dims (ss.map fun s => s.2.2) := by
  apply List.ext_getElem
  · simp [mkS]
  · intro i hi hi'
    have := h.2.2.2 i ss[i] (List.getElem?_eq_getElem hi)
    simp only [mkS, List.getElem_map, List.getElem_range]
    have e : (ss.map fun s => s.2.2).getD i [] = ss[i].2.2 := by simp [hi]
    rw [e, ← this.1, ← this.2.1]
theorem WR.ok (h : WR b dims ms) : okR b dims (mkS b dims ms) := by
  refine ⟨h.hb, by rw [h.len]; exact h.hl, fun d hd => (h.hd d hd).1, fun i s e => ?_⟩
  have hi : i < ms.length := by
    have := (List.getElem?_eq_some_iff.mp e).1
    rwa [h.len] at this
  rw [mkS_get hi] at e
  cases e
  have := h.hs i ms[i] (List.getElem?_eq_getElem hi)
  have e2 : ms.getD i [] = ms[i] := by simp [hi]
  exact ⟨rfl, rfl, by show ((ms.getD i []).length : Int) = _; rw [e2]; exact this.1⟩
theorem WR.wm (h : WR b dims ms) {s : Int × Int × List (List Int)} (hs : s ∈ mkS b dims ms) : WM s.1 s.2.1 s.2.2 := by
  obtain ⟨i, hi⟩ := List.mem_iff_getElem?.mp hs
  have hi2 : i < ms.length := by
    have := (List.getElem?_eq_some_iff.mp hi).1
    rwa [h.len] at this
  rw [mkS_get hi2] at hi
  cases hi
  have hl := h.hl
  have := h.hs i ms[i] (List.getElem?_eq_getElem hi2)
  have e2 : ms.getD i [] = ms[i] := by simp [hi2]
  have d1 := h.d0 i
  have d2 := h.d0 ((i + 1 : Nat) : Int)
  rw [dimF_at (by omega)] at d1 d2
  show WM b (dims.getD i 0) (ms.getD i [])
  rw [e2]
  exact this.wm' h.hb (by omega) d1.1 (by omega)
theorem WR.wst (h : WR b dims ms) (t : Int) : WM b (dimF dims t) (stepR dims ms t) := (h.st t).wm' h.hb (by have := h.d0 (t + 1); omega) (h.d0 t).1 (by have := h.d0 t; omega)
theorem WR.wca (h : WR b dims ms) (s : Int) (n : Nat) : WM b (dimF dims s) (caN b dims ms s n) := (h.ca s n).wm' h.hb (by have := h.d0 (s + n); omega) (h.d0 s).1 (by have := h.d0 s; omega)
end
theorem mkS_ms {b : Int} {dims : List Int} {ms : List (List (List Int))} : ((mkS b dims ms).map fun s => s.2.2) = ms := by
  apply List.ext_getElem
  · simp [mkS]
  · intro i hi hi'
    simp [mkS, List.getD, hi']
/-! ### rows: the class -/
def seqD (t : Bool) (ds : List Dt) : Dt := if t then .tup ds else .lst ds
def kdR (t u : Bool) : Bool := true
def spCheck (K : PySem.W.Frag) (C Xi : Addr) : Sp := fun vs H Q E => ∃ (b : Int) (dv sv : V) (dims : List Int) (ss : List (Int × Int × List (List Int))) (t u : Bool) (G : Hp), vs = [.int b, dv, sv] ∧ kdR t u = true ∧ Same G H ∧ Rp K G dv (seqD t (dims.map .int)) ∧ Rp K G sv (seqD u (ss.map (stD C))) ∧ dims.length ≤ 1000 ∧ ss.length ≤ 1000 ∧ (∀ s ∈ ss, WM s.1 s.2.1 s.2.2) ∧
  (okR b dims ss → ∀ G1 H1, Adv [] G H G1 H1 → Q .non H1) ∧ (¬ okR b dims ss → ∀ G1 H1, Adv [] G H G1 H1 → E (.ref Xi) none H1)
theorem ok_check_steps (T : Txt K mg A) : FnOk P w K mg base (L2.CX P w) 3 A.f_check_steps A.d_check_steps ["base", "dims", "steps"] (spCheck K A.C_Matrix A.C_InvalidRow) := by
  have G_Matrix_height := ok_Matrix_height (P := P) (w := w) (base := base) T
  have G_is_base := ok_is_base (P := P) (w := w) (base := base) T
  refine T.F_check_steps.okX sc_check_steps (fun vs H Q E h => by first | (obtain ⟨rfl, _⟩ := h; rfl) | (obtain ⟨_, rfl, _⟩ := h; rfl) | (obtain ⟨_, _, rfl, _⟩ := h; rfl) | (obtain ⟨_, _, _, rfl, _⟩ := h; rfl) | (obtain ⟨_, _, _, _, rfl, _⟩ := h; rfl) | (obtain ⟨_, _, _, _, _, rfl, _⟩ := h; rfl) | (obtain ⟨_, _, _, _, _, _, rfl, _⟩ := h; rfl) | (obtain ⟨_, _, _, _, _, _, _, rfl, _⟩ := h; rfl) | (obtain ⟨_, _, _, _, _, _, _, _, rfl, _⟩ := h; rfl) | (obtain ⟨_, _, _, _, _, _, _, _, _, rfl, _⟩ := h; rfl) | (obtain ⟨_, _, _, _, _, _, _, _, _, _, rfl, _⟩ := h; rfl) | (obtain ⟨_, _, _, _, _, _, _, _, _, _, _, rfl, _⟩ := h; rfl) | (obtain ⟨_, _, _, _, _, _, _, _, _, _, _, _, rfl, _⟩ := h; rfl) | (obtain ⟨_, _, _, _, _, _, _, _, _, _, _, _, _, rfl, _⟩ := h; rfl) | exact wk_len h) (fun cdv AA outer s H vs Q E hr h => ?_)
  obtain ⟨b, dv, sv, dims, ss, t, u, G, rfl, hk, hG, hdv, hsv, hl1, hl2, hwm, q, qE⟩ := h
  have cl := T.cl_Matrix
  have n1 := T.na_Matrix_base
  have n2 := T.na_Matrix_width
  have n3 := T.na_Matrix_rows
  cases t <;> cases u
  case false.false =>
    refine ⟨_, (pss_cons (ps_if (PW.pt (pw_or (pt_not (pt_val (pe_call G_is_base (hr.mono (by first | decide | omega)) (by rfl) T.m_is_base T.F_is_base.kp T.b_is_base .nil pass0 (pa_cons (pv 0) pa_nil)))) (pw_or (pt_cmpR op_lt (pe_callB (id := "len") b_len (by rfl) T.z_len (by decide +kernel) (pa_cons (pv 1) pa_nil)) pe_int (nomark _)) (pw_or1 (pt_cmpR op_ne (pe_callB (id := "len") b_len (by rfl) T.z_len (by decide +kernel) (pa_cons (pv 2) pa_nil)) (pe_op op_sub (pe_callB (id := "len") b_len (by rfl) T.z_len (by decide +kernel) (pa_cons (pv 1) pa_nil)) pe_int) (nomark _)))))) (pss_one (ps_raise rfl (takes_of rfl rfl rfl rfl) (pmk_x T.x_InvalidRow T.c_InvalidRow (by rfl)))) pss_nil)
        (pss_cons (ps_if (pt_not (pt_val (pe_callB (id := "all") (cr_all rfl) (by rfl) T.z_all (by decide +kernel) (pa_cons (pe_lc (own := [("dim", 5)]) (g := gName 5) rfl sc_check_steps.nd (pi_list (pv 1)) (blkOk_by (N := ["base", "dims", "steps", "time", "step", "dim"]) (sc := defScope s_check_steps) (by decide +kernel)) (fun _ _ _ _ _ => pg_name (i := 5) sc_check_steps.nd rfl (by first | exact Or.inl rfl | exact Or.inr rfl)) (fun _ _ _ _ _ => pts_nil) (fun _ _ _ _ _ => (pe_cmpR op_ge (pv 5) pe_int (nomark _)))) pa_nil)))) (pss_one (ps_raise rfl (takes_of rfl rfl rfl rfl) (pmk_x T.x_InvalidRow T.c_InvalidRow (by rfl)))) pss_nil)
        (pss_one (ps_for (passes_of rfl) rfl (pi_enumA (by rfl) T.z_enumerate (pa_cons (pv 2) pa_nil)) (pg_tup (by rfl) (pgs_cons (pg_name (i := 3) sc_check_steps.nd rfl (by first | exact Or.inl rfl | exact Or.inr rfl)) (pgs_cons (pg_name (i := 4) sc_check_steps.nd rfl (by first | exact Or.inl rfl | exact Or.inr rfl)) pgs_nil))) (pss_one (ps_if (pt_cmpR (op_neD hr.units) (pe_tup (pa_cons (pe_fld (pv 4) rfl) (pa_cons (pe_fld (pv 4) rfl) (pa_cons (pe_prop (E := fun _ _ _ => False) (pv 4) T.cl_Matrix T.pr_Matrix_height.choose_spec G_Matrix_height (hr.mono (by first | decide | omega)) T.b_Matrix_height .nil pass0 rfl) pa_nil)))) (pe_tup (pa_cons (pv 0) (pa_cons (pe_ix ix_seq (pv 1) (pv 3) (fun _ _ => rfl)) (pa_cons (pe_ix ix_seq (pv 1) (pe_op op_add (pv 3) pe_int) (fun _ _ => rfl)) pa_nil)))) (nomark _)) (pss_one (ps_raise rfl (takes_of rfl rfl rfl rfl) (pmk_x T.x_InvalidRow T.c_InvalidRow (by rfl)))) pss_nil)))))), ?_⟩
    try dsimp only [cxOf, Cx.nox, Cx.wish, Cx.blk]
    have hS := Sta.start (K := K) hG
    have hdv' : Rp K G dv (.lst (dims.map .int)) := hdv
    have hsv' : Rp K G sv (.lst (ss.map (stD A.C_Matrix))) := hsv
    obtain ⟨da, dxs, rfl, hds, hda⟩ := Rp.lst_inv hdv'
    refine go_start (σ := [some (.int b), some (.ref da), some sv, none, none, none]) rfl ?_
    have raised : ∀ G1 H1, ¬ okR b dims ss → Sta K G H [] G1 [] H1 → E (.ref A.C_InvalidRow) none H1 := fun G1 H1 e s => qE e G1 H1 s.adv
    walk_at "go"
    refine go_iteBN (fun hb => ?_) (fun hb => ?_)
    · walk_at "go"
      exact raised _ _ (fun e => by rw [e.1] at hb; cases hb) (by assumption)
    walk_at "go"
    · exact raised _ _ (fun e => by have := e.2.1; simp only [List.length_map] at *; omega) (by assumption)
    · exact raised _ _ (fun e => by have := e.2.1; simp only [List.length_map] at *; omega) (by assumption)
    have hlen : dims.length = ss.length + 1 := by simp only [List.length_map] at *; omega
    refine lcMapL (Da := .int) (F := fun e => .bl (decide (0 ≤ e))) (as := dims) (by assumption) (by walk_at "rp") (by walk_at "rp") (by omega) ?_ ?_
    · intro z c L G4 vs es H4 Z hc hz e4 l0 hS4 hvs fin
      cases Rp.int_inv hz
      walk_at "go"
      exact fin _ _ _ (Same.refl _) (by assumption) (.bl _)
    intro p G4 H4 e4 hS4 hr4
    walk_at "go"
    refine go_all (G := G4) (bs := dims.map fun e => decide (0 ≤ e)) (by rw [List.map_map]; exact hr4) hS4.gh ?_
    walk_at "go"
    refine go_iteBN (fun ha => ?_) (fun ha => ?_)
    · walk_at "go"
      refine raised _ _ (fun e => ?_) (by assumption)
      have : (dims.map fun e => decide (0 ≤ e)).all id = true := List.all_eq_true.mpr fun z hz => by
        obtain ⟨d, hd, rfl⟩ := List.mem_map.mp hz
        simpa using e.2.2.1 d hd
      rw [this] at ha
      cases ha
    have hpos : ∀ d ∈ dims, 0 ≤ d := fun d hd => by
      have := List.all_eq_true.mp ha (decide (0 ≤ d)) (List.mem_map.mpr ⟨d, hd, rfl⟩)
      simpa using this
    walk_at "go"
    have hsv4 : Rp K G4 sv (.lst (ss.map (stD A.C_Matrix))) := by walk_at "rp"
    walk_at "go"
    refine go_etkL (G := G4) (ds := ss.map (stD A.C_Matrix)) hsv4 hS4.gh fun a xs ea hq hr => ?_
    subst ea
    refine forE hS4 hq hr (fun i σ _ M => M = [] ∧ (∀ k s, k < i → ss[k]? = some s → s.1 = b ∧ s.2.1 = dims.getD k 0 ∧ (s.2.2.length : Int) = dims.getD (k + 1) 0) ∧ ∃ u3 u4, σ = [some (.int b), some (.ref da), some (.ref a), u3, u4, none]) ⟨rfl, fun k s hk => absurd hk (Nat.not_lt_zero _), _, _, rfl⟩ ?_ ?_
    · rintro i x d σ G5 M5 H5 hi hd e5 hS5 hx ⟨gw, ew, rfl, hok, u3, u4, rfl⟩ σ2 eσ
      subst eσ
      clear ew
      have hi' : i < ss.length := by simpa using hi
      rw [List.getElem?_map, List.getElem?_eq_getElem hi'] at hd
      cases hd
      have hx' : Rp K G5 x (matD A.C_Matrix ss[i].1 ss[i].2.1 ss[i].2.2) := hx
      have hdv5 : Rp K G5 (.ref da) (.lst (dims.map .int)) := by walk_at "rp"
      walk_at "go"
      rename_i p7 G7 H7 e7 hS7 hr7
      refine go_ixB (d := .int (dims.getD i 0)) (hdv5.up e7) hS7.gh (by have := atI_getD (r := dims) (j := (i : Int)) (by omega) (by omega); simpa using this) fun v hv => ?_
      cases Rp.int_inv hv
      walk_at "go"
      refine go_ixB (d := .int (dims.getD (i + 1) 0)) (hdv5.up e7) hS7.gh (by have := atI_getD (r := dims) (j := ((i + 1 : Nat) : Int)) (by omega) (by omega); simpa using this) fun v hv => ?_
      cases Rp.int_inv hv
      walk_at "go"
      refine' go_neTI (as := [ss[i].1, ss[i].2.1, (ss[i].2.2.length : Int)]) (bs := [b, dims.getD i 0, dims.getD (i + 1) 0]) ?hx ?hy ?e ?ha ?hb ?_
      case e => exact Sta.gh (by assumption)
      case hx =>
        show Rp K _ _ (.tup [.int ss[i].1, .int ss[i].2.1, .int ss[i].2.2.length])
        walk_at "rp"
      case hy =>
        show Rp K _ _ (.tup [.int b, .int (dims.getD i 0), .int (dims.getD (i + 1) 0)])
        walk_at "rp"
      case ha => simp
      case hb => simp
      walk_at "go"
      · refine raised _ _ (fun e => ?_) (by assumption)
        have := e.2.2.2 i ss[i] (List.getElem?_eq_getElem hi')
        have nn : ¬ [ss[i].1, ss[i].2.1, (ss[i].2.2.length : Int)] = [b, dims.getD i 0, dims.getD (i + 1) 0] := by assumption
        exact nn (by rw [this.1, this.2.1, this.2.2])
      · have nn : [ss[i].1, ss[i].2.1, (ss[i].2.2.length : Int)] = [b, dims.getD i 0, dims.getD (i + 1) 0] := by assumption
        refine Nx.mk (by assumption) (by walk_at "sm") ⟨rfl, fun k s hk he => ?_, _, _, rfl⟩
        by_cases ek : k = i
        · subst ek
          rw [List.getElem?_eq_getElem hi'] at he
          cases he
          simp only [List.cons.injEq, and_true] at nn
          exact nn
        · exact hok k s (by omega) he
    · rintro σ G5 M5 H5 e5 hS5 ⟨rfl, hok, u3, u4, rfl⟩
      walk_at "go"
      refine q ⟨?_, hlen, hpos, fun k s he => hok k s ?_ he⟩ _ _ hS5.adv
      · exact hb
      · have := (List.getElem?_eq_some_iff.mp he).1
        rw [List.length_map]
        exact this
  case false.true =>
    refine ⟨_, (pss_cons (ps_if (PW.pt (pw_or (pt_not (pt_val (pe_call G_is_base (hr.mono (by first | decide | omega)) (by rfl) T.m_is_base T.F_is_base.kp T.b_is_base .nil pass0 (pa_cons (pv 0) pa_nil)))) (pw_or (pt_cmpR op_lt (pe_callB (id := "len") b_len (by rfl) T.z_len (by decide +kernel) (pa_cons (pv 1) pa_nil)) pe_int (nomark _)) (pw_or1 (pt_cmpR op_ne (pe_callB (id := "len") b_len (by rfl) T.z_len (by decide +kernel) (pa_cons (pv 2) pa_nil)) (pe_op op_sub (pe_callB (id := "len") b_len (by rfl) T.z_len (by decide +kernel) (pa_cons (pv 1) pa_nil)) pe_int) (nomark _)))))) (pss_one (ps_raise rfl (takes_of rfl rfl rfl rfl) (pmk_x T.x_InvalidRow T.c_InvalidRow (by rfl)))) pss_nil)
        (pss_cons (ps_if (pt_not (pt_val (pe_callB (id := "all") (cr_all rfl) (by rfl) T.z_all (by decide +kernel) (pa_cons (pe_lc (own := [("dim", 5)]) (g := gName 5) rfl sc_check_steps.nd (pi_list (pv 1)) (blkOk_by (N := ["base", "dims", "steps", "time", "step", "dim"]) (sc := defScope s_check_steps) (by decide +kernel)) (fun _ _ _ _ _ => pg_name (i := 5) sc_check_steps.nd rfl (by first | exact Or.inl rfl | exact Or.inr rfl)) (fun _ _ _ _ _ => pts_nil) (fun _ _ _ _ _ => (pe_cmpR op_ge (pv 5) pe_int (nomark _)))) pa_nil)))) (pss_one (ps_raise rfl (takes_of rfl rfl rfl rfl) (pmk_x T.x_InvalidRow T.c_InvalidRow (by rfl)))) pss_nil)
        (pss_one (ps_for (passes_of rfl) rfl (pi_enumA (by rfl) T.z_enumerate (pa_cons (pv 2) pa_nil)) (pg_tup (by rfl) (pgs_cons (pg_name (i := 3) sc_check_steps.nd rfl (by first | exact Or.inl rfl | exact Or.inr rfl)) (pgs_cons (pg_name (i := 4) sc_check_steps.nd rfl (by first | exact Or.inl rfl | exact Or.inr rfl)) pgs_nil))) (pss_one (ps_if (pt_cmpR (op_neD hr.units) (pe_tup (pa_cons (pe_fld (pv 4) rfl) (pa_cons (pe_fld (pv 4) rfl) (pa_cons (pe_prop (E := fun _ _ _ => False) (pv 4) T.cl_Matrix T.pr_Matrix_height.choose_spec G_Matrix_height (hr.mono (by first | decide | omega)) T.b_Matrix_height .nil pass0 rfl) pa_nil)))) (pe_tup (pa_cons (pv 0) (pa_cons (pe_ix ix_seq (pv 1) (pv 3) (fun _ _ => rfl)) (pa_cons (pe_ix ix_seq (pv 1) (pe_op op_add (pv 3) pe_int) (fun _ _ => rfl)) pa_nil)))) (nomark _)) (pss_one (ps_raise rfl (takes_of rfl rfl rfl rfl) (pmk_x T.x_InvalidRow T.c_InvalidRow (by rfl)))) pss_nil)))))), ?_⟩
    try dsimp only [cxOf, Cx.nox, Cx.wish, Cx.blk]
    have hS := Sta.start (K := K) hG
    have hdv' : Rp K G dv (.lst (dims.map .int)) := hdv
    have hsv' : Rp K G sv (.tup (ss.map (stD A.C_Matrix))) := hsv
    obtain ⟨da, dxs, rfl, hds, hda⟩ := Rp.lst_inv hdv'
    refine go_start (σ := [some (.int b), some (.ref da), some sv, none, none, none]) rfl ?_
    have raised : ∀ G1 H1, ¬ okR b dims ss → Sta K G H [] G1 [] H1 → E (.ref A.C_InvalidRow) none H1 := fun G1 H1 e s => qE e G1 H1 s.adv
    walk_at "go"
    refine go_iteBN (fun hb => ?_) (fun hb => ?_)
    · walk_at "go"
      exact raised _ _ (fun e => by rw [e.1] at hb; cases hb) (by assumption)
    walk_at "go"
    · exact raised _ _ (fun e => by have := e.2.1; simp only [List.length_map] at *; omega) (by assumption)
    · exact raised _ _ (fun e => by have := e.2.1; simp only [List.length_map] at *; omega) (by assumption)
    have hlen : dims.length = ss.length + 1 := by simp only [List.length_map] at *; omega
    refine lcMapL (Da := .int) (F := fun e => .bl (decide (0 ≤ e))) (as := dims) (by assumption) (by walk_at "rp") (by walk_at "rp") (by omega) ?_ ?_
    · intro z c L G4 vs es H4 Z hc hz e4 l0 hS4 hvs fin
      cases Rp.int_inv hz
      walk_at "go"
      exact fin _ _ _ (Same.refl _) (by assumption) (.bl _)
    intro p G4 H4 e4 hS4 hr4
    walk_at "go"
    refine go_all (G := G4) (bs := dims.map fun e => decide (0 ≤ e)) (by rw [List.map_map]; exact hr4) hS4.gh ?_
    walk_at "go"
    refine go_iteBN (fun ha => ?_) (fun ha => ?_)
    · walk_at "go"
      refine raised _ _ (fun e => ?_) (by assumption)
      have : (dims.map fun e => decide (0 ≤ e)).all id = true := List.all_eq_true.mpr fun z hz => by
        obtain ⟨d, hd, rfl⟩ := List.mem_map.mp hz
        simpa using e.2.2.1 d hd
      rw [this] at ha
      cases ha
    have hpos : ∀ d ∈ dims, 0 ≤ d := fun d hd => by
      have := List.all_eq_true.mp ha (decide (0 ≤ d)) (List.mem_map.mpr ⟨d, hd, rfl⟩)
      simpa using this
    walk_at "go"
    have hsv4 : Rp K G4 sv (.tup (ss.map (stD A.C_Matrix))) := by walk_at "rp"
    walk_at "go"
    refine go_etkT (G := G4) (ds := ss.map (stD A.C_Matrix)) hsv4 hS4.gh fun a xs ea hq hr => ?_
    subst ea
    refine forET hS4 hq hr (fun i σ _ M => M = [] ∧ (∀ k s, k < i → ss[k]? = some s → s.1 = b ∧ s.2.1 = dims.getD k 0 ∧ (s.2.2.length : Int) = dims.getD (k + 1) 0) ∧ ∃ u3 u4, σ = [some (.int b), some (.ref da), some (.ref a), u3, u4, none]) ⟨rfl, fun k s hk => absurd hk (Nat.not_lt_zero _), _, _, rfl⟩ ?_ ?_
    · rintro i x d σ G5 M5 H5 hi hd e5 hS5 hx ⟨gw, ew, rfl, hok, u3, u4, rfl⟩ σ2 eσ
      subst eσ
      clear ew
      have hi' : i < ss.length := by simpa using hi
      rw [List.getElem?_map, List.getElem?_eq_getElem hi'] at hd
      cases hd
      have hx' : Rp K G5 x (matD A.C_Matrix ss[i].1 ss[i].2.1 ss[i].2.2) := hx
      have hdv5 : Rp K G5 (.ref da) (.lst (dims.map .int)) := by walk_at "rp"
      walk_at "go"
      rename_i p7 G7 H7 e7 hS7 hr7
      refine go_ixB (d := .int (dims.getD i 0)) (hdv5.up e7) hS7.gh (by have := atI_getD (r := dims) (j := (i : Int)) (by omega) (by omega); simpa using this) fun v hv => ?_
      cases Rp.int_inv hv
      walk_at "go"
      refine go_ixB (d := .int (dims.getD (i + 1) 0)) (hdv5.up e7) hS7.gh (by have := atI_getD (r := dims) (j := ((i + 1 : Nat) : Int)) (by omega) (by omega); simpa using this) fun v hv => ?_
      cases Rp.int_inv hv
      walk_at "go"
      refine' go_neTI (as := [ss[i].1, ss[i].2.1, (ss[i].2.2.length : Int)]) (bs := [b, dims.getD i 0, dims.getD (i + 1) 0]) ?hx ?hy ?e ?ha ?hb ?_
      case e => exact Sta.gh (by assumption)
      case hx =>
        show Rp K _ _ (.tup [.int ss[i].1, .int ss[i].2.1, .int ss[i].2.2.length])
        walk_at "rp"
      case hy =>
        show Rp K _ _ (.tup [.int b, .int (dims.getD i 0), .int (dims.getD (i + 1) 0)])
        walk_at "rp"
      case ha => simp
      case hb => simp
      walk_at "go"
      · refine raised _ _ (fun e => ?_) (by assumption)
        have := e.2.2.2 i ss[i] (List.getElem?_eq_getElem hi')
        have nn : ¬ [ss[i].1, ss[i].2.1, (ss[i].2.2.length : Int)] = [b, dims.getD i 0, dims.getD (i + 1) 0] := by assumption
        exact nn (by rw [this.1, this.2.1, this.2.2])
      · have nn : [ss[i].1, ss[i].2.1, (ss[i].2.2.length : Int)] = [b, dims.getD i 0, dims.getD (i + 1) 0] := by assumption
        refine Nx.mk (by assumption) (by walk_at "sm") ⟨rfl, fun k s hk he => ?_, _, _, rfl⟩
        by_cases ek : k = i
        · subst ek
          rw [List.getElem?_eq_getElem hi'] at he
          cases he
          simp only [List.cons.injEq, and_true] at nn
          exact nn
        · exact hok k s (by omega) he
    · rintro σ G5 M5 H5 e5 hS5 ⟨rfl, hok, u3, u4, rfl⟩
      walk_at "go"
      refine q ⟨?_, hlen, hpos, fun k s he => hok k s ?_ he⟩ _ _ hS5.adv
      · exact hb
      · have := (List.getElem?_eq_some_iff.mp he).1
        rw [List.length_map]
        exact this
  case true.false =>
    refine ⟨_, (pss_cons (ps_if (PW.pt (pw_or (pt_not (pt_val (pe_call G_is_base (hr.mono (by first | decide | omega)) (by rfl) T.m_is_base T.F_is_base.kp T.b_is_base .nil pass0 (pa_cons (pv 0) pa_nil)))) (pw_or (pt_cmpR op_lt (pe_callB (id := "len") b_len (by rfl) T.z_len (by decide +kernel) (pa_cons (pv 1) pa_nil)) pe_int (nomark _)) (pw_or1 (pt_cmpR op_ne (pe_callB (id := "len") b_len (by rfl) T.z_len (by decide +kernel) (pa_cons (pv 2) pa_nil)) (pe_op op_sub (pe_callB (id := "len") b_len (by rfl) T.z_len (by decide +kernel) (pa_cons (pv 1) pa_nil)) pe_int) (nomark _)))))) (pss_one (ps_raise rfl (takes_of rfl rfl rfl rfl) (pmk_x T.x_InvalidRow T.c_InvalidRow (by rfl)))) pss_nil)
        (pss_cons (ps_if (pt_not (pt_val (pe_callB (id := "all") (cr_all rfl) (by rfl) T.z_all (by decide +kernel) (pa_cons (pe_lc (own := [("dim", 5)]) (g := gName 5) rfl sc_check_steps.nd (pi_tup (pv 1)) (blkOk_by (N := ["base", "dims", "steps", "time", "step", "dim"]) (sc := defScope s_check_steps) (by decide +kernel)) (fun _ _ _ _ _ => pg_name (i := 5) sc_check_steps.nd rfl (by first | exact Or.inl rfl | exact Or.inr rfl)) (fun _ _ _ _ _ => pts_nil) (fun _ _ _ _ _ => (pe_cmpR op_ge (pv 5) pe_int (nomark _)))) pa_nil)))) (pss_one (ps_raise rfl (takes_of rfl rfl rfl rfl) (pmk_x T.x_InvalidRow T.c_InvalidRow (by rfl)))) pss_nil)
        (pss_one (ps_for (passes_of rfl) rfl (pi_enumA (by rfl) T.z_enumerate (pa_cons (pv 2) pa_nil)) (pg_tup (by rfl) (pgs_cons (pg_name (i := 3) sc_check_steps.nd rfl (by first | exact Or.inl rfl | exact Or.inr rfl)) (pgs_cons (pg_name (i := 4) sc_check_steps.nd rfl (by first | exact Or.inl rfl | exact Or.inr rfl)) pgs_nil))) (pss_one (ps_if (pt_cmpR (op_neD hr.units) (pe_tup (pa_cons (pe_fld (pv 4) rfl) (pa_cons (pe_fld (pv 4) rfl) (pa_cons (pe_prop (E := fun _ _ _ => False) (pv 4) T.cl_Matrix T.pr_Matrix_height.choose_spec G_Matrix_height (hr.mono (by first | decide | omega)) T.b_Matrix_height .nil pass0 rfl) pa_nil)))) (pe_tup (pa_cons (pv 0) (pa_cons (pe_ix ix_seq (pv 1) (pv 3) (fun _ _ => rfl)) (pa_cons (pe_ix ix_seq (pv 1) (pe_op op_add (pv 3) pe_int) (fun _ _ => rfl)) pa_nil)))) (nomark _)) (pss_one (ps_raise rfl (takes_of rfl rfl rfl rfl) (pmk_x T.x_InvalidRow T.c_InvalidRow (by rfl)))) pss_nil)))))), ?_⟩
    try dsimp only [cxOf, Cx.nox, Cx.wish, Cx.blk]
    have hS := Sta.start (K := K) hG
    have hdv' : Rp K G dv (.tup (dims.map .int)) := hdv
    have hsv' : Rp K G sv (.lst (ss.map (stD A.C_Matrix))) := hsv
    obtain ⟨da, dxs, rfl, hds, hda⟩ := Rp.tup_inv hdv'
    refine go_start (σ := [some (.int b), some (.ref da), some sv, none, none, none]) rfl ?_
    have raised : ∀ G1 H1, ¬ okR b dims ss → Sta K G H [] G1 [] H1 → E (.ref A.C_InvalidRow) none H1 := fun G1 H1 e s => qE e G1 H1 s.adv
    walk_at "go"
    refine go_iteBN (fun hb => ?_) (fun hb => ?_)
    · walk_at "go"
      exact raised _ _ (fun e => by rw [e.1] at hb; cases hb) (by assumption)
    walk_at "go"
    · exact raised _ _ (fun e => by have := e.2.1; simp only [List.length_map] at *; omega) (by assumption)
    · exact raised _ _ (fun e => by have := e.2.1; simp only [List.length_map] at *; omega) (by assumption)
    have hlen : dims.length = ss.length + 1 := by simp only [List.length_map] at *; omega
    refine lcMapT (Da := .int) (F := fun e => .bl (decide (0 ≤ e))) (as := dims) (by assumption) (by walk_at "rp") (by walk_at "rp") (by omega) ?_ ?_
    · intro z c L G4 vs es H4 Z hc hz e4 l0 hS4 hvs fin
      cases Rp.int_inv hz
      walk_at "go"
      exact fin _ _ _ (Same.refl _) (by assumption) (.bl _)
    intro p G4 H4 e4 hS4 hr4
    walk_at "go"
    refine go_all (G := G4) (bs := dims.map fun e => decide (0 ≤ e)) (by rw [List.map_map]; exact hr4) hS4.gh ?_
    walk_at "go"
    refine go_iteBN (fun ha => ?_) (fun ha => ?_)
    · walk_at "go"
      refine raised _ _ (fun e => ?_) (by assumption)
      have : (dims.map fun e => decide (0 ≤ e)).all id = true := List.all_eq_true.mpr fun z hz => by
        obtain ⟨d, hd, rfl⟩ := List.mem_map.mp hz
        simpa using e.2.2.1 d hd
      rw [this] at ha
      cases ha
    have hpos : ∀ d ∈ dims, 0 ≤ d := fun d hd => by
      have := List.all_eq_true.mp ha (decide (0 ≤ d)) (List.mem_map.mpr ⟨d, hd, rfl⟩)
      simpa using this
    walk_at "go"
    have hsv4 : Rp K G4 sv (.lst (ss.map (stD A.C_Matrix))) := by walk_at "rp"
    walk_at "go"
    refine go_etkL (G := G4) (ds := ss.map (stD A.C_Matrix)) hsv4 hS4.gh fun a xs ea hq hr => ?_
    subst ea
    refine forE hS4 hq hr (fun i σ _ M => M = [] ∧ (∀ k s, k < i → ss[k]? = some s → s.1 = b ∧ s.2.1 = dims.getD k 0 ∧ (s.2.2.length : Int) = dims.getD (k + 1) 0) ∧ ∃ u3 u4, σ = [some (.int b), some (.ref da), some (.ref a), u3, u4, none]) ⟨rfl, fun k s hk => absurd hk (Nat.not_lt_zero _), _, _, rfl⟩ ?_ ?_
    · rintro i x d σ G5 M5 H5 hi hd e5 hS5 hx ⟨gw, ew, rfl, hok, u3, u4, rfl⟩ σ2 eσ
      subst eσ
      clear ew
      have hi' : i < ss.length := by simpa using hi
      rw [List.getElem?_map, List.getElem?_eq_getElem hi'] at hd
      cases hd
      have hx' : Rp K G5 x (matD A.C_Matrix ss[i].1 ss[i].2.1 ss[i].2.2) := hx
      have hdv5 : Rp K G5 (.ref da) (.tup (dims.map .int)) := by walk_at "rp"
      walk_at "go"
      rename_i p7 G7 H7 e7 hS7 hr7
      refine go_ixA (d := .int (dims.getD i 0)) (hdv5.up e7) hS7.gh (by have := atI_getD (r := dims) (j := (i : Int)) (by omega) (by omega); simpa using this) fun v hv => ?_
      cases Rp.int_inv hv
      walk_at "go"
      refine go_ixA (d := .int (dims.getD (i + 1) 0)) (hdv5.up e7) hS7.gh (by have := atI_getD (r := dims) (j := ((i + 1 : Nat) : Int)) (by omega) (by omega); simpa using this) fun v hv => ?_
      cases Rp.int_inv hv
      walk_at "go"
      refine' go_neTI (as := [ss[i].1, ss[i].2.1, (ss[i].2.2.length : Int)]) (bs := [b, dims.getD i 0, dims.getD (i + 1) 0]) ?hx ?hy ?e ?ha ?hb ?_
      case e => exact Sta.gh (by assumption)
      case hx =>
        show Rp K _ _ (.tup [.int ss[i].1, .int ss[i].2.1, .int ss[i].2.2.length])
        walk_at "rp"
      case hy =>
        show Rp K _ _ (.tup [.int b, .int (dims.getD i 0), .int (dims.getD (i + 1) 0)])
        walk_at "rp"
      case ha => simp
      case hb => simp
      walk_at "go"
      · refine raised _ _ (fun e => ?_) (by assumption)
        have := e.2.2.2 i ss[i] (List.getElem?_eq_getElem hi')
        have nn : ¬ [ss[i].1, ss[i].2.1, (ss[i].2.2.length : Int)] = [b, dims.getD i 0, dims.getD (i + 1) 0] := by assumption
        exact nn (by rw [this.1, this.2.1, this.2.2])
      · have nn : [ss[i].1, ss[i].2.1, (ss[i].2.2.length : Int)] = [b, dims.getD i 0, dims.getD (i + 1) 0] := by assumption
        refine Nx.mk (by assumption) (by walk_at "sm") ⟨rfl, fun k s hk he => ?_, _, _, rfl⟩
        by_cases ek : k = i
        · subst ek
          rw [List.getElem?_eq_getElem hi'] at he
          cases he
          simp only [List.cons.injEq, and_true] at nn
          exact nn
        · exact hok k s (by omega) he
    · rintro σ G5 M5 H5 e5 hS5 ⟨rfl, hok, u3, u4, rfl⟩
      walk_at "go"
      refine q ⟨?_, hlen, hpos, fun k s he => hok k s ?_ he⟩ _ _ hS5.adv
      · exact hb
      · have := (List.getElem?_eq_some_iff.mp he).1
        rw [List.length_map]
        exact this
  case true.true =>
    refine ⟨_, (pss_cons (ps_if (PW.pt (pw_or (pt_not (pt_val (pe_call G_is_base (hr.mono (by first | decide | omega)) (by rfl) T.m_is_base T.F_is_base.kp T.b_is_base .nil pass0 (pa_cons (pv 0) pa_nil)))) (pw_or (pt_cmpR op_lt (pe_callB (id := "len") b_len (by rfl) T.z_len (by decide +kernel) (pa_cons (pv 1) pa_nil)) pe_int (nomark _)) (pw_or1 (pt_cmpR op_ne (pe_callB (id := "len") b_len (by rfl) T.z_len (by decide +kernel) (pa_cons (pv 2) pa_nil)) (pe_op op_sub (pe_callB (id := "len") b_len (by rfl) T.z_len (by decide +kernel) (pa_cons (pv 1) pa_nil)) pe_int) (nomark _)))))) (pss_one (ps_raise rfl (takes_of rfl rfl rfl rfl) (pmk_x T.x_InvalidRow T.c_InvalidRow (by rfl)))) pss_nil)
        (pss_cons (ps_if (pt_not (pt_val (pe_callB (id := "all") (cr_all rfl) (by rfl) T.z_all (by decide +kernel) (pa_cons (pe_lc (own := [("dim", 5)]) (g := gName 5) rfl sc_check_steps.nd (pi_tup (pv 1)) (blkOk_by (N := ["base", "dims", "steps", "time", "step", "dim"]) (sc := defScope s_check_steps) (by decide +kernel)) (fun _ _ _ _ _ => pg_name (i := 5) sc_check_steps.nd rfl (by first | exact Or.inl rfl | exact Or.inr rfl)) (fun _ _ _ _ _ => pts_nil) (fun _ _ _ _ _ => (pe_cmpR op_ge (pv 5) pe_int (nomark _)))) pa_nil)))) (pss_one (ps_raise rfl (takes_of rfl rfl rfl rfl) (pmk_x T.x_InvalidRow T.c_InvalidRow (by rfl)))) pss_nil)
        (pss_one (ps_for (passes_of rfl) rfl (pi_enumA (by rfl) T.z_enumerate (pa_cons (pv 2) pa_nil)) (pg_tup (by rfl) (pgs_cons (pg_name (i := 3) sc_check_steps.nd rfl (by first | exact Or.inl rfl | exact Or.inr rfl)) (pgs_cons (pg_name (i := 4) sc_check_steps.nd rfl (by first | exact Or.inl rfl | exact Or.inr rfl)) pgs_nil))) (pss_one (ps_if (pt_cmpR (op_neD hr.units) (pe_tup (pa_cons (pe_fld (pv 4) rfl) (pa_cons (pe_fld (pv 4) rfl) (pa_cons (pe_prop (E := fun _ _ _ => False) (pv 4) T.cl_Matrix T.pr_Matrix_height.choose_spec G_Matrix_height (hr.mono (by first | decide | omega)) T.b_Matrix_height .nil pass0 rfl) pa_nil)))) (pe_tup (pa_cons (pv 0) (pa_cons (pe_ix ix_seq (pv 1) (pv 3) (fun _ _ => rfl)) (pa_cons (pe_ix ix_seq (pv 1) (pe_op op_add (pv 3) pe_int) (fun _ _ => rfl)) pa_nil)))) (nomark _)) (pss_one (ps_raise rfl (takes_of rfl rfl rfl rfl) (pmk_x T.x_InvalidRow T.c_InvalidRow (by rfl)))) pss_nil)))))), ?_⟩
    try dsimp only [cxOf, Cx.nox, Cx.wish, Cx.blk]
    have hS := Sta.start (K := K) hG
    have hdv' : Rp K G dv (.tup (dims.map .int)) := hdv
    have hsv' : Rp K G sv (.tup (ss.map (stD A.C_Matrix))) := hsv
    obtain ⟨da, dxs, rfl, hds, hda⟩ := Rp.tup_inv hdv'
    refine go_start (σ := [some (.int b), some (.ref da), some sv, none, none, none]) rfl ?_
    have raised : ∀ G1 H1, ¬ okR b dims ss → Sta K G H [] G1 [] H1 → E (.ref A.C_InvalidRow) none H1 := fun G1 H1 e s => qE e G1 H1 s.adv
    walk_at "go"
    refine go_iteBN (fun hb => ?_) (fun hb => ?_)
    · walk_at "go"
      exact raised _ _ (fun e => by rw [e.1] at hb; cases hb) (by assumption)
    walk_at "go"
    · exact raised _ _ (fun e => by have := e.2.1; simp only [List.length_map] at *; omega) (by assumption)
    · exact raised _ _ (fun e => by have := e.2.1; simp only [List.length_map] at *; omega) (by assumption)
    have hlen : dims.length = ss.length + 1 := by simp only [List.length_map] at *; omega
    refine lcMapT (Da := .int) (F := fun e => .bl (decide (0 ≤ e))) (as := dims) (by assumption) (by walk_at "rp") (by walk_at "rp") (by omega) ?_ ?_
    · intro z c L G4 vs es H4 Z hc hz e4 l0 hS4 hvs fin
      cases Rp.int_inv hz
      walk_at "go"
      exact fin _ _ _ (Same.refl _) (by assumption) (.bl _)
    intro p G4 H4 e4 hS4 hr4
    walk_at "go"
    refine go_all (G := G4) (bs := dims.map fun e => decide (0 ≤ e)) (by rw [List.map_map]; exact hr4) hS4.gh ?_
    walk_at "go"
    refine go_iteBN (fun ha => ?_) (fun ha => ?_)
    · walk_at "go"
      refine raised _ _ (fun e => ?_) (by assumption)
      have : (dims.map fun e => decide (0 ≤ e)).all id = true := List.all_eq_true.mpr fun z hz => by
        obtain ⟨d, hd, rfl⟩ := List.mem_map.mp hz
        simpa using e.2.2.1 d hd
      rw [this] at ha
      cases ha
    have hpos : ∀ d ∈ dims, 0 ≤ d := fun d hd => by
      have := List.all_eq_true.mp ha (decide (0 ≤ d)) (List.mem_map.mpr ⟨d, hd, rfl⟩)
      simpa using this
    walk_at "go"
    have hsv4 : Rp K G4 sv (.tup (ss.map (stD A.C_Matrix))) := by walk_at "rp"
    walk_at "go"
    refine go_etkT (G := G4) (ds := ss.map (stD A.C_Matrix)) hsv4 hS4.gh fun a xs ea hq hr => ?_
    subst ea
    refine forET hS4 hq hr (fun i σ _ M => M = [] ∧ (∀ k s, k < i → ss[k]? = some s → s.1 = b ∧ s.2.1 = dims.getD k 0 ∧ (s.2.2.length : Int) = dims.getD (k + 1) 0) ∧ ∃ u3 u4, σ = [some (.int b), some (.ref da), some (.ref a), u3, u4, none]) ⟨rfl, fun k s hk => absurd hk (Nat.not_lt_zero _), _, _, rfl⟩ ?_ ?_
    · rintro i x d σ G5 M5 H5 hi hd e5 hS5 hx ⟨gw, ew, rfl, hok, u3, u4, rfl⟩ σ2 eσ
      subst eσ
      clear ew
      have hi' : i < ss.length := by simpa using hi
      rw [List.getElem?_map, List.getElem?_eq_getElem hi'] at hd
      cases hd
      have hx' : Rp K G5 x (matD A.C_Matrix ss[i].1 ss[i].2.1 ss[i].2.2) := hx
      have hdv5 : Rp K G5 (.ref da) (.tup (dims.map .int)) := by walk_at "rp"
      walk_at "go"
      rename_i p7 G7 H7 e7 hS7 hr7
      refine go_ixA (d := .int (dims.getD i 0)) (hdv5.up e7) hS7.gh (by have := atI_getD (r := dims) (j := (i : Int)) (by omega) (by omega); simpa using this) fun v hv => ?_
      cases Rp.int_inv hv
      walk_at "go"
      refine go_ixA (d := .int (dims.getD (i + 1) 0)) (hdv5.up e7) hS7.gh (by have := atI_getD (r := dims) (j := ((i + 1 : Nat) : Int)) (by omega) (by omega); simpa using this) fun v hv => ?_
      cases Rp.int_inv hv
      walk_at "go"
      refine' go_neTI (as := [ss[i].1, ss[i].2.1, (ss[i].2.2.length : Int)]) (bs := [b, dims.getD i 0, dims.getD (i + 1) 0]) ?hx ?hy ?e ?ha ?hb ?_
      case e => exact Sta.gh (by assumption)
      case hx =>
        show Rp K _ _ (.tup [.int ss[i].1, .int ss[i].2.1, .int ss[i].2.2.length])
        walk_at "rp"
      case hy =>
        show Rp K _ _ (.tup [.int b, .int (dims.getD i 0), .int (dims.getD (i + 1) 0)])
        walk_at "rp"
      case ha => simp
      case hb => simp
      walk_at "go"
      · refine raised _ _ (fun e => ?_) (by assumption)
        have := e.2.2.2 i ss[i] (List.getElem?_eq_getElem hi')
        have nn : ¬ [ss[i].1, ss[i].2.1, (ss[i].2.2.length : Int)] = [b, dims.getD i 0, dims.getD (i + 1) 0] := by assumption
        exact nn (by rw [this.1, this.2.1, this.2.2])
      · have nn : [ss[i].1, ss[i].2.1, (ss[i].2.2.length : Int)] = [b, dims.getD i 0, dims.getD (i + 1) 0] := by assumption
        refine Nx.mk (by assumption) (by walk_at "sm") ⟨rfl, fun k s hk he => ?_, _, _, rfl⟩
        by_cases ek : k = i
        · subst ek
          rw [List.getElem?_eq_getElem hi'] at he
          cases he
          simp only [List.cons.injEq, and_true] at nn
          exact nn
        · exact hok k s (by omega) he
    · rintro σ G5 M5 H5 e5 hS5 ⟨rfl, hok, u3, u4, rfl⟩
      walk_at "go"
      refine q ⟨?_, hlen, hpos, fun k s he => hok k s ?_ he⟩ _ _ hS5.adv
      · exact hb
      · have := (List.getElem?_eq_some_iff.mp he).1
        rw [List.length_map]
        exact this
theorem go_chk {A : Ad} {G0 H0 G H : Hp} {D : List Addr} {M : List (Addr × HO)} {Q : VK} {E : XK} {b : Int} {dv sv : V} {dims : List Int} {ss : List (Int × Int × List (List Int))} {t u : Bool} (hS : Sta K G0 H0 D G M H) (hd : Rp K G dv (seqD t (dims.map .int))) (hs : Rp K G sv (seqD u (ss.map (stD A.C_Matrix)))) (h1 : dims.length ≤ 1000) (h2 : ss.length ≤ 1000) (h3 : ∀ s ∈ ss, WM s.1 s.2.1 s.2.2)
    (hk : kdR t u = true)
    (q : okR b dims ss → ∀ G1 H1, Same G G1 → Sta K G0 H0 D G1 M H1 → Q .non H1) (qE : ¬ okR b dims ss → ∀ G1 H1, Same G G1 → Sta K G0 H0 D G1 M H1 → E (.ref A.C_InvalidRow) none H1) : spCheck K A.C_Matrix A.C_InvalidRow [.int b, dv, sv] H Q E :=
  ⟨b, dv, sv, dims, ss, t, u, G, rfl, hk, hS.gh, hd, hs, h1, h2, h3, fun e G1 H1 ad => q e G1 H1 ad.gg (hS.call ad), fun e G1 H1 ad => qE e G1 H1 ad.gg (hS.call ad)⟩
def spRow (K : PySem.W.Frag) (C CM Xi : Addr) : Sp := fun vs H Q E => ∃ (x dx : Addr) (b : Int) (dv sv : V) (dims : List Int) (ss : List (Int × Int × List (List Int))) (t u : Bool) (G : Hp), vs = [.ref x, .int b, dv, sv] ∧ kdR t u = true ∧ Same G H ∧ G x = none ∧ H x = some (.ins C dx []) ∧ Rp K G dv (seqD t (dims.map .int)) ∧ Rp K G sv (seqD u (ss.map (stD CM))) ∧ dims.length ≤ 1000 ∧ ss.length ≤ 1000 ∧ (∀ s ∈ ss, WM s.1 s.2.1 s.2.2) ∧
  (okR b dims ss → ∀ fs G1 H1, Adv [x] G H G1 H1 → G1 x = none → H1 x = some (.ins C dx fs) → RpF K G1 fs (rowF CM b dims ss) → Q .non H1) ∧ (¬ okR b dims ss → ∀ G1 H1, Adv [x] G H G1 H1 → E (.ref Xi) none H1)
theorem ok_Row_init (T : Txt K mg A) : FnOk P w K mg base (L2.CX P w) 4 A.f_Row_init A.d_Row_init ["self", "base", "dims", "steps"] (spRow K A.C_Row A.C_Matrix A.C_InvalidRow) := by
  have G_check_steps := ok_check_steps (P := P) (w := w) (base := base) T
  refine T.F_Row_init.okX sc_Row_init (fun vs H Q E h => by first | (obtain ⟨rfl, _⟩ := h; rfl) | (obtain ⟨_, rfl, _⟩ := h; rfl) | (obtain ⟨_, _, rfl, _⟩ := h; rfl) | (obtain ⟨_, _, _, rfl, _⟩ := h; rfl) | (obtain ⟨_, _, _, _, rfl, _⟩ := h; rfl) | (obtain ⟨_, _, _, _, _, rfl, _⟩ := h; rfl) | (obtain ⟨_, _, _, _, _, _, rfl, _⟩ := h; rfl) | (obtain ⟨_, _, _, _, _, _, _, rfl, _⟩ := h; rfl) | (obtain ⟨_, _, _, _, _, _, _, _, rfl, _⟩ := h; rfl) | (obtain ⟨_, _, _, _, _, _, _, _, _, rfl, _⟩ := h; rfl) | (obtain ⟨_, _, _, _, _, _, _, _, _, _, rfl, _⟩ := h; rfl) | (obtain ⟨_, _, _, _, _, _, _, _, _, _, _, rfl, _⟩ := h; rfl) | (obtain ⟨_, _, _, _, _, _, _, _, _, _, _, _, rfl, _⟩ := h; rfl) | (obtain ⟨_, _, _, _, _, _, _, _, _, _, _, _, _, rfl, _⟩ := h; rfl) | exact wk_len h) (fun cdv AA outer s H vs Q E hr h => ?_)
  obtain ⟨x, dx, b, dv, sv, dims, ss, t, u, G, rfl, hk, hG, hgx, hx, hdv, hsv, hl1, hl2, hwm, q, qE⟩ := h
  have cl := T.cl_Row
  have n1 := T.na_Row_base
  have n2 := T.na_Row_dims
  have n3 := T.na_Row_steps
  refine ⟨_, (pss_cons (ps_expr (pe_callS G_check_steps (hr.mono (by first | decide | omega)) (by rfl) T.m_check_steps T.F_check_steps.kp T.b_check_steps (fun σ => passAt (takes_of rfl rfl rfl rfl) σ) (pa_cons (pv 1) (pa_cons (pv 2) (pa_cons (pv 3) pa_nil)))))
      (pss_cons (ps_fld (pv 0) (pv 1) rfl)
      (pss_cons (ps_fld (pv 0) (pe_callTy (T := "tuple") b_tuple (by rfl) T.z_tuple (by decide +kernel) (pa_cons (pv 2) pa_nil)) rfl)
      (pss_one (ps_fld (pv 0) (pe_callTy (T := "tuple") b_tuple (by rfl) T.z_tuple (by decide +kernel) (pa_cons (pv 3) pa_nil)) rfl))))), ?_⟩
  try dsimp only [cxOf, Cx.nox, Cx.wish, Cx.blk]
  have hS := Sta.start1 (K := K) hG hx hgx
  refine go_start (σ := [some (.ref x), some (.int b), some dv, some sv]) rfl ?_
  walk_at "go"
  refine go_chk hS hdv hsv hl1 hl2 hwm hk (fun ok G1 H1 e1 hS1 => ?_) (fun no G1 H1 e1 hS1 => qE no G1 H1 hS1.adv)
  have fin : ∀ {p4 p5 G5 H6}, Sta K G H [x] G5 [(x, .ins A.C_Row dx (putF "steps" (V.ref p5) (putF "dims" (V.ref p4) (putF "base" (V.int b) []))))] H6 → Rp K G5 (.ref p4) (.tup (dims.map .int)) → Rp K G5 (.ref p5) (.tup (ss.map (stD A.C_Matrix))) → Q .non H6 := fun {p4 p5 G5 H6} hS6 r4 r5 => by
    have ef : putF "steps" (V.ref p5) (putF "dims" (V.ref p4) (putF "base" (V.int b) [])) = [(("base" : Str), V.int b), (("dims" : Str), V.ref p4), (("steps" : Str), V.ref p5)] := by first | rfl | simp [putF]
    rw [ef] at hS6
    exact q ok _ _ _ hS6.adv (hS6.mh _ List.mem_cons_self).2.1 (hS6.get (i := 0) rfl) (.cons (.int _) (.cons r4 (.cons r5 .nil)))
  cases t <;> cases u
  case false.false =>
    have hdv' : Rp K G dv (.lst (dims.map .int)) := hdv
    have hsv' : Rp K G sv (.lst (ss.map (stD A.C_Matrix))) := hsv
    walk_at "go"
    exact fin (by assumption) (by walk_at "rp") (by walk_at "rp")
  case false.true =>
    have hdv' : Rp K G dv (.lst (dims.map .int)) := hdv
    have hsv' : Rp K G sv (.tup (ss.map (stD A.C_Matrix))) := hsv
    walk_at "go"
    exact fin (by assumption) (by walk_at "rp") (by walk_at "rp")
  case true.false =>
    have hdv' : Rp K G dv (.tup (dims.map .int)) := hdv
    have hsv' : Rp K G sv (.lst (ss.map (stD A.C_Matrix))) := hsv
    walk_at "go"
    exact fin (by assumption) (by walk_at "rp") (by walk_at "rp")
  case true.true =>
    have hdv' : Rp K G dv (.tup (dims.map .int)) := hdv
    have hsv' : Rp K G sv (.tup (ss.map (stD A.C_Matrix))) := hsv
    walk_at "go"
    exact fin (by assumption) (by walk_at "rp") (by walk_at "rp")
/-- a row as data -/
abbrev rowI (A : Ad) (b : Int) (dims : List Int) (ms : List (List (List Int))) : Dt := .ins A.C_Row (rowF A.C_Matrix b dims (mkS b dims ms))
theorem go_row {A : Ad} {G0 H0 G H : Hp} {D : List Addr} {M : List (Addr × HO)} {Q : VK} {E : XK} {b : Int} {dv sv : V} {dims : List Int} {ss : List (Int × Int × List (List Int))} {t u : Bool} (hS : Sta K G0 H0 D G M H) (hd : Rp K G dv (seqD t (dims.map .int))) (hs : Rp K G sv (seqD u (ss.map (stD A.C_Matrix)))) (h1 : dims.length ≤ 1000) (h2 : ss.length ≤ 1000) (h3 : ∀ s ∈ ss, WM s.1 s.2.1 s.2.2) (ok : okR b dims ss)
    (q : ∀ x G1 H1, Same G G1 → Sta K G0 H0 D G1 M H1 → Rp K G1 (.ref x) (rowI A b dims (ss.map fun s => s.2.2)) → Q (.ref x) H1) (hk : kdR t u = true := by rfl) : MKS A.C_Row (spRow K A.C_Row A.C_Matrix A.C_InvalidRow) E Q [.int b, dv, sv] H := by
  refine go_mks hS fun x dx G1 H1 e1 x0 hS1 => ?_
  refine ⟨x, dx, b, dv, sv, dims, ss, t, u, G1, rfl, hk, hS1.gh, (hS1.mh _ List.mem_cons_self).2.1, hS1.get (i := 0) rfl, hd.up e1, hs.up e1, h1, h2, h3, fun _ fs G2 H2 ad hg hx hf => ⟨rfl, ?_⟩, fun e => absurd ok e⟩
  have hS2 : Sta K G0 H0 D G2 ((x, .ins A.C_Row dx fs) :: M) H2 := hS1.callM (i := 0) rfl ad hx
  obtain ⟨hS3, e3⟩ := hS2.frz x0
  refine q x _ _ (e1.trans (ad.gg.trans e3)) hS3 ?_
  unfold rowI
  rw [← okR_mkS ok]
  exact .ins upd_same (hf.up e3)
theorem go_rowX {A : Ad} {G0 H0 G H : Hp} {D : List Addr} {M : List (Addr × HO)} {Q : VK} {E : XK} {b : Int} {dv sv : V} {dims : List Int} {ss : List (Int × Int × List (List Int))} {t u : Bool} (hS : Sta K G0 H0 D G M H) (hd : Rp K G dv (seqD t (dims.map .int))) (hs : Rp K G sv (seqD u (ss.map (stD A.C_Matrix)))) (h1 : dims.length ≤ 1000) (h2 : ss.length ≤ 1000) (h3 : ∀ s ∈ ss, WM s.1 s.2.1 s.2.2) (no : ¬ okR b dims ss)
    (q : ∀ G1 H1, Same G G1 → Sta K G0 H0 D G1 M H1 → E (.ref A.C_InvalidRow) none H1) (hk : kdR t u = true := by rfl) : MKS A.C_Row (spRow K A.C_Row A.C_Matrix A.C_InvalidRow) E Q [.int b, dv, sv] H := by
  refine go_mks hS fun x dx G1 H1 e1 x0 hS1 => ?_
  refine ⟨x, dx, b, dv, sv, dims, ss, t, u, G1, rfl, hk, hS1.gh, (hS1.mh _ List.mem_cons_self).2.1, hS1.get (i := 0) rfl, hd.up e1, hs.up e1, h1, h2, h3, fun e => absurd e no, fun _ G2 H2 ad => ?_⟩
  exact q G2 H2 (e1.trans ad.gg) (hS1.pop.callX ad x0 hS1.apart)
def spLast (K : PySem.W.Frag) (C CM : Addr) : Sp := fun vs H Q _ => ∃ (x : V) (G : Hp) (b : Int) (dims : List Int) (ss : List (Int × Int × List (List Int))), vs = [x] ∧ Same G H ∧ Rp K G x (.ins C (rowF CM b dims ss)) ∧ Q (.int ((dims.length : Int) - 1)) H
theorem ok_Row_last (T : Txt K mg A) : FnOk P w K mg base CX0 1 A.f_Row_last A.d_Row_last ["self"] (spLast K A.C_Row A.C_Matrix) := by
  refine T.F_Row_last.ok sc_Row_last (fun vs H Q E h => by first | (obtain ⟨rfl, _⟩ := h; rfl) | (obtain ⟨_, rfl, _⟩ := h; rfl) | (obtain ⟨_, _, rfl, _⟩ := h; rfl) | (obtain ⟨_, _, _, rfl, _⟩ := h; rfl) | (obtain ⟨_, _, _, _, rfl, _⟩ := h; rfl) | (obtain ⟨_, _, _, _, _, rfl, _⟩ := h; rfl) | (obtain ⟨_, _, _, _, _, _, rfl, _⟩ := h; rfl) | (obtain ⟨_, _, _, _, _, _, _, rfl, _⟩ := h; rfl) | (obtain ⟨_, _, _, _, _, _, _, _, rfl, _⟩ := h; rfl) | (obtain ⟨_, _, _, _, _, _, _, _, _, rfl, _⟩ := h; rfl) | (obtain ⟨_, _, _, _, _, _, _, _, _, _, rfl, _⟩ := h; rfl) | (obtain ⟨_, _, _, _, _, _, _, _, _, _, _, rfl, _⟩ := h; rfl) | (obtain ⟨_, _, _, _, _, _, _, _, _, _, _, _, rfl, _⟩ := h; rfl) | (obtain ⟨_, _, _, _, _, _, _, _, _, _, _, _, _, rfl, _⟩ := h; rfl) | exact wk_len h) (fun cdv AA outer s H vs Q E hr h => ?_)
  obtain ⟨x, G, b, dims, ss, rfl, hG, hx, q⟩ := h
  have cl := T.cl_Row
  have n2 := T.na_Row_dims
  refine ⟨_, (pss_one (ps_ret (pe_op op_sub (pe_callB (id := "len") b_len (by rfl) T.z_len (by decide +kernel) (pa_cons (pe_fld (pv 0) rfl) pa_nil)) pe_int))), ?_⟩
  try dsimp only [cxOf, Cx.nox, Cx.wish, Cx.blk]
  have hS := Sta.start (K := K) hG
  refine go_start (σ := [some x]) rfl ?_
  walk_at "go"
  simpa using q
theorem go_last {A : Ad} {G0 H0 G H : Hp} {D : List Addr} {M : List (Addr × HO)} {Q : VK} {E : XK} {x : V} {b : Int} {dims : List Int} {ms : List (List (List Int))} (hS : Sta K G0 H0 D G M H) (hx : Rp K G x (rowI A b dims ms)) (q : Q (.int ((dims.length : Int) - 1)) H) : PRK A.C_Row (spLast K A.C_Row A.C_Matrix) [] E Q x H := by
  refine go_prk hx hS.gh fun a ea => ?_
  subst ea
  exact ⟨_, G, b, dims, _, rfl, hS.gh, hx, q⟩
local macro_rules | `(tactic| walk_at "s") => `(tactic| first | ((with_reducible refine' go_last (G := ?G) (b := ?b) (dims := ?d) (ms := ?m) ?hS ?hx ?_); (case hS => assumption); (case hx => walk_at "rp")) | fail)
def spDim (K : PySem.W.Frag) (A : Ad) : Sp := fun vs H Q _ => ∃ (x : V) (t : Int) (G : Hp) (b : Int) (dims : List Int) (ms : List (List (List Int))), vs = [x, .int t] ∧ Same G H ∧ Rp K G x (rowI A b dims ms) ∧ WR b dims ms ∧ Q (.int (dimF dims t)) H
theorem ok_Row_dim (T : Txt K mg A) : FnOk P w K mg base CX0 3 A.f_Row_dim A.d_Row_dim ["self", "time"] (spDim K A) := by
  have G_Row_last := ok_Row_last (P := P) (w := w) (base := base) T
  refine T.F_Row_dim.ok sc_Row_dim (fun vs H Q E h => by first | (obtain ⟨rfl, _⟩ := h; rfl) | (obtain ⟨_, rfl, _⟩ := h; rfl) | (obtain ⟨_, _, rfl, _⟩ := h; rfl) | (obtain ⟨_, _, _, rfl, _⟩ := h; rfl) | (obtain ⟨_, _, _, _, rfl, _⟩ := h; rfl) | (obtain ⟨_, _, _, _, _, rfl, _⟩ := h; rfl) | (obtain ⟨_, _, _, _, _, _, rfl, _⟩ := h; rfl) | (obtain ⟨_, _, _, _, _, _, _, rfl, _⟩ := h; rfl) | (obtain ⟨_, _, _, _, _, _, _, _, rfl, _⟩ := h; rfl) | (obtain ⟨_, _, _, _, _, _, _, _, _, rfl, _⟩ := h; rfl) | (obtain ⟨_, _, _, _, _, _, _, _, _, _, rfl, _⟩ := h; rfl) | (obtain ⟨_, _, _, _, _, _, _, _, _, _, _, rfl, _⟩ := h; rfl) | (obtain ⟨_, _, _, _, _, _, _, _, _, _, _, _, rfl, _⟩ := h; rfl) | (obtain ⟨_, _, _, _, _, _, _, _, _, _, _, _, _, rfl, _⟩ := h; rfl) | exact wk_len h) (fun cdv AA outer s H vs Q E hr h => ?_)
  obtain ⟨x, t, G, b, dims, ms, rfl, hG, hx, ok, q⟩ := h
  have cl := T.cl_Row
  have n2 := T.na_Row_dims
  have hl := ok.hl
  refine ⟨_, (pss_cons (ps_if (pt_cmpR op_lt (pv 1) pe_int (nomark _)) (pss_one (ps_ret pe_int)) pss_nil)
      (pss_one (ps_ret (pe_ix ix_seq (pe_fld (pv 0) rfl) (pe_callB (id := "min") (b_min rfl) (by rfl) T.z_min (by decide +kernel) (pa_cons (pv 1) (pa_cons (pe_prop (E := fun _ _ _ => False) (pv 0) T.cl_Row T.pr_Row_last.choose_spec G_Row_last (hr.mono (by first | decide | omega)) T.b_Row_last .nil pass0 rfl) pa_nil))) (fun _ _ => rfl))))), ?_⟩
  try dsimp only [cxOf, Cx.nox, Cx.wish, Cx.blk]
  have hS := Sta.start (K := K) hG
  refine go_start (σ := [some x, some (.int t)]) rfl ?_
  walk_at "go"
  · have : dimF dims t = 0 := by unfold dimF; rw [if_pos (by assumption)]
    rw [← this]
    exact q
  · have key : ∀ m : Int, m = (if (dims.length : Int) - 1 < t then (dims.length : Int) - 1 else t) → atI (dims.map Dt.int) m = some (.int (dimF dims t)) := fun m hm => by
      have h1 : 0 ≤ m ∧ m < dims.length := by split at hm <;> omega
      rw [atI_getD h1.1 h1.2]
      unfold dimF
      rw [if_neg (by assumption)]
      congr 3
      split at hm <;> omega
    refine go_ixA (d := .int (dimF dims t)) (by assumption) hS.gh (key _ rfl) fun v hv => ?_
    cases Rp.int_inv hv
    walk_at "go"
    exact q
theorem go_dim {A : Ad} {G0 H0 G H : Hp} {D : List Addr} {M : List (Addr × HO)} {Q : VK} {E : XK} {x : V} {b t : Int} {dims : List Int} {ms : List (List (List Int))} (hS : Sta K G0 H0 D G M H) (hx : Rp K G x (rowI A b dims ms)) (ok : WR b dims ms) (q : Q (.int (dimF dims t)) H) : spDim K A [x, .int t] H Q E :=
  ⟨x, t, G, b, dims, ms, rfl, hS.gh, hx, ok, q⟩
local macro_rules | `(tactic| walk_at "s") => `(tactic| first | ((with_reducible refine' go_dim (G := ?G) (b := ?b) (dims := ?d) (ms := ?m) ?hS ?hx ?ok ?_); (case hS => assumption); (case hx => walk_at "rp"); (case ok => assumption)) | fail)
def spStep (K : PySem.W.Frag) (A : Ad) : Sp := fun vs H Q _ => ∃ (x : V) (t : Int) (G : Hp) (b : Int) (dims : List Int) (ms : List (List (List Int))), vs = [x, .int t] ∧ Same G H ∧ Rp K G x (rowI A b dims ms) ∧ WR b dims ms ∧ ∀ y G1 H1, Adv [] G H G1 H1 → Rp K G1 y (matD A.C_Matrix b (dimF dims t) (stepR dims ms t)) → Q y H1
theorem atI_neg1 {r : List Int} (h : 0 < r.length) : atI (r.map Dt.int) (-1) = some (.int (r.getD (r.length - 1) 0)) := by
  have hn : r ≠ [] := fun e => by rw [e] at h; exact absurd h (by decide)
  obtain ⟨l, a, rfl⟩ : ∃ l a, r = l ++ [a] := ⟨r.dropLast, r.getLast hn, (List.dropLast_concat_getLast hn).symm⟩
  rw [List.map_append]
  have : (l ++ [a]).getD ((l ++ [a]).length - 1) 0 = a := by simp [List.getD]
  rw [this]
  exact atI_last _ _
theorem step_at {A : Ad} {b : Int} {dims : List Int} {ms : List (List (List Int))} (ok : WR b dims ms) {t : Int} (h0 : 0 ≤ t) (h1 : t < ms.length) : atI ((mkS b dims ms).map (stD A.C_Matrix)) t = some (matD A.C_Matrix b (dimF dims t) (stepR dims ms t)) := by
  obtain ⟨k, rfl⟩ := Int.eq_ofNat_of_zero_le h0
  have hk : k < ms.length := by omega
  have hl := ok.hl
  refine atI_nat ?_
  rw [List.getElem?_map, mkS_get hk, dimF_at (by omega)]
  unfold stepR
  rw [if_neg (by omega), if_pos h1]
  rfl
theorem ok_Row_step (T : Txt K mg A) : FnOk P w K mg base CX0 5 A.f_Row_step A.d_Row_step ["self", "time"] (spStep K A) := by
  have G_Matrix_identity := ok_Matrix_identity (P := P) (w := w) (base := base) T
  have G_Matrix_zero := ok_Matrix_zero (P := P) (w := w) (base := base) T
  have G_Row_dim := ok_Row_dim (P := P) (w := w) (base := base) T
  have G_Row_last := ok_Row_last (P := P) (w := w) (base := base) T
  refine T.F_Row_step.ok sc_Row_step (fun vs H Q E h => by first | (obtain ⟨rfl, _⟩ := h; rfl) | (obtain ⟨_, rfl, _⟩ := h; rfl) | (obtain ⟨_, _, rfl, _⟩ := h; rfl) | (obtain ⟨_, _, _, rfl, _⟩ := h; rfl) | (obtain ⟨_, _, _, _, rfl, _⟩ := h; rfl) | (obtain ⟨_, _, _, _, _, rfl, _⟩ := h; rfl) | (obtain ⟨_, _, _, _, _, _, rfl, _⟩ := h; rfl) | (obtain ⟨_, _, _, _, _, _, _, rfl, _⟩ := h; rfl) | (obtain ⟨_, _, _, _, _, _, _, _, rfl, _⟩ := h; rfl) | (obtain ⟨_, _, _, _, _, _, _, _, _, rfl, _⟩ := h; rfl) | (obtain ⟨_, _, _, _, _, _, _, _, _, _, rfl, _⟩ := h; rfl) | (obtain ⟨_, _, _, _, _, _, _, _, _, _, _, rfl, _⟩ := h; rfl) | (obtain ⟨_, _, _, _, _, _, _, _, _, _, _, _, rfl, _⟩ := h; rfl) | (obtain ⟨_, _, _, _, _, _, _, _, _, _, _, _, _, rfl, _⟩ := h; rfl) | exact wk_len h) (fun cdv AA outer s H vs Q E hr h => ?_)
  obtain ⟨x, t, G, b, dims, ms, rfl, hG, hx, ok, q⟩ := h
  have cl := T.cl_Row
  have n1 := T.na_Row_base
  have n2 := T.na_Row_dims
  have n3 := T.na_Row_steps
  have hl := ok.hl
  refine ⟨_, (pss_cons (ps_if (pt_cmpR op_lt (pv 1) pe_int (nomark _)) (pss_one (ps_ret (pe_stat (E := fun _ _ _ _ => False) (pe_glob (v := .ref A.C_Matrix) (by rfl) T.c_Matrix rfl) T.st_Matrix_zero G_Matrix_zero (hr.mono (by first | decide | omega)) T.b_Matrix_zero (fun σ => pass0S σ) (pa_cons (pe_fld (pv 0) rfl) (pa_cons (pe_methS (E := fun _ _ _ _ => False) (pv 0) T.cl_Row T.me_Row_dim G_Row_dim (hr.mono (by first | decide | omega)) T.b_Row_dim (fun σ => pass0S σ) (pa_cons (pe_op op_add (pv 1) pe_int) pa_nil)) (pa_cons pe_int pa_nil)))))) pss_nil)
      (pss_cons (ps_if (pt_cmpR op_ge (pv 1) (pe_prop (E := fun _ _ _ => False) (pv 0) T.cl_Row T.pr_Row_last.choose_spec G_Row_last (hr.mono (by first | decide | omega)) T.b_Row_last .nil pass0 rfl) (nomark _)) (pss_one (ps_ret (pe_stat (E := fun _ _ _ _ => False) (pe_glob (v := .ref A.C_Matrix) (by rfl) T.c_Matrix rfl) T.st_Matrix_identity G_Matrix_identity (hr.mono (by first | decide | omega)) T.b_Matrix_identity (fun σ => pass0S σ) (pa_cons (pe_fld (pv 0) rfl) (pa_cons (pe_ix ix_seq (pe_fld (pv 0) rfl) (pe_un un_neg pe_int) (fun _ _ => rfl)) pa_nil))))) pss_nil)
      (pss_one (ps_ret (pe_ix ix_seq (pe_fld (pv 0) rfl) (pv 1) (fun _ _ => rfl)))))), ?_⟩
  try dsimp only [cxOf, Cx.nox, Cx.wish, Cx.blk]
  have hS := Sta.start (K := K) hG
  have okB := ok.hb
  refine go_start (σ := [some x, some (.int t)]) rfl ?_
  walk_at "go"
  · have ht : t < 0 := by assumption
    refine go_mtk hx hS.gh rfl ?_
    walk_at "go"
    have d1 := ok.d0 (t + 1)
    refine go_zero hS okB d1.1 (by omega) (by omega) (by omega) fun y G1 H1 e1 hS1 hy => ?_
    refine q y _ _ hS1.adv ?_
    have e1 : dimF dims t = 0 := by unfold dimF; rw [if_pos ht]
    have e2 : stepR dims ms t = zrF (dimF dims (t + 1)) 0 := by unfold stepR; rw [if_pos ht]; rfl
    rw [e1, e2]
    exact hy
  · have ht : (dims.length : Int) - 1 ≤ t := by assumption
    have hn : 0 < dims.length := by omega
    have e1 := dimF_last ht hn
    have d1 := ok.d0 t
    have hat : atI (dims.map Dt.int) (-1) = some (.int (dimF dims t)) := by
      rw [atI_neg1 hn, e1]
    refine go_ixA (d := .int (dimF dims t)) (by assumption) hS.gh hat fun v hv => ?_
    cases Rp.int_inv hv
    walk_at "go"
    refine go_ident hS okB d1.1 (by omega) fun y G1 H1 e1 hS1 hy => ?_
    refine q y _ _ hS1.adv ?_
    have e2 : stepR dims ms t = idM (dimF dims t) := by unfold stepR; rw [if_neg (by omega), if_neg (by omega)]
    rw [e2]
    exact hy
  · refine go_ixA (d := matD A.C_Matrix b (dimF dims t) (stepR dims ms t)) (by assumption) hS.gh (step_at ok (by omega) (by omega)) fun v hv => ?_
    exact q v _ _ hS.adv hv
theorem go_step {A : Ad} {G0 H0 G H : Hp} {D : List Addr} {M : List (Addr × HO)} {Q : VK} {E : XK} {x : V} {b t : Int} {dims : List Int} {ms : List (List (List Int))} (hS : Sta K G0 H0 D G M H) (hx : Rp K G x (rowI A b dims ms)) (ok : WR b dims ms)
    (q : ∀ y G1 H1, Same G G1 → Sta K G0 H0 D G1 M H1 → Rp K G1 y (matD A.C_Matrix b (dimF dims t) (stepR dims ms t)) → Q y H1) : spStep K A [x, .int t] H Q E :=
  ⟨x, t, G, b, dims, ms, rfl, hS.gh, hx, ok, fun y G1 H1 ad hy => q y G1 H1 ad.gg (hS.call ad) hy⟩
/-! ### the law's primes and drawn entries -/
def prB (n : Int) : Bool := ((List.range (n - 2).toNat).all fun (i : Nat) => !decide (n % (2 + (i : Int)) = 0)) && decide (1 < n)
def spPr (K : PySem.W.Frag) : Sp := fun vs H Q _ => ∃ (n : Int) (G : Hp), vs = [.int n] ∧ n ≤ 1000000 ∧ -1000000 ≤ n ∧ Same G H ∧ ∀ G1 H1, Adv [] G H G1 H1 → Q (.bl (prB n)) H1
theorem ok_law_is_prime (T : Txt K mg A) : FnOk P w K mg base CX0 1 A.f_law_is_prime A.d_law_is_prime ["number"] (spPr K) := by
  refine T.F_law_is_prime.ok sc_law_is_prime (fun vs H Q E h => by first | (obtain ⟨rfl, _⟩ := h; rfl) | (obtain ⟨_, rfl, _⟩ := h; rfl) | (obtain ⟨_, _, rfl, _⟩ := h; rfl) | (obtain ⟨_, _, _, rfl, _⟩ := h; rfl) | (obtain ⟨_, _, _, _, rfl, _⟩ := h; rfl) | (obtain ⟨_, _, _, _, _, rfl, _⟩ := h; rfl) | (obtain ⟨_, _, _, _, _, _, rfl, _⟩ := h; rfl) | (obtain ⟨_, _, _, _, _, _, _, rfl, _⟩ := h; rfl) | (obtain ⟨_, _, _, _, _, _, _, _, rfl, _⟩ := h; rfl) | (obtain ⟨_, _, _, _, _, _, _, _, _, rfl, _⟩ := h; rfl) | (obtain ⟨_, _, _, _, _, _, _, _, _, _, rfl, _⟩ := h; rfl) | (obtain ⟨_, _, _, _, _, _, _, _, _, _, _, rfl, _⟩ := h; rfl) | (obtain ⟨_, _, _, _, _, _, _, _, _, _, _, _, rfl, _⟩ := h; rfl) | (obtain ⟨_, _, _, _, _, _, _, _, _, _, _, _, _, rfl, _⟩ := h; rfl) | exact wk_len h) (fun cdv AA outer s H vs Q E hr h => ?_)
  obtain ⟨n, G, rfl, hn, hn2, hG, q⟩ := h
  refine ⟨_, (pss_cons (ps_for PassesOwn.never rfl (pi_range2 (by rfl) T.z_range (pa_cons pe_int (pa_cons (pv 0) pa_nil))) (pg_name (i := 1) sc_law_is_prime.nd rfl (by first | exact Or.inl rfl | exact Or.inr rfl)) (pss_one (ps_if (pt_cmpR op_eq (pe_op op_mod (pv 0) (pv 1)) pe_int (nomark _)) (pss_one (ps_ret pe_bl)) pss_nil)))
      (pss_one (ps_ret (pe_cmpR op_gt (pv 0) pe_int (nomark _))))), ?_⟩
  try dsimp only [cxOf, Cx.nox, Cx.wish, Cx.blk]
  have hS := Sta.start (K := K) hG
  refine go_start (σ := [some (.int n), none]) rfl ?_
  walk_at "go"
  refine forR hS (fun i σ _ M => M = [] ∧ (∀ j : Nat, j < i → ¬ n % (2 + (j : Int)) = 0) ∧ ∃ u, σ = [some (.int n), u]) ⟨rfl, fun j hj => absurd hj (Nat.not_lt_zero _), _, rfl⟩ ?_ ?_
  · rintro i σ G1 M1 H1 hi e1 hS1 ⟨rfl, hok, u, rfl⟩
    walk_at "go"
    · rename_i hz
      have : prB n = false := by
        simp only [prB, Bool.and_eq_false_iff]
        left
        rw [List.all_eq_false]
        exact ⟨i, List.mem_range.mpr hi, by simp [hz]⟩
      rw [← this]
      exact q _ _ hS1.adv
    · rename_i hz
      refine Nx.mk hS1 (by walk_at "sm") ⟨rfl, fun j hj => ?_, _, rfl⟩
      by_cases e : j = i
      · rw [e]; exact hz
      · exact hok j (by omega)
  · rintro σ G1 M1 H1 e1 hS1 ⟨rfl, hok, u, rfl⟩
    walk_at "go"
    have : prB n = decide (1 < n) := by
      have ha : ((List.range (n - 2).toNat).all fun (i : Nat) => !decide (n % (2 + (i : Int)) = 0)) = true := List.all_eq_true.mpr fun i hi => by
        have := hok i (List.mem_range.mp hi)
        simp [this]
      rw [prB, ha, Bool.true_and]
    rw [← this]
    exact q _ _ hS1.adv
theorem go_pr {G0 H0 G H : Hp} {D : List Addr} {M : List (Addr × HO)} {Q : VK} {E : XK} {n : Int} (hS : Sta K G0 H0 D G M H) (h1 : n ≤ 1000000) (h2 : -1000000 ≤ n) (q : ∀ G1 H1, Same G G1 → Sta K G0 H0 D G1 M H1 → Q (.bl (prB n)) H1) : spPr K [.int n] H Q E := ⟨n, G, rfl, h1, h2, hS.gh, fun G1 H1 ad => q G1 H1 ad.gg (hS.call ad)⟩
local macro_rules | `(tactic| walk_at "s") => `(tactic| first | ((with_reducible refine' go_pr ?hS ?h1 ?h2 ?_); (case hS => assumption); (case h1 => omega); (case h2 => omega); (intro G1 H1 e1 hS1)) | fail)
def stP (n : Int) : Int := if prB n then n else n + 1
def itP : Nat → Int → Int
  | 0, n => n
  | k + 1, n => stP (itP k n)
theorem itP_fin : ∀ k : Fin 96, isB (itP 20 (2 + (k.val : Int))) = true := by decide +kernel
theorem itP_ok {v : Int} (h0 : 0 ≤ v) (h1 : v < 96) : isB (itP 20 (2 + v)) = true := by
  have := itP_fin ⟨v.toNat, by omega⟩
  have e : ((v.toNat : Nat) : Int) = v := Int.toNat_of_nonneg h0
  simpa [e] using this
theorem itP_bd {v : Int} (h0 : 0 ≤ v) (h1 : v < 96) : ∀ k : Nat, 2 ≤ itP k (2 + v) ∧ itP k (2 + v) ≤ 98 + k
  | 0 => ⟨by show 2 ≤ 2 + v; omega, by show 2 + v ≤ 98 + 0; omega⟩
  | k + 1 => by
    have := itP_bd h0 h1 k
    show 2 ≤ stP (itP k (2 + v)) ∧ stP (itP k (2 + v)) ≤ 98 + ((k + 1 : Nat) : Int)
    unfold stP
    split <;> omega
theorem isB_23 {v : Int} (h0 : 0 ≤ v) (h1 : v < 2) : isB (2 + v) = true := by
  have : v = 0 ∨ v = 1 := by omega
  rcases this with rfl | rfl <;> decide
def spPrime (K : PySem.W.Frag) : Sp := fun vs H Q _ => ∃ (a r : Addr) (at_ : Int) (G : Hp), vs = [.ref a] ∧ Same G H ∧ G a = none ∧ H a = some (drw r at_) ∧ RowOk K G r ∧ 0 ≤ at_ ∧ at_ ≤ 900000000 ∧
  ∀ p at' G1 H1, Adv [a] G H G1 H1 → H1 a = some (drw r at') → at_ ≤ at' → at' ≤ at_ + 2 → isB p = true → Q (.int p) H1
theorem ok_law_prime (T : Txt K mg A) : FnOk P w K mg base CX0 2 A.f_law_prime A.d_law_prime ["draws"] (spPrime K) := by
  have G_law_is_prime := ok_law_is_prime (P := P) (w := w) (base := base) T
  have G_law_next := ok_law_next (P := P) (w := w) (base := base) T
  refine T.F_law_prime.ok sc_law_prime (fun vs H Q E h => by first | (obtain ⟨rfl, _⟩ := h; rfl) | (obtain ⟨_, rfl, _⟩ := h; rfl) | (obtain ⟨_, _, rfl, _⟩ := h; rfl) | (obtain ⟨_, _, _, rfl, _⟩ := h; rfl) | (obtain ⟨_, _, _, _, rfl, _⟩ := h; rfl) | (obtain ⟨_, _, _, _, _, rfl, _⟩ := h; rfl) | (obtain ⟨_, _, _, _, _, _, rfl, _⟩ := h; rfl) | (obtain ⟨_, _, _, _, _, _, _, rfl, _⟩ := h; rfl) | (obtain ⟨_, _, _, _, _, _, _, _, rfl, _⟩ := h; rfl) | (obtain ⟨_, _, _, _, _, _, _, _, _, rfl, _⟩ := h; rfl) | (obtain ⟨_, _, _, _, _, _, _, _, _, _, rfl, _⟩ := h; rfl) | (obtain ⟨_, _, _, _, _, _, _, _, _, _, _, rfl, _⟩ := h; rfl) | (obtain ⟨_, _, _, _, _, _, _, _, _, _, _, _, rfl, _⟩ := h; rfl) | (obtain ⟨_, _, _, _, _, _, _, _, _, _, _, _, _, rfl, _⟩ := h; rfl) | exact wk_len h) (fun cdv AA outer s H vs Q E hr h => ?_)
  obtain ⟨a, r, at_, G, rfl, hG, hga, hA, hR, h0, h1, q⟩ := h
  refine ⟨_, (pss_cons (ps_set (i := 1) sc_law_prime.nd rfl (by first | exact Or.inl rfl | exact Or.inr rfl) (pe_call G_law_next (hr.mono (by first | decide | omega)) (by rfl) T.m_law_next T.F_law_next.kp T.b_law_next .nil pass0 (pa_cons (pv 0) (pa_cons pe_int pa_nil))))
      (pss_cons (ps_if (pt_cmpR op_lt (pv 1) pe_int (nomark _)) (pss_one (ps_ret (pe_op op_add pe_int (pv 1)))) pss_nil)
      (pss_cons (ps_set (i := 2) sc_law_prime.nd rfl (by first | exact Or.inl rfl | exact Or.inr rfl) (pe_op op_add pe_int (pe_call G_law_next (hr.mono (by first | decide | omega)) (by rfl) T.m_law_next T.F_law_next.kp T.b_law_next .nil pass0 (pa_cons (pv 0) (pa_cons pe_int pa_nil)))))
      (pss_cons (ps_for PassesOwn.never rfl (pi_range1 (by rfl) T.z_range (pa_cons pe_int pa_nil)) (pg_name (i := 3) sc_law_prime.nd rfl (by first | exact Or.inl rfl | exact Or.inr rfl)) (pss_one (ps_if (pt_not (pt_val (pe_call G_law_is_prime (hr.mono (by first | decide | omega)) (by rfl) T.m_law_is_prime T.F_law_is_prime.kp T.b_law_is_prime .nil pass0 (pa_cons (pv 2) pa_nil)))) (pss_one (ps_set (i := 2) sc_law_prime.nd rfl (by first | exact Or.inl rfl | exact Or.inr rfl) (pe_op op_add (pv 2) pe_int))) pss_nil)))
      (pss_one (ps_ret (pv 2))))))), ?_⟩
  try dsimp only [cxOf, Cx.nox, Cx.wish, Cx.blk]
  have hS := Sta.start1 (K := K) hG hA hga
  refine go_start (σ := [some (.ref a), none, none, none]) rfl ?_
  walk_at "go"
  · rename_i v H1 hv0 hv1 hS1 hv2
    exact q _ _ _ _ hS1.adv (hS1.get (i := 0) rfl) (by omega) (by omega) (isB_23 hv0 hv2)
  · rename_i v H1 hv0 hv1 hS1 hv2 u H2 hu0 hu1 hS2
    refine forR hS2 (fun i σ _ M => M = [(a, drw r (at_ + 1 + 1))] ∧ ∃ w, σ = [some (.ref a), some (.int v), some (.int (itP i (2 + u))), w]) ⟨rfl, _, rfl⟩ ?_ ?_
    · rintro i σ G3 M3 H3 hi e3 hS3 ⟨rfl, w, rfl⟩
      have hi' : i < 20 := hi
      have hb := itP_bd hu0 hu1 i
      walk_at "go"
      refine go_iteBN (fun hp => ?_) (fun hp => ?_)
      · walk_at "go"
        refine Nx.mk (by assumption) (by walk_at "sm") ⟨rfl, some (.int (0 + (i : Int))), ?_⟩
        have : itP (i + 1) (2 + u) = itP i (2 + u) + 1 := by show stP _ = _; rw [stP, hp]; rfl
        rw [this]
      · walk_at "go"
        refine Nx.mk (by assumption) (by walk_at "sm") ⟨rfl, some (.int (0 + (i : Int))), ?_⟩
        have : itP (i + 1) (2 + u) = itP i (2 + u) := by show stP _ = _; rw [stP, hp]; rfl
        rw [this]
    · rintro σ G3 M3 H3 e3 hS3 ⟨rfl, w, rfl⟩
      walk_at "go"
      exact q _ _ _ _ hS3.adv (hS3.get (i := 0) rfl) (by omega) (by omega) (itP_ok hu0 hu1)
theorem go_prime {G0 H0 G H : Hp} {D : List Addr} {M : List (Addr × HO)} {Q : VK} {E : XK} {a r : Addr} {at_ : Int} {i : Nat} (hS : Sta K G0 H0 D G M H) (hi : M[i]? = some (a, drw r at_)) (hr : RowOk K G r) (h0 : 0 ≤ at_) (h1 : at_ ≤ 900000000)
    (q : ∀ p at' G1 H1, at_ ≤ at' → at' ≤ at_ + 2 → isB p = true → Same G G1 → Sta K G0 H0 D G1 (M.set i (a, drw r at')) H1 → Q (.int p) H1) : spPrime K [.ref a] H Q E :=
  ⟨a, r, at_, G, rfl, hS.gh, (hS.mh _ (List.mem_of_getElem? hi)).2.1, hS.get hi, hr, h0, h1, fun p at' G1 H1 ad h1 h2 h3 h4 => q p at' G1 H1 h2 h3 h4 ad.gg (hS.callM hi ad h1)⟩
def spDrawn (K : PySem.W.Frag) : Sp := fun vs H Q _ => ∃ (a r : Addr) (at_ b hh w' : Int) (G : Hp), vs = [.ref a, .int b, .int hh, .int w'] ∧ Same G H ∧ G a = none ∧ H a = some (drw r at_) ∧ RowOk K G r ∧ 0 ≤ at_ ∧ at_ ≤ 900000000 ∧ 0 < b ∧ 0 ≤ hh ∧ hh ≤ 12 ∧ 0 ≤ w' ∧ w' ≤ 12 ∧
  ∀ p rs at' G1 H1, Adv [a] G H G1 H1 → H1 a = some (drw r at') → at_ ≤ at' → at' ≤ at_ + 200 → okRs b hh w' rs → (∃ vs, G1 p = some (.lst vs) ∧ Paired (RawI G1) vs rs) → Q (.ref p) H1
theorem ok_law_drawn (T : Txt K mg A) : FnOk P w K mg base CX0 2 A.f_law_drawn A.d_law_drawn ["draws", "base", "height", "width"] (spDrawn K) := by
  have G_law_next := ok_law_next (P := P) (w := w) (base := base) T
  refine T.F_law_drawn.ok sc_law_drawn (fun vs H Q E h => by first | (obtain ⟨rfl, _⟩ := h; rfl) | (obtain ⟨_, rfl, _⟩ := h; rfl) | (obtain ⟨_, _, rfl, _⟩ := h; rfl) | (obtain ⟨_, _, _, rfl, _⟩ := h; rfl) | (obtain ⟨_, _, _, _, rfl, _⟩ := h; rfl) | (obtain ⟨_, _, _, _, _, rfl, _⟩ := h; rfl) | (obtain ⟨_, _, _, _, _, _, rfl, _⟩ := h; rfl) | (obtain ⟨_, _, _, _, _, _, _, rfl, _⟩ := h; rfl) | (obtain ⟨_, _, _, _, _, _, _, _, rfl, _⟩ := h; rfl) | (obtain ⟨_, _, _, _, _, _, _, _, _, rfl, _⟩ := h; rfl) | (obtain ⟨_, _, _, _, _, _, _, _, _, _, rfl, _⟩ := h; rfl) | (obtain ⟨_, _, _, _, _, _, _, _, _, _, _, rfl, _⟩ := h; rfl) | (obtain ⟨_, _, _, _, _, _, _, _, _, _, _, _, rfl, _⟩ := h; rfl) | (obtain ⟨_, _, _, _, _, _, _, _, _, _, _, _, _, rfl, _⟩ := h; rfl) | exact wk_len h) (fun cdv AA outer s H vs Q E hr h => ?_)
  obtain ⟨a, r, at_, b, hh, w', G, rfl, hG, hga, hA, hR, h0, h1, hb, hh0, hh1, hw0, hw1, q⟩ := h
  refine ⟨_, (pss_cons (ps_set (i := 4) sc_law_drawn.nd rfl (by first | exact Or.inl rfl | exact Or.inr rfl) (pe_call G_law_next (hr.mono (by first | decide | omega)) (by rfl) T.m_law_next T.F_law_next.kp T.b_law_next .nil pass0 (pa_cons (pv 0) (pa_cons pe_int pa_nil))))
      (pss_cons (ps_set (i := 5) sc_law_drawn.nd rfl (by first | exact Or.inl rfl | exact Or.inr rfl) (pe_lst pa_nil))
      (pss_cons (ps_for PassesOwn.never rfl (pi_range1 (by rfl) T.z_range (pa_cons (pv 2) pa_nil)) (pg_name (i := 6) sc_law_drawn.nd rfl (by first | exact Or.inl rfl | exact Or.inr rfl)) (pss_cons (ps_set (i := 7) sc_law_drawn.nd rfl (by first | exact Or.inl rfl | exact Or.inr rfl) (pe_lst pa_nil))
      (pss_cons (ps_for PassesOwn.never rfl (pi_range1 (by rfl) T.z_range (pa_cons (pv 3) pa_nil)) (pg_name (i := 8) sc_law_drawn.nd rfl (by first | exact Or.inl rfl | exact Or.inr rfl)) (pss_cons (ps_set (i := 9) sc_law_drawn.nd rfl (by first | exact Or.inl rfl | exact Or.inr rfl) (pe_call G_law_next (hr.mono (by first | decide | omega)) (by rfl) T.m_law_next T.F_law_next.kp T.b_law_next .nil pass0 (pa_cons (pv 0) (pa_cons pe_int pa_nil))))
      (pss_cons (ps_if (PW.pt (pw_and (pt_cmpR op_eq (pv 4) pe_int (nomark _)) (pw_and1 (pt_cmpR op_lt (pe_op op_fdiv (pv 9) pe_int) pe_int (nomark _))))) (pss_one (ps_set (i := 9) sc_law_drawn.nd rfl (by first | exact Or.inl rfl | exact Or.inr rfl) pe_int)) pss_nil)
      (pss_cons (ps_if (pt_cmpR op_eq (pv 4) pe_int (nomark _)) (pss_one (ps_set (i := 9) sc_law_drawn.nd rfl (by first | exact Or.inl rfl | exact Or.inr rfl) (pe_op op_fdiv (pv 9) pe_int))) pss_nil)
      (pss_one (ps_expr (pe_bm PySem.F.plainAttrs_list PySem.F.slot_list_append PySem.F.type_list_append mt_append (pv 7) (pa_cons (pe_op op_mod (pe_callTy (T := "int") b_int (by rfl) T.z_int (by decide +kernel) (pa_cons (pv 9) pa_nil)) (pv 1)) pa_nil))))))))
      (pss_one (ps_expr (pe_bm PySem.F.plainAttrs_list PySem.F.slot_list_append PySem.F.type_list_append mt_append (pv 5) (pa_cons (pv 7) pa_nil)))))))
      (pss_one (ps_ret (pv 5)))))), ?_⟩
  try dsimp only [cxOf, Cx.nox, Cx.wish, Cx.blk]
  have hS := Sta.start1 (K := K) hG hA hga
  refine go_start (σ := [some (.ref a), some (.int b), some (.int hh), some (.int w'), none, none, none, none, none, none]) rfl ?_
  walk_at "go"
  rename_i kd H1 hk0 hk1 hS1
  refine go_mutL hS1 (sz (by simp)) fun L H2 l0 lg hS2 => ?_
  walk_at "go"
  refine forR hS2 (fun i σ G3 M3 => ∃ (vs : List V) (rs : List (List Int)) (at' : Int) (u6 u7 u8 u9 : Option V), M3 = [(L, .lst vs), (a, drw r at')] ∧ Paired (RawI G3) vs rs ∧ rs.length = i ∧ (∀ r ∈ rs, (r.length : Int) = w' ∧ ∀ e ∈ r, 0 ≤ e ∧ e < b) ∧ at_ ≤ at' ∧ at' ≤ at_ + 1 + 12 * i ∧
    σ = [some (.ref a), some (.int b), some (.int hh), some (.int w'), some (.int kd), some (.ref L), u6, u7, u8, u9]) ⟨[], [], _, _, _, _, _, rfl, .nil, rfl, fun r hr => by simp at hr, by omega, by omega, rfl⟩ ?_ ?_
  · rintro i σ G3 M3 H3 hi e3 hS3 ⟨vs, rs, at', u6, u7, u8, u9, rfl, hvs, hrs, hok, ha0, ha1, rfl⟩
    have hi' : i < 12 := by omega
    have hvl : vs.length = rs.length := hvs.length
    walk_at "go"
    refine go_mutL hS3 (sz (by simp)) fun R H4 r0 rg hS4 => ?_
    walk_at "go"
    refine forR hS4 (fun j σ G5 M5 => ∃ (es : List Int) (at2 : Int) (v8 v9 : Option V), M5 = [(R, .lst (es.map .int)), (L, .lst vs), (a, drw r at2)] ∧ es.length = j ∧ (∀ e ∈ es, 0 ≤ e ∧ e < b) ∧ at' ≤ at2 ∧ at2 ≤ at' + j ∧
      σ = [some (.ref a), some (.int b), some (.int hh), some (.int w'), some (.int kd), some (.ref L), some (.int (0 + (i : Int))), some (.ref R), v8, v9]) ⟨[], at', _, _, rfl, rfl, fun e he => by simp at he, by omega, by omega, rfl⟩ ?_ ?_
    · rintro j σ G5 M5 H5 hj e5 hS5 ⟨es, at2, v8, v9, rfl, hes, heo, hb0, hb1, rfl⟩
      have hj' : j < 12 := by omega
      have hel : (es.map V.int).length < 100000 := by simp; omega
      have fin : ∀ (x : Int) (z8 z9 : Option V) H6, Sta K G H [a] G5 [(R, .lst (es.map .int ++ [.int (x % b)])), (L, .lst vs), (a, drw r (at2 + 1))] H6 →
          Nx K G H [a] G3 (fun σ G5 M5 => ∃ (es : List Int) (at2 : Int) (v8 v9 : Option V), M5 = [(R, .lst (es.map .int)), (L, .lst vs), (a, drw r at2)] ∧ es.length = j + 1 ∧ (∀ e ∈ es, 0 ≤ e ∧ e < b) ∧ at' ≤ at2 ∧ at2 ≤ at' + ((j + 1 : Nat) : Int) ∧
            σ = [some (.ref a), some (.int b), some (.int hh), some (.int w'), some (.int kd), some (.ref L), some (.int (0 + (i : Int))), some (.ref R), v8, v9]) [some (.ref a), some (.int b), some (.int hh), some (.int w'), some (.int kd), some (.ref L), some (.int (0 + (i : Int))), some (.ref R), z8, z9] H6 := fun x z8 z9 H6 s => by
        refine Nx.mk s e5 ⟨es ++ [x % b], _, _, _, by rw [List.map_append]; rfl, by simp [hes], fun e he => ?_, by omega, by omega, rfl⟩
        rcases List.mem_append.mp he with he | he
        · exact heo e he
        · rw [List.mem_singleton.mp he]
          exact ⟨Int.emod_nonneg _ (by omega), Int.emod_lt_of_pos _ hb⟩
      walk_at "go"
      all_goals exact fin _ _ _ _ (by assumption)
    · rintro σ G5 M5 H5 e5 hS5 ⟨es, at2, v8, v9, rfl, hes, heo, hb0, hb1, rfl⟩
      obtain ⟨hS6, e6⟩ := hS5.frz r0
      have hR6 : RawI (upd G5 R (.lst (es.map .int))) (.ref R) es := ⟨R, rfl, upd_same⟩
      have hvl2 : vs.length < 100000 := by omega
      walk_at "go"
      refine Nx.mk (by assumption) (by walk_at "sm") ⟨_, rs ++ [es], at2, _, _, _, _, rfl, pairedI_snoc hR6 (pairedI_up (by walk_at "sm") hvs), by simp [hrs], fun r hr => ?_, by omega, by omega, rfl⟩
      rcases List.mem_append.mp hr with hr | hr
      · exact hok r hr
      · rw [List.mem_singleton.mp hr]
        exact ⟨by omega, heo⟩
  · rintro σ G3 M3 H3 e3 hS3 ⟨vs, rs, at', u6, u7, u8, u9, rfl, hvs, hrs, hok, ha0, ha1, rfl⟩
    walk_at "go"
    obtain ⟨hS4, e4⟩ := hS3.frz l0
    exact q L rs at' _ _ hS4.adv (hS4.get (i := 0) rfl) ha0 (by omega) ⟨by omega, hok⟩ ⟨vs, upd_same, pairedI_up e4 hvs⟩
theorem go_drawn {G0 H0 G H : Hp} {D : List Addr} {M : List (Addr × HO)} {Q : VK} {E : XK} {a r : Addr} {at_ b hh w' : Int} {i : Nat} (hS : Sta K G0 H0 D G M H) (hi : M[i]? = some (a, drw r at_)) (hr : RowOk K G r) (h0 : 0 ≤ at_) (h1 : at_ ≤ 900000000) (hb : 0 < b) (hh0 : 0 ≤ hh) (hh1 : hh ≤ 12) (hw0 : 0 ≤ w') (hw1 : w' ≤ 12)
    (q : ∀ p rs at' G1 H1, at_ ≤ at' → at' ≤ at_ + 200 → okRs b hh w' rs → Same G G1 → Sta K G0 H0 D G1 (M.set i (a, drw r at')) H1 → (∃ vs, G1 p = some (.lst vs) ∧ Paired (RawI G1) vs rs) → Q (.ref p) H1) : spDrawn K [.ref a, .int b, .int hh, .int w'] H Q E :=
  ⟨a, r, at_, b, hh, w', G, rfl, hS.gh, (hS.mh _ (List.mem_of_getElem? hi)).2.1, hS.get hi, hr, h0, h1, hb, hh0, hh1, hw0, hw1, fun p rs at' G1 H1 ad h1 h2 h3 h4 h5 => q p rs at' G1 H1 h2 h3 h4 ad.gg (hS.callM hi ad h1) h5⟩
local macro_rules | `(tactic| walk_at "s") => `(tactic| first | ((with_reducible refine' go_same (G := ?G) (d := ?d) ?hS ?hx ?hy ?hd ?_); (case hS => assumption); (case hx => walk_at "rp"); (case hy => walk_at "rp"); (case hd => first | exact rfl | assumption); (intro G1 H1 e1 hS1)) | fail)
local macro_rules | `(tactic| walk_at "s") => `(tactic| first | ((with_reducible refine' go_last (G := ?G) (b := ?b) (dims := ?d) (ms := ?m) ?hS ?hx ?_); (case hS => assumption); (case hx => walk_at "rp")) | fail)
local macro_rules | `(tactic| walk_at "s") => `(tactic| first | ((with_reducible refine' go_dim (G := ?G) (b := ?b) (dims := ?d) (ms := ?m) ?hS ?hx ?ok ?_); (case hS => assumption); (case hx => walk_at "rp"); (case ok => assumption)) | fail)
/-! ### a == b of two rows -/
theorem go_eqTI {K : PySem.W.Frag} {G H : Hp} {Q : VK} {x y : V} {as bs : List Int} (hx : Rp K G x (.tup (as.map .int))) (hy : Rp K G y (.tup (bs.map .int))) (e : Same G H) (ha : as.length ≤ 100000) (hb : bs.length ≤ 100000) (k : Q (.bl (decide (as = bs))) H) : rEqD K x y H Q := by
  refine ⟨_, _, Rp.dp (okE_okD (okE_tints as ha)) (hx.up e), Rp.dp (okE_okD (okE_tints bs hb)) (hy.up e), shaped_toPy (okE_tints as ha) (by decide), shaped_toPy (okE_tints bs hb) (by decide), ?_⟩
  have : PyData.eqv (toPy (.tup (as.map .int))) (toPy (.tup (bs.map .int))) = decide (as = bs) := eqv_ints as bs
  rw [this]
  exact k
theorem tup_one {X : Cx} {pins : List (Addr × Obj)} {σ : L2.St} {H : Hp} {s : Shared} {a : Addr} {xs ys : List V} (I : L2.Inv X pins σ H s) (h1 : SqT X.K H a xs) (h2 : SqT X.K H a ys) : xs = ys := I.tuple_inj h1 h2
theorem row_one {X : Cx} {pins : List (Addr × Obj)} {σ : L2.St} {H : Hp} {s : Shared} {v : V} {r t : List Int} (I : L2.Inv X pins σ H s) (h1 : Rp X.K H v (rowD r)) (h2 : Rp X.K H v (rowD t)) : r = t := by
  obtain ⟨a, xs, rfl, e1, r1⟩ := Rp.tup_inv h1
  obtain ⟨b, ys, e0, e2, r2⟩ := Rp.tup_inv h2
  cases e0
  have := tup_one I e1 e2
  subst this
  have h1 := r1.ints_inv
  rw [r2.ints_inv] at h1
  have : (t.map V.int).map (fun v => match v with | .int i => i | _ => 0) = (r.map V.int).map (fun v => match v with | .int i => i | _ => 0) := by rw [h1]
  simpa [Function.comp_def] using this.symm
theorem rows_one {X : Cx} {pins : List (Addr × Obj)} {σ : L2.St} {H : Hp} {s : Shared} (I : L2.Inv X pins σ H s) : ∀ {vs : List V} {rs ts : List (List Int)}, RpAll X.K H vs (rs.map rowD) → RpAll X.K H vs (ts.map rowD) → rs = ts
  | [], rs, ts, h1, h2 => by
    have l1 := h1.length
    have l2 := h2.length
    simp at l1 l2
    rw [List.eq_nil_of_length_eq_zero l1.symm, List.eq_nil_of_length_eq_zero l2.symm]
  | v :: vs, r :: rs, t :: ts, h1, h2 => by
    cases h1 with
    | cons a1 b1 => cases h2 with
      | cons a2 b2 => rw [row_one I a1 a2, rows_one I b1 b2]
  | v :: vs, [], _, h1, _ => by cases h1
  | v :: vs, _ :: _, [], _, h2 => by cases h2
theorem mat_one {X : Cx} {pins : List (Addr × Obj)} {σ : L2.St} {H : Hp} {s : Shared} {C : Addr} {v : V} {b w' b2 w2 : Int} {rs qs : List (List Int)} (I : L2.Inv X pins σ H s) (h1 : Rp X.K H v (matD C b w' rs)) (h2 : Rp X.K H v (matD C b2 w2 qs)) : b = b2 ∧ w' = w2 ∧ rs = qs := by
  obtain ⟨a, dx, fs, rfl, e1, r1⟩ := Rp.ins_inv h1
  obtain ⟨a2, dx2, fs2, e0, e2, r2⟩ := Rp.ins_inv h2
  cases e0
  rw [e1] at e2
  cases e2
  simp only [matF] at r1 r2
  cases r1 with
  | cons a1 r1 => cases r1 with
    | cons a2 r1 => cases r1 with
      | cons a3 r1 => cases r2 with
        | cons c1 r2 => cases r2 with
          | cons c2 r2 => cases r2 with
            | cons c3 r2 =>
              obtain rfl := Rp.int_inv a1
              obtain rfl := Rp.int_inv a2
              have z1 := Rp.int_inv c1
              have z2 := Rp.int_inv c2
              cases z1
              cases z2
              obtain ⟨p, xs, rfl, t1, u1⟩ := Rp.tup_inv a3
              obtain ⟨p2, ys, z3, t2, u2⟩ := Rp.tup_inv c3
              cases z3
              have := tup_one I t1 t2
              subst this
              exact ⟨rfl, rfl, rows_one I u1 u2⟩
def RMat (K : PySem.W.Frag) (C : Addr) (a a' : Addr) (r : Bool) (H : Hp) : Prop := ∃ b w' rs b2 w2 qs, Rp K H (.ref a) (matD C b w' rs) ∧ Rp K H (.ref a') (matD C b2 w2 qs) ∧ WM b w' rs ∧ WM b2 w2 qs ∧ r = eqM b w' rs b2 w2 qs
theorem mat_imp {C : Addr} (vs : List V) (H : Hp) (Q : VK) (E : XK) (h : spEqB (RMat K C) vs H Q E) : spEqM K C vs H Q E := by
  obtain ⟨a, b, r, rfl, ⟨b1, w1, rs, b2, w2, qs, h1, h2, h3, h4, rfl⟩, q⟩ := h
  exact ⟨_, _, H, b1, w1, rs, b2, w2, qs, rfl, Same.refl H, h1, h2, h3, h4, q H (Same.refl H)⟩
theorem mat_mon {C : Addr} : MonB (DInsB C (RMat K C)) := fun x y r H H' e ⟨a, b, dx, dy, fs, gs, e1, e2, h1, h2, b1, w1, rs, b2, w2, qs, a1, a2, a3, a4, a5⟩ => ⟨a, b, dx, dy, fs, gs, e1, e2, e _ _ h1, e _ _ h2, b1, w1, rs, b2, w2, qs, a1.up e, a2.up e, a3, a4, a5⟩
theorem mat_self {X : Cx} {C : Addr} : OneB X (DInsB C (RMat X.K C)) := fun pins σ H s a r I ⟨a1, a2, dx, dy, fs, gs, e1, e2, h1, h2, b1, w1, rs, b2, w2, qs, c1, c2, c3, c4, c5⟩ => by
  cases e1
  cases e2
  obtain ⟨rfl, rfl, rfl⟩ := mat_one I c1 c2
  rw [c5]
  simp [eqM]
theorem mat_refs {C : Addr} : ∀ x y r H, DInsB C (RMat K C) x y r H → ∃ a b, x = .ref a ∧ y = .ref b := fun x y r H ⟨a, b, _, _, _, _, e1, e2, _⟩ => ⟨a, b, e1, e2⟩
abbrev M3 := Int × Int × List (List Int)
theorem mats_eq : ∀ (ss ts : List M3), (((List.range (min ss.length ts.length)).all fun i => eqM (ss.getD i (0, 0, [])).1 (ss.getD i (0, 0, [])).2.1 (ss.getD i (0, 0, [])).2.2 (ts.getD i (0, 0, [])).1 (ts.getD i (0, 0, [])).2.1 (ts.getD i (0, 0, [])).2.2) && (ss.length == ts.length)) = decide (ss = ts)
  | [], [] => by simp
  | [], t :: ts => by simp
  | s :: ss, [] => by simp
  | s :: ss, t :: ts => by
    have ih := mats_eq ss ts
    obtain ⟨b, w', rs⟩ := s
    obtain ⟨b2, w2, qs⟩ := t
    simp only [List.length_cons, Nat.succ_min_succ, List.range_succ_eq_map, List.all_cons, List.all_map]
    have e1 : ((fun i => eqM (((b, w', rs) :: ss).getD i (0, 0, [])).1 (((b, w', rs) :: ss).getD i (0, 0, [])).2.1 (((b, w', rs) :: ss).getD i (0, 0, [])).2.2 (((b2, w2, qs) :: ts).getD i (0, 0, [])).1 (((b2, w2, qs) :: ts).getD i (0, 0, [])).2.1 (((b2, w2, qs) :: ts).getD i (0, 0, [])).2.2) ∘ Nat.succ) = fun i => eqM (ss.getD i (0, 0, [])).1 (ss.getD i (0, 0, [])).2.1 (ss.getD i (0, 0, [])).2.2 (ts.getD i (0, 0, [])).1 (ts.getD i (0, 0, [])).2.1 (ts.getD i (0, 0, [])).2.2 := by
      funext i
      simp [List.getD]
    rw [e1, Bool.and_assoc, show (ss.length + 1 == ts.length + 1) = (ss.length == ts.length) by simp, ih]
    simp only [List.getD_cons_zero, eqM]
    rw [Bool.eq_iff_iff]
    simp [and_assoc]
theorem go_eqMats {C : Addr} {G H : Hp} {Q : VK} {x y : V} {ss ts : List M3} (hx : Rp K G x (.tup (ss.map (stD C)))) (hy : Rp K G y (.tup (ts.map (stD C)))) (e : Same G H) (h1 : ∀ s ∈ ss, WM s.1 s.2.1 s.2.2) (h2 : ∀ s ∈ ts, WM s.1 s.2.1 s.2.2) (k : ∀ H', Same H H' → Q (.bl (decide (ss = ts))) H') : rEqB (DTupB K (DInsB C (RMat K C))) x y H Q := by
  obtain ⟨a, xs, rfl, e1, r1⟩ := Rp.tup_inv (hx.up e)
  obtain ⟨b, ys, rfl, e2, r2⟩ := Rp.tup_inv (hy.up e)
  have l1 := r1.length
  have l2 := r2.length
  rw [List.length_map] at l1 l2
  refine ⟨decide (ss = ts), ⟨a, b, xs, ys, fun i => eqM (ss.getD i (0, 0, [])).1 (ss.getD i (0, 0, [])).2.1 (ss.getD i (0, 0, [])).2.2 (ts.getD i (0, 0, [])).1 (ts.getD i (0, 0, [])).2.1 (ts.getD i (0, 0, [])).2.2, rfl, rfl, e1, e2, fun i u v hu hv => ?_, by rw [l1, l2, mats_eq]⟩, k⟩
  obtain ⟨d, hd, ru⟩ := r1.getV hu
  obtain ⟨d2, hd2, rv⟩ := r2.getV hv
  rw [List.getElem?_map] at hd hd2
  cases es : ss[i]? with
  | none => rw [es] at hd; cases hd
  | some m =>
    cases et : ts[i]? with
    | none => rw [et] at hd2; cases hd2
    | some m2 =>
      rw [es] at hd
      rw [et] at hd2
      cases hd
      cases hd2
      have g1 : ss.getD i (0, 0, []) = m := by simp [List.getD, es]
      have g2 : ts.getD i (0, 0, []) = m2 := by simp [List.getD, et]
      dsimp only
      rw [g1, g2]
      obtain ⟨a1, dx, fs, rfl, g1, _⟩ := Rp.ins_inv ru
      obtain ⟨a2, dy, gs, rfl, g2, _⟩ := Rp.ins_inv rv
      exact ⟨a1, a2, dx, dy, fs, gs, rfl, rfl, g1, g2, _, _, _, _, _, _, ru, rv, h1 _ (List.mem_of_getElem? es), h2 _ (List.mem_of_getElem? et), rfl⟩
def eqR (b : Int) (dims : List Int) (ms : List (List (List Int))) (b2 : Int) (dims2 : List Int) (ms2 : List (List (List Int))) : Bool := decide (b = b2) && (decide (dims = dims2) && decide (mkS b dims ms = mkS b2 dims2 ms2))
def spEqR (K : PySem.W.Frag) (A : Ad) : Sp := fun vs H Q _ => ∃ (x y : V), vs = [x, y] ∧ ((∃ (G : Hp) (b : Int) (dims : List Int) (ms : List (List (List Int))) (b2 : Int) (dims2 : List Int) (ms2 : List (List (List Int))), Same G H ∧ Rp K G x (rowI A b dims ms) ∧ Rp K G y (rowI A b2 dims2 ms2) ∧ WR b dims ms ∧ WR b2 dims2 ms2 ∧ ∀ G1 H1, Adv [] G H G1 H1 → Q (.bl (eqR b dims ms b2 dims2 ms2)) H1) ∨
  (∃ (G : Hp) (b : Int) (dims : List Int) (ms : List (List (List Int))) (ds : List Dt), Same G H ∧ Rp K G x (rowI A b dims ms) ∧ Rp K G y (.lst ds) ∧ Q (.bl false) H))
theorem ok_Row_eq (T : Txt K mg A) : FnOk P w K mg base CX0 4 A.f_Row_eq A.d_Row_eq ["self", "other"] (spEqR K A) := by
  have G_Matrix_eq := ok_Matrix_eq (P := P) (w := w) (base := base) T
  refine T.F_Row_eq.ok sc_Row_eq (fun vs H Q E h => by first | (obtain ⟨rfl, _⟩ := h; rfl) | (obtain ⟨_, rfl, _⟩ := h; rfl) | (obtain ⟨_, _, rfl, _⟩ := h; rfl) | (obtain ⟨_, _, _, rfl, _⟩ := h; rfl) | (obtain ⟨_, _, _, _, rfl, _⟩ := h; rfl) | (obtain ⟨_, _, _, _, _, rfl, _⟩ := h; rfl) | (obtain ⟨_, _, _, _, _, _, rfl, _⟩ := h; rfl) | (obtain ⟨_, _, _, _, _, _, _, rfl, _⟩ := h; rfl) | (obtain ⟨_, _, _, _, _, _, _, _, rfl, _⟩ := h; rfl) | (obtain ⟨_, _, _, _, _, _, _, _, _, rfl, _⟩ := h; rfl) | (obtain ⟨_, _, _, _, _, _, _, _, _, _, rfl, _⟩ := h; rfl) | (obtain ⟨_, _, _, _, _, _, _, _, _, _, _, rfl, _⟩ := h; rfl) | (obtain ⟨_, _, _, _, _, _, _, _, _, _, _, _, rfl, _⟩ := h; rfl) | (obtain ⟨_, _, _, _, _, _, _, _, _, _, _, _, _, rfl, _⟩ := h; rfl) | exact wk_len h) (fun cdv AA outer s H vs Q E hr h => ?_)
  obtain ⟨x, y, rfl, h⟩ := h
  have cl := T.cl_Row
  have dc := T.dc_Row
  have n1 := T.na_Row_base
  have n2 := T.na_Row_dims
  have n3 := T.na_Row_steps
  refine ⟨_, (pss_one (ps_ret (pe_and (pe_callB (id := "isinstance") call_isi (by rfl) T.z_isinstance (by decide +kernel) (pa_cons (pv 1) (pa_cons (pe_glob (v := .ref A.C_Row) (by rfl) T.c_Row rfl) pa_nil))) (pe_and (pe_cmpR op_eq (pe_fld (pv 0) rfl) (pe_fld (pv 1) rfl) (nomark _)) (pe_and (pe_cmpR (op_eqD hr.units) (pe_fld (pv 0) rfl) (pe_fld (pv 1) rfl) (nomark _)) (pe_one (pe_cmpR (op_eqB (rcB_tup mat_mon (RcB.eqB (rcB_ins (E := fun _ _ _ => False) (G_Matrix_eq.imp mat_imp) T.eq_Matrix_eq.1 T.eq_Matrix_eq.2 T.b_Matrix_eq pass0) mat_self mat_refs)) (hr.mono (by first | decide | omega))) (pe_fld (pv 0) rfl) (pe_fld (pv 1) rfl) (nomark _)))))))), ?_⟩
  try dsimp only [cxOf, Cx.nox, Cx.wish, Cx.blk]
  rcases h with ⟨G, b, dims, ms, b2, dims2, ms2, hG, hx, hy, ok, ok2, q⟩ | ⟨G, b, dims, ms, ds, hG, hx, hy, q⟩
  · have k1 := ok.hk
    have k2 := ok2.hk
    have hS := Sta.start (K := K) hG
    refine go_start (σ := [some x, some y]) rfl ?_
    walk_at "go"
    refine go_isOwn hS hy cl dc ?_
    walk_at "go"
    · refine go_eqTI (by assumption) (by assumption) hS.gh (by omega) (by omega) ?_
      walk_at "go"
      · refine go_eqMats (by assumption) (by assumption) hS.gh (fun s hs => ok.wm hs) (fun s hs => ok2.wm hs) fun H' e' => ?_
        have : eqR b dims ms b2 dims2 ms2 = decide (mkS b dims ms = mkS b2 dims2 ms2) := by simp [eqR, *]
        rw [← this]
        exact q _ _ (hS.grow e').adv
      · have : eqR b dims ms b2 dims2 ms2 = false := by simp [eqR, *]
        rw [← this]
        exact q _ _ hS.adv
    · have : eqR b dims ms b2 dims2 ms2 = false := by simp [eqR, *]
      rw [← this]
      exact q _ _ hS.adv
  · have hS := Sta.start (K := K) hG
    refine go_start (σ := [some x, some y]) rfl ?_
    walk_at "go"
    refine go_isNot hy hS.gh (show tyD (.lst ds) ≠ "?" from (by decide : "list" ≠ "?")) T.oc_Row ?_
    walk_at "go"
    exact q
theorem go_eqR {A : Ad} {G0 H0 G H : Hp} {D : List Addr} {M : List (Addr × HO)} {Q : VK} {E : XK} {x y : V} {b b2 : Int} {dims dims2 : List Int} {ms ms2 : List (List (List Int))} (hS : Sta K G0 H0 D G M H) (hx : Rp K G x (rowI A b dims ms)) (hy : Rp K G y (rowI A b2 dims2 ms2)) (ok : WR b dims ms) (ok2 : WR b2 dims2 ms2)
    (q : ∀ G1 H1, Same G G1 → Sta K G0 H0 D G1 M H1 → Q (.bl (eqR b dims ms b2 dims2 ms2)) H1) : OPK A.C_Row (spEqR K A) E Q x y H :=
  go_opk hx hy hS.gh ⟨x, y, rfl, .inl ⟨G, b, dims, ms, b2, dims2, ms2, hS.gh, hx, hy, ok, ok2, fun G1 H1 ad => q G1 H1 ad.gg (hS.call ad)⟩⟩
theorem go_eqRx {A : Ad} {G0 H0 G H : Hp} {D : List Addr} {M : List (Addr × HO)} {Q : VK} {E : XK} {x y : V} {b : Int} {dims : List Int} {ms : List (List (List Int))} {ds : List Dt} (hS : Sta K G0 H0 D G M H) (hx : Rp K G x (rowI A b dims ms)) (hy : Rp K G y (.lst ds)) (q : Q (.bl false) H) : EQX K A.C_Row (spEqR K A) E x y H Q :=
  go_eqx hx hy hS.gh (show tyD (.lst ds) ≠ "?" from (by decide : "list" ≠ "?")) ⟨x, y, rfl, .inr ⟨G, b, dims, ms, ds, hS.gh, hx, hy, q⟩⟩
theorem eqR_len {b b2 : Int} {d1 d2 : List Int} {m1 m2 : List (List (List Int))} (h : d1.length ≠ d2.length) : eqR b d1 m1 b2 d2 m2 = false := by
  unfold eqR
  rw [decide_eq_false (p := d1 = d2) (fun e => h (by rw [e]))]
  simp
/-! ### the law's test of a matrix -/
theorem okD_rows (rs : List (List Int)) (h : rs.length ≤ 500) (h2 : ∀ r ∈ rs, r.length ≤ 500) : okD 5 (.tup (rs.map rowD)) = true := by
  simp only [okD, List.length_map, Bool.and_eq_true, decide_eq_true_eq, List.all_eq_true]
  refine ⟨by omega, fun d hd => ?_⟩
  obtain ⟨r, hr, rfl⟩ := List.mem_map.mp hd
  simp only [rowD, okD, List.length_map, Bool.and_eq_true, decide_eq_true_eq, List.all_eq_true]
  have := h2 r hr
  refine ⟨by omega, fun d hd => ?_⟩
  obtain ⟨e, _, rfl⟩ := List.mem_map.mp hd
  rfl
def spIsM (K : PySem.W.Frag) (C : Addr) : Sp := fun vs H Q _ => ∃ (x rv : V) (G : Hp) (b w' : Int) (rs : List (List Int)), vs = [x, .int b, .int w', rv] ∧ Same G H ∧ Rp K G x (matD C b w' rs) ∧ Rp K G rv (.lst (rs.map (wrD false))) ∧ rs.length ≤ 500 ∧ (∀ r ∈ rs, r.length ≤ 500) ∧ ∀ G1 H1, Adv [] G H G1 H1 → Q (.bl true) H1
theorem ok_law_is_matrix (T : Txt K mg A) : FnOk P w K mg base CX0 6 A.f_law_is_matrix A.d_law_is_matrix ["actual", "base", "width", "rows"] (spIsM K A.C_Matrix) := by
  have G_law_same := ok_law_same (P := P) (w := w) (base := base) T
  refine T.F_law_is_matrix.ok sc_law_is_matrix (fun vs H Q E h => by first | (obtain ⟨rfl, _⟩ := h; rfl) | (obtain ⟨_, rfl, _⟩ := h; rfl) | (obtain ⟨_, _, rfl, _⟩ := h; rfl) | (obtain ⟨_, _, _, rfl, _⟩ := h; rfl) | (obtain ⟨_, _, _, _, rfl, _⟩ := h; rfl) | (obtain ⟨_, _, _, _, _, rfl, _⟩ := h; rfl) | (obtain ⟨_, _, _, _, _, _, rfl, _⟩ := h; rfl) | (obtain ⟨_, _, _, _, _, _, _, rfl, _⟩ := h; rfl) | (obtain ⟨_, _, _, _, _, _, _, _, rfl, _⟩ := h; rfl) | (obtain ⟨_, _, _, _, _, _, _, _, _, rfl, _⟩ := h; rfl) | (obtain ⟨_, _, _, _, _, _, _, _, _, _, rfl, _⟩ := h; rfl) | (obtain ⟨_, _, _, _, _, _, _, _, _, _, _, rfl, _⟩ := h; rfl) | (obtain ⟨_, _, _, _, _, _, _, _, _, _, _, _, rfl, _⟩ := h; rfl) | (obtain ⟨_, _, _, _, _, _, _, _, _, _, _, _, _, rfl, _⟩ := h; rfl) | exact wk_len h) (fun cdv AA outer s H vs Q E hr h => ?_)
  obtain ⟨x, rv, G, b, w', rs, rfl, hG, hx, hrv, hl, hl2, q⟩ := h
  have cl := T.cl_Matrix
  have dc := T.dc_Matrix
  have n1 := T.na_Matrix_base
  have n2 := T.na_Matrix_width
  have n3 := T.na_Matrix_rows
  refine ⟨_, (pss_cons (ps_if (PW.pt (pw_or (pt_not (pt_val (pe_callB (id := "isinstance") call_isi (by rfl) T.z_isinstance (by decide +kernel) (pa_cons (pv 0) (pa_cons (pe_glob (v := .ref A.C_Matrix) (by rfl) T.c_Matrix rfl) pa_nil))))) (pw_or (pt_not (pt_val (pe_call G_law_same (hr.mono (by first | decide | omega)) (by rfl) T.m_law_same T.F_law_same.kp T.b_law_same .nil pass0 (pa_cons (pe_fld (pv 0) rfl) (pa_cons (pv 1) pa_nil))))) (pw_or1 (pt_not (pt_val (pe_call G_law_same (hr.mono (by first | decide | omega)) (by rfl) T.m_law_same T.F_law_same.kp T.b_law_same .nil pass0 (pa_cons (pe_fld (pv 0) rfl) (pa_cons (pv 2) pa_nil))))))))) (pss_one (ps_ret pe_bl)) pss_nil)
      (pss_one (ps_ret (pe_call G_law_same (hr.mono (by first | decide | omega)) (by rfl) T.m_law_same T.F_law_same.kp T.b_law_same .nil pass0 (pa_cons (pe_fld (pv 0) rfl) (pa_cons (pe_callTy (T := "tuple") b_tuple (by rfl) T.z_tuple (by decide +kernel) (pa_cons (pe_lc (own := [("row", 4)]) (g := gName 4) rfl sc_law_is_matrix.nd (pi_list (pv 3)) (blkOk_by (N := ["actual", "base", "width", "rows", "row"]) (sc := defScope s_law_is_matrix) (by decide +kernel)) (fun _ _ _ _ _ => pg_name (i := 4) sc_law_is_matrix.nd rfl (by first | exact Or.inl rfl | exact Or.inr rfl)) (fun _ _ _ _ _ => pts_nil) (fun _ _ _ _ _ => (pe_callTy (T := "tuple") (show CallR _ _ (rTupOf_ K) from b_tuple) (by rfl) T.z_tuple (by decide +kernel) (pa_cons (pv 4) pa_nil)))) pa_nil)) pa_nil)))))), ?_⟩
  try dsimp only [cxOf, Cx.nox, Cx.wish, Cx.blk]
  have hS := Sta.start (K := K) hG
  refine go_start (σ := [some x, some (.int b), some (.int w'), some rv, none]) rfl ?_
  walk_at "go"
  refine go_isOwn hS hx cl dc ?_
  walk_at "go"
  rename_i hqa hra
  refine lcMapL (Da := wrD false) (F := rowD) (as := rs) (by assumption) (by walk_at "rp") (by walk_at "rp") (by omega) ?_ ?_
  · intro z c L G4 vs es H4 Z hc hz e4 l0 hS4 hvs fin
    have hz' : Rp K G4 z (.lst (c.map .int)) := hz
    walk_at "go"
    exact fin _ _ _ (by assumption) (by assumption) (by assumption)
  · intro p G4 H4 e4 hS4 hr4
    have okd := okD_rows rs hl hl2
    walk_at "go"
    exact q _ _ (Sta.adv (by assumption))
theorem go_isM {A : Ad} {G0 H0 G H : Hp} {D : List Addr} {M : List (Addr × HO)} {Q : VK} {E : XK} {x rv : V} {b w' : Int} {rs : List (List Int)} (hS : Sta K G0 H0 D G M H) (hx : Rp K G x (matD A.C_Matrix b w' rs)) (hr : Rp K G rv (.lst (rs.map (wrD false)))) (ok : WM b w' rs) (q : ∀ G1 H1, Same G G1 → Sta K G0 H0 D G1 M H1 → Q (.bl true) H1) : spIsM K A.C_Matrix [x, .int b, .int w', rv] H Q E :=
  ⟨x, rv, G, b, w', rs, rfl, hS.gh, hx, hr, ok.2.1, fun r hm => ok.rl hm, fun G1 H1 ad => q G1 H1 ad.gg (hS.call ad)⟩
/-! ### the law's identity, product -/
def msD (rs : List (List Int)) : Dt := .lst (rs.map (wrD false))
def RawM (G : Hp) (p : Addr) (rs : List (List Int)) : Prop := ∃ vs, G p = some (.lst vs) ∧ Paired (RawI G) vs rs
theorem RawM.up {G G' : Hp} {p : Addr} {rs : List (List Int)} (e : Same G G') (h : RawM G p rs) : RawM G' p rs := by
  obtain ⟨vs, h1, h2⟩ := h
  exact ⟨vs, e _ _ h1, pairedI_up e h2⟩
theorem RawM.rp {K : PySem.W.Frag} {G : Hp} {p : Addr} {rs : List (List Int)} (h : RawM G p rs) : Rp K G (.ref p) (msD rs) := by
  obtain ⟨vs, h1, h2⟩ := h
  exact .lst (.inl (.inl h1)) (pairedI_rp h2)
/-! ### the law's rows -/
theorem WR.ne {b : Int} {dims : List Int} {ms : List (List (List Int))} (h : WR b dims ms) : dims ≠ [] := fun e => by
  have := h.hl
  rw [e] at this
  simp at this
def spMadeRow (K : PySem.W.Frag) (A : Ad) : Sp := fun vs H Q _ => ∃ (b : Int) (dv sv : V) (G : Hp) (dims : List Int) (ms : List (List (List Int))), vs = [.int b, dv, sv] ∧ Same G H ∧ Rp K G dv (.lst (dims.map .int)) ∧ Rp K G sv (.lst (ms.map msD)) ∧ WR b dims ms ∧ ∀ y G1 H1, Adv [] G H G1 H1 → Rp K G1 y (rowI A b dims ms) → Q y H1
theorem ok_law_made_row (T : Txt K mg A) : FnOk P w K mg base CX0 6 A.f_law_made_row A.d_law_made_row ["base", "dims", "steps"] (spMadeRow K A) := by
  have G_Matrix_init := ok_Matrix_init (P := P) (w := w) (base := base) T
  have G_Row_init := ok_Row_init (P := P) (w := w) (base := base) T
  refine T.F_law_made_row.ok sc_law_made_row (fun vs H Q E h => by first | (obtain ⟨rfl, _⟩ := h; rfl) | (obtain ⟨_, rfl, _⟩ := h; rfl) | (obtain ⟨_, _, rfl, _⟩ := h; rfl) | (obtain ⟨_, _, _, rfl, _⟩ := h; rfl) | (obtain ⟨_, _, _, _, rfl, _⟩ := h; rfl) | (obtain ⟨_, _, _, _, _, rfl, _⟩ := h; rfl) | (obtain ⟨_, _, _, _, _, _, rfl, _⟩ := h; rfl) | (obtain ⟨_, _, _, _, _, _, _, rfl, _⟩ := h; rfl) | (obtain ⟨_, _, _, _, _, _, _, _, rfl, _⟩ := h; rfl) | (obtain ⟨_, _, _, _, _, _, _, _, _, rfl, _⟩ := h; rfl) | (obtain ⟨_, _, _, _, _, _, _, _, _, _, rfl, _⟩ := h; rfl) | (obtain ⟨_, _, _, _, _, _, _, _, _, _, _, rfl, _⟩ := h; rfl) | (obtain ⟨_, _, _, _, _, _, _, _, _, _, _, _, rfl, _⟩ := h; rfl) | (obtain ⟨_, _, _, _, _, _, _, _, _, _, _, _, _, rfl, _⟩ := h; rfl) | exact wk_len h) (fun cdv AA outer s H vs Q E hr h => ?_)
  obtain ⟨b, dv, sv, G, dims, ms, rfl, hG, hd, hs, ok, q⟩ := h
  refine ⟨_, (pss_one (ps_ret (pe_makeS  T.mk_Row G_Row_init (hr.mono (by first | decide | omega)) (by rfl) T.c_Row T.b_Row_init (fun σ => passN σ) (pa_cons (pv 0) (pa_cons (pv 1) (pa_cons (pe_lc (own := [("time", 3)]) (g := gName 3) rfl sc_law_made_row.nd (pi_range1 (by rfl) T.z_range (pa_cons (pe_callB (id := "len") b_len (by rfl) T.z_len (by decide +kernel) (pa_cons (pv 2) pa_nil)) pa_nil)) (blkOk_by (N := ["base", "dims", "steps", "time"]) (sc := defScope s_law_made_row) (by decide +kernel)) (fun _ _ _ _ _ => pg_name (i := 3) sc_law_made_row.nd rfl (by first | exact Or.inl rfl | exact Or.inr rfl)) (fun _ _ _ _ _ => pts_nil) (fun _ _ _ _ _ => (pe_makeS  T.mk_Matrix G_Matrix_init (hr.mono (by first | decide | omega)) (by rfl) T.c_Matrix T.b_Matrix_init (fun σ => passN σ) (pa_cons (pv 0) (pa_cons (pe_ix (show IxR _ (rIx K) from ix_seq) (pv 1) (pv 3) (fun _ _ => rfl)) (pa_cons (pe_ix (show IxR _ (rIx K) from ix_seq) (pv 2) (pv 3) (fun _ _ => rfl)) pa_nil)))))) pa_nil)))))), ?_⟩
  try dsimp only [cxOf, Cx.nox, Cx.wish, Cx.blk]
  have hS := Sta.start (K := K) hG
  have hl := ok.hl
  have hk := ok.hk
  have hlm : (ms.map msD).length = ms.length := List.length_map ..
  refine go_start (σ := [some (.int b), some dv, some sv, none]) rfl ?_
  walk_at "go"
  refine lcMapR (F := fun t => matD A.C_Matrix b (dims.getD t 0) (ms.getD t [])) hS (by omega) ?_ ?_
  · intro i L G4 vs es H4 Z hi e4 l0 hS4 hvs fin
    have hi' : i < ms.length := by omega
    walk_at "go"
    refine go_ixB (d := .int (dims.getD i 0)) (hd.up e4) hS4.gh (by have := atI_getD (r := dims) (j := (i : Int)) (by omega) (by omega); simpa using this) fun v hv => ?_
    cases Rp.int_inv hv
    walk_at "go"
    refine go_ixB (ds := ms.map msD) (d := msD (ms.getD i [])) (by walk_at "rp") hS4.gh (by rw [Int.zero_add]; refine atI_nat ?_; rw [List.getElem?_map, List.getElem?_eq_getElem hi']; simp [List.getD, hi']) fun v hv => ?_
    walk_at "go"
    have hm := ok.wm (List.mem_of_getElem? (mkS_get (b := b) (dims := dims) hi'))
    refine go_mat (t := false) (rs := ms.getD i []) hS4 hv hm fun y G5 H5 e5 hS5 hy => ?_
    exact fin _ _ _ e5 hS5 hy
  · intro p G4 H4 e4 hS4 hr4
    walk_at "go"
    have el : ((ms.map msD).length : Int).toNat = ms.length := by omega
    rw [el] at hr4
    refine go_row (t := false) (u := false) (dims := dims) (ss := mkS b dims ms) hS4 (hd.up e4) (by rw [mkS, List.map_map]; exact hr4) (by omega) (by rw [ok.len]; omega) (fun s hs => ok.wm hs) ok.ok fun y G5 H5 e5 hS5 hy => ?_
    rw [mkS_ms] at hy
    exact q _ _ _ hS5.adv hy
theorem go_madeRow {A : Ad} {G0 H0 G H : Hp} {D : List Addr} {M : List (Addr × HO)} {Q : VK} {E : XK} {dv sv : V} {b : Int} {dims : List Int} {ms : List (List (List Int))} (hS : Sta K G0 H0 D G M H) (hd : Rp K G dv (.lst (dims.map .int))) (hs : Rp K G sv (.lst (ms.map msD))) (ok : WR b dims ms)
    (q : ∀ y G1 H1, Same G G1 → Sta K G0 H0 D G1 M H1 → Rp K G1 y (rowI A b dims ms) → Q y H1) : spMadeRow K A [.int b, dv, sv] H Q E :=
  ⟨b, dv, sv, G, dims, ms, rfl, hS.gh, hd, hs, ok, fun y G1 H1 ad hr => q y G1 H1 ad.gg (hS.call ad) hr⟩
abbrev dsD (dims : List Int) (ms : List (List (List Int))) : Dt := .lst [.lst (dims.map .int), .lst (ms.map msD)]
theorem frzQ {K : PySem.W.Frag} {G0 H0 G H : Hp} {D : List Addr} {M : List (Addr × HO)} {p : Addr} {xs : List V} {ds : List Dt} (h : Sta K G0 H0 D G ((p, .lst xs) :: M) H) (h0 : H0 p = none) (hx : RpAll K G xs ds) : ∃ G1, Same G G1 ∧ Sta K G0 H0 D G1 M H ∧ RpL K G1 p ds := by
  obtain ⟨h1, e⟩ := h.frz h0
  exact ⟨_, e, h1, _, upd_same, hx.up e⟩
/-- the pair of dims and steps, lists as they are -/
def rawRow (K : PySem.W.Frag) (G : Hp) (y : V) (dims : List Int) (ms : List (List (List Int))) : Prop := ∃ p d s, y = .ref p ∧ G p = some (.lst [.ref d, .ref s]) ∧ RpL K G d (dims.map .int) ∧ RpL K G s (ms.map msD)
def spAnyRow (K : PySem.W.Frag) : Sp := fun vs H Q _ => ∃ (a r : Addr) (at_ b last : Int) (G : Hp), vs = [.ref a, .int b, .int last] ∧ Same G H ∧ G a = none ∧ H a = some (drw r at_) ∧ RowOk K G r ∧ 0 ≤ at_ ∧ at_ ≤ 800000000 ∧ isB b = true ∧ 0 ≤ last ∧ last ≤ 20 ∧
  ∀ y dims ms at' G1 H1, Adv [a] G H G1 H1 → H1 a = some (drw r at') → at_ ≤ at' → at' ≤ at_ + 5000 → WR b dims ms → (dims.length : Int) = last + 1 → (∀ d ∈ dims, 0 ≤ d ∧ d < 4) → rawRow K G1 y dims ms → Q y H1
theorem ok_law_any_row (T : Txt K mg A) : FnOk P w K mg base CX0 3 A.f_law_any_row A.d_law_any_row ["draws", "base", "last"] (spAnyRow K) := by
  have G_law_drawn := ok_law_drawn (P := P) (w := w) (base := base) T
  have G_law_next := ok_law_next (P := P) (w := w) (base := base) T
  refine T.F_law_any_row.ok sc_law_any_row (fun vs H Q E h => by first | (obtain ⟨rfl, _⟩ := h; rfl) | (obtain ⟨_, rfl, _⟩ := h; rfl) | (obtain ⟨_, _, rfl, _⟩ := h; rfl) | (obtain ⟨_, _, _, rfl, _⟩ := h; rfl) | (obtain ⟨_, _, _, _, rfl, _⟩ := h; rfl) | (obtain ⟨_, _, _, _, _, rfl, _⟩ := h; rfl) | (obtain ⟨_, _, _, _, _, _, rfl, _⟩ := h; rfl) | (obtain ⟨_, _, _, _, _, _, _, rfl, _⟩ := h; rfl) | (obtain ⟨_, _, _, _, _, _, _, _, rfl, _⟩ := h; rfl) | (obtain ⟨_, _, _, _, _, _, _, _, _, rfl, _⟩ := h; rfl) | (obtain ⟨_, _, _, _, _, _, _, _, _, _, rfl, _⟩ := h; rfl) | (obtain ⟨_, _, _, _, _, _, _, _, _, _, _, rfl, _⟩ := h; rfl) | (obtain ⟨_, _, _, _, _, _, _, _, _, _, _, _, rfl, _⟩ := h; rfl) | (obtain ⟨_, _, _, _, _, _, _, _, _, _, _, _, _, rfl, _⟩ := h; rfl) | exact wk_len h) (fun cdv AA outer s H vs Q E hr h => ?_)
  obtain ⟨a, r, at_, b, last, G, rfl, hG, hga, hA, hR, h0, h1, hb, hl0, hl1, q⟩ := h
  refine ⟨_, (pss_cons (ps_set (i := 3) sc_law_any_row.nd rfl (by first | exact Or.inl rfl | exact Or.inr rfl) (pe_lc (own := [("time", 4)]) (g := gName 4) rfl sc_law_any_row.nd (pi_range1 (by rfl) T.z_range (pa_cons (pe_op op_add (pv 2) pe_int) pa_nil)) (blkOk_by (N := ["draws", "base", "last", "dims", "time"]) (sc := defScope s_law_any_row) (by decide +kernel)) (fun _ _ _ _ _ => pg_name (i := 4) sc_law_any_row.nd rfl (by first | exact Or.inl rfl | exact Or.inr rfl)) (fun _ _ _ _ _ => pts_nil) (fun _ _ _ _ _ => (pe_call G_law_next (hr.mono (by first | decide | omega)) (by rfl) T.m_law_next T.F_law_next.kp T.b_law_next .nil pass0 (pa_cons (pv 0) (pa_cons pe_int pa_nil))))))
      (pss_one (ps_ret (pe_lst (pa_cons (pv 3) (pa_cons (pe_lc (own := [("time", 4)]) (g := gName 4) rfl sc_law_any_row.nd (pi_range1 (by rfl) T.z_range (pa_cons (pv 2) pa_nil)) (blkOk_by (N := ["draws", "base", "last", "dims", "time"]) (sc := defScope s_law_any_row) (by decide +kernel)) (fun _ _ _ _ _ => pg_name (i := 4) sc_law_any_row.nd rfl (by first | exact Or.inl rfl | exact Or.inr rfl)) (fun _ _ _ _ _ => pts_nil) (fun _ _ _ _ _ => (pe_call G_law_drawn (hr.mono (by first | decide | omega)) (by rfl) T.m_law_drawn T.F_law_drawn.kp T.b_law_drawn .nil pass0 (pa_cons (pv 0) (pa_cons (pv 1) (pa_cons (pe_ix (show IxR _ (rIx K) from ix_seq) (pv 3) (pe_op op_add (pv 4) pe_int) (fun _ _ => rfl)) (pa_cons (pe_ix (show IxR _ (rIx K) from ix_seq) (pv 3) (pv 4) (fun _ _ => rfl)) pa_nil))))))) pa_nil)))))), ?_⟩
  try dsimp only [cxOf, Cx.nox, Cx.wish, Cx.blk]
  have hS := Sta.start1 (K := K) hG hA hga
  have hb2 := isB_bd hb
  refine go_start (σ := [some (.ref a), some (.int b), some (.int last), none, none]) rfl ?_
  walk_at "go"
  refine lcDrawR (j := 0) (c := 1) hS rfl (by omega) (fun _ d => ∃ v : Int, d = .int v ∧ 0 ≤ v ∧ v < 4) ?_ ?_
  · intro i L G1 at1 vs es H1 Z hi e1 l0 a1 a2 hS1 hvs fin
    simp only [List.set_cons_zero] at hS1
    walk_at "go"
    rename_i v H2 v0 v1 hS2
    exact fin _ _ _ _ _ (Same.refl _) hS2 (by omega) (by omega) (.int v) ⟨v, rfl, v0, v1⟩
  intro L at1 vs es G1 H1 e1 l0 a1 a2 hS1 hvs hel hP
  simp only [List.set_cons_zero] at hS1
  obtain ⟨dims, rfl, hdl, hdv⟩ : ∃ dims : List Int, es = dims.map .int ∧ dims.length = es.length ∧ ∀ d ∈ dims, 0 ≤ d ∧ d < 4 := by
    refine ⟨es.map fun d => match d with | .int v => v | _ => 0, ?_, by simp, fun d hd => ?_⟩
    · apply List.ext_getElem
      · simp
      · intro i hi hi'
        obtain ⟨v, hv, _⟩ := hP i es[i] (List.getElem?_eq_getElem hi)
        simp [hv]
    · obtain ⟨e, he, rfl⟩ := List.mem_map.mp hd
      obtain ⟨i, hi⟩ := List.mem_iff_getElem?.mp he
      obtain ⟨v, rfl, h⟩ := hP i e hi
      exact h
  rw [List.length_map] at hel
  obtain ⟨G2, e2, hS2, hDr⟩ := frzQ hS1 l0 hvs
  have hD : Rp K G2 (.ref L) (.lst (dims.map .int)) := hDr.rp
  walk_at "go"
  refine lcDrawR (j := 0) (c := 200) hS2 rfl (by omega) (fun i d => ∃ m, d = msD m ∧ okRs b (dims.getD (i + 1) 0) (dims.getD i 0) m) ?_ ?_
  · intro i L3 G3 at3 vs3 es3 H3 Z3 hi e3 l3 a3 a4 hS3 hvs3 fin3
    simp only [List.set_cons_zero] at hS3
    have b1 := hdv (dims.getD i 0) (by rw [List.getD, List.getElem?_eq_getElem (show i < dims.length by omega)]; exact List.getElem_mem _)
    have b2 := hdv (dims.getD (i + 1) 0) (by rw [List.getD, List.getElem?_eq_getElem (show i + 1 < dims.length by omega)]; exact List.getElem_mem _)
    walk_at "go"
    refine go_ixB (d := .int (dims.getD (i + 1) 0)) (hD.up e3) hS3.gh (by have := atI_getD (r := dims) (j := ((i + 1 : Nat) : Int)) (by omega) (by omega); simpa using this) fun v hv => ?_
    cases Rp.int_inv hv
    walk_at "go"
    refine go_ixB (d := .int (dims.getD i 0)) (hD.up e3) hS3.gh (by have := atI_getD (r := dims) (j := (i : Int)) (by omega) (by omega); simpa using this) fun v hv => ?_
    cases Rp.int_inv hv
    walk_at "go"
    refine go_drawn (i := 1) hS3 rfl (by walk_at "ro") (by omega) (by omega) (by omega) b2.1 (by omega) b1.1 (by omega) fun p rs at4 G4 H4 hc0 hc1 okr e4 hS4 hp => ?_
    simp only [List.set_cons_succ, List.set_cons_zero] at hS4
    exact fin3 _ _ _ _ _ e4 hS4 (by omega) (by omega) (RawM.rp hp) ⟨rs, rfl, okr⟩
  intro L3 at3 vs3 es3 G3 H3 e3 l3 a3 a4 hS3 hvs3 hel3 hP3
  simp only [List.set_cons_zero] at hS3
  obtain ⟨ms, rfl, hms⟩ : ∃ ms : List (List (List Int)), es3 = ms.map msD ∧ ∀ i m, ms[i]? = some m → okRs b (dims.getD (i + 1) 0) (dims.getD i 0) m := by
    have hex : ∀ i : Nat, ∃ m, ∀ d, es3[i]? = some d → d = msD m ∧ okRs b (dims.getD (i + 1) 0) (dims.getD i 0) m := fun i => by
      cases hi : es3[i]? with
      | none => exact ⟨[], fun d hd => by cases hd⟩
      | some d =>
        obtain ⟨m, h1, h2⟩ := hP3 i d hi
        exact ⟨m, fun d' hd' => by cases hd'; exact ⟨h1, h2⟩⟩
    refine ⟨(List.range es3.length).map fun i => (hex i).choose, ?_, fun i m hm => ?_⟩
    · apply List.ext_getElem
      · simp
      · intro i hi hi'
        have := ((hex i).choose_spec es3[i] (List.getElem?_eq_getElem hi)).1
        simp only [List.getElem_map, List.getElem_range]
        exact this
    · rw [List.getElem?_map] at hm
      by_cases hi : i < es3.length
      · rw [List.getElem?_range hi] at hm
        cases hm
        exact ((hex i).choose_spec es3[i] (List.getElem?_eq_getElem hi)).2
      · rw [List.getElem?_eq_none (by simp; omega)] at hm
        cases hm
  rw [List.length_map] at hel3
  obtain ⟨G4, e4, hS4, hM⟩ := frzQ hS3 l3 hvs3
  have hDr4 := (hDr.up e3).up e4
  have ok : WR b dims ms := ⟨hb, by omega, by omega, fun d hd => by have := hdv d hd; omega, hms⟩
  walk_at "go"
  refine go_newR hS4 (by simp) fun p5 G5 H5 e5 hS5 hp5 => ?_
  exact q _ dims ms at3 _ _ hS5.adv (hS5.get (i := 0) rfl) (by omega) (by omega) ok (by omega) hdv ⟨p5, _, _, rfl, hp5, hDr4.up e5, hM.up e5⟩
theorem go_anyRow {G0 H0 G H : Hp} {D : List Addr} {M : List (Addr × HO)} {Q : VK} {E : XK} {a r : Addr} {at_ b last : Int} {i : Nat} (hS : Sta K G0 H0 D G M H) (hi : M[i]? = some (a, drw r at_)) (hr : RowOk K G r) (h0 : 0 ≤ at_) (h1 : at_ ≤ 800000000) (hb : isB b = true) (hl0 : 0 ≤ last) (hl1 : last ≤ 20)
    (q : ∀ y dims ms at' G1 H1, at_ ≤ at' → at' ≤ at_ + 5000 → WR b dims ms → (dims.length : Int) = last + 1 → (∀ d ∈ dims, 0 ≤ d ∧ d < 4) → Same G G1 → Sta K G0 H0 D G1 (M.set i (a, drw r at')) H1 → rawRow K G1 y dims ms → Q y H1) : spAnyRow K [.ref a, .int b, .int last] H Q E :=
  ⟨a, r, at_, b, last, G, rfl, hS.gh, (hS.mh _ (List.mem_of_getElem? hi)).2.1, hS.get hi, hr, h0, h1, hb, hl0, hl1, fun y dims ms at' G1 H1 ad h1 h2 h3 h4 h5 h6 h7 => q y dims ms at' G1 H1 h2 h3 h4 h5 h6 ad.gg (hS.callM hi ad h1) h7⟩
/-! ### the law's test of a row -/
theorem okD_tints (as : List Int) (h : as.length ≤ 1000) : okD 5 (.tup (as.map .int)) = true := by
  simp only [okD, List.length_map, Bool.and_eq_true, decide_eq_true_eq, List.all_eq_true]
  refine ⟨by omega, fun d hd => ?_⟩
  obtain ⟨e, _, rfl⟩ := List.mem_map.mp hd
  rfl
def spIsRow (K : PySem.W.Frag) (A : Ad) : Sp := fun vs H Q _ => ∃ (x dv sv : V) (G : Hp) (b : Int) (dims : List Int) (ms : List (List (List Int))), vs = [x, .int b, dv, sv] ∧ Same G H ∧ Rp K G x (rowI A b dims ms) ∧ Rp K G dv (.lst (dims.map .int)) ∧ Rp K G sv (.lst (ms.map msD)) ∧ WR b dims ms ∧ ∀ G1 H1, Adv [] G H G1 H1 → Q (.bl true) H1
theorem ok_law_is_row (T : Txt K mg A) : FnOk P w K mg base CX0 7 A.f_law_is_row A.d_law_is_row ["row", "base", "dims", "steps"] (spIsRow K A) := by
  have G_Row_last := ok_Row_last (P := P) (w := w) (base := base) T
  have G_law_is_matrix := ok_law_is_matrix (P := P) (w := w) (base := base) T
  have G_law_same := ok_law_same (P := P) (w := w) (base := base) T
  refine T.F_law_is_row.ok sc_law_is_row (fun vs H Q E h => by first | (obtain ⟨rfl, _⟩ := h; rfl) | (obtain ⟨_, rfl, _⟩ := h; rfl) | (obtain ⟨_, _, rfl, _⟩ := h; rfl) | (obtain ⟨_, _, _, rfl, _⟩ := h; rfl) | (obtain ⟨_, _, _, _, rfl, _⟩ := h; rfl) | (obtain ⟨_, _, _, _, _, rfl, _⟩ := h; rfl) | (obtain ⟨_, _, _, _, _, _, rfl, _⟩ := h; rfl) | (obtain ⟨_, _, _, _, _, _, _, rfl, _⟩ := h; rfl) | (obtain ⟨_, _, _, _, _, _, _, _, rfl, _⟩ := h; rfl) | (obtain ⟨_, _, _, _, _, _, _, _, _, rfl, _⟩ := h; rfl) | (obtain ⟨_, _, _, _, _, _, _, _, _, _, rfl, _⟩ := h; rfl) | (obtain ⟨_, _, _, _, _, _, _, _, _, _, _, rfl, _⟩ := h; rfl) | (obtain ⟨_, _, _, _, _, _, _, _, _, _, _, _, rfl, _⟩ := h; rfl) | (obtain ⟨_, _, _, _, _, _, _, _, _, _, _, _, _, rfl, _⟩ := h; rfl) | exact wk_len h) (fun cdv AA outer s H vs Q E hr h => ?_)
  obtain ⟨x, dv, sv, G, b, dims, ms, rfl, hG, hx, hd, hs, ok, q⟩ := h
  have cl := T.cl_Row
  have dc := T.dc_Row
  have n1 := T.na_Row_base
  have n2 := T.na_Row_dims
  have n3 := T.na_Row_steps
  have hl := ok.hl
  have hk := ok.hk
  have okd := okD_tints dims (by omega)
  refine ⟨_, (pss_cons (ps_if (PW.pt (pw_or (pt_not (pt_val (pe_callB (id := "isinstance") call_isi (by rfl) T.z_isinstance (by decide +kernel) (pa_cons (pv 0) (pa_cons (pe_glob (v := .ref A.C_Row) (by rfl) T.c_Row rfl) pa_nil))))) (pw_or (pt_not (pt_val (pe_call G_law_same (hr.mono (by first | decide | omega)) (by rfl) T.m_law_same T.F_law_same.kp T.b_law_same .nil pass0 (pa_cons (pe_fld (pv 0) rfl) (pa_cons (pv 1) pa_nil))))) (pw_or1 (pt_not (pt_val (pe_call G_law_same (hr.mono (by first | decide | omega)) (by rfl) T.m_law_same T.F_law_same.kp T.b_law_same .nil pass0 (pa_cons (pe_fld (pv 0) rfl) (pa_cons (pe_callTy (T := "tuple") b_tuple (by rfl) T.z_tuple (by decide +kernel) (pa_cons (pv 2) pa_nil)) pa_nil))))))))) (pss_one (ps_ret pe_bl)) pss_nil)
      (pss_cons (ps_if (PW.pt (pw_or (pt_not (pt_val (pe_call G_law_same (hr.mono (by first | decide | omega)) (by rfl) T.m_law_same T.F_law_same.kp T.b_law_same .nil pass0 (pa_cons (pe_prop (E := fun _ _ _ => False) (pv 0) T.cl_Row T.pr_Row_last.choose_spec G_Row_last (hr.mono (by first | decide | omega)) T.b_Row_last .nil pass0 rfl) (pa_cons (pe_op op_sub (pe_callB (id := "len") b_len (by rfl) T.z_len (by decide +kernel) (pa_cons (pv 2) pa_nil)) pe_int) pa_nil))))) (pw_or (pt_not (pt_val (pe_callB (id := "isinstance") call_isi (by rfl) T.z_isinstance (by decide +kernel) (pa_cons (pe_fld (pv 0) rfl) (pa_cons (pe_bltn (v := .ty "tuple") (u := .type "tuple") (by rfl) T.z_tuple (by decide +kernel) rfl) pa_nil))))) (pw_or1 (pt_cmpR op_ne (pe_callB (id := "len") b_len (by rfl) T.z_len (by decide +kernel) (pa_cons (pe_fld (pv 0) rfl) pa_nil)) (pe_callB (id := "len") b_len (by rfl) T.z_len (by decide +kernel) (pa_cons (pv 3) pa_nil)) (nomark _)))))) (pss_one (ps_ret pe_bl)) pss_nil)
      (pss_cons (ps_for PassesOwn.never rfl (pi_range1 (by rfl) T.z_range (pa_cons (pe_callB (id := "len") b_len (by rfl) T.z_len (by decide +kernel) (pa_cons (pv 3) pa_nil)) pa_nil)) (pg_name (i := 4) sc_law_is_row.nd rfl (by first | exact Or.inl rfl | exact Or.inr rfl)) (pss_one (ps_if (pt_not (pt_val (pe_call G_law_is_matrix (hr.mono (by first | decide | omega)) (by rfl) T.m_law_is_matrix T.F_law_is_matrix.kp T.b_law_is_matrix .nil pass0 (pa_cons (pe_ix ix_seq (pe_fld (pv 0) rfl) (pv 4) (fun _ _ => rfl)) (pa_cons (pv 1) (pa_cons (pe_ix ix_seq (pv 2) (pv 4) (fun _ _ => rfl)) (pa_cons (pe_ix ix_seq (pv 3) (pv 4) (fun _ _ => rfl)) pa_nil))))))) (pss_one (ps_ret pe_bl)) pss_nil)))
      (pss_one (ps_ret pe_bl))))), ?_⟩
  try dsimp only [cxOf, Cx.nox, Cx.wish, Cx.blk]
  have hS := Sta.start (K := K) hG
  refine go_start (σ := [some x, some (.int b), some dv, some sv, none]) rfl ?_
  walk_at "go"
  refine go_isOwn hS hx cl dc ?_
  simp only [List.length_map] at *
  walk_at "go"
  simp only [List.length_map, ok.len] at *
  walk_at "go"
  · exfalso
    first
      | omega
      | (simp only [List.length_map, ok.len] at *; omega)
      | simp_all [List.length_map, ok.len]
  simp only [List.length_map]
  walk_at "go"
  refine forR (by assumption) (fun i σ _ M' => M' = [] ∧ ∃ u, σ = [some x, some (.int b), some dv, some sv, u]) ⟨rfl, _, rfl⟩ ?_ ?_
  · rintro i σ G3 M3 H3 hi e3 hS3 ⟨rfl, u, rfl⟩
    have hi' : i < ms.length := by omega
    have hx3 : Rp K G3 x (rowI A b dims ms) := by walk_at "rp"
    have hd3 : Rp K G3 dv (.lst (dims.map .int)) := by walk_at "rp"
    have hs3 : Rp K G3 sv (.lst (ms.map msD)) := by walk_at "rp"
    walk_at "go"
    refine go_ixA (d := matD A.C_Matrix b (dims.getD i 0) (ms.getD i [])) (by assumption) hS3.gh (by rw [Int.zero_add]; refine atI_nat ?_; rw [List.getElem?_map, mkS_get hi']; rfl) fun v hv => ?_
    walk_at "go"
    refine go_ixB (d := .int (dims.getD i 0)) hd3 hS3.gh (by rw [Int.zero_add]; have := atI_getD (r := dims) (j := (i : Int)) (by omega) (by omega); simpa using this) fun v2 hv2 => ?_
    cases Rp.int_inv hv2
    walk_at "go"
    refine go_ixB (d := msD (ms.getD i [])) hs3 hS3.gh (by rw [Int.zero_add]; refine atI_nat ?_; rw [List.getElem?_map]; simp [List.getD, hi']) fun v3 hv3 => ?_
    walk_at "go"
    have e : ms[i]? = some (ms.getD i []) := by simp [List.getD, hi']
    have o := ok.hs i _ e
    have g : ∀ j, j < dims.length → 0 ≤ dims.getD j 0 ∧ dims.getD j 0 ≤ 200 := fun j hj => by
      rw [List.getD, List.getElem?_eq_getElem hj]
      exact ok.hd _ (List.getElem_mem hj)
    have g1 := g i (by omega)
    have g2 := g (i + 1) (by omega)
    refine go_isM hS3 hv hv3 (o.wm' ok.hb (by omega) g1.1 (by omega)) fun G4 H4 e4 hS4 => ?_
    walk_at "go"
    exact Nx.mk hS4 (by walk_at "sm") ⟨rfl, _, rfl⟩
  · rintro σ G3 M3 H3 e3 hS3 ⟨rfl, u, rfl⟩
    walk_at "go"
    exact q _ _ (Sta.adv (by assumption))
theorem go_isRow {A : Ad} {G0 H0 G H : Hp} {D : List Addr} {M : List (Addr × HO)} {Q : VK} {E : XK} {x dv sv : V} {b : Int} {dims : List Int} {ms : List (List (List Int))} (hS : Sta K G0 H0 D G M H) (hx : Rp K G x (rowI A b dims ms)) (hd : Rp K G dv (.lst (dims.map .int))) (hs : Rp K G sv (.lst (ms.map msD))) (ok : WR b dims ms) (q : ∀ G1 H1, Same G G1 → Sta K G0 H0 D G1 M H1 → Q (.bl true) H1) : spIsRow K A [x, .int b, dv, sv] H Q E :=
  ⟨x, dv, sv, G, b, dims, ms, rfl, hS.gh, hx, hd, hs, ok, fun G1 H1 ad => q G1 H1 ad.gg (hS.call ad)⟩
def spFails (K : PySem.W.Frag) (A : Ad) : Sp := fun vs H Q _ => ∃ (dv sv : V) (G : Hp) (b : Int) (dims : List Int) (ss : List M3), vs = [.int b, dv, sv] ∧ Same G H ∧ Rp K G dv (.lst (dims.map .int)) ∧ Rp K G sv (.lst (ss.map (stD A.C_Matrix))) ∧ dims.length ≤ 1000 ∧ ss.length ≤ 1000 ∧ (∀ s ∈ ss, WM s.1 s.2.1 s.2.2) ∧ ¬ okR b dims ss ∧ ∀ G1 H1, Adv [] G H G1 H1 → Q (.bl true) H1
theorem ok_law_fails (T : Txt K mg A) : FnOk P w K mg base CX0 6 A.f_law_fails A.d_law_fails ["base", "dims", "steps"] (spFails K A) := by
  have G_Row_init := ok_Row_init (P := P) (w := w) (base := base) T
  refine T.F_law_fails.ok sc_law_fails (fun vs H Q E h => by first | (obtain ⟨rfl, _⟩ := h; rfl) | (obtain ⟨_, rfl, _⟩ := h; rfl) | (obtain ⟨_, _, rfl, _⟩ := h; rfl) | (obtain ⟨_, _, _, rfl, _⟩ := h; rfl) | (obtain ⟨_, _, _, _, rfl, _⟩ := h; rfl) | (obtain ⟨_, _, _, _, _, rfl, _⟩ := h; rfl) | (obtain ⟨_, _, _, _, _, _, rfl, _⟩ := h; rfl) | (obtain ⟨_, _, _, _, _, _, _, rfl, _⟩ := h; rfl) | (obtain ⟨_, _, _, _, _, _, _, _, rfl, _⟩ := h; rfl) | (obtain ⟨_, _, _, _, _, _, _, _, _, rfl, _⟩ := h; rfl) | (obtain ⟨_, _, _, _, _, _, _, _, _, _, rfl, _⟩ := h; rfl) | (obtain ⟨_, _, _, _, _, _, _, _, _, _, _, rfl, _⟩ := h; rfl) | (obtain ⟨_, _, _, _, _, _, _, _, _, _, _, _, rfl, _⟩ := h; rfl) | (obtain ⟨_, _, _, _, _, _, _, _, _, _, _, _, _, rfl, _⟩ := h; rfl) | exact wk_len h) (fun cdv AA outer s H vs Q E hr h => ?_)
  obtain ⟨dv, sv, G, b, dims, ss, rfl, hG, hd, hs, h1, h2, h3, no, q⟩ := h
  refine ⟨_, (pss_cons (ps_try_as (i := 3) rfl rfl sc_law_fails.nd rfl rfl ⟨by rfl, by decide, .inl T.c_WovenError⟩ takes0 (fun W pn xe tk po => (pss_one (ps_expr (pe_makeS  T.mk_Row G_Row_init (hr.mono (by first | decide | omega)) (by rfl) T.c_Row T.b_Row_init (fun σ => passAt tk σ) (pa_cons (pv 0) (pa_cons (pv 1) (pa_cons (pv 2) pa_nil))))))) (fun a oe cls d pn hz hf => pss_when (P := cls = .ref A.C_InvalidRow ∧ d = none) fun hp => (pss_one (ps_ret (pe_and (pe_callB (id := "isinstance") (call_isE T.x_InvalidRow.toExcC (by rw [← hp.1, ← hp.2]; exact hz) hf) (by rfl) T.z_isinstance (by decide +kernel) (pa_cons (pv 3) (pa_cons (pe_glob (v := .ref A.C_InvalidRow) (by rfl) T.c_InvalidRow rfl) pa_nil))) (pe_and (pe_callB (id := "isinstance") (call_isE T.x_InvalidRow.toExcC (by rw [← hp.1, ← hp.2]; exact hz) hf) (by rfl) T.z_isinstance (by decide +kernel) (pa_cons (pv 3) (pa_cons (pe_bltn (v := .ty "ValueError") (u := .type "ValueError") (by rfl) T.z_ValueError (by decide +kernel) rfl) pa_nil))) (pe_one (pe_not (pe_callB (id := "isinstance") (call_isE T.x_InvalidRow.toExcC (by rw [← hp.1, ← hp.2]; exact hz) hf) (by rfl) T.z_isinstance (by decide +kernel) (pa_cons (pv 3) (pa_cons (pe_glob (v := .ref A.C_InvalidTime) (by rfl) T.c_InvalidTime rfl) pa_nil)))))))))))
      (pss_one (ps_ret pe_bl))), ?_⟩
  try dsimp only [cxOf, Cx.nox, Cx.wish, Cx.blk]
  have hS := Sta.start (K := K) hG
  refine go_start (σ := [some (.int b), some dv, some sv, none]) rfl ?_
  walk_at "go"
  refine go_rowX (t := false) (u := false) hS hd hs h1 h2 h3 no fun G1 H1 e1 hS1 => ?_
  refine ⟨true, exm_own T.x_WovenError T.sb_InvalidRow_WovenError, fun _ a ha => ⟨⟨rfl, rfl⟩, ?_⟩, fun z => nomatch z⟩
  walk_at "go"
  refine go_isE (fun u h => h) (kit_own T.x_InvalidRow T.sb_InvalidRow_InvalidRow) ?_
  walk_at "go"
  refine go_isE (fun u h => h) (kit_val T.x_InvalidRow) ?_
  walk_at "go"
  refine go_isE (fun u h => h) (kit_own T.x_InvalidTime T.sb_InvalidRow_InvalidTime) ?_
  walk_at "go"
  exact q _ _ hS1.adv
theorem go_fails {A : Ad} {G0 H0 G H : Hp} {D : List Addr} {M : List (Addr × HO)} {Q : VK} {E : XK} {dv sv : V} {b : Int} {dims : List Int} {ss : List M3} (hS : Sta K G0 H0 D G M H) (hd : Rp K G dv (.lst (dims.map .int))) (hs : Rp K G sv (.lst (ss.map (stD A.C_Matrix)))) (h1 : dims.length ≤ 1000) (h2 : ss.length ≤ 1000) (h3 : ∀ s ∈ ss, WM s.1 s.2.1 s.2.2) (no : ¬ okR b dims ss)
    (q : ∀ G1 H1, Same G G1 → Sta K G0 H0 D G1 M H1 → Q (.bl true) H1) : spFails K A [.int b, dv, sv] H Q E :=
  ⟨dv, sv, G, b, dims, ss, rfl, hS.gh, hd, hs, h1, h2, h3, no, fun G1 H1 ad => q G1 H1 ad.gg (hS.call ad)⟩
/-! ### lists as they are: slices, sums, copies; a comprehension whose items stay raw -/
section
variable {K : PySem.W.Frag} {G0 H0 G H : Hp} {D : List Addr} {M : List (Addr × HO)} {Q : VK} {ds es : List Dt} {a : Addr}
theorem go_slHi {i : Int} (n : Nat) (hS : Sta K G0 H0 D G M H) (hx : RpL K G a ds) (hi : i = (n : Int)) (k : ∀ p G1 H1, Same G G1 → Sta K G0 H0 D G1 M H1 → RpL K G1 p (ds.take n) → Q (.ref p) H1) : rSlL K (.ref a) none (some i) H Q := by
  obtain ⟨vs, h1, h2⟩ := hx
  subst hi
  refine go_slL hS (.inl (.inl h1)) fun p G1 H1 e s hp => k p G1 H1 e s ⟨_, hp, ?_⟩
  rw [cut_hi]
  exact (h2.take n).up e
theorem go_slLo {i : Int} (n : Nat) (hS : Sta K G0 H0 D G M H) (hx : RpL K G a ds) (hi : i = (n : Int)) (k : ∀ p G1 H1, Same G G1 → Sta K G0 H0 D G1 M H1 → RpL K G1 p (ds.drop n) → Q (.ref p) H1) : rSlL K (.ref a) (some i) none H Q := by
  obtain ⟨vs, h1, h2⟩ := hx
  subst hi
  refine go_slL hS (.inl (.inl h1)) fun p G1 H1 e s hp => k p G1 H1 e s ⟨_, hp, ?_⟩
  rw [cut_lo]
  exact (h2.drop n).up e
theorem cut_but (xs : List V) : cutV xs none (some (-1)) = xs.take (xs.length - 1) := by
  unfold cutV
  rw [HT.sIx_none, List.drop_zero]
  have : HT.sIx xs.length xs.length (some (-1)) = xs.length - 1 := by
    show (if (-1 : Int) < 0 then (-1 + (xs.length : Int)).toNat else min (-1 : Int).toNat xs.length) = xs.length - 1
    rw [if_pos (by decide)]
    omega
  rw [this, Nat.sub_zero]
theorem go_slBut (hS : Sta K G0 H0 D G M H) (hx : RpL K G a ds) (k : ∀ p G1 H1, Same G G1 → Sta K G0 H0 D G1 M H1 → RpL K G1 p (ds.take (ds.length - 1)) → Q (.ref p) H1) : rSlL K (.ref a) none (some (-1)) H Q := by
  obtain ⟨vs, h1, h2⟩ := hx
  refine go_slL hS (.inl (.inl h1)) fun p G1 H1 e s hp => k p G1 H1 e s ⟨_, hp, ?_⟩
  rw [cut_but, ← h2.length]
  exact (h2.take _).up e
theorem go_newX {xs : List V} (hS : Sta K G0 H0 D G M H) (hl : xs.length ≤ 100000) (hr : RpAll K G xs ds) (k : ∀ p G1 H1, Same G G1 → Sta K G0 H0 D G1 M H1 → RpL K G1 p ds → Q (.ref p) H1) : NL Q xs H :=
  go_newR hS hl fun p G1 H1 e s hp => k p G1 H1 e s ⟨_, hp, hr.up e⟩
theorem go_listTR {x : V} (hS : Sta K G0 H0 D G M H) (hx : Rp K G x (.tup ds)) (k : ∀ p G1 H1, Same G G1 → Sta K G0 H0 D G1 M H1 → RpL K G1 p ds → Q (.ref p) H1) : rListOf_ K [x] H Q := by
  obtain ⟨a, xs, rfl, hs, ha⟩ := Rp.tup_inv hx
  exact ⟨a, xs, rfl, .inr (Same.t hS.gh hs), fun p hp => k p _ _ (same_upd (hS.gn hp)) (hS.imm hp _) ⟨xs, upd_same, ha.up (same_upd (hS.gn hp))⟩⟩
theorem go_repZ {k : Int} (hS : Sta K G0 H0 D G M H) (hx : G a = some (.lst [.int 0])) (hk : 0 ≤ k) (hk2 : k ≤ 1000) (q : ∀ p G1 H1, Same G G1 → Sta K G0 H0 D G1 M H1 → RpL K G1 p ((List.replicate k.toNat (0 : Int)).map .int) → Q (.ref p) H1) : rRep (.ref a) (.int k) H Q :=
  go_repL hS hx hk hk2 (by simp; omega) fun p G1 H1 e s hp => by
    rw [rep_ints] at hp
    exact q p G1 H1 e s ⟨_, hp, .ints⟩
/-- what stands behind a turn of a comprehension whose items stay raw -/
def LcPV (K : PySem.W.Frag) (G0 H0 : Hp) (D : List Addr) (G : Hp) (L : Addr) (W : Hp → List (Addr × HO) → List V → Prop) (H : Hp) : Prop := ∃ G1 M1 vs, Same G G1 ∧ Sta K G0 H0 D G1 ((L, .lst vs) :: M1) H ∧ W G1 M1 vs
def LcYV (K : PySem.W.Frag) (G0 H0 : Hp) (D : List Addr) (G : Hp) (L : Addr) (W : Hp → List (Addr × HO) → List V → Prop) : VK := fun y H4 => ∃ acc, H4 L = some (.lst acc) ∧ acc.length < sizeLine ∧ LcPV K G0 H0 D G L W (upd H4 L (.lst (acc ++ [y])))
theorem lcYV {L : Addr} {y : V} {W : Hp → List (Addr × HO) → List V → Prop} {G4 H4 : Hp} {vs : List V} (hS : Sta K G0 H0 D G4 ((L, .lst vs) :: M) H4) (e : Same G G4) (hl : vs.length < 100000) (w : W G4 M (vs ++ [y])) : LcYV K G0 H0 D G L W y H4 :=
  ⟨vs, hS.get (i := 0) rfl, Nat.lt_of_lt_of_le hl (by decide), G4, M, vs ++ [y], e, hS.set (i := 0) rfl _, w⟩
theorem lcLV {σ : L2.St} {tt : TT} {te : TE} {vss : List Nat} {xs : List V} {g : TG} (hS : Sta K G0 H0 D G M H) (hq : SqL K G a xs) (W : Nat → Hp → List (Addr × HO) → List V → Prop) (h0 : W 0 G M [])
    (hs : ∀ (i : Nat) x L G1 M1 vs H1, xs[i]? = some x → Same G G1 → H0 L = none → Sta K G0 H0 D G1 ((L, .lst vs) :: M1) H1 → W i G1 M1 vs → g x (wipe σ vss) H1 fun σ2 H3 => wipe σ2 vss = wipe σ vss ∧ tt σ2 H3 fun b H4 =>
      if b = true then te σ2 H4 (LcYV K G0 H0 D G L (W (i + 1))) else LcPV K G0 H0 D G L (W (i + 1)) H4)
    (hd : ∀ L G1 M1 vs H1, Same G G1 → H0 L = none → Sta K G0 H0 D G1 ((L, .lst vs) :: M1) H1 → W xs.length G1 M1 vs → Q (.ref L) H1) : LcG (Itl K a) g tt te vss σ Q H := by
  intro L hL
  have l0 := hS.h0 hL
  refine lc_it (walk_list (xs := xs)) (fun i => LcPV K G0 H0 D G L (W i)) ⟨G, M, [], Same.refl G, hS.mut hL _, h0⟩ (fun i H1 _ p => ?_) (fun i x H1 H2 hi p yy => ?_) (fun H1 p => ?_)
  · obtain ⟨G1, M1, vs, e, s, w'⟩ := p
    exact s.gh.seq (e.seq hq)
  · obtain ⟨G1, M1, vs, e, s, w'⟩ := p
    obtain ⟨rfl, hx⟩ := yy
    exact hs i x L G1 M1 vs _ hx e l0 s w'
  · obtain ⟨G1, M1, vs, e, s, w'⟩ := p
    exact hd L G1 M1 vs H1 e l0 s w'
end
theorem no_base {b : Int} {dims : List Int} {ss : List M3} (h : isB b = false) : ¬ okR b dims ss := fun o => by
  rw [o.1] at h
  cases h
theorem no_len {b : Int} {dims : List Int} {ss : List M3} (h : dims.length ≠ ss.length + 1) : ¬ okR b dims ss := fun o => h o.2.1
theorem no_neg {b : Int} {dims : List Int} {ss : List M3} {d : Int} (hd : d ∈ dims) (h : d < 0) : ¬ okR b dims ss := fun o => by
  have := o.2.2.1 d hd
  omega
theorem no_step {b : Int} {dims : List Int} {ss : List M3} {i : Nat} {s : M3} (e : ss[i]? = some s) (h : ¬ (s.1 = b ∧ s.2.1 = dims.getD i 0 ∧ (s.2.2.length : Int) = dims.getD (i + 1) 0)) : ¬ okR b dims ss := fun o => h (o.2.2.2 i s e)
theorem isB_32' {b m i : Int} (hi : i = if decide (b = 3) = true then 1 else 0) (h : i = 0 ∧ m = 3 ∨ i = 1 ∧ m = 2) : isB m = true ∧ m ≠ b := by
  have h3 : isB 3 = true := by decide +kernel
  have h2 : isB 2 = true := by decide +kernel
  by_cases e : b = 3
  · rw [if_pos (decide_eq_true e)] at hi
    rcases h with ⟨h, rfl⟩ | ⟨h, rfl⟩
    · omega
    · exact ⟨h2, by omega⟩
  · rw [if_neg (by simp [e])] at hi
    rcases h with ⟨h, rfl⟩ | ⟨h, rfl⟩
    · exact ⟨h3, fun z => e z.symm⟩
    · omega
theorem no9 : ∀ v : Int, 0 ≤ v → v < 12 → ∃ w, atI (([-2, 0, 1, 4, 6, 9, 25, 91, 98, 99, 100, 101] : List Int).map Dt.int) v = some (.int w) ∧ isB w = false := by
  intro v h0 h1
  have : v = 0 ∨ v = 1 ∨ v = 2 ∨ v = 3 ∨ v = 4 ∨ v = 5 ∨ v = 6 ∨ v = 7 ∨ v = 8 ∨ v = 9 ∨ v = 10 ∨ v = 11 := by omega
  rcases this with rfl | rfl | rfl | rfl | rfl | rfl | rfl | rfl | rfl | rfl | rfl | rfl <;> exact ⟨_, rfl, by decide +kernel⟩
/-- a fact that the walk does not see -/
structure Hid9 (p : Prop) : Prop where
  out : p
def spSpoil (K : PySem.W.Frag) (A : Ad) : Sp := fun vs H Q _ => ∃ (a r : Addr) (at_ b : Int) (d s : Addr) (G : Hp) (dims : List Int) (ms : List (List (List Int))), vs = [.ref a, .int b, .ref d, .ref s] ∧ Same G H ∧ G a = none ∧ H a = some (drw r at_) ∧ RowOk K G r ∧ 0 ≤ at_ ∧ at_ ≤ 800000000 ∧ RpL K G d (dims.map .int) ∧ RpL K G s ((mkS b dims ms).map (stD A.C_Matrix)) ∧ WR b dims ms ∧
  ∀ y b' ds' ss' at' G1 H1, Adv [a] G H G1 H1 → H1 a = some (drw r at') → Rp K G1 y (.lst [.int b', .lst (ds'.map .int), .lst (ss'.map (stD A.C_Matrix))]) → ds'.length ≤ 1000 → ss'.length ≤ 1000 → (∀ s ∈ ss', WM s.1 s.2.1 s.2.2) → ¬ okR b' ds' ss' → Q y H1
theorem ok_law_spoilt (T : Txt K mg A) : FnOk P w K mg base CX0 5 A.f_law_spoilt A.d_law_spoilt ["draws", "base", "dims", "steps"] (spSpoil K A) := by
  have G_Matrix_init := ok_Matrix_init (P := P) (w := w) (base := base) T
  have G_Matrix_identity := ok_Matrix_identity (P := P) (w := w) (base := base) T
  have G_law_next := ok_law_next (P := P) (w := w) (base := base) T
  refine T.F_law_spoilt.ok sc_law_spoilt (fun vs H Q E h => by first | (obtain ⟨rfl, _⟩ := h; rfl) | (obtain ⟨_, rfl, _⟩ := h; rfl) | (obtain ⟨_, _, rfl, _⟩ := h; rfl) | (obtain ⟨_, _, _, rfl, _⟩ := h; rfl) | (obtain ⟨_, _, _, _, rfl, _⟩ := h; rfl) | (obtain ⟨_, _, _, _, _, rfl, _⟩ := h; rfl) | (obtain ⟨_, _, _, _, _, _, rfl, _⟩ := h; rfl) | (obtain ⟨_, _, _, _, _, _, _, rfl, _⟩ := h; rfl) | (obtain ⟨_, _, _, _, _, _, _, _, rfl, _⟩ := h; rfl) | (obtain ⟨_, _, _, _, _, _, _, _, _, rfl, _⟩ := h; rfl) | (obtain ⟨_, _, _, _, _, _, _, _, _, _, rfl, _⟩ := h; rfl) | (obtain ⟨_, _, _, _, _, _, _, _, _, _, _, rfl, _⟩ := h; rfl) | (obtain ⟨_, _, _, _, _, _, _, _, _, _, _, _, rfl, _⟩ := h; rfl) | (obtain ⟨_, _, _, _, _, _, _, _, _, _, _, _, _, rfl, _⟩ := h; rfl) | exact wk_len h) (fun cdv AA outer s H vs Q E hr h => ?_)
  obtain ⟨a, r, at_, b, d, s, G, dims, ms, rfl, hG, hga, hA, hR, h0, h1, hd, hs, ok, q⟩ := h
  have hb := ok.bd
  have hl := ok.hl
  have hk := ok.hk
  have len := ok.len
  have cl := T.cl_Matrix
  have n1 := T.na_Matrix_base
  have n2 := T.na_Matrix_width
  have n3 := T.na_Matrix_rows
  refine ⟨_, (pss_cons (ps_set (i := 4) sc_law_spoilt.nd rfl (by first | exact Or.inl rfl | exact Or.inr rfl) (pe_call G_law_next (hr.mono (by first | decide | omega)) (by rfl) T.m_law_next T.F_law_next.kp T.b_law_next .nil pass0 (pa_cons (pv 0) (pa_cons pe_int pa_nil))))
      (pss_cons (ps_set (i := 5) sc_law_spoilt.nd rfl (by first | exact Or.inl rfl | exact Or.inr rfl) (pe_call G_law_next (hr.mono (by first | decide | omega)) (by rfl) T.m_law_next T.F_law_next.kp T.b_law_next .nil pass0 (pa_cons (pv 0) (pa_cons (pe_op op_add (pe_callB (id := "len") b_len (by rfl) T.z_len (by decide +kernel) (pa_cons (pv 3) pa_nil)) pe_int) pa_nil))))
      (pss_cons (ps_if (pt_cmpR op_eq (pv 4) pe_int (nomark _)) (pss_one (ps_ret (pe_lst (pa_cons (pe_ix ix_seq (pe_lst (pa_cons (pe_un un_neg pe_int) (pa_cons pe_int (pa_cons pe_int (pa_cons pe_int (pa_cons pe_int (pa_cons pe_int (pa_cons pe_int (pa_cons pe_int (pa_cons pe_int (pa_cons pe_int (pa_cons pe_int (pa_cons pe_int pa_nil))))))))))))) (pe_call G_law_next (hr.mono (by first | decide | omega)) (by rfl) T.m_law_next T.F_law_next.kp T.b_law_next .nil pass0 (pa_cons (pv 0) (pa_cons pe_int pa_nil))) (fun _ _ => rfl)) (pa_cons (pv 2) (pa_cons (pv 3) pa_nil)))))) pss_nil)
      (pss_cons (ps_if (pt_cmpR op_eq (pv 4) pe_int (nomark _)) (pss_one (ps_ret (pe_lst (pa_cons (pv 1) (pa_cons (pe_lst pa_nil) (pa_cons (pe_lst pa_nil) pa_nil)))))) pss_nil)
      (pss_cons (ps_if (pt_cmpR op_eq (pv 4) pe_int (nomark _)) (pss_one (ps_ret (pe_lst (pa_cons (pv 1) (pa_cons (pe_op op_cat (pe_op op_cat (pe_slice sl_list (pv 2) po_none (po_some (pv 5))) (pe_lst (pa_cons (pe_un un_neg pe_int) pa_nil))) (pe_slice sl_list (pv 2) (po_some (pe_op op_add (pv 5) pe_int)) po_none)) (pa_cons (pv 3) pa_nil)))))) pss_nil)
      (pss_cons (ps_if (PW.pt (pw_and (pt_cmpR op_eq (pv 4) pe_int (nomark _)) (pw_and1 (pt_cmpR op_gt (pe_callB (id := "len") b_len (by rfl) T.z_len (by decide +kernel) (pa_cons (pv 3) pa_nil)) pe_int (nomark _))))) (pss_one (ps_ret (pe_lst (pa_cons (pv 1) (pa_cons (pv 2) (pa_cons (pe_slice sl_list (pv 3) po_none (po_some (pe_un un_neg pe_int))) pa_nil)))))) pss_nil)
      (pss_cons (ps_if (PW.pt (pw_or (pt_cmpR op_lt (pv 4) pe_int (nomark _)) (pw_or1 (pt_cmpR op_eq (pe_callB (id := "len") b_len (by rfl) T.z_len (by decide +kernel) (pa_cons (pv 3) pa_nil)) pe_int (nomark _))))) (pss_one (ps_ret (pe_lst (pa_cons (pv 1) (pa_cons (pv 2) (pa_cons (pe_op op_cat (pv 3) (pe_lst (pa_cons (pe_stat (E := fun _ _ _ _ => False) (pe_glob (v := .ref A.C_Matrix) (by rfl) T.c_Matrix rfl) T.st_Matrix_identity G_Matrix_identity (hr.mono (by first | decide | omega)) T.b_Matrix_identity (fun σ => pass0S σ) (pa_cons (pv 1) (pa_cons (pe_ix ix_seq (pv 2) (pe_un un_neg pe_int) (fun _ _ => rfl)) pa_nil))) pa_nil))) pa_nil)))))) pss_nil)
      (pss_cons (ps_set (i := 5) sc_law_spoilt.nd rfl (by first | exact Or.inl rfl | exact Or.inr rfl) (pe_op op_mod (pv 5) (pe_callB (id := "len") b_len (by rfl) T.z_len (by decide +kernel) (pa_cons (pv 3) pa_nil))))
      (pss_cons (ps_set (i := 6) sc_law_spoilt.nd rfl (by first | exact Or.inl rfl | exact Or.inr rfl) (pe_ix ix_seq (pv 3) (pv 5) (fun _ _ => rfl)))
      (pss_cons (ps_if (pt_cmpR op_eq (pv 4) pe_int (nomark _)) (pss_one (ps_set (i := 7) sc_law_spoilt.nd rfl (by first | exact Or.inl rfl | exact Or.inr rfl) (pe_makeS  T.mk_Matrix G_Matrix_init (hr.mono (by first | decide | omega)) (by rfl) T.c_Matrix T.b_Matrix_init (fun σ => passN σ) (pa_cons (pv 1) (pa_cons (pe_op op_add (pe_fld (pv 6) rfl) pe_int) (pa_cons (pe_lc (own := [("row", 9)]) (g := gName 9) rfl sc_law_spoilt.nd (pi_tup (pe_fld (pv 6) rfl)) (blkOk_by (N := ["draws", "base", "dims", "steps", "pick", "place", "one", "changed", "other", "row"]) (sc := defScope s_law_spoilt) (by decide +kernel)) (fun _ _ _ _ _ => pg_name (i := 9) sc_law_spoilt.nd rfl (by first | exact Or.inl rfl | exact Or.inr rfl)) (fun _ _ _ _ _ => pts_nil) (fun _ _ _ _ _ => (pe_op op_cat (pe_callTy (T := "list") (show CallR _ _ (rListOf_ K) from b_list) (by rfl) T.z_list (by decide +kernel) (pa_cons (pv 9) pa_nil)) (pe_lst (pa_cons pe_int pa_nil))))) pa_nil)))))) (pss_one (ps_set (i := 7) sc_law_spoilt.nd rfl (by first | exact Or.inl rfl | exact Or.inr rfl) (pe_makeS  T.mk_Matrix G_Matrix_init (hr.mono (by first | decide | omega)) (by rfl) T.c_Matrix T.b_Matrix_init (fun σ => passN σ) (pa_cons (pv 1) (pa_cons (pe_fld (pv 6) rfl) (pa_cons (pe_op op_cat (pe_lc (own := [("row", 9)]) (g := gName 9) rfl sc_law_spoilt.nd (pi_tup (pe_fld (pv 6) rfl)) (blkOk_by (N := ["draws", "base", "dims", "steps", "pick", "place", "one", "changed", "other", "row"]) (sc := defScope s_law_spoilt) (by decide +kernel)) (fun _ _ _ _ _ => pg_name (i := 9) sc_law_spoilt.nd rfl (by first | exact Or.inl rfl | exact Or.inr rfl)) (fun _ _ _ _ _ => pts_nil) (fun _ _ _ _ _ => (pe_callTy (T := "list") (show CallR _ _ (rListOf_ K) from b_list) (by rfl) T.z_list (by decide +kernel) (pa_cons (pv 9) pa_nil)))) (pe_lst (pa_cons (pe_op op_rep (pe_lst (pa_cons pe_int pa_nil)) (pe_fld (pv 6) rfl)) pa_nil))) pa_nil)))))))
      (pss_cons (ps_if (pt_cmpR op_eq (pe_call G_law_next (hr.mono (by first | decide | omega)) (by rfl) T.m_law_next T.F_law_next.kp T.b_law_next .nil pass0 (pa_cons (pv 0) (pa_cons pe_int pa_nil))) pe_int (nomark _)) (pss_cons (ps_set (i := 8) sc_law_spoilt.nd rfl (by first | exact Or.inl rfl | exact Or.inr rfl) (pe_ix ix_seq (pe_lst (pa_cons pe_int (pa_cons pe_int pa_nil))) (pe_callTy (T := "int") b_int (by rfl) T.z_int (by decide +kernel) (pa_cons (pe_cmpR op_eq (pv 1) pe_int (nomark _)) pa_nil)) (fun _ _ => rfl)))
      (pss_one (ps_set (i := 7) sc_law_spoilt.nd rfl (by first | exact Or.inl rfl | exact Or.inr rfl) (pe_makeS  T.mk_Matrix G_Matrix_init (hr.mono (by first | decide | omega)) (by rfl) T.c_Matrix T.b_Matrix_init (fun σ => passN σ) (pa_cons (pv 8) (pa_cons (pe_fld (pv 6) rfl) (pa_cons (pe_lc (own := [("row", 9)]) (g := gName 9) rfl sc_law_spoilt.nd (pi_tup (pe_fld (pv 6) rfl)) (blkOk_by (N := ["draws", "base", "dims", "steps", "pick", "place", "one", "changed", "other", "row"]) (sc := defScope s_law_spoilt) (by decide +kernel)) (fun _ _ _ _ _ => pg_name (i := 9) sc_law_spoilt.nd rfl (by first | exact Or.inl rfl | exact Or.inr rfl)) (fun _ _ _ _ _ => pts_nil) (fun _ _ _ _ _ => (pe_op op_rep (pe_lst (pa_cons pe_int pa_nil)) (show PE _ _ (tFld K _ _) from pe_fld (pv 6) rfl)))) pa_nil))))))) pss_nil)
      (pss_one (ps_ret (pe_lst (pa_cons (pv 1) (pa_cons (pv 2) (pa_cons (pe_op op_cat (pe_op op_cat (pe_slice sl_list (pv 3) po_none (po_some (pv 5))) (pe_lst (pa_cons (pv 7) pa_nil))) (pe_slice sl_list (pv 3) (po_some (pe_op op_add (pv 5) pe_int)) po_none)) pa_nil))))))))))))))))), ?_⟩
  try dsimp only [cxOf, Cx.nox, Cx.wish, Cx.blk]
  have hS := Sta.start1 (K := K) hG hA hga
  have hdr := hd.rp
  have hsr := hs.rp
  have hsl : ((mkS b dims ms).map (stD A.C_Matrix)).length = ms.length := by rw [List.length_map, len]
  refine go_start (σ := [some (.ref a), some (.int b), some (.ref d), some (.ref s), none, none, none, none, none, none]) rfl ?_
  walk_at "go"
  · -- no base
    rename_i pk Ha pk0 pk1 hSa pl Hb pl0 pl1 hSb c0
    refine go_newX (ds := ([-2, 0, 1, 4, 6, 9, 25, 91, 98, 99, 100, 101] : List Int).map Dt.int) hSb (by simp) (RpAll.ints (bs := [-2, 0, 1, 4, 6, 9, 25, 91, 98, 99, 100, 101])) fun p2 G2 H2 e2 hS2 hp2 => ?_
    have hd2 := hdr.up e2
    have hs2 := hsr.up e2
    walk_at "go"
    rename_i v3 H3 v30 v31 hS3
    obtain ⟨w, hw, nb⟩ := no9 v3 v30 v31
    refine go_ixB (d := .int w) hp2.rp hS3.gh hw fun v hv => ?_
    cases Rp.int_inv hv
    walk_at "go"
    walk_at "nl"
    rename_i p4 G4 H4 e4 hS4 hr4
    exact q _ w dims (mkS b dims ms) _ _ _ hS4.adv (hS4.get (i := 0) rfl) hr4 (by omega) (by omega) (fun s hs => ok.wm hs) (no_base nb)
  · -- no dims
    rename_i pk Ha pk0 pk1 hSa pl Hb pl0 pl1 hSb c0 c1
    refine go_newX (ds := []) hSb (by simp) .nil fun p2 G2 H2 e2 hS2 hp2 => ?_
    walk_at "go"
    refine go_newX (ds := []) hS2 (by simp) .nil fun p3 G3 H3 e3 hS3 hp3 => ?_
    have h2 := (hp2.up e3).rp
    have h3 := hp3.rp
    walk_at "go"
    walk_at "nl"
    rename_i p4 G4 H4 e4 hS4 hr4
    exact q _ b [] [] _ _ _ hS4.adv (hS4.get (i := 0) rfl) hr4 (by simp) (by simp) (fun s hs => by cases hs) (no_len (by simp))
  · -- a dimension below 0
    rename_i pk Ha pk0 pk1 hSa pl Hb pl0 pl1 hSb c0 c1 c2
    obtain ⟨pl, rfl⟩ := Int.eq_ofNat_of_zero_le pl0
    refine go_slHi pl hSb hd rfl fun p2 G2 H2 e2 hS2 hp2 => ?_
    walk_at "go"
    refine go_newX (ds := [.int (-1)]) hS2 (by simp) (.one (.int _)) fun p3 G3 H3 e3 hS3 hp3 => ?_
    walk_at "go"
    refine go_catL hS3 (hp2.up e3) hp3 (by simp; omega) fun p4 G4 H4 e4 hS4 hp4 => ?_
    walk_at "go"
    refine go_slLo (pl + 1) hS4 (((hd.up e2).up e3).up e4) (by omega) fun p5 G5 H5 e5 hS5 hp5 => ?_
    walk_at "go"
    refine go_catL hS5 (hp4.up e5) hp5 (by simp; omega) fun p6 G6 H6 e6 hS6 hp6 => ?_
    have e : (dims.map Dt.int).take pl ++ [Dt.int (-1)] ++ (dims.map Dt.int).drop (pl + 1) = (dims.take pl ++ [-1] ++ dims.drop (pl + 1)).map Dt.int := by simp [List.map_take, List.map_drop]
    rw [e] at hp6
    have h6 := hp6.rp
    have hs6 := ((((hsr.up e2).up e3).up e4).up e5).up e6
    walk_at "go"
    walk_at "nl"
    rename_i p7 G7 H7 e7 hS7 hr7
    exact q _ b (dims.take pl ++ [-1] ++ dims.drop (pl + 1)) (mkS b dims ms) _ _ _ hS7.adv (hS7.get (i := 0) rfl) hr7 (by simp; omega) (by omega) (fun s hs => ok.wm hs) (no_neg (d := -1) (by simp) (by decide))
  · -- a step too few
    rename_i pk Ha pk0 pk1 hSa pl Hb pl0 pl1 hSb c0 c1 c2 c3 c4
    refine go_slBut hSb hs fun p2 G2 H2 e2 hS2 hp2 => ?_
    rw [← List.map_take] at hp2
    have h2 := hp2.rp
    have hd2 := hdr.up e2
    walk_at "go"
    walk_at "nl"
    rename_i p7 G7 H7 e7 hS7 hr7
    exact q _ b dims ((mkS b dims ms).take _) _ _ _ hS7.adv (hS7.get (i := 0) rfl) hr7 (by omega) (by simp; omega) (fun s hs => ok.wm (List.mem_of_mem_take hs)) (no_len (by simp; omega))
  all_goals try (exfalso; omega)
  rotate_left 3
  · rename_i pk Ha pk0 pk1 hSa pl Hb pl0 pl1 hSb c0 c1 c2 c3 c4 c5
    have hne : ms.length ≠ 0 := by omega
    have hm0 := Int.emod_nonneg pl (show (ms.length : Int) ≠ 0 by omega)
    have hm1 := Int.emod_lt_of_pos pl (show (0 : Int) < ms.length by omega)
    obtain ⟨i, hi⟩ := Int.eq_ofNat_of_zero_le hm0
    have hi' : i < ms.length := by omega
    simp only [hsl, hi]
    have o : okRs b (dims.getD (i + 1) 0) (dims.getD i 0) (ms.getD i []) := ok.hs i _ (by simp [List.getD, hi'])
    have g : ∀ j, j < dims.length → 0 ≤ dims.getD j 0 ∧ dims.getD j 0 ≤ 200 := fun j hj => by
      rw [List.getD, List.getElem?_eq_getElem hj]
      exact ok.hd _ (List.getElem_mem hj)
    have g1 := g i (by omega)
    have g2 := g (i + 1) (by omega)
    have ol := o.1
    have okA : okRs b (dims.getD (i + 1) 0) (dims.getD i 0 + 1) ((ms.getD i []).map (· ++ [0])) := ⟨by rw [List.length_map]; exact o.1, fun r hr => by
      obtain ⟨c, hc, rfl⟩ := List.mem_map.mp hr
      have oc := o.2 c hc
      refine ⟨by rw [List.length_append, List.length_singleton]; have := oc.1; omega, fun e he => ?_⟩
      rcases List.mem_append.mp he with he | he
      · exact oc.2 e he
      · rw [List.mem_singleton] at he
        omega⟩
    have okB : okRs b (dims.getD (i + 1) 0 + 1) (dims.getD i 0) (ms.getD i [] ++ [List.replicate (dims.getD i 0).toNat 0]) := ⟨by rw [List.length_append, List.length_singleton]; omega, fun r hr => by
      rcases List.mem_append.mp hr with hr | hr
      · exact o.2 r hr
      · rw [List.mem_singleton] at hr
        subst hr
        exact ⟨by rw [List.length_replicate]; omega, fun e he => by rw [List.eq_of_mem_replicate he]; omega⟩⟩
    refine go_ixB (d := stD A.C_Matrix (b, dims.getD i 0, ms.getD i [])) hsr hSb.gh (by refine atI_nat ?_; rw [List.getElem?_map, mkS_get hi']; rfl) fun one hone => ?_
    have hone' : Rp K G one (matD A.C_Matrix b (dims.getD i 0) (ms.getD i [])) := hone
    walk_at "to"
    refine go_seq ?_
    refine go_join (fun σ' H' => ∃ (G' : Hp) (y : V) (s' : Int × Int × List (List Int)), Same G G' ∧ Sta K G H [a] G' [(a, drw r (at_ + 1 + 1))] H' ∧ Rp K G' y (stD A.C_Matrix s') ∧ WM s'.1 s'.2.1 s'.2.2 ∧ ¬ (s'.1 = b ∧ s'.2.1 = dims.getD i 0 ∧ (s'.2.2.length : Int) = dims.getD (i + 1) 0) ∧ σ' = [some (.ref a), some (.int b), some (.ref d), some (.ref s), some (.int pk), some (.int i), some one, some y, none, none]) ?_ ?_
    · intro N hN
      walk_at "go"
      · refine lcMapTR (as := ms.getD i []) (Da := rowD) (F := fun r => wrD false (r ++ [0])) hSb (by assumption) (by assumption) (by omega) ?_ ?_
        · intro z c L G7 vs7 es7 H7 Z7 hc hz e7 l7 hS7 hvs7 fin7
          have oc := (o.2 c hc).1
          have hh : Hid9 (Rp K G7 z (.tup (c.map .int))) := ⟨hz⟩
          clear hz
          walk_at "go"
          refine go_listTR hS7 hh.out fun p8 G8 H8 e8 hS8 hp8 => ?_
          walk_at "go"
          refine go_newX (ds := [.int 0]) hS8 (by simp) (.one (.int _)) fun p9 G9 H9 e9 hS9 hp9 => ?_
          walk_at "go"
          refine go_catL hS9 (hp8.up e9) hp9 (by simp; omega) fun pa G10 H10 e10 hS10 hpa => ?_
          refine fin7 _ _ _ ((e8.trans e9).trans e10) hS10 ?_
          have h := hpa.rp
          rw [show c.map Dt.int ++ [Dt.int 0] = (c ++ [0]).map Dt.int by simp] at h
          exact h
        intro p10 G10 H10 e10 hS10 hp10
        have hone10 := hone'.up e10
        walk_at "go"
        refine go_mat (t := false) (rs := (ms.getD i []).map (· ++ [0])) hS10 (by rw [List.map_map]; exact hp10.rp) (okA.wm' ok.hb (by omega) (by omega) (by omega)) fun y G11 H11 e11 hS11 hy => ?_
        walk_at "go"
        exact hN _ _ ⟨G11, _, (b, dims.getD i 0 + 1, (ms.getD i []).map (· ++ [0])), e10.trans e11, hS11, hy, okA.wm' ok.hb (by omega) (by omega) (by omega), fun z => by have := z.2.1; dsimp only at this; omega, rfl⟩
      · refine lcMapTR (as := ms.getD i []) (Da := rowD) (F := fun r => wrD false r) hSb (by assumption) (by assumption) (by omega) ?_ ?_
        · intro z c L G7 vs7 es7 H7 Z7 hc hz e7 l7 hS7 hvs7 fin7
          have hz' : Rp K G7 z (.tup (c.map .int)) := hz
          walk_at "go"
          rename_i p8 G8 H8 e8 hS8 hp8
          exact fin7 _ _ _ e8 hS8 hp8
        intro p10 G10 H10 e10 hS10 hp10
        have hone10 := hone'.up e10
        walk_at "go"
        refine go_newR hS10 (by simp) fun p11 G11 H11 e11 hS11 hp11 => ?_
        have hone11 := hone10.up e11
        walk_at "go"
        refine go_repZ hS11 hp11 g1.1 (by omega) fun p12 G12 H12 e12 hS12 hp12 => ?_
        walk_at "go"
        refine go_newX (ds := [wrD false (List.replicate (dims.getD i 0).toNat 0)]) hS12 (by simp) (.one hp12.rp) fun p13 G13 H13 e13 hS13 hp13 => ?_
        walk_at "go"
        refine go_catL hS13 (((hp10.up e11).up e12).up e13) hp13 (by rw [List.length_map, List.length_singleton]; omega) fun p14 G14 H14 e14 hS14 hp14 => ?_
        walk_at "go"
        refine go_mat (t := false) (rs := ms.getD i [] ++ [List.replicate (dims.getD i 0).toNat 0]) hS14 (by rw [List.map_append]; exact hp14.rp) (okB.wm' ok.hb (by omega) (by omega) (by omega)) fun y G15 H15 e15 hS15 hy => ?_
        walk_at "go"
        exact hN _ _ ⟨G15, _, (b, dims.getD i 0, ms.getD i [] ++ [List.replicate (dims.getD i 0).toNat 0]), ((((e10.trans e11).trans e12).trans e13).trans e14).trans e15, hS15, hy, okB.wm' ok.hb (by omega) (by omega) (by omega), fun z => by have := z.2.2; have := okB.1; dsimp only at *; omega, rfl⟩
    rintro σ' H2 ⟨G2, y0, s0, e2, hS2, hy0, wm0, bad0, rfl⟩
    have hone2 := hone'.up e2
    walk_at "to"
    refine go_seq ?_
    refine go_join (fun σ' H' => ∃ (G' : Hp) (y : V) (s' : Int × Int × List (List Int)) (at' : Int) (u8 : Option V), Same G2 G' ∧ Sta K G H [a] G' [(a, drw r at')] H' ∧ Rp K G' y (stD A.C_Matrix s') ∧ WM s'.1 s'.2.1 s'.2.2 ∧ ¬ (s'.1 = b ∧ s'.2.1 = dims.getD i 0 ∧ (s'.2.2.length : Int) = dims.getD (i + 1) 0) ∧ σ' = [some (.ref a), some (.int b), some (.ref d), some (.ref s), some (.int pk), some (.int i), some one, some y, u8, none]) ?_ ?_
    · intro N hN
      walk_at "go"
      · walk_at "nl"
        walk_at "go"
        rename_i p3 G3 H3 e3 hS3 hr3
        refine go_pick2 hr3 hS3.gh (by split <;> omega) (by split <;> omega) fun m hm => ?_
        obtain ⟨hBm, hnm⟩ := isB_32' (b := b) rfl hm
        have hone3 := hone2.up e3
        walk_at "go"
        refine lcMapTR (as := ms.getD i []) (Da := rowD) (F := fun r => wrD false (List.replicate (dims.getD i 0).toNat 0)) hS3 (by assumption) (by assumption) (by omega) ?_ ?_
        · intro z c L G7 vs7 es7 H7 Z7 hc hz e7 l7 hS7 hvs7 fin7
          have hone7 := hone3.up e7
          walk_at "go"
          refine go_newR hS7 (by simp) fun p11 G11 H11 e11 hS11 hp11 => ?_
          have hone11 := hone7.up e11
          walk_at "go"
          refine go_repZ hS11 hp11 g1.1 (by omega) fun p12 G12 H12 e12 hS12 hp12 => ?_
          exact fin7 _ _ _ (e11.trans e12) hS12 hp12.rp
        intro p10 G10 H10 e10 hS10 hp10
        have okC : okRs m (dims.getD (i + 1) 0) (dims.getD i 0) ((ms.getD i []).map fun _ => List.replicate (dims.getD i 0).toNat 0) := ⟨by rw [List.length_map]; exact o.1, fun r hr => by
          obtain ⟨c, hc, rfl⟩ := List.mem_map.mp hr
          exact ⟨by rw [List.length_replicate]; omega, fun e he => by rw [List.eq_of_mem_replicate he]; have := isB_bd hBm; omega⟩⟩
        walk_at "go"
        refine go_mat (t := false) (rs := (ms.getD i []).map fun _ => List.replicate (dims.getD i 0).toNat 0) hS10 (by rw [List.map_map]; exact hp10.rp) (okC.wm' hBm (by omega) (by omega) (by omega)) fun y G11 H11 e11 hS11 hy => ?_
        walk_at "go"
        exact hN _ _ ⟨G11, _, (m, dims.getD i 0, (ms.getD i []).map fun _ => List.replicate (dims.getD i 0).toNat 0), _, _, (e3.trans e10).trans e11, hS11, hy, okC.wm' hBm (by omega) (by omega) (by omega), fun z => hnm z.1, rfl⟩
      · exact hN _ _ ⟨G2, _, s0, _, _, Same.refl _, by assumption, hy0, wm0, bad0, rfl⟩
    rintro σ' H3 ⟨G3, y1, s1, at3, u8, e3, hS3, hy1, wm1, bad1, rfl⟩
    have hs3 := (hs.up e2).up e3
    have hdr3 := (hdr.up e2).up e3
    walk_at "go"
    refine go_slHi i hS3 hs3 rfl fun p4 G4 H4 e4 hS4 hp4 => ?_
    walk_at "go"
    refine go_newX (ds := [stD A.C_Matrix s1]) hS4 (by simp) (.one (hy1.up e4)) fun p5 G5 H5 e5 hS5 hp5 => ?_
    walk_at "go"
    refine go_catL hS5 (hp4.up e5) hp5 (by simp; omega) fun p6 G6 H6 e6 hS6 hp6 => ?_
    walk_at "go"
    refine go_slLo (i + 1) hS6 (((hs3.up e4).up e5).up e6) (by omega) fun p7 G7 H7 e7 hS7 hp7 => ?_
    walk_at "go"
    refine go_catL hS7 (hp6.up e7) hp7 (by simp; omega) fun p8 G8 H8 e8 hS8 hp8 => ?_
    have e : ((mkS b dims ms).map (stD A.C_Matrix)).take i ++ [stD A.C_Matrix s1] ++ ((mkS b dims ms).map (stD A.C_Matrix)).drop (i + 1) = ((mkS b dims ms).take i ++ [s1] ++ (mkS b dims ms).drop (i + 1)).map (stD A.C_Matrix) := by simp [List.map_take, List.map_drop]
    rw [e] at hp8
    have h8 := hp8.rp
    have hd8 := ((((hdr3.up e4).up e5).up e6).up e7).up e8
    walk_at "go"
    walk_at "nl"
    rename_i p9 G9 H9 e9 hS9 hr9
    refine q _ b dims ((mkS b dims ms).take i ++ [s1] ++ (mkS b dims ms).drop (i + 1)) _ _ _ hS9.adv (hS9.get (i := 0) rfl) hr9 (by omega) (by simp; omega) (fun s hs => ?_) (no_step (i := i) (s := s1) ?_ bad1)
    · rcases List.mem_append.mp hs with hs | hs
      · rcases List.mem_append.mp hs with hs | hs
        · exact ok.wm (List.mem_of_mem_take hs)
        · rw [List.mem_singleton] at hs
          subst hs
          exact wm1
      · exact ok.wm (List.mem_of_mem_drop hs)
    · have lt : ((mkS b dims ms).take i).length = i := by simp; omega
      rw [List.append_assoc, List.getElem?_append_right (by omega), lt, Nat.sub_self]
      rfl
  all_goals
    have hSb := ‹Sta K G H [a] G [(a, drw r (at_ + 1 + 1))] _›
    have hx := ok.hd (dims.getD (dims.length - 1) 0) (by rw [List.getD, List.getElem?_eq_getElem (by omega)]; exact List.getElem_mem (by omega))
    refine go_ixB (d := .int (dims.getD (dims.length - 1) 0)) hdr hSb.gh (atI_neg1 (by omega)) fun v hv => ?_
    cases Rp.int_inv hv
    walk_at "go"
    refine go_ident hSb ok.hb (by omega) (by omega) fun y G2 H2 e2 hS2 hy => ?_
    walk_at "go"
    refine go_newX (ds := [stD A.C_Matrix (b, dims.getD (dims.length - 1) 0, idM (dims.getD (dims.length - 1) 0))]) hS2 (by simp) (.one hy) fun p3 G3 H3 e3 hS3 hp3 => ?_
    walk_at "go"
    refine go_catL hS3 ((hs.up e2).up e3) hp3 (by simp; omega) fun p4 G4 H4 e4 hS4 hp4 => ?_
    have h4 : Rp K G4 (.ref p4) (.lst ((mkS b dims ms ++ [(b, dims.getD (dims.length - 1) 0, idM (dims.getD (dims.length - 1) 0))]).map (stD A.C_Matrix))) := by
      rw [List.map_append]
      exact hp4.rp
    have hd4 := ((hdr.up e2).up e3).up e4
    walk_at "go"
    walk_at "nl"
    rename_i p7 G7 H7 e7 hS7 hr7
    refine q _ b dims _ _ _ _ hS7.adv (hS7.get (i := 0) rfl) hr7 (by omega) (by simp; omega) (fun s hs => ?_) (no_len (by simp; omega))
    rcases List.mem_append.mp hs with hs | hs
    · exact ok.wm hs
    · rw [List.mem_singleton] at hs
      subst hs
      dsimp only
      exact (okRs.id (by omega) (by omega)).wm' ok.hb (by omega) (by omega) (by omega)
theorem go_spoil {A : Ad} {G0 H0 G H : Hp} {D : List Addr} {M : List (Addr × HO)} {Q : VK} {E : XK} {a r d s : Addr} {at_ b : Int} {dims : List Int} {ms : List (List (List Int))} {i : Nat} (hS : Sta K G0 H0 D G M H) (hi : M[i]? = some (a, drw r at_)) (hr : RowOk K G r) (h0 : 0 ≤ at_) (h1 : at_ ≤ 800000000) (hd : RpL K G d (dims.map .int)) (hs : RpL K G s ((mkS b dims ms).map (stD A.C_Matrix))) (ok : WR b dims ms)
    (q : ∀ y b' ds' ss' at' G1 H1, Same G G1 → Sta K G0 H0 D G1 (M.set i (a, drw r at')) H1 → Rp K G1 y (.lst [.int b', .lst (ds'.map .int), .lst (ss'.map (stD A.C_Matrix))]) → ds'.length ≤ 1000 → ss'.length ≤ 1000 → (∀ s ∈ ss', WM s.1 s.2.1 s.2.2) → ¬ okR b' ds' ss' → Q y H1) : spSpoil K A [.ref a, .int b, .ref d, .ref s] H Q E :=
  ⟨a, r, at_, b, d, s, G, dims, ms, rfl, hS.gh, (hS.mh _ (List.mem_of_getElem? hi)).2.1, hS.get hi, hr, h0, h1, hd, hs, ok, fun y b' ds' ss' at' G1 H1 ad h1 h2 h3 h4 h5 h6 => q y b' ds' ss' at' G1 H1 ad.gg (hS.callM hi ad h1) h2 h3 h4 h5 h6⟩
theorem noLs_map {α : Type} {f : α → Dt} (h : ∀ x, noL (f x) = true) : ∀ xs : List α, noLs (xs.map f) = true
  | [] => rfl
  | x :: xs => by simp only [List.map_cons, noLs, h x, noLs_map h xs, Bool.and_self]
theorem noL_mat (C : Addr) (s : Int × Int × List (List Int)) : noL (stD C s) = true := by
  have h1 : ∀ r : List Int, noL (rowD r) = true := fun r => by
    show noLs (r.map Dt.int) = true
    exact noLs_map (fun _ => rfl) r
  show (noL (.int s.1) && (noL (.int s.2.1) && (noL (.tup (s.2.2.map rowD)) && true))) = true
  have h2 : noL (.tup (s.2.2.map rowD)) = true := noLs_map h1 _
  rw [h2]
  rfl
theorem noL_row {A : Ad} {b : Int} {dims : List Int} {ms : List (List (List Int))} : noL (rowI A b dims ms) = true := by
  show (noL (.int b) && (noL (.tup (dims.map .int)) && (noL (.tup ((mkS b dims ms).map (stD A.C_Matrix))) && true))) = true
  have h1 : noL (.tup (dims.map .int)) = true := noLs_map (fun _ => rfl) _
  have h2 : noL (.tup ((mkS b dims ms).map (stD A.C_Matrix))) = true := noLs_map (noL_mat _) _
  rw [h1, h2]
  rfl
theorem mkS_app {b : Int} {dims : List Int} {ms : List (List (List Int))} {m : List (List Int)} (hl : dims.length = ms.length + 1) : mkS b (dims ++ [0]) (ms ++ [m]) = mkS b dims ms ++ [(b, dims.getD (dims.length - 1) 0, m)] := by
  unfold mkS
  rw [List.length_append, List.length_singleton, List.range_succ, List.map_append]
  congr 1
  · refine List.map_congr_left fun t ht => ?_
    rw [List.mem_range] at ht
    have e1 : (dims ++ [0]).getD t 0 = dims.getD t 0 := by simp only [List.getD]; rw [List.getElem?_append_left (by omega)]
    have e2 : (ms ++ [m]).getD t [] = ms.getD t [] := by simp only [List.getD]; rw [List.getElem?_append_left (by omega)]
    rw [e1, e2]
  · have e1 : (dims ++ [0]).getD ms.length 0 = dims.getD (dims.length - 1) 0 := by
      simp only [List.getD]
      rw [List.getElem?_append_left (by omega), hl, Nat.add_sub_cancel]
    have e2 : (ms ++ [m]).getD ms.length [] = m := by simp [List.getD]
    simp only [List.map_cons, List.map_nil, e1, e2]
theorem WR.more0 {b : Int} {dims : List Int} {ms : List (List (List Int))} (ok : WR b dims ms) (hk : dims.length < 200) : WR b (dims ++ [0]) (ms ++ [zrF 0 (dims.getD (dims.length - 1) 0)]) := by
  have hl := ok.hl
  refine ⟨ok.hb, by rw [List.length_append, List.length_append, List.length_singleton, List.length_singleton]; omega, by rw [List.length_append, List.length_singleton]; omega, fun d hd => ?_, fun i m hm => ?_⟩
  · rcases List.mem_append.mp hd with h | h
    · exact ok.hd d h
    · rw [List.mem_singleton] at h
      omega
  · by_cases hi : i < ms.length
    · rw [List.getElem?_append_left hi] at hm
      have o := ok.hs i m hm
      have e1 : (dims ++ [0]).getD (i + 1) 0 = dims.getD (i + 1) 0 := by simp only [List.getD]; rw [List.getElem?_append_left (by omega)]
      have e2 : (dims ++ [0]).getD i 0 = dims.getD i 0 := by simp only [List.getD]; rw [List.getElem?_append_left (by omega)]
      rw [e1, e2]
      exact o
    · rw [List.getElem?_append_right (by omega)] at hm
      have hi2 : i = ms.length := by
        have := (List.getElem?_eq_some_iff.mp hm).1
        simp at this
        omega
      subst hi2
      rw [Nat.sub_self] at hm
      cases hm
      have e1 : (dims ++ [0]).getD (ms.length + 1) 0 = 0 := by
        rw [← hl]
        simp [List.getD]
      rw [e1]
      exact ⟨rfl, fun r hr => by simp [zrF] at hr⟩
theorem ixN0 {n : Nat} (h : 0 < n) : L2.ixN n 0 = some 0 := by
  unfold L2.ixN
  rw [if_pos (by omega), if_pos (by omega)]
  rfl
theorem wrN {m d : Int} (hb : isB m = true) (h : 0 ≤ d ∧ d ≤ 200) : WR m [d] [] := ⟨hb, rfl, by simp, fun e he => by rw [List.mem_singleton] at he; omega, fun i x hx => by simp at hx⟩
theorem okRN {m d : Int} (hb : isB m = true) (h : 0 ≤ d) : okR m [d] [] := ⟨hb, rfl, fun e he => by rw [List.mem_singleton] at he; omega, fun i x hx => by simp at hx⟩
theorem getD_mem {α : Type} {xs : List α} {i : Nat} {d : α} (h : i < xs.length) : xs.getD i d ∈ xs := by
  rw [List.getD, List.getElem?_eq_getElem h]
  exact List.getElem_mem h
/-- the rows with one entry changed -/
def chM (ms : List (List (List Int))) (i : Nat) (b : Int) : List (List (List Int)) := ms.set i ((ms.getD i []).set 0 (((ms.getD i []).getD 0 []).set 0 ((((ms.getD i []).getD 0 []).getD 0 0 + 1) % b)))
theorem chM_len {ms : List (List (List Int))} {i : Nat} {b : Int} : (chM ms i b).length = ms.length := List.length_set ..
theorem chM_ok {b : Int} {dims : List Int} {ms : List (List (List Int))} {i : Nat} (ok : WR b dims ms) (hi : i < ms.length) (h1 : 0 < dims.getD (i + 1) 0) : WR b dims (chM ms i b) := by
  have hb := ok.bd
  refine ⟨ok.hb, by rw [chM_len]; exact ok.hl, ok.hk, ok.hd, fun t m hm => ?_⟩
  by_cases ht : i = t
  · subst ht
    unfold chM at hm
    rw [List.getElem?_set_self hi] at hm
    cases hm
    have o := ok.hs i (ms.getD i []) (by simp [List.getD, hi])
    refine ⟨by rw [List.length_set]; exact o.1, fun r hr => ?_⟩
    rcases List.mem_or_eq_of_mem_set hr with hr | rfl
    · exact o.2 r hr
    · have hl : 0 < (ms.getD i []).length := by have := o.1; omega
      have ro := o.2 ((ms.getD i []).getD 0 []) (getD_mem hl)
      refine ⟨by rw [List.length_set]; exact ro.1, fun e he => ?_⟩
      rcases List.mem_or_eq_of_mem_set he with he | rfl
      · exact ro.2 e he
      · exact ⟨Int.emod_nonneg _ (by omega), Int.emod_lt_of_pos _ (by omega)⟩
  · unfold chM at hm
    rw [List.getElem?_set_ne ht] at hm
    exact ok.hs t m hm
theorem chM_ne {b : Int} {dims : List Int} {ms : List (List (List Int))} {i : Nat} (ok : WR b dims ms) (hi : i < ms.length) (h0 : 0 < dims.getD i 0) (h1 : 0 < dims.getD (i + 1) 0) : eqR b dims ms b dims (chM ms i b) = false := by
  have hb := ok.bd
  have o := ok.hs i (ms.getD i []) (by simp [List.getD, hi])
  have hl : 0 < (ms.getD i []).length := by have := o.1; omega
  have ro := o.2 ((ms.getD i []).getD 0 []) (getD_mem hl)
  have hr : 0 < ((ms.getD i []).getD 0 []).length := by have := ro.1; omega
  have eb := ro.2 (((ms.getD i []).getD 0 []).getD 0 0) (getD_mem hr)
  have ne : mkS b dims ms ≠ mkS b dims (chM ms i b) := fun e => by
    have e1 := congrArg (List.map fun s : Int × Int × List (List Int) => s.2.2) e
    rw [mkS_ms, mkS_ms] at e1
    have e2 : (ms.getD i []) = (chM ms i b).getD i [] := by rw [← e1]
    have e3 : (chM ms i b).getD i [] = (ms.getD i []).set 0 (((ms.getD i []).getD 0 []).set 0 ((((ms.getD i []).getD 0 []).getD 0 0 + 1) % b)) := by
      unfold chM
      rw [List.getD_eq_getElem?_getD (i := i), List.getElem?_set_self hi]
      rfl
    rw [e3] at e2
    generalize ms.getD i [] = m at *
    have e4 : m.getD 0 [] = (m.getD 0 []).set 0 (((m.getD 0 []).getD 0 0 + 1) % b) := by
      have := congrArg (fun l => List.getD l 0 []) e2
      rw [List.getD_eq_getElem?_getD (l := m.set _ _), List.getElem?_set_self hl] at this
      exact this
    generalize m.getD 0 [] = r at *
    have e5 : r.getD 0 0 = (r.getD 0 0 + 1) % b := by
      have := congrArg (fun l => List.getD l 0 0) e4
      rw [List.getD_eq_getElem?_getD (l := r.set _ _), List.getElem?_set_self hr] at this
      exact this
    generalize r.getD 0 0 = x at *
    by_cases hx : x + 1 < b
    · rw [Int.emod_eq_of_lt (by omega) hx] at e5
      omega
    · have : x + 1 = b := by omega
      rw [this, Int.emod_self] at e5
      omega
  unfold eqR
  rw [decide_eq_false ne]
  simp
theorem chM_map {ms : List (List (List Int))} {i : Nat} {b : Int} {f : List (List Int) → Dt} (hi : i < ms.length) : (chM ms i b).map f = (ms.take i).map f ++ f ((ms.getD i []).set 0 (((ms.getD i []).getD 0 []).set 0 ((((ms.getD i []).getD 0 []).getD 0 0 + 1) % b))) :: (ms.drop (i + 1)).map f := by
  unfold chM
  rw [List.set_eq_take_append_cons_drop, if_pos hi, List.map_append, List.map_cons]
theorem set0_map {m : List (List Int)} {r : List Int} (h : 0 < m.length) : (m.set 0 r).map (wrD false) = wrD false r :: (m.drop 1).map (wrD false) := by
  cases m with
  | nil => cases h
  | cons x m => rfl
theorem take_s {α β : Type} {f : α → β} {xs : List α} {j : Nat} {d : α} (h : j < xs.length) : (xs.take (j + 1)).map f = (xs.take j).map f ++ [f (xs.getD j d)] := by
  rw [List.take_add_one, List.getElem?_eq_getElem h, List.map_append]
  simp [List.getD, h]
theorem take_d {α β : Type} {f : α → β} {xs : List α} {i j : Nat} {d : α} (h : j < xs.length) (hij : i ≤ j) : ((xs.take (j + 1)).drop i).map f = ((xs.take j).drop i).map f ++ [f (xs.getD j d)] := by
  rw [List.take_add_one, List.getElem?_eq_getElem h, List.drop_append_of_le_length (by rw [List.length_take]; omega), List.map_append]
  simp [List.getD, h]
theorem atI_mid {v1 v2 : List V} {x : V} {i : Nat} (h : v1.length = i) : L2.atI (v1 ++ x :: v2) (i : Int) = some x := by
  refine L2.atI_nat ?_
  rw [List.getElem?_append_right (by omega), h, Nat.sub_self]
  rfl
theorem ok_law (T : Txt K mg A) : FnOk P w K mg base CX0 8 A.f_law A.d_law ["script"] (spLaw K) := by
  have G_Matrix_init := ok_Matrix_init (P := P) (w := w) (base := base) T
  have G_Matrix_zero := ok_Matrix_zero (P := P) (w := w) (base := base) T
  have G_Row_eq := ok_Row_eq (P := P) (w := w) (base := base) T
  have G_Row_init := ok_Row_init (P := P) (w := w) (base := base) T
  have G_law_any_row := ok_law_any_row (P := P) (w := w) (base := base) T
  have G_law_cell := ok_law_cell (P := P) (w := w) (base := base) T
  have G_law_draws := ok_law_draws (P := P) (w := w) (base := base) T
  have G_law_fails := ok_law_fails (P := P) (w := w) (base := base) T
  have G_law_is_row := ok_law_is_row (P := P) (w := w) (base := base) T
  have G_law_made_row := ok_law_made_row (P := P) (w := w) (base := base) T
  have G_law_next := ok_law_next (P := P) (w := w) (base := base) T
  have G_law_prime := ok_law_prime (P := P) (w := w) (base := base) T
  have G_law_spoilt := ok_law_spoilt (P := P) (w := w) (base := base) T
  refine T.F_law.ok sc_law (fun vs H Q E h => by first | (obtain ⟨rfl, _⟩ := h; rfl) | (obtain ⟨_, rfl, _⟩ := h; rfl) | (obtain ⟨_, _, rfl, _⟩ := h; rfl) | (obtain ⟨_, _, _, rfl, _⟩ := h; rfl) | (obtain ⟨_, _, _, _, rfl, _⟩ := h; rfl) | (obtain ⟨_, _, _, _, _, rfl, _⟩ := h; rfl) | (obtain ⟨_, _, _, _, _, _, rfl, _⟩ := h; rfl) | (obtain ⟨_, _, _, _, _, _, _, rfl, _⟩ := h; rfl) | (obtain ⟨_, _, _, _, _, _, _, _, rfl, _⟩ := h; rfl) | (obtain ⟨_, _, _, _, _, _, _, _, _, rfl, _⟩ := h; rfl) | (obtain ⟨_, _, _, _, _, _, _, _, _, _, rfl, _⟩ := h; rfl) | (obtain ⟨_, _, _, _, _, _, _, _, _, _, _, rfl, _⟩ := h; rfl) | (obtain ⟨_, _, _, _, _, _, _, _, _, _, _, _, rfl, _⟩ := h; rfl) | (obtain ⟨_, _, _, _, _, _, _, _, _, _, _, _, _, rfl, _⟩ := h; rfl) | exact wk_len h) (fun cdv AA outer s H vs Q E hr h => ?_)
  obtain ⟨a, ns, rfl, hs, hl, q⟩ := h
  refine ⟨_, (pss_cons (ps_set (i := 1) sc_law.nd rfl (by first | exact Or.inl rfl | exact Or.inr rfl) (pe_call G_law_draws (hr.mono (by first | decide | omega)) (by rfl) T.m_law_draws T.F_law_draws.kp T.b_law_draws .nil pass0 (pa_cons (pe_call G_law_cell (hr.mono (by first | decide | omega)) (by rfl) T.m_law_cell T.F_law_cell.kp T.b_law_cell .nil pass0 (pa_cons (pv 0) (pa_cons pe_int pa_nil))) pa_nil)))
      (pss_cons (ps_set (i := 2) sc_law.nd rfl (by first | exact Or.inl rfl | exact Or.inr rfl) (pe_call G_law_prime (hr.mono (by first | decide | omega)) (by rfl) T.m_law_prime T.F_law_prime.kp T.b_law_prime .nil pass0 (pa_cons (pv 1) pa_nil)))
      (pss_cons (ps_set (i := 3) sc_law.nd rfl (by first | exact Or.inl rfl | exact Or.inr rfl) (pe_call G_law_next (hr.mono (by first | decide | omega)) (by rfl) T.m_law_next T.F_law_next.kp T.b_law_next .nil pass0 (pa_cons (pv 1) (pa_cons pe_int pa_nil))))
      (pss_cons (ps_set (i := 4) sc_law.nd rfl (by first | exact Or.inl rfl | exact Or.inr rfl) (pe_call G_law_any_row (hr.mono (by first | decide | omega)) (by rfl) T.m_law_any_row T.F_law_any_row.kp T.b_law_any_row .nil pass0 (pa_cons (pv 1) (pa_cons (pv 2) (pa_cons (pv 3) pa_nil)))))
      (pss_cons (ps_set (i := 5) sc_law.nd rfl (by first | exact Or.inl rfl | exact Or.inr rfl) (pe_ix ix_seq (pv 4) pe_int (fun _ _ => rfl)))
      (pss_cons (ps_setLc (i := 6) (own := [("time", 9)]) (g := gName 9) rfl sc_law.nd rfl rfl (sw_true rfl rfl rfl (by decide +kernel)) (pi_range1 (by rfl) T.z_range (pa_cons (pv 3) pa_nil)) (blkOk_by (N := ["script", "draws", "base", "last", "found", "dims", "steps", "handed", "row", "time", "other", "others", "spoilt", "kept", "line", "step"]) (sc := defScope s_law) (by decide +kernel)) (fun _ _ _ _ _ => pg_name (i := 9) sc_law.nd rfl (by first | exact Or.inl rfl | exact Or.inr rfl)) (fun _ _ _ _ _ => pts_nil) (fun _ _ _ _ _ => (pe_makeS  T.mk_Matrix G_Matrix_init (hr.mono (by first | decide | omega)) (by rfl) T.c_Matrix T.b_Matrix_init (fun σ => passN σ) (pa_cons (pv 2) (pa_cons (pe_ix (show IxR _ (rIx K) from ix_seq) (pv 5) (pv 9) (fun _ _ => rfl)) (pa_cons (pe_ix (show IxR _ (rIx K) from ix_seq) (pe_ix (show IxR _ (rIx K) from ix_seq) (pv 4) pe_int (fun _ _ => rfl)) (pv 9) (fun _ _ => rfl)) pa_nil))))))
      (pss_cons (ps_set (i := 7) sc_law.nd rfl (by first | exact Or.inl rfl | exact Or.inr rfl) (pe_lst (pa_cons (pe_callTy (T := "list") b_list (by rfl) T.z_list (by decide +kernel) (pa_cons (pv 5) pa_nil)) (pa_cons (pe_callTy (T := "list") b_list (by rfl) T.z_list (by decide +kernel) (pa_cons (pv 6) pa_nil)) pa_nil))))
      (pss_cons (ps_set (i := 8) sc_law.nd rfl (by first | exact Or.inl rfl | exact Or.inr rfl) (pe_makeS  T.mk_Row G_Row_init (hr.mono (by first | decide | omega)) (by rfl) T.c_Row T.b_Row_init (fun σ => passN σ) (pa_cons (pv 2) (pa_cons (pe_ix ix_seq (pv 7) pe_int (fun _ _ => rfl)) (pa_cons (pe_ix ix_seq (pv 7) pe_int (fun _ _ => rfl)) pa_nil)))))
      (pss_cons (ps_expr (pe_bm PySem.F.plainAttrs_list PySem.F.slot_list_append PySem.F.type_list_append mt_append (pe_ix ix_seq (pv 7) pe_int (fun _ _ => rfl)) (pa_cons pe_int pa_nil)))
      (pss_cons (ps_expr (pe_bm PySem.F.plainAttrs_list PySem.F.slot_list_append PySem.F.type_list_append mt_append (pe_ix ix_seq (pv 7) pe_int (fun _ _ => rfl)) (pa_cons pe_non pa_nil)))
      (pss_cons (ps_if (PW.pt (pw_or (pt_not (pt_val (pe_call G_law_is_row (hr.mono (by first | decide | omega)) (by rfl) T.m_law_is_row T.F_law_is_row.kp T.b_law_is_row .nil pass0 (pa_cons (pv 8) (pa_cons (pv 2) (pa_cons (pv 5) (pa_cons (pe_ix ix_seq (pv 4) pe_int (fun _ _ => rfl)) pa_nil))))))) (pw_or1 (pt_not (pt_cmpR (op_eqOwn (E := fun _ _ _ => False) T.eq_Row_eq.1 T.eq_Row_eq.2 G_Row_eq (hr.mono (by first | decide | omega)) T.b_Row_eq pass0) (pv 8) (pe_makeS  T.mk_Row G_Row_init (hr.mono (by first | decide | omega)) (by rfl) T.c_Row T.b_Row_init (fun σ => passN σ) (pa_cons (pv 2) (pa_cons (pe_callTy (T := "tuple") b_tuple (by rfl) T.z_tuple (by decide +kernel) (pa_cons (pv 5) pa_nil)) (pa_cons (pe_callTy (T := "tuple") b_tuple (by rfl) T.z_tuple (by decide +kernel) (pa_cons (pv 6) pa_nil)) pa_nil)))) (nomark _)))))) (pss_one (ps_ret pe_bl)) pss_nil)
      (pss_cons (ps_if (PW.pt (pw_or (pt_cmpR (op_eqOwn (E := fun _ _ _ => False) T.eq_Row_eq.1 T.eq_Row_eq.2 G_Row_eq (hr.mono (by first | decide | omega)) T.b_Row_eq pass0) (pv 8) (pe_makeS  T.mk_Row G_Row_init (hr.mono (by first | decide | omega)) (by rfl) T.c_Row T.b_Row_init (fun σ => passN σ) (pa_cons (pv 2) (pa_cons (pe_op op_cat (pv 5) (pe_lst (pa_cons pe_int pa_nil))) (pa_cons (pe_op op_cat (pv 6) (pe_lst (pa_cons (pe_stat (E := fun _ _ _ _ => False) (pe_glob (v := .ref A.C_Matrix) (by rfl) T.c_Matrix rfl) T.st_Matrix_zero G_Matrix_zero (hr.mono (by first | decide | omega)) T.b_Matrix_zero (fun σ => pass0S σ) (pa_cons (pv 2) (pa_cons pe_int (pa_cons (pe_ix ix_seq (pv 5) (pe_un un_neg pe_int) (fun _ _ => rfl)) pa_nil)))) pa_nil))) pa_nil)))) (nomark _)) (pw_or1 (pt_cmpR (op_eqOwnX (E := fun _ _ _ => False) T.eq_Row_eq.1 T.eq_Row_eq.2 G_Row_eq (hr.mono (by first | decide | omega)) T.b_Row_eq pass0) (pv 8) (pv 5) (nomark _))))) (pss_one (ps_ret pe_bl)) pss_nil)
      (pss_cons (ps_for PassesOwn.never rfl (pi_range1 (by rfl) T.z_range (pa_cons (pv 3) pa_nil)) (pg_name (i := 9) sc_law.nd rfl (by first | exact Or.inl rfl | exact Or.inr rfl)) (pss_one (ps_if (PW.pt (pw_and (pt_cmpR op_gt (pe_ix ix_seq (pv 5) (pv 9) (fun _ _ => rfl)) pe_int (nomark _)) (pw_and1 (pt_cmpR op_gt (pe_ix ix_seq (pv 5) (pe_op op_add (pv 9) pe_int) (fun _ _ => rfl)) pe_int (nomark _))))) (pss_cons (ps_setLc (i := 10) (own := [("step", 15)]) (g := gName 15) rfl sc_law.nd rfl rfl (sw_true rfl rfl rfl (by decide +kernel)) (pi_list (pe_ix ix_seq (pv 4) pe_int (fun _ _ => rfl))) (blkOk_by (N := ["script", "draws", "base", "last", "found", "dims", "steps", "handed", "row", "time", "other", "others", "spoilt", "kept", "line", "step"]) (sc := defScope s_law) (by decide +kernel)) (fun _ _ _ _ _ => pg_name (i := 15) sc_law.nd rfl (by first | exact Or.inl rfl | exact Or.inr rfl)) (fun _ _ _ _ _ => pts_nil) (fun _ _ _ _ _ => (pe_lc (own := [("line", 14)]) (g := gName 14) rfl sc_law.nd (show PI _ _ _ (iList K _) from pi_list (pv 15)) (blkOk_by (by first | kernel_rfl | rfl)) (fun _ _ _ _ _ => pg_name (i := 14) sc_law.nd rfl (by first | exact Or.inl rfl | exact Or.inr rfl)) (fun _ _ _ _ _ => pts_nil) (fun _ _ _ _ _ => (pe_callTy (T := "list") (show CallR _ _ (rListOf_ K) from b_list) (by rfl) T.z_list (by decide +kernel) (pa_cons (pv 14) pa_nil))))))
      (pss_cons (ps_asg (pe_op op_mod (pe_op op_add (pe_ix ix_seq (pe_ix ix_seq (pe_ix ix_seq (pv 10) (pv 9) (fun _ _ => rfl)) pe_int (fun _ _ => rfl)) pe_int (fun _ _ => rfl)) pe_int) (pv 2)) (pg_sub (pe_ix ix_seq (pe_ix ix_seq (pv 10) (pv 9) (fun _ _ => rfl)) pe_int (fun _ _ => rfl)) pe_int set_list))
      (pss_one (ps_if (pt_cmpR (op_eqOwn (E := fun _ _ _ => False) T.eq_Row_eq.1 T.eq_Row_eq.2 G_Row_eq (hr.mono (by first | decide | omega)) T.b_Row_eq pass0) (pv 8) (pe_call G_law_made_row (hr.mono (by first | decide | omega)) (by rfl) T.m_law_made_row T.F_law_made_row.kp T.b_law_made_row .nil pass0 (pa_cons (pv 2) (pa_cons (pv 5) (pa_cons (pv 10) pa_nil)))) (nomark _)) (pss_one (ps_ret pe_bl)) pss_nil)))) pss_nil)))
      (pss_cons (ps_if (PW.pt (pw_or (pt_cmpR (op_eqOwn (E := fun _ _ _ => False) T.eq_Row_eq.1 T.eq_Row_eq.2 G_Row_eq (hr.mono (by first | decide | omega)) T.b_Row_eq pass0) (pe_makeS  T.mk_Row G_Row_init (hr.mono (by first | decide | omega)) (by rfl) T.c_Row T.b_Row_init (fun σ => passN σ) (pa_cons pe_int (pa_cons (pe_lst (pa_cons pe_int pa_nil)) (pa_cons (pe_lst pa_nil) pa_nil)))) (pe_makeS  T.mk_Row G_Row_init (hr.mono (by first | decide | omega)) (by rfl) T.c_Row T.b_Row_init (fun σ => passN σ) (pa_cons pe_int (pa_cons (pe_lst (pa_cons pe_int pa_nil)) (pa_cons (pe_lst pa_nil) pa_nil)))) (nomark _)) (pw_or1 (pt_cmpR (op_eqOwn (E := fun _ _ _ => False) T.eq_Row_eq.1 T.eq_Row_eq.2 G_Row_eq (hr.mono (by first | decide | omega)) T.b_Row_eq pass0) (pe_makeS  T.mk_Row G_Row_init (hr.mono (by first | decide | omega)) (by rfl) T.c_Row T.b_Row_init (fun σ => passN σ) (pa_cons (pv 2) (pa_cons (pe_lst (pa_cons pe_int pa_nil)) (pa_cons (pe_lst pa_nil) pa_nil)))) (pe_makeS  T.mk_Row G_Row_init (hr.mono (by first | decide | omega)) (by rfl) T.c_Row T.b_Row_init (fun σ => passN σ) (pa_cons (pv 2) (pa_cons (pe_lst (pa_cons pe_int pa_nil)) (pa_cons (pe_lst pa_nil) pa_nil)))) (nomark _))))) (pss_one (ps_ret pe_bl)) pss_nil)
      (pss_cons (ps_set (i := 11) sc_law.nd rfl (by first | exact Or.inl rfl | exact Or.inr rfl) (pe_call G_law_draws (hr.mono (by first | decide | omega)) (by rfl) T.m_law_draws T.F_law_draws.kp T.b_law_draws .nil pass0 (pa_cons (pe_call G_law_cell (hr.mono (by first | decide | omega)) (by rfl) T.m_law_cell T.F_law_cell.kp T.b_law_cell .nil pass0 (pa_cons (pv 0) (pa_cons pe_int pa_nil))) pa_nil)))
      (pss_cons (ps_set (i := 12) sc_law.nd rfl (by first | exact Or.inl rfl | exact Or.inr rfl) (pe_call G_law_spoilt (hr.mono (by first | decide | omega)) (by rfl) T.m_law_spoilt T.F_law_spoilt.kp T.b_law_spoilt .nil pass0 (pa_cons (pv 11) (pa_cons (pv 2) (pa_cons (pv 5) (pa_cons (pv 6) pa_nil))))))
      (pss_cons (ps_set (i := 13) sc_law.nd rfl (by first | exact Or.inl rfl | exact Or.inr rfl) (pe_lst (pa_cons (pe_callTy (T := "list") b_list (by rfl) T.z_list (by decide +kernel) (pa_cons (pe_ix ix_seq (pv 12) pe_int (fun _ _ => rfl)) pa_nil)) (pa_cons (pe_callTy (T := "list") b_list (by rfl) T.z_list (by decide +kernel) (pa_cons (pe_ix ix_seq (pv 12) pe_int (fun _ _ => rfl)) pa_nil)) pa_nil))))
      (pss_one (ps_ret (pe_and (pe_call G_law_fails (hr.mono (by first | decide | omega)) (by rfl) T.m_law_fails T.F_law_fails.kp T.b_law_fails .nil pass0 (pa_cons (pe_ix ix_seq (pv 12) pe_int (fun _ _ => rfl)) (pa_cons (pe_ix ix_seq (pv 12) pe_int (fun _ _ => rfl)) (pa_cons (pe_ix ix_seq (pv 12) pe_int (fun _ _ => rfl)) pa_nil)))) (pe_and (pe_cmpR (op_eqD hr.units) (pe_ix ix_seq (pv 12) pe_int (fun _ _ => rfl)) (pe_ix ix_seq (pv 13) pe_int (fun _ _ => rfl)) (nomark _)) (pe_one (pe_cmpR op_eq (pe_callB (id := "len") b_len (by rfl) T.z_len (by decide +kernel) (pa_cons (pe_ix ix_seq (pv 12) pe_int (fun _ _ => rfl)) pa_nil)) (pe_callB (id := "len") b_len (by rfl) T.z_len (by decide +kernel) (pa_cons (pe_ix ix_seq (pv 13) pe_int (fun _ _ => rfl)) pa_nil)) (nomark _)))))))))))))))))))))))), ?_⟩
  try dsimp only [cxOf, Cx.nox, Cx.wish, Cx.blk]
  have hS := Sta.start (K := K) (Same.refl H)
  have hsc : Rp K H (.ref a) (.lst (ns.map .int)) := .lst hs .ints
  refine go_start (σ := [some (.ref a), none, none, none, none, none, none, none, none, none, none, none, none, none, none, none]) rfl ?_
  walk_at "go"
  refine go_draws ‹_› fun da r G2 H2 e2 hS2 hR => ?_
  walk_at "go"
  refine go_prime (i := 0) hS2 rfl hR (by omega) (by omega) fun b at1 G3 H3 ha0 ha1 hb e3 hS3 => ?_
  have hb' := isB_bd hb
  simp only [List.set_cons_zero] at hS3
  walk_at "go"
  rename_i lt H4 lt0 lt1 hS4
  refine go_anyRow (i := 0) hS4 rfl (by walk_at "ro") (by omega) (by omega) hb lt0 (by omega) fun fv dims ms at2 G5 H5 hc0 hc1 ok hdl hdv e5 hS5 hF => ?_
  simp only [List.set_cons_zero] at hS5
  obtain ⟨pf, pd, ps, rfl, gpf, hd, hs⟩ := hF
  have hml := ok.hl
  have hlast : lt.toNat = ms.length := by omega
  have len := ok.len
  walk_at "go"
  refine go_ixM (hS5.gh _ _ gpf) rfl ?_
  walk_at "go"
  refine lcMapRM (F := fun t => matD A.C_Matrix b (dims.getD t 0) (ms.getD t [])) hS5 (by omega) ?_ ?_
  · intro i L G6 vs6 es6 H6 Z6 hi e6 l6 hS6 hvs6 fin6
    have hi' : i < ms.length := by omega
    have hd6 := (hd.up e6).rp
    walk_at "go"
    refine go_ixB (d := .int (dims.getD i 0)) hd6 hS6.gh (by have := atI_getD (r := dims) (j := (i : Int)) (by omega) (by omega); simpa using this) fun v hv => ?_
    cases Rp.int_inv hv
    walk_at "go"
    refine go_ixM (hS6.gh _ _ (e6 _ _ gpf)) rfl ?_
    have hs6 := (hs.up e6).rp
    walk_at "go"
    refine go_ixB (ds := ms.map msD) (d := msD (ms.getD i [])) hs6 hS6.gh (by rw [Int.zero_add]; refine atI_nat ?_; rw [List.getElem?_map, List.getElem?_eq_getElem hi']; simp [List.getD, hi']) fun v hv => ?_
    walk_at "go"
    have hm := ok.wm (List.mem_of_getElem? (mkS_get (b := b) (dims := dims) hi'))
    refine go_mat (t := false) (rs := ms.getD i []) hS6 hv hm fun y G7 H7 e7 hS7 hy => ?_
    exact fin6 _ _ _ e7 hS7 hy
  intro pst vs7 G7 H7 e7 l7 hS7 hvs7
  obtain ⟨G8, e8, hS8, hst⟩ := frzQ hS7 l7 hvs7
  rw [hlast] at hst
  have est : (List.range ms.length).map (fun t => matD A.C_Matrix b (dims.getD t 0) (ms.getD t [])) = (mkS b dims ms).map (stD A.C_Matrix) := by
    unfold mkS
    rw [List.map_map]
    rfl
  rw [est] at hst
  have hd8 := (hd.up e7).up e8
  have hs8 := (hs.up e7).up e8
  have gpf8 := e8 _ _ (e7 _ _ gpf)
  walk_at "go"
  refine go_listM hS8 hd8.rp fun pd2 xs1 H9 z1 g1 ha1 hS9 => ?_
  walk_at "go"
  refine go_listM hS9 hst.rp fun ps2 xs2 H10 z2 g2 ha2 hS10 => ?_
  walk_at "go"
  refine go_newR hS10 (by simp) fun ph G11 H11 e11 hS11 gph => ?_
  walk_at "go"
  refine go_ixM (hS11.gh _ _ gph) rfl ?_
  walk_at "go"
  refine go_ixM (hS11.gh _ _ gph) rfl ?_
  walk_at "go"
  obtain ⟨s1, i1⟩ := hS11.open
  obtain ⟨s2, i2⟩ := i1.open
  have hd12 : Rp K (upd (upd G11 ps2 (.lst xs2)) pd2 (.lst xs1)) (.ref pd2) (.lst (dims.map .int)) := .lst (.inl (.inl upd_same)) (((ha1.up e11).up s1).up s2)
  have hs12 : Rp K (upd (upd G11 ps2 (.lst xs2)) pd2 (.lst xs1)) (.ref ps2) (.lst ((mkS b dims ms).map (stD A.C_Matrix))) := .lst (.inl (.inl (s2 _ _ upd_same))) (((ha2.up e11).up s1).up s2)
  refine go_row (t := false) (u := false) i2 hd12 hs12 (by omega) (by omega) (fun s hs => ok.wm hs) ok.ok fun x G12 H12 e12 hS12 hx => ?_
  rw [mkS_ms] at hx
  obtain ⟨G13, e13, n13, g13, hS13⟩ := i1.close hS12
  obtain ⟨G14, e14, n14, g14, hS14⟩ := hS11.close hS13
  have hx13 : Rp K G13 (.ref x) (rowI A b dims ms) := Rp.shed n13 g13 _ _ noL_row hx
  have hx14 : Rp K G14 (.ref x) (rowI A b dims ms) := Rp.shed n14 g14 _ _ noL_row hx13
  have e814 : Same G8 G14 := e11.trans e14
  have gph14 := e14 _ _ gph
  clear hx hx13 hS13 hS12 i1 i2 s1 s2 hd12 hs12
  have l1 := ha1.length
  have l2 := ha2.length
  rw [List.length_map] at l1 l2
  walk_at "go"
  refine go_ixM (hS14.gh _ _ gph14) rfl ?_
  walk_at "go"
  rename_i H15 hS15
  refine go_ixM (hS15.gh _ _ gph14) rfl ?_
  walk_at "go"
  rename_i H16 hS16
  have hS17 := hS16.pop.pop
  clear hS15 hS16 hS14
  have gpf14 := e814 _ _ gpf8
  have hd14 := hd8.up e814
  have hst14 := hst.up e814
  have hs14 := hs8.up e814
  refine go_ixM (hS17.gh _ _ gpf14) rfl ?_
  walk_at "go"
  refine go_isRow hS17 hx14 hd14.rp hs14.rp ok fun G18 H18 e18 hS18 => ?_
  have hd18 := hd14.up e18
  have hst18 := hst14.up e18
  have hdR := hd18.rp
  have hstR := hst18.rp
  have hx18 := hx14.up e18
  walk_at "go"
  rename_i pa Ga Ha ea hSa hra pb Gb Hb eb hSb hrb
  refine go_row (t := true) (u := true) (dims := dims) (ss := mkS b dims ms) hSb (hra.up eb) hrb (by omega) (by omega) (fun s hs => ok.wm hs) ok.ok fun y G19 H19 e19 hS19 hy => ?_
  rw [mkS_ms] at hy
  have hx19 : Rp K G19 (.ref x) (rowI A b dims ms) := by walk_at "rp"
  walk_at "go"
  refine go_eqR hS19 hx19 hy ok ok fun G20 H20 e20 hS20 => ?_
  rw [show eqR b dims ms b dims ms = true by simp [eqR]]
  have s20 : Same G14 G20 := by walk_at "sm"
  have hd20 := hd14.up s20
  have hst20 := hst14.up s20
  have hx20 := hx14.up s20
  walk_at "go"
  refine go_newX (ds := [.int 0]) hS20 (by simp) (.one (.int _)) fun p21 G21 H21 e21 hS21 hp21 => ?_
  walk_at "go"
  refine go_catL hS21 (hd20.up e21) hp21 (by rw [List.length_map, List.length_singleton]; omega) fun p22 G22 H22 e22 hS22 hp22 => ?_
  have hd22 := (hd20.up e21).up e22
  walk_at "go"
  have hxx := ok.hd (dims.getD (dims.length - 1) 0) (by rw [List.getD, List.getElem?_eq_getElem (by omega)]; exact List.getElem_mem (by omega))
  refine go_ixB (d := .int (dims.getD (dims.length - 1) 0)) hd22.rp hS22.gh (atI_neg1 (by omega)) fun v hv => ?_
  cases Rp.int_inv hv
  walk_at "go"
  refine go_zero hS22 ok.hb (by omega) (by omega) (by omega) (by omega) fun yz G23 H23 e23 hS23 hyz => ?_
  walk_at "go"
  refine go_newX (ds := [stD A.C_Matrix (b, dims.getD (dims.length - 1) 0, zrF 0 (dims.getD (dims.length - 1) 0))]) hS23 (by simp) (.one hyz) fun p24 G24 H24 e24 hS24 hp24 => ?_
  walk_at "go"
  refine go_catL hS24 ((((hst20.up e21).up e22).up e23).up e24) hp24 (by rw [List.length_map, List.length_singleton]; omega) fun p25 G25 H25 e25 hS25 hp25 => ?_
  have hp22' : Rp K G25 (.ref p22) (.lst ((dims ++ [0]).map .int)) := by
    rw [List.map_append]
    exact (((hp22.up e23).up e24).up e25).rp
  have hp25' : Rp K G25 (.ref p25) (.lst ((mkS b (dims ++ [0]) (ms ++ [zrF 0 (dims.getD (dims.length - 1) 0)])).map (stD A.C_Matrix))) := by
    rw [mkS_app hml, List.map_append]
    exact hp25.rp
  have okM0 := ok.more0 (by omega)
  have lM0 := okM0.len
  have ll0 : (ms ++ [zrF 0 (dims.getD (dims.length - 1) 0)]).length = ms.length + 1 := by rw [List.length_append, List.length_singleton]
  have ll1 : (dims ++ [0]).length = dims.length + 1 := by rw [List.length_append, List.length_singleton]
  walk_at "go"
  refine go_row (t := false) (u := false) hS25 hp22' hp25' (by omega) (by omega) (fun s hs => okM0.wm hs) okM0.ok fun y26 G26 H26 e26 hS26 hy26 => ?_
  rw [mkS_ms] at hy26
  have s26 : Same G20 G26 := ((((e21.trans e22).trans e23).trans e24).trans e25).trans e26
  walk_at "go"
  refine go_eqR hS26 (hx20.up s26) hy26 ok okM0 fun G27 H27 e27 hS27 => ?_
  rw [eqR_len (by omega)]
  have s27 : Same G14 G27 := s20.trans (s26.trans e27)
  have hd27 := hd14.up s27
  have hst27 := hst14.up s27
  have hs27 := hs14.up s27
  have hx27 := hx14.up s27
  walk_at "go"
  refine go_eqRx hS27 hx27 hd27.rp ?_
  walk_at "go"
  refine forR hS27 (fun i σ _ M' => M' = [(da, drw r at2)] ∧ ∃ u9 u10, σ = [some (.ref a), some (.ref da), some (.int b), some (.int lt), some (.ref pf), some (.ref pd), some (.ref pst), some (.ref ph), some (.ref x), u9, u10, none, none, none, none, none]) ⟨rfl, _, _, rfl⟩ ?_ ?_
  · rintro i σ G28 M28 H28 hi e28 hS28 ⟨rfl, u9, u10, rfl⟩
    rw [Int.zero_add]
    have hi' : i < ms.length := by omega
    have hd28 := hd27.up e28
    have hdR28 := hd28.rp
    have hs28 := hs27.up e28
    have hx28 := hx27.up e28
    have gpf28 := e28 _ _ (s27 _ _ gpf14)
    have fin28 : ∀ {G5 : Hp} {σ5 : L2.St} {H5 : Hp} {u9' u10' : Option V}, Same G28 G5 → Sta K H H [] G5 [(da, drw r at2)] H5 → σ5 = [some (.ref a), some (.ref da), some (.int b), some (.int lt), some (.ref pf), some (.ref pd), some (.ref pst), some (.ref ph), some (.ref x), u9', u10', none, none, none, none, none] → Nx K H H [] G27 (fun σ _ M' => M' = [(da, drw r at2)] ∧ ∃ u9 u10, σ = [some (.ref a), some (.ref da), some (.int b), some (.int lt), some (.ref pf), some (.ref pd), some (.ref pst), some (.ref ph), some (.ref x), u9, u10, none, none, none, none, none]) σ5 H5 := fun {G5 σ5 H5 u9' u10'} e s w => by
      subst w
      exact Nx.mk s (e28.trans e) ⟨rfl, _, _, rfl⟩
    walk_at "go"
    refine go_ixB (d := .int (dims.getD i 0)) hdR28 hS28.gh (by have := atI_getD (r := dims) (j := (i : Int)) (by omega) (by omega); simpa using this) fun v hv => ?_
    cases Rp.int_inv hv
    walk_at "go"
    · have h0i : 0 < dims.getD i 0 := by assumption
      refine go_ixB (d := .int (dims.getD (i + 1) 0)) hdR28 hS28.gh (by have := atI_getD (r := dims) (j := ((i + 1 : Nat) : Int)) (by omega) (by omega); simpa using this) fun v hv => ?_
      cases Rp.int_inv hv
      walk_at "go"
      · have h1i : 0 < dims.getD (i + 1) 0 := by assumption
        refine go_ixM (hS28.gh _ _ gpf28) rfl ?_
        obtain ⟨fvs, gfs, rfs⟩ := hs28
        have fl := rfs.length
        rw [List.length_map] at fl
        have o := ok.hs i (ms.getD i []) (by simp [List.getD, hi'])
        have hl0 : 0 < (ms.getD i []).length := by have := o.1; omega
        have ro := o.2 ((ms.getD i []).getD 0 []) (getD_mem hl0)
        have hr0 : 0 < ((ms.getD i []).getD 0 []).length := by have := ro.1; omega
        have ok' := chM_ok ok hi' h1i
        have ne' := chM_ne ok hi' h0i h1i
        have cmap := chM_map (b := b) (f := msD) hi'
        have sbd : ms.length ≤ 200 := by have := ok.hk; omega
        have mbd : ∀ j, j < ms.length → (ms.getD j []).length ≤ 200 := fun j hj => by
          have o := ok.hs j (ms.getD j []) (by simp [List.getD, hj])
          have := ok.hd (dims.getD (j + 1) 0) (getD_mem (by omega))
          have := o.1
          omega
        have mi200 := mbd i hi'
        walk_at "go"
        refine go_itlR gfs hS28.gh ?_
        refine lcLV hS28 (.inl (.inl gfs)) (fun j G' M' vs => (j ≤ i ∧ M' = [(da, drw r at2)] ∧ RpAll K G' vs ((ms.take j).map msD)) ∨ (i < j ∧ ∃ (r0 q0 : Addr) (rest v1 v2 : List V), M' = [(r0, .lst (((ms.getD i []).getD 0 []).map V.int)), (da, drw r at2)] ∧ H r0 = none ∧ vs = v1 ++ .ref q0 :: v2 ∧ v1.length = i ∧ RpAll K G' v1 ((ms.take i).map msD) ∧ G' q0 = some (.lst (.ref r0 :: rest)) ∧ RpAll K G' rest (((ms.getD i []).drop 1).map (wrD false)) ∧ RpAll K G' v2 (((ms.take j).drop (i + 1)).map msD))) (.inl ⟨by omega, rfl, .nil⟩) ?_ ?_
        · intro j z L G30 M30 vs30 H30 hz e30 l30 hS30 w
          have hj : j < ms.length := by
            have := (List.getElem?_eq_some_iff.mp hz).1
            omega
          have rz30 : Rp K G30 z (.lst ((ms.getD j []).map (wrD false))) := by
            obtain ⟨d, hd', rz⟩ := rfs.getV hz
            rw [List.getElem?_map, List.getElem?_eq_getElem hj] at hd'
            cases hd'
            have e : ms.getD j [] = ms[j] := by simp [List.getD, hj]
            rw [e]
            exact rz.up e30
          have hvl : vs30.length = j := by
            rcases w with ⟨_, _, r1⟩ | ⟨_, _, _, _, v1, v2, _, _, rfl, lv, _, _, _, rv2⟩
            · rw [r1.length, List.length_map, List.length_take]
              omega
            · have := rv2.length
              rw [List.length_map, List.length_drop, List.length_take] at this
              rw [List.length_append, List.length_cons, lv, this]
              omega
          by_cases hji : j = i
          · rcases w with ⟨_, rfl, r1⟩ | ⟨h, _⟩
            · rw [hji] at r1 rz30 hvl
              obtain ⟨za, zs, rfl, zq, zr⟩ := Rp.lst_inv rz30
              have zl := zr.length
              rw [List.length_map] at zl
              clear rz30
              walk_at "go"
              refine ⟨za, rfl, ⟨zs, hS30.gh.seq zq⟩, ?_⟩
              refine lcLV hS30 zq (fun t G' M' us => (t = 0 ∧ M' = (L, .lst vs30) :: [(da, drw r at2)] ∧ us = []) ∨ (0 < t ∧ ∃ (r0 : Addr) (rest : List V), M' = (r0, .lst (((ms.getD i []).getD 0 []).map V.int)) :: (L, .lst vs30) :: [(da, drw r at2)] ∧ H r0 = none ∧ us = .ref r0 :: rest ∧ RpAll K G' rest ((((ms.getD i []).take t).drop 1).map (wrD false)))) (.inl ⟨rfl, rfl, rfl⟩) ?_ ?_
              · intro t y L2 G31 M31 us31 H31 hy e31 l31 hS31 w31
                have ht : t < (ms.getD i []).length := by
                  have := (List.getElem?_eq_some_iff.mp hy).1
                  omega
                have ry31 : Rp K G31 y (.lst (((ms.getD i []).getD t []).map .int)) := by
                  obtain ⟨d, hd', ry⟩ := zr.getV hy
                  rw [List.getElem?_map, List.getElem?_eq_getElem ht] at hd'
                  cases hd'
                  have e : (ms.getD i []).getD t [] = (ms.getD i [])[t] := by rw [List.getD_eq_getElem?_getD (i := t), List.getElem?_eq_getElem ht]; rfl
                  rw [e]
                  exact ry.up e31
                rcases w31 with ⟨rfl, rfl, rfl⟩ | ⟨ht0, r0, rest, rfl, z0, rfl, rr⟩
                · have hh : Hid9 (Rp K G31 y (.lst (((ms.getD i []).getD 0 []).map .int))) := ⟨ry31⟩
                  clear ry31
                  walk_at "go"
                  refine go_listM hS31 hh.out fun q9 xs9 H32 z32 g32 ha32 hS32 => ?_
                  have hxs := ha32.ints_inv
                  subst hxs
                  have hS33 := hS32.perm (M' := (L2, .lst []) :: (q9, .lst (((ms.getD i []).getD 0 []).map V.int)) :: (L, .lst vs30) :: [(da, drw r at2)]) (List.Perm.swap _ _ _)
                  refine lcYV hS33 e31 (by simp) (.inr ⟨by omega, q9, [], rfl, z32, rfl, ?_⟩)
                  rw [List.drop_of_length_le (by rw [List.length_take]; omega)]
                  exact .nil
                · have hrl := rr.length
                  rw [List.length_map, List.length_drop, List.length_take] at hrl
                  walk_at "go"
                  rename_i p32 G32 H32 e32 hS32 hr32
                  refine lcYV hS32 (e31.trans e32) (by rw [List.length_cons]; omega) (.inr ⟨by omega, r0, rest ++ [.ref p32], rfl, z0, rfl, ?_⟩)
                  rw [take_d (d := []) ht (by omega)]
                  exact (rr.up e32).app (.one hr32)
              · intro q0 G33 M33 us33 H33 e33 l33 hS33 w33
                rcases w33 with ⟨h, _⟩ | ⟨_, r0, rest, rfl, z0, rfl, rr⟩
                · omega
                · rw [List.take_of_length_le (by omega)] at rr
                  obtain ⟨hS34, e34⟩ := hS33.frz l33
                  have hS35 := hS34.perm (M' := (L, .lst vs30) :: (r0, .lst (((ms.getD i []).getD 0 []).map V.int)) :: [(da, drw r at2)]) (List.Perm.swap _ _ _)
                  refine lcYV hS35 ((e30.trans e33).trans e34) (by omega) (.inr ⟨by omega, r0, q0, rest, vs30, [], rfl, z0, rfl, hvl, (r1.up e33).up e34, upd_same, rr.up e34, ?_⟩)
                  rw [List.drop_of_length_le (by rw [List.length_take]; omega)]
                  exact .nil
            · omega
          · walk_at "go"
            refine lcMapL (as := ms.getD j []) (Da := wrD false) (F := wrD false) hS30 (by assumption) (by assumption) (by have := mbd j hj; omega) ?_ ?_
            · intro y c L2 G31 us31 es31 H31 Z31 hc hy e31 l31 hS31 hus31 fin31
              have hy' : Rp K G31 y (.lst (c.map .int)) := hy
              walk_at "go"
              rename_i p32 G32 H32 e32 hS32 hr32
              exact fin31 _ _ _ e32 hS32 hr32
            · intro p33 G33 H33 e33 hS33 hr33
              have hr33' : Rp K G33 (.ref p33) (msD (ms.getD j [])) := hr33
              refine lcYV hS33 (e30.trans e33) (by omega) ?_
              rcases w with ⟨h1, rfl, r1⟩ | ⟨h1, r0, q0, rest, v1, v2, rfl, z0, rfl, lv1, rv1, gq, rr, rv2⟩
              · refine .inl ⟨by omega, rfl, ?_⟩
                rw [take_s (d := []) hj]
                exact (r1.up e33).app (.one hr33')
              · refine .inr ⟨by omega, r0, q0, rest, v1, v2 ++ [.ref p33], rfl, z0, by simp, lv1, rv1.up e33, e33 _ _ gq, rr.up e33, ?_⟩
                rw [take_d (d := []) hj (by omega)]
                exact (rv2.up e33).app (.one hr33')
        · intro L G36 M36 vs36 H36 e36 l36 hS36 w36
          rcases w36 with ⟨h, _⟩ | ⟨_, r0, q0, rest, v1, v2, rfl, z0, rfl, lv1, rv1, gq, rr, rv2⟩
          · omega
          rw [List.take_of_length_le (by omega)] at rv2
          obtain ⟨G37, e37, hS37, gL⟩ : ∃ G37, Same G36 G37 ∧ Sta K H H [] G37 [(r0, .lst (((ms.getD i []).getD 0 []).map V.int)), (da, drw r at2)] H36 ∧ G37 L = some (.lst (v1 ++ .ref q0 :: v2)) := ⟨_, (hS36.frz l36).2, (hS36.frz l36).1, upd_same⟩
          have gq37 := e37 _ _ gq
          walk_at "go"
          refine go_ixM (hS37.gh _ _ gL) (atI_mid lv1) ?_
          walk_at "go"
          refine go_ixM (hS37.gh _ _ gq37) (show L2.atI _ ((0 : Nat) : Int) = _ from atI_mid (v1 := []) rfl) ?_
          walk_at "go"
          refine go_ixM (hS37.get (i := 0) rfl) (show L2.atI _ ((0 : Nat) : Int) = _ from atI_rowV (j := 0) hr0) ?_
          walk_at "go"
          refine go_ixM (hS37.gh _ _ gL) (atI_mid lv1) ?_
          walk_at "go"
          refine go_ixM (hS37.gh _ _ gq37) (show L2.atI _ ((0 : Nat) : Int) = _ from atI_mid (v1 := []) rfl) ?_
          walk_at "go"
          refine go_setL (i := 0) (j := 0) hS37 rfl (ixN0 (by rw [List.length_map]; omega)) rfl fun H38 hS38 => ?_
          obtain ⟨hS39, e39⟩ := hS38.frz z0
          have g0 : upd G37 r0 (.lst ((((ms.getD i []).getD 0 []).map V.int).set 0 (.int ((((ms.getD i []).getD 0 []).getD 0 0 + 1) % b)))) r0 = some (.lst ((((ms.getD i []).getD 0 []).set 0 ((((ms.getD i []).getD 0 []).getD 0 0 + 1) % b)).map V.int)) := by
            rw [upd_same, List.map_set]
          generalize upd G37 r0 (.lst ((((ms.getD i []).getD 0 []).map V.int).set 0 (.int ((((ms.getD i []).getD 0 []).getD 0 0 + 1) % b)))) = G39 at *
          have s39 : Same G28 G39 := (e36.trans e37).trans e39
          have hoth : Rp K G39 (.ref L) (.lst ((chM ms i b).map msD)) := by
            rw [cmap]
            refine raw_l (e39 _ _ gL) (((rv1.up e37).up e39).app (.cons ?_ ((rv2.up e37).up e39)))
            have e : msD ((ms.getD i []).set 0 (((ms.getD i []).getD 0 []).set 0 ((((ms.getD i []).getD 0 []).getD 0 0 + 1) % b))) = .lst (wrD false (((ms.getD i []).getD 0 []).set 0 ((((ms.getD i []).getD 0 []).getD 0 0 + 1) % b)) :: ((ms.getD i []).drop 1).map (wrD false)) := by
              unfold msD
              rw [set0_map hl0]
            rw [e]
            exact raw_l (e39 _ _ gq37) (.cons (raw_l g0 .ints) ((rr.up e37).up e39))
          have hx39 := hx28.up s39
          have hd39 := hdR28.up s39
          walk_at "go"
          refine go_madeRow hS39 hd39 hoth ok' fun yy G40 H40 e40 hS40 hyy => ?_
          walk_at "go"
          refine go_eqR hS40 (hx39.up e40) hyy ok ok' fun G41 H41 e41 hS41 => ?_
          rw [ne']
          walk_at "go"
          exact fin28 ((s39.trans e40).trans e41) hS41 rfl
      · exact fin28 (Same.refl _) (by assumption) rfl
    · exact fin28 (Same.refl _) (by assumption) rfl
  rintro σ G28 M28 H28 e28 hS28 ⟨rfl, u9, u10, rfl⟩
  have hd28 := hd27.up e28
  have hst28 := hst27.up e28
  have hsc28 : Rp K G28 (.ref a) (.lst (ns.map .int)) := hsc.up (by walk_at "sm")
  walk_at "go"
  have B2 : isB 2 = true := by decide +kernel
  have B3 : isB 3 = true := by decide +kernel
  refine go_newX (ds := [.int 1]) hS28 (by simp) (.one (.int _)) fun pa1 Ga1 Ha1 ea1 hSa1 hpa1 => ?_
  walk_at "go"
  refine go_newX (ds := []) hSa1 (by simp) .nil fun pb1 Gb1 Hb1 eb1 hSb1 hpb1 => ?_
  walk_at "go"
  refine go_row (t := false) (u := false) (dims := [1]) (ss := []) hSb1 (hpa1.up eb1).rp hpb1.rp (by simp) (by simp) (fun s hs => by cases hs) (okRN B2 (by decide)) fun y1 Gc1 Hc1 ec1 hSc1 hy1 => ?_
  have s1 := (ea1.trans eb1).trans ec1
  walk_at "go"
  refine go_newX (ds := [.int 1]) hSc1 (by simp) (.one (.int _)) fun pa2 Ga2 Ha2 ea2 hSa2 hpa2 => ?_
  walk_at "go"
  refine go_newX (ds := []) hSa2 (by simp) .nil fun pb2 Gb2 Hb2 eb2 hSb2 hpb2 => ?_
  walk_at "go"
  refine go_row (t := false) (u := false) (dims := [1]) (ss := []) hSb2 (hpa2.up eb2).rp hpb2.rp (by simp) (by simp) (fun s hs => by cases hs) (okRN B3 (by decide)) fun y2 Gc2 Hc2 ec2 hSc2 hy2 => ?_
  have s2 := (ea2.trans eb2).trans ec2
  walk_at "go"
  refine go_eqR hSc2 (hy1.up s2) hy2 (wrN B2 (by decide)) (wrN B3 (by decide)) fun G29 H29 e29 hS29 => ?_
  rw [show eqR 2 [1] (List.map (fun s : Int × Int × List (List Int) => s.2.2) []) 3 [1] (List.map (fun s : Int × Int × List (List Int) => s.2.2) []) = false by simp [eqR]]
  walk_at "go"
  refine go_newX (ds := [.int 1]) hS29 (by simp) (.one (.int _)) fun pa3 Ga3 Ha3 ea3 hSa3 hpa3 => ?_
  walk_at "go"
  refine go_newX (ds := []) hSa3 (by simp) .nil fun pb3 Gb3 Hb3 eb3 hSb3 hpb3 => ?_
  walk_at "go"
  refine go_row (t := false) (u := false) (dims := [1]) (ss := []) hSb3 (hpa3.up eb3).rp hpb3.rp (by simp) (by simp) (fun s hs => by cases hs) (okRN hb (by decide)) fun y3 Gc3 Hc3 ec3 hSc3 hy3 => ?_
  have s3 := (ea3.trans eb3).trans ec3
  walk_at "go"
  refine go_newX (ds := [.int 2]) hSc3 (by simp) (.one (.int _)) fun pa4 Ga4 Ha4 ea4 hSa4 hpa4 => ?_
  walk_at "go"
  refine go_newX (ds := []) hSa4 (by simp) .nil fun pb4 Gb4 Hb4 eb4 hSb4 hpb4 => ?_
  walk_at "go"
  refine go_row (t := false) (u := false) (dims := [2]) (ss := []) hSb4 (hpa4.up eb4).rp hpb4.rp (by simp) (by simp) (fun s hs => by cases hs) (okRN hb (by decide)) fun y4 Gc4 Hc4 ec4 hSc4 hy4 => ?_
  have s4 := (ea4.trans eb4).trans ec4
  walk_at "go"
  refine go_eqR hSc4 (hy3.up s4) hy4 (wrN hb (by decide)) (wrN hb (by decide)) fun G30 H30 e30 hS30 => ?_
  rw [show eqR b [1] (List.map (fun s : Int × Int × List (List Int) => s.2.2) []) b [2] (List.map (fun s : Int × Int × List (List Int) => s.2.2) []) = false by simp [eqR]]
  have s30 : Same G28 G30 := ((((s1.trans s2).trans e29).trans s3).trans s4).trans e30
  have hsc30 := hsc28.up s30
  have hd30 := hd28.up s30
  have hst30 := hst28.up s30
  walk_at "go"
  refine go_draws ‹_› fun db r2 G31 H31 e31 hS31 hR2 => ?_
  walk_at "go"
  refine go_spoil (i := 0) hS31 rfl hR2 (by omega) (by omega) (hd30.up e31) (hst30.up e31) ok fun yw b' ds' ss' at' G32 H32 e32 hS32 hyw dl sl wm no => ?_
  walk_at "go"
  rename_i va hva pk1 Gk1 Hk1 ek1 hSk1 hrk1 vb hvb pk2 Gk2 Hk2 ek2 hSk2 hrk2
  simp only [List.set_cons_zero] at hSk1 hSk2
  have hrk1' := hrk1.up ek2
  walk_at "nl"
  walk_at "go"
  refine go_fails (by assumption) (by assumption) (by assumption) dl sl wm no fun G40 H40 e40 hS40 => ?_
  have hyw40 : Rp K G40 yw (.lst [.int b', .lst (ds'.map .int), .lst (ss'.map (stD A.C_Matrix))]) := by walk_at "rp"
  have hkk : Rp K G40 _ (.lst [.lst (ds'.map .int), .lst (ss'.map (stD A.C_Matrix))]) := (‹Rp K _ _ (.lst [.lst (ds'.map .int), .lst (ss'.map (stD A.C_Matrix))])›).up e40
  walk_at "go"
  refine go_eqInts (by assumption) (by assumption) hS40.gh (by omega) (by omega) ?_
  rw [decide_eq_true rfl]
  walk_at "go"
  rw [decide_eq_true rfl]
  exact q _
end
theorem all_mk {l : PySem.W.OpenLaw} {w : World} {K : PySem.W.Frag} {h : Heap} {mg : Str → Option Value} {fa : Addr} (X : K.In h) (G : h.Ns mainGlobals mg) (hfa : mg "law" = some (.ref fa))
    {C_Row : Addr}
    {C_Matrix : Addr}
    {C_InvalidRow : Addr}
    {C_InvalidTime : Addr}
    {C_InvalidMatrix : Addr}
    {C_WovenError : Addr}
    {f0 : Addr} {od0 an0 : Option Addr} {sl0 : Array (Option Value)} {oc0 kV0 dc0 pm0 cd0 ct0 : Value}
    {f1 : Addr} {od1 an1 : Option Addr} {sl1 : Array (Option Value)} {oc1 kV1 dc1 pm1 cd1 ct1 : Value}
    {f2 : Addr} {od2 an2 : Option Addr} {sl2 : Array (Option Value)} {oc2 kV2 dc2 pm2 cd2 ct2 : Value}
    {f3 : Addr} {od3 an3 : Option Addr} {sl3 : Array (Option Value)} {oc3 kV3 dc3 pm3 cd3 ct3 : Value} {p3 : Addr} {rs3 : List Value}
    {f4 : Addr} {od4 an4 : Option Addr} {sl4 : Array (Option Value)} {oc4 kV4 dc4 pm4 cd4 ct4 : Value} {p4 : Addr} {rs4 : List Value}
    {f5 : Addr} {od5 an5 : Option Addr} {sl5 : Array (Option Value)} {oc5 kV5 dc5 pm5 cd5 ct5 : Value} {p5 : Addr} {rs5 : List Value}
    {f6 : Addr} {od6 an6 : Option Addr} {sl6 : Array (Option Value)} {oc6 kV6 dc6 pm6 cd6 ct6 : Value}
    {f7 : Addr} {od7 an7 : Option Addr} {sl7 : Array (Option Value)} {oc7 kV7 dc7 pm7 cd7 ct7 : Value}
    {f8 : Addr} {od8 an8 : Option Addr} {sl8 : Array (Option Value)} {oc8 kV8 dc8 pm8 cd8 ct8 : Value}
    {f9 : Addr} {od9 an9 : Option Addr} {sl9 : Array (Option Value)} {oc9 kV9 dc9 pm9 cd9 ct9 : Value}
    {f10 : Addr} {od10 an10 : Option Addr} {sl10 : Array (Option Value)} {oc10 kV10 dc10 pm10 cd10 ct10 : Value}
    {f11 : Addr} {od11 an11 : Option Addr} {sl11 : Array (Option Value)} {oc11 kV11 dc11 pm11 cd11 ct11 : Value}
    {f12 : Addr} {od12 an12 : Option Addr} {sl12 : Array (Option Value)} {oc12 kV12 dc12 pm12 cd12 ct12 : Value}
    {f13 : Addr} {od13 an13 : Option Addr} {sl13 : Array (Option Value)} {oc13 kV13 dc13 pm13 cd13 ct13 : Value}
    {f14 : Addr} {od14 an14 : Option Addr} {sl14 : Array (Option Value)} {oc14 kV14 dc14 pm14 cd14 ct14 : Value}
    {f15 : Addr} {od15 an15 : Option Addr} {sl15 : Array (Option Value)} {oc15 kV15 dc15 pm15 cd15 ct15 : Value} {p15 : Addr} {rs15 : List Value}
    {f16 : Addr} {od16 an16 : Option Addr} {sl16 : Array (Option Value)} {oc16 kV16 dc16 pm16 cd16 ct16 : Value}
    {f17 : Addr} {od17 an17 : Option Addr} {sl17 : Array (Option Value)} {oc17 kV17 dc17 pm17 cd17 ct17 : Value}
    {f18 : Addr} {od18 an18 : Option Addr} {sl18 : Array (Option Value)} {oc18 kV18 dc18 pm18 cd18 ct18 : Value}
    {f19 : Addr} {od19 an19 : Option Addr} {sl19 : Array (Option Value)} {oc19 kV19 dc19 pm19 cd19 ct19 : Value}
    {f20 : Addr} {od20 an20 : Option Addr} {sl20 : Array (Option Value)} {oc20 kV20 dc20 pm20 cd20 ct20 : Value}
    {f21 : Addr} {od21 an21 : Option Addr} {sl21 : Array (Option Value)} {oc21 kV21 dc21 pm21 cd21 ct21 : Value}
    {f22 : Addr} {od22 an22 : Option Addr} {sl22 : Array (Option Value)} {oc22 kV22 dc22 pm22 cd22 ct22 : Value}
    {f23 : Addr} {od23 an23 : Option Addr} {sl23 : Array (Option Value)} {oc23 kV23 dc23 pm23 cd23 ct23 : Value}
    {f24 : Addr} {od24 an24 : Option Addr} {sl24 : Array (Option Value)} {oc24 kV24 dc24 pm24 cd24 ct24 : Value}
    {f25 : Addr} {od25 an25 : Option Addr} {sl25 : Array (Option Value)} {oc25 kV25 dc25 pm25 cd25 ct25 : Value}
    {f26 : Addr} {od26 an26 : Option Addr} {sl26 : Array (Option Value)} {oc26 kV26 dc26 pm26 cd26 ct26 : Value}
    {f27 : Addr} {od27 an27 : Option Addr} {sl27 : Array (Option Value)} {oc27 kV27 dc27 pm27 cd27 ct27 : Value}
    {f28 : Addr} {od28 an28 : Option Addr} {sl28 : Array (Option Value)} {oc28 kV28 dc28 pm28 cd28 ct28 : Value}
    {f29 : Addr} {od29 an29 : Option Addr} {sl29 : Array (Option Value)} {oc29 kV29 dc29 pm29 cd29 ct29 : Value}
    {f30 : Addr} {od30 an30 : Option Addr} {sl30 : Array (Option Value)} {oc30 kV30 dc30 pm30 cd30 ct30 : Value}
    {f31 : Addr} {od31 an31 : Option Addr} {sl31 : Array (Option Value)} {oc31 kV31 dc31 pm31 cd31 ct31 : Value}
    {f32 : Addr} {od32 an32 : Option Addr} {sl32 : Array (Option Value)} {oc32 kV32 dc32 pm32 cd32 ct32 : Value}
    {tk_LARGEST_BASE : Tok}
    (aC_Row : PySem.W.nsIn K mainGlobals "Row" = some (some (.ref C_Row)))
    (aC_Matrix : PySem.W.nsIn K mainGlobals "Matrix" = some (some (.ref C_Matrix)))
    (aC_InvalidRow : PySem.W.nsIn K mainGlobals "InvalidRow" = some (some (.ref C_InvalidRow)))
    (aC_InvalidTime : PySem.W.nsIn K mainGlobals "InvalidTime" = some (some (.ref C_InvalidTime)))
    (aC_InvalidMatrix : PySem.W.nsIn K mainGlobals "InvalidMatrix" = some (some (.ref C_InvalidMatrix)))
    (aC_WovenError : PySem.W.nsIn K mainGlobals "WovenError" = some (some (.ref C_WovenError)))
    (a0 : PySem.W.nsIn K mainGlobals "is_base" = some (some (.ref f0)))
    (l0 : K.lookup f0 = some ⟨oc0, od0, .func (PySem.W.fnOf "is_base" "is_base" (defArgs s_is_base) (defBody s_is_base) (defScope s_is_base) .none kV0 dc0 pm0 an0 cd0 ct0), sl0⟩) (c0 : PySem.W.codeIn K cd0 "is_base" = true) (k0 : PySem.W.keepIn K (.ref f0) = true)
    (a1 : PySem.W.nsIn K mainGlobals "dot" = some (some (.ref f1)))
    (l1 : K.lookup f1 = some ⟨oc1, od1, .func (PySem.W.fnOf "dot" "dot" (defArgs s_dot) (defBody s_dot) (defScope s_dot) .none kV1 dc1 pm1 an1 cd1 ct1), sl1⟩) (c1 : PySem.W.codeIn K cd1 "dot" = true) (k1 : PySem.W.keepIn K (.ref f1) = true)
    (a2 : PySem.W.findIn K (.ref C_Matrix) "__init__" = some (some (.ref f2))) (i2 : PySem.W.isFn K (.ref f2) = true)
    (l2 : K.lookup f2 = some ⟨oc2, od2, .func (PySem.W.fnOf "__init__" "Matrix.__init__" (defArgs s_Matrix_init) (defBody s_Matrix_init) (defScope s_Matrix_init) .none kV2 dc2 pm2 an2 cd2 ct2), sl2⟩) (c2 : PySem.W.codeIn K cd2 "Matrix.__init__" = true) (k2 : PySem.W.keepIn K (.ref f2) = true)
    (a3 : PySem.W.findCls K (.ref C_Matrix) (.type "type") "identity" = some (.get (.builtin "staticmethod.__get__") (.ref p3) .none (.ref C_Matrix))) (pr3 : PySem.W.recIn K p3 "staticmethod" = some (.ref f3 :: rs3))
    (l3 : K.lookup f3 = some ⟨oc3, od3, .func (PySem.W.fnOf "identity" "Matrix.identity" (defArgs s_Matrix_identity) (defBody s_Matrix_identity) (defScope s_Matrix_identity) .none kV3 dc3 pm3 an3 cd3 ct3), sl3⟩) (c3 : PySem.W.codeIn K cd3 "Matrix.identity" = true) (k3 : PySem.W.keepIn K (.ref f3) = true)
    (a4 : PySem.W.findCls K (.ref C_Matrix) (.type "type") "zero" = some (.get (.builtin "staticmethod.__get__") (.ref p4) .none (.ref C_Matrix))) (pr4 : PySem.W.recIn K p4 "staticmethod" = some (.ref f4 :: rs4))
    (l4 : K.lookup f4 = some ⟨oc4, od4, .func (PySem.W.fnOf "zero" "Matrix.zero" (defArgs s_Matrix_zero) (defBody s_Matrix_zero) (defScope s_Matrix_zero) .none kV4 dc4 pm4 an4 cd4 ct4), sl4⟩) (c4 : PySem.W.codeIn K cd4 "Matrix.zero" = true) (k4 : PySem.W.keepIn K (.ref f4) = true)
    (a5 : PySem.W.findIn K (.ref C_Matrix) "height" = some (some (.ref p5))) (pg5 : PySem.W.specialIn K (.ref p5) "__get__" = some (some (.builtin "property.__get__"))) (pt5 : PySem.W.takesIn K (.ref p5) = some true) (pr5 : PySem.W.recIn K p5 "property" = some (.ref f5 :: rs5))
    (l5 : K.lookup f5 = some ⟨oc5, od5, .func (PySem.W.fnOf "height" "Matrix.height" (defArgs s_Matrix_height) (defBody s_Matrix_height) (defScope s_Matrix_height) .none kV5 dc5 pm5 an5 cd5 ct5), sl5⟩) (c5 : PySem.W.codeIn K cd5 "Matrix.height" = true) (k5 : PySem.W.keepIn K (.ref f5) = true)
    (a6 : PySem.W.findIn K (.ref C_Matrix) "column" = some (some (.ref f6))) (i6 : PySem.W.isFn K (.ref f6) = true)
    (l6 : K.lookup f6 = some ⟨oc6, od6, .func (PySem.W.fnOf "column" "Matrix.column" (defArgs s_Matrix_column) (defBody s_Matrix_column) (defScope s_Matrix_column) .none kV6 dc6 pm6 an6 cd6 ct6), sl6⟩) (c6 : PySem.W.codeIn K cd6 "Matrix.column" = true) (k6 : PySem.W.keepIn K (.ref f6) = true)
    (a7 : PySem.W.findIn K (.ref C_Matrix) "columns" = some (some (.ref f7))) (i7 : PySem.W.isFn K (.ref f7) = true)
    (l7 : K.lookup f7 = some ⟨oc7, od7, .func (PySem.W.fnOf "columns" "Matrix.columns" (defArgs s_Matrix_columns) (defBody s_Matrix_columns) (defScope s_Matrix_columns) .none kV7 dc7 pm7 an7 cd7 ct7), sl7⟩) (c7 : PySem.W.codeIn K cd7 "Matrix.columns" = true) (k7 : PySem.W.keepIn K (.ref f7) = true)
    (a8 : PySem.W.findIn K (.ref C_Matrix) "scaled" = some (some (.ref f8))) (i8 : PySem.W.isFn K (.ref f8) = true)
    (l8 : K.lookup f8 = some ⟨oc8, od8, .func (PySem.W.fnOf "scaled" "Matrix.scaled" (defArgs s_Matrix_scaled) (defBody s_Matrix_scaled) (defScope s_Matrix_scaled) .none kV8 dc8 pm8 an8 cd8 ct8), sl8⟩) (c8 : PySem.W.codeIn K cd8 "Matrix.scaled" = true) (k8 : PySem.W.keepIn K (.ref f8) = true)
    (a9 : PySem.W.findIn K (.ref C_Matrix) "__mul__" = some (some (.ref f9))) (i9 : PySem.W.isFn K (.ref f9) = true)
    (l9 : K.lookup f9 = some ⟨oc9, od9, .func (PySem.W.fnOf "__mul__" "Matrix.__mul__" (defArgs s_Matrix_mul) (defBody s_Matrix_mul) (defScope s_Matrix_mul) .none kV9 dc9 pm9 an9 cd9 ct9), sl9⟩) (c9 : PySem.W.codeIn K cd9 "Matrix.__mul__" = true) (k9 : PySem.W.keepIn K (.ref f9) = true)
    (a10 : PySem.W.findIn K (.ref C_Matrix) "__add__" = some (some (.ref f10))) (i10 : PySem.W.isFn K (.ref f10) = true)
    (l10 : K.lookup f10 = some ⟨oc10, od10, .func (PySem.W.fnOf "__add__" "Matrix.__add__" (defArgs s_Matrix_add) (defBody s_Matrix_add) (defScope s_Matrix_add) .none kV10 dc10 pm10 an10 cd10 ct10), sl10⟩) (c10 : PySem.W.codeIn K cd10 "Matrix.__add__" = true) (k10 : PySem.W.keepIn K (.ref f10) = true)
    (a11 : PySem.W.findIn K (.ref C_Matrix) "__sub__" = some (some (.ref f11))) (i11 : PySem.W.isFn K (.ref f11) = true)
    (l11 : K.lookup f11 = some ⟨oc11, od11, .func (PySem.W.fnOf "__sub__" "Matrix.__sub__" (defArgs s_Matrix_sub) (defBody s_Matrix_sub) (defScope s_Matrix_sub) .none kV11 dc11 pm11 an11 cd11 ct11), sl11⟩) (c11 : PySem.W.codeIn K cd11 "Matrix.__sub__" = true) (k11 : PySem.W.keepIn K (.ref f11) = true)
    (a12 : PySem.W.findIn K (.ref C_Matrix) "__eq__" = some (some (.ref f12))) (i12 : PySem.W.isFn K (.ref f12) = true)
    (l12 : K.lookup f12 = some ⟨oc12, od12, .func (PySem.W.fnOf "__eq__" "Matrix.__eq__" (defArgs s_Matrix_eq) (defBody s_Matrix_eq) (defScope s_Matrix_eq) .none kV12 dc12 pm12 an12 cd12 ct12), sl12⟩) (c12 : PySem.W.codeIn K cd12 "Matrix.__eq__" = true) (k12 : PySem.W.keepIn K (.ref f12) = true)
    (a13 : PySem.W.nsIn K mainGlobals "check_steps" = some (some (.ref f13)))
    (l13 : K.lookup f13 = some ⟨oc13, od13, .func (PySem.W.fnOf "check_steps" "check_steps" (defArgs s_check_steps) (defBody s_check_steps) (defScope s_check_steps) .none kV13 dc13 pm13 an13 cd13 ct13), sl13⟩) (c13 : PySem.W.codeIn K cd13 "check_steps" = true) (k13 : PySem.W.keepIn K (.ref f13) = true)
    (a14 : PySem.W.findIn K (.ref C_Row) "__init__" = some (some (.ref f14))) (i14 : PySem.W.isFn K (.ref f14) = true)
    (l14 : K.lookup f14 = some ⟨oc14, od14, .func (PySem.W.fnOf "__init__" "Row.__init__" (defArgs s_Row_init) (defBody s_Row_init) (defScope s_Row_init) .none kV14 dc14 pm14 an14 cd14 ct14), sl14⟩) (c14 : PySem.W.codeIn K cd14 "Row.__init__" = true) (k14 : PySem.W.keepIn K (.ref f14) = true)
    (a15 : PySem.W.findIn K (.ref C_Row) "last" = some (some (.ref p15))) (pg15 : PySem.W.specialIn K (.ref p15) "__get__" = some (some (.builtin "property.__get__"))) (pt15 : PySem.W.takesIn K (.ref p15) = some true) (pr15 : PySem.W.recIn K p15 "property" = some (.ref f15 :: rs15))
    (l15 : K.lookup f15 = some ⟨oc15, od15, .func (PySem.W.fnOf "last" "Row.last" (defArgs s_Row_last) (defBody s_Row_last) (defScope s_Row_last) .none kV15 dc15 pm15 an15 cd15 ct15), sl15⟩) (c15 : PySem.W.codeIn K cd15 "Row.last" = true) (k15 : PySem.W.keepIn K (.ref f15) = true)
    (a16 : PySem.W.findIn K (.ref C_Row) "dim" = some (some (.ref f16))) (i16 : PySem.W.isFn K (.ref f16) = true)
    (l16 : K.lookup f16 = some ⟨oc16, od16, .func (PySem.W.fnOf "dim" "Row.dim" (defArgs s_Row_dim) (defBody s_Row_dim) (defScope s_Row_dim) .none kV16 dc16 pm16 an16 cd16 ct16), sl16⟩) (c16 : PySem.W.codeIn K cd16 "Row.dim" = true) (k16 : PySem.W.keepIn K (.ref f16) = true)
    (a17 : PySem.W.findIn K (.ref C_Row) "step" = some (some (.ref f17))) (i17 : PySem.W.isFn K (.ref f17) = true)
    (l17 : K.lookup f17 = some ⟨oc17, od17, .func (PySem.W.fnOf "step" "Row.step" (defArgs s_Row_step) (defBody s_Row_step) (defScope s_Row_step) .none kV17 dc17 pm17 an17 cd17 ct17), sl17⟩) (c17 : PySem.W.codeIn K cd17 "Row.step" = true) (k17 : PySem.W.keepIn K (.ref f17) = true)
    (a18 : PySem.W.findIn K (.ref C_Row) "__eq__" = some (some (.ref f18))) (i18 : PySem.W.isFn K (.ref f18) = true)
    (l18 : K.lookup f18 = some ⟨oc18, od18, .func (PySem.W.fnOf "__eq__" "Row.__eq__" (defArgs s_Row_eq) (defBody s_Row_eq) (defScope s_Row_eq) .none kV18 dc18 pm18 an18 cd18 ct18), sl18⟩) (c18 : PySem.W.codeIn K cd18 "Row.__eq__" = true) (k18 : PySem.W.keepIn K (.ref f18) = true)
    (a19 : PySem.W.nsIn K mainGlobals "_law_cell" = some (some (.ref f19)))
    (l19 : K.lookup f19 = some ⟨oc19, od19, .func (PySem.W.fnOf "_law_cell" "_law_cell" (defArgs s_law_cell) (defBody s_law_cell) (defScope s_law_cell) .none kV19 dc19 pm19 an19 cd19 ct19), sl19⟩) (c19 : PySem.W.codeIn K cd19 "_law_cell" = true) (k19 : PySem.W.keepIn K (.ref f19) = true)
    (a20 : PySem.W.nsIn K mainGlobals "_law_draws" = some (some (.ref f20)))
    (l20 : K.lookup f20 = some ⟨oc20, od20, .func (PySem.W.fnOf "_law_draws" "_law_draws" (defArgs s_law_draws) (defBody s_law_draws) (defScope s_law_draws) .none kV20 dc20 pm20 an20 cd20 ct20), sl20⟩) (c20 : PySem.W.codeIn K cd20 "_law_draws" = true) (k20 : PySem.W.keepIn K (.ref f20) = true)
    (a21 : PySem.W.nsIn K mainGlobals "_law_next" = some (some (.ref f21)))
    (l21 : K.lookup f21 = some ⟨oc21, od21, .func (PySem.W.fnOf "_law_next" "_law_next" (defArgs s_law_next) (defBody s_law_next) (defScope s_law_next) .none kV21 dc21 pm21 an21 cd21 ct21), sl21⟩) (c21 : PySem.W.codeIn K cd21 "_law_next" = true) (k21 : PySem.W.keepIn K (.ref f21) = true)
    (a22 : PySem.W.nsIn K mainGlobals "_law_is_prime" = some (some (.ref f22)))
    (l22 : K.lookup f22 = some ⟨oc22, od22, .func (PySem.W.fnOf "_law_is_prime" "_law_is_prime" (defArgs s_law_is_prime) (defBody s_law_is_prime) (defScope s_law_is_prime) .none kV22 dc22 pm22 an22 cd22 ct22), sl22⟩) (c22 : PySem.W.codeIn K cd22 "_law_is_prime" = true) (k22 : PySem.W.keepIn K (.ref f22) = true)
    (a23 : PySem.W.nsIn K mainGlobals "_law_prime" = some (some (.ref f23)))
    (l23 : K.lookup f23 = some ⟨oc23, od23, .func (PySem.W.fnOf "_law_prime" "_law_prime" (defArgs s_law_prime) (defBody s_law_prime) (defScope s_law_prime) .none kV23 dc23 pm23 an23 cd23 ct23), sl23⟩) (c23 : PySem.W.codeIn K cd23 "_law_prime" = true) (k23 : PySem.W.keepIn K (.ref f23) = true)
    (a24 : PySem.W.nsIn K mainGlobals "_law_same" = some (some (.ref f24)))
    (l24 : K.lookup f24 = some ⟨oc24, od24, .func (PySem.W.fnOf "_law_same" "_law_same" (defArgs s_law_same) (defBody s_law_same) (defScope s_law_same) .none kV24 dc24 pm24 an24 cd24 ct24), sl24⟩) (c24 : PySem.W.codeIn K cd24 "_law_same" = true) (k24 : PySem.W.keepIn K (.ref f24) = true)
    (a25 : PySem.W.nsIn K mainGlobals "_law_drawn" = some (some (.ref f25)))
    (l25 : K.lookup f25 = some ⟨oc25, od25, .func (PySem.W.fnOf "_law_drawn" "_law_drawn" (defArgs s_law_drawn) (defBody s_law_drawn) (defScope s_law_drawn) .none kV25 dc25 pm25 an25 cd25 ct25), sl25⟩) (c25 : PySem.W.codeIn K cd25 "_law_drawn" = true) (k25 : PySem.W.keepIn K (.ref f25) = true)
    (a26 : PySem.W.nsIn K mainGlobals "_law_is_matrix" = some (some (.ref f26)))
    (l26 : K.lookup f26 = some ⟨oc26, od26, .func (PySem.W.fnOf "_law_is_matrix" "_law_is_matrix" (defArgs s_law_is_matrix) (defBody s_law_is_matrix) (defScope s_law_is_matrix) .none kV26 dc26 pm26 an26 cd26 ct26), sl26⟩) (c26 : PySem.W.codeIn K cd26 "_law_is_matrix" = true) (k26 : PySem.W.keepIn K (.ref f26) = true)
    (a27 : PySem.W.nsIn K mainGlobals "_law_made_row" = some (some (.ref f27)))
    (l27 : K.lookup f27 = some ⟨oc27, od27, .func (PySem.W.fnOf "_law_made_row" "_law_made_row" (defArgs s_law_made_row) (defBody s_law_made_row) (defScope s_law_made_row) .none kV27 dc27 pm27 an27 cd27 ct27), sl27⟩) (c27 : PySem.W.codeIn K cd27 "_law_made_row" = true) (k27 : PySem.W.keepIn K (.ref f27) = true)
    (a28 : PySem.W.nsIn K mainGlobals "_law_any_row" = some (some (.ref f28)))
    (l28 : K.lookup f28 = some ⟨oc28, od28, .func (PySem.W.fnOf "_law_any_row" "_law_any_row" (defArgs s_law_any_row) (defBody s_law_any_row) (defScope s_law_any_row) .none kV28 dc28 pm28 an28 cd28 ct28), sl28⟩) (c28 : PySem.W.codeIn K cd28 "_law_any_row" = true) (k28 : PySem.W.keepIn K (.ref f28) = true)
    (a29 : PySem.W.nsIn K mainGlobals "_law_fails" = some (some (.ref f29)))
    (l29 : K.lookup f29 = some ⟨oc29, od29, .func (PySem.W.fnOf "_law_fails" "_law_fails" (defArgs s_law_fails) (defBody s_law_fails) (defScope s_law_fails) .none kV29 dc29 pm29 an29 cd29 ct29), sl29⟩) (c29 : PySem.W.codeIn K cd29 "_law_fails" = true) (k29 : PySem.W.keepIn K (.ref f29) = true)
    (a30 : PySem.W.nsIn K mainGlobals "_law_is_row" = some (some (.ref f30)))
    (l30 : K.lookup f30 = some ⟨oc30, od30, .func (PySem.W.fnOf "_law_is_row" "_law_is_row" (defArgs s_law_is_row) (defBody s_law_is_row) (defScope s_law_is_row) .none kV30 dc30 pm30 an30 cd30 ct30), sl30⟩) (c30 : PySem.W.codeIn K cd30 "_law_is_row" = true) (k30 : PySem.W.keepIn K (.ref f30) = true)
    (a31 : PySem.W.nsIn K mainGlobals "_law_spoilt" = some (some (.ref f31)))
    (l31 : K.lookup f31 = some ⟨oc31, od31, .func (PySem.W.fnOf "_law_spoilt" "_law_spoilt" (defArgs s_law_spoilt) (defBody s_law_spoilt) (defScope s_law_spoilt) .none kV31 dc31 pm31 an31 cd31 ct31), sl31⟩) (c31 : PySem.W.codeIn K cd31 "_law_spoilt" = true) (k31 : PySem.W.keepIn K (.ref f31) = true)
    (a32 : PySem.W.nsIn K mainGlobals "law" = some (some (.ref f32)))
    (l32 : K.lookup f32 = some ⟨oc32, od32, .func (PySem.W.fnOf "law" "law" (defArgs s_law) (defBody s_law) (defScope s_law) .none kV32 dc32 pm32 an32 cd32 ct32), sl32⟩) (c32 : PySem.W.codeIn K cd32 "law" = true) (k32 : PySem.W.keepIn K (.ref f32) = true)
    (pg_Matrix : PySem.W.plainGet K C_Matrix Str.empty = true) (hd_Matrix : PySem.W.hasDictIn K C_Matrix = true) (po_Matrix : PySem.W.plainOver K C_Matrix = true) (sa_Matrix : PySem.W.findIn K (.ref C_Matrix) "__setattr__" = some (some (.builtin "object.__setattr__"))) (mk_Matrix : PySem.W.makesIn K C_Matrix = true) (kc_Matrix : PySem.W.keepIn K (.ref C_Matrix) = true)
    (dc_Matrix : PySem.W.findIn K (.ref C_Matrix) "__class__" = some (some (.builtin "object.__class__")))
    (do_Matrix : PySem.W.mroIn K C_Matrix (.type "object") = some true)
    (na_Matrix_base : PySem.W.findIn K (.ref C_Matrix) "base" = some none)
    (na_Matrix_width : PySem.W.findIn K (.ref C_Matrix) "width" = some none)
    (na_Matrix_rows : PySem.W.findIn K (.ref C_Matrix) "rows" = some none)
    (pg_Row : PySem.W.plainGet K C_Row Str.empty = true) (hd_Row : PySem.W.hasDictIn K C_Row = true) (po_Row : PySem.W.plainOver K C_Row = true) (sa_Row : PySem.W.findIn K (.ref C_Row) "__setattr__" = some (some (.builtin "object.__setattr__"))) (mk_Row : PySem.W.makesIn K C_Row = true) (kc_Row : PySem.W.keepIn K (.ref C_Row) = true)
    (dc_Row : PySem.W.findIn K (.ref C_Row) "__class__" = some (some (.builtin "object.__class__")))
    (do_Row : PySem.W.mroIn K C_Row (.type "object") = some true)
    (na_Row_base : PySem.W.findIn K (.ref C_Row) "base" = some none)
    (na_Row_dims : PySem.W.findIn K (.ref C_Row) "dims" = some none)
    (na_Row_steps : PySem.W.findIn K (.ref C_Row) "steps" = some none)
    (xq_WovenError : PySem.W.excIn K C_WovenError [.type "ValueError", .type "Exception", .type "BaseException", .type "object"] "ValueError.__new__" = true)
    (xk_WovenError : PySem.W.keepIn K (.ref C_WovenError) = true)
    (xt_WovenError : PySem.W.typeIn K (.ref C_WovenError) = some (.type "type"))
    (xf_WovenError : PySem.W.selfFirst K C_WovenError = true)
    (xv_WovenError : PySem.W.subIn K (.ref C_WovenError) (.type "ValueError") = some true)
    (x1_WovenError : PySem.W.findIn K (.ref C_WovenError) "__getattribute__" = some (some (.builtin "BaseException.__getattribute__")))
    (x2_WovenError : PySem.W.findIn K (.ref C_WovenError) "__getattr__" = some none)
    (x3_WovenError : PySem.W.subIn K (.ref C_WovenError) (.type "BaseException") = some true)
    (x4_WovenError : PySem.W.hasDictIn K C_WovenError = true)
    (x5_WovenError : PySem.W.findIn K (.ref C_WovenError) "__class__" = some (some (.builtin "object.__class__")))
    (x8_WovenError : PySem.W.mroIn K C_WovenError (.type "object") = some true)
    (sb_WovenError_WovenError : PySem.W.subIn K (.ref C_WovenError) (.ref C_WovenError) = some true)
    (sb_WovenError_InvalidMatrix : PySem.W.subIn K (.ref C_WovenError) (.ref C_InvalidMatrix) = some false)
    (sb_WovenError_InvalidTime : PySem.W.subIn K (.ref C_WovenError) (.ref C_InvalidTime) = some false)
    (sb_WovenError_InvalidRow : PySem.W.subIn K (.ref C_WovenError) (.ref C_InvalidRow) = some false)
    (xq_InvalidMatrix : PySem.W.excIn K C_InvalidMatrix [.type "ValueError", .type "Exception", .type "BaseException", .type "object"] "ValueError.__new__" = true)
    (xk_InvalidMatrix : PySem.W.keepIn K (.ref C_InvalidMatrix) = true)
    (xt_InvalidMatrix : PySem.W.typeIn K (.ref C_InvalidMatrix) = some (.type "type"))
    (xf_InvalidMatrix : PySem.W.selfFirst K C_InvalidMatrix = true)
    (xv_InvalidMatrix : PySem.W.subIn K (.ref C_InvalidMatrix) (.type "ValueError") = some true)
    (x1_InvalidMatrix : PySem.W.findIn K (.ref C_InvalidMatrix) "__getattribute__" = some (some (.builtin "BaseException.__getattribute__")))
    (x2_InvalidMatrix : PySem.W.findIn K (.ref C_InvalidMatrix) "__getattr__" = some none)
    (x3_InvalidMatrix : PySem.W.subIn K (.ref C_InvalidMatrix) (.type "BaseException") = some true)
    (x4_InvalidMatrix : PySem.W.hasDictIn K C_InvalidMatrix = true)
    (x5_InvalidMatrix : PySem.W.findIn K (.ref C_InvalidMatrix) "__class__" = some (some (.builtin "object.__class__")))
    (x8_InvalidMatrix : PySem.W.mroIn K C_InvalidMatrix (.type "object") = some true)
    (sb_InvalidMatrix_WovenError : PySem.W.subIn K (.ref C_InvalidMatrix) (.ref C_WovenError) = some true)
    (sb_InvalidMatrix_InvalidMatrix : PySem.W.subIn K (.ref C_InvalidMatrix) (.ref C_InvalidMatrix) = some true)
    (sb_InvalidMatrix_InvalidTime : PySem.W.subIn K (.ref C_InvalidMatrix) (.ref C_InvalidTime) = some false)
    (sb_InvalidMatrix_InvalidRow : PySem.W.subIn K (.ref C_InvalidMatrix) (.ref C_InvalidRow) = some false)
    (xq_InvalidTime : PySem.W.excIn K C_InvalidTime [.type "ValueError", .type "Exception", .type "BaseException", .type "object"] "ValueError.__new__" = true)
    (xk_InvalidTime : PySem.W.keepIn K (.ref C_InvalidTime) = true)
    (xt_InvalidTime : PySem.W.typeIn K (.ref C_InvalidTime) = some (.type "type"))
    (xf_InvalidTime : PySem.W.selfFirst K C_InvalidTime = true)
    (xv_InvalidTime : PySem.W.subIn K (.ref C_InvalidTime) (.type "ValueError") = some true)
    (x1_InvalidTime : PySem.W.findIn K (.ref C_InvalidTime) "__getattribute__" = some (some (.builtin "BaseException.__getattribute__")))
    (x2_InvalidTime : PySem.W.findIn K (.ref C_InvalidTime) "__getattr__" = some none)
    (x3_InvalidTime : PySem.W.subIn K (.ref C_InvalidTime) (.type "BaseException") = some true)
    (x4_InvalidTime : PySem.W.hasDictIn K C_InvalidTime = true)
    (x5_InvalidTime : PySem.W.findIn K (.ref C_InvalidTime) "__class__" = some (some (.builtin "object.__class__")))
    (x8_InvalidTime : PySem.W.mroIn K C_InvalidTime (.type "object") = some true)
    (sb_InvalidTime_WovenError : PySem.W.subIn K (.ref C_InvalidTime) (.ref C_WovenError) = some true)
    (sb_InvalidTime_InvalidMatrix : PySem.W.subIn K (.ref C_InvalidTime) (.ref C_InvalidMatrix) = some false)
    (sb_InvalidTime_InvalidTime : PySem.W.subIn K (.ref C_InvalidTime) (.ref C_InvalidTime) = some true)
    (sb_InvalidTime_InvalidRow : PySem.W.subIn K (.ref C_InvalidTime) (.ref C_InvalidRow) = some false)
    (xq_InvalidRow : PySem.W.excIn K C_InvalidRow [.type "ValueError", .type "Exception", .type "BaseException", .type "object"] "ValueError.__new__" = true)
    (xk_InvalidRow : PySem.W.keepIn K (.ref C_InvalidRow) = true)
    (xt_InvalidRow : PySem.W.typeIn K (.ref C_InvalidRow) = some (.type "type"))
    (xf_InvalidRow : PySem.W.selfFirst K C_InvalidRow = true)
    (xv_InvalidRow : PySem.W.subIn K (.ref C_InvalidRow) (.type "ValueError") = some true)
    (x1_InvalidRow : PySem.W.findIn K (.ref C_InvalidRow) "__getattribute__" = some (some (.builtin "BaseException.__getattribute__")))
    (x2_InvalidRow : PySem.W.findIn K (.ref C_InvalidRow) "__getattr__" = some none)
    (x3_InvalidRow : PySem.W.subIn K (.ref C_InvalidRow) (.type "BaseException") = some true)
    (x4_InvalidRow : PySem.W.hasDictIn K C_InvalidRow = true)
    (x5_InvalidRow : PySem.W.findIn K (.ref C_InvalidRow) "__class__" = some (some (.builtin "object.__class__")))
    (x8_InvalidRow : PySem.W.mroIn K C_InvalidRow (.type "object") = some true)
    (sb_InvalidRow_WovenError : PySem.W.subIn K (.ref C_InvalidRow) (.ref C_WovenError) = some true)
    (sb_InvalidRow_InvalidMatrix : PySem.W.subIn K (.ref C_InvalidRow) (.ref C_InvalidMatrix) = some false)
    (sb_InvalidRow_InvalidTime : PySem.W.subIn K (.ref C_InvalidRow) (.ref C_InvalidTime) = some false)
    (sb_InvalidRow_InvalidRow : PySem.W.subIn K (.ref C_InvalidRow) (.ref C_InvalidRow) = some true)
    (x6 : PySem.W.specialIn K (.builtin "object.__class__") "__get__" = some (some (.builtin "getset_descriptor.__get__"))) (x7 : PySem.W.takesIn K (.builtin "object.__class__") = some true)
    (rd_Matrix : PySem.W.readsIn K C_Matrix (.type "type") = true) (ga_Matrix : PySem.W.specialIn K (.ref C_Matrix) "__getattribute__" = some (some (.builtin "type.__getattribute__")))
    (sf_Matrix : PySem.W.selfFirst K C_Matrix = true) (ty_Matrix : PySem.W.typeIn K (.ref C_Matrix) = some (.type "type"))
    (sf_Row : PySem.W.selfFirst K C_Row = true) (ty_Row : PySem.W.typeIn K (.ref C_Row) = some (.type "type"))
    (g_LARGEST_BASE : PySem.W.nsIn K mainGlobals "LARGEST_BASE" = some (some (.int 97 tk_LARGEST_BASE)))
    (z_ValueError : PySem.W.nsIn K mainGlobals "ValueError" = some none)
    (z_abs : PySem.W.nsIn K mainGlobals "abs" = some none)
    (z_all : PySem.W.nsIn K mainGlobals "all" = some none)
    (z_bool : PySem.W.nsIn K mainGlobals "bool" = some none)
    (z_enumerate : PySem.W.nsIn K mainGlobals "enumerate" = some none)
    (z_int : PySem.W.nsIn K mainGlobals "int" = some none)
    (z_isinstance : PySem.W.nsIn K mainGlobals "isinstance" = some none)
    (z_len : PySem.W.nsIn K mainGlobals "len" = some none)
    (z_list : PySem.W.nsIn K mainGlobals "list" = some none)
    (z_min : PySem.W.nsIn K mainGlobals "min" = some none)
    (z_property : PySem.W.nsIn K mainGlobals "property" = some none)
    (z_range : PySem.W.nsIn K mainGlobals "range" = some none)
    (z_staticmethod : PySem.W.nsIn K mainGlobals "staticmethod" = some none)
    (z_str : PySem.W.nsIn K mainGlobals "str" = some none)
    (z_sum : PySem.W.nsIn K mainGlobals "sum" = some none)
    (z_tuple : PySem.W.nsIn K mainGlobals "tuple" = some none)
    (z_zip : PySem.W.nsIn K mainGlobals "zip" = some none)
    : ∃ fd : FuncData, (∀ (s : Shared) (v : Value), BindsTo s fd ⟨[v], []⟩ [("script", v)]) ∧ ∀ base : Heap, K.In base → base.Ns mainGlobals mg → FnOk l.prog w K mg base CX0 8 fa fd ["script"] (spLaw K) := by
  have e : f32 = fa := by
    have e := hfa.symm.trans (PySem.W.mg_of X G a32)
    cases e
    rfl
  subst e
  have F0 := fun_mk (st := s_is_base) l0 c0 k0
  have F1 := fun_mk (st := s_dot) l1 c1 k1
  have F2 := fun_mk (st := s_Matrix_init) l2 c2 k2
  have F3 := fun_mk (st := s_Matrix_identity) l3 c3 k3
  have F4 := fun_mk (st := s_Matrix_zero) l4 c4 k4
  have F5 := fun_mk (st := s_Matrix_height) l5 c5 k5
  have F6 := fun_mk (st := s_Matrix_column) l6 c6 k6
  have F7 := fun_mk (st := s_Matrix_columns) l7 c7 k7
  have F8 := fun_mk (st := s_Matrix_scaled) l8 c8 k8
  have F9 := fun_mk (st := s_Matrix_mul) l9 c9 k9
  have F10 := fun_mk (st := s_Matrix_add) l10 c10 k10
  have F11 := fun_mk (st := s_Matrix_sub) l11 c11 k11
  have F12 := fun_mk (st := s_Matrix_eq) l12 c12 k12
  have F13 := fun_mk (st := s_check_steps) l13 c13 k13
  have F14 := fun_mk (st := s_Row_init) l14 c14 k14
  have F15 := fun_mk (st := s_Row_last) l15 c15 k15
  have F16 := fun_mk (st := s_Row_dim) l16 c16 k16
  have F17 := fun_mk (st := s_Row_step) l17 c17 k17
  have F18 := fun_mk (st := s_Row_eq) l18 c18 k18
  have F19 := fun_mk (st := s_law_cell) l19 c19 k19
  have F20 := fun_mk (st := s_law_draws) l20 c20 k20
  have F21 := fun_mk (st := s_law_next) l21 c21 k21
  have F22 := fun_mk (st := s_law_is_prime) l22 c22 k22
  have F23 := fun_mk (st := s_law_prime) l23 c23 k23
  have F24 := fun_mk (st := s_law_same) l24 c24 k24
  have F25 := fun_mk (st := s_law_drawn) l25 c25 k25
  have F26 := fun_mk (st := s_law_is_matrix) l26 c26 k26
  have F27 := fun_mk (st := s_law_made_row) l27 c27 k27
  have F28 := fun_mk (st := s_law_any_row) l28 c28 k28
  have F29 := fun_mk (st := s_law_fails) l29 c29 k29
  have F30 := fun_mk (st := s_law_is_row) l30 c30 k30
  have F31 := fun_mk (st := s_law_spoilt) l31 c31 k31
  have F32 := fun_mk (st := s_law) l32 c32 k32
  have T : Txt K mg { f_is_base := f0, d_is_base := PySem.W.fnOf "is_base" "is_base" (defArgs s_is_base) (defBody s_is_base) (defScope s_is_base) .none kV0 dc0 pm0 an0 cd0 ct0, f_dot := f1, d_dot := PySem.W.fnOf "dot" "dot" (defArgs s_dot) (defBody s_dot) (defScope s_dot) .none kV1 dc1 pm1 an1 cd1 ct1, f_Matrix_init := f2, d_Matrix_init := PySem.W.fnOf "__init__" "Matrix.__init__" (defArgs s_Matrix_init) (defBody s_Matrix_init) (defScope s_Matrix_init) .none kV2 dc2 pm2 an2 cd2 ct2, f_Matrix_identity := f3, d_Matrix_identity := PySem.W.fnOf "identity" "Matrix.identity" (defArgs s_Matrix_identity) (defBody s_Matrix_identity) (defScope s_Matrix_identity) .none kV3 dc3 pm3 an3 cd3 ct3, f_Matrix_zero := f4, d_Matrix_zero := PySem.W.fnOf "zero" "Matrix.zero" (defArgs s_Matrix_zero) (defBody s_Matrix_zero) (defScope s_Matrix_zero) .none kV4 dc4 pm4 an4 cd4 ct4, f_Matrix_height := f5, d_Matrix_height := PySem.W.fnOf "height" "Matrix.height" (defArgs s_Matrix_height) (defBody s_Matrix_height) (defScope s_Matrix_height) .none kV5 dc5 pm5 an5 cd5 ct5, f_Matrix_column := f6, d_Matrix_column := PySem.W.fnOf "column" "Matrix.column" (defArgs s_Matrix_column) (defBody s_Matrix_column) (defScope s_Matrix_column) .none kV6 dc6 pm6 an6 cd6 ct6, f_Matrix_columns := f7, d_Matrix_columns := PySem.W.fnOf "columns" "Matrix.columns" (defArgs s_Matrix_columns) (defBody s_Matrix_columns) (defScope s_Matrix_columns) .none kV7 dc7 pm7 an7 cd7 ct7, f_Matrix_scaled := f8, d_Matrix_scaled := PySem.W.fnOf "scaled" "Matrix.scaled" (defArgs s_Matrix_scaled) (defBody s_Matrix_scaled) (defScope s_Matrix_scaled) .none kV8 dc8 pm8 an8 cd8 ct8, f_Matrix_mul := f9, d_Matrix_mul := PySem.W.fnOf "__mul__" "Matrix.__mul__" (defArgs s_Matrix_mul) (defBody s_Matrix_mul) (defScope s_Matrix_mul) .none kV9 dc9 pm9 an9 cd9 ct9, f_Matrix_add := f10, d_Matrix_add := PySem.W.fnOf "__add__" "Matrix.__add__" (defArgs s_Matrix_add) (defBody s_Matrix_add) (defScope s_Matrix_add) .none kV10 dc10 pm10 an10 cd10 ct10, f_Matrix_sub := f11, d_Matrix_sub := PySem.W.fnOf "__sub__" "Matrix.__sub__" (defArgs s_Matrix_sub) (defBody s_Matrix_sub) (defScope s_Matrix_sub) .none kV11 dc11 pm11 an11 cd11 ct11, f_Matrix_eq := f12, d_Matrix_eq := PySem.W.fnOf "__eq__" "Matrix.__eq__" (defArgs s_Matrix_eq) (defBody s_Matrix_eq) (defScope s_Matrix_eq) .none kV12 dc12 pm12 an12 cd12 ct12, f_check_steps := f13, d_check_steps := PySem.W.fnOf "check_steps" "check_steps" (defArgs s_check_steps) (defBody s_check_steps) (defScope s_check_steps) .none kV13 dc13 pm13 an13 cd13 ct13, f_Row_init := f14, d_Row_init := PySem.W.fnOf "__init__" "Row.__init__" (defArgs s_Row_init) (defBody s_Row_init) (defScope s_Row_init) .none kV14 dc14 pm14 an14 cd14 ct14, f_Row_last := f15, d_Row_last := PySem.W.fnOf "last" "Row.last" (defArgs s_Row_last) (defBody s_Row_last) (defScope s_Row_last) .none kV15 dc15 pm15 an15 cd15 ct15, f_Row_dim := f16, d_Row_dim := PySem.W.fnOf "dim" "Row.dim" (defArgs s_Row_dim) (defBody s_Row_dim) (defScope s_Row_dim) .none kV16 dc16 pm16 an16 cd16 ct16, f_Row_step := f17, d_Row_step := PySem.W.fnOf "step" "Row.step" (defArgs s_Row_step) (defBody s_Row_step) (defScope s_Row_step) .none kV17 dc17 pm17 an17 cd17 ct17, f_Row_eq := f18, d_Row_eq := PySem.W.fnOf "__eq__" "Row.__eq__" (defArgs s_Row_eq) (defBody s_Row_eq) (defScope s_Row_eq) .none kV18 dc18 pm18 an18 cd18 ct18, f_law_cell := f19, d_law_cell := PySem.W.fnOf "_law_cell" "_law_cell" (defArgs s_law_cell) (defBody s_law_cell) (defScope s_law_cell) .none kV19 dc19 pm19 an19 cd19 ct19, f_law_draws := f20, d_law_draws := PySem.W.fnOf "_law_draws" "_law_draws" (defArgs s_law_draws) (defBody s_law_draws) (defScope s_law_draws) .none kV20 dc20 pm20 an20 cd20 ct20, f_law_next := f21, d_law_next := PySem.W.fnOf "_law_next" "_law_next" (defArgs s_law_next) (defBody s_law_next) (defScope s_law_next) .none kV21 dc21 pm21 an21 cd21 ct21, f_law_is_prime := f22, d_law_is_prime := PySem.W.fnOf "_law_is_prime" "_law_is_prime" (defArgs s_law_is_prime) (defBody s_law_is_prime) (defScope s_law_is_prime) .none kV22 dc22 pm22 an22 cd22 ct22, f_law_prime := f23, d_law_prime := PySem.W.fnOf "_law_prime" "_law_prime" (defArgs s_law_prime) (defBody s_law_prime) (defScope s_law_prime) .none kV23 dc23 pm23 an23 cd23 ct23, f_law_same := f24, d_law_same := PySem.W.fnOf "_law_same" "_law_same" (defArgs s_law_same) (defBody s_law_same) (defScope s_law_same) .none kV24 dc24 pm24 an24 cd24 ct24, f_law_drawn := f25, d_law_drawn := PySem.W.fnOf "_law_drawn" "_law_drawn" (defArgs s_law_drawn) (defBody s_law_drawn) (defScope s_law_drawn) .none kV25 dc25 pm25 an25 cd25 ct25, f_law_is_matrix := f26, d_law_is_matrix := PySem.W.fnOf "_law_is_matrix" "_law_is_matrix" (defArgs s_law_is_matrix) (defBody s_law_is_matrix) (defScope s_law_is_matrix) .none kV26 dc26 pm26 an26 cd26 ct26, f_law_made_row := f27, d_law_made_row := PySem.W.fnOf "_law_made_row" "_law_made_row" (defArgs s_law_made_row) (defBody s_law_made_row) (defScope s_law_made_row) .none kV27 dc27 pm27 an27 cd27 ct27, f_law_any_row := f28, d_law_any_row := PySem.W.fnOf "_law_any_row" "_law_any_row" (defArgs s_law_any_row) (defBody s_law_any_row) (defScope s_law_any_row) .none kV28 dc28 pm28 an28 cd28 ct28, f_law_fails := f29, d_law_fails := PySem.W.fnOf "_law_fails" "_law_fails" (defArgs s_law_fails) (defBody s_law_fails) (defScope s_law_fails) .none kV29 dc29 pm29 an29 cd29 ct29, f_law_is_row := f30, d_law_is_row := PySem.W.fnOf "_law_is_row" "_law_is_row" (defArgs s_law_is_row) (defBody s_law_is_row) (defScope s_law_is_row) .none kV30 dc30 pm30 an30 cd30 ct30, f_law_spoilt := f31, d_law_spoilt := PySem.W.fnOf "_law_spoilt" "_law_spoilt" (defArgs s_law_spoilt) (defBody s_law_spoilt) (defScope s_law_spoilt) .none kV31 dc31 pm31 an31 cd31 ct31, f_law := f32, d_law := PySem.W.fnOf "law" "law" (defArgs s_law) (defBody s_law) (defScope s_law) .none kV32 dc32 pm32 an32 cd32 ct32, C_WovenError := C_WovenError, C_InvalidMatrix := C_InvalidMatrix, C_InvalidTime := C_InvalidTime, C_InvalidRow := C_InvalidRow, C_Matrix := C_Matrix, C_Row := C_Row } := {
    F_is_base := F0
    m_is_base := PySem.W.mg_of X G a0
    b_is_base := F0.binds (ps := ["number"]) fun _ _ _ _ _ _ us hl => match us, hl with | [_], _ => rfl
    F_dot := F1
    m_dot := PySem.W.mg_of X G a1
    k2_dot := Fun.kbn F1 fun _ _ _ _ _ _ us ws hl hm => match us, ws, hl, hm with | [_, _], [_], _, _ => rfl
    F_Matrix_init := F2
    b_Matrix_init := F2.binds (ps := ["self", "base", "width", "rows"]) fun _ _ _ _ _ _ us hl => match us, hl with | [_, _, _, _], _ => rfl
    F_Matrix_identity := F3
    st_Matrix_identity := ⟨⟨_, _, _, rd_Matrix, ga_Matrix, a3, pr3⟩, rfl, k3⟩
    b_Matrix_identity := F3.binds (ps := ["base", "size"]) fun _ _ _ _ _ _ us hl => match us, hl with | [_, _], _ => rfl
    F_Matrix_zero := F4
    st_Matrix_zero := ⟨⟨_, _, _, rd_Matrix, ga_Matrix, a4, pr4⟩, rfl, k4⟩
    b_Matrix_zero := F4.binds (ps := ["base", "height", "width"]) fun _ _ _ _ _ _ us hl => match us, hl with | [_, _, _], _ => rfl
    F_Matrix_height := F5
    pr_Matrix_height := ⟨_, a5, pg5, pt5, _, pr5⟩
    b_Matrix_height := F5.binds (ps := ["self"]) fun _ _ _ _ _ _ us hl => match us, hl with | [_], _ => rfl
    F_Matrix_column := F6
    b_Matrix_column := F6.binds (ps := ["self", "place"]) fun _ _ _ _ _ _ us hl => match us, hl with | [_, _], _ => rfl
    F_Matrix_columns := F7
    b_Matrix_columns := F7.binds (ps := ["self"]) fun _ _ _ _ _ _ us hl => match us, hl with | [_], _ => rfl
    F_Matrix_scaled := F8
    b_Matrix_scaled := F8.binds (ps := ["self", "factor"]) fun _ _ _ _ _ _ us hl => match us, hl with | [_, _], _ => rfl
    F_Matrix_mul := F9
    op_Matrix_mul := ⟨a9, i9, sf_Matrix⟩
    b_Matrix_mul := F9.binds (ps := ["self", "other"]) fun _ _ _ _ _ _ us hl => match us, hl with | [_, _], _ => rfl
    F_Matrix_add := F10
    op_Matrix_add := ⟨a10, i10, sf_Matrix⟩
    b_Matrix_add := F10.binds (ps := ["self", "other"]) fun _ _ _ _ _ _ us hl => match us, hl with | [_, _], _ => rfl
    F_Matrix_sub := F11
    op_Matrix_sub := ⟨a11, i11, sf_Matrix⟩
    b_Matrix_sub := F11.binds (ps := ["self", "other"]) fun _ _ _ _ _ _ us hl => match us, hl with | [_, _], _ => rfl
    F_Matrix_eq := F12
    eq_Matrix_eq := ⟨a12, i12⟩
    b_Matrix_eq := F12.binds (ps := ["self", "other"]) fun _ _ _ _ _ _ us hl => match us, hl with | [_, _], _ => rfl
    F_check_steps := F13
    m_check_steps := PySem.W.mg_of X G a13
    b_check_steps := F13.binds (ps := ["base", "dims", "steps"]) fun _ _ _ _ _ _ us hl => match us, hl with | [_, _, _], _ => rfl
    F_Row_init := F14
    b_Row_init := F14.binds (ps := ["self", "base", "dims", "steps"]) fun _ _ _ _ _ _ us hl => match us, hl with | [_, _, _, _], _ => rfl
    F_Row_last := F15
    pr_Row_last := ⟨_, a15, pg15, pt15, _, pr15⟩
    b_Row_last := F15.binds (ps := ["self"]) fun _ _ _ _ _ _ us hl => match us, hl with | [_], _ => rfl
    F_Row_dim := F16
    b_Row_dim := F16.binds (ps := ["self", "time"]) fun _ _ _ _ _ _ us hl => match us, hl with | [_, _], _ => rfl
    F_Row_step := F17
    b_Row_step := F17.binds (ps := ["self", "time"]) fun _ _ _ _ _ _ us hl => match us, hl with | [_, _], _ => rfl
    F_Row_eq := F18
    eq_Row_eq := ⟨a18, i18⟩
    b_Row_eq := F18.binds (ps := ["self", "other"]) fun _ _ _ _ _ _ us hl => match us, hl with | [_, _], _ => rfl
    F_law_cell := F19
    m_law_cell := PySem.W.mg_of X G a19
    b_law_cell := F19.binds (ps := ["script", "k"]) fun _ _ _ _ _ _ us hl => match us, hl with | [_, _], _ => rfl
    F_law_draws := F20
    m_law_draws := PySem.W.mg_of X G a20
    b_law_draws := F20.binds (ps := ["cell"]) fun _ _ _ _ _ _ us hl => match us, hl with | [_], _ => rfl
    F_law_next := F21
    m_law_next := PySem.W.mg_of X G a21
    b_law_next := F21.binds (ps := ["draws", "many"]) fun _ _ _ _ _ _ us hl => match us, hl with | [_, _], _ => rfl
    F_law_is_prime := F22
    m_law_is_prime := PySem.W.mg_of X G a22
    b_law_is_prime := F22.binds (ps := ["number"]) fun _ _ _ _ _ _ us hl => match us, hl with | [_], _ => rfl
    F_law_prime := F23
    m_law_prime := PySem.W.mg_of X G a23
    b_law_prime := F23.binds (ps := ["draws"]) fun _ _ _ _ _ _ us hl => match us, hl with | [_], _ => rfl
    F_law_same := F24
    m_law_same := PySem.W.mg_of X G a24
    b_law_same := F24.binds (ps := ["actual", "expected"]) fun _ _ _ _ _ _ us hl => match us, hl with | [_, _], _ => rfl
    F_law_drawn := F25
    m_law_drawn := PySem.W.mg_of X G a25
    b_law_drawn := F25.binds (ps := ["draws", "base", "height", "width"]) fun _ _ _ _ _ _ us hl => match us, hl with | [_, _, _, _], _ => rfl
    F_law_is_matrix := F26
    m_law_is_matrix := PySem.W.mg_of X G a26
    b_law_is_matrix := F26.binds (ps := ["actual", "base", "width", "rows"]) fun _ _ _ _ _ _ us hl => match us, hl with | [_, _, _, _], _ => rfl
    F_law_made_row := F27
    m_law_made_row := PySem.W.mg_of X G a27
    b_law_made_row := F27.binds (ps := ["base", "dims", "steps"]) fun _ _ _ _ _ _ us hl => match us, hl with | [_, _, _], _ => rfl
    F_law_any_row := F28
    m_law_any_row := PySem.W.mg_of X G a28
    b_law_any_row := F28.binds (ps := ["draws", "base", "last"]) fun _ _ _ _ _ _ us hl => match us, hl with | [_, _, _], _ => rfl
    F_law_fails := F29
    m_law_fails := PySem.W.mg_of X G a29
    b_law_fails := F29.binds (ps := ["base", "dims", "steps"]) fun _ _ _ _ _ _ us hl => match us, hl with | [_, _, _], _ => rfl
    F_law_is_row := F30
    m_law_is_row := PySem.W.mg_of X G a30
    b_law_is_row := F30.binds (ps := ["row", "base", "dims", "steps"]) fun _ _ _ _ _ _ us hl => match us, hl with | [_, _, _, _], _ => rfl
    F_law_spoilt := F31
    m_law_spoilt := PySem.W.mg_of X G a31
    b_law_spoilt := F31.binds (ps := ["draws", "base", "dims", "steps"]) fun _ _ _ _ _ _ us hl => match us, hl with | [_, _, _, _], _ => rfl
    F_law := F32
    m_law := PySem.W.mg_of X G a32
    b_law := F32.binds (ps := ["script"]) fun _ _ _ _ _ _ us hl => match us, hl with | [_], _ => rfl
    c_WovenError := PySem.W.mg_of X G aC_WovenError
    c_InvalidMatrix := PySem.W.mg_of X G aC_InvalidMatrix
    c_InvalidTime := PySem.W.mg_of X G aC_InvalidTime
    c_InvalidRow := PySem.W.mg_of X G aC_InvalidRow
    c_Matrix := PySem.W.mg_of X G aC_Matrix
    c_Row := PySem.W.mg_of X G aC_Row
    x_WovenError := ⟨⟨x1_WovenError, x2_WovenError, x3_WovenError, x4_WovenError, x5_WovenError, x6, x7, x8_WovenError⟩, xq_WovenError, xk_WovenError, xt_WovenError, xf_WovenError, xv_WovenError⟩
    x_InvalidMatrix := ⟨⟨x1_InvalidMatrix, x2_InvalidMatrix, x3_InvalidMatrix, x4_InvalidMatrix, x5_InvalidMatrix, x6, x7, x8_InvalidMatrix⟩, xq_InvalidMatrix, xk_InvalidMatrix, xt_InvalidMatrix, xf_InvalidMatrix, xv_InvalidMatrix⟩
    x_InvalidTime := ⟨⟨x1_InvalidTime, x2_InvalidTime, x3_InvalidTime, x4_InvalidTime, x5_InvalidTime, x6, x7, x8_InvalidTime⟩, xq_InvalidTime, xk_InvalidTime, xt_InvalidTime, xf_InvalidTime, xv_InvalidTime⟩
    x_InvalidRow := ⟨⟨x1_InvalidRow, x2_InvalidRow, x3_InvalidRow, x4_InvalidRow, x5_InvalidRow, x6, x7, x8_InvalidRow⟩, xq_InvalidRow, xk_InvalidRow, xt_InvalidRow, xf_InvalidRow, xv_InvalidRow⟩
    sb_WovenError_WovenError := sb_WovenError_WovenError
    sb_WovenError_InvalidMatrix := sb_WovenError_InvalidMatrix
    sb_WovenError_InvalidTime := sb_WovenError_InvalidTime
    sb_WovenError_InvalidRow := sb_WovenError_InvalidRow
    sb_InvalidMatrix_WovenError := sb_InvalidMatrix_WovenError
    sb_InvalidMatrix_InvalidMatrix := sb_InvalidMatrix_InvalidMatrix
    sb_InvalidMatrix_InvalidTime := sb_InvalidMatrix_InvalidTime
    sb_InvalidMatrix_InvalidRow := sb_InvalidMatrix_InvalidRow
    sb_InvalidTime_WovenError := sb_InvalidTime_WovenError
    sb_InvalidTime_InvalidMatrix := sb_InvalidTime_InvalidMatrix
    sb_InvalidTime_InvalidTime := sb_InvalidTime_InvalidTime
    sb_InvalidTime_InvalidRow := sb_InvalidTime_InvalidRow
    sb_InvalidRow_WovenError := sb_InvalidRow_WovenError
    sb_InvalidRow_InvalidMatrix := sb_InvalidRow_InvalidMatrix
    sb_InvalidRow_InvalidTime := sb_InvalidRow_InvalidTime
    sb_InvalidRow_InvalidRow := sb_InvalidRow_InvalidRow
    cl_Matrix := ⟨pg_Matrix, hd_Matrix, po_Matrix, sa_Matrix⟩
    dc_Matrix := ⟨dc_Matrix, x6, x7, do_Matrix⟩
    oc_Matrix := ⟨sf_Matrix, ty_Matrix⟩
    mk_Matrix := ⟨mk_Matrix, a2, i2, kc_Matrix⟩
    na_Matrix_base := na_Matrix_base
    na_Matrix_width := na_Matrix_width
    na_Matrix_rows := na_Matrix_rows
    cl_Row := ⟨pg_Row, hd_Row, po_Row, sa_Row⟩
    dc_Row := ⟨dc_Row, x6, x7, do_Row⟩
    oc_Row := ⟨sf_Row, ty_Row⟩
    mk_Row := ⟨mk_Row, a14, i14, kc_Row⟩
    na_Row_base := na_Row_base
    na_Row_dims := na_Row_dims
    na_Row_steps := na_Row_steps
    me_Matrix_column := ⟨a6, i6, k6⟩
    me_Matrix_columns := ⟨a7, i7, k7⟩
    me_Matrix_scaled := ⟨a8, i8, k8⟩
    me_Row_dim := ⟨a16, i16, k16⟩
    me_Row_step := ⟨a17, i17, k17⟩
    g_LARGEST_BASE := ⟨_, PySem.W.mg_of X G g_LARGEST_BASE⟩
    z_ValueError := PySem.W.mg_none_of X G z_ValueError
    z_abs := PySem.W.mg_none_of X G z_abs
    z_all := PySem.W.mg_none_of X G z_all
    z_bool := PySem.W.mg_none_of X G z_bool
    z_enumerate := PySem.W.mg_none_of X G z_enumerate
    z_int := PySem.W.mg_none_of X G z_int
    z_isinstance := PySem.W.mg_none_of X G z_isinstance
    z_len := PySem.W.mg_none_of X G z_len
    z_list := PySem.W.mg_none_of X G z_list
    z_min := PySem.W.mg_none_of X G z_min
    z_property := PySem.W.mg_none_of X G z_property
    z_range := PySem.W.mg_none_of X G z_range
    z_staticmethod := PySem.W.mg_none_of X G z_staticmethod
    z_str := PySem.W.mg_none_of X G z_str
    z_sum := PySem.W.mg_none_of X G z_sum
    z_tuple := PySem.W.mg_none_of X G z_tuple
    z_zip := PySem.W.mg_none_of X G z_zip }
  exact ⟨_, fun s v => .of_eq rfl, fun base _ _ => ok_law T⟩
end Bw
open PySem PySem.W PyProof.Rows
set_option maxRecDepth 100000 in
set_option maxHeartbeats 0 in
theorem PySem.Challenge.cw_barswoven_k09_rows_made_holds : PySem.Challenge.rw_barswoven_k09_rows_made.Holds := by
  w_on; o_law; k_head; (case hw => w_witness2)
  k_fill
  refine L2.walk_of (l := PySem.Challenge.rw_barswoven_k09_rows_made) (n := 63) (k := 8) (x := "script") (CX := fun _ => L2.CX0) (sp := fun w => Bw.spLaw _) rfl (by decide) rfl ⟨rfl, by decide, by decide⟩ (fun w h Y => PySem.W.kIn_of Y) ?F (fun w H a ns hl hO hS => Bw.spLaw_in _ H a ns hl hO hS) (fun _ _ _ _ _ h => h)
  case F =>
    intro w mg fa h KX G hmg
    refine' Bw.all_mk KX G hmg ?aC_Row ?aC_Matrix ?aC_InvalidRow ?aC_InvalidTime ?aC_InvalidMatrix ?aC_WovenError ?a0 ?l0 ?c0 ?k0 ?a1 ?l1 ?c1 ?k1 ?a2 ?i2 ?l2 ?c2 ?k2 ?a3 ?pr3 ?l3 ?c3 ?k3 ?a4 ?pr4 ?l4 ?c4 ?k4 ?a5 ?pg5 ?pt5 ?pr5 ?l5 ?c5 ?k5 ?a6 ?i6 ?l6 ?c6 ?k6 ?a7 ?i7 ?l7 ?c7 ?k7 ?a8 ?i8 ?l8 ?c8 ?k8 ?a9 ?i9 ?l9 ?c9 ?k9 ?a10 ?i10 ?l10 ?c10 ?k10 ?a11 ?i11 ?l11 ?c11 ?k11 ?a12 ?i12 ?l12 ?c12 ?k12 ?a13 ?l13 ?c13 ?k13 ?a14 ?i14 ?l14 ?c14 ?k14 ?a15 ?pg15 ?pt15 ?pr15 ?l15 ?c15 ?k15 ?a16 ?i16 ?l16 ?c16 ?k16 ?a17 ?i17 ?l17 ?c17 ?k17 ?a18 ?i18 ?l18 ?c18 ?k18 ?a19 ?l19 ?c19 ?k19 ?a20 ?l20 ?c20 ?k20 ?a21 ?l21 ?c21 ?k21 ?a22 ?l22 ?c22 ?k22 ?a23 ?l23 ?c23 ?k23 ?a24 ?l24 ?c24 ?k24 ?a25 ?l25 ?c25 ?k25 ?a26 ?l26 ?c26 ?k26 ?a27 ?l27 ?c27 ?k27 ?a28 ?l28 ?c28 ?k28 ?a29 ?l29 ?c29 ?k29 ?a30 ?l30 ?c30 ?k30 ?a31 ?l31 ?c31 ?k31 ?a32 ?l32 ?c32 ?k32 ?pg_Matrix ?hd_Matrix ?po_Matrix ?sa_Matrix ?mk_Matrix ?kc_Matrix ?dc_Matrix ?do_Matrix ?na_Matrix_base ?na_Matrix_width ?na_Matrix_rows ?pg_Row ?hd_Row ?po_Row ?sa_Row ?mk_Row ?kc_Row ?dc_Row ?do_Row ?na_Row_base ?na_Row_dims ?na_Row_steps ?xq_WovenError ?xk_WovenError ?xt_WovenError ?xf_WovenError ?xv_WovenError ?x1_WovenError ?x2_WovenError ?x3_WovenError ?x4_WovenError ?x5_WovenError ?x8_WovenError ?sb_WovenError_WovenError ?sb_WovenError_InvalidMatrix ?sb_WovenError_InvalidTime ?sb_WovenError_InvalidRow ?xq_InvalidMatrix ?xk_InvalidMatrix ?xt_InvalidMatrix ?xf_InvalidMatrix ?xv_InvalidMatrix ?x1_InvalidMatrix ?x2_InvalidMatrix ?x3_InvalidMatrix ?x4_InvalidMatrix ?x5_InvalidMatrix ?x8_InvalidMatrix ?sb_InvalidMatrix_WovenError ?sb_InvalidMatrix_InvalidMatrix ?sb_InvalidMatrix_InvalidTime ?sb_InvalidMatrix_InvalidRow ?xq_InvalidTime ?xk_InvalidTime ?xt_InvalidTime ?xf_InvalidTime ?xv_InvalidTime ?x1_InvalidTime ?x2_InvalidTime ?x3_InvalidTime ?x4_InvalidTime ?x5_InvalidTime ?x8_InvalidTime ?sb_InvalidTime_WovenError ?sb_InvalidTime_InvalidMatrix ?sb_InvalidTime_InvalidTime ?sb_InvalidTime_InvalidRow ?xq_InvalidRow ?xk_InvalidRow ?xt_InvalidRow ?xf_InvalidRow ?xv_InvalidRow ?x1_InvalidRow ?x2_InvalidRow ?x3_InvalidRow ?x4_InvalidRow ?x5_InvalidRow ?x8_InvalidRow ?sb_InvalidRow_WovenError ?sb_InvalidRow_InvalidMatrix ?sb_InvalidRow_InvalidTime ?sb_InvalidRow_InvalidRow ?x6 ?x7 ?rd_Matrix ?ga_Matrix ?sf_Matrix ?ty_Matrix ?sf_Row ?ty_Row ?g_LARGEST_BASE ?z_ValueError ?z_abs ?z_all ?z_bool ?z_enumerate ?z_int ?z_isinstance ?z_len ?z_list ?z_min ?z_property ?z_range ?z_staticmethod ?z_str ?z_sum ?z_tuple ?z_zip
    (case aC_Row => k_is)
    (case aC_Matrix => k_is)
    (case aC_InvalidRow => k_is)
    (case aC_InvalidTime => k_is)
    (case aC_InvalidMatrix => k_is)
    (case aC_WovenError => k_is)
    (case a0 => k_is)
    (case l0 => k_is)
    (case c0 => k_is)
    (case k0 => k_is)
    (case a1 => k_is)
    (case l1 => k_is)
    (case c1 => k_is)
    (case k1 => k_is)
    (case a2 => k_is)
    (case i2 => k_is)
    (case l2 => k_is)
    (case c2 => k_is)
    (case k2 => k_is)
    (case a3 => k_is)
    (case pr3 => k_is)
    (case l3 => k_is)
    (case c3 => k_is)
    (case k3 => k_is)
    (case a4 => k_is)
    (case pr4 => k_is)
    (case l4 => k_is)
    (case c4 => k_is)
    (case k4 => k_is)
    (case a5 => k_is)
    (case pg5 => k_is)
    (case pt5 => k_is)
    (case pr5 => k_is)
    (case l5 => k_is)
    (case c5 => k_is)
    (case k5 => k_is)
    (case a6 => k_is)
    (case i6 => k_is)
    (case l6 => k_is)
    (case c6 => k_is)
    (case k6 => k_is)
    (case a7 => k_is)
    (case i7 => k_is)
    (case l7 => k_is)
    (case c7 => k_is)
    (case k7 => k_is)
    (case a8 => k_is)
    (case i8 => k_is)
    (case l8 => k_is)
    (case c8 => k_is)
    (case k8 => k_is)
    (case a9 => k_is)
    (case i9 => k_is)
    (case l9 => k_is)
    (case c9 => k_is)
    (case k9 => k_is)
    (case a10 => k_is)
    (case i10 => k_is)
    (case l10 => k_is)
    (case c10 => k_is)
    (case k10 => k_is)
    (case a11 => k_is)
    (case i11 => k_is)
    (case l11 => k_is)
    (case c11 => k_is)
    (case k11 => k_is)
    (case a12 => k_is)
    (case i12 => k_is)
    (case l12 => k_is)
    (case c12 => k_is)
    (case k12 => k_is)
    (case a13 => k_is)
    (case l13 => k_is)
    (case c13 => k_is)
    (case k13 => k_is)
    (case a14 => k_is)
    (case i14 => k_is)
    (case l14 => k_is)
    (case c14 => k_is)
    (case k14 => k_is)
    (case a15 => k_is)
    (case pg15 => k_is)
    (case pt15 => k_is)
    (case pr15 => k_is)
    (case l15 => k_is)
    (case c15 => k_is)
    (case k15 => k_is)
    (case a16 => k_is)
    (case i16 => k_is)
    (case l16 => k_is)
    (case c16 => k_is)
    (case k16 => k_is)
    (case a17 => k_is)
    (case i17 => k_is)
    (case l17 => k_is)
    (case c17 => k_is)
    (case k17 => k_is)
    (case a18 => k_is)
    (case i18 => k_is)
    (case l18 => k_is)
    (case c18 => k_is)
    (case k18 => k_is)
    (case a19 => k_is)
    (case l19 => k_is)
    (case c19 => k_is)
    (case k19 => k_is)
    (case a20 => k_is)
    (case l20 => k_is)
    (case c20 => k_is)
    (case k20 => k_is)
    (case a21 => k_is)
    (case l21 => k_is)
    (case c21 => k_is)
    (case k21 => k_is)
    (case a22 => k_is)
    (case l22 => k_is)
    (case c22 => k_is)
    (case k22 => k_is)
    (case a23 => k_is)
    (case l23 => k_is)
    (case c23 => k_is)
    (case k23 => k_is)
    (case a24 => k_is)
    (case l24 => k_is)
    (case c24 => k_is)
    (case k24 => k_is)
    (case a25 => k_is)
    (case l25 => k_is)
    (case c25 => k_is)
    (case k25 => k_is)
    (case a26 => k_is)
    (case l26 => k_is)
    (case c26 => k_is)
    (case k26 => k_is)
    (case a27 => k_is)
    (case l27 => k_is)
    (case c27 => k_is)
    (case k27 => k_is)
    (case a28 => k_is)
    (case l28 => k_is)
    (case c28 => k_is)
    (case k28 => k_is)
    (case a29 => k_is)
    (case l29 => k_is)
    (case c29 => k_is)
    (case k29 => k_is)
    (case a30 => k_is)
    (case l30 => k_is)
    (case c30 => k_is)
    (case k30 => k_is)
    (case a31 => k_is)
    (case l31 => k_is)
    (case c31 => k_is)
    (case k31 => k_is)
    (case a32 => k_is)
    (case l32 => k_is)
    (case c32 => k_is)
    (case k32 => k_is)
    (case pg_Matrix => k_is)
    (case hd_Matrix => k_is)
    (case po_Matrix => k_is)
    (case sa_Matrix => k_is)
    (case mk_Matrix => k_is)
    (case kc_Matrix => k_is)
    (case dc_Matrix => k_is)
    (case do_Matrix => k_is)
    (case na_Matrix_base => k_is)
    (case na_Matrix_width => k_is)
    (case na_Matrix_rows => k_is)
    (case pg_Row => k_is)
    (case hd_Row => k_is)
    (case po_Row => k_is)
    (case sa_Row => k_is)
    (case mk_Row => k_is)
    (case kc_Row => k_is)
    (case dc_Row => k_is)
    (case do_Row => k_is)
    (case na_Row_base => k_is)
    (case na_Row_dims => k_is)
    (case na_Row_steps => k_is)
    (case xq_WovenError => k_exc)
    (case xk_WovenError => k_is)
    (case xt_WovenError => k_is)
    (case xf_WovenError => k_is)
    (case xv_WovenError => k_is)
    (case x1_WovenError => k_is)
    (case x2_WovenError => k_is)
    (case x3_WovenError => k_is)
    (case x4_WovenError => k_is)
    (case x5_WovenError => k_is)
    (case x8_WovenError => k_is)
    (case sb_WovenError_WovenError => k_is)
    (case sb_WovenError_InvalidMatrix => k_is)
    (case sb_WovenError_InvalidTime => k_is)
    (case sb_WovenError_InvalidRow => k_is)
    (case xq_InvalidMatrix => k_exc)
    (case xk_InvalidMatrix => k_is)
    (case xt_InvalidMatrix => k_is)
    (case xf_InvalidMatrix => k_is)
    (case xv_InvalidMatrix => k_is)
    (case x1_InvalidMatrix => k_is)
    (case x2_InvalidMatrix => k_is)
    (case x3_InvalidMatrix => k_is)
    (case x4_InvalidMatrix => k_is)
    (case x5_InvalidMatrix => k_is)
    (case x8_InvalidMatrix => k_is)
    (case sb_InvalidMatrix_WovenError => k_is)
    (case sb_InvalidMatrix_InvalidMatrix => k_is)
    (case sb_InvalidMatrix_InvalidTime => k_is)
    (case sb_InvalidMatrix_InvalidRow => k_is)
    (case xq_InvalidTime => k_exc)
    (case xk_InvalidTime => k_is)
    (case xt_InvalidTime => k_is)
    (case xf_InvalidTime => k_is)
    (case xv_InvalidTime => k_is)
    (case x1_InvalidTime => k_is)
    (case x2_InvalidTime => k_is)
    (case x3_InvalidTime => k_is)
    (case x4_InvalidTime => k_is)
    (case x5_InvalidTime => k_is)
    (case x8_InvalidTime => k_is)
    (case sb_InvalidTime_WovenError => k_is)
    (case sb_InvalidTime_InvalidMatrix => k_is)
    (case sb_InvalidTime_InvalidTime => k_is)
    (case sb_InvalidTime_InvalidRow => k_is)
    (case xq_InvalidRow => k_exc)
    (case xk_InvalidRow => k_is)
    (case xt_InvalidRow => k_is)
    (case xf_InvalidRow => k_is)
    (case xv_InvalidRow => k_is)
    (case x1_InvalidRow => k_is)
    (case x2_InvalidRow => k_is)
    (case x3_InvalidRow => k_is)
    (case x4_InvalidRow => k_is)
    (case x5_InvalidRow => k_is)
    (case x8_InvalidRow => k_is)
    (case sb_InvalidRow_WovenError => k_is)
    (case sb_InvalidRow_InvalidMatrix => k_is)
    (case sb_InvalidRow_InvalidTime => k_is)
    (case sb_InvalidRow_InvalidRow => k_is)
    (case x6 => k_is)
    (case x7 => k_is)
    (case rd_Matrix => k_is)
    (case ga_Matrix => k_is)
    (case sf_Matrix => k_is)
    (case ty_Matrix => k_is)
    (case sf_Row => k_is)
    (case ty_Row => k_is)
    (case g_LARGEST_BASE => k_is)
    (case z_ValueError => k_is)
    (case z_abs => k_is)
    (case z_all => k_is)
    (case z_bool => k_is)
    (case z_enumerate => k_is)
    (case z_int => k_is)
    (case z_isinstance => k_is)
    (case z_len => k_is)
    (case z_list => k_is)
    (case z_min => k_is)
    (case z_property => k_is)
    (case z_range => k_is)
    (case z_staticmethod => k_is)
    (case z_str => k_is)
    (case z_sum => k_is)
    (case z_tuple => k_is)
    (case z_zip => k_is)
