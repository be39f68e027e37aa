import PyProof.Rows.All
import Wide.All
import OpenK.AllK
import Wide.FinOn
import HandS.ForMost
import HandS.IsInst
import HandS.Defaults
import HandS.Flow
import HandS.Walk
import PySem.Challenge.RW_barswoven_k33_near_and_long
set_option Elab.async false
set_option linter.all false
set_option maxRecDepth 100000
set_option maxHeartbeats 4000000
namespace B
open PySem L2

/-! ### data -/
inductive Dt where
  | non | bl (b : Bool) | int (i : Int) | str (x : Str) | lst (xs : List Dt) | tup (xs : List Dt) | ins (C : Addr) (fs : List (Str × Dt))

mutual
inductive Rp (K : PySem.W.Frag) (G : Hp) : V → Dt → Prop
  | non : Rp K G .non .non
  | bl (b : Bool) : Rp K G (.bl b) (.bl b)
  | int (i : Int) : Rp K G (.int i) (.int i)
  | str (x : Str) : Rp K G (.str x) (.str x)
  | lst {a : Addr} {xs : List V} {ds : List Dt} : SqL K G a xs → RpAll K G xs ds → Rp K G (.ref a) (.lst ds)
  | tup {a : Addr} {xs : List V} {ds : List Dt} : SqT K G a xs → RpAll K G xs ds → Rp K G (.ref a) (.tup ds)
  | ins {a C dx : Addr} {fs : List (Str × V)} {ds : List (Str × Dt)} : G a = some (.ins C dx fs) → RpF K G fs ds → Rp K G (.ref a) (.ins C ds)
inductive RpAll (K : PySem.W.Frag) (G : Hp) : List V → List Dt → Prop
  | nil : RpAll K G [] []
  | cons {v : V} {vs : List V} {d : Dt} {ds : List Dt} : Rp K G v d → RpAll K G vs ds → RpAll K G (v :: vs) (d :: ds)
inductive RpF (K : PySem.W.Frag) (G : Hp) : List (Str × V) → List (Str × Dt) → Prop
  | nil : RpF K G [] []
  | cons {f : Str} {v : V} {vs : List (Str × V)} {d : Dt} {ds : List (Str × Dt)} : Rp K G v d → RpF K G vs ds → RpF K G ((f, v) :: vs) ((f, d) :: ds)
end

theorem Same.l {K : PySem.W.Frag} {H H' : Hp} {a : Addr} {xs : List V} (e : Same H H') (h : SqL K H a xs) : SqL K H' a xs := e.seq h
theorem Same.t {K : PySem.W.Frag} {H H' : Hp} {a : Addr} {xs : List V} (e : Same H H') (h : SqT K H a xs) : SqT K H' a xs := by
  rcases h with (h | ⟨o, h⟩) | h
  · exact .inl (.inl (e _ _ h))
  · exact .inl (.inr ⟨o, e _ _ h⟩)
  · exact .inr h

section
variable {K : PySem.W.Frag} {G G' : Hp}
mutual
theorem Rp.mono (e : Same G G') : ∀ (d : Dt) (v : V), Rp K G v d → Rp K G' v d
  | .non, _, h => by cases h; exact .non
  | .bl b, _, h => by cases h; exact .bl _
  | .int i, _, h => by cases h; exact .int _
  | .str x, _, h => by cases h; exact .str _
  | .lst ds, _, h => by
    cases h with
    | lst hs ha => exact .lst (e.seq hs) (RpAll.mono e ds _ ha)
  | .tup ds, _, h => by
    cases h with
    | tup hs ha => exact .tup (Same.t e hs) (RpAll.mono e ds _ ha)
  | .ins C ds, _, h => by
    cases h with
    | ins hs ha => exact .ins (e _ _ hs) (RpF.mono e ds _ ha)
theorem RpAll.mono (e : Same G G') : ∀ (ds : List Dt) (vs : List V), RpAll K G vs ds → RpAll K G' vs ds
  | [], _, h => by cases h; exact .nil
  | d :: ds, _, h => by
    cases h with
    | cons h1 h2 => exact .cons (Rp.mono e d _ h1) (RpAll.mono e ds _ h2)
theorem RpF.mono (e : Same G G') : ∀ (ds : List (Str × Dt)) (vs : List (Str × V)), RpF K G vs ds → RpF K G' vs ds
  | [], _, h => by cases h; exact .nil
  | (f, d) :: ds, _, h => by
    cases h with
    | cons h1 h2 => exact .cons (Rp.mono e d _ h1) (RpF.mono e ds _ h2)
end
theorem Rp.up {v : V} {d : Dt} (e : Same G G') (h : Rp K G v d) : Rp K G' v d := Rp.mono e d v h
theorem RpAll.up {v : List V} {d : List Dt} (e : Same G G') (h : RpAll K G v d) : RpAll K G' v d := RpAll.mono e d v h
theorem RpF.up {v : List (Str × V)} {d : List (Str × Dt)} (e : Same G G') (h : RpF K G v d) : RpF K G' v d := RpF.mono e d v h

theorem Rp.non_inv {v : V} (h : Rp K G v .non) : v = .non := by cases h; rfl
theorem Rp.bl_inv {v : V} {b : Bool} (h : Rp K G v (.bl b)) : v = .bl b := by cases h; rfl
theorem Rp.int_inv {v : V} {b : Int} (h : Rp K G v (.int b)) : v = .int b := by cases h; rfl
theorem Rp.str_inv {v : V} {b : Str} (h : Rp K G v (.str b)) : v = .str b := by cases h; rfl
theorem Rp.lst_inv {v : V} {ds : List Dt} (h : Rp K G v (.lst ds)) : ∃ a xs, v = .ref a ∧ SqL K G a xs ∧ RpAll K G xs ds := by
  cases h with
  | lst h1 h2 => exact ⟨_, _, rfl, h1, h2⟩
theorem Rp.tup_inv {v : V} {ds : List Dt} (h : Rp K G v (.tup ds)) : ∃ a xs, v = .ref a ∧ SqT K G a xs ∧ RpAll K G xs ds := by
  cases h with
  | tup h1 h2 => exact ⟨_, _, rfl, h1, h2⟩
theorem Rp.ins_inv {v : V} {C : Addr} {ds : List (Str × Dt)} (h : Rp K G v (.ins C ds)) : ∃ a dx fs, v = .ref a ∧ G a = some (.ins C dx fs) ∧ RpF K G fs ds := by
  cases h with
  | ins h1 h2 => exact ⟨_, _, _, rfl, h1, h2⟩
theorem RpAll.length : ∀ {vs : List V} {ds : List Dt}, RpAll K G vs ds → vs.length = ds.length
  | _, [], h => by cases h; rfl
  | _, d :: ds, h => by
    cases h with
    | cons h1 h2 => exact congrArg Nat.succ (RpAll.length h2)
theorem RpAll.get : ∀ {vs : List V} {ds : List Dt} {i : Nat} {d : Dt}, RpAll K G vs ds → ds[i]? = some d → ∃ v, vs[i]? = some v ∧ Rp K G v d
  | _, [], i, d, h, e => by simp at e
  | _, d :: ds, 0, _, h, e => by
    cases h with
    | cons h1 h2 =>
      simp at e
      subst e
      exact ⟨_, rfl, h1⟩
  | _, d :: ds, i + 1, _, h, e => by
    cases h with
    | cons h1 h2 => exact RpAll.get (i := i) h2 (by simpa using e)
theorem RpAll.getV : ∀ {vs : List V} {ds : List Dt} {i : Nat} {v : V}, RpAll K G vs ds → vs[i]? = some v → ∃ d, ds[i]? = some d ∧ Rp K G v d
  | _, [], i, d, h, e => by cases h; simp at e
  | _, d :: ds, 0, _, h, e => by
    cases h with
    | cons h1 h2 =>
      simp at e
      subst e
      exact ⟨_, rfl, h1⟩
  | _, d :: ds, i + 1, _, h, e => by
    cases h with
    | cons h1 h2 => exact RpAll.getV (i := i) h2 (by simpa using e)
theorem RpAll.atI {vs : List V} {ds : List Dt} {i : Int} {d : Dt} (h : RpAll K G vs ds) (e : atI ds i = some d) : ∃ v, L2.atI vs i = some v ∧ Rp K G v d := by
  unfold L2.atI at e ⊢
  rw [h.length]
  cases hi : ixN ds.length i with
  | none => rw [hi] at e; cases e
  | some j =>
    rw [hi] at e
    exact h.get e
theorem RpAll.app {vs ws : List V} {ds es : List Dt} (h : RpAll K G vs ds) (h' : RpAll K G ws es) : RpAll K G (vs ++ ws) (ds ++ es) := by
  induction ds generalizing vs with
  | nil => cases h; exact h'
  | cons d ds ih =>
    cases h with
    | cons h1 h2 => exact .cons h1 (ih h2)
theorem RpAll.one {v : V} {d : Dt} (h : Rp K G v d) : RpAll K G [v] [d] := .cons h .nil
theorem RpAll.bls_inv : ∀ {vs : List V} {bs : List Bool}, RpAll K G vs (bs.map .bl) → vs = bs.map .bl
  | _, [], h => by cases h; rfl
  | _, b :: bs, h => by
    cases h with
    | cons h1 h2 => rw [Rp.bl_inv h1, RpAll.bls_inv h2]; rfl
theorem RpAll.ints_inv : ∀ {vs : List V} {bs : List Int}, RpAll K G vs (bs.map .int) → vs = bs.map .int
  | _, [], h => by cases h; rfl
  | _, b :: bs, h => by
    cases h with
    | cons h1 h2 => rw [Rp.int_inv h1, RpAll.ints_inv h2]; rfl
theorem RpAll.ints : ∀ {bs : List Int}, RpAll K G (bs.map .int) (bs.map .int)
  | [] => .nil
  | b :: bs => .cons (.int b) RpAll.ints
theorem RpAll.take (h : RpAll K G vs ds) (n : Nat) : RpAll K G (vs.take n) (ds.take n) := by
  induction ds generalizing vs n with
  | nil => cases h; simp; exact .nil
  | cons d ds ih =>
    cases h with
    | cons h1 h2 =>
      cases n with
      | zero => exact .nil
      | succ n => exact .cons h1 (ih h2 n)
theorem RpAll.drop (h : RpAll K G vs ds) (n : Nat) : RpAll K G (vs.drop n) (ds.drop n) := by
  induction ds generalizing vs n with
  | nil => cases h; simp; exact .nil
  | cons d ds ih =>
    cases h with
    | cons h1 h2 =>
      cases n with
      | zero => exact .cons h1 h2
      | succ n => exact ih h2 n
theorem RpAll.set {v : V} {d : Dt} (h : RpAll K G vs ds) (r : Rp K G v d) (n : Nat) : RpAll K G (vs.set n v) (ds.set n d) := by
  induction ds generalizing vs n with
  | nil => cases h; simp; exact .nil
  | cons e ds ih =>
    cases h with
    | cons h1 h2 =>
      cases n with
      | zero => exact .cons r h2
      | succ n => exact .cons h1 (ih h2 n)
/-- equal lengths and places -/
theorem RpAll.of_get {vs : List V} {ds : List Dt} (hl : vs.length = ds.length) (h : ∀ (i : Nat) v d, vs[i]? = some v → ds[i]? = some d → Rp K G v d) : RpAll K G vs ds := by
  induction ds generalizing vs with
  | nil =>
    cases vs with
    | nil => exact .nil
    | cons v vs => simp at hl
  | cons d ds ih =>
    cases vs with
    | nil => simp at hl
    | cons v vs =>
      refine .cons (h 0 v d rfl rfl) (ih (by simpa using hl) fun i v' d' h1 h2 => h (i + 1) v' d' (by simpa using h1) (by simpa using h2))
end

/-! ### the state -/
structure Adv (D : List Addr) (G H G' H' : Hp) : Prop where
  gg : Same G G'
  gh : Same G' H'
  fr : ∀ a, H a ≠ none → G' a = G a
  kp : ∀ a o, H a = some o → a ∉ D → H' a = some o
  up : ∀ a, H a ≠ none → H' a ≠ none

structure Sta (K : PySem.W.Frag) (G0 H0 : Hp) (D : List Addr) (G : Hp) (M : List (Addr × HO)) (H : Hp) : Prop where
  g0 : Same G0 G
  gh : Same G H
  fr : ∀ a, H0 a ≠ none → G a = G0 a
  kp : ∀ a o, H0 a = some o → a ∉ D → H a = some o
  up : ∀ a, H0 a ≠ none → H a ≠ none
  md : (M.map (·.1)).Nodup
  mh : ∀ q ∈ M, H q.1 = some q.2 ∧ G q.1 = none ∧ (q.1 ∈ D ∨ H0 q.1 = none)

section
variable {K : PySem.W.Frag} {G0 H0 G H G1 H1 : Hp} {D : List Addr} {M : List (Addr × HO)} {p : Addr} {o : HO}
theorem same_upd {H : Hp} {p : Addr} {o : HO} (h : H p = none) : Same H (upd H p o) := fun b x e => by
  rw [upd_ne (ne_of_none e h)]
  exact e
theorem same_upd2 {G H : Hp} {p : Addr} {o : HO} (e : Same G H) : Same (upd G p o) (upd H p o) := fun b x h => by
  by_cases hb : b = p
  · subst hb
    rw [upd_same] at h ⊢
    exact h
  · rw [upd_ne hb] at h ⊢
    exact e _ _ h
theorem same_updR {G H : Hp} {p : Addr} {o : HO} (e : Same G H) (h : G p = none) : Same G (upd H p o) := fun b x hb => by
  rw [upd_ne (ne_of_none hb h)]
  exact e _ _ hb
theorem Sta.adv (h : Sta K G0 H0 D G M H) : Adv D G0 H0 G H := ⟨h.g0, h.gh, h.fr, h.kp, h.up⟩
theorem Sta.start (e : Same G H) : Sta K G H [] G [] H :=
  ⟨Same.refl G, e, fun _ _ => rfl, fun _ _ h _ => h, fun _ h => h, by simp, fun q hq => by simp at hq⟩
theorem Sta.start1 (e : Same G H) (hp : H p = some o) (hg : G p = none) : Sta K G H [p] G [(p, o)] H :=
  ⟨Same.refl G, e, fun _ _ => rfl, fun _ _ h _ => h, fun _ h => h, by simp, fun q hq => by
    simp at hq
    subst hq
    exact ⟨hp, hg, .inl (by simp)⟩⟩
theorem Sta.h0 (h : Sta K G0 H0 D G M H) (hp : H p = none) : H0 p = none := by
  cases e : H0 p with
  | none => rfl
  | some u => exact absurd hp (h.up p (by rw [e]; exact fun z => nomatch z))
theorem Sta.gn (h : Sta K G0 H0 D G M H) (hp : H p = none) : G p = none := h.gh.free hp
theorem Sta.mn (h : Sta K G0 H0 D G M H) (hp : H p = none) : ∀ q ∈ M, q.1 ≠ p := fun q hq e => by
  have := (h.mh q hq).1
  rw [e, hp] at this
  cases this
/-- a new object that never changes -/
theorem Sta.imm (h : Sta K G0 H0 D G M H) (hp : H p = none) (o : HO) : Sta K G0 H0 D (upd G p o) M (upd H p o) where
  g0 := h.g0.trans (same_upd (h.gn hp))
  gh := same_upd2 h.gh
  fr := fun a ha => by
    have : a ≠ p := fun e => ha (by rw [e]; exact h.h0 hp)
    rw [upd_ne this]
    exact h.fr a ha
  kp := fun a u ha hd => by
    rw [upd_ne (ne_of_none ha (h.h0 hp))]
    exact h.kp a u ha hd
  up := fun a ha => by
    have : a ≠ p := fun e => ha (by rw [e]; exact h.h0 hp)
    rw [upd_ne this]
    exact h.up a ha
  md := h.md
  mh := fun q hq => by
    have := h.mn hp q hq
    rw [upd_ne this, upd_ne this]
    exact h.mh q hq
/-- a new object that will change -/
theorem Sta.mut (h : Sta K G0 H0 D G M H) (hp : H p = none) (o : HO) : Sta K G0 H0 D G ((p, o) :: M) (upd H p o) where
  g0 := h.g0
  gh := same_updR h.gh (h.gn hp)
  fr := h.fr
  kp := fun a u ha hd => by
    rw [upd_ne (ne_of_none ha (h.h0 hp))]
    exact h.kp a u ha hd
  up := fun a ha => by
    have : a ≠ p := fun e => ha (by rw [e]; exact h.h0 hp)
    rw [upd_ne this]
    exact h.up a ha
  md := by
    simp only [List.map_cons, List.nodup_cons]
    exact ⟨fun hm => by
      obtain ⟨q, hq, e⟩ := List.mem_map.mp hm
      exact h.mn hp q hq e, h.md⟩
  mh := fun q hq => by
    rcases List.mem_cons.mp hq with rfl | hq
    · exact ⟨upd_same, h.gn hp, .inr (h.h0 hp)⟩
    · rw [upd_ne (h.mn hp q hq)]
      exact h.mh q hq
theorem Sta.get (h : Sta K G0 H0 D G M H) {i : Nat} (hi : M[i]? = some (p, o)) : H p = some o := (h.mh _ (List.mem_of_getElem? hi)).1
theorem nd_at {α β : Type} {M : List (α × β)} (nd : (M.map (·.1)).Nodup) {i j : Nat} {p q : α × β} (hi : M[i]? = some p) (hj : M[j]? = some q) (e : p.1 = q.1) : i = j := by
  have h1 : (M.map (·.1))[i]? = some p.1 := by rw [List.getElem?_map, hi]; rfl
  have h2 : (M.map (·.1))[j]? = some q.1 := by rw [List.getElem?_map, hj]; rfl
  exact L2.nd_ix nd h1 (by rw [e]; exact h2)
theorem set_keys {M : List (Addr × HO)} {i : Nat} {p : Addr} {o u : HO} (hi : M[i]? = some (p, o)) : (M.set i (p, u)).map (·.1) = M.map (·.1) := by
  rw [List.map_set]
  apply List.ext_getElem?
  intro j
  rw [List.getElem?_set]
  split
  · rename_i e
    subst e
    split
    · rw [List.getElem?_map, hi]; rfl
    · rename_i hn
      have := (List.getElem?_eq_some_iff.mp hi).1
      simp at hn
      omega
  · rfl
theorem set_mem {M : List (Addr × HO)} {i : Nat} {p : Addr} {o u : HO} (nd : (M.map (·.1)).Nodup) (hi : M[i]? = some (p, o)) {q : Addr × HO} (hq : q ∈ M.set i (p, u)) : q = (p, u) ∨ (q ∈ M ∧ q.1 ≠ p) := by
  obtain ⟨j, hj⟩ := List.mem_iff_getElem?.mp hq
  rw [List.getElem?_set] at hj
  split at hj
  · split at hj
    · exact .inl (Option.some.inj hj).symm
    · cases hj
  · rename_i hne
    refine .inr ⟨List.mem_of_getElem? hj, fun e => hne ?_⟩
    exact nd_at nd hi hj e.symm
/-- an object that may change is written -/
theorem Sta.set (h : Sta K G0 H0 D G M H) {i : Nat} (hi : M[i]? = some (p, o)) (u : HO) : Sta K G0 H0 D G (M.set i (p, u)) (upd H p u) where
  g0 := h.g0
  gh := same_updR h.gh (h.mh _ (List.mem_of_getElem? hi)).2.1
  fr := h.fr
  kp := fun a v ha hd => by
    have : a ≠ p := fun e => by
      subst e
      rcases (h.mh _ (List.mem_of_getElem? hi)).2.2 with z | z
      · exact hd z
      · have z' : H0 a = none := z
        rw [ha] at z'
        cases z'
    rw [upd_ne this]
    exact h.kp a v ha hd
  up := fun a ha => by
    by_cases e : a = p
    · rw [e, upd_same]; exact fun z => nomatch z
    · rw [upd_ne e]; exact h.up a ha
  md := by rw [set_keys hi]; exact h.md
  mh := fun q hq => by
    rcases set_mem h.md hi hq with rfl | ⟨hm, hn⟩
    · exact ⟨upd_same, (h.mh _ (List.mem_of_getElem? hi)).2⟩
    · rw [upd_ne hn]
      exact h.mh q hm
/-- the first of what may change will not change any more -/
theorem Sta.frz (h : Sta K G0 H0 D G ((p, o) :: M) H) (h0 : H0 p = none) : Sta K G0 H0 D (upd G p o) M H ∧ Same G (upd G p o) := by
  have hm := h.mh _ List.mem_cons_self
  have hmn : ∀ q ∈ M, q.1 ≠ p := fun q hq e => by
    have := h.md
    simp only [List.map_cons, List.nodup_cons] at this
    exact this.1 (List.mem_map.mpr ⟨q, hq, e⟩)
  have sg : Same G (upd G p o) := same_upd hm.2.1
  refine ⟨⟨h.g0.trans sg, fun b x e => ?_, fun a ha => ?_, h.kp, h.up, ?_, fun q hq => ?_⟩, sg⟩
  · by_cases hb : b = p
    · subst hb
      rw [upd_same] at e
      cases e
      exact hm.1
    · rw [upd_ne hb] at e
      exact h.gh _ _ e
  · have : a ≠ p := fun e => ha (by rw [e]; exact h0)
    rw [upd_ne this]
    exact h.fr a ha
  · have := h.md
    simp only [List.map_cons, List.nodup_cons] at this
    exact this.2
  · rw [upd_ne (hmn q hq)]
    exact h.mh q (List.mem_cons_of_mem _ hq)
theorem Sta.frzL (h : Sta K G0 H0 D G ((p, .lst xs) :: M) H) (h0 : H0 p = none) (hx : RpAll K G xs ds) : ∃ G1, Same G G1 ∧ Sta K G0 H0 D G1 M H ∧ Rp K G1 (.ref p) (.lst ds) := by
  obtain ⟨h1, e⟩ := h.frz h0
  exact ⟨_, e, h1, .lst (.inl (.inl upd_same)) (hx.up e)⟩
/-- the first of what may change is forgotten (it was the def's own) -/
theorem Sta.pop (h : Sta K G0 H0 D G ((p, o) :: M) H) : Sta K G0 H0 D G M H :=
  ⟨h.g0, h.gh, h.fr, h.kp, h.up, by
    have := h.md
    simp only [List.map_cons, List.nodup_cons] at this
    exact this.2, fun q hq => h.mh q (List.mem_cons_of_mem _ hq)⟩
/-- a call that changes nothing that stood -/
theorem Sta.call (h : Sta K G0 H0 D G M H) (a : Adv [] G H G1 H1) : Sta K G0 H0 D G1 M H1 where
  g0 := h.g0.trans a.gg
  gh := a.gh
  fr := fun b hb => by rw [a.fr b (h.up b hb)]; exact h.fr b hb
  kp := fun b u hb hd => a.kp b u (h.kp b u hb hd) (by simp)
  up := fun b hb => a.up b (h.up b hb)
  md := h.md
  mh := fun q hq => by
    obtain ⟨e1, e2, e3⟩ := h.mh q hq
    exact ⟨a.kp _ _ e1 (by simp), by rw [a.fr _ (by rw [e1]; exact fun z => nomatch z)]; exact e2, e3⟩
/-- a call that changes one thing that may change -/
theorem Sta.callM (h : Sta K G0 H0 D G M H) {i : Nat} {u : HO} (hi : M[i]? = some (p, o)) (a : Adv [p] G H G1 H1) (hp : H1 p = some u) : Sta K G0 H0 D G1 (M.set i (p, u)) H1 where
  g0 := h.g0.trans a.gg
  gh := a.gh
  fr := fun b hb => by rw [a.fr b (h.up b hb)]; exact h.fr b hb
  kp := fun b v hb hd => by
    have : b ≠ p := fun e => by
      subst e
      rcases (h.mh _ (List.mem_of_getElem? hi)).2.2 with z | z
      · exact hd z
      · have z' : H0 b = none := z
        rw [hb] at z'
        cases z'
    exact a.kp b v (h.kp b v hb hd) (by simpa using this)
  up := fun b hb => a.up b (h.up b hb)
  md := by rw [set_keys hi]; exact h.md
  mh := fun q hq => by
    rcases set_mem h.md hi hq with rfl | ⟨hm, hn⟩
    · obtain ⟨e1, e2, e3⟩ := h.mh _ (List.mem_of_getElem? hi)
      exact ⟨hp, by rw [a.fr _ (by rw [e1]; exact fun z => nomatch z)]; exact e2, e3⟩
    · obtain ⟨e1, e2, e3⟩ := h.mh q hm
      exact ⟨a.kp _ _ e1 (by simpa using hn), by rw [a.fr _ (by rw [e1]; exact fun z => nomatch z)]; exact e2, e3⟩
end
end B
namespace B
open PySem L2

theorem sz {n : Nat} (h : n ≤ 100000) : n ≤ sizeLine := Nat.le_trans h (by decide)
/-! ### the readings' parts by names (the wish stays an argument) -/
def NT (Q : VK) (xs : List V) (H : Hp) : Prop := xs.length ≤ sizeLine ∧ ∀ p, H p = none → Q (.ref p) (upd H p (.tup xs))
def NL (Q : VK) (xs : List V) (H : Hp) : Prop := xs.length ≤ sizeLine ∧ ∀ p, H p = none → Q (.ref p) (upd H p (.lst xs))
def TK (P : Bool → Hp → Prop) (x : V) (H : Hp) : Prop := ∃ k, x = .bl k ∧ P k H
def TKA (A B : Hp → Prop) (x : V) (H : Hp) : Prop := ∃ k, x = .bl k ∧ if k = true then A H else B H
def RK1 (k : It → Hp → Prop) (vs : List V) (H : Hp) : Prop := ∃ j : Int, vs = [.int j] ∧ -(2 ^ 62) ≤ j ∧ j < 2 ^ 62 ∧ k (Itr 0 j.toNat) H
def RK2 (k : It → Hp → Prop) (vs : List V) (H : Hp) : Prop := ∃ i j : Int, vs = [.int i, .int j] ∧ (-(2 ^ 62) ≤ i ∧ i < 2 ^ 62 ∧ -(2 ^ 62) ≤ j ∧ j < 2 ^ 62) ∧ k (Itr i (j - i).toNat) H
def LK (K : PySem.W.Frag) (k : It → Hp → Prop) (x : V) (H : Hp) : Prop := ∃ a, x = .ref a ∧ (∃ xs, SqL K H a xs) ∧ k (Itl K a) H
def FK (K : PySem.W.Frag) (f : Str) (Q : VK) (x : V) (H : Hp) : Prop := ∃ a C dx fs v, x = .ref a ∧ H a = some (.ins C dx fs) ∧ Cls K C ∧ NoAttr K C f ∧ fs.lookup f = some v ∧ Q v H
def CN (n m : Nat) (sp : Sp) (gV : List V → List V → List V) (Q : VK) (E : XK) (vs zs : List V) (H : Hp) : Prop := vs.length = n ∧ zs.length = m ∧ sp (gV vs zs) H Q E
def P2 (p : L2.St → Hp → Prop) (σ : L2.St) (i j : Nat) (vs : List V) (H : Hp) : Prop := ∃ v w, vs = [v, w] ∧ p ((σ.set i (some v)).set j (some w)) H
def BMK (K : PySem.W.Frag) (T : String) (k : Hp → Prop) (x : V) (H : Hp) : Prop := tyV K T x H ∧ k H
def rAbs_ : List V → Hp → VK → Prop := fun xs H Q => ∃ i, xs = [.int i] ∧ Q (.int (if i < 0 then -i else i)) H
def rMax2_ : List V → Hp → VK → Prop := fun xs H Q => ∃ i j, xs = [.int i, .int j] ∧ Q (.int (if j > i then j else i)) H
def rMin2_ : List V → Hp → VK → Prop := fun xs H Q => ∃ i j, xs = [.int i, .int j] ∧ Q (.int (if j < i then j else i)) H
def rInt_ : List V → Hp → VK → Prop := fun xs H Q => (∃ i, xs = [.int i] ∧ Q (.int i) H) ∨ ∃ k, xs = [.bl k] ∧ Q (.int (if k then 1 else 0)) H
def rLen_ (K : PySem.W.Frag) : List V → Hp → VK → Prop := fun xs H Q => ∃ p ys, xs = [.ref p] ∧ (SqL K H p ys ∨ SqT K H p ys) ∧ Q (.int ys.length) H
def rLenS_ : List V → Hp → VK → Prop := fun xs H Q => ∃ z, xs = [.str z] ∧ z.length ≤ sizeLine ∧ Q (.int z.length) H
def rListOf_ (K : PySem.W.Frag) : List V → Hp → VK → Prop := fun xs H Q => ∃ p ys, xs = [.ref p] ∧ (SqL K H p ys ∨ SqT K H p ys) ∧ ∀ l, H l = none → Q (.ref l) (upd H l (.lst ys))
def rTupOf_ (K : PySem.W.Frag) : List V → Hp → VK → Prop := fun xs H Q => ∃ p ys, xs = [.ref p] ∧ ((SqL K H p ys ∧ ∀ l, H l = none → Q (.ref l) (upd H l (.tup ys))) ∨ (SqT K H p ys ∧ Q (.ref p) H))
def rIsN_ : R2 := fun x y H Q => y = .non ∧ Q (.bl (decide (x = .non))) H
def rNotN_ : R2 := fun x y H Q => y = .non ∧ Q (.bl (!decide (x = .non))) H
def rTru_ (K : PySem.W.Frag) (P : Bool → Hp → Prop) (x : V) (H : Hp) : Prop := ∃ k, TruV K x H k ∧ P k H
def tTru_ (K : PySem.W.Frag) (ta : TE) : TT := fun σ H Q => ta σ H fun x H' => rTru_ K Q x H'
section
variable {X : Cx}
theorem b_abs : CallR X (.builtin "abs") rAbs_ := call_abs
theorem b_max (hc : X.calm = true) : CallR X (.builtin "max") rMax2_ := call_max2 hc
theorem b_min (hc : X.calm = true) : CallR X (.builtin "min") rMin2_ := call_min2 hc
theorem b_int : CallR X (.type "int") rInt_ := call_int1
theorem b_len : CallR X (.builtin "len") (rLen_ X.K) := call_len_seq
theorem b_lenS : CallR X (.builtin "len") rLenS_ := call_len_str
theorem b_list : CallR X (.type "list") (rListOf_ X.K) := call_list_of
theorem b_tuple : CallR X (.type "tuple") (rTupOf_ X.K) := call_tuple_of
theorem o_isN : OpR X (compareOp .Is) rIsN_ := op_isN
theorem o_notN : OpR X (compareOp .IsNot) rNotN_ := op_notN
theorem pt_tru {a : Expr} {ta : TE} (ha : PE X a ta) (he : ∀ whole, isTrue a X.env whole = (do let v ← whole; standAt a.pos; holding [v] (truthy v)) := by intro _; rfl) : PT X a (tTru_ X.K ta) := pt_truth ha he
end

theorem mi0 {M : List (Addr × HO)} {q : Addr × HO} (h : M[0]? = some q) : M[0]? = some q := h
theorem mi1 {M : List (Addr × HO)} {q : Addr × HO} (h : M[1]? = some q) : M[1]? = some q := h
theorem mi2 {M : List (Addr × HO)} {q : Addr × HO} (h : M[2]? = some q) : M[2]? = some q := h
theorem mi3 {M : List (Addr × HO)} {q : Addr × HO} (h : M[3]? = some q) : M[3]? = some q := h
/-! ### one step each: the reading's head is taken off -/
section
variable {K : PySem.W.Frag} {G0 H0 G H : Hp} {D : List Addr} {M : List (Addr × HO)} {σ σ' : L2.St} {Q : VK} {nx bk ct : L2.St → Hp → Prop} {rt : VK} {t u : TS} {c c' : TT} {ta tb te : TE} {x y v : V} {d : Dt} {ds : List Dt} {P : Bool → Hp → Prop} {R : List V → Hp → Prop} {i : Nat} {b : Bool}
theorem go_σ {p : L2.St → Hp → Prop} (e : List.set σ i (some x) = σ') (h : p σ' H) : p (List.set σ i (some x)) H := by rw [e]; exact h
theorem go_start {N : List Str} {vs : List V} {De : Ends} (e : start N vs = σ) (h : t De σ H) : t De (start N vs) H := by rw [e]; exact h
theorem go_seq (h : t ⟨u ⟨nx, rt, bk, ct⟩, rt, bk, ct⟩ σ H) : tSeq t u ⟨nx, rt, bk, ct⟩ σ H := h
theorem go_next (h : nx σ H) : tNext ⟨nx, rt, bk, ct⟩ σ H := h
theorem go_break (h : bk σ H) : tBreak ⟨nx, rt, bk, ct⟩ σ H := h
theorem go_cont (h : ct σ H) : tCont ⟨nx, rt, bk, ct⟩ σ H := h
theorem go_asg {g : TG} (h : te σ H fun x H1 => g x σ H1 nx) : tAsg te g ⟨nx, rt, bk, ct⟩ σ H := h
theorem go_gname {p : L2.St → Hp → Prop} (e : List.set σ i (some x) = σ') (h : p σ' H) : gName i x σ H p := by show p (List.set σ i (some x)) H; rw [e]; exact h
theorem go_aug {ti : TIp} (e : σ[i]? = some (some x)) (h : te σ H fun y H1 => ti x y H1 fun z H2 => nx (σ.set i (some z)) H2) : tAug i te ti ⟨nx, rt, bk, ct⟩ σ H := ⟨x, e, h⟩
theorem go_ipI {f : Int → Int → Int} {i j : Int} (h : Q (.int (f i j)) H) : ipI f (.int i) (.int j) H Q := ⟨i, j, rfl, rfl, h⟩
theorem go_ret (h : te σ H rt) : tRet te ⟨nx, rt, bk, ct⟩ σ H := h
theorem go_retN (h : rt .non H) : tRetN ⟨nx, rt, bk, ct⟩ σ H := h
theorem go_drop (h : te σ H fun _ H1 => nx σ H1) : tDrop te ⟨nx, rt, bk, ct⟩ σ H := h
theorem go_ifS (h : c σ H fun b H1 => if b = true then t ⟨nx, rt, bk, ct⟩ σ H1 else u ⟨nx, rt, bk, ct⟩ σ H1) : tIfS c t u ⟨nx, rt, bk, ct⟩ σ H := h
theorem go_par {i j : Nat} {t : TA} (h : t σ H fun vs H1 => P2 nx σ i j vs H1) : tPar i j t ⟨nx, rt, bk, ct⟩ σ H := h
theorem go_par2 {p : L2.St → Hp → Prop} {i j : Nat} (e : List.set (List.set σ i (some x)) j (some y) = σ') (h : p σ' H) : P2 p σ i j [x, y] H := ⟨x, y, rfl, by rw [e]; exact h⟩

theorem go_var (e : σ[i]? = some (some v)) (h : Q v H) : tVar i σ H Q := ⟨v, e, h⟩
theorem go_c (h : Q v H) : tC v σ H Q := h
theorem go_op {r : R2} (h : ta σ H fun x H1 => tb σ H1 fun y H2 => r x y H2 Q) : tOp r ta tb σ H Q := h
theorem go_un {r : V → Hp → VK → Prop} (h : ta σ H fun x H1 => r x H1 Q) : tUn r ta σ H Q := h
theorem go_rI0 {g : Int → Int → V} {i j : Int} (h : Q (g i j) H) : rI0 g (.int i) (.int j) H Q := ⟨i, j, rfl, rfl, h⟩
theorem go_rI {C : Int → Int → Prop} {g : Int → Int → V} {i j : Int} (hc : C i j) (h : Q (g i j) H) : rI C g (.int i) (.int j) H Q := ⟨i, j, rfl, rfl, hc, h⟩
theorem go_rU {g : Int → V} {i : Int} (h : Q (g i) H) : rU g (.int i) H Q := ⟨i, rfl, h⟩
theorem go_eqI {i j : Int} (h : Q (.bl (decide (i = j))) H) : rEq (.int i) (.int j) H Q := ⟨rfl, by
  have : decide (V.int i = V.int j) = decide (i = j) := by simp
  rw [this]; exact h⟩
theorem go_neI {i j : Int} (h : Q (.bl (!decide (i = j))) H) : rNe (.int i) (.int j) H Q := ⟨rfl, by
  have : decide (V.int i = V.int j) = decide (i = j) := by simp
  rw [this]; exact h⟩
theorem go_eqB {i j : Bool} (h : Q (.bl (decide (i = j))) H) : rEq (.bl i) (.bl j) H Q := ⟨rfl, by
  have : decide (V.bl i = V.bl j) = decide (i = j) := by simp
  rw [this]; exact h⟩
theorem go_neB {i j : Bool} (h : Q (.bl (!decide (i = j))) H) : rNe (.bl i) (.bl j) H Q := ⟨rfl, by
  have : decide (V.bl i = V.bl j) = decide (i = j) := by simp
  rw [this]; exact h⟩
theorem go_eqS {i j : Str} (h : Q (.bl (decide (i = j))) H) : rEq (.str i) (.str j) H Q := ⟨rfl, by
  have : decide (V.str i = V.str j) = decide (i = j) := by simp
  rw [this]; exact h⟩
theorem go_neS {i j : Str} (h : Q (.bl (!decide (i = j))) H) : rNe (.str i) (.str j) H Q := ⟨rfl, by
  have : decide (V.str i = V.str j) = decide (i = j) := by simp
  rw [this]; exact h⟩
theorem go_tIsN (h : ta σ H fun x H1 => Q (.bl (decide (x = .non))) H1) : tIsN ta σ H Q := h
theorem go_tNotN (h : ta σ H fun x H1 => Q (.bl (!decide (x = .non))) H1) : tNotN ta σ H Q := h
theorem isN_int {i : Int} : decide (V.int i = .non) = false := rfl
theorem isN_non : decide (V.non = .non) = true := rfl
theorem isN_ref {i : Addr} : decide (V.ref i = .non) = false := rfl
theorem isN_bl {i : Bool} : decide (V.bl i = .non) = false := rfl
theorem isN_str {i : Str} : decide (V.str i = .non) = false := rfl
theorem go_tTest (h : te σ H fun x H1 => TK P x H1) : tTest te σ H P := h
theorem go_tB (h : te σ H fun x H1 => TK P x H1) : tB te σ H P := h
theorem go_k (h : P b H) : TK P (.bl b) H := ⟨b, rfl, h⟩
theorem go_tAnd (h : c σ H fun b H1 => if b = true then c' σ H1 P else P false H1) : tAnd c c' σ H P := h
theorem go_tOr (h : c σ H fun b H1 => if b = true then P true H1 else c' σ H1 P) : tOr c c' σ H P := h
theorem go_tNot (h : c σ H fun b H1 => P (!b) H1) : tNot c σ H P := h
theorem go_tAndV (h : ta σ H fun x H1 => TKA (fun H2 => tb σ H2 Q) (fun H2 => Q (.bl false) H2) x H1) : tAndV ta tb σ H Q := h
theorem go_tOrV (h : ta σ H fun x H1 => TKA (fun H2 => Q (.bl true) H2) (fun H2 => tb σ H2 Q) x H1) : tOrV ta tb σ H Q := h
theorem go_tNotV (h : ta σ H fun x H1 => TK (fun k H2 => Q (.bl (!k)) H2) x H1) : tNotV ta σ H Q := h
theorem go_kand {A B : Hp → Prop} (h : if b = true then A H else B H) : TKA A B (.bl b) H := ⟨b, rfl, h⟩
theorem go_tIf (h : c σ H fun b H1 => if b = true then ta σ H1 Q else tb σ H1 Q) : tIf c ta tb σ H Q := h
theorem go_tYes (h : P true H) : tYes σ H P := h
theorem go_cons {tr : TA} (h : ta σ H fun x H1 => tr σ H1 fun xs H2 => R (x :: xs) H2) : tCons ta tr σ H R := h
theorem go_nil (h : R [] H) : tNil σ H R := h
theorem go_tCB {r : List V → Hp → VK → Prop} {t : TA} (h : t σ H fun vs H1 => r vs H1 Q) : tCB r t σ H Q := h
theorem go_call {sp : Sp} {dvs : List V} {E : XK} {t : TA} (h : t σ H fun vs H1 => sp (vs ++ dvs) H1 Q E) : tCall sp dvs E t σ H Q := h
theorem go_call0 {sp : Sp} {vs : List V} {E : XK} (h : sp vs H Q E) : sp (vs ++ []) H Q E := by rw [List.append_nil]; exact h
theorem go_callN {n m : Nat} {sp : Sp} {gV : List V → List V → List V} {E : XK} {t tk : TA} (h : t σ H fun vs H1 => tk σ H1 fun zs H2 => CN n m sp gV Q E vs zs H2) : tCallN n m sp gV E t tk σ H Q := h
theorem go_chain {r r' : R2} {tc : TE} (h : ta σ H fun x H1 => tb σ H1 fun y H2 => r x y H2 fun z H3 => TKA (fun H4 => tc σ H4 fun w H5 => r' y w H5 Q) (fun H4 => Q (.bl false) H4) z H3) : tChain r r' ta tb tc σ H Q := h
theorem go_ite {p : Prop} [Decidable p] {A B : Prop} (h1 : p → A) (h2 : ¬ p → B) : if decide p = true then A else B := by
  by_cases h : p
  · rw [if_pos (decide_eq_true h)]; exact h1 h
  · rw [if_neg (by simpa using h)]; exact h2 h
theorem go_iteN {p : Prop} [Decidable p] {A B : Prop} (h1 : ¬ p → A) (h2 : p → B) : if (!decide p) = true then A else B := by
  by_cases h : p
  · rw [if_neg (by simpa using h)]; exact h2 h
  · rw [if_pos (by simpa using h)]; exact h1 h
theorem go_iteT {A B : Prop} (h : A) : if true = true then A else B := by rw [if_pos rfl]; exact h
theorem go_iteF {A B : Prop} (h : B) : if false = true then A else B := by rw [if_neg (by decide)]; exact h
theorem go_iteX1 {A B : Prop} (e : b = true) (h : A) : if b = true then A else B := by rw [if_pos e]; exact h
theorem go_iteX0 {A B : Prop} (e : b = false) (h : B) : if b = true then A else B := by rw [if_neg (by rw [e]; decide)]; exact h
theorem go_iteB {A B : Prop} (h1 : b = true → A) (h2 : b = false → B) : if b = true then A else B := by
  cases b with
  | true => rw [if_pos rfl]; exact h1 rfl
  | false => rw [if_neg (by decide)]; exact h2 rfl
theorem go_iteBN {A B : Prop} (h1 : b = false → A) (h2 : b = true → B) : if (!b) = true then A else B := by
  cases b with
  | true => show if false = true then A else B; rw [if_neg (by decide)]; exact h2 rfl
  | false => show if true = true then A else B; rw [if_pos rfl]; exact h1 rfl

/-! ### items -/
theorem go_ixT {n : Int} (hx : Rp K G x (.tup ds)) (e : Same G H) (hi : atI ds n = some d) (k : ∀ v, Rp K G v d → Q v H) : rIxT K x (.int n) H Q := by
  obtain ⟨a, xs, rfl, hs, ha⟩ := Rp.tup_inv hx
  obtain ⟨v, hv, hr⟩ := ha.atI hi
  exact ⟨a, xs, n, v, rfl, rfl, Same.t e hs, hv, k v hr⟩
theorem go_ixL {n : Int} (hx : Rp K G x (.lst ds)) (e : Same G H) (hi : atI ds n = some d) (k : ∀ v, Rp K G v d → Q v H) : rIxL K x (.int n) H Q := by
  obtain ⟨a, xs, rfl, hs, ha⟩ := Rp.lst_inv hx
  obtain ⟨v, hv, hr⟩ := ha.atI hi
  exact ⟨a, xs, n, v, rfl, rfl, e.seq hs, hv, k v hr⟩
theorem go_ixA {n : Int} (hx : Rp K G x (.tup ds)) (e : Same G H) (hi : atI ds n = some d) (k : ∀ v, Rp K G v d → Q v H) : rIx K x (.int n) H Q := .inr (.inl (go_ixT hx e hi k))
theorem go_ixB {n : Int} (hx : Rp K G x (.lst ds)) (e : Same G H) (hi : atI ds n = some d) (k : ∀ v, Rp K G v d → Q v H) : rIx K x (.int n) H Q := .inl (go_ixL hx e hi k)
theorem go_ixM {p : Addr} {xs : List V} {n : Int} (hp : H p = some (.lst xs)) (hi : atI xs n = some v) (k : Q v H) : rIx K (.ref p) (.int n) H Q := .inl ⟨p, xs, n, v, rfl, rfl, SqL.of hp, hi, k⟩
/-- len -/
theorem go_lenL (hx : Rp K G x (.lst ds)) (e : Same G H) (k : Q (.int ds.length) H) : rLen_ K [x] H Q := by
  obtain ⟨a, xs, rfl, hs, ha⟩ := Rp.lst_inv hx
  exact ⟨a, xs, rfl, .inl (e.seq hs), by rw [ha.length]; exact k⟩
theorem go_lenT (hx : Rp K G x (.tup ds)) (e : Same G H) (k : Q (.int ds.length) H) : rLen_ K [x] H Q := by
  obtain ⟨a, xs, rfl, hs, ha⟩ := Rp.tup_inv hx
  exact ⟨a, xs, rfl, .inr (Same.t e hs), by rw [ha.length]; exact k⟩
/-- a new tuple, a new list that never changes, a new list that will change -/
theorem go_tup {t : TA} (h : t σ H fun xs H1 => NT Q xs H1) : tTup t σ H Q := h
theorem go_lst {t : TA} (h : t σ H fun xs H1 => NL Q xs H1) : tLst t σ H Q := h
theorem go_newT {xs : List V} (hS : Sta K G0 H0 D G M H) (hx : RpAll K G xs ds) (hl : xs.length ≤ sizeLine) (k : ∀ p G1 H1, Same G G1 → Sta K G0 H0 D G1 M H1 → Rp K G1 (.ref p) (.tup ds) → Q (.ref p) H1) : NT Q xs H :=
  ⟨hl, fun p hp => k p (upd G p (.tup xs)) _ (same_upd (hS.gn hp)) (hS.imm hp _) (.tup (.inl (.inl upd_same)) (hx.up (same_upd (hS.gn hp))))⟩
theorem go_newL {xs : List V} (hS : Sta K G0 H0 D G M H) (hx : RpAll K G xs ds) (hl : xs.length ≤ sizeLine) (k : ∀ p G1 H1, Same G G1 → Sta K G0 H0 D G1 M H1 → Rp K G1 (.ref p) (.lst ds) → Q (.ref p) H1) : NL Q xs H :=
  ⟨hl, fun p hp => k p (upd G p (.lst xs)) _ (same_upd (hS.gn hp)) (hS.imm hp _) (.lst (.inl (.inl upd_same)) (hx.up (same_upd (hS.gn hp))))⟩
theorem go_mutL {xs : List V} (hS : Sta K G0 H0 D G M H) (hl : xs.length ≤ sizeLine) (k : ∀ p H1, H0 p = none → G p = none → Sta K G0 H0 D G ((p, .lst xs) :: M) H1 → Q (.ref p) H1) : NL Q xs H :=
  ⟨hl, fun p hp => k p _ (hS.h0 hp) (hS.gn hp) (hS.mut hp _)⟩
/-- xs.append(e) -/
theorem go_bm {T : String} {r : V → List V → Hp → VK → Prop} {t : TA} (h : te σ H fun x H1 => BMK K T (fun H2 => t σ H2 fun xs H3 => r x xs H3 Q) x H1) : tBM K T r te t σ H Q := h
theorem go_bm0 {T : String} {r : V → List V → Hp → VK → Prop} (h : te σ H fun x H1 => BMK K T (fun H2 => r x [] H2 Q) x H1) : tBM0 K T r te σ H Q := h
theorem go_bmL {p : Addr} {xs : List V} {k : Hp → Prop} (hp : H p = some (.lst xs)) (h : k H) : BMK K "list" k (.ref p) H := ⟨.inl ⟨rfl, _, .inl (.inl hp)⟩, h⟩
theorem go_bmLR {p : Addr} {k : Hp → Prop} (hx : Rp K G (.ref p) (.lst ds)) (e : Same G H) (h : k H) : BMK K "list" k (.ref p) H := by
  obtain ⟨a, xs, e1, hs, _⟩ := Rp.lst_inv hx
  cases e1
  exact ⟨.inl ⟨rfl, _, e.seq hs⟩, h⟩
theorem go_append {p : Addr} {xs : List V} {M' : List (Addr × HO)} {i : Nat} (hS : Sta K G0 H0 D G M H) (hi : M[i]? = some (p, .lst xs)) (hl : xs.length < 100000) (hM : M.set i (p, .lst (xs ++ [y])) = M') (k : ∀ H1, Sta K G0 H0 D G M' H1 → Q .non H1) : rAppend (.ref p) [y] H Q := by
  subst hM
  exact ⟨p, xs, y, rfl, rfl, hS.get hi, Nat.lt_of_lt_of_le hl (by decide), k _ (hS.set hi _)⟩
/-- xs[i] = e, xs a list that may change -/
theorem go_setL {p : Addr} {xs : List V} {M' : List (Addr × HO)} {i j : Nat} {n : Int} {k : Hp → Prop} (hS : Sta K G0 H0 D G M H) (hi : M[i]? = some (p, .lst xs)) (hj : ixN xs.length n = some j) (hM : M.set i (p, .lst (xs.set j v)) = M') (h : ∀ H1, Sta K G0 H0 D G M' H1 → k H1) : rSetL (.ref p) (.int n) v H k := by
  subst hM
  exact ⟨p, xs, n, j, rfl, rfl, hS.get hi, hj, h _ (hS.set hi _)⟩
theorem go_gsub {to ti : TE} {ts : TSet} {p : L2.St → Hp → Prop} (h : to σ H fun o H1 => ti σ H1 fun i H2 => ts o i v H2 fun H3 => p σ H3) : gSub to ti ts v σ H p := h
/-- int(x), abs(x) -/
theorem go_int {i : Int} (h : Q (.int i) H) : rInt_ [.int i] H Q := .inl ⟨i, rfl, h⟩
theorem go_intB {k : Bool} (h : Q (.int (if k then 1 else 0)) H) : rInt_ [.bl k] H Q := .inr ⟨k, rfl, h⟩
/-- o.f -/
theorem go_fld {f : Str} (h : ta σ H fun x H1 => FK K f Q x H1) : tFld K ta f σ H Q := h
theorem RpF.look {fs : List (Str × V)} {ds : List (Str × Dt)} (h : RpF K G fs ds) {f : Str} {d : Dt} (e : ds.lookup f = some d) : ∃ v, fs.lookup f = some v ∧ Rp K G v d := by
  induction ds generalizing fs with
  | nil => simp at e
  | cons q ds ih =>
    cases h with
    | cons h1 h2 =>
      rename_i f' v' vs' d'
      rw [List.lookup_cons] at e ⊢
      cases hb : f == f' with
      | true =>
        rw [hb] at e
        cases e
        exact ⟨_, rfl, h1⟩
      | false =>
        rw [hb] at e
        exact ih h2 e
theorem go_fldR {C : Addr} {fds : List (Str × Dt)} {f : Str} (hx : Rp K G x (.ins C fds)) (e : Same G H) (cl : Cls K C) (na : NoAttr K C f) (hi : fds.lookup f = some d) (k : ∀ v, Rp K G v d → Q v H) : FK K f Q x H := by
  obtain ⟨a, dx, fs, rfl, hs, ha⟩ := Rp.ins_inv hx
  obtain ⟨v, hv, hr⟩ := ha.look hi
  exact ⟨a, C, dx, fs, v, rfl, e _ _ hs, cl, na, hv, k v hr⟩
/-! ### loops -/
def ForG (J : It) (g : TG) (tb : TS) (De : Ends) (σ : L2.St) (H : Hp) : Prop := ∃ W : Nat → Nat → L2.St → Hp → Prop, (∃ m, W 0 m σ H) ∧ ∀ i m σ H, W i m σ H →
  (J.stop i H ∧ De.nx σ H) ∨ (J.go i H ∧ ∃ N : L2.St → Hp → Prop, (∀ σ' H', N σ' H' → ∃ m', m' < m ∧ W (i + 1) m' σ' H') ∧ ∀ x H', J.yld i H x H' → g x σ H' fun σ2 H2 => tb { De with nx := N, ct := N, bk := De.nx } σ2 H2)
theorem go_for {wi : TI} {g : TG} (h : wi σ H fun J H1 => ForG J g t ⟨nx, rt, bk, ct⟩ σ H1) : tFor wi g t ⟨nx, rt, bk, ct⟩ σ H := h
def Nx (K : PySem.W.Frag) (G0 H0 : Hp) (D : List Addr) (G : Hp) (W : L2.St → Hp → List (Addr × HO) → Prop) : L2.St → Hp → Prop := fun σ H => ∃ G1 M1, Same G G1 ∧ Sta K G0 H0 D G1 M1 H ∧ W σ G1 M1
theorem Nx.mk {W : L2.St → Hp → List (Addr × HO) → Prop} {G1 : Hp} (hS : Sta K G0 H0 D G1 M H) (e : Same G G1) (w : W σ G1 M) : Nx K G0 H0 D G W σ H := ⟨G1, M, e, hS, w⟩
theorem forI {J : It} {n : Nat} {Gd : Hp → Prop} {Y : Nat → Hp → V → Hp → Prop} (w : Walk J n Gd Y) {g : TG} (hS : Sta K G0 H0 D G M H) (hg : ∀ H1, Same G H1 → Gd H1) (W : Nat → L2.St → Hp → List (Addr × HO) → Prop) (h0 : W 0 σ G M)
    (hs : ∀ i x σ' G1 M1 H1 H2, i < n → Same G G1 → Sta K G0 H0 D G1 M1 H1 → W i σ' G1 M1 → Y i H1 x H2 → g x σ' H2 fun σ2 H3 => t ⟨Nx K G0 H0 D G (W (i + 1)), rt, nx, Nx K G0 H0 D G (W (i + 1))⟩ σ2 H3)
    (hd : ∀ σ' G1 M1 H1, Same G G1 → Sta K G0 H0 D G1 M1 H1 → W n σ' G1 M1 → nx σ' H1) : ForG J g t ⟨nx, rt, bk, ct⟩ σ H :=
  for_it w (D := ⟨nx, rt, bk, ct⟩) (fun i => Nx K G0 H0 D G (W i)) ⟨G, M, Same.refl G, hS, h0⟩ (fun i σ' H1 _ ⟨G1, M1, e, s, _⟩ => hg H1 (e.trans s.gh)) (fun i x σ' H1 H2 hi ⟨G1, M1, e, s, w⟩ y => hs i x σ' G1 M1 H1 H2 hi e s w y) (fun σ' H1 ⟨G1, M1, e, s, w⟩ => hd σ' G1 M1 H1 e s w)
theorem forR {lo : Int} {n : Nat} {g : TG} (hS : Sta K G0 H0 D G M H) (W : Nat → L2.St → Hp → List (Addr × HO) → Prop) (h0 : W 0 σ G M)
    (hs : ∀ i σ' G1 M1 H1, i < n → Same G G1 → Sta K G0 H0 D G1 M1 H1 → W i σ' G1 M1 → g (.int (lo + i)) σ' H1 fun σ2 H3 => t ⟨Nx K G0 H0 D G (W (i + 1)), rt, nx, Nx K G0 H0 D G (W (i + 1))⟩ σ2 H3)
    (hd : ∀ σ' G1 M1 H1, Same G G1 → Sta K G0 H0 D G1 M1 H1 → W n σ' G1 M1 → nx σ' H1) : ForG (Itr lo n) g t ⟨nx, rt, bk, ct⟩ σ H :=
  forI walk_range hS (fun _ _ => trivial) W h0 (fun i x σ' G1 M1 H1 H2 hi e s w y => by
    obtain ⟨rfl, rfl⟩ := y
    exact hs i σ' G1 M1 H2 hi e s w) hd
theorem forL {a : Addr} {xs : List V} {g : TG} (hS : Sta K G0 H0 D G M H) (hq : SqL K G a xs) (hr : RpAll K G xs ds) (W : Nat → L2.St → Hp → List (Addr × HO) → Prop) (h0 : W 0 σ G M)
    (hs : ∀ i x d σ' G1 M1 H1, i < ds.length → ds[i]? = some d → Same G G1 → Sta K G0 H0 D G1 M1 H1 → Rp K G1 x d → W i σ' G1 M1 → g x σ' H1 fun σ2 H3 => t ⟨Nx K G0 H0 D G (W (i + 1)), rt, nx, Nx K G0 H0 D G (W (i + 1))⟩ σ2 H3)
    (hd : ∀ σ' G1 M1 H1, Same G G1 → Sta K G0 H0 D G1 M1 H1 → W ds.length σ' G1 M1 → nx σ' H1) : ForG (Itl K a) g t ⟨nx, rt, bk, ct⟩ σ H :=
  forI (walk_list (xs := xs)) hS (fun H1 e => e.seq hq) W h0 (fun i x σ' G1 M1 H1 H2 hi e s w y => by
    obtain ⟨rfl, hx⟩ := y
    obtain ⟨d, hd, r⟩ := hr.getV hx
    exact hs i x d σ' G1 M1 H2 (by rw [← hr.length]; exact hi) hd e s (r.up e) w) (by rw [hr.length]; exact hd)
/-- a loop that changes its own name alone -/
theorem forLS {a : Addr} {xs : List V} {j : Nat} (hS : Sta K G0 H0 D G M H) (hq : SqL K G a xs) (hr : RpAll K G xs ds)
    (hs : ∀ i x d G1 H1, i < ds.length → ds[i]? = some d → Same G G1 → Sta K G0 H0 D G1 M H1 → Rp K G1 x d → t ⟨Nx K G0 H0 D G (fun σ' _ M' => M' = M ∧ ∃ u, σ' = σ.set j u), rt, nx, Nx K G0 H0 D G (fun σ' _ M' => M' = M ∧ ∃ u, σ' = σ.set j u)⟩ (σ.set j (some x)) H1)
    (hd : ∀ u G1 H1, Same G G1 → Sta K G0 H0 D G1 M H1 → nx (σ.set j u) H1) : ForG (Itl K a) (gName j) t ⟨nx, rt, bk, ct⟩ σ H := by
  have e0 : ∃ u, σ = σ.set j u := by
    by_cases hj : j < σ.length
    · refine ⟨σ[j], ?_⟩
      rw [List.set_getElem_self]
    · exact ⟨none, by rw [List.set_eq_of_length_le (by omega)]⟩
  refine forL hS hq hr (fun _ σ' _ M' => M' = M ∧ ∃ u, σ' = σ.set j u) ⟨rfl, e0⟩ (fun i x d σ' G1 M1 H1 hi hd' e s r w => ?_) (fun σ' G1 M1 H1 e s w => ?_)
  · obtain ⟨rfl, u, rfl⟩ := w
    show t _ ((σ.set j u).set j (some x)) H1
    rw [List.set_set]
    exact hs i x d G1 H1 hi hd' e s r
  · obtain ⟨rfl, u, rfl⟩ := w
    exact hd u G1 H1 e s
/-- the same over a range -/
theorem forRS {lo : Int} {n j : Nat} (hS : Sta K G0 H0 D G M H)
    (hs : ∀ (i : Nat) G1 H1, i < n → Same G G1 → Sta K G0 H0 D G1 M H1 → t ⟨Nx K G0 H0 D G (fun σ' _ M' => M' = M ∧ ∃ u, σ' = σ.set j u), rt, nx, Nx K G0 H0 D G (fun σ' _ M' => M' = M ∧ ∃ u, σ' = σ.set j u)⟩ (σ.set j (some (.int (lo + i)))) H1)
    (hd : ∀ u G1 H1, Same G G1 → Sta K G0 H0 D G1 M H1 → nx (σ.set j u) H1) : ForG (Itr lo n) (gName j) t ⟨nx, rt, bk, ct⟩ σ H := by
  have e0 : ∃ u, σ = σ.set j u := by
    by_cases hj : j < σ.length
    · refine ⟨σ[j], ?_⟩
      rw [List.set_getElem_self]
    · exact ⟨none, by rw [List.set_eq_of_length_le (by omega)]⟩
  refine forR hS (fun _ σ' _ M' => M' = M ∧ ∃ u, σ' = σ.set j u) ⟨rfl, e0⟩ (fun i σ' G1 M1 H1 hi e s w => ?_) (fun σ' G1 M1 H1 e s w => ?_)
  · obtain ⟨rfl, u, rfl⟩ := w
    show t _ ((σ.set j u).set j (some (.int (lo + i)))) H1
    rw [List.set_set]
    exact hs i G1 H1 hi e s
  · obtain ⟨rfl, u, rfl⟩ := w
    exact hd u G1 H1 e s
theorem go_iList {tl : TE} {k : It → Hp → Prop} (h : tl σ H fun x H1 => LK K k x H1) : iList K tl σ H k := h
theorem go_iRng1 {t : TA} {k : It → Hp → Prop} (h : t σ H fun vs H1 => RK1 k vs H1) : iRng1 t σ H k := h
theorem go_iRng2 {t : TA} {k : It → Hp → Prop} (h : t σ H fun vs H1 => RK2 k vs H1) : iRng2 t σ H k := h
theorem go_rng1 {n : Int} {k : It → Hp → Prop} (h1 : -(2 ^ 62) ≤ n ∧ n < 2 ^ 62) (h : k (Itr 0 n.toNat) H) : RK1 k [.int n] H := ⟨n, rfl, h1.1, h1.2, h⟩
theorem go_rng2 {m n : Int} {k : It → Hp → Prop} (h1 : -(2 ^ 62) ≤ m ∧ m < 2 ^ 62 ∧ -(2 ^ 62) ≤ n ∧ n < 2 ^ 62) (h : k (Itr m (n - m).toNat) H) : RK2 k [.int m, .int n] H := ⟨m, n, rfl, h1, h⟩
theorem go_itl {k : It → Hp → Prop} (hx : Rp K G x (.lst ds)) (e : Same G H) (h : ∀ a xs, x = .ref a → SqL K G a xs → RpAll K G xs ds → k (Itl K a) H) : LK K k x H := by
  obtain ⟨a, xs, rfl, hs, ha⟩ := Rp.lst_inv hx
  exact ⟨a, rfl, ⟨xs, e.seq hs⟩, h a xs rfl hs ha⟩
/-- abs, max, min of two -/
theorem go_abs {i : Int} (h : Q (.int (if i < 0 then -i else i)) H) : rAbs_ [.int i] H Q := ⟨i, rfl, h⟩
theorem go_max {m n : Int} (h : Q (.int (if n > m then n else m)) H) : rMax2_ [.int m, .int n] H Q := ⟨m, n, rfl, h⟩
theorem go_min {m n : Int} (h : Q (.int (if n < m then n else m)) H) : rMin2_ [.int m, .int n] H Q := ⟨m, n, rfl, h⟩
theorem go_lenM {p : Addr} {xs : List V} (hp : H p = some (.lst xs)) (k : Q (.int xs.length) H) : rLen_ K [.ref p] H Q := ⟨p, xs, rfl, .inl (SqL.of hp), k⟩
theorem go_calln {n m : Nat} {sp : Sp} {E : XK} {vs zs ws : List V} (h1 : vs.length = n) (h2 : zs.length = m) (e : vs ++ zs = ws) (h : sp ws H Q E) : CN n m sp (fun a b => a ++ b) Q E vs zs H := ⟨h1, h2, by show sp (vs ++ zs) H Q E; rw [e]; exact h⟩
end
theorem Fun.kbn {K : PySem.W.Frag} {x qual : Str} {st : Stmt} {f : Addr} {fd : FuncData} {ps : List Str} {n : Nat} {ks : List Str} (F : Fun K x qual st f fd)
    (h : ∀ (kV doc pm : Value) (an : Option Addr) (cdv ct : Value) (us ws : List Value), us.length = n → ws.length = ks.length → bindArgs (PySem.W.fnOf x qual (defArgs st) (defBody st) (defScope st) .none kV doc pm an cdv ct) ⟨us, ks.zip ws⟩ = pure (ps.zip (us ++ ws))) :
    KBn K fd ps n ks (fun a b => a ++ b) (fun a b => a ++ b) := by
  obtain ⟨oc, od, kV, doc, pm, an, cdv, ct, osl, rfl, lk, hcd⟩ := F.ex
  exact ⟨fun s us ws _ h1 h2 => .of_eq (h kV doc pm an cdv ct us ws h1 h2), fun r1 r2 => r1.append r2⟩
theorem intD_zero : (0 : Int) = ((0 : Nat) : Int) := rfl
/-! ### bars -/
def optD : Option Int → Dt
  | none => .non
  | some i => .int i
def optV : Option Int → V
  | none => .non
  | some i => .int i
abbrev Bar := Int × Option Int
def barD (b : Bar) : Dt := .tup [.int b.1, optD b.2]
theorem optD_inv {K : PySem.W.Frag} {G : Hp} {v : V} {o : Option Int} (h : Rp K G v (optD o)) : v = optV o := by
  cases o with
  | none => exact Rp.non_inv h
  | some i => exact Rp.int_inv h
theorem optD_rp {K : PySem.W.Frag} {G : Hp} {o : Option Int} : Rp K G (optV o) (optD o) := by
  cases o with
  | none => exact .non
  | some i => exact .int i
/-! ### what the laws draw from -/
def drw (r : Addr) (at_ : Int) : HO := .lst [.ref r, .int at_]
theorem pick2 {a b i : Int} (h0 : 0 ≤ i) (h1 : i < 2) : ∃ m, atI [Dt.int a, Dt.int b] i = some (.int m) ∧ (i = 0 ∧ m = a ∨ i = 1 ∧ m = b) := by
  have : i = 0 ∨ i = 1 := by omega
  rcases this with rfl | rfl
  · exact ⟨a, rfl, .inl ⟨rfl, rfl⟩⟩
  · exact ⟨b, rfl, .inr ⟨rfl, rfl⟩⟩
theorem go_pick2 {K : PySem.W.Frag} {G H : Hp} {x : V} {a b i : Int} {Q : VK} (hx : Rp K G x (.lst [.int a, .int b])) (e : Same G H) (h0 : 0 ≤ i) (h1 : i < 2) (k : ∀ m, (i = 0 ∧ m = a ∨ i = 1 ∧ m = b) → Q (.int m) H) : rIx K x (.int i) H Q := by
  obtain ⟨m, h2, h3⟩ := pick2 (a := a) (b := b) h0 h1
  exact go_ixB hx e h2 fun v hv => by cases Rp.int_inv hv; exact k m h3
def RowOk (K : PySem.W.Frag) (G : Hp) (r : Addr) : Prop := ∃ xs : List Int, SqL K G r (xs.map .int) ∧ xs.length ≤ 200
theorem RowOk.up {K : PySem.W.Frag} {G G' : Hp} {r : Addr} (e : Same G G') (h : RowOk K G r) : RowOk K G' r := by
  obtain ⟨xs, h1, h2⟩ := h
  exact ⟨xs, e.seq h1, h2⟩
theorem Sta.callNew {K : PySem.W.Frag} {G0 H0 G H G1 H1 : Hp} {D : List Addr} {M : List (Addr × HO)} {p : Addr} {o : HO} (h : Sta K G0 H0 D G M H) (a : Adv [] G H G1 H1) (hp : H p = none) (h1 : H1 p = some o) (hg : G1 p = none) : Sta K G0 H0 D G1 ((p, o) :: M) H1 := by
  have s := h.call a
  refine ⟨s.g0, s.gh, s.fr, s.kp, s.up, ?_, fun q hq => ?_⟩
  · simp only [List.map_cons, List.nodup_cons]
    exact ⟨fun hm => by
      obtain ⟨q, hq, e⟩ := List.mem_map.mp hm
      exact h.mn hp q hq e, h.md⟩
  · rcases List.mem_cons.mp hq with rfl | hq
    · exact ⟨h1, hg, .inr (h.h0 hp)⟩
    · exact s.mh q hq

/-! ### isinstance of data -/
def tyD : Dt → String
  | .non => "NoneType" | .bl _ => "bool" | .int _ => "int" | .str _ => "str" | .lst _ => "list" | .tup _ => "tuple" | .ins _ _ => "?"
theorem tyD_non : tyD .non = "NoneType" := rfl
theorem tyD_bl {b : Bool} : tyD (.bl b) = "bool" := rfl
theorem tyD_int {b : Int} : tyD (.int b) = "int" := rfl
theorem tyD_str {b : Str} : tyD (.str b) = "str" := rfl
theorem tyD_lst {b : List Dt} : tyD (.lst b) = "list" := rfl
theorem tyD_tup {b : List Dt} : tyD (.tup b) = "tuple" := rfl
theorem tyX_l {K : PySem.W.Frag} {H : Hp} {a : Addr} {xs : List V} (h : SqL K H a xs) : TyX K H (.ref a) (.type "list") := by
  rcases h with (h | ⟨o, h⟩) | ⟨o, its, n, h1, h2, _⟩
  · exact .base (.lst h)
  · exact .base (.frz h)
  · exact .kList h1 h2
theorem tyX_t {K : PySem.W.Frag} {H : Hp} {a : Addr} {xs : List V} (h : SqT K H a xs) : TyX K H (.ref a) (.type "tuple") := by
  rcases h with (h | ⟨o, h⟩) | ⟨o, its, n, h1, h2, _⟩
  · exact .base (.tup h)
  · exact .fTuple h
  · exact .kTuple h1 h2
theorem tyX_d {K : PySem.W.Frag} {G H : Hp} {x : V} : ∀ {d : Dt}, tyD d ≠ "?" → Rp K G x d → Same G H → TyX K H x (.type (tyD d))
  | .non, _, h, _ => by cases h; exact .base .non
  | .bl _, _, h, _ => by cases h; exact .base (.bl _)
  | .int _, _, h, _ => by cases h; exact .base (.int _)
  | .str _, _, h, _ => by cases h; exact .base (.str _)
  | .lst _, _, h, e => by
    cases h with
    | lst h1 _ => exact tyX_l (e.seq h1)
  | .tup _, _, h, e => by
    cases h with
    | tup h1 _ => exact tyX_t (Same.t e h1)
  | .ins _ _, hn, _, _ => absurd rfl hn
section
variable {K : PySem.W.Frag} {G0 H0 G H : Hp} {D : List Addr} {M : List (Addr × HO)} {Q : VK} {x : V} {d : Dt} {b b1 b2 : Bool}
theorem kit_NoneType_tuple : kitB "NoneType" "tuple" = some false := by decide +kernel
theorem kit_NoneType_list : kitB "NoneType" "list" = some false := by decide +kernel
theorem kit_NoneType_bool : kitB "NoneType" "bool" = some false := by decide +kernel
theorem kit_NoneType_int : kitB "NoneType" "int" = some false := by decide +kernel
theorem kit_NoneType_str : kitB "NoneType" "str" = some false := by decide +kernel
theorem kit_bool_tuple : kitB "bool" "tuple" = some false := by decide +kernel
theorem kit_bool_list : kitB "bool" "list" = some false := by decide +kernel
theorem kit_bool_bool : kitB "bool" "bool" = some true := by decide +kernel
theorem kit_bool_int : kitB "bool" "int" = some true := by decide +kernel
theorem kit_bool_str : kitB "bool" "str" = some false := by decide +kernel
theorem kit_int_tuple : kitB "int" "tuple" = some false := by decide +kernel
theorem kit_int_list : kitB "int" "list" = some false := by decide +kernel
theorem kit_int_bool : kitB "int" "bool" = some false := by decide +kernel
theorem kit_int_int : kitB "int" "int" = some true := by decide +kernel
theorem kit_int_str : kitB "int" "str" = some false := by decide +kernel
theorem kit_str_tuple : kitB "str" "tuple" = some false := by decide +kernel
theorem kit_str_list : kitB "str" "list" = some false := by decide +kernel
theorem kit_str_bool : kitB "str" "bool" = some false := by decide +kernel
theorem kit_str_int : kitB "str" "int" = some false := by decide +kernel
theorem kit_str_str : kitB "str" "str" = some true := by decide +kernel
theorem kit_list_tuple : kitB "list" "tuple" = some false := by decide +kernel
theorem kit_list_list : kitB "list" "list" = some true := by decide +kernel
theorem kit_list_bool : kitB "list" "bool" = some false := by decide +kernel
theorem kit_list_int : kitB "list" "int" = some false := by decide +kernel
theorem kit_list_str : kitB "list" "str" = some false := by decide +kernel
theorem kit_tuple_tuple : kitB "tuple" "tuple" = some true := by decide +kernel
theorem kit_tuple_list : kitB "tuple" "list" = some false := by decide +kernel
theorem kit_tuple_bool : kitB "tuple" "bool" = some false := by decide +kernel
theorem kit_tuple_int : kitB "tuple" "int" = some false := by decide +kernel
theorem kit_tuple_str : kitB "tuple" "str" = some false := by decide +kernel
theorem go_isi {S t : String} (hx : Rp K G x d) (e : Same G H) (ht : tyD d = t) (hn : t ≠ "?") (hb : kitB t S = some b) (k : Q (.bl b) H) : rIsi K [x, .ty S] H Q := by
  subst ht
  exact ⟨x, .ty S, _, _, b, rfl, .ty S, tyX_d hn hx e, kit_ty hb, k⟩
theorem go_isiT {S1 S2 t : String} {p : Addr} (hx : Rp K G x d) (e : Same G H) (hp : H p = some (.tup [.ty S1, .ty S2])) (ht : tyD d = t) (hn : t ≠ "?") (hb1 : kitB t S1 = some b1) (hb2 : kitB t S2 = some b2) (k : Q (.bl (b1 || b2)) H) : rIsiT K [x, .ref p] H Q := by
  subst ht
  refine ⟨x, p, _, _, [.type S1, .type S2], b1 || b2, rfl, hp, .cons (.ty S1) (.cons (.ty S2) .nil), tyX_d hn hx e, ?_, k⟩
  refine kitAny_cons (b := b1) (kit_ty hb1) (fun e1 => ?_) (fun e1 => by rw [e1]; rfl)
  refine kitAny_cons (b := b2) (kit_ty hb2) (fun e2 => ?_) (fun e2 => by rw [e1, e2]; rfl)
  rw [e1, e2]
  exact kitAny_nil
theorem go_rawT {xs : List V} (hS : Sta K G0 H0 D G M H) (hl : xs.length ≤ sizeLine) (k : ∀ p G1 H1, Same G G1 → Sta K G0 H0 D G1 M H1 → H1 p = some (.tup xs) → Q (.ref p) H1) : NT Q xs H :=
  ⟨hl, fun p hp => k p (upd G p (.tup xs)) _ (same_upd (hS.gn hp)) (hS.imm hp _) upd_same⟩
end
/-- data without instances, n deep at most -/
def okD : Nat → Dt → Bool
  | 0, _ => false
  | n + 1, .tup xs => decide (xs.length ≤ 100000) && xs.all (okD n)
  | n + 1, .lst xs => decide (xs.length ≤ 100000) && xs.all (okD n)
  | _ + 1, .ins _ _ => false
  | _ + 1, _ => true
end B
namespace Bw
open PySem L2 B
/-! ### the walk's own steps (local) -/
local macro_rules | `(tactic| walk_at "sm") => `(tactic| first
  | assumption
  | exact Same.refl _
  | (refine' Same.trans (H1 := ?m) ?g ?e; (case e => assumption); (case g => walk_at "sm")) | fail)
local macro_rules | `(tactic| walk_at "rp") => `(tactic| first
  | assumption
  | with_reducible exact Rp.int _
  | with_reducible exact Rp.bl _
  | with_reducible exact Rp.str _
  | with_reducible exact Rp.non
  | with_reducible exact RpAll.nil
  | ((with_reducible refine' RpAll.cons ?a ?b); (case a => walk_at "rp"); (case b => walk_at "rp"))
  | ((with_reducible refine' Rp.up (G := ?m) ?e ?g); (case e => assumption); (case g => walk_at "rp"))
  | ((with_reducible refine' RpAll.up (G := ?m) ?e ?g); (case e => assumption); (case g => walk_at "rp"))
  | ((with_reducible refine' Same.seq (H := ?m) ?e ?g); (case e => assumption); (case g => walk_at "rp"))
  | ((with_reducible refine' Same.t (H := ?m) ?e ?g); (case e => assumption); (case g => walk_at "rp")) | fail)
local macro_rules | `(tactic| walk_at "gh") => `(tactic| first | exact Sta.gh (by assumption) | walk_at "sm")
local macro_rules | `(tactic| walk_at "ar") => `(tactic| first | omega | decide | exact ⟨by omega, by omega⟩ | exact .inl ⟨by omega, by omega⟩ | exact .inr ⟨by omega, by omega⟩ | exact ⟨by omega, by omega, by omega, by omega⟩ | exact ⟨by omega, by omega, by decide⟩ | (show (0 : Int) < _; omega))
local macro_rules | `(tactic| walk_at "sc") => `(tactic| first | (obtain rfl := Rp.int_inv (by assumption)) | skip)
local macro_rules | `(tactic| walk_at "set") => `(tactic| ((try simp only [List.set_cons_zero, List.set_cons_succ]); try rfl))
local macro_rules | `(tactic| walk_at "val") => `(tactic| (intro v hv; first | (cases Rp.int_inv hv; clear hv) | (cases Rp.bl_inv hv; clear hv) | (cases Rp.non_inv hv; clear hv) | (cases Rp.str_inv hv; clear hv) | skip))
local macro_rules | `(tactic| walk_at "kit") => `(tactic| first | with_reducible exact kit_NoneType_tuple | with_reducible exact kit_NoneType_list | with_reducible exact kit_NoneType_bool | with_reducible exact kit_NoneType_int | with_reducible exact kit_NoneType_str | with_reducible exact kit_bool_tuple | with_reducible exact kit_bool_list | with_reducible exact kit_bool_bool | with_reducible exact kit_bool_int | with_reducible exact kit_bool_str | with_reducible exact kit_int_tuple | with_reducible exact kit_int_list | with_reducible exact kit_int_bool | with_reducible exact kit_int_int | with_reducible exact kit_int_str | with_reducible exact kit_str_tuple | with_reducible exact kit_str_list | with_reducible exact kit_str_bool | with_reducible exact kit_str_int | with_reducible exact kit_str_str | with_reducible exact kit_list_tuple | with_reducible exact kit_list_list | with_reducible exact kit_list_bool | with_reducible exact kit_list_int | with_reducible exact kit_list_str | with_reducible exact kit_tuple_tuple | with_reducible exact kit_tuple_list | with_reducible exact kit_tuple_bool | with_reducible exact kit_tuple_int | with_reducible exact kit_tuple_str)
local macro_rules | `(tactic| walk_at "mi") => `(tactic| first | (refine' mi0 ?_; exact rfl) | (refine' mi1 ?_; exact rfl) | (refine' mi2 ?_; exact rfl) | (refine' mi3 ?_; exact rfl))
local macro_rules | `(tactic| walk_at "mg") => `(tactic| first | (refine' Sta.get ?a ?b; (case a => assumption); (case b => walk_at "mi")) | fail)
local macro_rules | `(tactic| walk_at "s") => `(tactic| first
  | with_reducible refine' go_seq ?_
  | with_reducible refine' go_asg ?_
  | ((with_reducible refine' go_gname (σ' := ?s) ?e ?_); (case e => walk_at "set"))
  | ((with_reducible refine' go_σ (σ' := ?s) ?e ?_); (case e => walk_at "set"))
  | ((with_reducible refine' go_var (v := ?v) ?e ?_); (case e => exact rfl))
  | with_reducible refine' go_c ?_
  | with_reducible refine' go_op ?_
  | with_reducible refine' go_rI0 ?_
  | ((with_reducible refine' go_rI ?c ?_); (case c => walk_at "ar"))
  | with_reducible refine' go_un ?_
  | with_reducible refine' go_rU ?_
  | with_reducible refine' go_ret ?_
  | with_reducible refine' go_retN ?_
  | with_reducible refine' go_drop ?_
  | with_reducible refine' go_ifS ?_
  | with_reducible refine' go_tTest ?_
  | with_reducible refine' go_tB ?_
  | with_reducible refine' go_k ?_
  | with_reducible refine' go_kand ?_
  | with_reducible refine' go_tAnd ?_
  | with_reducible refine' go_tOr ?_
  | with_reducible refine' go_tNot ?_
  | with_reducible refine' go_tAndV ?_
  | with_reducible refine' go_tOrV ?_
  | with_reducible refine' go_tNotV ?_
  | with_reducible refine' go_tIf ?_
  | with_reducible refine' go_tYes ?_
  | with_reducible refine' go_eqI ?_
  | with_reducible refine' go_neI ?_
  | with_reducible refine' go_eqB ?_
  | with_reducible refine' go_neB ?_
  | with_reducible refine' go_eqS ?_
  | with_reducible refine' go_neS ?_
  | with_reducible refine' go_tIsN ?_
  | with_reducible refine' go_tNotN ?_
  | with_reducible refine' go_cons ?_
  | with_reducible refine' go_nil ?_
  | with_reducible refine' go_tCB ?_
  | with_reducible refine' go_call ?_
  | with_reducible refine' go_call0 ?_
  | with_reducible refine' go_chain ?_
  | with_reducible refine' go_next ?_
  | with_reducible refine' go_break ?_
  | with_reducible refine' go_cont ?_
  | with_reducible refine' go_par ?_
  | ((with_reducible refine' go_par2 (σ' := ?s) ?e ?_); (case e => walk_at "set"))
  | with_reducible refine' go_callN ?_
  | ((with_reducible refine' go_calln (ws := ?ws) ?a ?b ?e ?_); (case a => exact rfl); (case b => exact rfl); (case e => ((try simp only [List.cons_append, List.nil_append]); try rfl)))
  | with_reducible refine' go_bm0 ?_
  | with_reducible refine' go_abs ?_
  | ((with_reducible refine' go_isi (G := ?G) (d := ?d) (t := ?t) (b := ?b) ?hx ?e ?ht ?hn ?hb ?_); (case e => exact Sta.gh (by assumption)); (case hx => walk_at "rp"); (case ht => first | with_reducible exact tyD_int | with_reducible exact tyD_bl | with_reducible exact tyD_non | with_reducible exact tyD_str | with_reducible exact tyD_lst | with_reducible exact tyD_tup); (case hn => decide); (case hb => walk_at "kit"))
  | with_reducible refine' go_max ?_
  | with_reducible refine' go_min ?_
  | ((with_reducible refine' go_lenL (G := ?G) (ds := ?ds) ?hx ?e ?_); (case e => exact Sta.gh (by assumption)); (case hx => walk_at "rp"))
  | ((with_reducible refine' go_lenT (G := ?G) (ds := ?ds) ?hx ?e ?_); (case e => exact Sta.gh (by assumption)); (case hx => walk_at "rp"))
  | with_reducible refine' go_tup ?_
  | with_reducible refine' go_lst ?_
  | with_reducible refine' go_for ?_
  | with_reducible refine' go_iList ?_
  | ((with_reducible refine' go_itl (G := ?G) (ds := ?ds) ?hx ?e ?_); (case e => exact Sta.gh (by assumption)); (case hx => walk_at "rp"); (intro a xs ea hq hr; cases ea))
  | with_reducible refine' go_iRng1 ?_
  | with_reducible refine' go_iRng2 ?_
  | ((with_reducible refine' go_rng1 ?e ?_); (case e => walk_at "ar"))
  | ((with_reducible refine' go_rng2 ?e ?_); (case e => walk_at "ar"))
  | with_reducible refine' go_iteT ?_
  | with_reducible refine' go_iteF ?_
  | with_reducible refine' go_int ?_
  | with_reducible refine' go_intB ?_
  | ((with_reducible refine' go_ixA (G := ?G) (ds := ?ds) (d := ?d) ?hx ?e ?hi ?_); (case e => exact Sta.gh (by assumption)); (case hx => walk_at "rp"); (case hi => exact rfl); walk_at "val")
  | ((with_reducible refine' go_ixB (G := ?G) (ds := ?ds) (d := ?d) ?hx ?e ?hi ?_); (case e => exact Sta.gh (by assumption)); (case hx => walk_at "rp"); (case hi => exact rfl); walk_at "val")
  | ((with_reducible refine' go_ixM (xs := ?xs) (v := ?v) ?hp ?hi ?_); (case hp => walk_at "mg"); (case hi => exact rfl))
  | with_reducible refine' go_gsub ?_
  | with_reducible refine' go_bm ?_
  | with_reducible refine' go_fld ?_
  | ((with_reducible refine' go_bmL (xs := ?xs) ?hp ?_); (case hp => walk_at "mg"))
  | ((with_reducible refine' go_append (xs := ?xs) (i := ?i) (M' := ?M') ?hS ?hi ?hl ?hM ?_); (case hS => assumption); (case hi => walk_at "mi"); (case hl => first | omega | (simp; omega)); (case hM => walk_at "set"); (intro H1 hS1))
  | ((with_reducible refine' go_lenM (xs := ?xs) ?hp ?_); (case hp => walk_at "mg"))
  | ((with_reducible refine' go_iteX1 ?e ?_); (case e => first | exact rfl | exact decide_eq_true rfl))
  | ((with_reducible refine' go_iteX0 ?e ?_); (case e => first | exact rfl | exact congrArg Bool.not (decide_eq_true rfl)))
  | (with_reducible refine' go_ite (fun h => ?_) (fun h => ?_))
  | (with_reducible refine' go_iteN (fun h => ?_) (fun h => ?_)) | fail)
local macro_rules | `(tactic| walk_at "s") => `(tactic| first | ((with_reducible refine' go_newT (ds := ?ds) ?hS ?hx ?hl ?_); (case hS => assumption); (case hx => walk_at "rp"); (case hl => exact sz (by simp)); (intro p G1 H1 e1 hS1 hr1)) | fail)
local macro_rules | `(tactic| walk_at "nl") => `(tactic| first | ((with_reducible refine' go_newL (ds := ?ds) ?hS ?hx ?hl ?_); (case hS => assumption); (case hx => walk_at "rp"); (case hl => exact sz (by simp)); (intro p G1 H1 e1 hS1 hr1)) | fail)
local macro_rules | `(tactic| walk_at "go") => `(tactic| repeat' walk_at "s")
def topS (i : Nat) : Stmt := PySem.Challenge.pw_barswoven_k33_near_and_long.main.body.getD i (.Pass ⟨0, 0, 0, 0⟩)
abbrev s_gap : Stmt := topS 1
theorem sc_gap : FnScope ["one", "other"] ["one", "other"] (defScope s_gap) := ⟨rfl, rfl, rfl, by decide +kernel, rfl, by decide +kernel, by decide +kernel⟩
abbrev s_are_near : Stmt := topS 2
theorem sc_are_near : FnScope ["bar", "other", "lag", "deaths"] ["bar", "other", "lag"] (defScope s_are_near) := ⟨rfl, rfl, rfl, by decide +kernel, rfl, by decide +kernel, by decide +kernel⟩
abbrev s_is_long : Stmt := topS 3
theorem sc_is_long : FnScope ["bar", "lag"] ["bar", "lag"] (defScope s_is_long) := ⟨rfl, rfl, rfl, by decide +kernel, rfl, by decide +kernel, by decide +kernel⟩
abbrev s_law_cell : Stmt := topS 5
theorem sc_law_cell : FnScope ["script", "k"] ["script", "k"] (defScope s_law_cell) := ⟨rfl, rfl, rfl, by decide +kernel, rfl, by decide +kernel, by decide +kernel⟩
abbrev s_law_draws : Stmt := topS 6
theorem sc_law_draws : FnScope ["cell", "row", "rest", "mixed", "is_great", "k"] ["cell"] (defScope s_law_draws) := ⟨rfl, rfl, rfl, by decide +kernel, rfl, by decide +kernel, by decide +kernel⟩
abbrev s_law_next : Stmt := topS 7
theorem sc_law_next : FnScope ["draws", "many", "row", "at"] ["draws", "many"] (defScope s_law_next) := ⟨rfl, rfl, rfl, by decide +kernel, rfl, by decide +kernel, by decide +kernel⟩
abbrev s_law_same : Stmt := topS 8
theorem sc_law_same : FnScope ["actual", "expected", "k"] ["actual", "expected"] (defScope s_law_same) := ⟨rfl, rfl, rfl, by decide +kernel, rfl, by decide +kernel, by decide +kernel⟩
abbrev s_law_are_near : Stmt := topS 9
theorem sc_law_are_near : FnScope ["bar", "other", "lag"] ["bar", "other", "lag"] (defScope s_law_are_near) := ⟨rfl, rfl, rfl, by decide +kernel, rfl, by decide +kernel, by decide +kernel⟩
abbrev s_law_is_long : Stmt := topS 10
theorem sc_law_is_long : FnScope ["bar", "lag"] ["bar", "lag"] (defScope s_law_is_long) := ⟨rfl, rfl, rfl, by decide +kernel, rfl, by decide +kernel, by decide +kernel⟩
abbrev s_law : Stmt := topS 11
theorem sc_law : FnScope ["script", "k", "draws", "bars", "is_far", "j", "birth", "death", "lag", "due", "bar"] ["script"] (defScope s_law) := ⟨rfl, rfl, rfl, by decide +kernel, rfl, by decide +kernel, by decide +kernel⟩
structure Ad where
  f_gap : Addr
  d_gap : FuncData
  f_are_near : Addr
  d_are_near : FuncData
  f_is_long : Addr
  d_is_long : FuncData
  f_law_cell : Addr
  d_law_cell : FuncData
  f_law_draws : Addr
  d_law_draws : FuncData
  f_law_next : Addr
  d_law_next : FuncData
  f_law_same : Addr
  d_law_same : FuncData
  f_law_are_near : Addr
  d_law_are_near : FuncData
  f_law_is_long : Addr
  d_law_is_long : FuncData
  f_law : Addr
  d_law : FuncData
structure Txt (K : PySem.W.Frag) (mg : Str → Option Value) (A : Ad) : Prop where
  F_gap : Fun K "gap" "gap" s_gap A.f_gap A.d_gap
  m_gap : mg "gap" = some (.ref A.f_gap)
  b_gap : Binds K A.d_gap ["one", "other"] []
  F_are_near : Fun K "are_near" "are_near" s_are_near A.f_are_near A.d_are_near
  m_are_near : mg "are_near" = some (.ref A.f_are_near)
  k2_are_near : KBn K A.d_are_near ["bar", "other", "lag"] 2 ["lag"] (fun a b => a ++ b) (fun a b => a ++ b)
  F_is_long : Fun K "is_long" "is_long" s_is_long A.f_is_long A.d_is_long
  m_is_long : mg "is_long" = some (.ref A.f_is_long)
  k1_is_long : KBn K A.d_is_long ["bar", "lag"] 1 ["lag"] (fun a b => a ++ b) (fun a b => a ++ b)
  F_law_cell : Fun K "_law_cell" "_law_cell" s_law_cell A.f_law_cell A.d_law_cell
  m_law_cell : mg "_law_cell" = some (.ref A.f_law_cell)
  b_law_cell : Binds K A.d_law_cell ["script", "k"] []
  F_law_draws : Fun K "_law_draws" "_law_draws" s_law_draws A.f_law_draws A.d_law_draws
  m_law_draws : mg "_law_draws" = some (.ref A.f_law_draws)
  b_law_draws : Binds K A.d_law_draws ["cell"] []
  F_law_next : Fun K "_law_next" "_law_next" s_law_next A.f_law_next A.d_law_next
  m_law_next : mg "_law_next" = some (.ref A.f_law_next)
  b_law_next : Binds K A.d_law_next ["draws", "many"] []
  F_law_same : Fun K "_law_same" "_law_same" s_law_same A.f_law_same A.d_law_same
  m_law_same : mg "_law_same" = some (.ref A.f_law_same)
  b_law_same : Binds K A.d_law_same ["actual", "expected"] []
  F_law_are_near : Fun K "_law_are_near" "_law_are_near" s_law_are_near A.f_law_are_near A.d_law_are_near
  m_law_are_near : mg "_law_are_near" = some (.ref A.f_law_are_near)
  b_law_are_near : Binds K A.d_law_are_near ["bar", "other", "lag"] []
  F_law_is_long : Fun K "_law_is_long" "_law_is_long" s_law_is_long A.f_law_is_long A.d_law_is_long
  m_law_is_long : mg "_law_is_long" = some (.ref A.f_law_is_long)
  b_law_is_long : Binds K A.d_law_is_long ["bar", "lag"] []
  F_law : Fun K "law" "law" s_law A.f_law A.d_law
  m_law : mg "law" = some (.ref A.f_law)
  b_law : Binds K A.d_law ["script"] []
  z_abs : mg "abs" = none
  z_bool : mg "bool" = none
  z_int : mg "int" = none
  z_isinstance : mg "isinstance" = none
  z_len : mg "len" = none
  z_list : mg "list" = none
  z_max : mg "max" = none
  z_min : mg "min" = none
  z_range : mg "range" = none
  z_str : mg "str" = none
  z_tuple : mg "tuple" = none
section
variable {P : Program} {w : World} {K : PySem.W.Frag} {mg : Str → Option Value} {base : Heap} {A : Ad}
/-! ### the law's readers: a cell; a draw -/
def spCell (K : PySem.W.Frag) : Sp := fun vs H Q _ => ∃ (l : Addr) (ns : List Int) (k : Int), vs = [.ref l, .int k] ∧ SqL K H l (ns.map V.int) ∧ 0 ≤ k ∧ ∀ v : Int, Q (.int v) H
theorem ok_law_cell (T : Txt K mg A) : FnOk P w K mg base CX0 1 A.f_law_cell A.d_law_cell ["script", "k"] (spCell K) := by
  refine T.F_law_cell.ok sc_law_cell (fun vs H Q E h => by first | (obtain ⟨rfl, _⟩ := h; rfl) | (obtain ⟨_, rfl, _⟩ := h; rfl) | (obtain ⟨_, _, rfl, _⟩ := h; rfl) | (obtain ⟨_, _, _, rfl, _⟩ := h; rfl) | (obtain ⟨_, _, _, _, rfl, _⟩ := h; rfl) | (obtain ⟨_, _, _, _, _, rfl, _⟩ := h; rfl) | (obtain ⟨_, _, _, _, _, _, rfl, _⟩ := h; rfl) | (obtain ⟨_, _, _, _, _, _, _, rfl, _⟩ := h; rfl) | (obtain ⟨_, _, _, _, _, _, _, _, rfl, _⟩ := h; rfl) | (obtain ⟨_, _, _, _, _, _, _, _, _, rfl, _⟩ := h; rfl) | (obtain ⟨_, _, _, _, _, _, _, _, _, _, rfl, _⟩ := h; rfl) | (obtain ⟨_, _, _, _, _, _, _, _, _, _, _, rfl, _⟩ := h; rfl) | (obtain ⟨_, _, _, _, _, _, _, _, _, _, _, _, rfl, _⟩ := h; rfl) | (obtain ⟨_, _, _, _, _, _, _, _, _, _, _, _, _, rfl, _⟩ := h; rfl)) (fun cdv AA outer s H vs Q E hr h => ?_)
  obtain ⟨l, ns, k, rfl, hS, h0, q⟩ := h
  refine ⟨_, (pss_cons (ps_if (pt_cmpR op_lt (pv 1) (pe_callB b_len (by rfl) T.z_len (by decide +kernel) (pa_cons (pv 0) pa_nil)) (nomark _)) (pss_one (ps_ret (pe_ix ix_seq (pv 0) (pv 1) (fun _ _ => rfl)))) pss_nil)
      (pss_one (ps_ret pe_int))), ?_⟩
  try dsimp only [cxOf, Cx.nox, Cx.wish, Cx.blk]
  refine ⟨_, rfl, _, rfl, l, _, rfl, .inl hS, k, _, rfl, rfl, _, rfl, ite2 (fun e => ?_) (fun e => ?_)⟩
  · have e1 : k < ((ns.map V.int).length : Int) := of_decide_eq_true e
    rw [List.length_map] at e1
    have hk : k.toNat < ns.length := by omega
    refine ⟨_, rfl, _, rfl, .inl ⟨l, _, k, .int ns[k.toNat], rfl, rfl, hS, at_of (j := k.toNat) (by omega) (by rw [List.getElem?_map, List.getElem?_eq_getElem hk]; rfl), q _⟩⟩
  · exact q 0
theorem go_cell {G0 H0 G H : Hp} {D : List Addr} {M : List (Addr × HO)} {Q : VK} {E : XK} {l : Addr} {ns : List Int} {k : Int} (hS : Sta K G0 H0 D G M H) (hl : Rp K G (.ref l) (.lst (ns.map .int))) (h0 : 0 ≤ k) (q : ∀ v : Int, Q (.int v) H) : spCell K [.ref l, .int k] H Q E := by
  obtain ⟨a, xs, e, hs, ha⟩ := Rp.lst_inv hl
  cases e
  rw [RpAll.ints_inv ha] at hs
  exact ⟨l, ns, k, rfl, hS.gh.seq hs, h0, q⟩
def spNext (K : PySem.W.Frag) : Sp := fun vs H Q _ => ∃ (a r : Addr) (at_ many : Int), vs = [.ref a, .int many] ∧ H a = some (drw r at_) ∧ RowOk K H r ∧ 0 ≤ at_ ∧ at_ ≤ 1000000000 ∧ 0 < many ∧ ∀ v, 0 ≤ v → v < many → Q (.int v) (upd H a (drw r (at_ + 1)))
theorem ok_law_next (T : Txt K mg A) : FnOk P w K mg base CX0 1 A.f_law_next A.d_law_next ["draws", "many"] (spNext K) := by
  refine T.F_law_next.ok sc_law_next (fun vs H Q E h => by first | (obtain ⟨rfl, _⟩ := h; rfl) | (obtain ⟨_, rfl, _⟩ := h; rfl) | (obtain ⟨_, _, rfl, _⟩ := h; rfl) | (obtain ⟨_, _, _, rfl, _⟩ := h; rfl) | (obtain ⟨_, _, _, _, rfl, _⟩ := h; rfl) | (obtain ⟨_, _, _, _, _, rfl, _⟩ := h; rfl) | (obtain ⟨_, _, _, _, _, _, rfl, _⟩ := h; rfl) | (obtain ⟨_, _, _, _, _, _, _, rfl, _⟩ := h; rfl) | (obtain ⟨_, _, _, _, _, _, _, _, rfl, _⟩ := h; rfl) | (obtain ⟨_, _, _, _, _, _, _, _, _, rfl, _⟩ := h; rfl) | (obtain ⟨_, _, _, _, _, _, _, _, _, _, rfl, _⟩ := h; rfl) | (obtain ⟨_, _, _, _, _, _, _, _, _, _, _, rfl, _⟩ := h; rfl) | (obtain ⟨_, _, _, _, _, _, _, _, _, _, _, _, rfl, _⟩ := h; rfl) | (obtain ⟨_, _, _, _, _, _, _, _, _, _, _, _, _, rfl, _⟩ := h; rfl)) (fun cdv AA outer s H vs Q E hr h => ?_)
  obtain ⟨a, r, at_, many, rfl, hA, ⟨xs, hR, hx⟩, h0, h1, hm, q⟩ := h
  refine ⟨_, (pss_cons (ps_set (i := 2) sc_law_next.nd rfl (by first | exact Or.inl rfl | exact Or.inr rfl) (pe_ix ix_seq (pv 0) pe_int (fun _ _ => rfl)))
      (pss_cons (ps_set (i := 3) sc_law_next.nd rfl (by first | exact Or.inl rfl | exact Or.inr rfl) (pe_ix ix_seq (pv 0) pe_int (fun _ _ => rfl)))
      (pss_cons (ps_asg (pe_op op_add (pv 3) pe_int) (pg_sub (pv 0) pe_int set_list))
      (pss_cons (ps_if (pt_cmpR op_lt (pv 3) (pe_callB b_len (by rfl) T.z_len (by decide +kernel) (pa_cons (pv 2) pa_nil)) (nomark _)) (pss_one (ps_ret (pe_op op_mod (pe_callTy b_int (by rfl) T.z_int (by decide +kernel) (pa_cons (pe_ix ix_seq (pv 2) (pv 3) (fun _ _ => rfl)) pa_nil)) (pv 1)))) pss_nil)
      (pss_one (ps_ret (pe_op op_mod (pe_callTy b_int (by rfl) T.z_int (by decide +kernel) (pa_cons (pe_op op_add (pe_op op_mul (pe_op op_mul (pv 3) (pv 3)) pe_int) (pv 3)) pa_nil)) (pv 1)))))))), ?_⟩
  try dsimp only [cxOf, Cx.nox, Cx.wish, Cx.blk]
  have hrow : ∀ H', H' = upd H a (drw r (at_ + 1)) → SqL K H' r (xs.map V.int) := fun H' e => by
    subst e
    rcases hR with (z | ⟨o, z⟩) | z
    · have : r ≠ a := fun e => by
        subst e
        rw [hA] at z
        cases xs with
        | nil => cases z
        | cons y ys => cases z
      exact .inl (.inl (by rw [upd_ne this]; exact z))
    · have : r ≠ a := fun e => by
        subst e
        rw [hA] at z
        cases z
      exact .inl (.inr ⟨o, by rw [upd_ne this]; exact z⟩)
    · exact .inr z
  refine ⟨_, rfl, .inl ⟨a, _, _, _, rfl, rfl, SqL.of hA, rfl, ?_⟩⟩
  refine ⟨_, rfl, .inl ⟨a, _, _, _, rfl, rfl, SqL.of hA, rfl, ?_⟩⟩
  refine ⟨_, rfl, _, _, rfl, rfl, _, rfl, a, _, _, _, rfl, rfl, hA, rfl, ?_⟩
  refine ⟨_, rfl, _, rfl, r, _, rfl, .inl (hrow _ rfl), _, _, rfl, rfl, _, rfl, ite2 (fun e => ?_) (fun e => ?_)⟩
  · have e1 : at_ < ((xs.map V.int).length : Int) := of_decide_eq_true e
    rw [List.length_map] at e1
    have hk : at_.toNat < xs.length := by omega
    refine ⟨_, rfl, _, rfl, .inl ⟨r, _, at_, .int xs[at_.toNat], rfl, rfl, hrow _ rfl, at_of (j := at_.toNat) (by omega) (by rw [List.getElem?_map, List.getElem?_eq_getElem hk]; rfl), .inl ⟨_, rfl, ?_⟩⟩⟩
    exact ⟨_, rfl, _, _, rfl, rfl, hm, q _ (Int.emod_nonneg _ (by omega)) (Int.emod_lt_of_pos _ hm)⟩
  · refine ⟨_, rfl, _, rfl, at_, at_, rfl, rfl, .inl ⟨by omega, by omega⟩, at_ * at_, 7, rfl, rfl, .inr ⟨by omega, by omega⟩, _, rfl, _, _, rfl, rfl, .inl ⟨_, rfl, _, rfl, _, _, rfl, rfl, hm, ?_⟩⟩
    exact q _ (Int.emod_nonneg _ (by omega)) (Int.emod_lt_of_pos _ hm)
theorem go_next_ {G0 H0 G H : Hp} {D : List Addr} {M M' : List (Addr × HO)} {Q : VK} {E : XK} {a r : Addr} {at_ many : Int} {i : Nat} (hS : Sta K G0 H0 D G M H) (hi : M[i]? = some (a, drw r at_)) (hr : RowOk K G r) (h0 : 0 ≤ at_) (h1 : at_ ≤ 1000000000) (hm : 0 < many)
    (hM : M.set i (a, drw r (at_ + 1)) = M') (q : ∀ v H1, 0 ≤ v → v < many → Sta K G0 H0 D G M' H1 → Q (.int v) H1) : spNext K [.ref a, .int many] H Q E := by
  subst hM
  exact ⟨a, r, at_, many, rfl, hS.get hi, hr.up hS.gh, h0, h1, hm, fun v h2 h3 => q v _ h2 h3 (hS.set hi _)⟩
/-! ### the row of draws -/
def spDraws (K : PySem.W.Frag) : Sp := fun vs H Q _ => ∃ (c : Int) (G : Hp), vs = [.int c] ∧ Same G H ∧ ∀ a r G' H', Adv [] G H G' H' → H a = none → H' a = some (drw r 0) → G' a = none → RowOk K G' r → Q (.ref a) H'
theorem ok_law_draws (T : Txt K mg A) : FnOk P w K mg base CX0 1 A.f_law_draws A.d_law_draws ["cell"] (spDraws K) := by
  refine T.F_law_draws.ok sc_law_draws (fun vs H Q E h => by first | (obtain ⟨rfl, _⟩ := h; rfl) | (obtain ⟨_, rfl, _⟩ := h; rfl) | (obtain ⟨_, _, rfl, _⟩ := h; rfl) | (obtain ⟨_, _, _, rfl, _⟩ := h; rfl) | (obtain ⟨_, _, _, _, rfl, _⟩ := h; rfl) | (obtain ⟨_, _, _, _, _, rfl, _⟩ := h; rfl) | (obtain ⟨_, _, _, _, _, _, rfl, _⟩ := h; rfl) | (obtain ⟨_, _, _, _, _, _, _, rfl, _⟩ := h; rfl) | (obtain ⟨_, _, _, _, _, _, _, _, rfl, _⟩ := h; rfl) | (obtain ⟨_, _, _, _, _, _, _, _, _, rfl, _⟩ := h; rfl) | (obtain ⟨_, _, _, _, _, _, _, _, _, _, rfl, _⟩ := h; rfl) | (obtain ⟨_, _, _, _, _, _, _, _, _, _, _, rfl, _⟩ := h; rfl) | (obtain ⟨_, _, _, _, _, _, _, _, _, _, _, _, rfl, _⟩ := h; rfl) | (obtain ⟨_, _, _, _, _, _, _, _, _, _, _, _, _, rfl, _⟩ := h; rfl)) (fun cdv AA outer s H vs Q E hr h => ?_)
  obtain ⟨c, G, rfl, hG, q⟩ := h
  refine ⟨_, (pss_cons (ps_set (i := 1) sc_law_draws.nd rfl (by first | exact Or.inl rfl | exact Or.inr rfl) (pe_lst pa_nil))
      (pss_cons (ps_set (i := 2) sc_law_draws.nd rfl (by first | exact Or.inl rfl | exact Or.inr rfl) (pe_callB b_abs (by rfl) T.z_abs (by decide +kernel) (pa_cons (pv 0) pa_nil)))
      (pss_cons (ps_set (i := 3) sc_law_draws.nd rfl (by first | exact Or.inl rfl | exact Or.inr rfl) (pe_op op_mod (pe_callTy b_int (by rfl) T.z_int (by decide +kernel) (pa_cons (pv 2) pa_nil)) pe_int))
      (pss_cons (ps_set (i := 4) sc_law_draws.nd rfl (by first | exact Or.inl rfl | exact Or.inr rfl) (pe_cmpR op_ge (pv 2) (pe_op op_pow pe_int pe_int) (nomark _)))
      (pss_cons (ps_for PassesOwn.never rfl (pi_range1 (by rfl) T.z_range (pa_cons pe_int pa_nil)) (pg_name (i := 5) sc_law_draws.nd rfl (by first | exact Or.inl rfl | exact Or.inr rfl)) (pss_one (ps_if (PW.pt (pw_and (pt_val (pv 4)) (pw_and1 (pt_cmpR op_gt (pv 2) pe_int (nomark _))))) (pss_cons (ps_expr (pe_bm PySem.F.plainAttrs_list PySem.F.slot_list_append PySem.F.type_list_append mt_append (pv 1) (pa_cons (pe_op op_mod (pe_callTy b_int (by rfl) T.z_int (by decide +kernel) (pa_cons (pv 2) pa_nil)) pe_int) pa_nil)))
      (pss_one (ps_set (i := 2) sc_law_draws.nd rfl (by first | exact Or.inl rfl | exact Or.inr rfl) (pe_op op_fdiv (pv 2) pe_int)))) (pss_cons (ps_set (i := 3) sc_law_draws.nd rfl (by first | exact Or.inl rfl | exact Or.inr rfl) (pe_op op_mod (pe_callTy b_int (by rfl) T.z_int (by decide +kernel) (pa_cons (pe_op op_add (pe_op op_mul (pv 3) pe_int) pe_int) pa_nil)) pe_int))
      (pss_one (ps_expr (pe_bm PySem.F.plainAttrs_list PySem.F.slot_list_append PySem.F.type_list_append mt_append (pv 1) (pa_cons (pe_op op_fdiv (pe_op op_mod (pe_callTy b_int (by rfl) T.z_int (by decide +kernel) (pa_cons (pe_op op_add (pe_op op_mul (pv 3) pe_int) pe_int) pa_nil)) pe_int) pe_int) pa_nil))))))))
      (pss_one (ps_ret (pe_lst (pa_cons (pv 1) (pa_cons pe_int pa_nil)))))))))), ?_⟩
  try dsimp only [cxOf, Cx.nox, Cx.wish, Cx.blk]
  have hS := Sta.start (K := K) hG
  refine go_start (σ := [some (.int c), none, none, none, none, none]) rfl ?_
  walk_at "go"
  refine go_mutL hS (by decide) fun row H1 r0 r1 hS => ?_
  walk_at "go"
  have hab : 0 ≤ (if c < 0 then -c else c) := by split <;> omega
  generalize (if c < 0 then -c else c) = ab at hab ⊢
  refine forR hS (fun i σ G1 M1 => G1 = G ∧ ∃ (xs : List Int) (rest mixed : Int) (gr : Bool) (kv : Option V), M1 = [(row, .lst (xs.map .int))] ∧ xs.length = i ∧ 0 ≤ rest ∧ 0 ≤ mixed ∧ mixed < 2147483647 ∧ σ = [some (.int c), some (.ref row), some (.int rest), some (.int mixed), some (.bl gr), kv])
    ⟨rfl, [], ab, ab % 2147483647, _, none, rfl, rfl, hab, Int.emod_nonneg _ (by decide), Int.emod_lt_of_pos _ (by decide), rfl⟩ ?_ ?_
  · rintro i σ G1 M1 H2 hi e1 hS2 ⟨rfl, xs, rest, mixed, gr, kv, rfl, hx, h0, h1, h2, rfl⟩
    have hi' : i < 200 := hi
    have fin : ∀ (σ' : L2.St) (H3 : Hp) (y rest' mixed' : Int), Sta K G1 H [] G1 [(row, .lst (xs.map .int ++ [.int y]))] H3 → 0 ≤ rest' → 0 ≤ mixed' → mixed' < 2147483647 → (∃ kv, σ' = [some (.int c), some (.ref row), some (.int rest'), some (.int mixed'), some (.bl gr), kv]) →
        Nx K G1 H [] G1 (fun σ G2 M2 => G2 = G1 ∧ ∃ (xs : List Int) (rest mixed : Int) (gr : Bool) (kv : Option V), M2 = [(row, .lst (xs.map .int))] ∧ xs.length = i + 1 ∧ 0 ≤ rest ∧ 0 ≤ mixed ∧ mixed < 2147483647 ∧ σ = [some (.int c), some (.ref row), some (.int rest), some (.int mixed), some (.bl gr), kv]) σ' H3 :=
      fun σ' H3 y rest' mixed' s3 a1 a2 a3 ⟨kv, a4⟩ => Nx.mk s3 (Same.refl _) ⟨rfl, xs ++ [y], rest', mixed', gr, kv, by simp, by simp [hx], a1, a2, a3, a4⟩
    walk_at "go"
    refine go_iteB (fun hg => ?_) (fun hg => ?_)
    · walk_at "go"
      · exact fin _ _ _ _ _ (by assumption) (Int.ediv_nonneg h0 (by decide)) h1 h2 ⟨_, rfl⟩
      · exact fin _ _ _ _ _ (by assumption) h0 (Int.emod_nonneg _ (by decide)) (Int.emod_lt_of_pos _ (by decide)) ⟨_, rfl⟩
    · walk_at "go"
      exact fin _ _ _ _ _ (by assumption) h0 (Int.emod_nonneg _ (by decide)) (Int.emod_lt_of_pos _ (by decide)) ⟨_, rfl⟩
  · rintro σ G1 M1 H2 e1 hS2 ⟨rfl, xs, rest, mixed, gr, kv, rfl, hx, h0, h1, h2, rfl⟩
    have hx' : xs.length = 200 := hx
    walk_at "go"
    obtain ⟨hS3, e3⟩ := hS2.frz r0
    refine ⟨sz (by simp), fun p hp => ?_⟩
    have hS4 := hS3.mut hp (drw row 0)
    exact q p row _ _ hS4.adv (hS3.h0 hp) upd_same (hS3.gn hp) ⟨xs, .inl (.inl upd_same), by omega⟩
theorem go_draws {G0 H0 G H : Hp} {D : List Addr} {M : List (Addr × HO)} {Q : VK} {E : XK} {c : Int} (hS : Sta K G0 H0 D G M H) (q : ∀ a r G1 H1, Same G G1 → Sta K G0 H0 D G1 ((a, drw r 0) :: M) H1 → RowOk K G1 r → Q (.ref a) H1) : spDraws K [.int c] H Q E :=
  ⟨c, G, rfl, hS.gh, fun a r G1 H1 ad h1 h2 h3 h4 => q a r G1 H1 ad.gg (hS.callNew ad h1 h2 h3) h4⟩
/-! ### _law_same of equal data -/
def spSame (K : PySem.W.Frag) (n : Nat) : Sp := fun vs H Q _ => ∃ (x y : V) (G : Hp) (d : Dt), vs = [x, y] ∧ Same G H ∧ Rp K G x d ∧ Rp K G y d ∧ okD n d = true ∧ ∀ G' H', Adv [] G H G' H' → Q (.bl true) H'
theorem none_same {f : Addr} {fd : FuncData} : FnOk P w K mg base CX0 0 f fd ["actual", "expected"] (spSame K 0) := by
  have no : ∀ vs H Q E, ¬ spSame K 0 vs H Q E := fun vs H Q E h => by
    obtain ⟨x, y, G, d, _, _, _, _, h1, _⟩ := h
    cases d <;> cases h1
  exact ⟨fun vs H Q E h => absurd h (no vs H Q E), fun A outer s H args us vs Q E _ _ _ _ h => absurd h (no vs H Q E)⟩
theorem step_same (T : Txt K mg A) {n : Nat} (G_law_same : FnOk P w K mg base CX0 n A.f_law_same A.d_law_same ["actual", "expected"] (spSame K n)) : FnOk P w K mg base CX0 (n + 1) A.f_law_same A.d_law_same ["actual", "expected"] (spSame K (n + 1)) := by
  refine T.F_law_same.ok sc_law_same (fun vs H Q E h => by obtain ⟨_, _, _, _, rfl, _⟩ := h; rfl) (fun cdv AA outer s H vs Q E hr h => ?_)
  obtain ⟨x, y, G, d, rfl, hG, hx, hy, hd, q⟩ := h
  refine ⟨_, (pss_cons (ps_if (pt_val (pe_callB call_isiT (by rfl) T.z_isinstance (by decide +kernel) (pa_cons (pv 1) (pa_cons (pe_tup (pa_cons (pe_bltn (v := .ty "tuple") (u := .type "tuple") (by rfl) T.z_tuple (by decide +kernel) rfl) (pa_cons (pe_bltn (v := .ty "list") (u := .type "list") (by rfl) T.z_list (by decide +kernel) rfl) pa_nil))) pa_nil)))) (pss_cons (ps_if (PW.pt (pw_or (pt_cmpR op_ne (pe_callB call_isi (by rfl) T.z_isinstance (by decide +kernel) (pa_cons (pv 0) (pa_cons (pe_bltn (v := .ty "tuple") (u := .type "tuple") (by rfl) T.z_tuple (by decide +kernel) rfl) pa_nil))) (pe_callB call_isi (by rfl) T.z_isinstance (by decide +kernel) (pa_cons (pv 1) (pa_cons (pe_bltn (v := .ty "tuple") (u := .type "tuple") (by rfl) T.z_tuple (by decide +kernel) rfl) pa_nil))) (nomark _)) (pw_or1 (pt_cmpR op_ne (pe_callB call_isi (by rfl) T.z_isinstance (by decide +kernel) (pa_cons (pv 0) (pa_cons (pe_bltn (v := .ty "list") (u := .type "list") (by rfl) T.z_list (by decide +kernel) rfl) pa_nil))) (pe_callB call_isi (by rfl) T.z_isinstance (by decide +kernel) (pa_cons (pv 1) (pa_cons (pe_bltn (v := .ty "list") (u := .type "list") (by rfl) T.z_list (by decide +kernel) rfl) pa_nil))) (nomark _))))) (pss_one (ps_ret pe_bl)) pss_nil)
      (pss_cons (ps_if (pt_cmpR op_ne (pe_callB b_len (by rfl) T.z_len (by decide +kernel) (pa_cons (pv 0) pa_nil)) (pe_callB b_len (by rfl) T.z_len (by decide +kernel) (pa_cons (pv 1) pa_nil)) (nomark _)) (pss_one (ps_ret pe_bl)) pss_nil)
      (pss_cons (ps_for PassesOwn.never rfl (pi_range1 (by rfl) T.z_range (pa_cons (pe_callB b_len (by rfl) T.z_len (by decide +kernel) (pa_cons (pv 1) pa_nil)) pa_nil)) (pg_name (i := 2) sc_law_same.nd rfl (by first | exact Or.inl rfl | exact Or.inr rfl)) (pss_one (ps_if (pt_not (pt_val (pe_call G_law_same (hr.mono (by first | decide | omega)) (by rfl) T.m_law_same T.F_law_same.kp T.b_law_same .nil pass0 (pa_cons (pe_ix ix_seq (pv 0) (pv 2) (fun _ _ => rfl)) (pa_cons (pe_ix ix_seq (pv 1) (pv 2) (fun _ _ => rfl)) pa_nil))))) (pss_one (ps_ret pe_bl)) pss_nil)))
      (pss_one (ps_ret pe_bl))))) pss_nil)
      (pss_cons (ps_if (PW.pt (pw_or (pt_val (pe_callB call_isi (by rfl) T.z_isinstance (by decide +kernel) (pa_cons (pv 1) (pa_cons (pe_bltn (v := .ty "bool") (u := .type "bool") (by rfl) T.z_bool (by decide +kernel) rfl) pa_nil)))) (pw_or1 (pt_val (pe_callB call_isi (by rfl) T.z_isinstance (by decide +kernel) (pa_cons (pv 0) (pa_cons (pe_bltn (v := .ty "bool") (u := .type "bool") (by rfl) T.z_bool (by decide +kernel) rfl) pa_nil))))))) (pss_one (ps_ret (pe_and (pe_callB call_isi (by rfl) T.z_isinstance (by decide +kernel) (pa_cons (pv 0) (pa_cons (pe_bltn (v := .ty "bool") (u := .type "bool") (by rfl) T.z_bool (by decide +kernel) rfl) pa_nil))) (pe_and (pe_callB call_isi (by rfl) T.z_isinstance (by decide +kernel) (pa_cons (pv 1) (pa_cons (pe_bltn (v := .ty "bool") (u := .type "bool") (by rfl) T.z_bool (by decide +kernel) rfl) pa_nil))) (pe_one (pe_cmpR op_eq (pv 0) (pv 1) (nomark _))))))) pss_nil)
      (pss_cons (ps_if (pt_cmp (pc_isN (pv 1))) (pss_one (ps_ret (pe_cmp (pc_isN (pv 0)) rfl))) pss_nil)
      (pss_cons (ps_if (pt_val (pe_callB call_isi (by rfl) T.z_isinstance (by decide +kernel) (pa_cons (pv 1) (pa_cons (pe_bltn (v := .ty "int") (u := .type "int") (by rfl) T.z_int (by decide +kernel) rfl) pa_nil)))) (pss_one (ps_ret (pe_and (pe_callB call_isi (by rfl) T.z_isinstance (by decide +kernel) (pa_cons (pv 0) (pa_cons (pe_bltn (v := .ty "int") (u := .type "int") (by rfl) T.z_int (by decide +kernel) rfl) pa_nil))) (pe_one (pe_cmpR op_eq (pv 0) (pv 1) (nomark _)))))) pss_nil)
      (pss_one (ps_ret (pe_and (pe_callB call_isi (by rfl) T.z_isinstance (by decide +kernel) (pa_cons (pv 0) (pa_cons (pe_bltn (v := .ty "str") (u := .type "str") (by rfl) T.z_str (by decide +kernel) rfl) pa_nil))) (pe_one (pe_cmpR op_eq (pv 0) (pv 1) (nomark _)))))))))), ?_⟩
  try dsimp only [cxOf, Cx.nox, Cx.wish, Cx.blk]
  have hS := Sta.start (K := K) hG
  refine go_start (σ := [some x, some y, none]) rfl ?_
  have qb : ∀ {b : Bool} {G1 H1 : Hp}, Sta K G H [] G1 [] H1 → b = true → Q (.bl b) H1 := fun s e => by subst e; exact q _ _ s.adv
  walk_at "go"
  refine go_rawT hS (sz (by simp)) fun p G1 H1 e1 hS hp => ?_
  walk_at "go"
  have hx1 := hx.up e1
  have hy1 := hy.up e1
  cases d with
  | ins C fs => cases hd
  | non =>
    cases Rp.non_inv hx
    cases Rp.non_inv hy
    refine go_isiT hy1 hS.gh hp (t := "NoneType") rfl (by decide) (b1 := false) (b2 := false) (by walk_at "kit") (by walk_at "kit") ?_
    walk_at "go"
    exact qb hS rfl
  | bl b =>
    cases Rp.bl_inv hx
    cases Rp.bl_inv hy
    refine go_isiT hy1 hS.gh hp (t := "bool") rfl (by decide) (b1 := false) (b2 := false) (by walk_at "kit") (by walk_at "kit") ?_
    walk_at "go"
    exact qb hS (decide_eq_true rfl)
  | int i =>
    cases Rp.int_inv hx
    cases Rp.int_inv hy
    refine go_isiT hy1 hS.gh hp (t := "int") rfl (by decide) (b1 := false) (b2 := false) (by walk_at "kit") (by walk_at "kit") ?_
    walk_at "go"
    exact qb hS (decide_eq_true rfl)
  | str i =>
    cases Rp.str_inv hx
    cases Rp.str_inv hy
    refine go_isiT hy1 hS.gh hp (t := "str") rfl (by decide) (b1 := false) (b2 := false) (by walk_at "kit") (by walk_at "kit") ?_
    walk_at "go"
    exact qb hS (decide_eq_true rfl)
  | tup ds =>
    have hdl : ds.length ≤ 100000 ∧ ∀ e ∈ ds, okD n e = true := by
      simpa [okD] using hd
    refine go_isiT hy1 hS.gh hp (t := "tuple") rfl (by decide) (b1 := true) (b2 := false) (by walk_at "kit") (by walk_at "kit") ?_
    walk_at "go"
    walk_at "go"
    refine forR hS (fun i σ G2 M2 => M2 = [] ∧ ∃ kv, σ = [some x, some y, kv]) ⟨rfl, none, rfl⟩ ?_ ?_
    · rintro i σ G2 M2 H2 hi e2 hS2 ⟨rfl, kv, rfl⟩
      have hi' : i < ds.length := by simpa using hi
      have hat : atI ds (0 + (i : Int)) = some ds[i] := by rw [Int.zero_add]; exact atI_nat (List.getElem?_eq_getElem hi')
      walk_at "go"
      refine go_ixA (hx1.up e2) hS2.gh hat fun u hu => ?_
      walk_at "go"
      refine go_ixA (hy1.up e2) hS2.gh hat fun v hv => ?_
      walk_at "go"
      refine ⟨u, v, G2, ds[i], rfl, hS2.gh, hu, hv, hdl.2 _ (List.getElem_mem hi'), fun G3 H3 ad => ?_⟩
      walk_at "go"
      exact Nx.mk (hS2.call ad) (e2.trans ad.gg) ⟨rfl, _, rfl⟩
    · rintro σ G2 M2 H2 e2 hS2 ⟨rfl, kv, rfl⟩
      walk_at "go"
      exact qb hS2 rfl
  | lst ds =>
    have hdl : ds.length ≤ 100000 ∧ ∀ e ∈ ds, okD n e = true := by
      simpa [okD] using hd
    refine go_isiT hy1 hS.gh hp (t := "list") rfl (by decide) (b1 := false) (b2 := true) (by walk_at "kit") (by walk_at "kit") ?_
    walk_at "go"
    walk_at "go"
    refine forR hS (fun i σ G2 M2 => M2 = [] ∧ ∃ kv, σ = [some x, some y, kv]) ⟨rfl, none, rfl⟩ ?_ ?_
    · rintro i σ G2 M2 H2 hi e2 hS2 ⟨rfl, kv, rfl⟩
      have hi' : i < ds.length := by simpa using hi
      have hat : atI ds (0 + (i : Int)) = some ds[i] := by rw [Int.zero_add]; exact atI_nat (List.getElem?_eq_getElem hi')
      walk_at "go"
      refine go_ixB (hx1.up e2) hS2.gh hat fun u hu => ?_
      walk_at "go"
      refine go_ixB (hy1.up e2) hS2.gh hat fun v hv => ?_
      walk_at "go"
      refine ⟨u, v, G2, ds[i], rfl, hS2.gh, hu, hv, hdl.2 _ (List.getElem_mem hi'), fun G3 H3 ad => ?_⟩
      walk_at "go"
      exact Nx.mk (hS2.call ad) (e2.trans ad.gg) ⟨rfl, _, rfl⟩
    · rintro σ G2 M2 H2 e2 hS2 ⟨rfl, kv, rfl⟩
      walk_at "go"
      exact qb hS2 rfl
theorem ok_law_same (T : Txt K mg A) : FnOk P w K mg base CX0 5 A.f_law_same A.d_law_same ["actual", "expected"] (spSame K 5) := step_same T (step_same T (step_same T (step_same T (step_same T none_same))))
theorem go_same {G0 H0 G H : Hp} {D : List Addr} {M : List (Addr × HO)} {Q : VK} {E : XK} {x y : V} {d : Dt} (hS : Sta K G0 H0 D G M H) (hx : Rp K G x d) (hy : Rp K G y d) (hd : okD 5 d = true) (q : ∀ G1 H1, Same G G1 → Sta K G0 H0 D G1 M H1 → Q (.bl true) H1) : spSame K 5 [x, y] H Q E :=
  ⟨x, y, G, d, rfl, hS.gh, hx, hy, hd, fun G1 H1 ad => q G1 H1 ad.gg (hS.call ad)⟩
/-! ### bars: near, long -/
def gapF : Option Int → Option Int → Option Int
  | none, none => some 0
  | some x, some y => some (if x - y < 0 then -(x - y) else x - y)
  | _, _ => none
def nearB (b c : Bar) (lag : Int) : Bool := decide (b.1 - c.1 ≤ lag) && decide (c.1 - b.1 ≤ lag) && (match b.2, c.2 with
  | none, none => true
  | some x, some y => decide (x - y ≤ lag) && decide (y - x ≤ lag)
  | _, _ => false)
def longB (b : Bar) (lag : Int) : Bool := match b.2 with
  | none => true
  | some y => decide (2 * lag < y - b.1)
theorem nearB_comm (b c : Bar) (lag : Int) : nearB b c lag = nearB c b lag := by
  obtain ⟨b0, b1⟩ := b
  obtain ⟨c0, c1⟩ := c
  rw [Bool.eq_iff_iff]
  cases b1 <;> cases c1 <;> simp [nearB] <;> omega
theorem nearB_refl (b : Bar) {lag : Int} (h : 0 ≤ lag) : nearB b b lag = true := by
  obtain ⟨b0, b1⟩ := b
  cases b1 <;> simp [nearB] <;> omega
def spGap : Sp := fun vs H Q _ => ∃ a b : Option Int, vs = [optV a, optV b] ∧ Q (optV (gapF a b)) H
def spNear (K : PySem.W.Frag) : Sp := fun vs H Q _ => ∃ (x y : V) (lag : Int) (G : Hp) (b c : Bar), vs = [x, y, .int lag] ∧ Same G H ∧ Rp K G x (barD b) ∧ Rp K G y (barD c) ∧ Q (.bl (nearB b c lag)) H
def spLong (K : PySem.W.Frag) : Sp := fun vs H Q _ => ∃ (x : V) (lag : Int) (G : Hp) (b : Bar), vs = [x, .int lag] ∧ Same G H ∧ Rp K G x (barD b) ∧ Q (.bl (longB b lag)) H
theorem go_near {G0 H0 G H : Hp} {D : List Addr} {M : List (Addr × HO)} {Q : VK} {E : XK} {x y : V} {b c : Bar} {lag : Int} (hS : Sta K G0 H0 D G M H) (hx : Rp K G x (barD b)) (hy : Rp K G y (barD c)) (q : Q (.bl (nearB b c lag)) H) : spNear K [x, y, .int lag] H Q E := ⟨x, y, lag, G, b, c, rfl, hS.gh, hx, hy, q⟩
theorem go_long {G0 H0 G H : Hp} {D : List Addr} {M : List (Addr × HO)} {Q : VK} {E : XK} {x : V} {b : Bar} {lag : Int} (hS : Sta K G0 H0 D G M H) (hx : Rp K G x (barD b)) (q : Q (.bl (longB b lag)) H) : spLong K [x, .int lag] H Q E := ⟨x, lag, G, b, rfl, hS.gh, hx, q⟩
theorem go_gap {Q : VK} {E : XK} {H : Hp} {x y : V} {a b : Option Int} (hx : x = optV a) (hy : y = optV b) (q : Q (optV (gapF a b)) H) : spGap [x, y] H Q E := by
  subst hx hy
  exact ⟨a, b, rfl, q⟩
theorem ok_gap (T : Txt K mg A) : FnOk P w K mg base CX0 1 A.f_gap A.d_gap ["one", "other"] spGap := by
  refine T.F_gap.ok sc_gap (fun vs H Q E h => by first | (obtain ⟨rfl, _⟩ := h; rfl) | (obtain ⟨_, rfl, _⟩ := h; rfl) | (obtain ⟨_, _, rfl, _⟩ := h; rfl) | (obtain ⟨_, _, _, rfl, _⟩ := h; rfl) | (obtain ⟨_, _, _, _, rfl, _⟩ := h; rfl) | (obtain ⟨_, _, _, _, _, rfl, _⟩ := h; rfl) | (obtain ⟨_, _, _, _, _, _, rfl, _⟩ := h; rfl) | (obtain ⟨_, _, _, _, _, _, _, rfl, _⟩ := h; rfl) | (obtain ⟨_, _, _, _, _, _, _, _, rfl, _⟩ := h; rfl) | (obtain ⟨_, _, _, _, _, _, _, _, _, rfl, _⟩ := h; rfl) | (obtain ⟨_, _, _, _, _, _, _, _, _, _, rfl, _⟩ := h; rfl) | (obtain ⟨_, _, _, _, _, _, _, _, _, _, _, rfl, _⟩ := h; rfl) | (obtain ⟨_, _, _, _, _, _, _, _, _, _, _, _, rfl, _⟩ := h; rfl) | (obtain ⟨_, _, _, _, _, _, _, _, _, _, _, _, _, rfl, _⟩ := h; rfl)) (fun cdv AA outer s H vs Q E hr h => ?_)
  obtain ⟨a, b, rfl, q⟩ := h
  refine ⟨_, (pss_cons (ps_if (PW.pt (pw_and (pt_cmp (pc_isN (pv 0))) (pw_and1 (pt_cmp (pc_isN (pv 1)))))) (pss_one (ps_ret pe_int)) pss_nil)
      (pss_cons (ps_if (PW.pt (pw_or (pt_cmp (pc_isN (pv 0))) (pw_or1 (pt_cmp (pc_isN (pv 1)))))) (pss_one (ps_ret pe_non)) pss_nil)
      (pss_one (ps_ret (pe_callB b_abs (by rfl) T.z_abs (by decide +kernel) (pa_cons (pe_op op_sub (pv 0) (pv 1)) pa_nil)))))), ?_⟩
  try dsimp only [cxOf, Cx.nox, Cx.wish, Cx.blk]
  have hS := Sta.start (K := K) (Same.refl H)
  refine go_start (σ := [some (optV a), some (optV b)]) rfl ?_
  cases a <;> cases b <;> dsimp only [optV, gapF] at q ⊢ <;> (walk_at "go") <;> exact q
theorem ok_are_near (T : Txt K mg A) : FnOk P w K mg base CX0 2 A.f_are_near A.d_are_near ["bar", "other", "lag"] (spNear K) := by
  have G_gap := ok_gap (P := P) (w := w) (base := base) T
  refine T.F_are_near.ok sc_are_near (fun vs H Q E h => by first | (obtain ⟨rfl, _⟩ := h; rfl) | (obtain ⟨_, rfl, _⟩ := h; rfl) | (obtain ⟨_, _, rfl, _⟩ := h; rfl) | (obtain ⟨_, _, _, rfl, _⟩ := h; rfl) | (obtain ⟨_, _, _, _, rfl, _⟩ := h; rfl) | (obtain ⟨_, _, _, _, _, rfl, _⟩ := h; rfl) | (obtain ⟨_, _, _, _, _, _, rfl, _⟩ := h; rfl) | (obtain ⟨_, _, _, _, _, _, _, rfl, _⟩ := h; rfl) | (obtain ⟨_, _, _, _, _, _, _, _, rfl, _⟩ := h; rfl) | (obtain ⟨_, _, _, _, _, _, _, _, _, rfl, _⟩ := h; rfl) | (obtain ⟨_, _, _, _, _, _, _, _, _, _, rfl, _⟩ := h; rfl) | (obtain ⟨_, _, _, _, _, _, _, _, _, _, _, rfl, _⟩ := h; rfl) | (obtain ⟨_, _, _, _, _, _, _, _, _, _, _, _, rfl, _⟩ := h; rfl) | (obtain ⟨_, _, _, _, _, _, _, _, _, _, _, _, _, rfl, _⟩ := h; rfl)) (fun cdv AA outer s H vs Q E hr h => ?_)
  obtain ⟨x, y, lag, G, b, c, rfl, hG, hx, hy, q⟩ := h
  refine ⟨_, (pss_cons (ps_set (i := 3) sc_are_near.nd rfl (by first | exact Or.inl rfl | exact Or.inr rfl) (pe_call G_gap (hr.mono (by first | decide | omega)) (by rfl) T.m_gap T.F_gap.kp T.b_gap .nil pass0 (pa_cons (pe_ix ix_seq (pv 0) pe_int (fun _ _ => rfl)) (pa_cons (pe_ix ix_seq (pv 1) pe_int (fun _ _ => rfl)) pa_nil))))
      (pss_one (ps_ret (pe_and (pe_cmpR op_le (pe_callB b_abs (by rfl) T.z_abs (by decide +kernel) (pa_cons (pe_op op_sub (pe_ix ix_seq (pv 0) pe_int (fun _ _ => rfl)) (pe_ix ix_seq (pv 1) pe_int (fun _ _ => rfl))) pa_nil)) (pv 2) (nomark _)) (pe_and (pe_cmp (pc_notN (pv 3)) rfl) (pe_one (pe_cmpR op_le (pv 3) (pv 2) (nomark _)))))))), ?_⟩
  try dsimp only [cxOf, Cx.nox, Cx.wish, Cx.blk]
  have hS := Sta.start (K := K) hG
  refine go_start (σ := [some x, some y, some (.int lag), none]) rfl ?_
  have qq : ∀ {b' : Bool}, b' = nearB b c lag → Q (.bl b') H := fun e => by subst e; exact q
  obtain ⟨b0, b1⟩ := b
  obtain ⟨c0, c1⟩ := c
  unfold barD at hx hy
  walk_at "go"
  refine go_gap (a := b1) (b := c1) (optD_inv ‹_›) (optD_inv ‹_›) ?_
  cases b1 <;> cases c1 <;> simp only [gapF, optV] <;> (walk_at "go") <;> refine qq ?_ <;> rw [Bool.eq_iff_iff] <;> simp [nearB] <;> (try split) <;> (try omega)
theorem ok_is_long (T : Txt K mg A) : FnOk P w K mg base CX0 1 A.f_is_long A.d_is_long ["bar", "lag"] (spLong K) := by
  refine T.F_is_long.ok sc_is_long (fun vs H Q E h => by first | (obtain ⟨rfl, _⟩ := h; rfl) | (obtain ⟨_, rfl, _⟩ := h; rfl) | (obtain ⟨_, _, rfl, _⟩ := h; rfl) | (obtain ⟨_, _, _, rfl, _⟩ := h; rfl) | (obtain ⟨_, _, _, _, rfl, _⟩ := h; rfl) | (obtain ⟨_, _, _, _, _, rfl, _⟩ := h; rfl) | (obtain ⟨_, _, _, _, _, _, rfl, _⟩ := h; rfl) | (obtain ⟨_, _, _, _, _, _, _, rfl, _⟩ := h; rfl) | (obtain ⟨_, _, _, _, _, _, _, _, rfl, _⟩ := h; rfl) | (obtain ⟨_, _, _, _, _, _, _, _, _, rfl, _⟩ := h; rfl) | (obtain ⟨_, _, _, _, _, _, _, _, _, _, rfl, _⟩ := h; rfl) | (obtain ⟨_, _, _, _, _, _, _, _, _, _, _, rfl, _⟩ := h; rfl) | (obtain ⟨_, _, _, _, _, _, _, _, _, _, _, _, rfl, _⟩ := h; rfl) | (obtain ⟨_, _, _, _, _, _, _, _, _, _, _, _, _, rfl, _⟩ := h; rfl)) (fun cdv AA outer s H vs Q E hr h => ?_)
  obtain ⟨x, lag, G, b, rfl, hG, hx, q⟩ := h
  refine ⟨_, (pss_one (ps_ret (pe_or (pe_cmp (pc_isN (pe_ix ix_seq (pv 0) pe_int (fun _ _ => rfl))) rfl) (pe_one (pe_cmpR op_gt (pe_op op_sub (pe_ix ix_seq (pv 0) pe_int (fun _ _ => rfl)) (pe_ix ix_seq (pv 0) pe_int (fun _ _ => rfl))) (pe_op op_mul pe_int (pv 1)) (nomark _)))))), ?_⟩
  try dsimp only [cxOf, Cx.nox, Cx.wish, Cx.blk]
  have hS := Sta.start (K := K) hG
  refine go_start (σ := [some x, some (.int lag)]) rfl ?_
  obtain ⟨b0, b1⟩ := b
  unfold barD at hx
  cases b1 <;> (walk_at "go") <;> exact q
theorem ok_law_are_near (T : Txt K mg A) : FnOk P w K mg base CX0 1 A.f_law_are_near A.d_law_are_near ["bar", "other", "lag"] (spNear K) := by
  refine T.F_law_are_near.ok sc_law_are_near (fun vs H Q E h => by first | (obtain ⟨rfl, _⟩ := h; rfl) | (obtain ⟨_, rfl, _⟩ := h; rfl) | (obtain ⟨_, _, rfl, _⟩ := h; rfl) | (obtain ⟨_, _, _, rfl, _⟩ := h; rfl) | (obtain ⟨_, _, _, _, rfl, _⟩ := h; rfl) | (obtain ⟨_, _, _, _, _, rfl, _⟩ := h; rfl) | (obtain ⟨_, _, _, _, _, _, rfl, _⟩ := h; rfl) | (obtain ⟨_, _, _, _, _, _, _, rfl, _⟩ := h; rfl) | (obtain ⟨_, _, _, _, _, _, _, _, rfl, _⟩ := h; rfl) | (obtain ⟨_, _, _, _, _, _, _, _, _, rfl, _⟩ := h; rfl) | (obtain ⟨_, _, _, _, _, _, _, _, _, _, rfl, _⟩ := h; rfl) | (obtain ⟨_, _, _, _, _, _, _, _, _, _, _, rfl, _⟩ := h; rfl) | (obtain ⟨_, _, _, _, _, _, _, _, _, _, _, _, rfl, _⟩ := h; rfl) | (obtain ⟨_, _, _, _, _, _, _, _, _, _, _, _, _, rfl, _⟩ := h; rfl)) (fun cdv AA outer s H vs Q E hr h => ?_)
  obtain ⟨x, y, lag, G, b, c, rfl, hG, hx, hy, q⟩ := h
  refine ⟨_, (pss_cons (ps_if (PW.pt (pw_or (pt_cmpR op_gt (pe_op op_sub (pe_ix ix_seq (pv 0) pe_int (fun _ _ => rfl)) (pe_ix ix_seq (pv 1) pe_int (fun _ _ => rfl))) (pv 2) (nomark _)) (pw_or (pt_cmpR op_gt (pe_op op_sub (pe_ix ix_seq (pv 1) pe_int (fun _ _ => rfl)) (pe_ix ix_seq (pv 0) pe_int (fun _ _ => rfl))) (pv 2) (nomark _)) (pw_or1 (pt_cmpR op_ne (pe_cmp (pc_isN (pe_ix ix_seq (pv 0) pe_int (fun _ _ => rfl))) rfl) (pe_cmp (pc_isN (pe_ix ix_seq (pv 1) pe_int (fun _ _ => rfl))) rfl) (nomark _)))))) (pss_one (ps_ret pe_bl)) pss_nil)
      (pss_one (ps_ret (pe_or (pe_cmp (pc_isN (pe_ix ix_seq (pv 0) pe_int (fun _ _ => rfl))) rfl) (pe_one (pe_and (pe_cmpR op_le (pe_op op_sub (pe_ix ix_seq (pv 0) pe_int (fun _ _ => rfl)) (pe_ix ix_seq (pv 1) pe_int (fun _ _ => rfl))) (pv 2) (nomark _)) (pe_one (pe_cmpR op_le (pe_op op_sub (pe_ix ix_seq (pv 1) pe_int (fun _ _ => rfl)) (pe_ix ix_seq (pv 0) pe_int (fun _ _ => rfl))) (pv 2) (nomark _))))))))), ?_⟩
  try dsimp only [cxOf, Cx.nox, Cx.wish, Cx.blk]
  have hS := Sta.start (K := K) hG
  refine go_start (σ := [some x, some y, some (.int lag)]) rfl ?_
  have qq : ∀ {b' : Bool}, b' = nearB b c lag → Q (.bl b') H := fun e => by subst e; exact q
  obtain ⟨b0, b1⟩ := b
  obtain ⟨c0, c1⟩ := c
  unfold barD at hx hy
  cases b1 <;> cases c1 <;> (walk_at "go") <;> refine qq ?_ <;> rw [Bool.eq_iff_iff] <;> simp [nearB] <;> (try omega)
theorem ok_law_is_long (T : Txt K mg A) : FnOk P w K mg base CX0 1 A.f_law_is_long A.d_law_is_long ["bar", "lag"] (spLong K) := by
  refine T.F_law_is_long.ok sc_law_is_long (fun vs H Q E h => by first | (obtain ⟨rfl, _⟩ := h; rfl) | (obtain ⟨_, rfl, _⟩ := h; rfl) | (obtain ⟨_, _, rfl, _⟩ := h; rfl) | (obtain ⟨_, _, _, rfl, _⟩ := h; rfl) | (obtain ⟨_, _, _, _, rfl, _⟩ := h; rfl) | (obtain ⟨_, _, _, _, _, rfl, _⟩ := h; rfl) | (obtain ⟨_, _, _, _, _, _, rfl, _⟩ := h; rfl) | (obtain ⟨_, _, _, _, _, _, _, rfl, _⟩ := h; rfl) | (obtain ⟨_, _, _, _, _, _, _, _, rfl, _⟩ := h; rfl) | (obtain ⟨_, _, _, _, _, _, _, _, _, rfl, _⟩ := h; rfl) | (obtain ⟨_, _, _, _, _, _, _, _, _, _, rfl, _⟩ := h; rfl) | (obtain ⟨_, _, _, _, _, _, _, _, _, _, _, rfl, _⟩ := h; rfl) | (obtain ⟨_, _, _, _, _, _, _, _, _, _, _, _, rfl, _⟩ := h; rfl) | (obtain ⟨_, _, _, _, _, _, _, _, _, _, _, _, _, rfl, _⟩ := h; rfl)) (fun cdv AA outer s H vs Q E hr h => ?_)
  obtain ⟨x, lag, G, b, rfl, hG, hx, q⟩ := h
  refine ⟨_, (pss_one (ps_ret (pe_or (pe_cmp (pc_isN (pe_ix ix_seq (pv 0) pe_int (fun _ _ => rfl))) rfl) (pe_one (pe_cmpR op_gt (pe_op op_sub (pe_ix ix_seq (pv 0) pe_int (fun _ _ => rfl)) (pe_ix ix_seq (pv 0) pe_int (fun _ _ => rfl))) (pe_op op_mul pe_int (pv 1)) (nomark _)))))), ?_⟩
  try dsimp only [cxOf, Cx.nox, Cx.wish, Cx.blk]
  have hS := Sta.start (K := K) hG
  refine go_start (σ := [some x, some (.int lag)]) rfl ?_
  obtain ⟨b0, b1⟩ := b
  unfold barD at hx
  cases b1 <;> (walk_at "go") <;> exact q
def spLaw (K : PySem.W.Frag) : Sp := fun vs H Q _ => ∃ (a : Addr) (ns : List Int), vs = [.ref a] ∧ SqL K H a (ns.map V.int) ∧ ns.length ≤ 63 ∧ ∀ H', Q (.bl true) H'
theorem spLaw_in (K : PySem.W.Frag) (H : Hp) (a : Addr) (ns : List Int) (hl : ns.length ≤ 63) (_ : Only H) (hS : SqL K H a (ns.map V.int)) : spLaw K [.ref a] H (fun v _ => v = .bl true) fun _ _ _ => False := ⟨a, ns, rfl, hS, hl, fun _ => rfl⟩
local macro_rules | `(tactic| walk_at "ro") => `(tactic| first | assumption | ((with_reducible refine' RowOk.up (G := ?m) ?e ?g); (case e => assumption); (case g => walk_at "ro")) | fail)
local macro_rules | `(tactic| walk_at "s") => `(tactic| first | ((with_reducible refine' go_next_ (at_ := ?t) (r := ?r) (i := ?i) (M' := ?M') ?hS ?hi ?hr ?h0 ?h1 ?hm ?hM ?_); (case hS => assumption); (case hi => walk_at "mi"); (case hr => walk_at "ro"); (case h0 => omega); (case h1 => omega); (case hm => omega); (case hM => walk_at "set"); (intro v H1 hv1 hv2 hS1)) | fail)
local macro_rules | `(tactic| walk_at "s") => `(tactic| first | ((with_reducible refine' go_cell (G := ?G) (ns := ?ns) ?hS ?hl ?h0 ?_); (case hS => assumption); (case hl => walk_at "rp"); (case h0 => omega); (intro v)) | fail)
local macro_rules | `(tactic| walk_at "s") => `(tactic| first | ((with_reducible refine' go_same (G := ?G) (d := ?d) ?hS ?hx ?hy ?hd ?_); (case hS => assumption); (case hx => walk_at "rp"); (case hy => walk_at "rp"); (case hd => first | exact rfl | assumption); (intro G1 H1 e1 hS1)) | fail)
local macro_rules | `(tactic| walk_at "s") => `(tactic| first
  | ((with_reducible refine' go_near (G := ?G) (b := ?b) (c := ?c) ?hS ?hx ?hy ?_); (case hS => assumption); (case hx => walk_at "rp"); (case hy => walk_at "rp"))
  | ((with_reducible refine' go_long (G := ?G) (b := ?b) ?hS ?hx ?_); (case hS => assumption); (case hx => walk_at "rp")) | fail)
theorem ok_law (T : Txt K mg A) : FnOk P w K mg base CX0 6 A.f_law A.d_law ["script"] (spLaw K) := by
  have G_law_are_near := ok_law_are_near (P := P) (w := w) (base := base) T
  have G_law_cell := ok_law_cell (P := P) (w := w) (base := base) T
  have G_law_draws := ok_law_draws (P := P) (w := w) (base := base) T
  have G_law_is_long := ok_law_is_long (P := P) (w := w) (base := base) T
  have G_law_next := ok_law_next (P := P) (w := w) (base := base) T
  have G_law_same := ok_law_same (P := P) (w := w) (base := base) T
  have G_are_near := ok_are_near (P := P) (w := w) (base := base) T
  have G_is_long := ok_is_long (P := P) (w := w) (base := base) T
  refine T.F_law.ok sc_law (fun vs H Q E h => by first | (obtain ⟨rfl, _⟩ := h; rfl) | (obtain ⟨_, rfl, _⟩ := h; rfl) | (obtain ⟨_, _, rfl, _⟩ := h; rfl) | (obtain ⟨_, _, _, rfl, _⟩ := h; rfl) | (obtain ⟨_, _, _, _, rfl, _⟩ := h; rfl) | (obtain ⟨_, _, _, _, _, rfl, _⟩ := h; rfl) | (obtain ⟨_, _, _, _, _, _, rfl, _⟩ := h; rfl) | (obtain ⟨_, _, _, _, _, _, _, rfl, _⟩ := h; rfl) | (obtain ⟨_, _, _, _, _, _, _, _, rfl, _⟩ := h; rfl) | (obtain ⟨_, _, _, _, _, _, _, _, _, rfl, _⟩ := h; rfl) | (obtain ⟨_, _, _, _, _, _, _, _, _, _, rfl, _⟩ := h; rfl) | (obtain ⟨_, _, _, _, _, _, _, _, _, _, _, rfl, _⟩ := h; rfl) | (obtain ⟨_, _, _, _, _, _, _, _, _, _, _, _, rfl, _⟩ := h; rfl) | (obtain ⟨_, _, _, _, _, _, _, _, _, _, _, _, _, rfl, _⟩ := h; rfl)) (fun cdv AA outer s H vs Q E hr h => ?_)
  obtain ⟨a, ns, rfl, hs, hl, q⟩ := h
  refine ⟨_, (pss_cons (ps_for PassesOwn.never rfl (pi_range1 (by rfl) T.z_range (pa_cons (pe_callB (b_max rfl) (by rfl) T.z_max (by decide +kernel) (pa_cons pe_int (pa_cons (pe_callB (b_min rfl) (by rfl) T.z_min (by decide +kernel) (pa_cons (pe_callB b_len (by rfl) T.z_len (by decide +kernel) (pa_cons (pv 0) pa_nil)) (pa_cons pe_int pa_nil))) pa_nil))) pa_nil)) (pg_name (i := 1) sc_law.nd rfl (by first | exact Or.inl rfl | exact Or.inr rfl)) (pss_cons (ps_set (i := 2) sc_law.nd rfl (by first | exact Or.inl rfl | exact Or.inr rfl) (pe_call G_law_draws (hr.mono (by first | decide | omega)) (by rfl) T.m_law_draws T.F_law_draws.kp T.b_law_draws .nil pass0 (pa_cons (pe_call G_law_cell (hr.mono (by first | decide | omega)) (by rfl) T.m_law_cell T.F_law_cell.kp T.b_law_cell .nil pass0 (pa_cons (pv 0) (pa_cons (pv 1) pa_nil))) pa_nil)))
      (pss_cons (ps_set (i := 3) sc_law.nd rfl (by first | exact Or.inl rfl | exact Or.inr rfl) (pe_lst pa_nil))
      (pss_cons (ps_set (i := 4) sc_law.nd rfl (by first | exact Or.inl rfl | exact Or.inr rfl) (pe_call G_law_next (hr.mono (by first | decide | omega)) (by rfl) T.m_law_next T.F_law_next.kp T.b_law_next .nil pass0 (pa_cons (pv 2) (pa_cons pe_int pa_nil))))
      (pss_cons (ps_for PassesOwn.never rfl (pi_range1 (by rfl) T.z_range (pa_cons pe_int pa_nil)) (pg_name (i := 5) sc_law.nd rfl (by first | exact Or.inl rfl | exact Or.inr rfl)) (pss_cons (ps_set (i := 6) sc_law.nd rfl (by first | exact Or.inl rfl | exact Or.inr rfl) (pe_call G_law_next (hr.mono (by first | decide | omega)) (by rfl) T.m_law_next T.F_law_next.kp T.b_law_next .nil pass0 (pa_cons (pv 2) (pa_cons (pe_ix ix_seq (pe_lst (pa_cons pe_int (pa_cons pe_int pa_nil))) (pv 4) (fun _ _ => rfl)) pa_nil))))
      (pss_cons (ps_set (i := 7) sc_law.nd rfl (by first | exact Or.inl rfl | exact Or.inr rfl) (pe_op op_add (pe_op op_add (pv 6) pe_int) (pe_call G_law_next (hr.mono (by first | decide | omega)) (by rfl) T.m_law_next T.F_law_next.kp T.b_law_next .nil pass0 (pa_cons (pv 2) (pa_cons (pe_ix ix_seq (pe_lst (pa_cons pe_int (pa_cons (pe_op op_sub pe_int (pv 6)) pa_nil))) (pv 4) (fun _ _ => rfl)) pa_nil)))))
      (pss_cons (ps_if (PW.pt (pw_or (pt_cmpR op_eq (pe_call G_law_next (hr.mono (by first | decide | omega)) (by rfl) T.m_law_next T.F_law_next.kp T.b_law_next .nil pass0 (pa_cons (pv 2) (pa_cons pe_int pa_nil))) pe_int (nomark _)) (pw_or1 (pt_cmpR op_gt (pv 7) pe_int (nomark _))))) (pss_one (ps_set (i := 7) sc_law.nd rfl (by first | exact Or.inl rfl | exact Or.inr rfl) pe_non)) pss_nil)
      (pss_one (ps_expr (pe_bm PySem.F.plainAttrs_list PySem.F.slot_list_append PySem.F.type_list_append mt_append (pv 3) (pa_cons (pe_tup (pa_cons (pv 6) (pa_cons (pv 7) pa_nil))) pa_nil))))))))
      (pss_cons (ps_set (i := 8) sc_law.nd rfl (by first | exact Or.inl rfl | exact Or.inr rfl) (pe_call G_law_next (hr.mono (by first | decide | omega)) (by rfl) T.m_law_next T.F_law_next.kp T.b_law_next .nil pass0 (pa_cons (pv 2) (pa_cons (pe_ix ix_seq (pe_lst (pa_cons pe_int (pa_cons pe_int pa_nil))) (pv 4) (fun _ _ => rfl)) pa_nil))))
      (pss_cons (ps_if (PW.pt (pw_and (pt_cmpR op_eq (pe_call G_law_next (hr.mono (by first | decide | omega)) (by rfl) T.m_law_next T.F_law_next.kp T.b_law_next .nil pass0 (pa_cons (pv 2) (pa_cons pe_int pa_nil))) pe_int (nomark _)) (pw_and1 (pt_cmp (pc_notN (pe_ix ix_seq (pe_ix ix_seq (pv 3) pe_int (fun _ _ => rfl)) pe_int (fun _ _ => rfl))))))) (pss_one (ps_set (i := 8) sc_law.nd rfl (by first | exact Or.inl rfl | exact Or.inr rfl) (pe_op op_fdiv (pe_op op_sub (pe_ix ix_seq (pe_ix ix_seq (pv 3) pe_int (fun _ _ => rfl)) pe_int (fun _ _ => rfl)) (pe_ix ix_seq (pe_ix ix_seq (pv 3) pe_int (fun _ _ => rfl)) pe_int (fun _ _ => rfl))) pe_int))) pss_nil)
      (pss_cons (ps_set (i := 9) sc_law.nd rfl (by first | exact Or.inl rfl | exact Or.inr rfl) (pe_call G_law_are_near (hr.mono (by first | decide | omega)) (by rfl) T.m_law_are_near T.F_law_are_near.kp T.b_law_are_near .nil pass0 (pa_cons (pe_ix ix_seq (pv 3) pe_int (fun _ _ => rfl)) (pa_cons (pe_ix ix_seq (pv 3) pe_int (fun _ _ => rfl)) (pa_cons (pv 8) pa_nil)))))
      (pss_cons (ps_if (PW.pt (pw_or (pt_not (pt_val (pe_call G_law_same (hr.mono (by first | decide | omega)) (by rfl) T.m_law_same T.F_law_same.kp T.b_law_same .nil pass0 (pa_cons (pe_callN G_are_near (hr.mono (by first | decide | omega)) (by rfl) T.m_are_near T.F_are_near.kp T.k2_are_near pass0 (pa_cons (pe_ix ix_seq (pv 3) pe_int (fun _ _ => rfl)) (pa_cons (pe_ix ix_seq (pv 3) pe_int (fun _ _ => rfl)) pa_nil)) (pk_cons (pv 8) pk_nil)) (pa_cons (pv 9) pa_nil))))) (pw_or1 (pt_not (pt_val (pe_call G_law_same (hr.mono (by first | decide | omega)) (by rfl) T.m_law_same T.F_law_same.kp T.b_law_same .nil pass0 (pa_cons (pe_callN G_are_near (hr.mono (by first | decide | omega)) (by rfl) T.m_are_near T.F_are_near.kp T.k2_are_near pass0 (pa_cons (pe_ix ix_seq (pv 3) pe_int (fun _ _ => rfl)) (pa_cons (pe_ix ix_seq (pv 3) pe_int (fun _ _ => rfl)) pa_nil)) (pk_cons (pv 8) pk_nil)) (pa_cons (pv 9) pa_nil)))))))) (pss_one (ps_ret pe_bl)) pss_nil)
      (pss_cons (ps_if (pt_not (pt_val (pe_call G_law_same (hr.mono (by first | decide | omega)) (by rfl) T.m_law_same T.F_law_same.kp T.b_law_same .nil pass0 (pa_cons (pe_callN G_are_near (hr.mono (by first | decide | omega)) (by rfl) T.m_are_near T.F_are_near.kp T.k2_are_near pass0 (pa_cons (pe_ix ix_seq (pv 3) pe_int (fun _ _ => rfl)) (pa_cons (pe_ix ix_seq (pv 3) pe_int (fun _ _ => rfl)) pa_nil)) (pk_cons pe_int pk_nil)) (pa_cons pe_bl pa_nil))))) (pss_one (ps_ret pe_bl)) pss_nil)
      (pss_one (ps_for PassesOwn.never rfl (pi_list (pv 3)) (pg_name (i := 10) sc_law.nd rfl (by first | exact Or.inl rfl | exact Or.inr rfl)) (pss_one (ps_if (pt_not (pt_val (pe_call G_law_same (hr.mono (by first | decide | omega)) (by rfl) T.m_law_same T.F_law_same.kp T.b_law_same .nil pass0 (pa_cons (pe_callN G_is_long (hr.mono (by first | decide | omega)) (by rfl) T.m_is_long T.F_is_long.kp T.k1_is_long pass0 (pa_cons (pv 10) pa_nil) (pk_cons (pv 8) pk_nil)) (pa_cons (pe_call G_law_is_long (hr.mono (by first | decide | omega)) (by rfl) T.m_law_is_long T.F_law_is_long.kp T.b_law_is_long .nil pass0 (pa_cons (pv 10) (pa_cons (pv 8) pa_nil))) pa_nil))))) (pss_one (ps_ret pe_bl)) pss_nil))))))))))))))
      (pss_one (ps_ret pe_bl))), ?_⟩
  try dsimp only [cxOf, Cx.nox, Cx.wish, Cx.blk]
  have hS := Sta.start (K := K) (Same.refl H)
  have hsc : Rp K H (.ref a) (.lst (ns.map .int)) := .lst hs .ints
  have hl2 : (ns.map Dt.int).length ≤ 63 := by simpa using hl
  refine go_start (σ := [some (.ref a), none, none, none, none, none, none, none, none, none, none]) rfl ?_
  walk_at "go"
  refine forR hS (fun i σ G1 M1 => M1 = [] ∧ ∃ v1 v2 v3 v4 v5 v6 v7 v8 v9 v10, σ = [some (.ref a), v1, v2, v3, v4, v5, v6, v7, v8, v9, v10]) ⟨rfl, _, _, _, _, _, _, _, _, _, _, rfl⟩ ?_ ?_
  · rintro i σ G1 M1 H1 hi e1 hS1 ⟨rfl, v1, v2, v3, v4, v5, v6, v7, v8, v9, v10, rfl⟩
    walk_at "go"
    refine go_draws ‹_› fun da r G2 H2 e2 hS2 hR => ?_
    walk_at "go"
    refine go_mutL hS2 (sz (by simp)) fun lb H3 lb0 lbg hS3 => ?_
    walk_at "go"
    rename_i cl far H4 hf1 hf2 hS4
    refine forR hS4 (fun j σ G' M' => ∃ (vs : List V) (bs : List Bar) (at_ : Int) (w5 w6 w7 : Option V), M' = [(lb, .lst vs), (da, drw r at_)] ∧ RpAll K G' vs (bs.map barD) ∧ bs.length = j ∧ 0 ≤ at_ ∧ at_ ≤ 1 + 3 * j ∧
      σ = [some (.ref a), some (.int (0 + (i : Int))), some (.ref da), some (.ref lb), some (.int far), w5, w6, w7, v8, v9, v10]) ⟨[], [], 1, _, _, _, rfl, .nil, rfl, by omega, by omega, rfl⟩ ?_ ?_
    · rintro j σ G5 M5 H5 hj e5 hS5 ⟨vs, bs, at_, w5, w6, w7, rfl, hvs, hbs, ha0, ha1, rfl⟩
      have hj' : j < 2 := hj
      have hvl := hvs.length
      simp only [List.length_map] at hvl
      walk_at "go"
      walk_at "nl"
      walk_at "go"
      refine go_pick2 (by walk_at "rp") (Sta.gh (by assumption)) hf1 hf2 fun m1 hm1 => ?_
      walk_at "go"
      walk_at "nl"
      walk_at "go"
      refine go_pick2 (by walk_at "rp") (Sta.gh (by assumption)) hf1 hf2 fun m2 hm2 => ?_
      walk_at "go"
      · exact Nx.mk (by assumption) (by walk_at "sm") ⟨_, bs ++ [(_, none)], _, _, _, _, rfl, by rw [List.map_append]; exact (RpAll.up (by walk_at "sm") hvs).app (.one (by walk_at "rp")), by simp [hbs], by omega, by omega, rfl⟩
      · exact Nx.mk (by assumption) (by walk_at "sm") ⟨_, bs ++ [(_, none)], _, _, _, _, rfl, by rw [List.map_append]; exact (RpAll.up (by walk_at "sm") hvs).app (.one (by walk_at "rp")), by simp [hbs], by omega, by omega, rfl⟩
      · exact Nx.mk (by assumption) (by walk_at "sm") ⟨_, bs ++ [(_, some _)], _, _, _, _, rfl, by rw [List.map_append]; exact (RpAll.up (by walk_at "sm") hvs).app (.one (by walk_at "rp")), by simp [hbs], by omega, by omega, rfl⟩
    · rintro σ G5 M5 H5 e5 hS5 ⟨vs, bs, at_, w5, w6, w7, rfl, hvs, hbs, ha0, ha1, rfl⟩
      obtain ⟨G6, e6, hS6, hB⟩ := hS5.frzL lb0 hvs
      have ha1' : at_ ≤ 7 := ha1
      obtain ⟨b0, b1, rfl⟩ : ∃ b0 b1, bs = [b0, b1] := by
        match bs, hbs with
        | [x, y], _ => exact ⟨x, y, rfl⟩
      simp only [List.map_cons, List.map_nil] at hB
      obtain ⟨x0, o0⟩ := b0
      cases o0
      all_goals
        walk_at "go"
        walk_at "nl"
        walk_at "go"
        refine go_pick2 (by walk_at "rp") (Sta.gh (by assumption)) hf1 hf2 fun m1 hm1 => ?_
        walk_at "go"
        all_goals try (cases ‹V.non ≠ V.non›)
        all_goals try (exact absurd rfl ‹¬ (V.int _ = V.non)›)
      all_goals
        rw [nearB_comm b1 (x0, _)]
        walk_at "go"
        rw [nearB_refl (x0, _) (by omega)]
        walk_at "go"
        refine forLS (by assumption) ‹SqL K _ lb _› ‹RpAll K _ _ [barD _, barD b1]› (fun i' x d G8 H8 hi8 hd8 e8 hS8 hx8 => ?_) (fun u G8 H8 e8 hS8 => ?_)
        · obtain ⟨b', rfl⟩ : ∃ b', d = barD b' := by
            match i', hd8 with
            | 0, h => exact ⟨_, (Option.some.inj h).symm⟩
            | 1, h => exact ⟨_, (Option.some.inj h).symm⟩
            | i'' + 2, h => simp at h
          walk_at "go"
          exact Nx.mk (by assumption) (by walk_at "sm") ⟨rfl, _, rfl⟩
        · exact Nx.mk (Sta.pop (by assumption)) (by walk_at "sm") ⟨rfl, _, _, _, _, _, _, _, _, _, _, rfl⟩
  · rintro σ G1 M1 H1 e1 hS1 ⟨rfl, v1, v2, v3, v4, v5, v6, v7, v8, v9, v10, rfl⟩
    walk_at "go"
    exact q _
end
theorem all_mk {l : PySem.W.OpenLaw} {w : World} {K : PySem.W.Frag} {h : Heap} {mg : Str → Option Value} {fa : Addr} (X : K.In h) (G : h.Ns mainGlobals mg) (hfa : mg "law" = some (.ref fa))
    {f0 : Addr} {od0 an0 : Option Addr} {sl0 : Array (Option Value)} {oc0 kV0 dc0 pm0 cd0 ct0 : Value}
    {f1 : Addr} {od1 an1 : Option Addr} {sl1 : Array (Option Value)} {oc1 kV1 dc1 pm1 cd1 ct1 : Value}
    {f2 : Addr} {od2 an2 : Option Addr} {sl2 : Array (Option Value)} {oc2 kV2 dc2 pm2 cd2 ct2 : Value}
    {f3 : Addr} {od3 an3 : Option Addr} {sl3 : Array (Option Value)} {oc3 kV3 dc3 pm3 cd3 ct3 : Value}
    {f4 : Addr} {od4 an4 : Option Addr} {sl4 : Array (Option Value)} {oc4 kV4 dc4 pm4 cd4 ct4 : Value}
    {f5 : Addr} {od5 an5 : Option Addr} {sl5 : Array (Option Value)} {oc5 kV5 dc5 pm5 cd5 ct5 : Value}
    {f6 : Addr} {od6 an6 : Option Addr} {sl6 : Array (Option Value)} {oc6 kV6 dc6 pm6 cd6 ct6 : Value}
    {f7 : Addr} {od7 an7 : Option Addr} {sl7 : Array (Option Value)} {oc7 kV7 dc7 pm7 cd7 ct7 : Value}
    {f8 : Addr} {od8 an8 : Option Addr} {sl8 : Array (Option Value)} {oc8 kV8 dc8 pm8 cd8 ct8 : Value}
    {f9 : Addr} {od9 an9 : Option Addr} {sl9 : Array (Option Value)} {oc9 kV9 dc9 pm9 cd9 ct9 : Value}
    (a0 : PySem.W.nsIn K mainGlobals "gap" = some (some (.ref f0)))
    (l0 : K.lookup f0 = some ⟨oc0, od0, .func (PySem.W.fnOf "gap" "gap" (defArgs s_gap) (defBody s_gap) (defScope s_gap) .none kV0 dc0 pm0 an0 cd0 ct0), sl0⟩) (c0 : PySem.W.codeIn K cd0 "gap" = true) (k0 : PySem.W.keepIn K (.ref f0) = true)
    (a1 : PySem.W.nsIn K mainGlobals "are_near" = some (some (.ref f1)))
    (l1 : K.lookup f1 = some ⟨oc1, od1, .func (PySem.W.fnOf "are_near" "are_near" (defArgs s_are_near) (defBody s_are_near) (defScope s_are_near) .none kV1 dc1 pm1 an1 cd1 ct1), sl1⟩) (c1 : PySem.W.codeIn K cd1 "are_near" = true) (k1 : PySem.W.keepIn K (.ref f1) = true)
    (a2 : PySem.W.nsIn K mainGlobals "is_long" = some (some (.ref f2)))
    (l2 : K.lookup f2 = some ⟨oc2, od2, .func (PySem.W.fnOf "is_long" "is_long" (defArgs s_is_long) (defBody s_is_long) (defScope s_is_long) .none kV2 dc2 pm2 an2 cd2 ct2), sl2⟩) (c2 : PySem.W.codeIn K cd2 "is_long" = true) (k2 : PySem.W.keepIn K (.ref f2) = true)
    (a3 : PySem.W.nsIn K mainGlobals "_law_cell" = some (some (.ref f3)))
    (l3 : K.lookup f3 = some ⟨oc3, od3, .func (PySem.W.fnOf "_law_cell" "_law_cell" (defArgs s_law_cell) (defBody s_law_cell) (defScope s_law_cell) .none kV3 dc3 pm3 an3 cd3 ct3), sl3⟩) (c3 : PySem.W.codeIn K cd3 "_law_cell" = true) (k3 : PySem.W.keepIn K (.ref f3) = true)
    (a4 : PySem.W.nsIn K mainGlobals "_law_draws" = some (some (.ref f4)))
    (l4 : K.lookup f4 = some ⟨oc4, od4, .func (PySem.W.fnOf "_law_draws" "_law_draws" (defArgs s_law_draws) (defBody s_law_draws) (defScope s_law_draws) .none kV4 dc4 pm4 an4 cd4 ct4), sl4⟩) (c4 : PySem.W.codeIn K cd4 "_law_draws" = true) (k4 : PySem.W.keepIn K (.ref f4) = true)
    (a5 : PySem.W.nsIn K mainGlobals "_law_next" = some (some (.ref f5)))
    (l5 : K.lookup f5 = some ⟨oc5, od5, .func (PySem.W.fnOf "_law_next" "_law_next" (defArgs s_law_next) (defBody s_law_next) (defScope s_law_next) .none kV5 dc5 pm5 an5 cd5 ct5), sl5⟩) (c5 : PySem.W.codeIn K cd5 "_law_next" = true) (k5 : PySem.W.keepIn K (.ref f5) = true)
    (a6 : PySem.W.nsIn K mainGlobals "_law_same" = some (some (.ref f6)))
    (l6 : K.lookup f6 = some ⟨oc6, od6, .func (PySem.W.fnOf "_law_same" "_law_same" (defArgs s_law_same) (defBody s_law_same) (defScope s_law_same) .none kV6 dc6 pm6 an6 cd6 ct6), sl6⟩) (c6 : PySem.W.codeIn K cd6 "_law_same" = true) (k6 : PySem.W.keepIn K (.ref f6) = true)
    (a7 : PySem.W.nsIn K mainGlobals "_law_are_near" = some (some (.ref f7)))
    (l7 : K.lookup f7 = some ⟨oc7, od7, .func (PySem.W.fnOf "_law_are_near" "_law_are_near" (defArgs s_law_are_near) (defBody s_law_are_near) (defScope s_law_are_near) .none kV7 dc7 pm7 an7 cd7 ct7), sl7⟩) (c7 : PySem.W.codeIn K cd7 "_law_are_near" = true) (k7 : PySem.W.keepIn K (.ref f7) = true)
    (a8 : PySem.W.nsIn K mainGlobals "_law_is_long" = some (some (.ref f8)))
    (l8 : K.lookup f8 = some ⟨oc8, od8, .func (PySem.W.fnOf "_law_is_long" "_law_is_long" (defArgs s_law_is_long) (defBody s_law_is_long) (defScope s_law_is_long) .none kV8 dc8 pm8 an8 cd8 ct8), sl8⟩) (c8 : PySem.W.codeIn K cd8 "_law_is_long" = true) (k8 : PySem.W.keepIn K (.ref f8) = true)
    (a9 : PySem.W.nsIn K mainGlobals "law" = some (some (.ref f9)))
    (l9 : K.lookup f9 = some ⟨oc9, od9, .func (PySem.W.fnOf "law" "law" (defArgs s_law) (defBody s_law) (defScope s_law) .none kV9 dc9 pm9 an9 cd9 ct9), sl9⟩) (c9 : PySem.W.codeIn K cd9 "law" = true) (k9 : PySem.W.keepIn K (.ref f9) = true)
    (z_abs : PySem.W.nsIn K mainGlobals "abs" = some none)
    (z_bool : PySem.W.nsIn K mainGlobals "bool" = some none)
    (z_int : PySem.W.nsIn K mainGlobals "int" = some none)
    (z_isinstance : PySem.W.nsIn K mainGlobals "isinstance" = some none)
    (z_len : PySem.W.nsIn K mainGlobals "len" = some none)
    (z_list : PySem.W.nsIn K mainGlobals "list" = some none)
    (z_max : PySem.W.nsIn K mainGlobals "max" = some none)
    (z_min : PySem.W.nsIn K mainGlobals "min" = some none)
    (z_range : PySem.W.nsIn K mainGlobals "range" = some none)
    (z_str : PySem.W.nsIn K mainGlobals "str" = some none)
    (z_tuple : PySem.W.nsIn K mainGlobals "tuple" = some none)
    : ∃ fd : FuncData, (∀ (s : Shared) (v : Value), BindsTo s fd ⟨[v], []⟩ [("script", v)]) ∧ ∀ base : Heap, K.In base → base.Ns mainGlobals mg → FnOk l.prog w K mg base CX0 6 fa fd ["script"] (spLaw K) := by
  have e : f9 = fa := by
    have e := hfa.symm.trans (PySem.W.mg_of X G a9)
    cases e
    rfl
  subst e
  have F0 := fun_mk (st := s_gap) l0 c0 k0
  have F1 := fun_mk (st := s_are_near) l1 c1 k1
  have F2 := fun_mk (st := s_is_long) l2 c2 k2
  have F3 := fun_mk (st := s_law_cell) l3 c3 k3
  have F4 := fun_mk (st := s_law_draws) l4 c4 k4
  have F5 := fun_mk (st := s_law_next) l5 c5 k5
  have F6 := fun_mk (st := s_law_same) l6 c6 k6
  have F7 := fun_mk (st := s_law_are_near) l7 c7 k7
  have F8 := fun_mk (st := s_law_is_long) l8 c8 k8
  have F9 := fun_mk (st := s_law) l9 c9 k9
  have T : Txt K mg { f_gap := f0, d_gap := PySem.W.fnOf "gap" "gap" (defArgs s_gap) (defBody s_gap) (defScope s_gap) .none kV0 dc0 pm0 an0 cd0 ct0, f_are_near := f1, d_are_near := PySem.W.fnOf "are_near" "are_near" (defArgs s_are_near) (defBody s_are_near) (defScope s_are_near) .none kV1 dc1 pm1 an1 cd1 ct1, f_is_long := f2, d_is_long := PySem.W.fnOf "is_long" "is_long" (defArgs s_is_long) (defBody s_is_long) (defScope s_is_long) .none kV2 dc2 pm2 an2 cd2 ct2, f_law_cell := f3, d_law_cell := PySem.W.fnOf "_law_cell" "_law_cell" (defArgs s_law_cell) (defBody s_law_cell) (defScope s_law_cell) .none kV3 dc3 pm3 an3 cd3 ct3, f_law_draws := f4, d_law_draws := PySem.W.fnOf "_law_draws" "_law_draws" (defArgs s_law_draws) (defBody s_law_draws) (defScope s_law_draws) .none kV4 dc4 pm4 an4 cd4 ct4, f_law_next := f5, d_law_next := PySem.W.fnOf "_law_next" "_law_next" (defArgs s_law_next) (defBody s_law_next) (defScope s_law_next) .none kV5 dc5 pm5 an5 cd5 ct5, f_law_same := f6, d_law_same := PySem.W.fnOf "_law_same" "_law_same" (defArgs s_law_same) (defBody s_law_same) (defScope s_law_same) .none kV6 dc6 pm6 an6 cd6 ct6, f_law_are_near := f7, d_law_are_near := PySem.W.fnOf "_law_are_near" "_law_are_near" (defArgs s_law_are_near) (defBody s_law_are_near) (defScope s_law_are_near) .none kV7 dc7 pm7 an7 cd7 ct7, f_law_is_long := f8, d_law_is_long := PySem.W.fnOf "_law_is_long" "_law_is_long" (defArgs s_law_is_long) (defBody s_law_is_long) (defScope s_law_is_long) .none kV8 dc8 pm8 an8 cd8 ct8, f_law := f9, d_law := PySem.W.fnOf "law" "law" (defArgs s_law) (defBody s_law) (defScope s_law) .none kV9 dc9 pm9 an9 cd9 ct9 } := {
    F_gap := F0
    m_gap := PySem.W.mg_of X G a0
    b_gap := F0.binds (ps := ["one", "other"]) fun _ _ _ _ _ _ us hl => match us, hl with | [_, _], _ => rfl
    F_are_near := F1
    m_are_near := PySem.W.mg_of X G a1
    k2_are_near := Fun.kbn F1 fun _ _ _ _ _ _ us ws hl hm => match us, ws, hl, hm with | [_, _], [_], _, _ => rfl
    F_is_long := F2
    m_is_long := PySem.W.mg_of X G a2
    k1_is_long := Fun.kbn F2 fun _ _ _ _ _ _ us ws hl hm => match us, ws, hl, hm with | [_], [_], _, _ => rfl
    F_law_cell := F3
    m_law_cell := PySem.W.mg_of X G a3
    b_law_cell := F3.binds (ps := ["script", "k"]) fun _ _ _ _ _ _ us hl => match us, hl with | [_, _], _ => rfl
    F_law_draws := F4
    m_law_draws := PySem.W.mg_of X G a4
    b_law_draws := F4.binds (ps := ["cell"]) fun _ _ _ _ _ _ us hl => match us, hl with | [_], _ => rfl
    F_law_next := F5
    m_law_next := PySem.W.mg_of X G a5
    b_law_next := F5.binds (ps := ["draws", "many"]) fun _ _ _ _ _ _ us hl => match us, hl with | [_, _], _ => rfl
    F_law_same := F6
    m_law_same := PySem.W.mg_of X G a6
    b_law_same := F6.binds (ps := ["actual", "expected"]) fun _ _ _ _ _ _ us hl => match us, hl with | [_, _], _ => rfl
    F_law_are_near := F7
    m_law_are_near := PySem.W.mg_of X G a7
    b_law_are_near := F7.binds (ps := ["bar", "other", "lag"]) fun _ _ _ _ _ _ us hl => match us, hl with | [_, _, _], _ => rfl
    F_law_is_long := F8
    m_law_is_long := PySem.W.mg_of X G a8
    b_law_is_long := F8.binds (ps := ["bar", "lag"]) fun _ _ _ _ _ _ us hl => match us, hl with | [_, _], _ => rfl
    F_law := F9
    m_law := PySem.W.mg_of X G a9
    b_law := F9.binds (ps := ["script"]) fun _ _ _ _ _ _ us hl => match us, hl with | [_], _ => rfl
    z_abs := PySem.W.mg_none_of X G z_abs
    z_bool := PySem.W.mg_none_of X G z_bool
    z_int := PySem.W.mg_none_of X G z_int
    z_isinstance := PySem.W.mg_none_of X G z_isinstance
    z_len := PySem.W.mg_none_of X G z_len
    z_list := PySem.W.mg_none_of X G z_list
    z_max := PySem.W.mg_none_of X G z_max
    z_min := PySem.W.mg_none_of X G z_min
    z_range := PySem.W.mg_none_of X G z_range
    z_str := PySem.W.mg_none_of X G z_str
    z_tuple := PySem.W.mg_none_of X G z_tuple }
  exact ⟨_, fun s v => .of_eq rfl, fun base _ _ => ok_law T⟩
end Bw
open PySem PySem.W PyProof.Rows
set_option maxRecDepth 100000 in
set_option maxHeartbeats 0 in
theorem PySem.Challenge.cw_barswoven_k33_near_and_long_holds : PySem.Challenge.rw_barswoven_k33_near_and_long.Holds := by
  w_on; o_law; k_head; (case hw => w_witness2)
  k_fill
  refine L2.walk_of (l := PySem.Challenge.rw_barswoven_k33_near_and_long) (n := 63) (k := 6) (x := "script") (CX := fun _ => L2.CX0) (sp := fun w => Bw.spLaw _) rfl (by decide) rfl ⟨rfl, by decide, by decide⟩ (fun w h Y => PySem.W.kIn_of Y) ?F (fun w H a ns hl hO hS => Bw.spLaw_in _ H a ns hl hO hS) (fun _ _ _ _ _ h => h)
  case F =>
    intro w mg fa h KX G hmg
    refine' Bw.all_mk KX G hmg ?a0 ?l0 ?c0 ?k0 ?a1 ?l1 ?c1 ?k1 ?a2 ?l2 ?c2 ?k2 ?a3 ?l3 ?c3 ?k3 ?a4 ?l4 ?c4 ?k4 ?a5 ?l5 ?c5 ?k5 ?a6 ?l6 ?c6 ?k6 ?a7 ?l7 ?c7 ?k7 ?a8 ?l8 ?c8 ?k8 ?a9 ?l9 ?c9 ?k9 ?z_abs ?z_bool ?z_int ?z_isinstance ?z_len ?z_list ?z_max ?z_min ?z_range ?z_str ?z_tuple
    (case a0 => k_is)
    (case l0 => k_is)
    (case c0 => k_is)
    (case k0 => k_is)
    (case a1 => k_is)
    (case l1 => k_is)
    (case c1 => k_is)
    (case k1 => k_is)
    (case a2 => k_is)
    (case l2 => k_is)
    (case c2 => k_is)
    (case k2 => k_is)
    (case a3 => k_is)
    (case l3 => k_is)
    (case c3 => k_is)
    (case k3 => k_is)
    (case a4 => k_is)
    (case l4 => k_is)
    (case c4 => k_is)
    (case k4 => k_is)
    (case a5 => k_is)
    (case l5 => k_is)
    (case c5 => k_is)
    (case k5 => k_is)
    (case a6 => k_is)
    (case l6 => k_is)
    (case c6 => k_is)
    (case k6 => k_is)
    (case a7 => k_is)
    (case l7 => k_is)
    (case c7 => k_is)
    (case k7 => k_is)
    (case a8 => k_is)
    (case l8 => k_is)
    (case c8 => k_is)
    (case k8 => k_is)
    (case a9 => k_is)
    (case l9 => k_is)
    (case c9 => k_is)
    (case k9 => k_is)
    (case z_abs => k_is)
    (case z_bool => k_is)
    (case z_int => k_is)
    (case z_isinstance => k_is)
    (case z_len => k_is)
    (case z_list => k_is)
    (case z_max => k_is)
    (case z_min => k_is)
    (case z_range => k_is)
    (case z_str => k_is)
    (case z_tuple => k_is)
