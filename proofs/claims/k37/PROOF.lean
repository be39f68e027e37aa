import PyProof.Rows.All
import Wide.All
import OpenK.AllK
import Wide.FinOn
import HandS.ForMost
import HandS.IsInst
import HandS.Defaults
import HandS.Flow
import HandS.Walk
import HandS.SortKw
import HandS.Keys
import HandS.NamedTupSort
import HandS.Iter
import HandS.TupLe
import HandS.WordsExc
import HandS.ExcOwn
import HandS.CallSlots
import HandS.ClsMeth
import HandS.Property
import HandS.ExcIs
import HandS.TryOnly
import HandS.Zip
import HandS.TupMul
import HandS.TupAny
import HandS.OwnEq
import KE.GoesEnum
import KE.GoesMore
import HandS.Dict
import HandS.Nested
import HandS.EndTab
import HandS.Style
import KE.GoesZip
import HandS.SetFor
import HandS.Strs
import HandS.TupSets
import PySem.Challenge.RW_barswoven_k37_whole_either_pairs_or_lone
set_option Elab.async false
set_option linter.all false
set_option maxRecDepth 100000
set_option maxHeartbeats 4000000
namespace B
open PySem L2

/-! ### data -/
inductive Dt where
  | non | bl (b : Bool) | int (i : Int) | str (x : Str) | lst (xs : List Dt) | tup (xs : List Dt) | ins (C : Addr) (fs : List (Str × Dt))

mutual
inductive Rp (K : PySem.W.Frag) (G : Hp) : V → Dt → Prop
  | non : Rp K G .non .non
  | bl (b : Bool) : Rp K G (.bl b) (.bl b)
  | int (i : Int) : Rp K G (.int i) (.int i)
  | str (x : Str) : Rp K G (.str x) (.str x)
  | lst {a : Addr} {xs : List V} {ds : List Dt} : SqL K G a xs → RpAll K G xs ds → Rp K G (.ref a) (.lst ds)
  | tup {a : Addr} {xs : List V} {ds : List Dt} : SqT K G a xs → RpAll K G xs ds → Rp K G (.ref a) (.tup ds)
  | ins {a C dx : Addr} {fs : List (Str × V)} {ds : List (Str × Dt)} : G a = some (.ins C dx fs) → RpF K G fs ds → Rp K G (.ref a) (.ins C ds)
inductive RpAll (K : PySem.W.Frag) (G : Hp) : List V → List Dt → Prop
  | nil : RpAll K G [] []
  | cons {v : V} {vs : List V} {d : Dt} {ds : List Dt} : Rp K G v d → RpAll K G vs ds → RpAll K G (v :: vs) (d :: ds)
inductive RpF (K : PySem.W.Frag) (G : Hp) : List (Str × V) → List (Str × Dt) → Prop
  | nil : RpF K G [] []
  | cons {f : Str} {v : V} {vs : List (Str × V)} {d : Dt} {ds : List (Str × Dt)} : Rp K G v d → RpF K G vs ds → RpF K G ((f, v) :: vs) ((f, d) :: ds)
end

theorem Same.l {K : PySem.W.Frag} {H H' : Hp} {a : Addr} {xs : List V} (e : Same H H') (h : SqL K H a xs) : SqL K H' a xs := e.seq h
theorem Same.t {K : PySem.W.Frag} {H H' : Hp} {a : Addr} {xs : List V} (e : Same H H') (h : SqT K H a xs) : SqT K H' a xs := by
  rcases h with (h | ⟨o, h⟩) | h
  · exact .inl (.inl (e _ _ h))
  · exact .inl (.inr ⟨o, e _ _ h⟩)
  · exact .inr h

section
variable {K : PySem.W.Frag} {G G' : Hp}
mutual
theorem Rp.mono (e : Same G G') : ∀ (d : Dt) (v : V), Rp K G v d → Rp K G' v d
  | .non, _, h => by cases h; exact .non
  | .bl b, _, h => by cases h; exact .bl _
  | .int i, _, h => by cases h; exact .int _
  | .str x, _, h => by cases h; exact .str _
  | .lst ds, _, h => by
    cases h with
    | lst hs ha => exact .lst (e.seq hs) (RpAll.mono e ds _ ha)
  | .tup ds, _, h => by
    cases h with
    | tup hs ha => exact .tup (Same.t e hs) (RpAll.mono e ds _ ha)
  | .ins C ds, _, h => by
    cases h with
    | ins hs ha => exact .ins (e _ _ hs) (RpF.mono e ds _ ha)
theorem RpAll.mono (e : Same G G') : ∀ (ds : List Dt) (vs : List V), RpAll K G vs ds → RpAll K G' vs ds
  | [], _, h => by cases h; exact .nil
  | d :: ds, _, h => by
    cases h with
    | cons h1 h2 => exact .cons (Rp.mono e d _ h1) (RpAll.mono e ds _ h2)
theorem RpF.mono (e : Same G G') : ∀ (ds : List (Str × Dt)) (vs : List (Str × V)), RpF K G vs ds → RpF K G' vs ds
  | [], _, h => by cases h; exact .nil
  | (f, d) :: ds, _, h => by
    cases h with
    | cons h1 h2 => exact .cons (Rp.mono e d _ h1) (RpF.mono e ds _ h2)
end
theorem Rp.up {v : V} {d : Dt} (e : Same G G') (h : Rp K G v d) : Rp K G' v d := Rp.mono e d v h
theorem RpAll.up {v : List V} {d : List Dt} (e : Same G G') (h : RpAll K G v d) : RpAll K G' v d := RpAll.mono e d v h
theorem RpF.up {v : List (Str × V)} {d : List (Str × Dt)} (e : Same G G') (h : RpF K G v d) : RpF K G' v d := RpF.mono e d v h

theorem Rp.non_inv {v : V} (h : Rp K G v .non) : v = .non := by cases h; rfl
theorem Rp.bl_inv {v : V} {b : Bool} (h : Rp K G v (.bl b)) : v = .bl b := by cases h; rfl
theorem Rp.int_inv {v : V} {b : Int} (h : Rp K G v (.int b)) : v = .int b := by cases h; rfl
theorem Rp.str_inv {v : V} {b : Str} (h : Rp K G v (.str b)) : v = .str b := by cases h; rfl
theorem Rp.lst_inv {v : V} {ds : List Dt} (h : Rp K G v (.lst ds)) : ∃ a xs, v = .ref a ∧ SqL K G a xs ∧ RpAll K G xs ds := by
  cases h with
  | lst h1 h2 => exact ⟨_, _, rfl, h1, h2⟩
theorem Rp.tup_inv {v : V} {ds : List Dt} (h : Rp K G v (.tup ds)) : ∃ a xs, v = .ref a ∧ SqT K G a xs ∧ RpAll K G xs ds := by
  cases h with
  | tup h1 h2 => exact ⟨_, _, rfl, h1, h2⟩
theorem Rp.ins_inv {v : V} {C : Addr} {ds : List (Str × Dt)} (h : Rp K G v (.ins C ds)) : ∃ a dx fs, v = .ref a ∧ G a = some (.ins C dx fs) ∧ RpF K G fs ds := by
  cases h with
  | ins h1 h2 => exact ⟨_, _, _, rfl, h1, h2⟩
theorem RpAll.length : ∀ {vs : List V} {ds : List Dt}, RpAll K G vs ds → vs.length = ds.length
  | _, [], h => by cases h; rfl
  | _, d :: ds, h => by
    cases h with
    | cons h1 h2 => exact congrArg Nat.succ (RpAll.length h2)
theorem RpAll.get : ∀ {vs : List V} {ds : List Dt} {i : Nat} {d : Dt}, RpAll K G vs ds → ds[i]? = some d → ∃ v, vs[i]? = some v ∧ Rp K G v d
  | _, [], i, d, h, e => by simp at e
  | _, d :: ds, 0, _, h, e => by
    cases h with
    | cons h1 h2 =>
      simp at e
      subst e
      exact ⟨_, rfl, h1⟩
  | _, d :: ds, i + 1, _, h, e => by
    cases h with
    | cons h1 h2 => exact RpAll.get (i := i) h2 (by simpa using e)
theorem RpAll.getV : ∀ {vs : List V} {ds : List Dt} {i : Nat} {v : V}, RpAll K G vs ds → vs[i]? = some v → ∃ d, ds[i]? = some d ∧ Rp K G v d
  | _, [], i, d, h, e => by cases h; simp at e
  | _, d :: ds, 0, _, h, e => by
    cases h with
    | cons h1 h2 =>
      simp at e
      subst e
      exact ⟨_, rfl, h1⟩
  | _, d :: ds, i + 1, _, h, e => by
    cases h with
    | cons h1 h2 => exact RpAll.getV (i := i) h2 (by simpa using e)
theorem RpAll.atI {vs : List V} {ds : List Dt} {i : Int} {d : Dt} (h : RpAll K G vs ds) (e : atI ds i = some d) : ∃ v, L2.atI vs i = some v ∧ Rp K G v d := by
  unfold L2.atI at e ⊢
  rw [h.length]
  cases hi : ixN ds.length i with
  | none => rw [hi] at e; cases e
  | some j =>
    rw [hi] at e
    exact h.get e
theorem RpAll.app {vs ws : List V} {ds es : List Dt} (h : RpAll K G vs ds) (h' : RpAll K G ws es) : RpAll K G (vs ++ ws) (ds ++ es) := by
  induction ds generalizing vs with
  | nil => cases h; exact h'
  | cons d ds ih =>
    cases h with
    | cons h1 h2 => exact .cons h1 (ih h2)
theorem RpAll.one {v : V} {d : Dt} (h : Rp K G v d) : RpAll K G [v] [d] := .cons h .nil
theorem RpAll.bls_inv : ∀ {vs : List V} {bs : List Bool}, RpAll K G vs (bs.map .bl) → vs = bs.map .bl
  | _, [], h => by cases h; rfl
  | _, b :: bs, h => by
    cases h with
    | cons h1 h2 => rw [Rp.bl_inv h1, RpAll.bls_inv h2]; rfl
theorem RpAll.ints_inv : ∀ {vs : List V} {bs : List Int}, RpAll K G vs (bs.map .int) → vs = bs.map .int
  | _, [], h => by cases h; rfl
  | _, b :: bs, h => by
    cases h with
    | cons h1 h2 => rw [Rp.int_inv h1, RpAll.ints_inv h2]; rfl
theorem RpAll.ints : ∀ {bs : List Int}, RpAll K G (bs.map .int) (bs.map .int)
  | [] => .nil
  | b :: bs => .cons (.int b) RpAll.ints
theorem RpAll.take (h : RpAll K G vs ds) (n : Nat) : RpAll K G (vs.take n) (ds.take n) := by
  induction ds generalizing vs n with
  | nil => cases h; simp; exact .nil
  | cons d ds ih =>
    cases h with
    | cons h1 h2 =>
      cases n with
      | zero => exact .nil
      | succ n => exact .cons h1 (ih h2 n)
theorem RpAll.drop (h : RpAll K G vs ds) (n : Nat) : RpAll K G (vs.drop n) (ds.drop n) := by
  induction ds generalizing vs n with
  | nil => cases h; simp; exact .nil
  | cons d ds ih =>
    cases h with
    | cons h1 h2 =>
      cases n with
      | zero => exact .cons h1 h2
      | succ n => exact ih h2 n
theorem RpAll.set {v : V} {d : Dt} (h : RpAll K G vs ds) (r : Rp K G v d) (n : Nat) : RpAll K G (vs.set n v) (ds.set n d) := by
  induction ds generalizing vs n with
  | nil => cases h; simp; exact .nil
  | cons e ds ih =>
    cases h with
    | cons h1 h2 =>
      cases n with
      | zero => exact .cons r h2
      | succ n => exact .cons h1 (ih h2 n)
/-- equal lengths and places -/
theorem RpAll.of_get {vs : List V} {ds : List Dt} (hl : vs.length = ds.length) (h : ∀ (i : Nat) v d, vs[i]? = some v → ds[i]? = some d → Rp K G v d) : RpAll K G vs ds := by
  induction ds generalizing vs with
  | nil =>
    cases vs with
    | nil => exact .nil
    | cons v vs => simp at hl
  | cons d ds ih =>
    cases vs with
    | nil => simp at hl
    | cons v vs =>
      refine .cons (h 0 v d rfl rfl) (ih (by simpa using hl) fun i v' d' h1 h2 => h (i + 1) v' d' (by simpa using h1) (by simpa using h2))
end

/-! ### the state -/
structure Adv (D : List Addr) (G H G' H' : Hp) : Prop where
  gg : Same G G'
  gh : Same G' H'
  fr : ∀ a, H a ≠ none → G' a = G a
  kp : ∀ a o, H a = some o → a ∉ D → H' a = some o
  up : ∀ a, H a ≠ none → H' a ≠ none

structure Sta (K : PySem.W.Frag) (G0 H0 : Hp) (D : List Addr) (G : Hp) (M : List (Addr × HO)) (H : Hp) : Prop where
  g0 : Same G0 G
  gh : Same G H
  fr : ∀ a, H0 a ≠ none → G a = G0 a
  kp : ∀ a o, H0 a = some o → a ∉ D → H a = some o
  up : ∀ a, H0 a ≠ none → H a ≠ none
  md : (M.map (·.1)).Nodup
  mh : ∀ q ∈ M, H q.1 = some q.2 ∧ G q.1 = none ∧ (q.1 ∈ D ∨ H0 q.1 = none)

section
variable {K : PySem.W.Frag} {G0 H0 G H G1 H1 : Hp} {D : List Addr} {M : List (Addr × HO)} {p : Addr} {o : HO}
theorem same_upd {H : Hp} {p : Addr} {o : HO} (h : H p = none) : Same H (upd H p o) := fun b x e => by
  rw [upd_ne (ne_of_none e h)]
  exact e
theorem same_upd2 {G H : Hp} {p : Addr} {o : HO} (e : Same G H) : Same (upd G p o) (upd H p o) := fun b x h => by
  by_cases hb : b = p
  · subst hb
    rw [upd_same] at h ⊢
    exact h
  · rw [upd_ne hb] at h ⊢
    exact e _ _ h
theorem same_updR {G H : Hp} {p : Addr} {o : HO} (e : Same G H) (h : G p = none) : Same G (upd H p o) := fun b x hb => by
  rw [upd_ne (ne_of_none hb h)]
  exact e _ _ hb
theorem Sta.adv (h : Sta K G0 H0 D G M H) : Adv D G0 H0 G H := ⟨h.g0, h.gh, h.fr, h.kp, h.up⟩
theorem Sta.start (e : Same G H) : Sta K G H [] G [] H :=
  ⟨Same.refl G, e, fun _ _ => rfl, fun _ _ h _ => h, fun _ h => h, by simp, fun q hq => by simp at hq⟩
theorem Sta.start1 (e : Same G H) (hp : H p = some o) (hg : G p = none) : Sta K G H [p] G [(p, o)] H :=
  ⟨Same.refl G, e, fun _ _ => rfl, fun _ _ h _ => h, fun _ h => h, by simp, fun q hq => by
    simp at hq
    subst hq
    exact ⟨hp, hg, .inl (by simp)⟩⟩
theorem Sta.h0 (h : Sta K G0 H0 D G M H) (hp : H p = none) : H0 p = none := by
  cases e : H0 p with
  | none => rfl
  | some u => exact absurd hp (h.up p (by rw [e]; exact fun z => nomatch z))
theorem Sta.gn (h : Sta K G0 H0 D G M H) (hp : H p = none) : G p = none := h.gh.free hp
theorem Sta.mn (h : Sta K G0 H0 D G M H) (hp : H p = none) : ∀ q ∈ M, q.1 ≠ p := fun q hq e => by
  have := (h.mh q hq).1
  rw [e, hp] at this
  cases this
/-- a new object that never changes -/
theorem Sta.imm (h : Sta K G0 H0 D G M H) (hp : H p = none) (o : HO) : Sta K G0 H0 D (upd G p o) M (upd H p o) where
  g0 := h.g0.trans (same_upd (h.gn hp))
  gh := same_upd2 h.gh
  fr := fun a ha => by
    have : a ≠ p := fun e => ha (by rw [e]; exact h.h0 hp)
    rw [upd_ne this]
    exact h.fr a ha
  kp := fun a u ha hd => by
    rw [upd_ne (ne_of_none ha (h.h0 hp))]
    exact h.kp a u ha hd
  up := fun a ha => by
    have : a ≠ p := fun e => ha (by rw [e]; exact h.h0 hp)
    rw [upd_ne this]
    exact h.up a ha
  md := h.md
  mh := fun q hq => by
    have := h.mn hp q hq
    rw [upd_ne this, upd_ne this]
    exact h.mh q hq
/-- a new object that will change -/
theorem Sta.mut (h : Sta K G0 H0 D G M H) (hp : H p = none) (o : HO) : Sta K G0 H0 D G ((p, o) :: M) (upd H p o) where
  g0 := h.g0
  gh := same_updR h.gh (h.gn hp)
  fr := h.fr
  kp := fun a u ha hd => by
    rw [upd_ne (ne_of_none ha (h.h0 hp))]
    exact h.kp a u ha hd
  up := fun a ha => by
    have : a ≠ p := fun e => ha (by rw [e]; exact h.h0 hp)
    rw [upd_ne this]
    exact h.up a ha
  md := by
    simp only [List.map_cons, List.nodup_cons]
    exact ⟨fun hm => by
      obtain ⟨q, hq, e⟩ := List.mem_map.mp hm
      exact h.mn hp q hq e, h.md⟩
  mh := fun q hq => by
    rcases List.mem_cons.mp hq with rfl | hq
    · exact ⟨upd_same, h.gn hp, .inr (h.h0 hp)⟩
    · rw [upd_ne (h.mn hp q hq)]
      exact h.mh q hq
theorem Sta.get (h : Sta K G0 H0 D G M H) {i : Nat} (hi : M[i]? = some (p, o)) : H p = some o := (h.mh _ (List.mem_of_getElem? hi)).1
theorem nd_at {α β : Type} {M : List (α × β)} (nd : (M.map (·.1)).Nodup) {i j : Nat} {p q : α × β} (hi : M[i]? = some p) (hj : M[j]? = some q) (e : p.1 = q.1) : i = j := by
  have h1 : (M.map (·.1))[i]? = some p.1 := by rw [List.getElem?_map, hi]; rfl
  have h2 : (M.map (·.1))[j]? = some q.1 := by rw [List.getElem?_map, hj]; rfl
  exact L2.nd_ix nd h1 (by rw [e]; exact h2)
theorem set_keys {M : List (Addr × HO)} {i : Nat} {p : Addr} {o u : HO} (hi : M[i]? = some (p, o)) : (M.set i (p, u)).map (·.1) = M.map (·.1) := by
  rw [List.map_set]
  apply List.ext_getElem?
  intro j
  rw [List.getElem?_set]
  split
  · rename_i e
    subst e
    split
    · rw [List.getElem?_map, hi]; rfl
    · rename_i hn
      have := (List.getElem?_eq_some_iff.mp hi).1
      simp at hn
      omega
  · rfl
theorem set_mem {M : List (Addr × HO)} {i : Nat} {p : Addr} {o u : HO} (nd : (M.map (·.1)).Nodup) (hi : M[i]? = some (p, o)) {q : Addr × HO} (hq : q ∈ M.set i (p, u)) : q = (p, u) ∨ (q ∈ M ∧ q.1 ≠ p) := by
  obtain ⟨j, hj⟩ := List.mem_iff_getElem?.mp hq
  rw [List.getElem?_set] at hj
  split at hj
  · split at hj
    · exact .inl (Option.some.inj hj).symm
    · cases hj
  · rename_i hne
    refine .inr ⟨List.mem_of_getElem? hj, fun e => hne ?_⟩
    exact nd_at nd hi hj e.symm
/-- an object that may change is written -/
theorem Sta.set (h : Sta K G0 H0 D G M H) {i : Nat} (hi : M[i]? = some (p, o)) (u : HO) : Sta K G0 H0 D G (M.set i (p, u)) (upd H p u) where
  g0 := h.g0
  gh := same_updR h.gh (h.mh _ (List.mem_of_getElem? hi)).2.1
  fr := h.fr
  kp := fun a v ha hd => by
    have : a ≠ p := fun e => by
      subst e
      rcases (h.mh _ (List.mem_of_getElem? hi)).2.2 with z | z
      · exact hd z
      · have z' : H0 a = none := z
        rw [ha] at z'
        cases z'
    rw [upd_ne this]
    exact h.kp a v ha hd
  up := fun a ha => by
    by_cases e : a = p
    · rw [e, upd_same]; exact fun z => nomatch z
    · rw [upd_ne e]; exact h.up a ha
  md := by rw [set_keys hi]; exact h.md
  mh := fun q hq => by
    rcases set_mem h.md hi hq with rfl | ⟨hm, hn⟩
    · exact ⟨upd_same, (h.mh _ (List.mem_of_getElem? hi)).2⟩
    · rw [upd_ne hn]
      exact h.mh q hm
/-- the first of what may change will not change any more -/
theorem Sta.frz (h : Sta K G0 H0 D G ((p, o) :: M) H) (h0 : H0 p = none) : Sta K G0 H0 D (upd G p o) M H ∧ Same G (upd G p o) := by
  have hm := h.mh _ List.mem_cons_self
  have hmn : ∀ q ∈ M, q.1 ≠ p := fun q hq e => by
    have := h.md
    simp only [List.map_cons, List.nodup_cons] at this
    exact this.1 (List.mem_map.mpr ⟨q, hq, e⟩)
  have sg : Same G (upd G p o) := same_upd hm.2.1
  refine ⟨⟨h.g0.trans sg, fun b x e => ?_, fun a ha => ?_, h.kp, h.up, ?_, fun q hq => ?_⟩, sg⟩
  · by_cases hb : b = p
    · subst hb
      rw [upd_same] at e
      cases e
      exact hm.1
    · rw [upd_ne hb] at e
      exact h.gh _ _ e
  · have : a ≠ p := fun e => ha (by rw [e]; exact h0)
    rw [upd_ne this]
    exact h.fr a ha
  · have := h.md
    simp only [List.map_cons, List.nodup_cons] at this
    exact this.2
  · rw [upd_ne (hmn q hq)]
    exact h.mh q (List.mem_cons_of_mem _ hq)
theorem Sta.frzL (h : Sta K G0 H0 D G ((p, .lst xs) :: M) H) (h0 : H0 p = none) (hx : RpAll K G xs ds) : ∃ G1, Same G G1 ∧ Sta K G0 H0 D G1 M H ∧ Rp K G1 (.ref p) (.lst ds) := by
  obtain ⟨h1, e⟩ := h.frz h0
  exact ⟨_, e, h1, .lst (.inl (.inl upd_same)) (hx.up e)⟩
/-- the first of what may change is forgotten (it was the def's own) -/
theorem Sta.pop (h : Sta K G0 H0 D G ((p, o) :: M) H) : Sta K G0 H0 D G M H :=
  ⟨h.g0, h.gh, h.fr, h.kp, h.up, by
    have := h.md
    simp only [List.map_cons, List.nodup_cons] at this
    exact this.2, fun q hq => h.mh q (List.mem_cons_of_mem _ hq)⟩
/-- a call that changes nothing that stood -/
theorem Sta.call (h : Sta K G0 H0 D G M H) (a : Adv [] G H G1 H1) : Sta K G0 H0 D G1 M H1 where
  g0 := h.g0.trans a.gg
  gh := a.gh
  fr := fun b hb => by rw [a.fr b (h.up b hb)]; exact h.fr b hb
  kp := fun b u hb hd => a.kp b u (h.kp b u hb hd) (by simp)
  up := fun b hb => a.up b (h.up b hb)
  md := h.md
  mh := fun q hq => by
    obtain ⟨e1, e2, e3⟩ := h.mh q hq
    exact ⟨a.kp _ _ e1 (by simp), by rw [a.fr _ (by rw [e1]; exact fun z => nomatch z)]; exact e2, e3⟩
/-- a call that changes one thing that may change -/
theorem Sta.callM (h : Sta K G0 H0 D G M H) {i : Nat} {u : HO} (hi : M[i]? = some (p, o)) (a : Adv [p] G H G1 H1) (hp : H1 p = some u) : Sta K G0 H0 D G1 (M.set i (p, u)) H1 where
  g0 := h.g0.trans a.gg
  gh := a.gh
  fr := fun b hb => by rw [a.fr b (h.up b hb)]; exact h.fr b hb
  kp := fun b v hb hd => by
    have : b ≠ p := fun e => by
      subst e
      rcases (h.mh _ (List.mem_of_getElem? hi)).2.2 with z | z
      · exact hd z
      · have z' : H0 b = none := z
        rw [hb] at z'
        cases z'
    exact a.kp b v (h.kp b v hb hd) (by simpa using this)
  up := fun b hb => a.up b (h.up b hb)
  md := by rw [set_keys hi]; exact h.md
  mh := fun q hq => by
    rcases set_mem h.md hi hq with rfl | ⟨hm, hn⟩
    · obtain ⟨e1, e2, e3⟩ := h.mh _ (List.mem_of_getElem? hi)
      exact ⟨hp, by rw [a.fr _ (by rw [e1]; exact fun z => nomatch z)]; exact e2, e3⟩
    · obtain ⟨e1, e2, e3⟩ := h.mh q hm
      exact ⟨a.kp _ _ e1 (by simpa using hn), by rw [a.fr _ (by rw [e1]; exact fun z => nomatch z)]; exact e2, e3⟩
end
end B
namespace B
open PySem L2

theorem sz {n : Nat} (h : n ≤ 100000) : n ≤ sizeLine := Nat.le_trans h (by decide)
/-! ### the readings' parts by names (the wish stays an argument) -/
def NT (Q : VK) (xs : List V) (H : Hp) : Prop := xs.length ≤ sizeLine ∧ ∀ p, H p = none → Q (.ref p) (upd H p (.tup xs))
def NL (Q : VK) (xs : List V) (H : Hp) : Prop := xs.length ≤ sizeLine ∧ ∀ p, H p = none → Q (.ref p) (upd H p (.lst xs))
def TK (P : Bool → Hp → Prop) (x : V) (H : Hp) : Prop := ∃ k, x = .bl k ∧ P k H
def TKA (A B : Hp → Prop) (x : V) (H : Hp) : Prop := ∃ k, x = .bl k ∧ if k = true then A H else B H
def RK1 (k : It → Hp → Prop) (vs : List V) (H : Hp) : Prop := ∃ j : Int, vs = [.int j] ∧ -(2 ^ 62) ≤ j ∧ j < 2 ^ 62 ∧ k (Itr 0 j.toNat) H
def RK2 (k : It → Hp → Prop) (vs : List V) (H : Hp) : Prop := ∃ i j : Int, vs = [.int i, .int j] ∧ (-(2 ^ 62) ≤ i ∧ i < 2 ^ 62 ∧ -(2 ^ 62) ≤ j ∧ j < 2 ^ 62) ∧ k (Itr i (j - i).toNat) H
def LK (K : PySem.W.Frag) (k : It → Hp → Prop) (x : V) (H : Hp) : Prop := ∃ a, x = .ref a ∧ (∃ xs, SqL K H a xs) ∧ k (Itl K a) H
def FK (K : PySem.W.Frag) (f : Str) (Q : VK) (x : V) (H : Hp) : Prop := ∃ a C dx fs v, x = .ref a ∧ H a = some (.ins C dx fs) ∧ Cls K C ∧ NoAttr K C f ∧ fs.lookup f = some v ∧ Q v H
def CN (n m : Nat) (sp : Sp) (gV : List V → List V → List V) (Q : VK) (E : XK) (vs zs : List V) (H : Hp) : Prop := vs.length = n ∧ zs.length = m ∧ sp (gV vs zs) H Q E
def P2 (p : L2.St → Hp → Prop) (σ : L2.St) (i j : Nat) (vs : List V) (H : Hp) : Prop := ∃ v w, vs = [v, w] ∧ p ((σ.set i (some v)).set j (some w)) H
def BMK (K : PySem.W.Frag) (T : String) (k : Hp → Prop) (x : V) (H : Hp) : Prop := tyV K T x H ∧ k H
def rAbs_ : List V → Hp → VK → Prop := fun xs H Q => ∃ i, xs = [.int i] ∧ Q (.int (if i < 0 then -i else i)) H
def rMax2_ : List V → Hp → VK → Prop := fun xs H Q => ∃ i j, xs = [.int i, .int j] ∧ Q (.int (if j > i then j else i)) H
def rMin2_ : List V → Hp → VK → Prop := fun xs H Q => ∃ i j, xs = [.int i, .int j] ∧ Q (.int (if j < i then j else i)) H
def rInt_ : List V → Hp → VK → Prop := fun xs H Q => (∃ i, xs = [.int i] ∧ Q (.int i) H) ∨ ∃ k, xs = [.bl k] ∧ Q (.int (if k then 1 else 0)) H
def rLen_ (K : PySem.W.Frag) : List V → Hp → VK → Prop := fun xs H Q => ∃ p ys, xs = [.ref p] ∧ (SqL K H p ys ∨ SqT K H p ys) ∧ Q (.int ys.length) H
def rLenS_ : List V → Hp → VK → Prop := fun xs H Q => ∃ z, xs = [.str z] ∧ z.length ≤ sizeLine ∧ Q (.int z.length) H
def rListOf_ (K : PySem.W.Frag) : List V → Hp → VK → Prop := fun xs H Q => ∃ p ys, xs = [.ref p] ∧ (SqL K H p ys ∨ SqT K H p ys) ∧ ∀ l, H l = none → Q (.ref l) (upd H l (.lst ys))
def rTupOf_ (K : PySem.W.Frag) : List V → Hp → VK → Prop := fun xs H Q => ∃ p ys, xs = [.ref p] ∧ ((SqL K H p ys ∧ ∀ l, H l = none → Q (.ref l) (upd H l (.tup ys))) ∨ (SqT K H p ys ∧ Q (.ref p) H))
def rIsN_ : R2 := fun x y H Q => y = .non ∧ Q (.bl (decide (x = .non))) H
def rNotN_ : R2 := fun x y H Q => y = .non ∧ Q (.bl (!decide (x = .non))) H
def rTru_ (K : PySem.W.Frag) (P : Bool → Hp → Prop) (x : V) (H : Hp) : Prop := ∃ k, TruV K x H k ∧ P k H
def tTru_ (K : PySem.W.Frag) (ta : TE) : TT := fun σ H Q => ta σ H fun x H' => rTru_ K Q x H'
section
variable {X : Cx}
theorem b_abs : CallR X (.builtin "abs") rAbs_ := call_abs
theorem b_max (hc : X.calm = true) : CallR X (.builtin "max") rMax2_ := call_max2 hc
theorem b_min (hc : X.calm = true) : CallR X (.builtin "min") rMin2_ := call_min2 hc
theorem b_int : CallR X (.type "int") rInt_ := call_int1
theorem b_len : CallR X (.builtin "len") (rLen_ X.K) := call_len_seq
theorem b_lenS : CallR X (.builtin "len") rLenS_ := call_len_str
theorem b_list : CallR X (.type "list") (rListOf_ X.K) := call_list_of
theorem b_tuple : CallR X (.type "tuple") (rTupOf_ X.K) := call_tuple_of
theorem o_isN : OpR X (compareOp .Is) rIsN_ := op_isN
theorem o_notN : OpR X (compareOp .IsNot) rNotN_ := op_notN
theorem pt_tru {a : Expr} {ta : TE} (ha : PE X a ta) (he : ∀ whole, isTrue a X.env whole = (do let v ← whole; standAt a.pos; holding [v] (truthy v)) := by intro _; rfl) : PT X a (tTru_ X.K ta) := pt_truth ha he
end

theorem mi0 {M : List (Addr × HO)} {q : Addr × HO} (h : M[0]? = some q) : M[0]? = some q := h
theorem mi1 {M : List (Addr × HO)} {q : Addr × HO} (h : M[1]? = some q) : M[1]? = some q := h
theorem mi2 {M : List (Addr × HO)} {q : Addr × HO} (h : M[2]? = some q) : M[2]? = some q := h
theorem mi3 {M : List (Addr × HO)} {q : Addr × HO} (h : M[3]? = some q) : M[3]? = some q := h
/-! ### one step each: the reading's head is taken off -/
section
variable {K : PySem.W.Frag} {G0 H0 G H : Hp} {D : List Addr} {M : List (Addr × HO)} {σ σ' : L2.St} {Q : VK} {nx bk ct : L2.St → Hp → Prop} {rt : VK} {t u : TS} {c c' : TT} {ta tb te : TE} {x y v : V} {d : Dt} {ds : List Dt} {P : Bool → Hp → Prop} {R : List V → Hp → Prop} {i : Nat} {b : Bool}
theorem go_σ {p : L2.St → Hp → Prop} (e : List.set σ i (some x) = σ') (h : p σ' H) : p (List.set σ i (some x)) H := by rw [e]; exact h
theorem go_start {N : List Str} {vs : List V} {De : Ends} (e : start N vs = σ) (h : t De σ H) : t De (start N vs) H := by rw [e]; exact h
theorem go_seq (h : t ⟨u ⟨nx, rt, bk, ct⟩, rt, bk, ct⟩ σ H) : tSeq t u ⟨nx, rt, bk, ct⟩ σ H := h
theorem go_next (h : nx σ H) : tNext ⟨nx, rt, bk, ct⟩ σ H := h
theorem go_break (h : bk σ H) : tBreak ⟨nx, rt, bk, ct⟩ σ H := h
theorem go_cont (h : ct σ H) : tCont ⟨nx, rt, bk, ct⟩ σ H := h
theorem go_asg {g : TG} (h : te σ H fun x H1 => g x σ H1 nx) : tAsg te g ⟨nx, rt, bk, ct⟩ σ H := h
theorem go_gname {p : L2.St → Hp → Prop} (e : List.set σ i (some x) = σ') (h : p σ' H) : gName i x σ H p := by show p (List.set σ i (some x)) H; rw [e]; exact h
theorem go_aug {ti : TIp} (e : σ[i]? = some (some x)) (h : te σ H fun y H1 => ti x y H1 fun z H2 => nx (σ.set i (some z)) H2) : tAug i te ti ⟨nx, rt, bk, ct⟩ σ H := ⟨x, e, h⟩
theorem go_ipI {f : Int → Int → Int} {i j : Int} (h : Q (.int (f i j)) H) : ipI f (.int i) (.int j) H Q := ⟨i, j, rfl, rfl, h⟩
theorem go_ret (h : te σ H rt) : tRet te ⟨nx, rt, bk, ct⟩ σ H := h
theorem go_retN (h : rt .non H) : tRetN ⟨nx, rt, bk, ct⟩ σ H := h
theorem go_drop (h : te σ H fun _ H1 => nx σ H1) : tDrop te ⟨nx, rt, bk, ct⟩ σ H := h
theorem go_ifS (h : c σ H fun b H1 => if b = true then t ⟨nx, rt, bk, ct⟩ σ H1 else u ⟨nx, rt, bk, ct⟩ σ H1) : tIfS c t u ⟨nx, rt, bk, ct⟩ σ H := h
theorem go_par {i j : Nat} {t : TA} (h : t σ H fun vs H1 => P2 nx σ i j vs H1) : tPar i j t ⟨nx, rt, bk, ct⟩ σ H := h
theorem go_par2 {p : L2.St → Hp → Prop} {i j : Nat} (e : List.set (List.set σ i (some x)) j (some y) = σ') (h : p σ' H) : P2 p σ i j [x, y] H := ⟨x, y, rfl, by rw [e]; exact h⟩

theorem go_var (e : σ[i]? = some (some v)) (h : Q v H) : tVar i σ H Q := ⟨v, e, h⟩
theorem go_c (h : Q v H) : tC v σ H Q := h
theorem go_op {r : R2} (h : ta σ H fun x H1 => tb σ H1 fun y H2 => r x y H2 Q) : tOp r ta tb σ H Q := h
theorem go_un {r : V → Hp → VK → Prop} (h : ta σ H fun x H1 => r x H1 Q) : tUn r ta σ H Q := h
theorem go_rI0 {g : Int → Int → V} {i j : Int} (h : Q (g i j) H) : rI0 g (.int i) (.int j) H Q := ⟨i, j, rfl, rfl, h⟩
theorem go_rI {C : Int → Int → Prop} {g : Int → Int → V} {i j : Int} (hc : C i j) (h : Q (g i j) H) : rI C g (.int i) (.int j) H Q := ⟨i, j, rfl, rfl, hc, h⟩
theorem go_rU {g : Int → V} {i : Int} (h : Q (g i) H) : rU g (.int i) H Q := ⟨i, rfl, h⟩
theorem go_eqI {i j : Int} (h : Q (.bl (decide (i = j))) H) : rEq (.int i) (.int j) H Q := ⟨rfl, by
  have : decide (V.int i = V.int j) = decide (i = j) := by simp
  rw [this]; exact h⟩
theorem go_neI {i j : Int} (h : Q (.bl (!decide (i = j))) H) : rNe (.int i) (.int j) H Q := ⟨rfl, by
  have : decide (V.int i = V.int j) = decide (i = j) := by simp
  rw [this]; exact h⟩
theorem go_eqB {i j : Bool} (h : Q (.bl (decide (i = j))) H) : rEq (.bl i) (.bl j) H Q := ⟨rfl, by
  have : decide (V.bl i = V.bl j) = decide (i = j) := by simp
  rw [this]; exact h⟩
theorem go_neB {i j : Bool} (h : Q (.bl (!decide (i = j))) H) : rNe (.bl i) (.bl j) H Q := ⟨rfl, by
  have : decide (V.bl i = V.bl j) = decide (i = j) := by simp
  rw [this]; exact h⟩
theorem go_eqS {i j : Str} (h : Q (.bl (decide (i = j))) H) : rEq (.str i) (.str j) H Q := ⟨rfl, by
  have : decide (V.str i = V.str j) = decide (i = j) := by simp
  rw [this]; exact h⟩
theorem go_neS {i j : Str} (h : Q (.bl (!decide (i = j))) H) : rNe (.str i) (.str j) H Q := ⟨rfl, by
  have : decide (V.str i = V.str j) = decide (i = j) := by simp
  rw [this]; exact h⟩
theorem go_tIsN (h : ta σ H fun x H1 => Q (.bl (decide (x = .non))) H1) : tIsN ta σ H Q := h
theorem go_tNotN (h : ta σ H fun x H1 => Q (.bl (!decide (x = .non))) H1) : tNotN ta σ H Q := h
theorem isN_int {i : Int} : decide (V.int i = .non) = false := rfl
theorem isN_non : decide (V.non = .non) = true := rfl
theorem isN_ref {i : Addr} : decide (V.ref i = .non) = false := rfl
theorem isN_bl {i : Bool} : decide (V.bl i = .non) = false := rfl
theorem isN_str {i : Str} : decide (V.str i = .non) = false := rfl
theorem go_tTest (h : te σ H fun x H1 => TK P x H1) : tTest te σ H P := h
theorem go_tB (h : te σ H fun x H1 => TK P x H1) : tB te σ H P := h
theorem go_k (h : P b H) : TK P (.bl b) H := ⟨b, rfl, h⟩
theorem go_tAnd (h : c σ H fun b H1 => if b = true then c' σ H1 P else P false H1) : tAnd c c' σ H P := h
theorem go_tOr (h : c σ H fun b H1 => if b = true then P true H1 else c' σ H1 P) : tOr c c' σ H P := h
theorem go_tNot (h : c σ H fun b H1 => P (!b) H1) : tNot c σ H P := h
theorem go_tAndV (h : ta σ H fun x H1 => TKA (fun H2 => tb σ H2 Q) (fun H2 => Q (.bl false) H2) x H1) : tAndV ta tb σ H Q := h
theorem go_tOrV (h : ta σ H fun x H1 => TKA (fun H2 => Q (.bl true) H2) (fun H2 => tb σ H2 Q) x H1) : tOrV ta tb σ H Q := h
theorem go_tNotV (h : ta σ H fun x H1 => TK (fun k H2 => Q (.bl (!k)) H2) x H1) : tNotV ta σ H Q := h
theorem go_kand {A B : Hp → Prop} (h : if b = true then A H else B H) : TKA A B (.bl b) H := ⟨b, rfl, h⟩
theorem go_tIf (h : c σ H fun b H1 => if b = true then ta σ H1 Q else tb σ H1 Q) : tIf c ta tb σ H Q := h
theorem go_tYes (h : P true H) : tYes σ H P := h
theorem go_cons {tr : TA} (h : ta σ H fun x H1 => tr σ H1 fun xs H2 => R (x :: xs) H2) : tCons ta tr σ H R := h
theorem go_nil (h : R [] H) : tNil σ H R := h
theorem go_tCB {r : List V → Hp → VK → Prop} {t : TA} (h : t σ H fun vs H1 => r vs H1 Q) : tCB r t σ H Q := h
theorem go_call {sp : Sp} {dvs : List V} {E : XK} {t : TA} (h : t σ H fun vs H1 => sp (vs ++ dvs) H1 Q E) : tCall sp dvs E t σ H Q := h
theorem go_call0 {sp : Sp} {vs : List V} {E : XK} (h : sp vs H Q E) : sp (vs ++ []) H Q E := by rw [List.append_nil]; exact h
theorem go_callN {n m : Nat} {sp : Sp} {gV : List V → List V → List V} {E : XK} {t tk : TA} (h : t σ H fun vs H1 => tk σ H1 fun zs H2 => CN n m sp gV Q E vs zs H2) : tCallN n m sp gV E t tk σ H Q := h
theorem go_chain {r r' : R2} {tc : TE} (h : ta σ H fun x H1 => tb σ H1 fun y H2 => r x y H2 fun z H3 => TKA (fun H4 => tc σ H4 fun w H5 => r' y w H5 Q) (fun H4 => Q (.bl false) H4) z H3) : tChain r r' ta tb tc σ H Q := h
theorem go_ite {p : Prop} [Decidable p] {A B : Prop} (h1 : p → A) (h2 : ¬ p → B) : if decide p = true then A else B := by
  by_cases h : p
  · rw [if_pos (decide_eq_true h)]; exact h1 h
  · rw [if_neg (by simpa using h)]; exact h2 h
theorem go_iteN {p : Prop} [Decidable p] {A B : Prop} (h1 : ¬ p → A) (h2 : p → B) : if (!decide p) = true then A else B := by
  by_cases h : p
  · rw [if_neg (by simpa using h)]; exact h2 h
  · rw [if_pos (by simpa using h)]; exact h1 h
theorem go_iteT {A B : Prop} (h : A) : if true = true then A else B := by rw [if_pos rfl]; exact h
theorem go_iteF {A B : Prop} (h : B) : if false = true then A else B := by rw [if_neg (by decide)]; exact h
theorem go_iteX1 {A B : Prop} (e : b = true) (h : A) : if b = true then A else B := by rw [if_pos e]; exact h
theorem go_iteX0 {A B : Prop} (e : b = false) (h : B) : if b = true then A else B := by rw [if_neg (by rw [e]; decide)]; exact h
theorem go_iteB {A B : Prop} (h1 : b = true → A) (h2 : b = false → B) : if b = true then A else B := by
  cases b with
  | true => rw [if_pos rfl]; exact h1 rfl
  | false => rw [if_neg (by decide)]; exact h2 rfl
theorem go_iteBN {A B : Prop} (h1 : b = false → A) (h2 : b = true → B) : if (!b) = true then A else B := by
  cases b with
  | true => show if false = true then A else B; rw [if_neg (by decide)]; exact h2 rfl
  | false => show if true = true then A else B; rw [if_pos rfl]; exact h1 rfl

/-! ### items -/
theorem go_ixT {n : Int} (hx : Rp K G x (.tup ds)) (e : Same G H) (hi : atI ds n = some d) (k : ∀ v, Rp K G v d → Q v H) : rIxT K x (.int n) H Q := by
  obtain ⟨a, xs, rfl, hs, ha⟩ := Rp.tup_inv hx
  obtain ⟨v, hv, hr⟩ := ha.atI hi
  exact ⟨a, xs, n, v, rfl, rfl, Same.t e hs, hv, k v hr⟩
theorem go_ixL {n : Int} (hx : Rp K G x (.lst ds)) (e : Same G H) (hi : atI ds n = some d) (k : ∀ v, Rp K G v d → Q v H) : rIxL K x (.int n) H Q := by
  obtain ⟨a, xs, rfl, hs, ha⟩ := Rp.lst_inv hx
  obtain ⟨v, hv, hr⟩ := ha.atI hi
  exact ⟨a, xs, n, v, rfl, rfl, e.seq hs, hv, k v hr⟩
theorem go_ixA {n : Int} (hx : Rp K G x (.tup ds)) (e : Same G H) (hi : atI ds n = some d) (k : ∀ v, Rp K G v d → Q v H) : rIx K x (.int n) H Q := .inr (.inl (go_ixT hx e hi k))
theorem go_ixB {n : Int} (hx : Rp K G x (.lst ds)) (e : Same G H) (hi : atI ds n = some d) (k : ∀ v, Rp K G v d → Q v H) : rIx K x (.int n) H Q := .inl (go_ixL hx e hi k)
theorem go_ixM {p : Addr} {xs : List V} {n : Int} (hp : H p = some (.lst xs)) (hi : atI xs n = some v) (k : Q v H) : rIx K (.ref p) (.int n) H Q := .inl ⟨p, xs, n, v, rfl, rfl, SqL.of hp, hi, k⟩
/-- len -/
theorem go_lenL (hx : Rp K G x (.lst ds)) (e : Same G H) (k : Q (.int ds.length) H) : rLen_ K [x] H Q := by
  obtain ⟨a, xs, rfl, hs, ha⟩ := Rp.lst_inv hx
  exact ⟨a, xs, rfl, .inl (e.seq hs), by rw [ha.length]; exact k⟩
theorem go_lenT (hx : Rp K G x (.tup ds)) (e : Same G H) (k : Q (.int ds.length) H) : rLen_ K [x] H Q := by
  obtain ⟨a, xs, rfl, hs, ha⟩ := Rp.tup_inv hx
  exact ⟨a, xs, rfl, .inr (Same.t e hs), by rw [ha.length]; exact k⟩
/-- a new tuple, a new list that never changes, a new list that will change -/
theorem go_tup {t : TA} (h : t σ H fun xs H1 => NT Q xs H1) : tTup t σ H Q := h
theorem go_lst {t : TA} (h : t σ H fun xs H1 => NL Q xs H1) : tLst t σ H Q := h
theorem go_newT {xs : List V} (hS : Sta K G0 H0 D G M H) (hx : RpAll K G xs ds) (hl : xs.length ≤ sizeLine) (k : ∀ p G1 H1, Same G G1 → Sta K G0 H0 D G1 M H1 → Rp K G1 (.ref p) (.tup ds) → Q (.ref p) H1) : NT Q xs H :=
  ⟨hl, fun p hp => k p (upd G p (.tup xs)) _ (same_upd (hS.gn hp)) (hS.imm hp _) (.tup (.inl (.inl upd_same)) (hx.up (same_upd (hS.gn hp))))⟩
theorem go_newL {xs : List V} (hS : Sta K G0 H0 D G M H) (hx : RpAll K G xs ds) (hl : xs.length ≤ sizeLine) (k : ∀ p G1 H1, Same G G1 → Sta K G0 H0 D G1 M H1 → Rp K G1 (.ref p) (.lst ds) → Q (.ref p) H1) : NL Q xs H :=
  ⟨hl, fun p hp => k p (upd G p (.lst xs)) _ (same_upd (hS.gn hp)) (hS.imm hp _) (.lst (.inl (.inl upd_same)) (hx.up (same_upd (hS.gn hp))))⟩
theorem go_mutL {xs : List V} (hS : Sta K G0 H0 D G M H) (hl : xs.length ≤ sizeLine) (k : ∀ p H1, H0 p = none → G p = none → Sta K G0 H0 D G ((p, .lst xs) :: M) H1 → Q (.ref p) H1) : NL Q xs H :=
  ⟨hl, fun p hp => k p _ (hS.h0 hp) (hS.gn hp) (hS.mut hp _)⟩
/-- xs.append(e) -/
theorem go_bm {T : String} {r : V → List V → Hp → VK → Prop} {t : TA} (h : te σ H fun x H1 => BMK K T (fun H2 => t σ H2 fun xs H3 => r x xs H3 Q) x H1) : tBM K T r te t σ H Q := h
theorem go_bm0 {T : String} {r : V → List V → Hp → VK → Prop} (h : te σ H fun x H1 => BMK K T (fun H2 => r x [] H2 Q) x H1) : tBM0 K T r te σ H Q := h
theorem go_bmL {p : Addr} {xs : List V} {k : Hp → Prop} (hp : H p = some (.lst xs)) (h : k H) : BMK K "list" k (.ref p) H := ⟨.inl ⟨rfl, _, .inl (.inl hp)⟩, h⟩
theorem go_bmLR {p : Addr} {k : Hp → Prop} (hx : Rp K G (.ref p) (.lst ds)) (e : Same G H) (h : k H) : BMK K "list" k (.ref p) H := by
  obtain ⟨a, xs, e1, hs, _⟩ := Rp.lst_inv hx
  cases e1
  exact ⟨.inl ⟨rfl, _, e.seq hs⟩, h⟩
theorem go_append {p : Addr} {xs : List V} {M' : List (Addr × HO)} {i : Nat} (hS : Sta K G0 H0 D G M H) (hi : M[i]? = some (p, .lst xs)) (hl : xs.length < 100000) (hM : M.set i (p, .lst (xs ++ [y])) = M') (k : ∀ H1, Sta K G0 H0 D G M' H1 → Q .non H1) : rAppend (.ref p) [y] H Q := by
  subst hM
  exact ⟨p, xs, y, rfl, rfl, hS.get hi, Nat.lt_of_lt_of_le hl (by decide), k _ (hS.set hi _)⟩
/-- xs[i] = e, xs a list that may change -/
theorem go_setL {p : Addr} {xs : List V} {M' : List (Addr × HO)} {i j : Nat} {n : Int} {k : Hp → Prop} (hS : Sta K G0 H0 D G M H) (hi : M[i]? = some (p, .lst xs)) (hj : ixN xs.length n = some j) (hM : M.set i (p, .lst (xs.set j v)) = M') (h : ∀ H1, Sta K G0 H0 D G M' H1 → k H1) : rSetL (.ref p) (.int n) v H k := by
  subst hM
  exact ⟨p, xs, n, j, rfl, rfl, hS.get hi, hj, h _ (hS.set hi _)⟩
theorem go_gsub {to ti : TE} {ts : TSet} {p : L2.St → Hp → Prop} (h : to σ H fun o H1 => ti σ H1 fun i H2 => ts o i v H2 fun H3 => p σ H3) : gSub to ti ts v σ H p := h
/-- int(x), abs(x) -/
theorem go_int {i : Int} (h : Q (.int i) H) : rInt_ [.int i] H Q := .inl ⟨i, rfl, h⟩
theorem go_intB {k : Bool} (h : Q (.int (if k then 1 else 0)) H) : rInt_ [.bl k] H Q := .inr ⟨k, rfl, h⟩
/-- o.f -/
theorem go_fld {f : Str} (h : ta σ H fun x H1 => FK K f Q x H1) : tFld K ta f σ H Q := h
theorem RpF.look {fs : List (Str × V)} {ds : List (Str × Dt)} (h : RpF K G fs ds) {f : Str} {d : Dt} (e : ds.lookup f = some d) : ∃ v, fs.lookup f = some v ∧ Rp K G v d := by
  induction ds generalizing fs with
  | nil => simp at e
  | cons q ds ih =>
    cases h with
    | cons h1 h2 =>
      rename_i f' v' vs' d'
      rw [List.lookup_cons] at e ⊢
      cases hb : f == f' with
      | true =>
        rw [hb] at e
        cases e
        exact ⟨_, rfl, h1⟩
      | false =>
        rw [hb] at e
        exact ih h2 e
theorem go_fldR {C : Addr} {fds : List (Str × Dt)} {f : Str} (hx : Rp K G x (.ins C fds)) (e : Same G H) (cl : Cls K C) (na : NoAttr K C f) (hi : fds.lookup f = some d) (k : ∀ v, Rp K G v d → Q v H) : FK K f Q x H := by
  obtain ⟨a, dx, fs, rfl, hs, ha⟩ := Rp.ins_inv hx
  obtain ⟨v, hv, hr⟩ := ha.look hi
  exact ⟨a, C, dx, fs, v, rfl, e _ _ hs, cl, na, hv, k v hr⟩
/-! ### loops -/
def ForG (J : It) (g : TG) (tb : TS) (De : Ends) (σ : L2.St) (H : Hp) : Prop := ∃ W : Nat → Nat → L2.St → Hp → Prop, (∃ m, W 0 m σ H) ∧ ∀ i m σ H, W i m σ H →
  (J.stop i H ∧ De.nx σ H) ∨ (J.go i H ∧ ∃ N : L2.St → Hp → Prop, (∀ σ' H', N σ' H' → ∃ m', m' < m ∧ W (i + 1) m' σ' H') ∧ ∀ x H', J.yld i H x H' → g x σ H' fun σ2 H2 => tb { De with nx := N, ct := N, bk := De.nx } σ2 H2)
theorem go_for {wi : TI} {g : TG} (h : wi σ H fun J H1 => ForG J g t ⟨nx, rt, bk, ct⟩ σ H1) : tFor wi g t ⟨nx, rt, bk, ct⟩ σ H := h
def Nx (K : PySem.W.Frag) (G0 H0 : Hp) (D : List Addr) (G : Hp) (W : L2.St → Hp → List (Addr × HO) → Prop) : L2.St → Hp → Prop := fun σ H => ∃ G1 M1, Same G G1 ∧ Sta K G0 H0 D G1 M1 H ∧ W σ G1 M1
theorem Nx.mk {W : L2.St → Hp → List (Addr × HO) → Prop} {G1 : Hp} (hS : Sta K G0 H0 D G1 M H) (e : Same G G1) (w : W σ G1 M) : Nx K G0 H0 D G W σ H := ⟨G1, M, e, hS, w⟩
theorem forI {J : It} {n : Nat} {Gd : Hp → Prop} {Y : Nat → Hp → V → Hp → Prop} (w : Walk J n Gd Y) {g : TG} (hS : Sta K G0 H0 D G M H) (hg : ∀ H1, Same G H1 → Gd H1) (W : Nat → L2.St → Hp → List (Addr × HO) → Prop) (h0 : W 0 σ G M)
    (hs : ∀ i x σ' G1 M1 H1 H2, i < n → Same G G1 → Sta K G0 H0 D G1 M1 H1 → W i σ' G1 M1 → Y i H1 x H2 → g x σ' H2 fun σ2 H3 => t ⟨Nx K G0 H0 D G (W (i + 1)), rt, nx, Nx K G0 H0 D G (W (i + 1))⟩ σ2 H3)
    (hd : ∀ σ' G1 M1 H1, Same G G1 → Sta K G0 H0 D G1 M1 H1 → W n σ' G1 M1 → nx σ' H1) : ForG J g t ⟨nx, rt, bk, ct⟩ σ H :=
  for_it w (D := ⟨nx, rt, bk, ct⟩) (fun i => Nx K G0 H0 D G (W i)) ⟨G, M, Same.refl G, hS, h0⟩ (fun i σ' H1 _ ⟨G1, M1, e, s, _⟩ => hg H1 (e.trans s.gh)) (fun i x σ' H1 H2 hi ⟨G1, M1, e, s, w⟩ y => hs i x σ' G1 M1 H1 H2 hi e s w y) (fun σ' H1 ⟨G1, M1, e, s, w⟩ => hd σ' G1 M1 H1 e s w)
theorem forR {lo : Int} {n : Nat} {g : TG} (hS : Sta K G0 H0 D G M H) (W : Nat → L2.St → Hp → List (Addr × HO) → Prop) (h0 : W 0 σ G M)
    (hs : ∀ i σ' G1 M1 H1, i < n → Same G G1 → Sta K G0 H0 D G1 M1 H1 → W i σ' G1 M1 → g (.int (lo + i)) σ' H1 fun σ2 H3 => t ⟨Nx K G0 H0 D G (W (i + 1)), rt, nx, Nx K G0 H0 D G (W (i + 1))⟩ σ2 H3)
    (hd : ∀ σ' G1 M1 H1, Same G G1 → Sta K G0 H0 D G1 M1 H1 → W n σ' G1 M1 → nx σ' H1) : ForG (Itr lo n) g t ⟨nx, rt, bk, ct⟩ σ H :=
  forI walk_range hS (fun _ _ => trivial) W h0 (fun i x σ' G1 M1 H1 H2 hi e s w y => by
    obtain ⟨rfl, rfl⟩ := y
    exact hs i σ' G1 M1 H2 hi e s w) hd
theorem forL {a : Addr} {xs : List V} {g : TG} (hS : Sta K G0 H0 D G M H) (hq : SqL K G a xs) (hr : RpAll K G xs ds) (W : Nat → L2.St → Hp → List (Addr × HO) → Prop) (h0 : W 0 σ G M)
    (hs : ∀ i x d σ' G1 M1 H1, i < ds.length → ds[i]? = some d → Same G G1 → Sta K G0 H0 D G1 M1 H1 → Rp K G1 x d → W i σ' G1 M1 → g x σ' H1 fun σ2 H3 => t ⟨Nx K G0 H0 D G (W (i + 1)), rt, nx, Nx K G0 H0 D G (W (i + 1))⟩ σ2 H3)
    (hd : ∀ σ' G1 M1 H1, Same G G1 → Sta K G0 H0 D G1 M1 H1 → W ds.length σ' G1 M1 → nx σ' H1) : ForG (Itl K a) g t ⟨nx, rt, bk, ct⟩ σ H :=
  forI (walk_list (xs := xs)) hS (fun H1 e => e.seq hq) W h0 (fun i x σ' G1 M1 H1 H2 hi e s w y => by
    obtain ⟨rfl, hx⟩ := y
    obtain ⟨d, hd, r⟩ := hr.getV hx
    exact hs i x d σ' G1 M1 H2 (by rw [← hr.length]; exact hi) hd e s (r.up e) w) (by rw [hr.length]; exact hd)
/-- a loop that changes its own name alone -/
theorem forLS {a : Addr} {xs : List V} {j : Nat} (hS : Sta K G0 H0 D G M H) (hq : SqL K G a xs) (hr : RpAll K G xs ds)
    (hs : ∀ i x d G1 H1, i < ds.length → ds[i]? = some d → Same G G1 → Sta K G0 H0 D G1 M H1 → Rp K G1 x d → t ⟨Nx K G0 H0 D G (fun σ' _ M' => M' = M ∧ ∃ u, σ' = σ.set j u), rt, nx, Nx K G0 H0 D G (fun σ' _ M' => M' = M ∧ ∃ u, σ' = σ.set j u)⟩ (σ.set j (some x)) H1)
    (hd : ∀ u G1 H1, Same G G1 → Sta K G0 H0 D G1 M H1 → nx (σ.set j u) H1) : ForG (Itl K a) (gName j) t ⟨nx, rt, bk, ct⟩ σ H := by
  have e0 : ∃ u, σ = σ.set j u := by
    by_cases hj : j < σ.length
    · refine ⟨σ[j], ?_⟩
      rw [List.set_getElem_self]
    · exact ⟨none, by rw [List.set_eq_of_length_le (by omega)]⟩
  refine forL hS hq hr (fun _ σ' _ M' => M' = M ∧ ∃ u, σ' = σ.set j u) ⟨rfl, e0⟩ (fun i x d σ' G1 M1 H1 hi hd' e s r w => ?_) (fun σ' G1 M1 H1 e s w => ?_)
  · obtain ⟨rfl, u, rfl⟩ := w
    show t _ ((σ.set j u).set j (some x)) H1
    rw [List.set_set]
    exact hs i x d G1 H1 hi hd' e s r
  · obtain ⟨rfl, u, rfl⟩ := w
    exact hd u G1 H1 e s
/-- the same over a range -/
theorem forRS {lo : Int} {n j : Nat} (hS : Sta K G0 H0 D G M H)
    (hs : ∀ (i : Nat) G1 H1, i < n → Same G G1 → Sta K G0 H0 D G1 M H1 → t ⟨Nx K G0 H0 D G (fun σ' _ M' => M' = M ∧ ∃ u, σ' = σ.set j u), rt, nx, Nx K G0 H0 D G (fun σ' _ M' => M' = M ∧ ∃ u, σ' = σ.set j u)⟩ (σ.set j (some (.int (lo + i)))) H1)
    (hd : ∀ u G1 H1, Same G G1 → Sta K G0 H0 D G1 M H1 → nx (σ.set j u) H1) : ForG (Itr lo n) (gName j) t ⟨nx, rt, bk, ct⟩ σ H := by
  have e0 : ∃ u, σ = σ.set j u := by
    by_cases hj : j < σ.length
    · refine ⟨σ[j], ?_⟩
      rw [List.set_getElem_self]
    · exact ⟨none, by rw [List.set_eq_of_length_le (by omega)]⟩
  refine forR hS (fun _ σ' _ M' => M' = M ∧ ∃ u, σ' = σ.set j u) ⟨rfl, e0⟩ (fun i σ' G1 M1 H1 hi e s w => ?_) (fun σ' G1 M1 H1 e s w => ?_)
  · obtain ⟨rfl, u, rfl⟩ := w
    show t _ ((σ.set j u).set j (some (.int (lo + i)))) H1
    rw [List.set_set]
    exact hs i G1 H1 hi e s
  · obtain ⟨rfl, u, rfl⟩ := w
    exact hd u G1 H1 e s
theorem go_iList {tl : TE} {k : It → Hp → Prop} (h : tl σ H fun x H1 => LK K k x H1) : iList K tl σ H k := h
theorem go_iRng1 {t : TA} {k : It → Hp → Prop} (h : t σ H fun vs H1 => RK1 k vs H1) : iRng1 t σ H k := h
theorem go_iRng2 {t : TA} {k : It → Hp → Prop} (h : t σ H fun vs H1 => RK2 k vs H1) : iRng2 t σ H k := h
theorem go_rng1 {n : Int} {k : It → Hp → Prop} (h1 : -(2 ^ 62) ≤ n ∧ n < 2 ^ 62) (h : k (Itr 0 n.toNat) H) : RK1 k [.int n] H := ⟨n, rfl, h1.1, h1.2, h⟩
theorem go_rng2 {m n : Int} {k : It → Hp → Prop} (h1 : -(2 ^ 62) ≤ m ∧ m < 2 ^ 62 ∧ -(2 ^ 62) ≤ n ∧ n < 2 ^ 62) (h : k (Itr m (n - m).toNat) H) : RK2 k [.int m, .int n] H := ⟨m, n, rfl, h1, h⟩
theorem go_itl {k : It → Hp → Prop} (hx : Rp K G x (.lst ds)) (e : Same G H) (h : ∀ a xs, x = .ref a → SqL K G a xs → RpAll K G xs ds → k (Itl K a) H) : LK K k x H := by
  obtain ⟨a, xs, rfl, hs, ha⟩ := Rp.lst_inv hx
  exact ⟨a, rfl, ⟨xs, e.seq hs⟩, h a xs rfl hs ha⟩
/-- abs, max, min of two -/
theorem go_abs {i : Int} (h : Q (.int (if i < 0 then -i else i)) H) : rAbs_ [.int i] H Q := ⟨i, rfl, h⟩
theorem go_max {m n : Int} (h : Q (.int (if n > m then n else m)) H) : rMax2_ [.int m, .int n] H Q := ⟨m, n, rfl, h⟩
theorem go_min {m n : Int} (h : Q (.int (if n < m then n else m)) H) : rMin2_ [.int m, .int n] H Q := ⟨m, n, rfl, h⟩
theorem go_lenM {p : Addr} {xs : List V} (hp : H p = some (.lst xs)) (k : Q (.int xs.length) H) : rLen_ K [.ref p] H Q := ⟨p, xs, rfl, .inl (SqL.of hp), k⟩
theorem go_calln {n m : Nat} {sp : Sp} {E : XK} {vs zs ws : List V} (h1 : vs.length = n) (h2 : zs.length = m) (e : vs ++ zs = ws) (h : sp ws H Q E) : CN n m sp (fun a b => a ++ b) Q E vs zs H := ⟨h1, h2, by show sp (vs ++ zs) H Q E; rw [e]; exact h⟩
end
theorem Fun.kbn {K : PySem.W.Frag} {x qual : Str} {st : Stmt} {f : Addr} {fd : FuncData} {ps : List Str} {n : Nat} {ks : List Str} (F : Fun K x qual st f fd)
    (h : ∀ (kV doc pm : Value) (an : Option Addr) (cdv ct : Value) (us ws : List Value), us.length = n → ws.length = ks.length → bindArgs (PySem.W.fnOf x qual (defArgs st) (defBody st) (defScope st) .none kV doc pm an cdv ct) ⟨us, ks.zip ws⟩ = pure (ps.zip (us ++ ws))) :
    KBn K fd ps n ks (fun a b => a ++ b) (fun a b => a ++ b) := by
  obtain ⟨oc, od, kV, doc, pm, an, cdv, ct, osl, rfl, lk, hcd⟩ := F.ex
  exact ⟨fun s us ws _ h1 h2 => .of_eq (h kV doc pm an cdv ct us ws h1 h2), fun r1 r2 => r1.append r2⟩
theorem intD_zero : (0 : Int) = ((0 : Nat) : Int) := rfl
/-! ### bars -/
def optD : Option Int → Dt
  | none => .non
  | some i => .int i
def optV : Option Int → V
  | none => .non
  | some i => .int i
abbrev Bar := Int × Option Int
def barD (b : Bar) : Dt := .tup [.int b.1, optD b.2]
theorem optD_inv {K : PySem.W.Frag} {G : Hp} {v : V} {o : Option Int} (h : Rp K G v (optD o)) : v = optV o := by
  cases o with
  | none => exact Rp.non_inv h
  | some i => exact Rp.int_inv h
theorem optD_rp {K : PySem.W.Frag} {G : Hp} {o : Option Int} : Rp K G (optV o) (optD o) := by
  cases o with
  | none => exact .non
  | some i => exact .int i
/-! ### what the laws draw from -/
def drw (r : Addr) (at_ : Int) : HO := .lst [.ref r, .int at_]
theorem pick2 {a b i : Int} (h0 : 0 ≤ i) (h1 : i < 2) : ∃ m, atI [Dt.int a, Dt.int b] i = some (.int m) ∧ (i = 0 ∧ m = a ∨ i = 1 ∧ m = b) := by
  have : i = 0 ∨ i = 1 := by omega
  rcases this with rfl | rfl
  · exact ⟨a, rfl, .inl ⟨rfl, rfl⟩⟩
  · exact ⟨b, rfl, .inr ⟨rfl, rfl⟩⟩
theorem go_pick2 {K : PySem.W.Frag} {G H : Hp} {x : V} {a b i : Int} {Q : VK} (hx : Rp K G x (.lst [.int a, .int b])) (e : Same G H) (h0 : 0 ≤ i) (h1 : i < 2) (k : ∀ m, (i = 0 ∧ m = a ∨ i = 1 ∧ m = b) → Q (.int m) H) : rIx K x (.int i) H Q := by
  obtain ⟨m, h2, h3⟩ := pick2 (a := a) (b := b) h0 h1
  exact go_ixB hx e h2 fun v hv => by cases Rp.int_inv hv; exact k m h3
def RowOk (K : PySem.W.Frag) (G : Hp) (r : Addr) : Prop := ∃ xs : List Int, SqL K G r (xs.map .int) ∧ xs.length ≤ 200
theorem RowOk.up {K : PySem.W.Frag} {G G' : Hp} {r : Addr} (e : Same G G') (h : RowOk K G r) : RowOk K G' r := by
  obtain ⟨xs, h1, h2⟩ := h
  exact ⟨xs, e.seq h1, h2⟩
theorem Sta.callNew {K : PySem.W.Frag} {G0 H0 G H G1 H1 : Hp} {D : List Addr} {M : List (Addr × HO)} {p : Addr} {o : HO} (h : Sta K G0 H0 D G M H) (a : Adv [] G H G1 H1) (hp : H p = none) (h1 : H1 p = some o) (hg : G1 p = none) : Sta K G0 H0 D G1 ((p, o) :: M) H1 := by
  have s := h.call a
  refine ⟨s.g0, s.gh, s.fr, s.kp, s.up, ?_, fun q hq => ?_⟩
  · simp only [List.map_cons, List.nodup_cons]
    exact ⟨fun hm => by
      obtain ⟨q, hq, e⟩ := List.mem_map.mp hm
      exact h.mn hp q hq e, h.md⟩
  · rcases List.mem_cons.mp hq with rfl | hq
    · exact ⟨h1, hg, .inr (h.h0 hp)⟩
    · exact s.mh q hq

/-! ### isinstance of data -/
def tyD : Dt → String
  | .non => "NoneType" | .bl _ => "bool" | .int _ => "int" | .str _ => "str" | .lst _ => "list" | .tup _ => "tuple" | .ins _ _ => "?"
theorem tyD_non : tyD .non = "NoneType" := rfl
theorem tyD_bl {b : Bool} : tyD (.bl b) = "bool" := rfl
theorem tyD_int {b : Int} : tyD (.int b) = "int" := rfl
theorem tyD_str {b : Str} : tyD (.str b) = "str" := rfl
theorem tyD_lst {b : List Dt} : tyD (.lst b) = "list" := rfl
theorem tyD_tup {b : List Dt} : tyD (.tup b) = "tuple" := rfl
theorem tyX_l {K : PySem.W.Frag} {H : Hp} {a : Addr} {xs : List V} (h : SqL K H a xs) : TyX K H (.ref a) (.type "list") := by
  rcases h with (h | ⟨o, h⟩) | ⟨o, its, n, h1, h2, _⟩
  · exact .base (.lst h)
  · exact .base (.frz h)
  · exact .kList h1 h2
theorem tyX_t {K : PySem.W.Frag} {H : Hp} {a : Addr} {xs : List V} (h : SqT K H a xs) : TyX K H (.ref a) (.type "tuple") := by
  rcases h with (h | ⟨o, h⟩) | ⟨o, its, n, h1, h2, _⟩
  · exact .base (.tup h)
  · exact .fTuple h
  · exact .kTuple h1 h2
theorem tyX_d {K : PySem.W.Frag} {G H : Hp} {x : V} : ∀ {d : Dt}, tyD d ≠ "?" → Rp K G x d → Same G H → TyX K H x (.type (tyD d))
  | .non, _, h, _ => by cases h; exact .base .non
  | .bl _, _, h, _ => by cases h; exact .base (.bl _)
  | .int _, _, h, _ => by cases h; exact .base (.int _)
  | .str _, _, h, _ => by cases h; exact .base (.str _)
  | .lst _, _, h, e => by
    cases h with
    | lst h1 _ => exact tyX_l (e.seq h1)
  | .tup _, _, h, e => by
    cases h with
    | tup h1 _ => exact tyX_t (Same.t e h1)
  | .ins _ _, hn, _, _ => absurd rfl hn
section
variable {K : PySem.W.Frag} {G0 H0 G H : Hp} {D : List Addr} {M : List (Addr × HO)} {Q : VK} {x : V} {d : Dt} {b b1 b2 : Bool}
theorem kit_NoneType_tuple : kitB "NoneType" "tuple" = some false := by decide +kernel
theorem kit_NoneType_list : kitB "NoneType" "list" = some false := by decide +kernel
theorem kit_NoneType_bool : kitB "NoneType" "bool" = some false := by decide +kernel
theorem kit_NoneType_int : kitB "NoneType" "int" = some false := by decide +kernel
theorem kit_NoneType_str : kitB "NoneType" "str" = some false := by decide +kernel
theorem kit_bool_tuple : kitB "bool" "tuple" = some false := by decide +kernel
theorem kit_bool_list : kitB "bool" "list" = some false := by decide +kernel
theorem kit_bool_bool : kitB "bool" "bool" = some true := by decide +kernel
theorem kit_bool_int : kitB "bool" "int" = some true := by decide +kernel
theorem kit_bool_str : kitB "bool" "str" = some false := by decide +kernel
theorem kit_int_tuple : kitB "int" "tuple" = some false := by decide +kernel
theorem kit_int_list : kitB "int" "list" = some false := by decide +kernel
theorem kit_int_bool : kitB "int" "bool" = some false := by decide +kernel
theorem kit_int_int : kitB "int" "int" = some true := by decide +kernel
theorem kit_int_str : kitB "int" "str" = some false := by decide +kernel
theorem kit_str_tuple : kitB "str" "tuple" = some false := by decide +kernel
theorem kit_str_list : kitB "str" "list" = some false := by decide +kernel
theorem kit_str_bool : kitB "str" "bool" = some false := by decide +kernel
theorem kit_str_int : kitB "str" "int" = some false := by decide +kernel
theorem kit_str_str : kitB "str" "str" = some true := by decide +kernel
theorem kit_list_tuple : kitB "list" "tuple" = some false := by decide +kernel
theorem kit_list_list : kitB "list" "list" = some true := by decide +kernel
theorem kit_list_bool : kitB "list" "bool" = some false := by decide +kernel
theorem kit_list_int : kitB "list" "int" = some false := by decide +kernel
theorem kit_list_str : kitB "list" "str" = some false := by decide +kernel
theorem kit_tuple_tuple : kitB "tuple" "tuple" = some true := by decide +kernel
theorem kit_tuple_list : kitB "tuple" "list" = some false := by decide +kernel
theorem kit_tuple_bool : kitB "tuple" "bool" = some false := by decide +kernel
theorem kit_tuple_int : kitB "tuple" "int" = some false := by decide +kernel
theorem kit_tuple_str : kitB "tuple" "str" = some false := by decide +kernel
theorem go_isi {S t : String} (hx : Rp K G x d) (e : Same G H) (ht : tyD d = t) (hn : t ≠ "?") (hb : kitB t S = some b) (k : Q (.bl b) H) : rIsi K [x, .ty S] H Q := by
  subst ht
  exact ⟨x, .ty S, _, _, b, rfl, .ty S, tyX_d hn hx e, kit_ty hb, k⟩
theorem go_isiT {S1 S2 t : String} {p : Addr} (hx : Rp K G x d) (e : Same G H) (hp : H p = some (.tup [.ty S1, .ty S2])) (ht : tyD d = t) (hn : t ≠ "?") (hb1 : kitB t S1 = some b1) (hb2 : kitB t S2 = some b2) (k : Q (.bl (b1 || b2)) H) : rIsiT K [x, .ref p] H Q := by
  subst ht
  refine ⟨x, p, _, _, [.type S1, .type S2], b1 || b2, rfl, hp, .cons (.ty S1) (.cons (.ty S2) .nil), tyX_d hn hx e, ?_, k⟩
  refine kitAny_cons (b := b1) (kit_ty hb1) (fun e1 => ?_) (fun e1 => by rw [e1]; rfl)
  refine kitAny_cons (b := b2) (kit_ty hb2) (fun e2 => ?_) (fun e2 => by rw [e1, e2]; rfl)
  rw [e1, e2]
  exact kitAny_nil
theorem go_rawT {xs : List V} (hS : Sta K G0 H0 D G M H) (hl : xs.length ≤ sizeLine) (k : ∀ p G1 H1, Same G G1 → Sta K G0 H0 D G1 M H1 → H1 p = some (.tup xs) → Q (.ref p) H1) : NT Q xs H :=
  ⟨hl, fun p hp => k p (upd G p (.tup xs)) _ (same_upd (hS.gn hp)) (hS.imm hp _) upd_same⟩
end
/-- data without instances, n deep at most -/
def okD : Nat → Dt → Bool
  | 0, _ => false
  | n + 1, .tup xs => decide (xs.length ≤ 100000) && xs.all (okD n)
  | n + 1, .lst xs => decide (xs.length ≤ 100000) && xs.all (okD n)
  | _ + 1, .ins _ _ => false
  | _ + 1, _ => true

/-! ### comprehensions -/
section
variable {K : PySem.W.Frag} {G0 H0 G H : Hp} {D : List Addr} {M : List (Addr × HO)} {σ σ' : L2.St} {Q : VK} {tt : TT} {te : TE} {ds : List Dt} {vss : List Nat} {nx bk ct : L2.St → Hp → Prop} {rt : VK} {t : TS} {x y : V} {d : Dt}
def LcG (J : It) (g : TG) (tt : TT) (te : TE) (vss : List Nat) (σ : L2.St) (Q : VK) (H1 : Hp) : Prop := ∀ D, H1 D = none → ∃ W : Nat → Nat → Hp → Prop, (∃ m, W 0 m (upd H1 D (.lst []))) ∧ ∀ i m H, W i m H →
  (J.stop i H ∧ Q (.ref D) H) ∨ (J.go i H ∧ ∃ Nx : Hp → Prop, (∀ H', Nx H' → ∃ m', m' < m ∧ W (i + 1) m' H') ∧ ∀ x H', J.yld i H x H' → g x (wipe σ vss) H' fun σ2 H2 => wipe σ2 vss = wipe σ vss ∧ tt σ2 H2 fun b H3 =>
    if b = true then te σ2 H3 fun y H4 => ∃ acc, H4 D = some (.lst acc) ∧ acc.length < sizeLine ∧ Nx (upd H4 D (.lst (acc ++ [y]))) else Nx H3)
theorem go_lc {wi : TI} {g : TG} (h : wi σ H fun J H1 => LcG J g tt te vss σ Q H1) : tLc wi g tt te vss σ H Q := h
/-- behind a turn: the list so far stands at L, what may change is M1, the data so far ds; W says what holds -/
def LcP (K : PySem.W.Frag) (G0 H0 : Hp) (D : List Addr) (G : Hp) (L : Addr) (W : List (Addr × HO) → List Dt → Prop) (H : Hp) : Prop := ∃ G1 M1 vs ds, Same G G1 ∧ Sta K G0 H0 D G1 ((L, .lst vs) :: M1) H ∧ RpAll K G1 vs ds ∧ W M1 ds
def LcY (K : PySem.W.Frag) (G0 H0 : Hp) (D : List Addr) (G : Hp) (L : Addr) (W : List (Addr × HO) → List Dt → Prop) : VK := fun y H4 => ∃ acc, H4 L = some (.lst acc) ∧ acc.length < sizeLine ∧ LcP K G0 H0 D G L W (upd H4 L (.lst (acc ++ [y])))
theorem lcY {L : Addr} {W : List (Addr × HO) → List Dt → Prop} {G4 H4 : Hp} {vs : List V} (hS : Sta K G0 H0 D G4 ((L, .lst vs) :: M) H4) (e : Same G G4) (hv : RpAll K G4 vs ds) (hy : Rp K G4 y d) (hl : ds.length < 100000) (w : W M (ds ++ [d])) : LcY K G0 H0 D G L W y H4 :=
  ⟨vs, hS.get (i := 0) rfl, by rw [hv.length]; exact Nat.lt_of_lt_of_le hl (by decide), G4, M, vs ++ [y], ds ++ [d], e, hS.set (i := 0) rfl _, hv.app (.one hy), w⟩
theorem lcN {L : Addr} {W : List (Addr × HO) → List Dt → Prop} {G4 H4 : Hp} {vs : List V} (hS : Sta K G0 H0 D G4 ((L, .lst vs) :: M) H4) (e : Same G G4) (hv : RpAll K G4 vs ds) (w : W M ds) : LcP K G0 H0 D G L W H4 :=
  ⟨G4, M, vs, ds, e, hS, hv, w⟩
/-- a comprehension; the list may change afterwards -/
theorem lcIM {J : It} {n : Nat} {Gd : Hp → Prop} {Y : Nat → Hp → V → Hp → Prop} (w : Walk J n Gd Y) {g : TG} (hS : Sta K G0 H0 D G M H) (hg : ∀ H1, Same G H1 → Gd H1) (W : Nat → List (Addr × HO) → List Dt → Prop) (h0 : W 0 M [])
    (hs : ∀ i x L G1 M1 vs ds H1 H2, i < n → Same G G1 → H0 L = none → Sta K G0 H0 D G1 ((L, .lst vs) :: M1) H1 → RpAll K G1 vs ds → W i M1 ds → Y i H1 x H2 → g x (wipe σ vss) H2 fun σ2 H3 => wipe σ2 vss = wipe σ vss ∧ tt σ2 H3 fun b H4 =>
      if b = true then te σ2 H4 (LcY K G0 H0 D G L (W (i + 1))) else LcP K G0 H0 D G L (W (i + 1)) H4)
    (hd : ∀ L G1 M1 vs ds H1, Same G G1 → H0 L = none → Sta K G0 H0 D G1 ((L, .lst vs) :: M1) H1 → RpAll K G1 vs ds → W n M1 ds → Q (.ref L) H1) : LcG J g tt te vss σ Q H := by
  intro L hL
  have l0 := hS.h0 hL
  refine lc_it w (fun i => LcP K G0 H0 D G L (W i)) ⟨G, M, [], [], Same.refl G, hS.mut hL _, .nil, h0⟩ (fun i H1 _ p => ?_) (fun i x H1 H2 hi p y => ?_) (fun H1 p => ?_)
  · obtain ⟨G1, M1, vs, ds, e, s, _⟩ := p
    exact hg H1 (e.trans s.gh)
  · obtain ⟨G1, M1, vs, ds, e, s, r, w'⟩ := p
    exact hs i x L G1 M1 vs ds H1 H2 hi e l0 s r w' y
  · obtain ⟨G1, M1, vs, ds, e, s, r, w'⟩ := p
    exact hd L G1 M1 vs ds H1 e l0 s r w'
/-- .. it will not change -/
theorem lcI {J : It} {n : Nat} {Gd : Hp → Prop} {Y : Nat → Hp → V → Hp → Prop} (w : Walk J n Gd Y) {g : TG} (hS : Sta K G0 H0 D G M H) (hg : ∀ H1, Same G H1 → Gd H1) (W : Nat → List (Addr × HO) → List Dt → Prop) (h0 : W 0 M [])
    (hs : ∀ i x L G1 M1 vs ds H1 H2, i < n → Same G G1 → H0 L = none → Sta K G0 H0 D G1 ((L, .lst vs) :: M1) H1 → RpAll K G1 vs ds → W i M1 ds → Y i H1 x H2 → g x (wipe σ vss) H2 fun σ2 H3 => wipe σ2 vss = wipe σ vss ∧ tt σ2 H3 fun b H4 =>
      if b = true then te σ2 H4 (LcY K G0 H0 D G L (W (i + 1))) else LcP K G0 H0 D G L (W (i + 1)) H4)
    (hd : ∀ p G1 M1 ds H1, Same G G1 → Sta K G0 H0 D G1 M1 H1 → Rp K G1 (.ref p) (.lst ds) → W n M1 ds → Q (.ref p) H1) : LcG J g tt te vss σ Q H :=
  lcIM w hS hg W h0 hs fun L G1 M1 vs ds H1 e l0 s r w' => by
    obtain ⟨G2, e2, s2, r2⟩ := s.frzL l0 r
    exact hd L G2 M1 ds H1 (e.trans e2) s2 r2 w'
/-- over a range, a list -/
theorem lcR {lo : Int} {n : Nat} {g : TG} (hS : Sta K G0 H0 D G M H) (W : Nat → List (Addr × HO) → List Dt → Prop) (h0 : W 0 M [])
    (hs : ∀ i L G1 M1 vs ds H1, i < n → Same G G1 → H0 L = none → Sta K G0 H0 D G1 ((L, .lst vs) :: M1) H1 → RpAll K G1 vs ds → W i M1 ds → g (.int (lo + i)) (wipe σ vss) H1 fun σ2 H3 => wipe σ2 vss = wipe σ vss ∧ tt σ2 H3 fun b H4 =>
      if b = true then te σ2 H4 (LcY K G0 H0 D G L (W (i + 1))) else LcP K G0 H0 D G L (W (i + 1)) H4)
    (hd : ∀ p G1 M1 ds H1, Same G G1 → Sta K G0 H0 D G1 M1 H1 → Rp K G1 (.ref p) (.lst ds) → W n M1 ds → Q (.ref p) H1) : LcG (Itr lo n) g tt te vss σ Q H :=
  lcI walk_range hS (fun _ _ => trivial) W h0 (fun i x L G1 M1 vs ds H1 H2 hi e l0 s r w y => by
    obtain ⟨rfl, rfl⟩ := y
    exact hs i L G1 M1 vs ds H2 hi e l0 s r w) hd
theorem lcL {a : Addr} {xs : List V} {g : TG} (hS : Sta K G0 H0 D G M H) (hq : SqL K G a xs) (hr : RpAll K G xs ds) (W : Nat → List (Addr × HO) → List Dt → Prop) (h0 : W 0 M [])
    (hs : ∀ i x d L G1 M1 vs es H1, i < ds.length → ds[i]? = some d → Rp K G1 x d → Same G G1 → H0 L = none → Sta K G0 H0 D G1 ((L, .lst vs) :: M1) H1 → RpAll K G1 vs es → W i M1 es → g x (wipe σ vss) H1 fun σ2 H3 => wipe σ2 vss = wipe σ vss ∧ tt σ2 H3 fun b H4 =>
      if b = true then te σ2 H4 (LcY K G0 H0 D G L (W (i + 1))) else LcP K G0 H0 D G L (W (i + 1)) H4)
    (hd : ∀ p G1 M1 es H1, Same G G1 → Sta K G0 H0 D G1 M1 H1 → Rp K G1 (.ref p) (.lst es) → W ds.length M1 es → Q (.ref p) H1) : LcG (Itl K a) g tt te vss σ Q H :=
  lcI (walk_list (xs := xs)) hS (fun H1 e => e.seq hq) W h0 (fun i x L G1 M1 vs es H1 H2 hi e l0 s r w y => by
    obtain ⟨rfl, hx⟩ := y
    obtain ⟨d, hd', rd⟩ := hr.getV hx
    exact hs i x d L G1 M1 vs es H2 (by rw [← hr.length]; exact hi) hd' (rd.up e) e l0 s r w) (by rw [hr.length]; exact hd)
/-- the target a pair -/
theorem go_gpair {i j : Nat} {T : Addr} {p : L2.St → Hp → Prop} (h : SqT K H T [x, y]) (e : List.set (List.set σ i (some x)) j (some y) = σ') (k : p σ' H) : gTup K 2 (gCons (gName i) (gCons (gName j) gNil)) (.ref T) σ H p :=
  ⟨T, [x, y], rfl, h, rfl, x, [y], rfl, y, [], rfl, rfl, by show p (List.set (List.set σ i (some x)) j (some y)) H; rw [e]; exact k⟩
/-- a new pair made by a walk: the state behind it -/
theorem Sta.pair {T : Addr} {H1 : Hp} (hS : Sta K G0 H0 D G M H) (hT : H T = none) (e : H1 = upd H T (.tup [x, y])) : ∃ G1, Same G G1 ∧ Sta K G0 H0 D G1 M H1 ∧ SqT K H1 T [x, y] := by
  subst e
  exact ⟨_, same_upd (hS.gn hT), hS.imm hT _, .inl (.inl upd_same)⟩
/-- enumerate(list) -/
theorem lcE {a : Addr} {xs : List V} {i1 j1 : Nat} (hS : Sta K G0 H0 D G M H) (hq : SqL K G a xs) (hr : RpAll K G xs ds) (W : Nat → List (Addr × HO) → List Dt → Prop) (h0 : W 0 M [])
    (hs : ∀ i x d L G1 M1 vs es H1, i < ds.length → ds[i]? = some d → Rp K G1 x d → Same G G1 → H0 L = none → Sta K G0 H0 D G1 ((L, .lst vs) :: M1) H1 → RpAll K G1 vs es → W i M1 es → ∀ σ2, List.set (List.set (wipe σ vss) i1 (some (.int i))) j1 (some x) = σ2 → wipe σ2 vss = wipe σ vss ∧ tt σ2 H1 fun b H4 =>
      if b = true then te σ2 H4 (LcY K G0 H0 D G L (W (i + 1))) else LcP K G0 H0 D G L (W (i + 1)) H4)
    (hd : ∀ p G1 M1 es H1, Same G G1 → Sta K G0 H0 D G1 M1 H1 → Rp K G1 (.ref p) (.lst es) → W ds.length M1 es → Q (.ref p) H1) : LcG (Ite K a) (gTup K 2 (gCons (gName i1) (gCons (gName j1) gNil))) tt te vss σ Q H :=
  lcI (walk_enum (xs := xs)) hS (fun H1 e => e.seq hq) W h0 (fun i x L G1 M1 vs es H1 H2 hi e l0 s r w y => by
    obtain ⟨T, u, v, rfl, hT, eH, h1, h2⟩ := y
    cases h1
    obtain ⟨d, hd', rd⟩ := hr.getV h2
    obtain ⟨G2, e2, s2, q2⟩ := s.pair hT eH
    exact go_gpair q2 rfl (hs i v d L G2 M1 vs es H2 (by rw [← hr.length]; exact hi) hd' (rd.up (e.trans e2)) (e.trans e2) l0 s2 (r.up e2) w _ rfl)) (by rw [hr.length]; exact hd)
/-- zip(list, list) -/
theorem lcZ {a b : Addr} {xs ys : List V} {fs : List Dt} {i1 j1 : Nat} (hS : Sta K G0 H0 D G M H) (hq : SqL K G a xs) (hr : RpAll K G xs ds) (hq' : SqL K G b ys) (hr' : RpAll K G ys fs) (W : Nat → List (Addr × HO) → List Dt → Prop) (h0 : W 0 M [])
    (hs : ∀ i x y d f L G1 M1 vs es H1, i < min ds.length fs.length → ds[i]? = some d → fs[i]? = some f → Rp K G1 x d → Rp K G1 y f → Same G G1 → H0 L = none → Sta K G0 H0 D G1 ((L, .lst vs) :: M1) H1 → RpAll K G1 vs es → W i M1 es → ∀ σ2, List.set (List.set (wipe σ vss) i1 (some x)) j1 (some y) = σ2 → wipe σ2 vss = wipe σ vss ∧ tt σ2 H1 fun b H4 =>
      if b = true then te σ2 H4 (LcY K G0 H0 D G L (W (i + 1))) else LcP K G0 H0 D G L (W (i + 1)) H4)
    (hd : ∀ p G1 M1 es H1, Same G G1 → Sta K G0 H0 D G1 M1 H1 → Rp K G1 (.ref p) (.lst es) → W (min ds.length fs.length) M1 es → Q (.ref p) H1) : LcG (Itz K a b) (gTup K 2 (gCons (gName i1) (gCons (gName j1) gNil))) tt te vss σ Q H :=
  lcI (walk_zip (xs := xs) (ys := ys) rfl) hS (fun H1 e => ⟨e.seq hq, e.seq hq'⟩) W h0 (fun i x L G1 M1 vs es H1 H2 hi e l0 s r w y => by
    obtain ⟨T, u, v, rfl, hT, eH, h1, h2⟩ := y
    obtain ⟨d, hd', rd⟩ := hr.getV h1
    obtain ⟨f, hf', rf⟩ := hr'.getV h2
    obtain ⟨G2, e2, s2, q2⟩ := s.pair hT eH
    exact go_gpair q2 rfl (hs i u v d f L G2 M1 vs es H2 (by rw [← hr.length, ← hr'.length]; exact hi) hd' hf' (rd.up (e.trans e2)) (rf.up (e.trans e2)) (e.trans e2) l0 s2 (r.up e2) w _ rfl)) (by rw [hr.length, hr'.length]; exact hd)
theorem go_iEnum {ta : TA} {k : It → Hp → Prop} (h : ta σ H fun vs H1 => ∃ a xs, vs = [.ref a] ∧ SqL K H1 a xs ∧ k (Ite K a) H1) : iEnum K ta σ H k := h
def EK (K : PySem.W.Frag) (k : It → Hp → Prop) (vs : List V) (H : Hp) : Prop := ∃ a xs, vs = [.ref a] ∧ SqL K H a xs ∧ k (Ite K a) H
def ZK (K : PySem.W.Frag) (k : It → Hp → Prop) (vs : List V) (H : Hp) : Prop := ∃ a b xs ys, vs = [.ref a, .ref b] ∧ SqL K H a xs ∧ SqL K H b ys ∧ k (Itz K a b) H
theorem go_iEnum' {ta : TA} {k : It → Hp → Prop} (h : ta σ H fun vs H1 => EK K k vs H1) : iEnum K ta σ H k := h
theorem go_iZip {ta : TA} {k : It → Hp → Prop} (h : ta σ H fun vs H1 => ZK K k vs H1) : iZip K ta σ H k := h
theorem go_ite_ {k : It → Hp → Prop} (hx : Rp K G x (.lst ds)) (e : Same G H) (h : ∀ a xs, x = .ref a → SqL K G a xs → RpAll K G xs ds → k (Ite K a) H) : EK K k [x] H := by
  obtain ⟨a, xs, rfl, hs, ha⟩ := Rp.lst_inv hx
  exact ⟨a, xs, rfl, e.seq hs, h a xs rfl hs ha⟩
theorem go_itz_ {k : It → Hp → Prop} {fs : List Dt} (hx : Rp K G x (.lst ds)) (hy : Rp K G y (.lst fs)) (e : Same G H) (h : ∀ a xs b ys, x = .ref a → y = .ref b → SqL K G a xs → RpAll K G xs ds → SqL K G b ys → RpAll K G ys fs → k (Itz K a b) H) : ZK K k [x, y] H := by
  obtain ⟨a, xs, rfl, hs, ha⟩ := Rp.lst_inv hx
  obtain ⟨b, ys, rfl, hs', ha'⟩ := Rp.lst_inv hy
  exact ⟨a, b, xs, ys, rfl, e.seq hs, e.seq hs', h a xs b ys rfl rfl hs ha hs' ha'⟩
/-- all, any, sum of a list -/
theorem go_all {bs : List Bool} (hx : Rp K G x (.lst (bs.map .bl))) (e : Same G H) (k : Q (.bl (bs.all id)) H) : rAll K [x] H Q := by
  obtain ⟨a, xs, rfl, hs, ha⟩ := Rp.lst_inv hx
  rw [ha.bls_inv] at hs
  exact ⟨a, bs, rfl, e.seq hs, k⟩
theorem go_any {bs : List Bool} (hx : Rp K G x (.lst (bs.map .bl))) (e : Same G H) (k : Q (.bl (bs.any id)) H) : rAny K [x] H Q := by
  obtain ⟨a, xs, rfl, hs, ha⟩ := Rp.lst_inv hx
  rw [ha.bls_inv] at hs
  exact ⟨a, bs, rfl, e.seq hs, k⟩
theorem go_sum {bs : List Int} (hx : Rp K G x (.lst (bs.map .int))) (e : Same G H) (k : Q (.int bs.sum) H) : rSum K [x] H Q := by
  obtain ⟨a, xs, rfl, hs, ha⟩ := Rp.lst_inv hx
  rw [ha.ints_inv] at hs
  exact ⟨a, bs, rfl, e.seq hs, k⟩
/-- list(x), tuple(x) -/
theorem go_listL (hS : Sta K G0 H0 D G M H) (hx : Rp K G x (.lst ds)) (k : ∀ p G1 H1, Same G G1 → Sta K G0 H0 D G1 M H1 → Rp K G1 (.ref p) (.lst ds) → Q (.ref p) H1) : rListOf_ K [x] H Q := by
  obtain ⟨a, xs, rfl, hs, ha⟩ := Rp.lst_inv hx
  exact ⟨a, xs, rfl, .inl (hS.gh.seq hs), fun p hp => k p _ _ (same_upd (hS.gn hp)) (hS.imm hp _) (.lst (.inl (.inl upd_same)) (ha.up (same_upd (hS.gn hp))))⟩
theorem go_listT (hS : Sta K G0 H0 D G M H) (hx : Rp K G x (.tup ds)) (k : ∀ p G1 H1, Same G G1 → Sta K G0 H0 D G1 M H1 → Rp K G1 (.ref p) (.lst ds) → Q (.ref p) H1) : rListOf_ K [x] H Q := by
  obtain ⟨a, xs, rfl, hs, ha⟩ := Rp.tup_inv hx
  exact ⟨a, xs, rfl, .inr (Same.t hS.gh hs), fun p hp => k p _ _ (same_upd (hS.gn hp)) (hS.imm hp _) (.lst (.inl (.inl upd_same)) (ha.up (same_upd (hS.gn hp))))⟩
theorem go_tupL (hS : Sta K G0 H0 D G M H) (hx : Rp K G x (.lst ds)) (k : ∀ p G1 H1, Same G G1 → Sta K G0 H0 D G1 M H1 → Rp K G1 (.ref p) (.tup ds) → Q (.ref p) H1) : rTupOf_ K [x] H Q := by
  obtain ⟨a, xs, rfl, hs, ha⟩ := Rp.lst_inv hx
  exact ⟨a, xs, rfl, .inl ⟨hS.gh.seq hs, fun p hp => k p _ _ (same_upd (hS.gn hp)) (hS.imm hp _) (.tup (.inl (.inl upd_same)) (ha.up (same_upd (hS.gn hp))))⟩⟩
theorem go_tupT (hS : Sta K G0 H0 D G M H) (hx : Rp K G x (.tup ds)) (k : ∀ p G1 H1, Same G G1 → Sta K G0 H0 D G1 M H1 → Rp K G1 (.ref p) (.tup ds) → Q (.ref p) H1) : rTupOf_ K [x] H Q := by
  obtain ⟨a, xs, rfl, hs, ha⟩ := Rp.tup_inv hx
  exact ⟨a, xs, rfl, .inr ⟨Same.t hS.gh hs, k a G H (Same.refl G) hS hx⟩⟩
/-! ### == of data -/
mutual
def toPy : Dt → PyData
  | .non => .none | .bl b => .bool b | .int i => .int i | .str x => .str x | .lst xs => .list (toPyL xs) | .tup xs => .tuple (toPyL xs) | .ins _ _ => .dict []
def toPyL : List Dt → List PyData
  | [] => [] | d :: ds => toPy d :: toPyL ds
end
mutual
theorem Rp.dp : ∀ {n : Nat} {d : Dt} {v : V}, okD n d = true → Rp K G v d → Dp K G v (toPy d)
  | _, .non, _, _, h => by cases h; exact .non
  | _, .bl _, _, _, h => by cases h; exact .bl _
  | _, .int _, _, _, h => by cases h; exact .int _
  | _, .str _, _, _, h => by cases h; exact .str _
  | 0, .lst _, _, e, _ => by cases e
  | 0, .tup _, _, e, _ => by cases e
  | n + 1, .lst ds, _, e, h => by
    cases h with
    | lst h1 h2 =>
      have e' : ds.length ≤ 100000 ∧ ∀ e ∈ ds, okD n e = true := by simpa [okD] using e
      exact .lst h1 (RpAll.dp e'.2 h2)
  | n + 1, .tup ds, _, e, h => by
    cases h with
    | tup h1 h2 =>
      have e' : ds.length ≤ 100000 ∧ ∀ e ∈ ds, okD n e = true := by simpa [okD] using e
      exact .tup h1 (RpAll.dp e'.2 h2)
  | 0, .ins _ _, _, e, _ => by cases e
  | _ + 1, .ins _ _, _, e, _ => by cases e
theorem RpAll.dp : ∀ {n : Nat} {ds : List Dt} {vs : List V}, (∀ e ∈ ds, okD n e = true) → RpAll K G vs ds → DpAll K G vs (toPyL ds)
  | _, [], _, _, h => by cases h; exact .nil
  | n, d :: ds, _, e, h => by
    cases h with
    | cons h1 h2 => exact .cons (Rp.dp (e d List.mem_cons_self) h1) (RpAll.dp (fun x hx => e x (List.mem_cons_of_mem _ hx)) h2)
end
end

/-- data of numbers, truth values, None, lists, tuples, n deep at most -/
def okE : Nat → Dt → Bool
  | 0, _ => false
  | n + 1, .tup xs => decide (xs.length ≤ 100000) && xs.all (okE n)
  | n + 1, .lst xs => decide (xs.length ≤ 100000) && xs.all (okE n)
  | _ + 1, .ins _ _ => false
  | _ + 1, .str _ => false
  | _ + 1, _ => true
mutual
theorem okE_okD : ∀ {n : Nat} {d : Dt}, okE n d = true → okD n d = true
  | 0, _, e => by cases e
  | n + 1, .non, _ => rfl
  | n + 1, .bl _, _ => rfl
  | n + 1, .int _, _ => rfl
  | n + 1, .str _, e => by cases e
  | n + 1, .ins _ _, e => by cases e
  | n + 1, .lst ds, e => by
    have e' : ds.length ≤ 100000 ∧ ∀ e ∈ ds, okE n e = true := by simpa [okE] using e
    have : ∀ x ∈ ds, okD n x = true := okE_okDL e'.2
    simp [okD, e'.1]
    exact this
  | n + 1, .tup ds, e => by
    have e' : ds.length ≤ 100000 ∧ ∀ e ∈ ds, okE n e = true := by simpa [okE] using e
    have : ∀ x ∈ ds, okD n x = true := okE_okDL e'.2
    simp [okD, e'.1]
    exact this
theorem okE_okDL : ∀ {n : Nat} {ds : List Dt}, (∀ e ∈ ds, okE n e = true) → ∀ e ∈ ds, okD n e = true
  | _, [], _, e, he => by cases he
  | n, d :: ds, h, e, he => by
    have h1 := okE_okD (h d List.mem_cons_self)
    rcases List.mem_cons.mp he with e1 | he
    · rw [e1]; exact h1
    · exact okE_okDL (fun x hx => h x (List.mem_cons_of_mem _ hx)) e he
end
mutual
theorem lay_toPy : ∀ {n : Nat} {d : Dt}, okE n d = true → (toPy d).canLay0 = true ∧ (toPy d).depth ≤ n
  | 0, _, e => by cases e
  | n + 1, .non, _ => ⟨rfl, Nat.zero_le _⟩
  | n + 1, .bl _, _ => ⟨rfl, Nat.zero_le _⟩
  | n + 1, .int _, _ => ⟨rfl, Nat.zero_le _⟩
  | n + 1, .str _, e => by cases e
  | n + 1, .ins _ _, e => by cases e
  | n + 1, .lst ds, e => by
    have e' : ds.length ≤ 100000 ∧ ∀ e ∈ ds, okE n e = true := by simpa [okE] using e
    have := lay_toPyL (n := n) (ds := ds) e'.2
    exact ⟨by simpa [toPy, PyData.canLay0] using this.1, by simpa [toPy, PyData.depth] using this.2⟩
  | n + 1, .tup ds, e => by
    have e' : ds.length ≤ 100000 ∧ ∀ e ∈ ds, okE n e = true := by simpa [okE] using e
    have := lay_toPyL (n := n) (ds := ds) e'.2
    exact ⟨by simpa [toPy, PyData.canLay0] using this.1, by simpa [toPy, PyData.depth] using this.2⟩
theorem lay_toPyL : ∀ {n : Nat} {ds : List Dt}, (∀ e ∈ ds, okE n e = true) → PyData.canLayAll0 (toPyL ds) = true ∧ PyData.depthAll (toPyL ds) ≤ n
  | _, [], _ => ⟨rfl, Nat.zero_le _⟩
  | n, d :: ds, h => by
    have h1 := lay_toPy (h d List.mem_cons_self)
    have h2 := lay_toPyL (n := n) (ds := ds) fun x hx => h x (List.mem_cons_of_mem _ hx)
    exact ⟨by simp [toPyL, PyData.canLayAll0, h1.1, h2.1], by simp [toPyL, PyData.depthAll]; omega⟩
end
theorem shaped_toPy {n : Nat} {d : Dt} (h : okE n d = true) (hn : n ≤ 64) : SeqAt.shaped (toPy d) = true := by
  have := lay_toPy h
  simp [SeqAt.shaped, this.1]
  omega
theorem eqv_ints : ∀ (as bs : List Int), PyData.eqvAll (toPyL (as.map .int)) (toPyL (bs.map .int)) = decide (as = bs)
  | [], [] => by simp [toPyL, PyData.eqvAll]
  | [], b :: bs => by simp [toPyL, PyData.eqvAll]
  | a :: as, [] => by simp [toPyL, PyData.eqvAll]
  | a :: as, b :: bs => by
    have := eqv_ints as bs
    simp only [List.map_cons, toPyL, toPy, PyData.eqvAll, PyData.eqv, this]
    rw [Bool.eq_iff_iff]
    simp
theorem okE_ints (as : List Int) (h : as.length ≤ 100000) : okE 2 (.lst (as.map .int)) = true := by
  simp [okE, h]
section
variable {K : PySem.W.Frag} {G H : Hp} {x y : V} {d : Dt} {n : Nat} {Q : VK}
theorem go_eqSame (hx : Rp K G x d) (hy : Rp K G y d) (e : Same G H) (hd : okE n d = true) (hn : n ≤ 64) (k : Q (.bl true) H) : rEqD K x y H Q := by
  have s := shaped_toPy hd hn
  refine ⟨toPy d, toPy d, Rp.dp (okE_okD hd) (hx.up e), Rp.dp (okE_okD hd) (hy.up e), s, s, ?_⟩
  rw [SeqAt.eqv_refl _ (SeqAt.canLay_of_shaped s)]
  exact k
theorem go_neSame (hx : Rp K G x d) (hy : Rp K G y d) (e : Same G H) (hd : okE n d = true) (hn : n ≤ 64) (k : Q (.bl false) H) : rNeD K x y H Q := by
  have s := shaped_toPy hd hn
  refine ⟨toPy d, toPy d, Rp.dp (okE_okD hd) (hx.up e), Rp.dp (okE_okD hd) (hy.up e), s, s, ?_⟩
  rw [SeqAt.eqv_refl _ (SeqAt.canLay_of_shaped s)]
  exact k
theorem go_eqInts {as bs : List Int} (hx : Rp K G x (.lst (as.map .int))) (hy : Rp K G y (.lst (bs.map .int))) (e : Same G H) (ha : as.length ≤ 100000) (hb : bs.length ≤ 100000) (k : Q (.bl (decide (as = bs))) H) : rEqD K x y H Q := by
  refine ⟨_, _, Rp.dp (okE_okD (okE_ints as ha)) (hx.up e), Rp.dp (okE_okD (okE_ints bs hb)) (hy.up e), shaped_toPy (okE_ints as ha) (by decide), shaped_toPy (okE_ints bs hb) (by decide), ?_⟩
  have : PyData.eqv (toPy (.lst (as.map .int))) (toPy (.lst (bs.map .int))) = decide (as = bs) := eqv_ints as bs
  rw [this]
  exact k
theorem go_neInts {as bs : List Int} (hx : Rp K G x (.lst (as.map .int))) (hy : Rp K G y (.lst (bs.map .int))) (e : Same G H) (ha : as.length ≤ 100000) (hb : bs.length ≤ 100000) (k : Q (.bl (!decide (as = bs))) H) : rNeD K x y H Q := by
  refine ⟨_, _, Rp.dp (okE_okD (okE_ints as ha)) (hx.up e), Rp.dp (okE_okD (okE_ints bs hb)) (hy.up e), shaped_toPy (okE_ints as ha) (by decide), shaped_toPy (okE_ints bs hb) (by decide), ?_⟩
  have : PyData.eqv (toPy (.lst (as.map .int))) (toPy (.lst (bs.map .int))) = decide (as = bs) := eqv_ints as bs
  rw [this]
  exact k
end
end B
namespace B
open PySem PySem.Spec PyProof.Rows L2 SrtO

/-! ### the order of keys: lists of ints; the stable sort by insertion -/
def ltK {α : Type} (p q : List Int × α) : Bool := HT.lexLt p.1 q.1
theorem swo_ltK {α : Type} : Swo (ltK (α := α)) := ⟨fun x y => NtL.lex_asym _ _, fun x y z => NtL.lex_tr _ _ _⟩
def insK {α : Type} (y : List Int × α) : List (List Int × α) → List (List Int × α)
  | [] => [y]
  | x :: l => if ltK y x = true then y :: x :: l else x :: insK y l
def srtK {α : Type} (l : List (List Int × α)) : List (List Int × α) := l.foldl (fun acc y => insK y acc) []
theorem insK_split {α : Type} (y : List Int × α) : ∀ l : List (List Int × α), Srtd ltK l → ∃ M N, l = M ++ N ∧ insK y l = M ++ y :: N ∧ (∀ x ∈ M, ltK y x = false) ∧ ∀ x ∈ N, ltK y x = true
  | [], _ => ⟨[], [], rfl, rfl, fun _ h => absurd h (by simp), fun _ h => absurd h (by simp)⟩
  | x :: l, h => by
    by_cases e : ltK y x = true
    · exact ⟨[], x :: l, rfl, by simp [insK, e], fun _ h => absurd h (by simp), swo_ltK.lt_all h e⟩
    · obtain ⟨M, N, e1, e2, e3, e4⟩ := insK_split y l (List.pairwise_cons.mp h).2
      refine ⟨x :: M, N, by rw [e1]; rfl, by simp [insK, e, e2], fun z hz => ?_, e4⟩
      rcases List.mem_cons.mp hz with rfl | hz
      · simpa using e
      · exact e3 z hz
theorem srtK_go {α : Type} : ∀ (l acc O1 : List (List Int × α)), Srtd ltK acc → Stb ltK acc O1 → Srtd ltK (l.foldl (fun acc y => insK y acc) acc) ∧ Stb ltK (l.foldl (fun acc y => insK y acc) acc) (O1 ++ l)
  | [], acc, O1, h1, h2 => by rw [List.append_nil]; exact ⟨h1, h2⟩
  | y :: l, acc, O1, h1, h2 => by
    obtain ⟨M, N, e1, e2, e3, e4⟩ := insK_split y acc h1
    subst e1
    have := srtK_go l (insK y (M ++ N)) (O1 ++ [y]) (by rw [e2]; exact ins_srtd swo_ltK h1 e3 e4) (by rw [e2]; exact ins_stb swo_ltK e4 h2)
    rw [List.append_assoc] at this
    exact this
theorem srtK_ok {α : Type} (l : List (List Int × α)) : Srtd ltK (srtK l) ∧ Stb ltK (srtK l) l := srtK_go l [] [] List.Pairwise.nil (Stb.refl _)
theorem srtK_perm {α : Type} (l : List (List Int × α)) : (srtK l).Perm l := (srtK_ok l).2.perm
theorem srtK_uniq {α : Type} {l m : List (List Int × α)} (h1 : Srtd ltK m) (h2 : Stb ltK m l) : m = srtK l :=
  stb_uniq swo_ltK h1 (srtK_ok l).1 (h2.trans ⟨(srtK_ok l).2.perm.symm, fun x => ((srtK_ok l).2.cls x).symm⟩)

/-! ### keys in the heap -/
def kfO (h : Heap) : Value → List Int
  | .int i _ => [i]
  | .ref a => match h.get? a with
    | some o => match o.data with
      | .seq xs _ => xs.toList.map iv
      | _ => []
    | none => []
  | _ => []
def ltO (h : Heap) (p q : Keyed) : Bool := HT.lexLt (kfO h p.1) (kfO h q.1)
theorem swo_ltO (h : Heap) : Swo (ltO h) := ⟨fun x y => NtL.lex_asym _ _, fun x y z => NtL.lex_tr _ _ _⟩
def IntKey (v : Value) : Prop := ∃ i t, v = Value.int i t
def TupKey (h : Heap) (v : Value) (ns : List Int) : Prop := ∃ a items, v = .ref a ∧ IsTup h a items ∧ IntsAre items.toList ns ∧ ns ≠ []
theorem TupKey.kf {h : Heap} {v : Value} {ns : List Int} (x : TupKey h v ns) : kfO h v = ns := by
  obtain ⟨a, items, rfl, ⟨o, ho, hc, n, hd⟩, hi, hn⟩ := x
  simp only [kfO, ho, hd]
  exact iv_ints hi
def KeysOK (h : Heap) (keys : List Value) : Prop := (∀ k ∈ keys, IntKey k) ∨ ∀ k ∈ keys, ∃ ns, TupKey h k ns
section
variable {prog : Program} {w : World} {A : Around} {E : Value → Shared → Prop} {s : Shared}
theorem cmp_ik {keys : List Value} (hk : ∀ k ∈ keys, IntKey k) : Cmp prog w A s oneType' (fun p => p.1 ∈ keys) (ltO s.heap) := by
  intro p q hm hm'
  obtain ⟨a, t, e⟩ := hk _ hm
  obtain ⟨b, u, e'⟩ := hk _ hm'
  show wpAny (model prog w) A (keyLt' oneType' p.1 q.1) (fun r s' => s' = s ∧ r = HT.lexLt (kfO s.heap p.1) (kfO s.heap q.1)) (fun _ _ => False) s
  rw [e, e', keyLt'_oneType]
  refine oneLt_int ⟨rfl, ?_⟩
  show decide (a < b) = HT.lexLt [a] [b]
  rw [HT.lexLt_cons]
  by_cases z : a = b
  · rw [if_pos z, HT.lexLt_nil_nil]
    exact decide_eq_false (by omega)
  · rw [if_neg z]
theorem lex_at {Q : Bool → Shared → Prop} {b : Bool} : ∀ {xs ys : List Value} {ns ms : List Int} (i : Nat), IntsAre xs ns → IntsAre ys ms → Q (HT.lexLt ns ms) s → PySem.W.KatLex prog w A b (decide (xs.length < ys.length)) Q (xs.zip ys) i s
  | _, _, _, _, i, .nil, .nil, h => by
    rw [HT.lexLt_nil_nil] at h
    exact PySem.W.kat_nil h
  | _, _, _, _, i, .nil, .cons n t r, h => by
    rw [HT.lexLt_nil_cons] at h
    exact PySem.W.kat_nil (by simpa using h)
  | _, _, _, _, i, .cons n t r, .nil, h => by
    rw [HT.lexLt_cons_nil] at h
    exact PySem.W.kat_nil (by simpa using h)
  | _, _, _, _, i, .cons n t r, .cons m u r', h => by
    rw [HT.lexLt_cons] at h
    refine PySem.W.kat_cons (SeqAt.EqAt.int_int n t m u prog w _ _ ?_)
    refine PySem.W.kat_go (fun e1 => ?_) (fun e1 => ?_)
    · have e : n = m := by simpa using e1
      rw [if_pos e] at h
      have := lex_at (b := b) (i + 1) r r' h
      refine PySem.W.kat_yes ?_
      simp only [List.length_cons, Nat.add_lt_add_iff_right]
      exact this
    · have e : ¬ n = m := by simpa using e1
      rw [if_neg e] at h
      exact PySem.W.kat_no (TS.oneLt_ints _ h)
theorem cmp_tk {keys : List Value} (hk : ∀ k ∈ keys, ∃ ns, TupKey s.heap k ns) : Cmp prog w A s (tuples' true) (fun p => p.1 ∈ keys) (ltO s.heap) := by
  intro p q hm hm'
  obtain ⟨ns, h1⟩ := hk _ hm
  obtain ⟨ms, h2⟩ := hk _ hm'
  show wpAny (model prog w) A (keyLt' (tuples' true) p.1 q.1) (fun r s' => s' = s ∧ r = HT.lexLt (kfO s.heap p.1) (kfO s.heap q.1)) (fun _ _ => False) s
  rw [h1.kf, h2.kf]
  obtain ⟨a, items, e, ⟨o, ho, hc, n, hd⟩, hi, hn⟩ := h1
  obtain ⟨a', items', e', ⟨o', ho', hc', n', hd'⟩, hi', hn'⟩ := h2
  rw [e, e']
  refine PySem.W.kat_lt ho hd ho' hd' ?_
  have := lex_at (prog := prog) (w := w) (A := A) (s := s) (Q := fun r s' => s' = s ∧ r = HT.lexLt ns ms) (b := true) 0 hi hi' ⟨rfl, rfl⟩
  simpa using this
theorem firsts_tk {h : Heap} : ∀ {vs : List Value}, (∀ v ∈ vs, ∃ ns, TupKey h v ns) → ∃ fs : List Value, PySem.W.KatTups h vs fs ∧ fs.length = vs.length ∧ ∀ f ∈ fs, ∃ x t, f = Value.int x t
  | [], _ => ⟨[], PySem.W.KatTups.nil, rfl, fun _ h => absurd h (by simp)⟩
  | v :: vs, hv => by
    obtain ⟨fs, h1, h2, h3⟩ := firsts_tk (vs := vs) fun u hu => hv u (List.mem_cons_of_mem _ hu)
    obtain ⟨ns, a, items, rfl, ⟨o, ho, hc, n, hd⟩, hi, hn⟩ := hv v List.mem_cons_self
    obtain ⟨x, t, hx⟩ : ∃ x t, items[0]? = some (Value.int x t) := by
      generalize e : items.toList = l at hi
      cases hi with
      | nil => exact absurd rfl hn
      | cons m t r =>
        refine ⟨m, t, ?_⟩
        rw [← Array.getElem?_toList, e]
        rfl
    refine ⟨.int x t :: fs, PySem.W.KatTups.cons ho hc hd hx h1, by simp [h2], fun f hf => ?_⟩
    rcases List.mem_cons.mp hf with rfl | hf
    · exact ⟨x, t, rfl⟩
    · exact h3 f hf
theorem ints_of {vs : List Value} (h : ∀ v ∈ vs, IntKey v) : ∃ ns, IntsAre vs ns := ⟨_, ints_iv h⟩
theorem kind_cmp {keys : List Value} (hk : KeysOK s.heap keys) (h2 : 2 ≤ keys.length) : ∃ κ, (∀ (Q : SortKind → Shared → Prop) (E : Value → Shared → Prop), Q κ s → wpAny (model prog w) A (keyKind' keys.toArray) Q E s) ∧ Cmp prog w A s κ (fun p => p.1 ∈ keys) (ltO s.heap) := by
  rcases hk with hk | hk
  · obtain ⟨ns, hi⟩ := ints_of hk
    refine ⟨oneType', fun Q E hq => ?_, cmp_ik hk⟩
    have e : keys = keys.toArray.toList := by simp
    rw [e] at hi
    rw [ksk_kind hi (by simpa using h2)]
    exact wpAny_pure hq
  · obtain ⟨fs, h1, h3, h4⟩ := firsts_tk hk
    refine ⟨tuples' true, fun Q E hq => ?_, cmp_tk hk⟩
    refine PySem.W.kat_kind (T := .type "int") h1 (by omega) (fun f hm => ?_) (by rfl) ?_
    · obtain ⟨x, t, rfl⟩ := h4 f hm
      exact PySem.W.Looks.now
    · have e : (Value.type "int" != Value.type "tuple") = true := by first | decide +kernel | rfl | decide
      rw [e]
      exact hq
theorem ksort_end {a kS : Addr} {vs : List Value} {keys : Array Value} {e e1 : Nat} {P : PySem.Fin → Shared → Prop} (nk : s.heap.get? kS = some (seqObj "list" keys e)) (na : s.heap.get? a = some (seqObj "list" #[] e1)) (hka : kS ≠ a)
    (hlen : keys.size = vs.length) (hz : vs.length ≤ sizeLine) (hk : KeysOK s.heap keys.toList)
    (h : ∀ (arr : Array Keyed) (out : Array Value) tk, out = arr.map (·.2) → Srtd (ltO s.heap) arr.toList → Stb (ltO s.heap) arr.toList (keys.toList.zip vs) → P (.done (.ret .none)) { s with heap := (s.heap.update kS (Obj.mapSeq fun _ => #[])).update a (Obj.mapSeq fun _ => out), toks := tk }) :
    wpAny (model prog w) A (ksk_end a false vs.toArray e1 (.ref kS) keys) P E s := by
  have na1 : (s.heap.update kS (Obj.mapSeq fun _ => (#[] : Array Value))).get? a = some (seqObj "list" #[] e1) := ((Heap.SameBut.update s.heap kS (Obj.mapSeq fun _ => (#[] : Array Value))).2 a hka.symm).trans na
  have tail : ∀ st : SortSt, Srtd (ltO s.heap) (arrOf st).toList → Stb (ltO s.heap) (arrOf st).toList (keys.zip vs.toArray).toList → failedOf st = none → wpAny (model prog w) A (ksk_tail a false e1 (.ref kS) st) P E s := by
    intro st h1 h2 hfl
    rw [ksk_zip] at h2
    have hl := h2.len
    rw [Array.length_toList, List.length_zip, Array.length_toList, hlen, Nat.min_self] at hl
    unfold ksk_tail
    try dsimp only
    refine wpAny_bind (listUpdate_at nk rfl ?_ (by rw [hlen]; exact hz) (Nat.zero_le _))
    refine wpAny_bind (wpAny_letGo ?_)
    refine wpAny_bind (seqEpoch_at na1 rfl ?_)
    refine wpAny_bind (listUpdate_at na1 rfl ?_ (Nat.zero_le _) (by simp only [Bool.false_eq_true, if_false, Array.size_map]; omega))
    rw [hfl]
    simp only [bne_self_eq_false, Bool.false_eq_true, if_false]
    exact wpAny_pure (h _ _ _ rfl h1 h2)
  unfold ksk_end
  try dsimp only
  simp only [Bool.false_eq_true, if_false]
  by_cases h2 : vs.toArray.size < 2
  · rw [if_pos h2, if_pos h2]
    refine wpAny_bind (wpAny_pure ?_)
    rw [StateT.run_pure]
    refine wpAny_bind (wpAny_pure ?_)
    try dsimp only
    refine tail (SortSt.mk' general' (keys.zip vs.toArray) #[] 7 none) ?_ (Stb.refl _) rfl
    show Srtd (ltO s.heap) (keys.zip vs.toArray).toList
    have hl : (keys.zip vs.toArray).toList.length < 2 := by
      rw [ksk_zip, List.length_zip, Array.length_toList, hlen, Nat.min_self]
      simpa using h2
    generalize (keys.zip vs.toArray).toList = l at hl
    match l, hl with
    | [], _ => exact List.Pairwise.nil
    | [v], _ => exact List.pairwise_singleton _ _
    | _ :: _ :: l, h => exact absurd h (by rw [List.length_cons, List.length_cons]; omega)
  · rw [if_neg h2, if_neg h2]
    have h2' : 2 ≤ keys.toList.length := by
      rw [Array.length_toList, hlen]
      simpa using h2
    obtain ⟨κ, hkind, hT⟩ := kind_cmp (prog := prog) (w := w) (A := A) hk h2'
    have ek : keys = keys.toList.toArray := by simp
    rw [ek]
    refine wpAny_bind (hkind _ _ ?_)
    rw [← ek]
    have hall : AllL (fun p : Keyed => p.1 ∈ keys.toList) (keys.zip vs.toArray).toList := fun p hm => by
      rw [ksk_zip] at hm
      exact (List.of_mem_zip (a := p.1) (b := p.2) hm).1
    refine wpAny_bind (wpAny_mono (wpS_sortO (st0 := SortSt.mk' κ (keys.zip vs.toArray) #[] 7 none)
      (Q := fun _ st' => Srtd (ltO s.heap) (arrOf st').toList ∧ Stb (ltO s.heap) (arrOf st').toList (keys.zip vs.toArray).toList ∧ failedOf st' = none) (swo_ltO s.heap) hT rfl hall rfl rfl fun st' a1 a2 a3 => ⟨a1, a2, a3⟩) ?_ fun _ _ e => e)
    rintro ⟨⟨⟩, st'⟩ s' ⟨rfl, hp1, hp2, hf⟩
    try dsimp only
    exact tail st' hp1 hp2 hf
end

/-! ### sorted(xs, key=f) -/
def keysT (r : V → Hp → VK → Prop) : List V → Hp → (List V → Hp → Prop) → Prop
  | [], H, Q => Q [] H
  | x :: xs, H, Q => r x H fun k H1 => keysT r xs H1 fun ks H2 => Q (k :: ks) H2
/-- the key function at f does what r says -/
structure KeyRun (X : Cx) (W : List (Addr × Obj)) (σ : L2.St) (f : Addr) (r : V → Hp → VK → Prop) : Prop where
  run : ∀ (pins : List (Addr × Obj)) (s : Shared) (H : Hp) (x : V) (u : Value) (Q : VK), (∀ p ∈ W, p ∈ pins) → Inv X pins σ H s → RelV x u → r x H Q → wpAny (model X.prog X.w) X.A.in1.in1 (call (.ref f) [u]) (EP X pins σ Q) (fun _ _ => False) s
theorem KeyRun.of_fn {X : Cx} {σ : L2.St} {CX : CXT} {k : Nat} {f : Addr} {fd : FuncData} {ps : List Str} {sp : Sp} {E : XK} (F : FnOk X.prog X.w X.K X.mg X.base CX k f fd ps sp) (hr : Room (k + 2) X.A) (hb : Binds X.K fd ps []) (hx : ∀ H s e s', ¬ CX X.stack H s E e s') :
    KeyRun X [] σ f fun x H Q => sp [x] H Q E := ⟨fun pins s H x u Q _ I rx h => by
  have r2 : Vals [x] [u] := .cons rx .nil
  have hl : ([u] ++ []).length = ps.length := F.len _ _ _ _ h
  refine wpAny_call (codeAny_mono (F.run X.A.in1.in1 X.stack s H ⟨[u], []⟩ ([u] ++ []) [x] Q E hr.in1.in1 I.env0.in1.in1 (hb s [u] I.kIn hl) r2 h) fun r s' hq => ?_)
  cases r with
  | error e => exact hx _ _ _ _ hq
  | ok fl =>
    cases fl with
    | ret u => exact I.after hq
    | next => exact False.elim hq
    | brk => exact False.elim hq
    | cont => exact False.elim hq⟩
/-- the keys are these: all ints, or all tuples of ints -/
def KeyI (k : V) (l : List Int) : Prop := ∃ i, k = .int i ∧ l = [i]
def KeyT (K : PySem.W.Frag) (H : Hp) (k : V) (l : List Int) : Prop := ∃ a, k = .ref a ∧ SqT K H a (l.map .int) ∧ l ≠ []
def KeysAre (K : PySem.W.Frag) (H : Hp) (ks : List V) (ls : List (List Int)) : Prop := Paired KeyI ks ls ∨ Paired (KeyT K H) ks ls
/-- the abstract value of a value -/
def backA : Value → V
  | .none => .non
  | .bool b => .bl b
  | .int i _ => .int i
  | .str x _ => .str x
  | .bytes b _ => .byt b
  | .float b _ => .flt b
  | .ref a => .ref a
  | .type n => .ty n
  | _ => .non
theorem backA_of : ∀ {x : V} {u : Value}, RelV x u → backA u = x
  | .non, _, h => by cases h; rfl
  | .bl _, _, h => by cases h; rfl
  | .int _, _, h => by obtain ⟨t, rfl⟩ := h; rfl
  | .str _, _, h => by obtain ⟨t, rfl⟩ := h; rfl
  | .byt _, _, h => by obtain ⟨t, rfl⟩ := h; rfl
  | .flt _, _, h => by obtain ⟨t, rfl⟩ := h; rfl
  | .ref _, _, h => by cases h; rfl
  | .ty _, _, h => by cases h; rfl
theorem backA_vals : ∀ {xs : List V} {us : List Value}, Vals xs us → us.map backA = xs
  | _, _, .nil => rfl
  | _, _, .cons r t => by rw [List.map_cons, backA_of r, backA_vals t]
theorem vals_backA {xs : List V} {us : List Value} (r : Vals xs us) : ∀ u ∈ us, RelV (backA u) u := by
  induction r with
  | nil => exact fun _ h => absurd h (by simp)
  | cons r t ih =>
    intro u hu
    rcases List.mem_cons.mp hu with rfl | hu
    · rw [backA_of r]; exact r
    · exact ih u hu
theorem vals_mapA : ∀ {us : List Value}, (∀ u ∈ us, RelV (backA u) u) → Vals (us.map backA) us
  | [], _ => .nil
  | u :: us, h => .cons (h u List.mem_cons_self) (vals_mapA fun w hw => h w (List.mem_cons_of_mem _ hw))
def rSortK (K : PySem.W.Frag) (f : Addr) (r : V → Hp → VK → Prop) : List V → List V → Hp → VK → Prop := fun vs zs H Q => ∃ (a : Addr) (xs : List V), vs = [.ref a] ∧ zs = [.ref f] ∧ (SqL K H a xs ∨ SqT K H a xs) ∧
  keysT r xs H fun ks H1 => ∃ ls : List (List Int), KeysAre K H1 ks ls ∧ ∀ p, H1 p = none → Q (.ref p) (upd H1 p (.lst ((srtK (ls.zip xs)).map (·.2))))
section
variable {X : Cx} {pins : List (Addr × Obj)} {σ : L2.St} {H : Hp} {s : Shared}
theorem keysAre_ok (I : Inv X pins σ H s) {ks : List V} {us : List Value} {ls : List (List Int)} (rk : Vals ks us) (h : KeysAre X.K H ks ls) : KeysOK s.heap us ∧ us.map (kfO s.heap) = ls := by
  rcases h with h | h
  · have : (∀ k ∈ us, IntKey k) ∧ us.map (kfO s.heap) = ls := by
      induction h generalizing us with
      | nil => cases rk; exact ⟨fun _ h => absurd h (by simp), rfl⟩
      | cons h1 h2 ih =>
        cases rk with
        | cons r t =>
          obtain ⟨a, b⟩ := ih t
          obtain ⟨i, rfl, rfl⟩ := h1
          obtain ⟨t, rfl⟩ := r
          refine ⟨fun k hk => ?_, by rw [List.map_cons, b]; rfl⟩
          rcases List.mem_cons.mp hk with rfl | hk
          · exact ⟨_, _, rfl⟩
          · exact a k hk
    exact ⟨.inl this.1, this.2⟩
  · have : (∀ k ∈ us, ∃ ns, TupKey s.heap k ns) ∧ us.map (kfO s.heap) = ls := by
      induction h generalizing us with
      | nil => cases rk; exact ⟨fun _ h => absurd h (by simp), rfl⟩
      | cons h1 h2 ih =>
        cases rk with
        | cons r t =>
          obtain ⟨a, b⟩ := ih t
          obtain ⟨a', rfl, hs, hn⟩ := h1
          cases r
          obtain ⟨its, r2, ht, _⟩ := I.tuple hs
          have tk : TupKey s.heap (.ref a') _ := ⟨a', its.toArray, rfl, ht, r2.ints, hn⟩
          refine ⟨fun k hk => ?_, by rw [List.map_cons, b, tk.kf]⟩
          rcases List.mem_cons.mp hk with rfl | hk
          · exact ⟨_, tk⟩
          · exact a k hk
    exact ⟨.inr this.1, this.2⟩
/-- what stands of an address of ours besides what is tracked -/
def StA (X : Cx) (pins : List (Addr × Obj)) (b : Addr) : Prop := b ≠ X.env.locals ∧ b ∉ X.fs ∧ (b ∈ X.ex ∨ X.s_0.heap.objs.size ≤ b) ∧ (∀ x c, X.env.cells.lookup x = some c → c ≠ b) ∧ ∀ p ∈ X.pn ++ pins, p.1 ≠ b
theorem ksort_loop {f : Addr} {r : V → Hp → VK → Prop} {W : List (Addr × Obj)} (KR : KeyRun X W σ f r) (hW : ∀ p ∈ W, p ∈ pins) {a kS : Addr} {vs : List Value} {xs : List V} {e1 : Nat} {P : PySem.Fin → Shared → Prop} {E : Value → Shared → Prop} {Qk : List V → Hp → Prop} (I : Inv X pins σ H s) (rv : Vals xs vs) (hz : vs.length ≤ sizeLine)
    (nk : s.heap.get? kS = some (seqObj "list" #[] 0)) (na : s.heap.get? a = some (seqObj "list" #[] e1)) (hka : kS ≠ a) (hHk : H kS = none) (hHa : H a = none) (sk : StA X pins kS) (sa : StA X pins a) (h : keysT r xs H Qk)
    (done : ∀ (s' : Shared) (H' : Hp) (ks : List V) (keys : Array Value) (e : Nat), Inv X pins σ H' s' → s'.heap.get? kS = some (seqObj "list" keys e) → s'.heap.get? a = some (seqObj "list" #[] e1) → H' kS = none → H' a = none → Vals ks keys.toList → keys.size = vs.length → Qk ks H' →
      wpAny (model X.prog X.w) X.A.in1.in1 (ksk_end a false vs.toArray e1 (.ref kS) keys) P E s') :
    wpAny (model X.prog X.w) X.A.in1.in1 (ksk_rest a (.ref f) false vs.toArray e1 (.ref kS)) P E s := by
  unfold ksk_rest
  refine wpAny_bind (wpAny_rule ?_)
  first
    | rw [List.forIn_toArray]
    | (rw [← Array.forIn_toList]; simp only [List.toList_toArray])
    | rw [← Array.forIn_toList]
  refine wpAny_bind (ksk_fold (fun i s' => ∃ (H' : Hp) (kA : Array Value) (e : Nat) (ks : List V), Inv X pins σ H' s' ∧ s'.heap.get? kS = some (seqObj "list" kA e) ∧ s'.heap.get? a = some (seqObj "list" #[] e1) ∧ H' kS = none ∧ H' a = none ∧ Vals ks kA.toList ∧ kA.size = i ∧ keysT r (xs.drop i) H' (fun ks' H2 => Qk (ks ++ ks') H2)) vs 0 s
    ⟨H, #[], 0, [], I, nk, na, hHk, hHa, .nil, rfl, h⟩ ?step ?done)
  case step =>
    rintro j x s' hx ⟨H', kA, e, ks, I', gk, ga, ek, ea, rk, hsz, hq⟩
    simp only [Nat.zero_add] at hsz hq ⊢
    have hj : j < vs.length := (List.getElem?_eq_some_iff.mp hx).1
    have hjx : j < xs.length := by rw [rv.length]; exact hj
    have hxj : xs[j]? = some xs[j] := List.getElem?_eq_getElem hjx
    obtain ⟨u, hu, ru⟩ := rv.get hxj
    rw [hx] at hu
    cases hu
    rw [List.drop_eq_getElem_cons hjx] at hq
    have Ip : Inv X (pins ++ [(a, seqObj "list" #[] e1), (kS, seqObj "list" kA e)]) σ H' s' := I'.pins_of fun p hp => by
      rcases List.mem_append.mp hp with hp | hp
      · exact I'.pin p (List.mem_append_right _ hp)
      · rcases List.mem_cons.mp hp with rfl | hp
        · exact ⟨ga, ea, sa.1, sa.2.1, fun v => by simp [seqObj]⟩
        · rw [List.mem_singleton.mp hp]
          exact ⟨gk, ek, sk.1, sk.2.1, fun v => by simp [seqObj]⟩
    refine wpAny_bind (wpAny_attempt (wpAny_mono (KR.run _ s' H' _ x _ (fun p hp => List.mem_append_left _ (hW p hp)) Ip ru hq) (fun v s'' he => ?_) fun _ _ hF => hF.elim))
    obtain ⟨k, H2, I2, rk2, q2⟩ := he
    have pa := I2.pin (a, seqObj "list" #[] e1) (List.mem_append_right _ (List.mem_append_right _ (by simp)))
    have pk := I2.pin (kS, seqObj "list" kA e) (List.mem_append_right _ (List.mem_append_right _ (by simp)))
    have I3 : Inv X pins σ H2 s'' := I2.unpinned
    obtain ⟨hh, g, d, t, os⟩ := s''
    try dsimp only at pa pk I3 ⊢
    have s1 := Heap.SameBut.update hh kS (Obj.mapSeq (·.push v))
    obtain ⟨c2, hc2⟩ : ∃ c2, (hh.update kS (Obj.mapSeq (·.push v))).get? kS = some (seqObj "list" (kA.push v) c2) := ⟨_, get?_update_seq pk.1 (·.push v)⟩
    refine wpAny_bind (listUpdate_at pk.1 rfl ?_ (by omega) (Nat.le_trans (Nat.le_of_eq (Array.size_push ..)) (by omega)))
    refine wpAny_pure ⟨rfl, H2, kA.push v, c2, ks ++ [k], ?_, hc2, (s1.2 a hka.symm).trans pa.1, pk.2.1, pa.2.1, ?_, by rw [Array.size_push]; omega, ?_⟩
    · exact I3.turned (t' := t) (it := kS) (h' := hh.update kS (Obj.mapSeq (·.push v))) (fun b o hb e => (s1.2 b hb).trans e) pk.2.1 sk.1 sk.2.2.1 sk.2.2.2.1 sk.2.2.2.2
    · have : (kA.push v).toList = kA.toList ++ [v] := by simp
      rw [this]
      exact rk.append (.cons rk2 .nil)
    · have e : (fun ks' H2 => Qk ((ks ++ [k]) ++ ks') H2) = fun ks' H2 => Qk (ks ++ (k :: ks')) H2 := by
        funext ks' H2
        rw [List.append_assoc]
        rfl
      rw [e]
      exact q2
  case done =>
    rintro s' ⟨H', kA, e, ks, I', gk, ga, ek, ea, rk, hsz, hq⟩
    simp only [Nat.zero_add] at hsz hq
    rw [List.drop_of_length_le (by rw [rv.length]; exact Nat.le_refl _)] at hq
    have hq' : Qk ks H' := by
      have := hq
      unfold keysT at this
      rw [List.append_nil] at this
      exact this
    try dsimp only
    refine wpAny_bind (listItems_at gk rfl ?_)
    exact done s' H' ks kA e I' gk ga ek ea rk hsz hq'
theorem fpOk_sta {b : Addr} (h : FpOk X pins H b) : StA X pins b := h.2
theorem ksort_mid {f : Addr} {r : V → Hp → VK → Prop} {W : List (Addr × Obj)} (KR : KeyRun X W σ f r) (hW : ∀ p ∈ W, p ∈ pins) {a kS : Addr} {vs : List Value} {xs : List V} {e1 : Nat} {P : PySem.Fin → Shared → Prop} {E : Value → Shared → Prop} {Q : V → Hp → Prop} (I : Inv X pins σ H s) (rv : Vals xs vs) (hz : vs.length ≤ sizeLine)
    (nk : s.heap.get? kS = some (seqObj "list" #[] 0)) (na : s.heap.get? a = some (seqObj "list" #[] e1)) (hka : kS ≠ a) (hHk : H kS = none) (hHa : H a = none) (sk : StA X pins kS) (sa : StA X pins a)
    (h : keysT r xs H fun ks H1 => ∃ ls : List (List Int), KeysAre X.K H1 ks ls ∧ ∀ p, H1 p = none → Q (.ref p) (upd H1 p (.lst ((srtK (ls.zip xs)).map (·.2)))))
    (done : ∀ s' H', Inv X pins σ H' s' → Q (.ref a) H' → P (.done (.ret .none)) s') :
    wpAny (model X.prog X.w) X.A.in1.in1 (ksk_rest a (.ref f) false vs.toArray e1 (.ref kS)) P E s := by
  refine ksort_loop KR hW I rv hz nk na hka hHk hHa sk sa h fun s' H' ks keys e I' gk ga ek ea rk hsz hq => ?_
  obtain ⟨ls, hk, hq⟩ := hq
  obtain ⟨ok, ek2⟩ := keysAre_ok I' rk hk
  refine ksort_end gk ga hka hsz hz ok fun arr out tk ho h1 h2 => ?_
  have e1 : (arr.toList.map fun p : Keyed => (kfO s'.heap p.1, backA p.2)) = srtK (ls.zip xs) := by
    refine srtK_uniq (List.pairwise_map.mpr h1) ?_
    have := SrtO.Stb.map (lt := ltK) swo_ltK (fun p : Keyed => (kfO s'.heap p.1, backA p.2)) (l := arr.toList) (m := keys.toList.zip vs) h2
    have e2 : (keys.toList.zip vs).map (fun p : Keyed => (kfO s'.heap p.1, backA p.2)) = ls.zip xs := by
      rw [← ek2, ← backA_vals rv, List.zip_map]
      rfl
    rw [e2] at this
    exact this
  have hmem : ∀ p ∈ arr.toList, p.2 ∈ vs := fun p hp => (List.of_mem_zip (a := p.1) (b := p.2) (h2.perm.mem_iff.mp hp)).2
  have e3 : (srtK (ls.zip xs)).map (·.2) = out.toList.map backA := by
    rw [← e1, ho, List.map_map, Array.toList_map, List.map_map]
    rfl
  have hlen : ((srtK (ls.zip xs)).map (·.2)).length ≤ sizeLine := by
    rw [e3, ho, List.length_map, Array.length_toList, Array.size_map, ← Array.length_toList, h2.len, List.length_zip]
    exact Nat.le_trans (Nat.min_le_right _ _) hz
  have t1 := Heap.SameBut.update s'.heap kS (Obj.mapSeq fun _ => (#[] : Array Value))
  have I5 := I'.turned (t' := tk) (it := kS) (h' := s'.heap.update kS (Obj.mapSeq fun _ => (#[] : Array Value))) (fun b o hb e => (t1.2 b hb).trans e) ek sk.1 sk.2.2.1 sk.2.2.2.1 sk.2.2.2.2
  have ga1 := (t1.2 a hka.symm).trans ga
  have t2 := Heap.SameBut.update (s'.heap.update kS (Obj.mapSeq fun _ => (#[] : Array Value))) a (Obj.mapSeq fun _ => out)
  obtain ⟨c2, hc2⟩ : ∃ c2, ((s'.heap.update kS (Obj.mapSeq fun _ => (#[] : Array Value))).update a (Obj.mapSeq fun _ => out)).get? a = some (seqObj "list" out c2) := ⟨_, get?_update_seq ga1 fun _ => out⟩
  have ob : ObjOk X.prog X.w (upd H' a (.lst ((srtK (ls.zip xs)).map (·.2)))) ((s'.heap.update kS (Obj.mapSeq fun _ => (#[] : Array Value))).update a (Obj.mapSeq fun _ => out)) a (.lst ((srtK (ls.zip xs)).map (·.2))) := by
    refine ⟨hlen, out.toList, c2, ?_, by rw [Array.toArray_toList]; exact hc2⟩
    rw [e3]
    refine vals_mapA fun u hu => ?_
    rw [ho, Array.toList_map] at hu
    obtain ⟨p, hp, rfl⟩ := List.mem_map.mp hu
    exact vals_backA rv _ (hmem p hp)
  have I6 := I5.take (t' := tk) (it := a) (h' := (s'.heap.update kS (Obj.mapSeq fun _ => (#[] : Array Value))).update a (Obj.mapSeq fun _ => out)) (o := .lst ((srtK (ls.zip xs)).map (·.2))) (fun b o hb e => (t2.2 b hb).trans e) ⟨ea, sa⟩ ob
  exact done _ _ I6 (hq a ea)
theorem ksort_tree {f : Addr} {r : V → Hp → VK → Prop} {W : List (Addr × Obj)} (KR : KeyRun X W σ f r) (hW : ∀ p ∈ W, p ∈ pins) {a : Addr} {vs : List Value} {xs : List V} {n : Nat} {P : PySem.Fin → Shared → Prop} {E : Value → Shared → Prop} {Q : V → Hp → Prop} (I : Inv X pins σ H s) (rv : Vals xs vs) (hz : vs.length ≤ sizeLine)
    (na : s.heap.get? a = some (seqObj "list" vs.toArray n)) (hHa : H a = none) (sa : StA X pins a)
    (h : keysT r xs H fun ks H1 => ∃ ls : List (List Int), KeysAre X.K H1 ks ls ∧ ∀ p, H1 p = none → Q (.ref p) (upd H1 p (.lst ((srtK (ls.zip xs)).map (·.2)))))
    (done : ∀ s' H', Inv X pins σ H' s' → Q (.ref a) H' → P (.done (.ret .none)) s') :
    wpAny (model X.prog X.w) X.A.in1.in1 (ksk_tree a (.ref f) false) P E s := by
  have ha : a < s.heap.objs.size := Heap.lt_size na
  have s1 := Heap.SameBut.update s.heap a (Obj.mapSeq fun _ => (#[] : Array Value))
  obtain ⟨e1, ho1⟩ : ∃ e1, (s.heap.update a (Obj.mapSeq fun _ => (#[] : Array Value))).get? a = some (seqObj "list" #[] e1) := ⟨_, get?_update_seq na fun _ => #[]⟩
  have I1 : Inv X pins σ H { s with heap := s.heap.update a (Obj.mapSeq fun _ => (#[] : Array Value)) } := I.turned (t' := s.toks) (it := a) (h' := s.heap.update a (Obj.mapSeq fun _ => (#[] : Array Value))) (fun b o hb e => (s1.2 b hb).trans e) hHa sa.1 sa.2.2.1 sa.2.2.2.1 sa.2.2.2.2
  unfold ksk_tree
  refine wpAny_bind (listItems_at na rfl ?_)
  refine wpAny_bind (listUpdate_at na rfl ?_ (by rw [List.size_toArray]; exact hz) (Nat.zero_le _))
  refine wpAny_bind (seqEpoch_at ho1 rfl ?_)
  have hlt : a < (s.heap.update a (Obj.mapSeq fun _ => (#[] : Array Value))).objs.size := Heap.lt_size ho1
  generalize s.heap.update a (Obj.mapSeq fun _ => (#[] : Array Value)) = hA at I1 ho1 hlt ⊢
  refine wpAny_bind (wpAny_newTuple ?_ (by show vs.length ≤ _; exact hz))
  refine wpAny_bind (wpAny_newList ?_ (Nat.zero_le _))
  refine wpAny_holding ?_
  have I2 : Inv X pins σ H { s with heap := hA.push (seqObj "tuple" vs.toArray 0) } := I1.kept (t' := s.toks) fun b o e => Heap.get?_push_of_some _ e
  have ho2 : (hA.push (seqObj "tuple" vs.toArray 0)).get? a = some (seqObj "list" #[] e1) := Heap.get?_push_of_some _ ho1
  have hl2 : a < (hA.push (seqObj "tuple" vs.toArray 0)).objs.size := Heap.lt_size ho2
  show wpAny _ _ (ksk_rest a (.ref f) false vs.toArray e1 (.ref (hA.push (seqObj "tuple" vs.toArray 0)).objs.size)) _ _ { s with heap := (hA.push (seqObj "tuple" vs.toArray 0)).push (seqObj "list" #[] 0) }
  generalize hA.push (seqObj "tuple" vs.toArray 0) = hB at I2 ho2 hl2 ⊢
  have fk : FpOk X pins H hB.objs.size := I2.fpOk (Nat.le_refl _) (I2.hok.fresh (Nat.le_refl _))
  have I3 : Inv X pins σ H { s with heap := hB.push (seqObj "list" #[] 0) } := I2.kept (t' := s.toks) fun b o e => Heap.get?_push_of_some _ e
  exact ksort_mid KR hW I3 rv hz (Heap.get?_push_size _ rfl) (Heap.get?_push_of_some _ ho2) (Nat.ne_of_gt hl2) fk.1 hHa fk.2 sa h done
theorem sortK_call {f : Addr} {r : V → Hp → VK → Prop} {W : List (Addr × Obj)} (KR : KeyRun X W σ f r) (hW : ∀ p ∈ W, p ∈ pins) {l : Addr} {xs : List V} {Q : VK} (I : Inv X pins σ H s) (hs : SqL X.K H l xs ∨ SqT X.K H l xs)
    (q : keysT r xs H fun ks H1 => ∃ ls : List (List Int), KeysAre X.K H1 ks ls ∧ ∀ p, H1 p = none → Q (.ref p) (upd H1 p (.lst ((srtK (ls.zip xs)).map (·.2))))) :
    wpAny (model X.prog X.w) X.A (call (.builtin "sorted") [.ref l] [(Str.ofString "key", .ref f)]) (EP X pins σ Q) X.xe s := by
  have key : ∀ (its : List Value) (T : String) (o : Obj) (n : Nat), Vals xs its → (T = "list" ∨ T = "tuple") → s.heap.get? l = some o → o.cls = .type T → o.data = .seq its.toArray n → xs.length ≤ sizeLine → wpAny (model X.prog X.w) X.A (call (.builtin "sorted") [.ref l] [(Str.ofString "key", .ref f)]) (EP X pins σ Q) X.xe s := by
    intro its T o n rv hT ho hc hd hz
    have hz' : its.length ≤ sizeLine := by rw [← rv.length]; exact hz
    refine call_function_entry_kw kind_sorted plain_sorted entry_sorted (ksk_s1 _ _) ?_
    unfold Builtin.«sorted»
    refine wpAny_bind (m := checkCount "sorted" 1 1 _) (wpAny_pure ?_)
    refine wpAny_bind (wpAny_collect_seq l hT ho hc hd (fun h' hk => ?_) (by rw [List.size_toArray]; exact hz'))
    have el : its.toArray.toList = its := by simp
    rw [el]
    have I1 : Inv X pins σ H { s with heap := h' } := I.kept (t' := s.toks) hk
    refine wpAny_bind (wpAny_newList ?_ hz')
    have I2 : Inv X pins σ H { s with heap := h'.push (seqObj "list" its.toArray 0) } := I1.kept (t' := s.toks) fun b o e => Heap.get?_push_of_some _ e
    have fa : FpOk X pins H h'.objs.size := I1.fpOk (Nat.le_refl _) (I1.hok.fresh (Nat.le_refl _))
    have hoL : (h'.push (seqObj "list" its.toArray 0)).get? h'.objs.size = some (seqObj "list" its.toArray 0) := Heap.get?_push_size _ rfl
    show wpAny _ _ _ _ _ { s with heap := h'.push (seqObj "list" its.toArray 0) }
    refine wpAny_bind (wpAny_holding (wpAny_call_entry_kw slot_list_sort ⟨_, hoL, rfl⟩ entry_list_sort ?body (ksk_l1 _ _)))
    case body =>
      show wpAny (model X.prog X.w) X.A.in1.in1 (Builtin.«list.sort» ⟨[.ref h'.objs.size], [(Str.ofString "key", .ref f)]⟩) _ _ _
      rw [ksk_t1]
      refine ksort_tree (s := { s with heap := h'.push (seqObj "list" its.toArray 0) }) KR hW I2 rv hz' hoL fa.1 fa.2 q fun s' H' I' q' => ⟨_, rfl, ?_⟩
      exact wpAny_pure ⟨_, rfl, .ref h'.objs.size, H', I', rfl, q'⟩
  rcases hs with hs | hs
  · obtain ⟨its, rv, hl, hz⟩ := I.list hs
    obtain ⟨o, ho, hc, n, hd⟩ := hl.isList
    exact key its "list" o n rv (.inl rfl) ho hc hd hz
  · obtain ⟨its, rv, ⟨o, ho, hc, n, hd⟩, hz⟩ := I.tuple hs
    exact key its "tuple" o n rv (.inr rfl) ho hc hd hz
theorem cr_sortK {f : Addr} {r : V → Hp → VK → Prop} (KR : ∀ σ, KeyRun X [] σ f r) : CallRK X (.builtin "sorted") [Str.ofString "key"] (rSortK X.K f r) := by
  intro pins s σ H vs zs us ws Q I rv0 rz h
  obtain ⟨l, xs, rfl, rfl, hs, q⟩ := h
  obtain rfl := Vals.ref1 rv0
  obtain ⟨w1, rfl, ew⟩ := vals1 rz
  obtain rfl : w1 = Value.ref f := ew
  exact sortK_call (KR σ) (fun p hp => by simp at hp) I hs q
end

/-! ### the stable sort of data -/
def srtA {α : Type} (kf : α → List Int) (as : List α) : List α := (srtK (as.map fun a => (kf a, a))).map (·.2)
section
variable {α β : Type} {R : α → β → Prop}
abbrev RK_ (R : α → β → Prop) : List (List Int × α) → List (List Int × β) → Prop := Paired fun p q => p.1 = q.1 ∧ R p.2 q.2
theorem insK_rel {p : List Int × α} {q : List Int × β} (h : p.1 = q.1 ∧ R p.2 q.2) : ∀ {l : List (List Int × α)} {m : List (List Int × β)}, RK_ R l m → RK_ R (insK p l) (insK q m)
  | _, _, .nil => .cons h .nil
  | _, _, .cons (a := a) (b := b) r t => by
    have e : ltK p a = ltK q b := by unfold ltK; rw [h.1, r.1]
    unfold insK
    by_cases z : ltK q b = true
    · rw [if_pos z, if_pos (by rw [e]; exact z)]
      exact .cons h (.cons r t)
    · rw [if_neg z, if_neg (by rw [e]; exact z)]
      exact .cons r (insK_rel h t)
theorem srtK_relG : ∀ {l : List (List Int × α)} {m : List (List Int × β)} {a : List (List Int × α)} {b : List (List Int × β)}, RK_ R l m → RK_ R a b → RK_ R (l.foldl (fun acc y => insK y acc) a) (m.foldl (fun acc y => insK y acc) b)
  | _, _, _, _, .nil, h => h
  | _, _, _, _, .cons r t, h => by
    simp only [List.foldl_cons]
    exact srtK_relG t (insK_rel r h)
theorem srtK_rel {l : List (List Int × α)} {m : List (List Int × β)} (h : RK_ R l m) : RK_ R (srtK l) (srtK m) := srtK_relG h .nil
end
theorem rpAll_of {K : PySem.W.Frag} {G : Hp} {α : Type} {Da : α → Dt} : ∀ {l : List (List Int × V)} {m : List (List Int × α)}, RK_ (fun v a => Rp K G v (Da a)) l m → RpAll K G (l.map (·.2)) ((m.map (·.2)).map Da)
  | _, _, .nil => .nil
  | _, _, .cons r t => .cons r.2 (rpAll_of t)
theorem rk_of {K : PySem.W.Frag} {G : Hp} {α : Type} {Da : α → Dt} {kf : α → List Int} : ∀ {as : List α} {xs : List V}, RpAll K G xs (as.map Da) → RK_ (fun v a => Rp K G v (Da a)) ((as.map kf).zip xs) (as.map fun a => (kf a, a))
  | [], _, h => by cases h; exact .nil
  | a :: as, _, h => by
    cases h with
    | cons h1 h2 => exact .cons ⟨rfl, h1⟩ (rk_of h2)
section
variable {K : PySem.W.Frag} {G0 H0 G H : Hp} {D : List Addr} {M : List (Addr × HO)} {α : Type} {Da : α → Dt} {kf : α → List Int} {r : V → Hp → VK → Prop} {kd : List Int → Dt}
/-- what a key function does to the items' data -/
def KeyDo (K : PySem.W.Frag) (Da : α → Dt) (kf : α → List Int) (kd : List Int → Dt) (r : V → Hp → VK → Prop) : Prop := ∀ (x : V) (a : α) (G0 H0 G H : Hp) (D : List Addr) (M : List (Addr × HO)) (Q : VK), Sta K G0 H0 D G M H → Rp K G x (Da a) →
  (∀ k G1 H1, Same G G1 → Sta K G0 H0 D G1 M H1 → Rp K G1 k (kd (kf a)) → Q k H1) → r x H Q
theorem keysT_go (hd : KeyDo K Da kf kd r) : ∀ (as : List α) (xs : List V) (G H : Hp) (Q : List V → Hp → Prop), Sta K G0 H0 D G M H → RpAll K G xs (as.map Da) →
    (∀ ks G1 H1, Same G G1 → Sta K G0 H0 D G1 M H1 → RpAll K G1 ks (as.map fun a => kd (kf a)) → Q ks H1) → keysT r xs H Q
  | [], xs, G, H, Q, hS, hx, q => by
    cases hx
    exact q [] G H (Same.refl G) hS .nil
  | a :: as, _, G, H, Q, hS, hx, q => by
    cases hx with
    | cons h1 h2 =>
      refine hd _ a G0 H0 G H D M _ hS h1 fun k G1 H1 e1 hS1 hk => ?_
      refine keysT_go hd as _ G1 H1 _ hS1 (h2.up e1) fun ks G2 H2 e2 hS2 hks => ?_
      exact q _ G2 H2 (e1.trans e2) hS2 (.cons (hk.up e2) hks)
theorem keysT_t {K : PySem.W.Frag} {G H : Hp} (e : Same G H) : ∀ {as : List α} {ks : List V}, (∀ a ∈ as, kf a ≠ []) → RpAll K G ks (as.map fun a => .tup ((kf a).map .int)) → Paired (KeyT K H) ks (as.map kf)
  | [], _, _, h => by cases h; exact .nil
  | a :: as, _, hn, h => by
    cases h with
    | cons h1 h2 =>
      obtain ⟨p, xs, rfl, hs, hr⟩ := Rp.tup_inv h1
      rw [hr.ints_inv] at hs
      exact .cons ⟨p, rfl, Same.t e hs, hn a List.mem_cons_self⟩ (keysT_t e (fun b hb => hn b (List.mem_cons_of_mem _ hb)) h2)
theorem keysT_i {kv : α → Int} : ∀ {as : List α} {ks : List V}, (∀ a ∈ as, kf a = [kv a]) → RpAll K G ks (as.map fun a => .int (kv a)) → Paired KeyI ks (as.map kf)
  | [], _, _, h => by cases h; exact .nil
  | a :: as, _, hn, h => by
    cases h with
    | cons h1 h2 =>
      cases Rp.int_inv h1
      exact .cons ⟨_, rfl, hn a List.mem_cons_self⟩ (keysT_i (fun b hb => hn b (List.mem_cons_of_mem _ hb)) h2)
/-- sorted(xs, key=f): a new list, which may change -/
theorem go_sortK {f : Addr} {as : List α} {x : V} {Q : VK} {kd : List Int → Dt} (hd : KeyDo K Da kf kd r) (hk : ∀ ks G1 H1, Same G1 H1 → RpAll K G1 ks (as.map fun a => kd (kf a)) → KeysAre K H1 ks (as.map kf)) (hS : Sta K G0 H0 D G M H) (hx : Rp K G x (.lst (as.map Da)) ∨ Rp K G x (.tup (as.map Da)))
    (q : ∀ p vs G1 H1, H0 p = none → G p = none → Same G G1 → Sta K G0 H0 D G1 ((p, .lst vs) :: M) H1 → RpAll K G1 vs ((srtA kf as).map Da) → Q (.ref p) H1) : rSortK K f r [x] [.ref f] H Q := by
  obtain ⟨a, xs, rfl, hs, ha⟩ : ∃ a xs, x = .ref a ∧ (SqL K H a xs ∨ SqT K H a xs) ∧ RpAll K G xs (as.map Da) := by
    rcases hx with hx | hx
    · obtain ⟨a, xs, rfl, hs, ha⟩ := Rp.lst_inv hx
      exact ⟨a, xs, rfl, .inl (hS.gh.seq hs), ha⟩
    · obtain ⟨a, xs, rfl, hs, ha⟩ := Rp.tup_inv hx
      exact ⟨a, xs, rfl, .inr (Same.t hS.gh hs), ha⟩
  refine ⟨a, xs, rfl, rfl, hs, ?_⟩
  refine keysT_go hd as xs G H _ hS ha fun ks G1 H1 e1 hS1 hks => ?_
  refine ⟨as.map kf, hk ks G1 H1 hS1.gh hks, fun p hp => ?_⟩
  have hg : G p = none := by
    cases e : G p with
    | none => rfl
    | some o =>
      have := hS1.gh _ _ (e1 _ _ e)
      rw [hp] at this
      cases this
  exact q p _ G1 _ (hS1.h0 hp) hg e1 (hS1.mut hp _) (rpAll_of (srtK_rel (rk_of (ha.up e1))))
end
/-! ### lists that are known as they are: slices, sums -/
section
variable {K : PySem.W.Frag} {G0 H0 G H : Hp} {D : List Addr} {M : List (Addr × HO)} {Q : VK}
theorem go_cat_ {l b : Addr} {xs zs : List V} (hS : Sta K G0 H0 D G M H) (hx : G l = some (.lst xs)) (hz : G b = some (.lst zs)) (hl : xs.length + zs.length ≤ 100000) (k : ∀ p G1 H1, Same G G1 → Sta K G0 H0 D G1 M H1 → G1 p = some (.lst (xs ++ zs)) → Q (.ref p) H1) : rCat (.ref l) (.ref b) H Q :=
  ⟨l, b, xs, zs, rfl, rfl, hS.gh _ _ hx, hS.gh _ _ hz, sz hl, fun p hp => k p _ _ (same_upd (hS.gn hp)) (hS.imm hp _) upd_same⟩
theorem go_newR {xs : List V} (hS : Sta K G0 H0 D G M H) (hl : xs.length ≤ 100000) (k : ∀ p G1 H1, Same G G1 → Sta K G0 H0 D G1 M H1 → G1 p = some (.lst xs) → Q (.ref p) H1) : NL Q xs H :=
  ⟨sz hl, fun p hp => k p (upd G p (.lst xs)) _ (same_upd (hS.gn hp)) (hS.imm hp _) upd_same⟩
theorem go_slL {xs : List V} {a : Addr} {lo hi : Option Int} (hS : Sta K G0 H0 D G M H) (hx : SqL K G a xs) (k : ∀ p G1 H1, Same G G1 → Sta K G0 H0 D G1 M H1 → G1 p = some (.lst (cutV xs lo hi)) → Q (.ref p) H1) : rSlL K (.ref a) lo hi H Q :=
  ⟨a, xs, rfl, hS.gh.seq hx, fun p hp => k p _ _ (same_upd (hS.gn hp)) (hS.imm hp _) upd_same⟩
theorem raw_l {p : Addr} {xs : List V} {ds : List Dt} (h : G p = some (.lst xs)) (r : RpAll K G xs ds) : Rp K G (.ref p) (.lst ds) := .lst (.inl (.inl h)) r
/-- t <= u of tuples of three ints -/
theorem le3 (a b c d e f : Int) : Ob.lexAt (fun j => decide (([a, b, c] : List Int).getD j 0 = ([d, e, f] : List Int).getD j 0)) (fun j => decide (([a, b, c] : List Int).getD j 0 ≤ ([d, e, f] : List Int).getD j 0)) (decide (([a, b, c] : List Int).length ≤ ([d, e, f] : List Int).length)) 0 (min ([a, b, c] : List Int).length ([d, e, f] : List Int).length) = !HT.lexLt [d, e, f] [a, b, c] := by
  show Ob.lexAt _ _ _ 0 3 = _
  simp only [Ob.lexAt, List.getD_cons_zero, List.getD_cons_succ, HT.lexLt_cons, HT.lexLt_nil_nil, List.length_cons, List.length_nil, decide_eq_true_eq]
  by_cases h1 : a = d
  · by_cases h2 : b = e
    · by_cases h3 : c = f
      · simp [h1, h2, h3]
      · have h3' : ¬ f = c := fun z => h3 z.symm
        simp only [h1, h2, h3, h3', if_true, if_false]
        rw [Bool.eq_iff_iff]
        simp
    · have h2' : ¬ e = b := fun z => h2 z.symm
      simp only [h1, h2, h2', if_true, if_false]
      rw [Bool.eq_iff_iff]
      simp
  · have h1' : ¬ d = a := fun z => h1 z.symm
    simp only [h1, h1', if_false]
    rw [Bool.eq_iff_iff]
    simp
theorem go_leT {x y : V} {ns ms : List Int} {b : Bool} (hx : Rp K G x (.tup (ns.map .int))) (hy : Rp K G y (.tup (ms.map .int))) (e : Same G H)
    (hb : Ob.lexAt (fun j => decide (ns.getD j 0 = ms.getD j 0)) (fun j => decide (ns.getD j 0 ≤ ms.getD j 0)) (decide (ns.length ≤ ms.length)) 0 (min ns.length ms.length) = b) (k : Q (.bl b) H) : rLeT K x y H Q := by
  obtain ⟨a, xs, rfl, hs, ha⟩ := Rp.tup_inv hx
  obtain ⟨c, ys, rfl, hs', ha'⟩ := Rp.tup_inv hy
  rw [ha.ints_inv] at hs
  rw [ha'.ints_inv] at hs'
  exact ⟨a, c, ns, ms, rfl, rfl, Same.t e hs, Same.t e hs', by rw [hb]; exact k⟩
end
/-! ### the place of an item in a sorted list -/
theorem insK_take {α : Type} (y : List Int × α) (l : List (List Int × α)) (h : Srtd ltK l) : insK y l = l.take (l.countP fun o => !ltK y o) ++ y :: l.drop (l.countP fun o => !ltK y o) := by
  obtain ⟨M, N, e1, e2, e3, e4⟩ := insK_split y l h
  have hc : l.countP (fun o => !ltK y o) = M.length := by
    rw [e1, List.countP_append]
    have h1 : M.countP (fun o => !ltK y o) = M.length := List.countP_eq_length.mpr fun x hx => by simp [e3 x hx]
    have h2 : N.countP (fun o => !ltK y o) = 0 := List.countP_eq_zero.mpr fun x hx => by simp [e4 x hx]
    omega
  rw [hc, e2, e1, List.take_left, List.drop_left]
theorem srtK_snoc {α : Type} (l : List (List Int × α)) (y : List Int × α) : srtK (l ++ [y]) = insK y (srtK l) := by simp [srtK]
theorem countP_sndG {α : Type} (kf : α → List Int) (b : α) : ∀ (l : List (List Int × α)), (∀ p ∈ l, p.1 = kf p.2) → (l.map (·.2)).countP (fun o => !HT.lexLt (kf b) (kf o)) = l.countP (fun p => !ltK (kf b, b) p)
  | [], _ => rfl
  | p :: l, hp => by
    have h1 : p.1 = kf p.2 := hp p List.mem_cons_self
    have e : ltK (kf b, b) p = HT.lexLt (kf b) (kf p.2) := by rw [← h1]; rfl
    rw [List.map_cons, List.countP_cons, List.countP_cons, countP_sndG kf b l fun q hq => hp q (List.mem_cons_of_mem _ hq), e]
theorem countP_snd {α : Type} (kf : α → List Int) (b : α) (as : List α) : (srtA kf as).countP (fun o => !HT.lexLt (kf b) (kf o)) = (srtK (as.map fun a => (kf a, a))).countP (fun p => !ltK (kf b, b) p) := by
  refine countP_sndG kf b _ fun p hp => ?_
  have := (srtK_perm (as.map fun a => (kf a, a))).mem_iff.mp hp
  obtain ⟨a, _, rfl⟩ := List.mem_map.mp this
  rfl
theorem srtA_snoc {α : Type} (kf : α → List Int) (as : List α) (b : α) : srtA kf (as ++ [b]) = (srtA kf as).take ((srtA kf as).countP fun o => !HT.lexLt (kf b) (kf o)) ++ b :: (srtA kf as).drop ((srtA kf as).countP fun o => !HT.lexLt (kf b) (kf o)) := by
  rw [countP_snd]
  unfold srtA
  rw [List.map_append, List.map_cons, List.map_nil, srtK_snoc, insK_take _ _ (srtK_ok _).1, List.map_append, List.map_cons, List.map_take, List.map_drop]
theorem srtA_perm {α : Type} (kf : α → List Int) (as : List α) : (srtA kf as).Perm as := by
  have := (srtK_perm (as.map fun a => (kf a, a))).map (·.2)
  rw [List.map_map] at this
  have e : as.map ((fun p : List Int × α => p.2) ∘ fun a => (kf a, a)) = as := by
    conv => rhs; rw [← List.map_id as]
    rfl
  rw [e] at this
  exact this
theorem srtA_len {α : Type} (kf : α → List Int) (as : List α) : (srtA kf as).length = as.length := (srtA_perm kf as).length_eq
/-- a list that may change, read by a callee as one that does not -/
theorem Sta.lend {K : PySem.W.Frag} {G0 H0 G H : Hp} {D : List Addr} {M : List (Addr × HO)} {p : Addr} {o : HO} (h : Sta K G0 H0 D G ((p, o) :: M) H) :
    Same G (upd G p o) ∧ Same (upd G p o) H ∧ ∀ G1 H1, Adv [] (upd G p o) H G1 H1 → ∃ G2, Same G G2 ∧ Sta K G0 H0 D G2 ((p, o) :: M) H1 ∧ ∀ a, a ≠ p → G2 a = G1 a := by
  have hm := h.mh _ List.mem_cons_self
  have hmn : ∀ q ∈ M, q.1 ≠ p := fun q hq e => by
    have := h.md
    simp only [List.map_cons, List.nodup_cons] at this
    exact this.1 (List.mem_map.mpr ⟨q, hq, e⟩)
  have sgh : Same (upd G p o) H := fun b x e => by
    by_cases hb : b = p
    · subst hb
      rw [upd_same] at e
      cases e
      exact hm.1
    · rw [upd_ne hb] at e
      exact h.gh _ _ e
  refine ⟨same_upd hm.2.1, sgh, fun G1 H1 ad => ?_⟩
  let G2 : Hp := fun a => if a = p then none else G1 a
  have g2p : G2 p = none := by show (if p = p then none else G1 p) = none; rw [if_pos rfl]
  have g2n : ∀ a, a ≠ p → G2 a = G1 a := fun a ha => by show (if a = p then none else G1 a) = G1 a; rw [if_neg ha]
  have e12 : Same G G2 := fun b x e => by
    have hb : b ≠ p := fun z => by subst z; rw [hm.2.1] at e; cases e
    rw [g2n b hb]
    exact ad.gg b x (by rw [upd_ne hb]; exact e)
  have e2h : Same G2 H1 := fun b x e => by
    by_cases hb : b = p
    · subst hb; rw [g2p] at e; cases e
    · rw [g2n b hb] at e
      exact ad.gh _ _ e
  refine ⟨G2, e12, ⟨h.g0.trans e12, e2h, fun a ha => ?_, fun a u ha hd => ad.kp a u (h.kp a u ha hd) (by simp), fun a ha => ad.up a (h.up a ha), h.md, fun q hq => ?_⟩, g2n⟩
  · by_cases hb : a = p
    · subst hb
      rw [g2p, ← h.fr a ha, hm.2.1]
    · rw [g2n a hb, ad.fr a (h.up a ha), upd_ne hb]
      exact h.fr a ha
  · obtain ⟨e1, e2, e3⟩ := h.mh q hq
    refine ⟨ad.kp _ _ e1 (by simp), ?_, e3⟩
    by_cases hb : q.1 = p
    · rw [hb]; exact g2p
    · rw [g2n _ hb, ad.fr _ (by rw [e1]; exact fun z => nomatch z), upd_ne hb]
      exact e2
/-! ### more steps -/
def PTK (Q : Option Int → Hp → Prop) (x : V) (H : Hp) : Prop := ∃ i, x = .int i ∧ Q (some i) H
def OTK (K : PySem.W.Frag) (Q : VK) (B : Hp → Prop) (x : V) (H : Hp) : Prop := ∃ k, TruV K x H k ∧ if k = true then Q x H else B H
section
variable {K : PySem.W.Frag} {G H : Hp} {σ σ2 : L2.St} {Q : VK} {ta tb te : TE} {vss : List Nat} {A : Prop} {B : Hp → Prop} {i : Int} {x : V}
theorem go_wipe (e : wipe σ2 vss = wipe σ vss) (h : A) : wipe σ2 vss = wipe σ vss ∧ A := ⟨e, h⟩
theorem go_sl {r : V → Option Int → Option Int → Hp → VK → Prop} {tl th : TO} (h : te σ H fun x H1 => tl σ H1 fun l H2 => th σ H2 fun u H3 => r x l u H3 Q) : tSl r te tl th σ H Q := h
theorem go_noPart {Q : Option Int → Hp → Prop} (h : Q none H) : tNoPart σ H Q := h
theorem go_part {Q : Option Int → Hp → Prop} (h : te σ H fun x H1 => PTK Q x H1) : tPart te σ H Q := h
theorem go_ptk {Q : Option Int → Hp → Prop} (h : Q (some i) H) : PTK Q (.int i) H := ⟨i, rfl, h⟩
theorem go_orT (h : ta σ H fun x H1 => OTK K Q (fun H2 => tb σ H2 Q) x H1) : tOrT K ta tb σ H Q := h
theorem go_ckw {r : List V → List V → Hp → VK → Prop} {t tk : TA} (h : t σ H fun vs H1 => tk σ H1 fun zs H2 => r vs zs H2 Q) : tCKw r t tk σ H Q := h
theorem go_otk_non (h : B H) : OTK K Q B .non H := ⟨false, rfl, by rw [if_neg (by decide)]; exact h⟩
theorem go_otk_int (h1 : i ≠ 0 → Q (.int i) H) (h2 : i = 0 → B H) : OTK K Q B (.int i) H := by
  refine ⟨i != 0, rfl, ?_⟩
  by_cases e : i = 0
  · rw [if_neg (by simp [e])]; exact h2 e
  · rw [if_pos (by simp [e])]; exact h1 e
end
theorem cut_hi (xs : List V) (n : Nat) : cutV xs none (some (n : Int)) = xs.take n := by
  unfold cutV
  rw [HT.sIx_none, HT.sIx_nat, List.drop_zero, Nat.sub_zero]
  by_cases h : n ≤ xs.length
  · rw [Nat.min_eq_left h]
  · rw [Nat.min_eq_right (by omega), List.take_of_length_le (by omega), List.take_of_length_le (by omega)]
theorem cut_lo (xs : List V) (n : Nat) : cutV xs (some (n : Int)) none = xs.drop n := by
  unfold cutV
  rw [HT.sIx_none, HT.sIx_nat]
  by_cases h : n ≤ xs.length
  · rw [Nat.min_eq_left h, List.take_of_length_le (by rw [List.length_drop]; omega)]
  · rw [Nat.min_eq_right (by omega), List.drop_of_length_le (Nat.le_refl _), List.drop_of_length_le (by omega), List.take_nil]
theorem okD_bar (b : Bar) (n : Nat) : okD (n + 2) (barD b) = true := by
  obtain ⟨x, o⟩ := b
  cases o <;> simp [barD, optD, okD]
theorem okD_bars (bs : List Bar) (h : bs.length ≤ 100000) : okD 5 (.lst (bs.map barD)) = true := by
  simp only [okD, List.length_map, h, decide_true, Bool.true_and, List.all_eq_true]
  intro d hd
  obtain ⟨b, _, rfl⟩ := List.mem_map.mp hd
  exact okD_bar b 2
theorem okE_bar (b : Bar) (n : Nat) : okE (n + 2) (barD b) = true := by
  obtain ⟨x, o⟩ := b
  cases o <;> simp [barD, optD, okE]
theorem okE_bars (bs : List Bar) (h : bs.length ≤ 100000) : okE 5 (.lst (bs.map barD)) = true := by
  simp only [okE, List.length_map, h, decide_true, Bool.true_and, List.all_eq_true]
  intro d hd
  obtain ⟨b, _, rfl⟩ := List.mem_map.mp hd
  exact okE_bar b 2
theorem go_sameLend {K : PySem.W.Frag} {G0 H0 G H : Hp} {D : List Addr} {M : List (Addr × HO)} {p : Addr} {xs : List V} {ds : List Dt} (h : Sta K G0 H0 D G ((p, .lst xs) :: M) H) (hx : RpAll K G xs ds) :
    ∃ G', Same G G' ∧ Same G' H ∧ Rp K G' (.ref p) (.lst ds) ∧ ∀ G1 H1, Adv [] G' H G1 H1 → ∃ G2, Same G G2 ∧ Sta K G0 H0 D G2 ((p, .lst xs) :: M) H1 := by
  obtain ⟨e1, e2, l⟩ := h.lend
  exact ⟨_, e1, e2, .lst (.inl (.inl upd_same)) (hx.up e1), fun G1 H1 ad => by
    obtain ⟨G2, a, b, _⟩ := l G1 H1 ad
    exact ⟨G2, a, b⟩⟩
theorem atI_get {α : Type} {xs : List α} {n : Nat} {v : Int} (hl : xs.length = n) (h0 : 0 ≤ v) (h1 : v < n) : ∃ x, L2.atI xs v = some x ∧ xs[v.toNat]? = some x := by
  have hk : v.toNat < xs.length := by omega
  refine ⟨xs[v.toNat], ?_, List.getElem?_eq_getElem hk⟩
  have := atI_nat (j := v.toNat) (List.getElem?_eq_getElem hk)
  rw [Int.toNat_of_nonneg h0] at this
  exact this
theorem ixN_nat {n : Nat} {i : Nat} (h : i < n) : ixN n (i : Int) = some i := by
  unfold ixN
  rw [if_pos (Int.natCast_nonneg i), if_pos (by omega), Int.toNat_natCast]
end B
namespace B
open PySem PySem.Spec PyProof.Rows L2 RZ

/-! ### what a callee may let out -/
theorem passN {X : Cx} (σ : L2.St) : PassesAt (L2.CX X.prog X.w) X σ (fun _ _ _ => False) := fun pins H s e s' I h => passL (X := X) pins σ H s e s' I h
/-- how a call o.m(args) runs -/
abbrev MCall (X : Cx) (ob : Expr) (m : Str) (apos pos : Pos) (args : List Expr) (pl : Sem Bool) : Prop :=
  eval (.Call (.Attribute ob m apos) args [] pos) X.env = (do let ov ← eval ob X.env; standAt apos.atName; let (f, first) ← holding [ov] (getMethod ov m pl); callWith pos f first (backTo pos (starEach args X.env)) (backToKw pos (keywordEach [] X.env)))
abbrev PlainA (X : Cx) (pos : Pos) (e : Expr) (es : List Expr) : Prop := starEach (e :: es) X.env = (false, eval e X.env) :: starEach es X.env ∧ (backTo pos (starEach es X.env)).any (·.1) = false
/-! ### a static method off its class -/
structure Stat (K : PySem.W.Frag) (C : Addr) (m : Str) (g : Addr) : Prop where
  ex : ∃ (mc : Value) (p : Addr) (rest : List Value), PySem.W.readsIn K C mc = true ∧ PySem.W.specialIn K (.ref C) "__getattribute__" = some (some (.builtin "type.__getattribute__")) ∧
    PySem.W.findCls K (.ref C) mc m = some (.get (.builtin "staticmethod.__get__") (.ref p) .none (.ref C)) ∧ PySem.W.recIn K p "staticmethod" = some (.ref g :: rest)
  hv : PySem.W.handedIn (.ref g) = true
  kp : PySem.W.keepIn K (.ref g) = true
section
variable {X : Cx} {CX : CXT} {k : Nat} {C g f a b : Addr} {fd : FuncData} {ps : List Str} {sp : Sp} {E : L2.St → XK} {o e : Expr} {es : List Expr} {x m : Str} {p pos apos : Pos} {ta tb : TE} {t : TA} {pl : Sem Bool}
theorem stat_get {pins : List (Addr × Obj)} {σ : L2.St} {H : Hp} {s : Shared} {A : Around} {E : Value → Shared → Prop} {Q : Value × List Value → Shared → Prop} (I : Inv X pins σ H s) (S : Stat X.K C m g)
    (h : ∀ s', Inv X pins σ H s' → Q (.ref g, []) s') : wpAny (model X.prog X.w) A (getMethod (.ref C) m pl) Q E s := by
  obtain ⟨mc, p, rest, h1, h2, h3, h4⟩ := S.ex
  refine PySem.W.method_cls I.kIn h2 ?_
  refine PySem.W.cls_bind I.kIn h1 h3 (wpAny_call ?_)
  have J := I.tok (s.toks + 1)
  exact PySem.W.sm_get (s := { s with toks := s.toks + 1 }) J.kIn h4 (PySem.W.handed_on S.hv (h _ J))
def tStat (C : Addr) (sp : Sp) (E : L2.St → XK) (ta : TE) (t : TA) : TE := fun σ H Q => ta σ H fun x H1 => x = .ref C ∧ t σ H1 fun vs H2 => sp vs H2 Q (E σ)
theorem pe_stat (he : PE X o ta) (S : Stat X.K C m g) (F : FnOk X.prog X.w X.K X.mg X.base CX k g fd ps sp) (hr : Room k X.A) (hb : Binds X.K fd ps []) (hx : ∀ σ, PassesAt CX X σ (E σ)) (ha : PA X (e :: es) t)
    (hst : PlainA X pos e es := by exact ⟨rfl, rfl⟩) (ht : MCall X o m apos pos (e :: es) pl := by rfl) :
    PE X (.Call (.Attribute o m apos) (e :: es) [] pos) (tStat C sp E ta t) := by
  refine ⟨fun pins s σ H Q I h => ?_⟩
  refine PySem.W.methodCall_KW (pl := pl) (thn (he.run pins s σ H _ I h) fun u s1 hu => ?_) ht
  obtain ⟨xv, H1, I1, rx, ex, q⟩ := hu
  subst ex
  obtain rfl : u = Value.ref C := rx
  refine stat_get I1 S fun s2 I2 => ?_
  refine PySem.W.callWith_K (h₀ := X.base) I.ok.mod.kin S.kp (thn (ha.run pos pins s2 σ H1 _ I2 q) fun us s3 hu => ?_) hst.1 hst.2
  obtain ⟨vs, H2, I3, rv, q2⟩ := hu
  exact ⟨I3.kIn, run_fnS F hr hb (hx σ) I3 rv q2⟩
/-! ### o.m(..), C(..) where what is raised is wished for at the caller's slots -/
def tMetS (C : Addr) (m : Str) (sp : Sp) (E : L2.St → XK) (ta : TE) (t : TA) : TE := fun σ H Q => ta σ H fun x H1 => ∃ a dx fs, x = .ref a ∧ H1 a = some (.ins C dx fs) ∧ fs.lookup m = none ∧ t σ H1 fun vs H2 => sp (x :: vs) H2 Q (E σ)
theorem pe_methS (he : PE X o ta) (c : Cls X.K C) (hm : Meth X.K C m f) (F : FnOk X.prog X.w X.K X.mg X.base CX k f fd ps sp) (hr : Room k X.A) (hb : Binds X.K fd ps []) (hx : ∀ σ, PassesAt CX X σ (E σ)) (ha : PA X (e :: es) t)
    (hst : PlainA X pos e es := by exact ⟨rfl, rfl⟩) (ht : MCall X o m apos pos (e :: es) pl := by rfl) :
    PE X (.Call (.Attribute o m apos) (e :: es) [] pos) (tMetS C m sp E ta t) := by
  refine ⟨fun pins s σ H Q I h => ?_⟩
  refine PySem.W.methodCall_KW (pl := pl) (thn (he.run pins s σ H _ I h) fun u s1 hu => ?_) ht
  obtain ⟨xv, H1, I1, rx, a, dx, fs, ex, ea, l, q⟩ := hu
  subst ex
  obtain rfl : u = Value.ref a := rx
  refine getmeth_ok I1 ea c hm l ?_
  refine PySem.W.callWith_K (first := [.ref a]) (h₀ := X.base) I.ok.mod.kin hm.kp (thn (ha.run pos pins s1 σ H1 _ I1 q) fun us s2 hu => ?_) hst.1 hst.2
  obtain ⟨vs, H2, I2, r, q2⟩ := hu
  exact ⟨I2.kIn, run_fnS (us := .ref a :: us) (vs := .ref a :: vs) F hr hb (hx σ) I2 (.cons rfl r) q2⟩
theorem pe_methS0 (he : PE X o ta) (c : Cls X.K C) (hm : Meth X.K C m f) (F : FnOk X.prog X.w X.K X.mg X.base CX k f fd ps sp) (hr : Room k X.A) (hb : Binds X.K fd ps []) (hx : ∀ σ, PassesAt CX X σ (E σ))
    (ht : MCall X o m apos pos [] pl := by rfl) :
    PE X (.Call (.Attribute o m apos) [] [] pos) (tMetS C m sp E ta tNil) := by
  refine ⟨fun pins s σ H Q I h => ?_⟩
  refine PySem.W.methodCall_KW (pl := pl) (thn (he.run pins s σ H _ I h) fun u s1 hu => ?_) ht
  obtain ⟨xv, H1, I1, rx, a, dx, fs, ex, ea, l, q⟩ := hu
  subst ex
  obtain rfl : u = Value.ref a := rx
  refine getmeth_ok I1 ea c hm l ?_
  exact PySem.W.callWith_K0 (first := [.ref a]) I1.kIn hm.kp (run_fnS (us := [.ref a]) (vs := [.ref a]) F hr hb (hx σ) I1 (.cons rfl .nil) q)
def tMakeS (C : Addr) (sp : Sp) (E : L2.St → XK) (t : TA) : TE := fun σ H Q => t σ H fun vs H1 => ∀ x dx, H1 x = none → H1 dx = none → dx ≠ x → sp (.ref x :: vs) (upd (upd H1 dx (.own x)) x (.ins C dx [])) (fun v H2 => v = .non ∧ Q (.ref x) H2) (E σ)
theorem run_makeS {pins : List (Addr × Obj)} {σ : L2.St} {H : Hp} {s : Shared} {Q : VK} {us : List Value} {vs : List V} (M : Mk X.K C f) (F : FnOk X.prog X.w X.K X.mg X.base CX k f fd ps sp) (hr : Room (k + 1) X.A) (hb : Binds X.K fd ps [])
    (hx : PassesAt CX X σ (E σ)) (I : Inv X pins σ H s) (r : Vals vs us)
    (h : ∀ x dx, H x = none → H dx = none → dx ≠ x → sp (.ref x :: vs) (upd (upd H dx (.own x)) x (.ins C dx [])) (fun v H2 => v = .non ∧ Q (.ref x) H2) (E σ)) :
    wpAny (model X.prog X.w) X.A (call (.ref C) us) (EP X pins σ Q) X.xe s := by
  have hq := h _ _ (I.hok.fresh (Nat.le_succ s.heap.objs.size)) (I.hok.fresh (Nat.le_refl s.heap.objs.size)) (Nat.ne_of_lt (Nat.lt_succ_self s.heap.objs.size))
  have J := Inv.made (C := C) I
  have rr : Vals (V.ref (s.heap.objs.size + 1) :: vs) (Value.ref (s.heap.objs.size + 1) :: us) := .cons rfl r
  have hl : ((Value.ref (s.heap.objs.size + 1) :: us) ++ []).length = ps.length := by
    rw [List.append_nil, ← rr.length]
    exact F.len _ _ _ _ hq
  have rb := hb _ (Value.ref (s.heap.objs.size + 1) :: us) J.kIn hl
  rw [List.append_nil] at rb
  refine wpAny_call (make_map (f := f) I.kIn M.makes M.init (beq_iff_eq.mp M.fn) (codeAny_mono (F.run _ X.stack _ _ ⟨Value.ref (s.heap.objs.size + 1) :: us, []⟩ (Value.ref (s.heap.objs.size + 1) :: us) _ _ (E σ) (hr.make C us [])
    (J.env0.make C us []) rb rr hq) fun r s' hq' => ?_))
  cases r with
  | error e => exact hx pins _ _ e s' J hq'
  | ok fl =>
    cases fl with
    | ret u =>
      obtain ⟨v, H', J', rv, ev, q3⟩ := J.after hq'
      subst ev
      exact ⟨rv, V.ref (s.heap.objs.size + 1), H', J', rfl, q3⟩
    | next => exact False.elim hq'
    | brk => exact False.elim hq'
    | cont => exact False.elim hq'
theorem pe_makeS (M : Mk X.K C f) (F : FnOk X.prog X.w X.K X.mg X.base CX k f fd ps sp) (hr : Room (k + 1) X.A) (hg : Gl X x) (hm : X.mg x = some (.ref C)) (hb : Binds X.K fd ps []) (hx : ∀ σ, PassesAt CX X σ (E σ))
    (ha : PA X (e :: es) t) (hdb : (x == ("__debug__" : Str)) = false := by decide) (hst : PlainA X pos e es := by exact ⟨rfl, rfl⟩) :
    PE X (.Call (.Name x p) (e :: es) [] pos) (tMakeS C sp E t) := by
  refine ⟨fun pins s σ H Q I h => ?_⟩
  refine wpAny_Call_Name_kw (ld_glob I hg hm ?_ hdb)
  refine PySem.W.callWith_K (h₀ := X.base) I.ok.mod.kin M.kp (thn (ha.run pos pins s σ H _ I h) fun us s1 hu => ?_) hst.1 hst.2
  obtain ⟨vs, H1, I1, r, q⟩ := hu
  exact ⟨I1.kIn, run_makeS M F hr hb (hx σ) I1 r q⟩
/-! ### a op b by the class's own method -/
structure OwnOp (K : PySem.W.Frag) (C : Addr) (op : Operator) (f : Addr) : Prop where
  at_ : PySem.W.findIn K (.ref C) (PySem.dunder op.info.2) = some (some (.ref f))
  fn : PySem.W.isFn K (.ref f) = true
  sf : PySem.W.selfFirst K C = true
def tOpS (C : Addr) (sp : Sp) (E : L2.St → XK) (ta tb : TE) : TE := fun σ H Q => ta σ H fun x H1 => tb σ H1 fun y H2 => ∃ a b dx dy fs gs, x = .ref a ∧ y = .ref b ∧ H2 a = some (.ins C dx fs) ∧ H2 b = some (.ins C dy gs) ∧ sp [x, y] H2 Q (E σ)
theorem pe_opS {op : Operator} (he : PE X o ta) (he' : PE X e tb) (W : OwnOp X.K C op f) (F : FnOk X.prog X.w X.K X.mg X.base CX k f fd ps sp) (hr : Room k X.A) (hb : Binds X.K fd ps []) (hx : ∀ σ, PassesAt CX X σ (E σ)) :
    PE X (.BinOp o op e pos) (tOpS C sp E ta tb) := by
  refine ⟨fun pins s σ H Q I h => ?_⟩
  refine wpAny_BinOp (thn (he.run pins s σ H _ I h) fun u s1 hu => ?_)
  obtain ⟨x, H1, I1, rx, q1⟩ := hu
  refine thn (he'.run pins s1 σ H1 _ I1 q1) fun u2 s2 hu => ?_
  obtain ⟨y, H2, I2, ry, a, b, dx, dy, fs, gs, rfl, rfl, ea, eb, q⟩ := hu
  obtain rfl : u = Value.ref a := rx
  obtain rfl : u2 = Value.ref b := ry
  obtain ⟨mA, O, _, _, _, _⟩ := ins_get I2.hok ea
  obtain ⟨od, J, _⟩ := O.look
  obtain ⟨mB, O', _, _, _, _⟩ := ins_get I2.hok eb
  obtain ⟨od', J', _⟩ := O'.look
  obtain ⟨m, Fm⟩ := I2.fr
  refine PySem.W.binop_K Fm I2.mod.kin J J'.type W.sf W.at_ W.fn (wpAny_mono (run_fnS (us := [.ref a, .ref b]) (vs := [.ref a, .ref b]) F hr hb (hx σ) I2 (.cons rfl (.cons rfl .nil)) q) (fun v s' hv => ?_) fun _ _ z => z)
  obtain ⟨v', H3, I3, rv, q3⟩ := hv
  have r0 := rv
  cases v' <;> first | (cases rv; exact ⟨_, H3, I3, r0, q3⟩) | (obtain ⟨t, rfl⟩ := rv; exact ⟨_, H3, I3, r0, q3⟩)
end
/-! ### classes of errors; isinstance, except -/
structure ExcOk (K : PySem.W.Frag) (C : Addr) : Prop extends ExcC K C where
  q : PySem.W.excIn K C [.type "ValueError", .type "Exception", .type "BaseException", .type "object"] "ValueError.__new__" = true
  kp : PySem.W.keepIn K (.ref C) = true
  ty : PySem.W.typeIn K (.ref C) = some (.type "type")
  sf : PySem.W.selfFirst K C = true
  ve : PySem.W.subIn K (.ref C) (.type "ValueError") = some true
theorem ExcOk.cls {K : PySem.W.Frag} {C : Addr} (x : ExcOk K C) : (PySem.W.clsIn K C).isSome = true := by
  obtain ⟨cd, h, _⟩ := PySem.W.any_some x.sf
  rw [h]
  rfl
theorem kitCls_own {K : PySem.W.Frag} {C : Addr} {t : Value} {b : Bool} (x : ExcOk K C) (h : PySem.W.subIn K t (.ref C) = some b) : PySem.W.kitCls K t (.ref C) = some b := by
  show (if ((PySem.W.clsIn K C).isSome && PySem.W.typeIn K (.ref C) == some (.type "type")) = true then PySem.W.subIn K t (.ref C) else none) = some b
  rw [if_pos (by rw [x.cls, x.ty]; rfl)]
  exact h
theorem exm_own {K : PySem.W.Frag} {C : Addr} {t : Value} {b : Bool} (x : ExcOk K C) (h : PySem.W.subIn K t (.ref C) = some b) : PySem.W.exmOne K t (.ref C) = some b := by
  unfold PySem.W.exmOne
  rw [if_pos (by rw [x.hs]; rfl)]
  exact kitCls_own x h
theorem sub_self {K : PySem.W.Frag} {C : Addr} {b : Bool} (h1 : PySem.W.selfFirst K C = true) (h : PySem.W.subIn K (.ref C) (.ref C) = some b) : b = true := by
  obtain ⟨cd, hc, hm⟩ := PySem.W.any_some h1
  have h' : PySem.W.mroIn K C (.ref C) = some b := h
  unfold PySem.W.mroIn at h'
  rw [hc] at h'
  cases q : cd.mro with
  | nil => rw [q] at hm; cases hm
  | cons a r =>
    rw [q, List.head?_cons] at hm
    cases (beq_iff_eq.mp hm)
    have : (if cd.mro.isEmpty = true then none else some (cd.mro.contains (Value.ref C))) = some b := h'
    rw [q] at this
    simp at this
    exact this
theorem kit_own {K : PySem.W.Frag} {C : Addr} {t : Value} {b : Bool} (x : ExcOk K C) (h : PySem.W.subIn K t (.ref C) = some b) : PySem.W.kitOne K t (.ref C) = some b := by
  unfold PySem.W.kitOne
  by_cases e : (t == Value.ref C) = true
  · rw [if_pos e]
    cases eq_of_beq e
    rw [sub_self x.sf h]
  · rw [if_neg e]
    exact kitCls_own x h
theorem kit_val {K : PySem.W.Frag} {D : Addr} (x : ExcOk K D) : PySem.W.kitOne K (.ref D) (.type "ValueError") = some true := by
  unfold PySem.W.kitOne
  rw [if_neg (by simp)]
  show (if PySem.W.kitMeta "ValueError" = true then PySem.W.subIn K (.ref D) (.type "ValueError") else none) = some true
  rw [if_pos (by decide +kernel)]
  exact x.ve
/-- raise X('m') -/
theorem pmk_x {X : Cx} {C : Addr} {x m : Str} {j : Nat} {p p2 pos : Pos} (h : ExcOk X.K C) (gC : X.mg x = some (.ref C)) (hg : Gl X x) (hdb : (x == ("__debug__" : Str)) = false := by decide) :
    PMk X (.Call (.Name x p) [.Constant (.str m) j p2] [] pos) (fun _ H Q => Q (.ref C) none H) := pmk_own PySem.F.excBase_ValueError h.q gC h.kp (raises_own h.hs h.ty) hg hdb
theorem go_isE {K : PySem.W.Frag} {H : Hp} {D a : Addr} {c : V} {cv : Value} {b : Bool} {Q : VK} (hc : ∀ u, RelV c u → u = cv) (hk : PySem.W.kitOne K (.ref D) cv = some b) (q : Q (.bl b) H) : rIsE K D a [.ref a, c] H Q := ⟨c, cv, b, rfl, hc, hk, q⟩
/-- what isinstance asks of the instances of a class -/
structure DcOk (K : PySem.W.Frag) (C : Addr) : Prop where
  ha : PySem.W.findIn K (.ref C) "__class__" = some (some (.builtin "object.__class__"))
  hn : PySem.W.specialIn K (.builtin "object.__class__") "__get__" = some (some (.builtin "getset_descriptor.__get__"))
  ht : PySem.W.takesIn K (.builtin "object.__class__") = some true
  hm : PySem.W.mroIn K C (.type "object") = some true
theorem go_isOwn {K : PySem.W.Frag} {G0 H0 G H : Hp} {D : List Addr} {M : List (Addr × HO)} {Q : VK} {x : V} {C : Addr} {fds : List (Str × Dt)} (hS : Sta K G0 H0 D G M H) (hx : Rp K G x (.ins C fds)) (cl : Cls K C) (dc : DcOk K C) (k : Q (.bl true) H) : rIsi K [x, .ref C] H Q := by
  obtain ⟨a, dx, fs, rfl, hs, _⟩ := Rp.ins_inv hx
  exact ⟨.ref a, .ref C, .ref C, .ref C, true, rfl, .own C, .base (.ins (hS.gh _ _ hs) cl dc.ha dc.hn dc.ht dc.hm), by unfold PySem.W.kitOne; rw [if_pos (by simp)], k⟩
theorem pass0S {X : Cx} {E : XK} (σ : L2.St) : PassesAt CX0 X σ E := fun _ _ _ _ _ _ h => h.elim
/-- a suite's reading that wants something of the error -/
theorem pss_when {X : Cx} {sts : List Stmt} {P : Prop} {t : TS} (h : P → PSs X sts t) : PSs X sts (fun D σ H => P ∧ t D σ H) := ⟨fun pins s σ H D I q => (h q.1).run pins s σ H D I q.2⟩
/-! ### tuples: loops, comprehensions -/
section
variable {K : PySem.W.Frag} {G0 H0 G H : Hp} {D : List Addr} {M : List (Addr × HO)} {σ σ' : L2.St} {Q : VK} {tt : TT} {ta te : TE} {ds fs : List Dt} {vss : List Nat} {nx bk ct : L2.St → Hp → Prop} {rt : VK} {t : TS} {x y : V} {d : Dt}
def TKT (K : PySem.W.Frag) (k : It → Hp → Prop) (x : V) (H : Hp) : Prop := ∃ a, x = .ref a ∧ (∃ xs, SqT K H a xs) ∧ k (Itt K a) H
theorem go_iTup {k : It → Hp → Prop} (h : ta σ H fun x H1 => TKT K k x H1) : iTup K ta σ H k := h
theorem go_itt {k : It → Hp → Prop} (hx : Rp K G x (.tup ds)) (e : Same G H) (h : ∀ a xs, x = .ref a → SqT K G a xs → RpAll K G xs ds → k (Itt K a) H) : TKT K k x H := by
  obtain ⟨a, xs, rfl, hs, ha⟩ := Rp.tup_inv hx
  exact ⟨a, rfl, ⟨xs, Same.t e hs⟩, h a xs rfl hs ha⟩
theorem forT {a : Addr} {xs : List V} {g : TG} (hS : Sta K G0 H0 D G M H) (hq : SqT K G a xs) (hr : RpAll K G xs ds) (W : Nat → L2.St → Hp → List (Addr × HO) → Prop) (h0 : W 0 σ G M)
    (hs : ∀ i x d σ' G1 M1 H1, i < ds.length → ds[i]? = some d → Same G G1 → Sta K G0 H0 D G1 M1 H1 → Rp K G1 x d → W i σ' G1 M1 → g x σ' H1 fun σ2 H3 => t ⟨Nx K G0 H0 D G (W (i + 1)), rt, nx, Nx K G0 H0 D G (W (i + 1))⟩ σ2 H3)
    (hd : ∀ σ' G1 M1 H1, Same G G1 → Sta K G0 H0 D G1 M1 H1 → W ds.length σ' G1 M1 → nx σ' H1) : ForG (Itt K a) g t ⟨nx, rt, bk, ct⟩ σ H :=
  forI (walk_tup (xs := xs)) hS (fun H1 e => Same.t e hq) W h0 (fun i x σ' G1 M1 H1 H2 hi e s w y => by
    obtain ⟨rfl, hx⟩ := y
    obtain ⟨d, hd, r⟩ := hr.getV hx
    exact hs i x d σ' G1 M1 H2 (by rw [← hr.length]; exact hi) hd e s (r.up e) w) (by rw [hr.length]; exact hd)
theorem lcT {a : Addr} {xs : List V} {g : TG} (hS : Sta K G0 H0 D G M H) (hq : SqT K G a xs) (hr : RpAll K G xs ds) (W : Nat → List (Addr × HO) → List Dt → Prop) (h0 : W 0 M [])
    (hs : ∀ i x d L G1 M1 vs es H1, i < ds.length → ds[i]? = some d → Rp K G1 x d → Same G G1 → H0 L = none → Sta K G0 H0 D G1 ((L, .lst vs) :: M1) H1 → RpAll K G1 vs es → W i M1 es → g x (wipe σ vss) H1 fun σ2 H3 => wipe σ2 vss = wipe σ vss ∧ tt σ2 H3 fun b H4 =>
      if b = true then te σ2 H4 (LcY K G0 H0 D G L (W (i + 1))) else LcP K G0 H0 D G L (W (i + 1)) H4)
    (hd : ∀ p G1 M1 es H1, Same G G1 → Sta K G0 H0 D G1 M1 H1 → Rp K G1 (.ref p) (.lst es) → W ds.length M1 es → Q (.ref p) H1) : LcG (Itt K a) g tt te vss σ Q H :=
  lcI (walk_tup (xs := xs)) hS (fun H1 e => Same.t e hq) W h0 (fun i x L G1 M1 vs es H1 H2 hi e l0 s r w y => by
    obtain ⟨rfl, hx⟩ := y
    obtain ⟨d, hd', rd⟩ := hr.getV hx
    exact hs i x d L G1 M1 vs es H2 (by rw [← hr.length]; exact hi) hd' (rd.up e) e l0 s r w) (by rw [hr.length]; exact hd)
/-- a comprehension that maps what stands in a list or tuple, each by itself; nothing that may change is touched -/
theorem lcMapL {α : Type} {a : Addr} {xs : List V} {g : TG} {as : List α} {Da : α → Dt} {F : α → Dt} (hS : Sta K G0 H0 D G M H) (hq : SqL K G a xs) (hr : RpAll K G xs (as.map Da)) (hl : as.length ≤ 100000)
    (hs : ∀ x c L G1 vs es H1 (Z : List (Addr × HO) → List Dt → Prop), c ∈ as → Rp K G1 x (Da c) → Same G G1 → H0 L = none → Sta K G0 H0 D G1 ((L, .lst vs) :: M) H1 → RpAll K G1 vs es → (∀ y G2 H2, Same G1 G2 → Sta K G0 H0 D G2 ((L, .lst vs) :: M) H2 → Rp K G2 y (F c) → LcY K G0 H0 D G L Z y H2) →
      g x (wipe σ vss) H1 fun σ2 H3 => wipe σ2 vss = wipe σ vss ∧ tt σ2 H3 fun b H4 => if b = true then te σ2 H4 (LcY K G0 H0 D G L Z) else LcP K G0 H0 D G L Z H4)
    (hd : ∀ p G1 H1, Same G G1 → Sta K G0 H0 D G1 M H1 → Rp K G1 (.ref p) (.lst (as.map F)) → Q (.ref p) H1) : LcG (Itl K a) g tt te vss σ Q H := by
  refine lcL hS hq hr (fun i M1 es => M1 = M ∧ es = (as.take i).map F) ⟨rfl, rfl⟩ (fun i x d L G1 M1 vs es H1 hi hd' hx e l0 s r w => ?_) (fun p G1 M1 es H1 e s r w => ?_)
  · obtain ⟨rfl, rfl⟩ := w
    rw [List.length_map] at hi
    rw [List.getElem?_map, List.getElem?_eq_getElem hi] at hd'
    cases hd'
    refine hs x as[i] L G1 vs _ H1 _ (List.getElem_mem hi) hx e l0 s r fun y G2 H2 e2 s2 hy => ?_
    refine lcY s2 (e.trans e2) (r.up e2) hy (by simp; omega) ⟨rfl, ?_⟩
    rw [List.take_add_one, List.getElem?_eq_getElem hi, List.map_append]
    rfl
  · obtain ⟨rfl, rfl⟩ := w
    rw [List.length_map, List.take_length] at r
    exact hd p G1 H1 e s r
theorem lcMapT {α : Type} {a : Addr} {xs : List V} {g : TG} {as : List α} {Da : α → Dt} {F : α → Dt} (hS : Sta K G0 H0 D G M H) (hq : SqT K G a xs) (hr : RpAll K G xs (as.map Da)) (hl : as.length ≤ 100000)
    (hs : ∀ x c L G1 vs es H1 (Z : List (Addr × HO) → List Dt → Prop), c ∈ as → Rp K G1 x (Da c) → Same G G1 → H0 L = none → Sta K G0 H0 D G1 ((L, .lst vs) :: M) H1 → RpAll K G1 vs es → (∀ y G2 H2, Same G1 G2 → Sta K G0 H0 D G2 ((L, .lst vs) :: M) H2 → Rp K G2 y (F c) → LcY K G0 H0 D G L Z y H2) →
      g x (wipe σ vss) H1 fun σ2 H3 => wipe σ2 vss = wipe σ vss ∧ tt σ2 H3 fun b H4 => if b = true then te σ2 H4 (LcY K G0 H0 D G L Z) else LcP K G0 H0 D G L Z H4)
    (hd : ∀ p G1 H1, Same G G1 → Sta K G0 H0 D G1 M H1 → Rp K G1 (.ref p) (.lst (as.map F)) → Q (.ref p) H1) : LcG (Itt K a) g tt te vss σ Q H := by
  refine lcT hS hq hr (fun i M1 es => M1 = M ∧ es = (as.take i).map F) ⟨rfl, rfl⟩ (fun i x d L G1 M1 vs es H1 hi hd' hx e l0 s r w => ?_) (fun p G1 M1 es H1 e s r w => ?_)
  · obtain ⟨rfl, rfl⟩ := w
    rw [List.length_map] at hi
    rw [List.getElem?_map, List.getElem?_eq_getElem hi] at hd'
    cases hd'
    refine hs x as[i] L G1 vs _ H1 _ (List.getElem_mem hi) hx e l0 s r fun y G2 H2 e2 s2 hy => ?_
    refine lcY s2 (e.trans e2) (r.up e2) hy (by simp; omega) ⟨rfl, ?_⟩
    rw [List.take_add_one, List.getElem?_eq_getElem hi, List.map_append]
    rfl
  · obtain ⟨rfl, rfl⟩ := w
    rw [List.length_map, List.take_length] at r
    exact hd p G1 H1 e s r
/-- .. over a range -/
theorem lcMapR {lo : Int} {n : Nat} {g : TG} {F : Nat → Dt} (hS : Sta K G0 H0 D G M H) (hl : n ≤ 100000)
    (hs : ∀ (i : Nat) L G1 vs es H1 (Z : List (Addr × HO) → List Dt → Prop), i < n → Same G G1 → H0 L = none → Sta K G0 H0 D G1 ((L, .lst vs) :: M) H1 → RpAll K G1 vs es → (∀ y G2 H2, Same G1 G2 → Sta K G0 H0 D G2 ((L, .lst vs) :: M) H2 → Rp K G2 y (F i) → LcY K G0 H0 D G L Z y H2) →
      g (.int (lo + i)) (wipe σ vss) H1 fun σ2 H3 => wipe σ2 vss = wipe σ vss ∧ tt σ2 H3 fun b H4 => if b = true then te σ2 H4 (LcY K G0 H0 D G L Z) else LcP K G0 H0 D G L Z H4)
    (hd : ∀ p G1 H1, Same G G1 → Sta K G0 H0 D G1 M H1 → Rp K G1 (.ref p) (.lst ((List.range n).map F)) → Q (.ref p) H1) : LcG (Itr lo n) g tt te vss σ Q H := by
  refine lcR hS (fun i M1 es => M1 = M ∧ es = (List.range i).map F) ⟨rfl, rfl⟩ (fun i L G1 M1 vs es H1 hi e l0 s r w => ?_) (fun p G1 M1 es H1 e s r w => ?_)
  · obtain ⟨rfl, rfl⟩ := w
    refine hs i L G1 vs _ H1 _ hi e l0 s r fun y G2 H2 e2 s2 hy => ?_
    refine lcY s2 (e.trans e2) (r.up e2) hy (by simp; omega) ⟨rfl, ?_⟩
    rw [List.range_succ, List.map_append]
    rfl
  · obtain ⟨rfl, rfl⟩ := w
    exact hd p G1 H1 e s r
end
/-! ### instances: made, their fields set -/
def MKS (C : Addr) (sp : Sp) (E : XK) (Q : VK) (vs : List V) (H : Hp) : Prop := ∀ x dx, H x = none → H dx = none → dx ≠ x → sp (.ref x :: vs) (upd (upd H dx (.own x)) x (.ins C dx [])) (fun v H2 => v = .non ∧ Q (.ref x) H2) E
def SFK (K : PySem.W.Frag) (f : Str) (y : V) (k : Hp → Prop) (x : V) (H : Hp) : Prop := ∃ a C dx fs, x = .ref a ∧ H a = some (.ins C dx fs) ∧ Cls K C ∧ NoAttr K C f ∧ fs.length < 1000 ∧ k (upd H a (.ins C dx (putF f y fs)))
section
variable {K : PySem.W.Frag} {G0 H0 G H : Hp} {D : List Addr} {M M' : List (Addr × HO)} {σ : L2.St} {Q : VK} {ta tb te : TE} {t : TA} {nx bk ct : L2.St → Hp → Prop} {rt : VK} {C : Addr} {sp : Sp} {E : L2.St → XK} {vs : List V}
theorem go_makeS (h : t σ H fun vs H1 => MKS C sp (E σ) Q vs H1) : tMakeS C sp E t σ H Q := h
theorem go_mks {E : XK} (hS : Sta K G0 H0 D G M H) (h : ∀ x dx G1 H1, Same G G1 → H0 x = none → Sta K G0 H0 D G1 ((x, .ins C dx []) :: M) H1 → sp (.ref x :: vs) H1 (fun v H2 => v = .non ∧ Q (.ref x) H2) E) : MKS C sp E Q vs H := by
  intro x dx hx hdx hne
  have s1 := hS.imm hdx (.own x)
  have hx1 : upd H dx (.own x) x = none := by rw [upd_ne (Ne.symm hne)]; exact hx
  exact h x dx _ _ (same_upd (hS.gn hdx)) (hS.h0 hx) (s1.mut hx1 _)
theorem go_callS {k : L2.St → XK} (h : t σ H fun vs H1 => sp vs H1 Q (k σ)) : tCallS sp k t σ H Q := h
end
/-! ### more steps of instances -/
def PRK (C : Addr) (sp : Sp) (dvs : List V) (E : XK) (Q : VK) (x : V) (H : Hp) : Prop := ∃ a dx fs, x = .ref a ∧ H a = some (.ins C dx fs) ∧ sp (.ref a :: dvs) H Q E
def MTK (C : Addr) (m : Str) (k : Hp → Prop) (x : V) (H : Hp) : Prop := ∃ a dx fs, x = .ref a ∧ H a = some (.ins C dx fs) ∧ fs.lookup m = none ∧ k H
def OPK (C : Addr) (sp : Sp) (E : XK) (Q : VK) (x y : V) (H : Hp) : Prop := ∃ a b dx dy fs gs, x = .ref a ∧ y = .ref b ∧ H a = some (.ins C dx fs) ∧ H b = some (.ins C dy gs) ∧ sp [x, y] H Q E
def STK (C : Addr) (k : Hp → Prop) (x : V) (H : Hp) : Prop := x = .ref C ∧ k H
theorem look_none {K : PySem.W.Frag} {G : Hp} {f : Str} : ∀ {fs : List (Str × V)} {ds : List (Str × Dt)}, RpF K G fs ds → ds.lookup f = none → fs.lookup f = none
  | _, [], h, _ => by cases h; rfl
  | _, (g, d) :: ds, h, e => by
    cases h with
    | cons h1 h2 =>
      rw [List.lookup_cons] at e ⊢
      cases hb : f == g with
      | true => rw [hb] at e; cases e
      | false =>
        rw [hb] at e
        exact look_none h2 e
section
variable {K : PySem.W.Frag} {G0 H0 G H : Hp} {D : List Addr} {M M' : List (Addr × HO)} {σ : L2.St} {Q : VK} {ta tb te tv : TE} {t : TA} {nx bk ct : L2.St → Hp → Prop} {rt : VK} {C a dx : Addr} {sp : Sp} {vs dvs : List V} {E : XK} {k : L2.St → XK} {f m : Str} {x y : V} {fs : List (Str × V)} {fds gds : List (Str × Dt)} {i : Nat} {kk : Hp → Prop}
theorem go_sFld (h : tv σ H fun y H1 => ta σ H1 fun x H2 => SFK K f y (fun H3 => nx σ H3) x H2) : sFld K ta tv f ⟨nx, rt, bk, ct⟩ σ H := h
theorem go_sfk (hS : Sta K G0 H0 D G M H) (hi : M[i]? = some (a, .ins C dx fs)) (cl : Cls K C) (na : NoAttr K C f) (hl : fs.length < 1000) (hM : M.set i (a, .ins C dx (putF f y fs)) = M') (h : ∀ H1, Sta K G0 H0 D G M' H1 → kk H1) : SFK K f y kk (.ref a) H := by
  subst hM
  exact ⟨a, C, dx, fs, rfl, hS.get hi, cl, na, hl, h _ (hS.set hi _)⟩
theorem go_prop (h : ta σ H fun x H1 => PRK C sp dvs E Q x H1) : tProp C sp dvs E ta σ H Q := h
theorem go_prk (hx : Rp K G x (.ins C fds)) (e : Same G H) (h : ∀ a, x = .ref a → sp (.ref a :: dvs) H Q E) : PRK C sp dvs E Q x H := by
  obtain ⟨a, dx, fs, rfl, hs, _⟩ := Rp.ins_inv hx
  exact ⟨a, dx, fs, rfl, e _ _ hs, h a rfl⟩
theorem go_metS (h : ta σ H fun x H1 => MTK C m (fun H2 => t σ H2 fun vs H3 => sp (x :: vs) H3 Q (k σ)) x H1) : tMetS C m sp k ta t σ H Q := h
theorem go_mtk (hx : Rp K G x (.ins C fds)) (e : Same G H) (hm : fds.lookup m = none) (h : kk H) : MTK C m kk x H := by
  obtain ⟨a, dx, fs, rfl, hs, hf⟩ := Rp.ins_inv hx
  exact ⟨a, dx, fs, rfl, e _ _ hs, look_none hf hm, h⟩
theorem go_opS (h : ta σ H fun x H1 => tb σ H1 fun y H2 => OPK C sp (k σ) Q x y H2) : tOpS C sp k ta tb σ H Q := h
theorem go_opk (hx : Rp K G x (.ins C fds)) (hy : Rp K G y (.ins C gds)) (e : Same G H) (h : sp [x, y] H Q E) : OPK C sp E Q x y H := by
  obtain ⟨a, dx, fs, rfl, hs, _⟩ := Rp.ins_inv hx
  obtain ⟨b, dy, gs, rfl, hs', _⟩ := Rp.ins_inv hy
  exact ⟨a, b, dx, dy, fs, gs, rfl, rfl, e _ _ hs, e _ _ hs', h⟩
theorem go_stat (h : ta σ H fun x H1 => STK C (fun H2 => t σ H2 fun vs H3 => sp vs H3 Q (k σ)) x H1) : tStat C sp k ta t σ H Q := h
theorem go_stk (h : kk H) : STK C kk (.ref C) H := ⟨rfl, h⟩
end
theorem putF2 {f g : Str} {v u : V} : (putF f v (putF g u [])).length < 1000 := by
  have h1 := length_putF f v (putF g u [])
  have h2 := length_putF g u []
  simp at h2
  omega
/-! ### a call that fails: what it made is forgotten -/
theorem Sta.callX {K : PySem.W.Frag} {G0 H0 G H G1 H1 : Hp} {D : List Addr} {M : List (Addr × HO)} {x : Addr} (h : Sta K G0 H0 D G M H) (a : Adv [x] G H G1 H1) (hx : H0 x = none) (hm : ∀ q ∈ M, q.1 ≠ x) : Sta K G0 H0 D G1 M H1 where
  g0 := h.g0.trans a.gg
  gh := a.gh
  fr := fun b hb => by rw [a.fr b (h.up b hb)]; exact h.fr b hb
  kp := fun b u hb hd => a.kp b u (h.kp b u hb hd) (fun z => by
    have : b = x := by simpa using z
    subst this
    rw [hx] at hb
    cases hb)
  up := fun b hb => a.up b (h.up b hb)
  md := h.md
  mh := fun q hq => by
    obtain ⟨e1, e2, e3⟩ := h.mh q hq
    exact ⟨a.kp _ _ e1 (by simpa using hm q hq), by rw [a.fr _ (by rw [e1]; exact fun z => nomatch z)]; exact e2, e3⟩
theorem Sta.apart {K : PySem.W.Frag} {G0 H0 G H : Hp} {D : List Addr} {M : List (Addr × HO)} {p : Addr} {o : HO} (h : Sta K G0 H0 D G ((p, o) :: M) H) : ∀ q ∈ M, q.1 ≠ p := fun q hq e => by
  have := h.md
  simp only [List.map_cons, List.nodup_cons] at this
  exact this.1 (List.mem_map.mpr ⟨q, hq, e⟩)
/-! ### zip of two tuples -/
theorem walk_zT {K : PySem.W.Frag} {a b : Addr} {xs ys : List V} : Walk (ItzT K a b) (min xs.length ys.length) (fun H => SqT K H a xs ∧ SqT K H b ys) (fun i H v H' => ∃ T x y, v = .ref T ∧ H T = none ∧ H' = upd H T (.tup [x, y]) ∧ xs[i]? = some x ∧ ys[i]? = some y) := by
  refine ⟨fun i H hi q => ?_, fun H q => ⟨xs, ys, q.1, q.2, by omega⟩, fun i H v H' hi q y => ?_⟩
  · have h1 : i < xs.length := by omega
    have h2 : i < ys.length := by omega
    exact ⟨xs, ys, _, _, q.1, q.2, List.getElem?_eq_getElem h1, List.getElem?_eq_getElem h2⟩
  · obtain ⟨T, x, y, rfl, hT, eH, hx, hy⟩ := y
    exact ⟨T, x, y, rfl, hT, eH, hx xs q.1, hy ys q.2⟩
section
variable {K : PySem.W.Frag} {G0 H0 G H : Hp} {D : List Addr} {M : List (Addr × HO)} {σ σ' : L2.St} {Q : VK} {tt : TT} {ta te : TE} {t : TA} {ds fs : List Dt} {vss : List Nat} {x y : V} {d : Dt}
def ZTK (K : PySem.W.Frag) (k : It → Hp → Prop) (vs : List V) (H : Hp) : Prop := ∃ a b xs ys, vs = [.ref a, .ref b] ∧ ((SqL K H a xs ∧ SqL K H b ys ∧ k (Itz K a b) H) ∨ (SqT K H a xs ∧ SqT K H b ys ∧ k (ItzT K a b) H))
theorem go_iZipA {k : It → Hp → Prop} (h : t σ H fun vs H1 => ZTK K k vs H1) : iZipA K t σ H k := h
theorem go_ztk {k : It → Hp → Prop} (hx : Rp K G x (.tup ds)) (hy : Rp K G y (.tup fs)) (e : Same G H) (h : ∀ a b xs ys, x = .ref a → y = .ref b → SqT K G a xs → RpAll K G xs ds → SqT K G b ys → RpAll K G ys fs → k (ItzT K a b) H) : ZTK K k [x, y] H := by
  obtain ⟨a, xs, rfl, hs, ha⟩ := Rp.tup_inv hx
  obtain ⟨b, ys, rfl, hs', ha'⟩ := Rp.tup_inv hy
  exact ⟨a, b, xs, ys, rfl, .inr ⟨Same.t e hs, Same.t e hs', h a b xs ys rfl rfl hs ha hs' ha'⟩⟩
/-- a comprehension over zip of two tuples of one length, each pair by itself -/
theorem lcMapZ {α β : Type} {a b : Addr} {xs ys : List V} {as : List α} {bs : List β} {Da : α → Dt} {Db : β → Dt} {F : α → β → Dt} {i1 j1 : Nat} (hS : Sta K G0 H0 D G M H) (hq : SqT K G a xs) (hr : RpAll K G xs (as.map Da)) (hq' : SqT K G b ys) (hr' : RpAll K G ys (bs.map Db)) (hab : as.length = bs.length) (hl : as.length ≤ 100000)
    (hs : ∀ x y c e L G1 vs es H1 (Z : List (Addr × HO) → List Dt → Prop), c ∈ as → e ∈ bs → Rp K G1 x (Da c) → Rp K G1 y (Db e) → Same G G1 → H0 L = none → Sta K G0 H0 D G1 ((L, .lst vs) :: M) H1 → RpAll K G1 vs es → (∀ y G2 H2, Same G1 G2 → Sta K G0 H0 D G2 ((L, .lst vs) :: M) H2 → Rp K G2 y (F c e) → LcY K G0 H0 D G L Z y H2) →
      ∀ σ2, List.set (List.set (wipe σ vss) i1 (some x)) j1 (some y) = σ2 → wipe σ2 vss = wipe σ vss ∧ tt σ2 H1 fun b H4 => if b = true then te σ2 H4 (LcY K G0 H0 D G L Z) else LcP K G0 H0 D G L Z H4)
    (hd : ∀ p G1 H1, Same G G1 → Sta K G0 H0 D G1 M H1 → Rp K G1 (.ref p) (.lst (List.zipWith F as bs)) → Q (.ref p) H1) : LcG (ItzT K a b) (gTup K 2 (gCons (gName i1) (gCons (gName j1) gNil))) tt te vss σ Q H := by
  have hxl := hr.length
  have hyl := hr'.length
  rw [List.length_map] at hxl hyl
  refine lcI (walk_zT (xs := xs) (ys := ys)) hS (fun H1 e => ⟨Same.t e hq, Same.t e hq'⟩) (fun i M1 es => M1 = M ∧ es = (List.zipWith F as bs).take i) ⟨rfl, rfl⟩ (fun i v L G1 M1 vs es H1 H2 hi e l0 s r w yy => ?_) (fun p G1 M1 es H1 e s r w => ?_)
  · obtain ⟨rfl, rfl⟩ := w
    obtain ⟨T, u, z, rfl, hT, eH, h1, h2⟩ := yy
    have ha : i < as.length := by omega
    have hb : i < bs.length := by omega
    obtain ⟨d, hd', rd⟩ := hr.getV h1
    obtain ⟨f, hf', rf⟩ := hr'.getV h2
    rw [List.getElem?_map, List.getElem?_eq_getElem ha] at hd'
    rw [List.getElem?_map, List.getElem?_eq_getElem hb] at hf'
    cases hd'
    cases hf'
    obtain ⟨G2, e2, s2, q2⟩ := s.pair hT eH
    refine go_gpair q2 rfl (hs u z as[i] bs[i] L G2 vs _ H2 _ (List.getElem_mem ha) (List.getElem_mem hb) (rd.up (e.trans e2)) (rf.up (e.trans e2)) (e.trans e2) l0 s2 (r.up e2) (fun y G3 H3 e3 s3 hy => ?_) _ rfl)
    refine lcY s3 (e.trans (e2.trans e3)) ((r.up e2).up e3) hy (by simp; omega) ⟨rfl, ?_⟩
    have hz : i < (List.zipWith F as bs).length := by rw [List.length_zipWith]; omega
    rw [List.take_add_one, List.getElem?_eq_getElem hz]
    simp
  · obtain ⟨rfl, rfl⟩ := w
    rw [hxl, hyl, hab, Nat.min_self, List.take_of_length_le (by rw [List.length_zipWith]; omega)] at r
    exact hd p G1 H1 e s r
end
/-! ### != of tuples of ints -/
theorem okE_tints (as : List Int) (h : as.length ≤ 100000) : okE 2 (.tup (as.map .int)) = true := by
  simp [okE, h]
section
variable {K : PySem.W.Frag} {G H : Hp} {x y : V} {Q : VK}
theorem go_neTI {as bs : List Int} (hx : Rp K G x (.tup (as.map .int))) (hy : Rp K G y (.tup (bs.map .int))) (e : Same G H) (ha : as.length ≤ 100000) (hb : bs.length ≤ 100000) (k : Q (.bl (!decide (as = bs))) H) : rNeD K x y H Q := by
  refine ⟨_, _, Rp.dp (okE_okD (okE_tints as ha)) (hx.up e), Rp.dp (okE_okD (okE_tints bs hb)) (hy.up e), shaped_toPy (okE_tints as ha) (by decide), shaped_toPy (okE_tints bs hb) (by decide), ?_⟩
  have : PyData.eqv (toPy (.tup (as.map .int))) (toPy (.tup (bs.map .int))) = decide (as = bs) := eqv_ints as bs
  rw [this]
  exact k
end
/-! ### t * n, any n from 0 -/
section
open PySem.AutoSeq1 (wpAny_loadPart')
theorem mul_one (l : Addr) (its : Array Value) (n : Nat) (dd : Option Addr) (sl : Array (Option Value)) (u : Tok) :
    Meets (Builtin.«tuple.__mul__» ⟨[.ref l, .int 1 u], []⟩) (fun _ R s => s.heap.get? l = some { cls := .type "tuple", dict := dd, data := .seq its n, slots := sl } ∧ R (.ok (.ret (.ref l))) s) := .of_wp fun prog w A R s h => by
  obtain ⟨hh, gg, d, tk, os⟩ := s
  obtain ⟨hl, q⟩ := h
  have ix := AutoSeq1.idx_int
  wp_walk using wpAny_loadPart' hl
  repeat (first
    | (refine wpAny_ite_false (by decide) ?_; wp_walk using wpAny_loadPart' hl)
    | (refine wpAny_ite_true (by simp) ?_; wp_walk using wpAny_loadPart' hl))
  exact ⟨_, rfl, q⟩
theorem mul_zero (l : Addr) (its : Array Value) (n : Nat) (dd : Option Addr) (sl : Array (Option Value)) (u : Tok) (he : its.isEmpty = false) :
    Meets (Builtin.«tuple.__mul__» ⟨[.ref l, .int 0 u], []⟩) (fun _ R s => s.heap.get? l = some { cls := .type "tuple", dict := dd, data := .seq its n, slots := sl } ∧ R (.ok (.ret (Value.ref s.heap.objs.size))) { s with heap := s.heap.push { cls := .type "tuple", data := .seq #[] } }) := .of_wp fun prog w A R s h => by
  obtain ⟨hh, gg, d, tk, os⟩ := s
  obtain ⟨hl, q⟩ := h
  have ix := AutoSeq1.idx_int
  wp_walk using wpAny_loadPart' hl
  exact ⟨_, rfl, q⟩
end
def rRepA (K : PySem.W.Frag) : R2 := fun x y H Q => ∃ (l : Addr) (k : Nat) (xs : List V), x = .ref l ∧ y = .int (k : Int) ∧ SqT K H l xs ∧ xs ≠ [] ∧ k ≤ 1000 ∧ xs.length ≤ 1000 ∧ (k = 1 → Q (.ref l) H) ∧ (k ≠ 1 → ∀ p, H p = none → Q (.ref p) (upd H p (.tup (List.replicate k xs).flatten)))
theorem op_repA {X : Cx} : OpR X (binaryOp .Mult) (rRepA X.K) := by
  intro pins s σ H x y v u Q I rx ry h
  obtain ⟨l, k, xs, rfl, rfl, hT, hne, h1, hz, q1, q2⟩ := h
  by_cases hk : 2 ≤ k
  · refine op_repT pins s σ H _ _ v u Q I rx ry ⟨l, k, xs, rfl, rfl, hT, hne, by omega, by omega, hz, fun p hp => ?_⟩
    rw [Int.toNat_natCast]
    exact q2 (by omega) p hp
  cases rx
  obtain ⟨t, rfl⟩ := ry
  obtain ⟨its, r, ⟨⟨cls, dd, data, sl⟩, ho, hc, n, hd⟩, hs⟩ := I.tuple hT
  simp only at hc hd
  subst hc hd
  have hlen := r.length
  have hn : its ≠ [] := fun e => hne (List.eq_nil_of_length_eq_zero (by rw [hlen, e]; rfl))
  have hi : its.toArray.isEmpty = false := by
    cases its with
    | nil => exact absurd rfl hn
    | cons a b => rfl
  have go : ∀ {W : Value → Shared → Prop}, wpAny (model X.prog X.w) X.A (call (.builtin "tuple.__mul__") [.ref l, .int (k : Int) t]) W X.xe s → wpAny (model X.prog X.w) X.A (binaryOp .Mult (.ref l) (.int (k : Int) t)) W X.xe s := fun {W} hw =>
    wpAny_binaryOp_repeat_ref (T := "tuple") (U := "int") (by decide) ⟨_, ho, rfl⟩ (fun s' => typeIs_int s' (k : Int) t) noFill_tuple_mul F.fills_int_mul F.slot_int_rmul repeat_tuple F.slot_int_index.lookup
      (call_meets F.slot_int_rmul (typeIs_int s (k : Int) t) F.entry_int_rmul (F.args_int_rmul_2 _ _) (int_rmul_tuple (k : Int) t l its.toArray n dd sl) ⟨ho, rfl, ⟨_, ho, rfl⟩, hw⟩)
  have e01 : k = 0 ∨ k = 1 := by omega
  rcases e01 with rfl | rfl
  · refine go (call_meets F.slot_tuple_mul ⟨_, ho, rfl⟩ F.entry_tuple_mul (F.args_tuple_mul_2 _ _) (mul_zero l its.toArray n dd sl t hi) ⟨ho, ?_⟩)
    exact ⟨.ref s.heap.objs.size, _, I.laid (t' := s.toks) (o := .tup []) (fun b ob q => Heap.get?_push_of_some _ q) (Nat.le_refl _) ⟨Nat.zero_le _, [], .nil, IsTup.new _ _⟩, rfl, q2 (by decide) _ (I.hok.fresh (Nat.le_refl _))⟩
  · refine go (call_meets F.slot_tuple_mul ⟨_, ho, rfl⟩ F.entry_tuple_mul (F.args_tuple_mul_2 _ _) (mul_one l its.toArray n dd sl t) ⟨ho, ?_⟩)
    exact ⟨.ref l, H, I, rfl, q1 rfl⟩
theorem go_repA {K : PySem.W.Frag} {G0 H0 G H : Hp} {D : List Addr} {M : List (Addr × HO)} {Q : VK} {x : V} {as : List Int} {k : Int} (hS : Sta K G0 H0 D G M H) (hx : Rp K G x (.tup (as.map .int))) (hk : 0 ≤ k) (hk2 : k ≤ 1000) (hn : as ≠ []) (hl : as.length ≤ 1000)
    (q : ∀ p G1 H1, Same G G1 → Sta K G0 H0 D G1 M H1 → Rp K G1 p (.tup ((List.replicate k.toNat as).flatten.map .int)) → Q p H1) : rRepA K x (.int k) H Q := by
  obtain ⟨a, xs, rfl, hs, ha⟩ := Rp.tup_inv hx
  have ei := ha.ints_inv
  subst ei
  refine ⟨a, k.toNat, _, rfl, by rw [Int.toNat_of_nonneg hk], Same.t hS.gh hs, by simpa using hn, by omega, by simpa using hl, fun e1 => ?_, fun e1 p hp => ?_⟩
  · refine q _ G H (Same.refl G) hS ?_
    rw [e1]
    simpa using hx
  · have ef : (List.replicate k.toNat (as.map V.int)).flatten = ((List.replicate k.toNat as).flatten).map V.int := by
      rw [List.map_flatten, List.map_replicate]
    rw [ef]
    exact q _ _ _ (same_upd (hS.gn hp)) (hS.imm hp _) (.tup (.inl (.inl upd_same)) .ints)
theorem go_catA {K : PySem.W.Frag} {G0 H0 G H : Hp} {D : List Addr} {M : List (Addr × HO)} {Q : VK} {x y : V} {ds es : List Dt} (hS : Sta K G0 H0 D G M H) (hx : Rp K G x (.tup ds)) (hy : Rp K G y (.tup es)) (hl : ds.length + es.length ≤ 100000)
    (q : ∀ p G1 H1, Same G G1 → Sta K G0 H0 D G1 M H1 → Rp K G1 p (.tup (ds ++ es)) → Q p H1) : rCatA K x y H Q := by
  have hx0 := hx
  have hy0 := hy
  obtain ⟨a, xs, rfl, hs, ha⟩ := Rp.tup_inv hx
  obtain ⟨b, ys, rfl, hs', ha'⟩ := Rp.tup_inv hy
  refine ⟨a, b, xs, ys, rfl, rfl, Same.t hS.gh hs, Same.t hS.gh hs', sz (by rw [ha.length, ha'.length]; exact hl), fun e => ?_, fun _ e => ?_, fun _ _ p hp => ?_⟩
  · subst e
    cases ds with
    | nil => exact q _ G H (Same.refl G) hS hy0
    | cons d ds => cases ha
  · subst e
    cases es with
    | nil => exact q _ G H (Same.refl G) hS (by rw [List.append_nil]; exact hx0)
    | cons d ds => cases ha'
  · exact q _ _ _ (same_upd (hS.gn hp)) (hS.imm hp _) (.tup (.inl (.inl upd_same)) ((ha.app ha').up (same_upd (hS.gn hp))))
/-! ### lists that are known as they are -/
def RpL (K : PySem.W.Frag) (G : Hp) (p : Addr) (ds : List Dt) : Prop := ∃ vs, G p = some (.lst vs) ∧ RpAll K G vs ds
theorem RpL.rp {K : PySem.W.Frag} {G : Hp} {p : Addr} {ds : List Dt} (h : RpL K G p ds) : Rp K G (.ref p) (.lst ds) := by
  obtain ⟨vs, h1, h2⟩ := h
  exact .lst (.inl (.inl h1)) h2
theorem RpL.up {K : PySem.W.Frag} {G G' : Hp} {p : Addr} {ds : List Dt} (e : Same G G') (h : RpL K G p ds) : RpL K G' p ds := by
  obtain ⟨vs, h1, h2⟩ := h
  exact ⟨vs, e _ _ h1, h2.up e⟩
section
variable {K : PySem.W.Frag} {G0 H0 G H : Hp} {D : List Addr} {M : List (Addr × HO)} {σ : L2.St} {Q : VK} {tt : TT} {te : TE} {vss : List Nat} {x : V} {ds es : List Dt}
theorem lcMapTR {α : Type} {a : Addr} {xs : List V} {g : TG} {as : List α} {Da : α → Dt} {F : α → Dt} (hS : Sta K G0 H0 D G M H) (hq : SqT K G a xs) (hr : RpAll K G xs (as.map Da)) (hl : as.length ≤ 100000)
    (hs : ∀ x c L G1 vs es H1 (Z : List (Addr × HO) → List Dt → Prop), c ∈ as → Rp K G1 x (Da c) → Same G G1 → H0 L = none → Sta K G0 H0 D G1 ((L, .lst vs) :: M) H1 → RpAll K G1 vs es → (∀ y G2 H2, Same G1 G2 → Sta K G0 H0 D G2 ((L, .lst vs) :: M) H2 → Rp K G2 y (F c) → LcY K G0 H0 D G L Z y H2) →
      g x (wipe σ vss) H1 fun σ2 H3 => wipe σ2 vss = wipe σ vss ∧ tt σ2 H3 fun b H4 => if b = true then te σ2 H4 (LcY K G0 H0 D G L Z) else LcP K G0 H0 D G L Z H4)
    (hd : ∀ p G1 H1, Same G G1 → Sta K G0 H0 D G1 M H1 → RpL K G1 p (as.map F) → Q (.ref p) H1) : LcG (Itt K a) g tt te vss σ Q H := by
  refine lcIM (walk_tup (xs := xs)) hS (fun H1 e => Same.t e hq) (fun i M1 es => M1 = M ∧ es = (as.take i).map F) ⟨rfl, rfl⟩ (fun i x L G1 M1 vs es H1 H2 hi e l0 s r w yy => ?_) (fun L G1 M1 vs es H1 e l0 s r w => ?_)
  · obtain ⟨rfl, rfl⟩ := w
    obtain ⟨rfl, hx⟩ := yy
    have hi2 : i < as.length := by
      have := hr.length
      rw [List.length_map] at this
      omega
    obtain ⟨d, hd', rd⟩ := hr.getV hx
    rw [List.getElem?_map, List.getElem?_eq_getElem hi2] at hd'
    cases hd'
    refine hs x as[i] L G1 vs _ H2 _ (List.getElem_mem hi2) (rd.up e) e l0 s r fun y G2 H3 e2 s2 hy => ?_
    refine lcY s2 (e.trans e2) (r.up e2) hy (by simp; omega) ⟨rfl, ?_⟩
    rw [List.take_add_one, List.getElem?_eq_getElem hi2, List.map_append]
    rfl
  · obtain ⟨rfl, rfl⟩ := w
    have hl2 := hr.length
    rw [List.length_map] at hl2
    rw [List.take_of_length_le (by omega)] at r
    obtain ⟨s2, e2⟩ := s.frz l0
    exact hd L _ H1 (e.trans e2) s2 ⟨vs, upd_same, r.up e2⟩
theorem go_catL {l b : Addr} (hS : Sta K G0 H0 D G M H) (hx : RpL K G l ds) (hy : RpL K G b es) (hl : ds.length + es.length ≤ 100000) (q : ∀ p G1 H1, Same G G1 → Sta K G0 H0 D G1 M H1 → RpL K G1 p (ds ++ es) → Q (.ref p) H1) : rCat (.ref l) (.ref b) H Q := by
  obtain ⟨xs, h1, h2⟩ := hx
  obtain ⟨ys, h3, h4⟩ := hy
  exact go_cat_ hS h1 h3 (by rw [h2.length, h4.length]; exact hl) fun p G1 H1 e s hp => q p G1 H1 e s ⟨_, hp, (h2.app h4).up e⟩
end
/-! ### rows that are lists known as they are -/
def RawI (G : Hp) (v : V) (r : List Int) : Prop := ∃ q, v = V.ref q ∧ G q = some (.lst (r.map .int))
theorem RawI.up {G G' : Hp} {v : V} {r : List Int} (e : Same G G') (h : RawI G v r) : RawI G' v r := by
  obtain ⟨q, h1, h2⟩ := h
  exact ⟨q, h1, e _ _ h2⟩
theorem RawI.rp {K : PySem.W.Frag} {G : Hp} {v : V} {r : List Int} (h : RawI G v r) : Rp K G v (.lst (r.map .int)) := by
  obtain ⟨q, rfl, h2⟩ := h
  exact .lst (.inl (.inl h2)) .ints
theorem pairedI_up {G G' : Hp} (e : Same G G') {vs : List V} {rs : List (List Int)} (h : Paired (RawI G) vs rs) : Paired (RawI G') vs rs := Paired.mapP h fun _ _ x => x.up e
theorem pairedI_rp {K : PySem.W.Frag} {G : Hp} {vs : List V} {rs : List (List Int)} (h : Paired (RawI G) vs rs) : RpAll K G vs (rs.map fun r => .lst (r.map .int)) := by
  induction h with
  | nil => exact .nil
  | cons h1 _ ih => exact .cons h1.rp ih
theorem pairedI_snoc {G : Hp} {v : V} {r : List Int} (hv : RawI G v r) {vs : List V} {rs : List (List Int)} (h : Paired (RawI G) vs rs) : Paired (RawI G) (vs ++ [v]) (rs ++ [r]) := by
  induction h with
  | nil => exact .cons hv .nil
  | cons h1 _ ih => exact .cons h1 ih
theorem paired_get {α β : Type} {R : α → β → Prop} {vs : List α} {rs : List β} (h : Paired R vs rs) : ∀ {i : Nat} {v : α}, vs[i]? = some v → ∃ r, rs[i]? = some r ∧ R v r := by
  induction h with
  | nil => intro i v e; simp at e
  | cons h1 _ ih =>
    intro i v e
    cases i with
    | zero => simp at e; subst e; exact ⟨_, rfl, h1⟩
    | succ i => exact ih (by simpa using e)
section
variable {K : PySem.W.Frag} {G0 H0 G H : Hp} {D : List Addr} {M : List (Addr × HO)} {σ : L2.St} {Q : VK} {tt : TT} {te : TE} {vss : List Nat} {x : V}
theorem lcMapI {a : Addr} {xs : List V} {g : TG} {as : List (List Int)} {F : List Int → Dt} (hS : Sta K G0 H0 D G M H) (hq : SqL K G a xs) (hr : Paired (RawI G) xs as) (hl : as.length ≤ 100000)
    (hs : ∀ x c L G1 vs es H1 (Z : List (Addr × HO) → List Dt → Prop), c ∈ as → RawI G1 x c → Same G G1 → H0 L = none → Sta K G0 H0 D G1 ((L, .lst vs) :: M) H1 → RpAll K G1 vs es → (∀ y G2 H2, Same G1 G2 → Sta K G0 H0 D G2 ((L, .lst vs) :: M) H2 → Rp K G2 y (F c) → LcY K G0 H0 D G L Z y H2) →
      g x (wipe σ vss) H1 fun σ2 H3 => wipe σ2 vss = wipe σ vss ∧ tt σ2 H3 fun b H4 => if b = true then te σ2 H4 (LcY K G0 H0 D G L Z) else LcP K G0 H0 D G L Z H4)
    (hd : ∀ p G1 H1, Same G G1 → Sta K G0 H0 D G1 M H1 → RpL K G1 p (as.map F) → Q (.ref p) H1) : LcG (Itl K a) g tt te vss σ Q H := by
  have hxl : xs.length = as.length := hr.length
  refine lcIM (walk_list (xs := xs)) hS (fun H1 e => e.seq hq) (fun i M1 es => M1 = M ∧ es = (as.take i).map F) ⟨rfl, rfl⟩ (fun i x L G1 M1 vs es H1 H2 hi e l0 s r w yy => ?_) (fun L G1 M1 vs es H1 e l0 s r w => ?_)
  · obtain ⟨rfl, rfl⟩ := w
    obtain ⟨rfl, hx⟩ := yy
    have hi2 : i < as.length := by omega
    obtain ⟨c, hc, rd⟩ := paired_get hr hx
    rw [List.getElem?_eq_getElem hi2] at hc
    cases hc
    refine hs x as[i] L G1 vs _ H2 _ (List.getElem_mem hi2) (rd.up e) e l0 s r fun y G2 H3 e2 s2 hy => ?_
    refine lcY s2 (e.trans e2) (r.up e2) hy (by simp; omega) ⟨rfl, ?_⟩
    rw [List.take_add_one, List.getElem?_eq_getElem hi2, List.map_append]
    rfl
  · obtain ⟨rfl, rfl⟩ := w
    rw [List.take_of_length_le (by omega)] at r
    obtain ⟨s2, e2⟩ := s.frz l0
    exact hd L _ H1 (e.trans e2) s2 ⟨vs, upd_same, r.up e2⟩
/-- list * n -/
theorem go_repL {l : Addr} {k : Int} {xs : List V} (hS : Sta K G0 H0 D G M H) (hx : G l = some (.lst xs)) (hk : 0 ≤ k) (hk2 : k ≤ 1000) (hl : xs.length * k.toNat ≤ 100000) (q : ∀ p G1 H1, Same G G1 → Sta K G0 H0 D G1 M H1 → G1 p = some (.lst (List.replicate k.toNat xs).flatten) → Q (.ref p) H1) : rRep (.ref l) (.int k) H Q :=
  ⟨l, k, xs, rfl, rfl, hS.gh _ _ hx, by omega, by omega, sz hl, fun p hp => q p _ _ (same_upd (hS.gn hp)) (hS.imm hp _) upd_same⟩
end
theorem rep_ints (n : Nat) : (List.replicate n [V.int 0]).flatten = (List.replicate n (0 : Int)).map V.int := by
  induction n with
  | zero => rfl
  | succ n ih => simp [List.replicate_succ, ih]
theorem rep_one {v : V} (n : Nat) : (List.replicate n [v]).flatten = List.replicate n v := by
  induction n with
  | zero => rfl
  | succ n ih => simp [List.replicate_succ, ih]
theorem paired_rep {G : Hp} {v : V} {r : List Int} (h : RawI G v r) : ∀ n : Nat, Paired (RawI G) (List.replicate n v) (List.replicate n r)
  | 0 => .nil
  | n + 1 => .cons h (paired_rep h n)
/-! ### a == b of two instances of one class by its own method -/
def tEqS (C : Addr) (sp : Sp) (E : L2.St → XK) (ta tb : TE) : TE := fun σ H Q => ta σ H fun x H1 => tb σ H1 fun y H2 => ∃ a b dx dy fs gs, x = .ref a ∧ y = .ref b ∧ H2 a = some (.ins C dx fs) ∧ H2 b = some (.ins C dy gs) ∧ sp [x, y] H2 Q (E σ)
theorem op_eqOwn {X : Cx} {CX : CXT} {k : Nat} {C f : Addr} {fd : FuncData} {ps : List Str} {sp : Sp} {E : XK} (hs : PySem.W.findIn X.K (.ref C) "__eq__" = some (some (.ref f))) (hf : PySem.W.isFn X.K (.ref f) = true) (F : FnOk X.prog X.w X.K X.mg X.base CX k f fd ps sp) (hr : Room k X.A) (hb : Binds X.K fd ps []) (hx : Passes CX X E) :
    OpR X (compareOp .Eq) (fun x y H Q => ∃ a b dx dy fs gs, x = .ref a ∧ y = .ref b ∧ H a = some (.ins C dx fs) ∧ H b = some (.ins C dy gs) ∧ sp [x, y] H Q E) := by
  intro pins s σ H x y v u Q I rx ry h
  obtain ⟨a, b, dx, dy, fs, gs, rfl, rfl, ea, eb, q⟩ := h
  obtain rfl : v = Value.ref a := rx
  obtain rfl : u = Value.ref b := ry
  obtain ⟨mA, O, _, _, _, _⟩ := ins_get I.hok ea
  obtain ⟨od, J, _⟩ := O.look
  obtain ⟨mB, O', _, _, _, _⟩ := ins_get I.hok eb
  obtain ⟨od', J', _⟩ := O'.look
  obtain ⟨m, Fm⟩ := I.fr
  refine PySem.W.cmp_K (op := .Eq) (tb := .ref C) hr.units0 Fm I.mod.kin J J'.type (by simp [PySem.W.notFirst]) hs hf (wpAny_mono (run_fn (us := [.ref a, .ref b]) (vs := [.ref a, .ref b]) (ds := []) (dvs := []) F hr hb .nil hx I (.cons rfl (.cons rfl .nil)) (by simpa using q)) (fun v s' hv => ?_) fun _ _ z => z)
  obtain ⟨v', H3, I3, rv, q3⟩ := hv
  have r0 := rv
  cases v' <;> first | (cases rv; exact ⟨_, H3, I3, r0, q3⟩) | (obtain ⟨t, rfl⟩ := rv; exact ⟨_, H3, I3, r0, q3⟩)
end B
namespace B
/-! ### matrices of residues as lists of rows: plain -/
def sm (n : Nat) (f : Nat → Int) : Int := ((List.range n).map f).sum
theorem sm_zero (f : Nat → Int) : sm 0 f = 0 := rfl
theorem sm_succ (n : Nat) (f : Nat → Int) : sm (n + 1) f = sm n f + f n := by
  simp [sm, List.range_succ]
theorem sm_congr {n : Nat} {f g : Nat → Int} (h : ∀ k, k < n → f k = g k) : sm n f = sm n g := by
  induction n with
  | zero => rfl
  | succ n ih => rw [sm_succ, sm_succ, ih fun k hk => h k (by omega), h n (by omega)]
theorem sm_add (n : Nat) (f g : Nat → Int) : sm n (fun k => f k + g k) = sm n f + sm n g := by
  induction n with
  | zero => rfl
  | succ n ih => rw [sm_succ, sm_succ, sm_succ, ih]; omega
theorem sm_mul (n : Nat) (f : Nat → Int) (c : Int) : sm n (fun k => f k * c) = sm n f * c := by
  induction n with
  | zero => simp [sm]
  | succ n ih => rw [sm_succ, sm_succ, ih, Int.add_mul]
theorem sm_mul_left (n : Nat) (f : Nat → Int) (c : Int) : sm n (fun k => c * f k) = c * sm n f := by
  rw [Int.mul_comm, ← sm_mul]
  exact sm_congr fun k _ => Int.mul_comm _ _
theorem sm_zeros (n : Nat) : sm n (fun _ => 0) = 0 := by
  induction n with
  | zero => rfl
  | succ n ih => rw [sm_succ, ih]; rfl
theorem sm_comm (n m : Nat) (f : Nat → Nat → Int) : sm n (fun k => sm m (f k)) = sm m fun j => sm n fun k => f k j := by
  induction n with
  | zero => exact (sm_zeros m).symm
  | succ n ih =>
    rw [sm_succ, ih, ← sm_add]
    exact sm_congr fun j _ => (sm_succ n _).symm
theorem sm_mod (n : Nat) (f : Nat → Int) (b : Int) : sm n (fun k => f k % b) % b = sm n f % b := by
  induction n with
  | zero => rfl
  | succ n ih => rw [sm_succ, sm_succ, Int.add_emod, ih, Int.emod_emod, ← Int.add_emod]
theorem sm_mod_congr {n : Nat} {f g : Nat → Int} {b : Int} (h : ∀ k, k < n → f k % b = g k % b) : sm n f % b = sm n g % b := by
  rw [← sm_mod n f, ← sm_mod n g, sm_congr h]
theorem sm_one (n i : Nat) (hi : i < n) (f : Nat → Int) : sm n (fun k => (if i = k then 1 else 0) * f k) = f i := by
  induction n with
  | zero => omega
  | succ n ih =>
    rw [sm_succ]
    by_cases e : i = n
    · subst e
      have : sm i (fun k => (if i = k then 1 else 0) * f k) = sm i fun _ => 0 := sm_congr fun k hk => by rw [if_neg (by omega), Int.zero_mul]
      rw [this, sm_zeros, if_pos rfl]
      omega
    · rw [ih (by omega), if_neg e]
      omega
theorem sm_one' (n i : Nat) (hi : i < n) (f : Nat → Int) : sm n (fun k => f k * (if k = i then 1 else 0)) = f i := by
  rw [← sm_one n i hi f]
  refine sm_congr fun k _ => ?_
  by_cases e : k = i
  · rw [if_pos e, if_pos e.symm, Int.mul_comm]
  · rw [if_neg e, if_neg (fun z => e z.symm), Int.mul_comm]
abbrev ent (rs : List (List Int)) (i j : Nat) : Int := (rs.getD i []).getD j 0
def mkM (h w : Nat) (f : Nat → Nat → Int) : List (List Int) := (List.range h).map fun i => (List.range w).map fun j => f i j
theorem mkM_len (h w : Nat) (f : Nat → Nat → Int) : (mkM h w f).length = h := by simp [mkM]
theorem mkM_ent {h w : Nat} {f : Nat → Nat → Int} {i j : Nat} (hi : i < h) (hj : j < w) : ent (mkM h w f) i j = f i j := by
  simp [ent, mkM, hi, hj, List.getD]
theorem mkM_congr {h w : Nat} {f g : Nat → Nat → Int} (e : ∀ i j, i < h → j < w → f i j = g i j) : mkM h w f = mkM h w g := by
  refine List.map_congr_left fun i hi => List.map_congr_left fun j hj => e i j (List.mem_range.mp hi) (List.mem_range.mp hj)
theorem mkM_eta {rs : List (List Int)} {w : Nat} (h : ∀ r ∈ rs, r.length = w) : rs = mkM rs.length w (ent rs) := by
  apply List.ext_getElem
  · rw [mkM_len]
  · intro i hi hi'
    have hl := h rs[i] (List.getElem_mem hi)
    simp only [mkM, List.getElem_map, List.getElem_range]
    apply List.ext_getElem
    · simp [hl]
    · intro j hj hj'
      simp [ent, hi, hj, List.getD]
theorem mkM_row {h w : Nat} {f : Nat → Nat → Int} {r : List Int} (hr : r ∈ mkM h w f) : r.length = w := by
  obtain ⟨i, _, rfl⟩ := List.mem_map.mp hr
  simp
theorem mkM_mem {h w : Nat} {f : Nat → Nat → Int} {r : List Int} (hr : r ∈ mkM h w f) {e : Int} (he : e ∈ r) : ∃ i j, i < h ∧ j < w ∧ e = f i j := by
  obtain ⟨i, hi, rfl⟩ := List.mem_map.mp hr
  obtain ⟨j, hj, rfl⟩ := List.mem_map.mp he
  exact ⟨i, j, List.mem_range.mp hi, List.mem_range.mp hj, rfl⟩
/-- the product; the width of the second one is told -/
def muF (b : Int) (rs qs : List (List Int)) (w : Int) : List (List Int) := mkM rs.length w.toNat fun i j => sm qs.length (fun k => ent rs i k * ent qs k j) % b
def idM (n : Int) : List (List Int) := mkM n.toNat n.toNat fun i j => if i = j then 1 else 0
theorem muF_len (b : Int) (rs qs : List (List Int)) (w : Int) : (muF b rs qs w).length = rs.length := mkM_len _ _ _
theorem muF_assoc {b : Int} {rs qs ts : List (List Int)} {w v : Int} (hq : qs.length ≤ qs.length) (hw : ts.length = w.toNat) : muF b (muF b rs qs w) ts v = muF b rs (muF b qs ts v) v := by
  unfold muF
  rw [mkM_len, mkM_len]
  refine mkM_congr fun i l hi hl => ?_
  have e1 : sm ts.length (fun j => ent (mkM rs.length w.toNat fun i j => sm qs.length (fun k => ent rs i k * ent qs k j) % b) i j * ent ts j l) % b = sm ts.length (fun j => sm qs.length (fun k => ent rs i k * ent qs k j * ent ts j l)) % b := by
    refine sm_mod_congr fun j hj => ?_
    rw [mkM_ent hi (by omega), sm_mul, Int.mul_emod, Int.emod_emod, ← Int.mul_emod]
  have e2 : sm qs.length (fun k => ent rs i k * ent (mkM qs.length v.toNat fun i j => sm ts.length (fun k => ent qs i k * ent ts k j) % b) k l) % b = sm qs.length (fun k => sm ts.length (fun j => ent rs i k * ent qs k j * ent ts j l)) % b := by
    refine sm_mod_congr fun k hk => ?_
    rw [mkM_ent hk hl, Int.mul_emod, Int.emod_emod, ← Int.mul_emod, ← sm_mul_left]
    exact congrArg (· % b) (sm_congr fun j _ => by rw [Int.mul_assoc])
  rw [e1, e2, sm_comm]
theorem muF_id {b : Int} {qs : List (List Int)} {w n : Int} (hn : qs.length = n.toNat) (hb : ∀ i j, i < qs.length → j < w.toNat → 0 ≤ ent qs i j ∧ ent qs i j < b) (hw : ∀ r ∈ qs, r.length = w.toNat) : muF b (idM n) qs w = qs := by
  conv => rhs; rw [mkM_eta hw]
  unfold muF
  rw [idM, mkM_len, ← hn]
  refine mkM_congr fun i j hi hj => ?_
  have : sm qs.length (fun k => ent (mkM qs.length qs.length fun i j => if i = j then 1 else 0) i k * ent qs k j) = sm qs.length (fun k => (if i = k then 1 else 0) * ent qs k j) := sm_congr fun k hk => by rw [mkM_ent hi hk]
  rw [this, sm_one _ _ hi]
  have := hb i j hi hj
  exact Int.emod_eq_of_lt this.1 this.2
theorem idF_id {b : Int} {rs : List (List Int)} {w : Int} (hb : ∀ i j, i < rs.length → j < w.toNat → 0 ≤ ent rs i j ∧ ent rs i j < b) (hw : ∀ r ∈ rs, r.length = w.toNat) : muF b rs (idM w) w = rs := by
  conv => rhs; rw [mkM_eta hw]
  unfold muF
  refine mkM_congr fun i j hi hj => ?_
  rw [idM, mkM_len]
  have : sm w.toNat (fun k => ent rs i k * ent (mkM w.toNat w.toNat fun i j => if i = j then 1 else 0) k j) = sm w.toNat (fun k => ent rs i k * (if k = j then 1 else 0)) := sm_congr fun k hk => by rw [mkM_ent hk hj]
  rw [this, sm_one' _ _ hj]
  have := hb i j hi hj
  exact Int.emod_eq_of_lt this.1 this.2
theorem sum_range_getD (r : List Int) (g : Nat → Int) : ((List.range r.length).map fun k => r.getD k 0 * g k).sum = sm r.length fun k => r.getD k 0 * g k := rfl
theorem zip_sm : ∀ (r s : List Int), r.length = s.length → (List.zipWith (fun a c => a * c) r s).sum = sm r.length fun k => r.getD k 0 * s.getD k 0
  | r, s, h => by
    have e : List.zipWith (fun a c => a * c) r s = (List.range r.length).map fun k => r.getD k 0 * s.getD k 0 := by
      apply List.ext_getElem
      · simp; omega
      · intro i hi hi'
        rw [List.length_zipWith] at hi
        simp [List.getD, show i < r.length by omega, show i < s.length by omega]
    rw [e]
    rfl
end B
namespace B
open PySem PySem.Spec PyProof.Rows L2 RZ
/-! ### more loops and comprehensions -/
section
variable {K : PySem.W.Frag} {G0 H0 G H : Hp} {D : List Addr} {M : List (Addr × HO)} {σ σ' : L2.St} {Q : VK} {tt : TT} {ta te : TE} {ds fs : List Dt} {vss : List Nat} {nx bk ct : L2.St → Hp → Prop} {rt : VK} {t : TS} {x y : V} {d : Dt}
/-- what follows a statement is shown once, from what holds behind it -/
theorem go_join (W : L2.St → Hp → Prop) (h1 : ∀ N : L2.St → Hp → Prop, (∀ σ' H', W σ' H' → N σ' H') → t ⟨N, rt, bk, ct⟩ σ H) (h2 : ∀ σ' H', W σ' H' → nx σ' H') : t ⟨nx, rt, bk, ct⟩ σ H := h1 nx h2
/-- for i, x in enumerate(list) -/
theorem forE {a : Addr} {xs : List V} {i1 j1 : Nat} (hS : Sta K G0 H0 D G M H) (hq : SqL K G a xs) (hr : RpAll K G xs ds) (W : Nat → L2.St → Hp → List (Addr × HO) → Prop) (h0 : W 0 σ G M)
    (hs : ∀ i x d σ' G1 M1 H1, i < ds.length → ds[i]? = some d → Same G G1 → Sta K G0 H0 D G1 M1 H1 → Rp K G1 x d → (∃ G2, Same G2 G1 ∧ W i σ' G2 M1) → ∀ σ2, List.set (List.set σ' i1 (some (.int i))) j1 (some x) = σ2 → t ⟨Nx K G0 H0 D G (W (i + 1)), rt, nx, Nx K G0 H0 D G (W (i + 1))⟩ σ2 H1)
    (hd : ∀ σ' G1 M1 H1, Same G G1 → Sta K G0 H0 D G1 M1 H1 → W ds.length σ' G1 M1 → nx σ' H1) : ForG (Ite K a) (gTup K 2 (gCons (gName i1) (gCons (gName j1) gNil))) t ⟨nx, rt, bk, ct⟩ σ H :=
  forI (walk_enum (xs := xs)) hS (fun H1 e => e.seq hq) W h0 (fun i x σ' G1 M1 H1 H2 hi e s w y => by
    obtain ⟨T, u, v, rfl, hT, eH, h1, h2⟩ := y
    cases h1
    obtain ⟨d, hd', rd⟩ := hr.getV h2
    obtain ⟨G2, e2, s2, q2⟩ := s.pair hT eH
    exact go_gpair q2 rfl (hs i v d σ' G2 M1 H2 (by rw [← hr.length]; exact hi) hd' (e.trans e2) s2 (rd.up (e.trans e2)) ⟨G1, e2, w⟩ _ rfl)) (by rw [hr.length]; exact hd)
/-- a comprehension over a range whose turns draw -/
theorem lcDrawR {lo : Int} {n c : Nat} {g : TG} {a r : Addr} {at_ : Int} {j : Nat} (hS : Sta K G0 H0 D G M H) (hj : M[j]? = some (a, drw r at_)) (hl : n ≤ 100000) (P : Nat → Dt → Prop)
    (hs : ∀ (i : Nat) L G1 at1 vs es H1 (Z : List (Addr × HO) → List Dt → Prop), i < n → Same G G1 → H0 L = none → at_ ≤ at1 → at1 ≤ at_ + (c * i : Nat) → Sta K G0 H0 D G1 ((L, .lst vs) :: M.set j (a, drw r at1)) H1 → RpAll K G1 vs es →
      (∀ y d at2 G2 H2, Same G1 G2 → Sta K G0 H0 D G2 ((L, .lst vs) :: M.set j (a, drw r at2)) H2 → at1 ≤ at2 → at2 ≤ at1 + c → Rp K G2 y d → P i d → LcY K G0 H0 D G L Z y H2) →
      g (.int (lo + i)) (wipe σ vss) H1 fun σ2 H3 => wipe σ2 vss = wipe σ vss ∧ tt σ2 H3 fun b H4 => if b = true then te σ2 H4 (LcY K G0 H0 D G L Z) else LcP K G0 H0 D G L Z H4)
    (hd : ∀ L at1 vs es G1 H1, Same G G1 → H0 L = none → at_ ≤ at1 → at1 ≤ at_ + (c * n : Nat) → Sta K G0 H0 D G1 ((L, .lst vs) :: M.set j (a, drw r at1)) H1 → RpAll K G1 vs es → es.length = n → (∀ i d, es[i]? = some d → P i d) → Q (.ref L) H1) : LcG (Itr lo n) g tt te vss σ Q H := by
  have m0 : M = M.set j (a, drw r at_) := by
    apply List.ext_getElem?
    intro i
    rw [List.getElem?_set]
    split
    · rename_i e
      subst e
      rw [hj]
      have := (List.getElem?_eq_some_iff.mp hj).1
      rw [if_pos this]
    · rfl
  refine lcIM walk_range hS (fun _ _ => trivial) (fun i M1 es => ∃ at1, M1 = M.set j (a, drw r at1) ∧ at_ ≤ at1 ∧ at1 ≤ at_ + (c * i : Nat) ∧ es.length = i ∧ ∀ k d, es[k]? = some d → P k d) ⟨at_, m0, Int.le_refl _, by simp, rfl, fun k d e => by simp at e⟩ (fun i x L G1 M1 vs es H1 H2 hi e l0 s rr w yy => ?_) (fun L G1 M1 vs es H1 e l0 s rr w => ?_)
  · obtain ⟨at1, rfl, a1, a2, el, hp⟩ := w
    obtain ⟨rfl, rfl⟩ := yy
    refine hs i L G1 at1 vs es H2 _ hi e l0 a1 a2 s rr fun y d at2 G2 H3 e2 s2 b1 b2 hy hP => ?_
    refine lcY s2 (e.trans e2) (rr.up e2) hy (by omega) ⟨at2, rfl, by omega, ?_, by simp [el], fun k d' hk => ?_⟩
    · have : ((c * (i + 1) : Nat) : Int) = ((c * i : Nat) : Int) + c := by rw [Nat.mul_succ]; exact Int.natCast_add _ _
      omega
    · by_cases ek : k < es.length
      · rw [List.getElem?_append_left ek] at hk
        exact hp k d' hk
      · rw [List.getElem?_append_right (by omega)] at hk
        have : k - es.length = 0 := by
          cases z : k - es.length with
          | zero => rfl
          | succ z' => rw [z] at hk; simp at hk
        rw [this] at hk
        cases Option.some.inj hk
        have : k = i := by omega
        rw [this]; exact hP
  · obtain ⟨at1, rfl, a1, a2, el, hp⟩ := w
    exact hd L at1 vs es G1 H1 e l0 a1 a2 s rr el hp
/-- over a range: ints, a list known as it is -/
theorem lcRawI {lo : Int} {n : Nat} {g : TG} {F : Nat → Int} (hS : Sta K G0 H0 D G M H) (hl : n ≤ 100000)
    (hs : ∀ (i : Nat) L G1 vs es H1 (Z : List (Addr × HO) → List Dt → Prop), i < n → Same G G1 → H0 L = none → Sta K G0 H0 D G1 ((L, .lst vs) :: M) H1 → RpAll K G1 vs es → (∀ y G2 H2, Same G1 G2 → Sta K G0 H0 D G2 ((L, .lst vs) :: M) H2 → Rp K G2 y (.int (F i)) → LcY K G0 H0 D G L Z y H2) →
      g (.int (lo + i)) (wipe σ vss) H1 fun σ2 H3 => wipe σ2 vss = wipe σ vss ∧ tt σ2 H3 fun b H4 => if b = true then te σ2 H4 (LcY K G0 H0 D G L Z) else LcP K G0 H0 D G L Z H4)
    (hd : ∀ p G1 H1, Same G G1 → Sta K G0 H0 D G1 M H1 → G1 p = some (.lst (((List.range n).map F).map .int)) → Q (.ref p) H1) : LcG (Itr lo n) g tt te vss σ Q H := by
  refine lcIM walk_range hS (fun _ _ => trivial) (fun i M1 es => M1 = M ∧ es = (List.range i).map fun k => .int (F k)) ⟨rfl, rfl⟩ (fun i x L G1 M1 vs es H1 H2 hi e l0 s r w yy => ?_) (fun L G1 M1 vs es H1 e l0 s r w => ?_)
  · obtain ⟨rfl, rfl⟩ := w
    obtain ⟨rfl, rfl⟩ := yy
    refine hs i L G1 vs _ H2 _ hi e l0 s r fun y G2 H3 e2 s2 hy => ?_
    refine lcY s2 (e.trans e2) (r.up e2) hy (by simp; omega) ⟨rfl, ?_⟩
    rw [List.range_succ, List.map_append]
    rfl
  · obtain ⟨rfl, rfl⟩ := w
    obtain ⟨s2, e2⟩ := s.frz l0
    have ei : (List.range n).map (fun k => Dt.int (F k)) = ((List.range n).map F).map .int := by rw [List.map_map]; rfl
    rw [ei] at r
    have := r.ints_inv
    subst this
    exact hd L _ H1 (e.trans e2) s2 upd_same
/-- over a range: lists of ints, all known as they are -/
theorem lcRawR {lo : Int} {n : Nat} {g : TG} {F : Nat → List Int} (hS : Sta K G0 H0 D G M H) (hl : n ≤ 100000)
    (hs : ∀ (i : Nat) L G1 vs H1 (Z : VK) (ZP : Hp → Prop), i < n → Same G G1 → H0 L = none → Sta K G0 H0 D G1 ((L, .lst vs) :: M) H1 → (∀ y G2 H2, Same G1 G2 → Sta K G0 H0 D G2 ((L, .lst vs) :: M) H2 → RawI G2 y (F i) → Z y H2) →
      g (.int (lo + i)) (wipe σ vss) H1 fun σ2 H3 => wipe σ2 vss = wipe σ vss ∧ tt σ2 H3 fun b H4 => if b = true then te σ2 H4 Z else ZP H4)
    (hd : ∀ p G1 H1, Same G G1 → Sta K G0 H0 D G1 M H1 → H p = none → (∃ vs, G1 p = some (.lst vs) ∧ Paired (RawI G1) vs ((List.range n).map F)) → Q (.ref p) H1) : LcG (Itr lo n) g tt te vss σ Q H := by
  intro L hL
  have l0 := hS.h0 hL
  refine lc_it walk_range (fun i H1 => ∃ G1 vs, Same G G1 ∧ Sta K G0 H0 D G1 ((L, .lst vs) :: M) H1 ∧ Paired (RawI G1) vs ((List.range i).map F)) ⟨G, [], Same.refl G, hS.mut hL _, .nil⟩ (fun i H1 _ _ => trivial) (fun i x H1 H2 hi p y => ?_) (fun H1 p => ?_)
  · obtain ⟨G1, vs, e, s, r⟩ := p
    obtain ⟨rfl, rfl⟩ := y
    refine hs i L G1 vs H2 _ _ hi e l0 s fun y G2 H3 e2 s2 hy => ?_
    have hvl : vs.length = i := by rw [r.length]; simp
    exact ⟨vs, s2.get (i := 0) rfl, by rw [hvl]; exact Nat.lt_of_lt_of_le (show i < 100000 by omega) (by decide), G2, vs ++ [y], e.trans e2, s2.set (i := 0) rfl _, by
      rw [List.range_succ, List.map_append]
      exact pairedI_snoc hy (pairedI_up e2 r)⟩
  · obtain ⟨G1, vs, e, s, r⟩ := p
    obtain ⟨s2, e2⟩ := s.frz l0
    exact hd L _ H1 (e.trans e2) s2 hL ⟨vs, upd_same, pairedI_up e2 r⟩
end
end B
namespace B
open PySem PySem.Spec PyProof.Rows L2 RZ
/-! ### == of tuples whose items are asked by their own ==, both answers -/
section
open PySem.SeqAt PySem.AutoSeq1 MeetsSeq MeetsSeq2 MeetsSeq3 SeqRoads2
variable {prog : Program} {w : World} {A : Around} {R : Result → Shared → Prop}
theorem tup_eqB (l b : Addr) (us vs : Array Value) (n m : Nat) (dl db : Option Addr) (sl sb : Array (Option Value)) (e : Nat → Bool) (I : Nat → Shared → Prop)
    (ask : ∀ i (h1 : i < us.size) (h2 : i < vs.size) s, I i s → wpAny (model prog w) A.in1 (eqBool us[i] vs[i]) (fun r s' => r = e i ∧ I (i + 1) s') (fun x s' => R (.error x) s') s)
    (out : ∀ i s r, I i s → r = ((List.range (min us.size vs.size)).all e && us.size == vs.size) → R (.ok (.ret (.bool r))) s) {s : Shared} (hl : s.heap.get? l = some { cls := .type "tuple", dict := dl, data := .seq us n, slots := sl }) (hb : s.heap.get? b = some { cls := .type "tuple", dict := db, data := .seq vs m, slots := sb }) (h : I 0 s) :
    wpAny (model prog w) A.in1 (Builtin.«tuple.__eq__» ⟨[.ref l, .ref b], []⟩) (GQ.FinOf prog w A R) (fun x s' => R (.error x) s') s := by
  have sub := AutoSeq1.sub_tuple_tuple
  have len : (us.toList.zip vs.toList).length = min us.size vs.size := by simp
  have start := h
  obtain ⟨hp, g, d, tk, os⟩ := s
  wp_walk using wpAny_loadPart' hl, wpAny_loadPart' hb, wpAny_forIn_list _ (fun rest q s' => q.1 = none ∧ ∃ i, rest = (us.toList.zip vs.toList).drop i ∧ (∀ j, j < i → e j = true) ∧ i ≤ min us.size vs.size ∧ I i s') _
  case turn =>
    rintro ⟨y, x⟩ rest q s' ⟨hq, i, hz, hall, hi, hI⟩
    have lt : i < (us.toList.zip vs.toList).length := Nat.lt_of_not_le fun no => by
      rw [List.drop_of_length_le no] at hz
      cases hz
    have h1 : i < us.size := by omega
    have h2 : i < vs.size := by omega
    rw [List.drop_eq_getElem_cons lt] at hz
    injection hz with hyx more
    obtain rfl : y = us[i] := by simpa using congrArg Prod.fst hyx
    obtain rfl : x = vs[i] := by simpa using congrArg Prod.snd hyx
    refine wpAny_bind (wpAny_mono (ask i h1 h2 s' hI) (fun r s2 q2 => ?_) fun _ _ z => z)
    obtain ⟨hr, q2⟩ := q2
    cases er : e i with
    | true =>
      rw [er] at hr
      subst hr
      wp_walk
      refine ⟨rfl, i + 1, more, fun j hj => ?_, by omega, q2⟩
      by_cases ej : j = i
      · rw [ej]; exact er
      · exact hall j (by omega)
    | false =>
      rw [er] at hr
      subst hr
      have no : ((List.range (min us.size vs.size)).all e && us.size == vs.size) = false := by
        rw [Bool.and_eq_false_iff]
        left
        exact List.all_eq_false.mpr ⟨i, List.mem_range.mpr (by omega), by rw [er]; decide⟩
      have fin := out (i + 1) s2 false q2 no.symm
      wp_walk
      exact fin
  case fin =>
    rintro ⟨b1, b2⟩ s' ⟨hq, i, hz, hall, hi, hI⟩
    simp only at hq
    subst hq
    have ge : min us.size vs.size ≤ i := Nat.le_of_not_lt fun no => by
      rw [List.drop_eq_getElem_cons (by omega)] at hz
      cases hz
    have al : (List.range (min us.size vs.size)).all e = true := List.all_eq_true.mpr fun j hj => hall j (by have := List.mem_range.mp hj; omega)
    have fin := out i s' (us.size == vs.size) hI (by rw [al, Bool.true_and])
    wp_walk
    simpa [Builtin.Tuple.tupleCompareSizes] using fin
  case h => exact ⟨rfl, 0, rfl, fun j hj => absurd hj (Nat.not_lt_zero _), Nat.zero_le _, start⟩
end
section
variable {prog : Program} {w : World} {A : Around} {E : Value → Shared → Prop} {s : Shared}
theorem rc_tupB {l b : Addr} {us vs : Array Value} {Q : Value → Shared → Prop} (hu : A.units < cLine) (e : Nat → Bool) (I : Nat → Shared → Prop) (hl : s.heap.IsTuple l us) (hb : s.heap.IsTuple b vs)
    (ask : ∀ i (h1 : i < us.size) (h2 : i < vs.size) s, I i s → wpAny (model prog w) A.in1 (eqBool us[i] vs[i]) (fun r s' => r = e i ∧ I (i + 1) s') E s)
    (out : ∀ i s r, I i s → r = ((List.range (min us.size vs.size)).all e && us.size == vs.size) → Q (.bool r) s) (h : I 0 s) : wpAny (model prog w) A (richCompare .Eq (.ref l) (.ref b)) Q E s := by
  obtain ⟨⟨cl, dl, al, sl⟩, ol, hcl, n, hdl⟩ := id hl
  obtain ⟨⟨cb, db, ab, sb⟩, ob, hcb, m, hdb⟩ := id hb
  simp only at hcl hdl hcb hdb
  subst hcl hdl hcb hdb
  refine wpAny_richCompare_same_room (op := .Eq) ⟨_, ol, rfl⟩ ⟨_, ob, rfl⟩ F.slot_tuple_eq (GQ.call_here F.slot_tuple_eq ⟨_, ol, rfl⟩ F.entry_tuple_eq (F.args_tuple_eq_2 _ _) ?_) hu
  exact tup_eqB (R := wants (fun v s' => v ≠ .notImplemented ∧ Q v s') E) l b us vs n m dl db sl sb e I ask (fun i s' r q er => ⟨(fun z => nomatch z), out i s' r q er⟩) ol ob h
end
/-- == by what D says, making new objects alone -/
abbrev Eqb := V → V → Bool → Hp → Prop
def EqB (X : Cx) (n : Nat) (D : Eqb) : Prop :=
  ∀ (A : Around) (pins : List (Addr × Obj)) (s : Shared) (σ : L2.St) (H : Hp) (x y : V) (r : Bool) (u v : Value), Sub X n A → Inv X pins σ H s → RelV x u → RelV y v → D x y r H →
    wpAny (model X.prog X.w) A (eqBool u v) (fun q s' => q = r ∧ ∃ H', Inv X pins σ H' s' ∧ Same H H') X.xe s
def RcB (X : Cx) (n : Nat) (D : Eqb) : Prop :=
  ∀ (A : Around) (pins : List (Addr × Obj)) (s : Shared) (σ : L2.St) (H : Hp) (x y : V) (r : Bool) (u v : Value), Sub X n A → Inv X pins σ H s → RelV x u → RelV y v → D x y r H →
    wpAny (model X.prog X.w) A (richCompare .Eq u v) (fun q s' => q = .bool r ∧ ∃ H', Inv X pins σ H' s' ∧ Same H H') X.xe s
def MonB (D : Eqb) : Prop := ∀ x y r H H', Same H H' → D x y r H → D x y r H'
/-- what is one object is seen to be equal -/
def OneB (X : Cx) (D : Eqb) : Prop := ∀ pins σ H s a r, Inv X pins σ H s → D (.ref a) (.ref a) r H → r = true
def DTupB (K : PySem.W.Frag) (D : Eqb) : Eqb := fun x y r H => ∃ a b xs ys e, x = .ref a ∧ y = .ref b ∧ SqT K H a xs ∧ SqT K H b ys ∧ (∀ (i : Nat) u v, xs[i]? = some u → ys[i]? = some v → D u v (e i) H) ∧ r = ((List.range (min xs.length ys.length)).all e && xs.length == ys.length)
def DInsB (C : Addr) (R : Addr → Addr → Bool → Hp → Prop) : Eqb := fun x y r H => ∃ a b dx dy fs gs, x = .ref a ∧ y = .ref b ∧ H a = some (.ins C dx fs) ∧ H b = some (.ins C dy gs) ∧ R a b r H
def spEqB (R : Addr → Addr → Bool → Hp → Prop) : Sp := fun vs H Q _ => ∃ a b r, vs = [.ref a, .ref b] ∧ R a b r H ∧ ∀ H', Same H H' → Q (.bl r) H'
section
variable {X : Cx} {n m : Nat} {D : Eqb}
theorem rcB_tup (hD : MonB D) (h : EqB X n D) : RcB X (n + 1) (DTupB X.K D) := by
  intro A pins s σ H x y r u v sb I rx ry d
  obtain ⟨a, b, xs, ys, e, rfl, rfl, ha, hb, p, er⟩ := d
  cases rx
  cases ry
  obtain ⟨its, rv, t1, z1⟩ := I.tuple ha
  obtain ⟨its2, rv2, t2, z2⟩ := I.tuple hb
  refine rc_tupB sb.room.units0 e (fun _ s' => ∃ H', Inv X pins σ H' s' ∧ Same H H') t1 t2 (fun i h1 h2 s' q => ?_) (fun i s' r' q er' => ⟨?_, q⟩) ⟨H, I, Same.refl H⟩
  · obtain ⟨H1, I1, e1⟩ := q
    have k1 : i < its.length := by simpa using h1
    have k2 : i < its2.length := by simpa using h2
    have l1 : i < xs.length := by rw [rv.length]; exact k1
    have l2 : i < ys.length := by rw [rv2.length]; exact k2
    obtain ⟨u', hu, ru⟩ := rv.get (List.getElem?_eq_getElem l1)
    obtain ⟨v', hv, rv'⟩ := rv2.get (List.getElem?_eq_getElem l2)
    rw [List.getElem?_eq_getElem k1] at hu
    rw [List.getElem?_eq_getElem k2] at hv
    cases hu
    cases hv
    have := h A.in1 pins s' σ H1 _ _ (e i) its[i] its2[i] sb.in1 I1 ru rv' (hD _ _ _ _ _ e1 (p i _ _ (List.getElem?_eq_getElem l1) (List.getElem?_eq_getElem l2)))
    simp only [List.getElem_toArray]
    refine wpAny_mono this (fun q s2 z => ?_) fun _ _ z => z
    obtain ⟨hq, H2, I2, e2⟩ := z
    exact ⟨hq, H2, I2, e1.trans e2⟩
  · rw [er', er, List.size_toArray, List.size_toArray, rv.length, rv2.length]
theorem rcB_ins {CX : CXT} {C f : Addr} {fd : FuncData} {ps : List Str} {R : Addr → Addr → Bool → Hp → Prop} {E : XK} (F : FnOk X.prog X.w X.K X.mg X.base CX n f fd ps (spEqB R))
    (hs : PySem.W.findIn X.K (.ref C) "__eq__" = some (some (.ref f))) (hf : PySem.W.isFn X.K (.ref f) = true) (hb : Binds X.K fd ps []) (hx : Passes CX X E) : RcB X n (DInsB C R) := by
  intro A pins s σ H x y r u v sb I rx ry d
  obtain ⟨a, b, dx, dy, fs, gs, rfl, rfl, ha, hb', hr⟩ := d
  cases rx
  cases ry
  obtain ⟨mA, J, _⟩ := ins_get I.hok ha
  obtain ⟨mB, J', _⟩ := ins_get I.hok hb'
  obtain ⟨od, J, _⟩ := J.look
  obtain ⟨od', J', _⟩ := J'.look
  obtain ⟨m, hF⟩ := I.fr
  refine PySem.W.cmp_K (op := .Eq) (tb := .ref C) sb.room.units0 hF I.ok.mod.kin J J'.type (by simp [PySem.W.notFirst]) hs hf ?_
  have hsp : spEqB R [.ref a, .ref b] H (fun v H' => v = .bl r ∧ Same H H') E := ⟨a, b, r, rfl, hr, fun H' e => ⟨rfl, e⟩⟩
  have e0 : Env0 X.prog X.w X.K X.mg X.base A X.stack s H := by
    have z := I.env0
    exact ⟨by rw [sb.fr]; exact z.frames, z.mod, z.bs, z.bsz, z.funs, z.frf, z.hok, z.bare⟩
  have hl := F.len _ _ _ _ hsp
  have r2 : Vals [V.ref a, V.ref b] [Value.ref a, Value.ref b] := .cons rfl (.cons rfl .nil)
  refine wpAny_call (codeAny_mono (F.run A X.stack s H ⟨[.ref a, .ref b], []⟩ [.ref a, .ref b] [.ref a, .ref b] _ E sb.room e0 (by
    have z := hb s [.ref a, .ref b] I.kIn (by simpa using hl)
    simpa using z) r2 hsp) fun q s' hq => ?_)
  cases q with
  | error x => exact hx pins σ H s x s' I hq
  | ok fl =>
    cases fl with
    | ret w' =>
      obtain ⟨z, H', I', rz, ez, ex⟩ := I.after hq
      subst ez
      cases rz
      exact ⟨rfl, H', I', ex⟩
    | next => exact False.elim hq
    | brk => exact False.elim hq
    | cont => exact False.elim hq
theorem RcB.eqB (h : RcB X n D) (one : OneB X D) (hr : ∀ x y r H, D x y r H → ∃ a b, x = .ref a ∧ y = .ref b) : EqB X n D := by
  intro A pins s σ H x y r u v sb I rx ry d
  obtain ⟨a, b, rfl, rfl⟩ := hr _ _ _ _ d
  cases rx
  cases ry
  by_cases hab : a = b
  · subst hab
    have := one _ _ _ _ _ _ I d
    subst this
    exact SeqAt.EqAt.same (A := A) (s := s) (.ref a) X.prog X.w X.xe _ ⟨rfl, H, I, Same.refl H⟩
  · refine GQ.eqBool_refG hab (wpAny_mono (h A pins s σ H (.ref a) (.ref b) r _ _ sb I rfl rfl d) (fun q s' z => ?_) fun _ _ z => z)
    obtain ⟨hq, z⟩ := z
    exact ⟨r, hq, rfl, z⟩
/-- x == y as an expression -/
def rEqB (D : Eqb) : R2 := fun x y H Q => ∃ r, D x y r H ∧ ∀ H', Same H H' → Q (.bl r) H'
theorem op_eqB (h : RcB X n D) (hr : Room n X.A) : OpR X (compareOp .Eq) (rEqB D) := by
  intro pins s σ H x y v u Q I rx ry hq
  obtain ⟨r, d, q⟩ := hq
  show wpAny (model X.prog X.w) X.A (richCompare .Eq v u) (EP X pins σ Q) X.xe s
  refine wpAny_mono (h X.A pins s σ H x y r v u ⟨hr, rfl⟩ I rx ry d) (fun w' s' z => ?_) fun _ _ z => z
  obtain ⟨hr', H', I', e⟩ := z
  subst hr'
  exact ⟨.bl r, H', I', rfl, q H' e⟩
/-- the data of a value are told by the heap -/
theorem vals_inj : ∀ {xs ys : List V} {us : List Value}, Vals xs us → Vals ys us → xs = ys := fun r1 r2 => (backA_vals r1).symm.trans (backA_vals r2)
end
/-! ### own == asked with a thing of a built-in kind; isinstance of such a thing -/
theorem not_own (C : Addr) : ∀ l : List String, (l.map Value.type).contains (Value.ref C) = false
  | [] => rfl
  | t :: l => by
    have h := not_own C l
    have ht : (Value.ref C == Value.type t) = false := by simp
    simp only [List.map_cons, List.contains_cons, h, Bool.or_false]
    exact ht
theorem sub_builtin {K : PySem.W.Frag} {T : String} (C : Addr) (h : (fastFind? T).isSome = true) : PySem.W.subIn K (.type T) (.ref C) = some false := by
  show (fastBuiltinMro T).map (·.contains (Value.ref C)) = some false
  unfold fastBuiltinMro
  cases e : fastFind? T with
  | none => rw [e] at h; cases h
  | some d =>
    show some (((d.mro.map Value.type).contains (Value.ref C))) = some false
    rw [not_own]
theorem known_kind : ∀ d : Dt, tyD d ≠ "?" → (fastFind? (tyD d)).isSome = true
  | .non, _ => by show (fastFind? "NoneType").isSome = true; decide +kernel
  | .bl _, _ => by show (fastFind? "bool").isSome = true; decide +kernel
  | .int _, _ => by show (fastFind? "int").isSome = true; decide +kernel
  | .str _, _ => by show (fastFind? "str").isSome = true; decide +kernel
  | .lst _, _ => by show (fastFind? "list").isSome = true; decide +kernel
  | .tup _, _ => by show (fastFind? "tuple").isSome = true; decide +kernel
  | .ins _ _, h => absurd rfl h
/-- what isinstance asks of an own class -/
structure OcOk (K : PySem.W.Frag) (C : Addr) : Prop where
  sf : PySem.W.selfFirst K C = true
  ty : PySem.W.typeIn K (.ref C) = some (.type "type")
theorem OcOk.cls {K : PySem.W.Frag} {C : Addr} (x : OcOk K C) : (PySem.W.clsIn K C).isSome = true := by
  obtain ⟨cd, h, _⟩ := PySem.W.any_some x.sf
  rw [h]
  rfl
theorem kit_not {K : PySem.W.Frag} {C : Addr} {T : String} (x : OcOk K C) (h : (fastFind? T).isSome = true) : PySem.W.kitOne K (.type T) (.ref C) = some false := by
  unfold PySem.W.kitOne
  rw [if_neg (by simp)]
  show (if ((PySem.W.clsIn K C).isSome && PySem.W.typeIn K (.ref C) == some (.type "type")) = true then PySem.W.subIn K (.type T) (.ref C) else none) = some false
  rw [if_pos (by rw [x.cls, x.ty]; rfl)]
  exact sub_builtin C h
theorem go_isNot {K : PySem.W.Frag} {G H : Hp} {Q : VK} {x : V} {C : Addr} {d : Dt} (hx : Rp K G x d) (e : Same G H) (hd : tyD d ≠ "?") (oc : OcOk K C) (k : Q (.bl false) H) : rIsi K [x, .ref C] H Q :=
  ⟨x, .ref C, _, .ref C, false, rfl, .own C, tyX_d hd hx e, kit_not oc (known_kind d hd), k⟩
def EQX (K : PySem.W.Frag) (C : Addr) (sp : Sp) (E : XK) : R2 := fun x y H Q => ∃ a dx fs t, x = .ref a ∧ H a = some (.ins C dx fs) ∧ TyX K H y (.type t) ∧ (fastFind? t).isSome = true ∧ sp [x, y] H Q E
theorem op_eqOwnX {X : Cx} {CX : CXT} {k : Nat} {C f : Addr} {fd : FuncData} {ps : List Str} {sp : Sp} {E : XK} (hs : PySem.W.findIn X.K (.ref C) "__eq__" = some (some (.ref f))) (hf : PySem.W.isFn X.K (.ref f) = true) (F : FnOk X.prog X.w X.K X.mg X.base CX k f fd ps sp) (hr : Room k X.A) (hb : Binds X.K fd ps []) (hx : Passes CX X E) :
    OpR X (compareOp .Eq) (EQX X.K C sp E) := by
  intro pins s σ H x y v u Q I rx ry h
  obtain ⟨a, dx, fs, t, rfl, ea, ty, hk, q⟩ := h
  obtain rfl : v = Value.ref a := rx
  obtain ⟨mA, O, _, _, _, _⟩ := ins_get I.hok ea
  obtain ⟨od, J, _⟩ := O.look
  obtain ⟨P, Z, p, _⟩ := kit_of I ry ty
  obtain ⟨m, Fm⟩ := I.fr
  refine PySem.W.cmp_K (op := .Eq) (tb := .type t) hr.units0 Fm I.mod.kin J (Z.ty _ _ I.kIn p) (by unfold PySem.W.notFirst; rw [sub_builtin C hk]; rfl) hs hf (wpAny_mono (run_fn (us := [.ref a, u]) (vs := [.ref a, y]) (ds := []) (dvs := []) F hr hb .nil hx I (.cons rfl (.cons ry .nil)) (by simpa using q)) (fun v s' hv => ?_) fun _ _ z => z)
  obtain ⟨v', H3, I3, rv, q3⟩ := hv
  have r0 := rv
  cases v' <;> first | (cases rv; exact ⟨_, H3, I3, r0, q3⟩) | (obtain ⟨t, rfl⟩ := rv; exact ⟨_, H3, I3, r0, q3⟩)
theorem go_eqx {K : PySem.W.Frag} {G H : Hp} {Q : VK} {x y : V} {C : Addr} {fds : List (Str × Dt)} {d : Dt} {sp : Sp} {E : XK} (hx : Rp K G x (.ins C fds)) (hy : Rp K G y d) (e : Same G H) (hd : tyD d ≠ "?") (h : sp [x, y] H Q E) : EQX K C sp E x y H Q := by
  obtain ⟨a, dx, fs, rfl, hs, _⟩ := Rp.ins_inv hx
  exact ⟨a, dx, fs, _, rfl, e _ _ hs, tyX_d hd hy e, known_kind d hd, h⟩
/-! ### enumerate of a tuple -/
section
open PySem.Sem (wp)
open AutoSeq1 (wpAny_loadPart')
theorem enum_new1 {v : Value} {o : Obj} {P : Heap → Prop} (B : Begins v o P) :
    Meets (Builtin.«enumerate.__new__» ⟨[.type "enumerate", v], []⟩) (fun _ R s => P s.heap ∧ R (.ok (.ret (.ref (s.heap.push o).objs.size)))
      { s with heap := (s.heap.push o).push { cls := .type "enumerate", data := .fields #[.none, .bool false, .ref s.heap.objs.size, rawInt 0, .none, .none] } }) := .of_wp fun prog w A R s h => by
  obtain ⟨hp, g, d, tk, os⟩ := s
  obtain ⟨h1, h⟩ := h
  have sub := sub_enumerate
  have it0 : ∀ {A' : Around} {E Q : Value → Shared → Prop}, Q (.ref hp.objs.size) ⟨hp.push o, g, d, tk, os⟩ → wpAny (model prog w) A' (pyIter v) Q E ⟨hp, g, d, tk, os⟩ := fun q => B.iter prog w _ _ ⟨hp, g, d, tk, os⟩ _ h1 q
  wp_walk using it0
  refine wpAny_stack_any fun st => wpAny_pure ?_
  split
  · rename_i c _ _ _ _ _
    by_cases hc : (c == Value.type "enumerate") = true
    · simp only [hc]
      wp_walk using it0
      exact ⟨_, rfl, h⟩
    · simp only [Bool.not_eq_true] at hc
      simp only [hc]
      wp_walk using it0
      exact ⟨_, rfl, h⟩
  · wp_walk using it0
    exact ⟨_, rfl, h⟩
end
section
variable {prog : Program} {w : World} {A : Around} {E : Value → Shared → Prop} {s : Shared}
theorem enum_call1 {v : Value} {o : Obj} {P : Heap → Prop} {Q : Value → Shared → Prop} (B : Begins v o P) (h1 : P s.heap)
    (h : ∀ h', IsEnum h' (s.heap.objs.size + 1) s.heap.objs.size 0 .none → h'.get? s.heap.objs.size = some o → (∀ b u, s.heap.get? b = some u → h'.get? b = some u) → Q (.ref (s.heap.objs.size + 1)) { s with heap := h' }) :
    wpAny (model prog w) A (call (.type "enumerate") [v]) Q E s := by
  refine callType_new F.called_enumerate (by decide) (F.typeCall_enumerate_1 _) (F.newCall_enumerate_1 _) (fun obj => F.args_object_init_2 obj _) F.entry_enumerate_new (enum_new1 B) ⟨h1, ?_⟩
  have sz : (s.heap.push o).objs.size = s.heap.objs.size + 1 := Heap.size_push ..
  show _ ∧ _
  rw [sz]
  have en : IsEnum ((s.heap.push o).push { cls := .type "enumerate", data := .fields #[.none, .bool false, .ref s.heap.objs.size, rawInt 0, .none, .none] }) (s.heap.objs.size + 1) s.heap.objs.size 0 .none := by
    have z := Heap.get?_push_size (s.heap.push o) (o := { cls := .type "enumerate", data := .fields #[.none, .bool false, .ref s.heap.objs.size, rawInt 0, .none, .none] }) rfl
    rw [sz] at z
    exact z
  exact ⟨⟨_, en, rfl⟩, h _ en (Heap.get?_push_of_some _ (Heap.get?_push_size _ B.free)) fun b u x => Heap.get?_push_of_some _ (Heap.get?_push_of_some _ x)⟩
end
def IteT (K : PySem.W.Frag) (a : Addr) : It :=
  ⟨fun i H => ∃ (xs : List V) (x : V), SqT K H a xs ∧ xs[i]? = some x, fun i H v H' => ∃ T x, v = .ref T ∧ H T = none ∧ H' = upd H T (.tup [.int (i : Nat), x]) ∧ ∀ xs, SqT K H a xs → xs[i]? = some x, fun i H => ∃ xs : List V, SqT K H a xs ∧ xs.length = i⟩
theorem turn_enumT {P : Program} {w : World} {K : PySem.W.Frag} {elts : List Expr} {kk : Nat} {tpos : Pos} (a e it : Addr) :
    Turn P w K (.Tuple elts kk tpos) (IteT K a) [e, it] e (fun i h => (∃ old, IsEnum h e it ((i : Nat) : Int) old) ∧ h.IsTupleIter it a i ∧ e ≠ it ∧ a ≠ it ∧ e ≠ a) where
  mem := by simp
  obj := fun i h st b hb => by
    obtain ⟨⟨old, en⟩, ⟨o, ho, _, hd⟩, _⟩ := st
    rcases (show b = e ∨ b = it by simpa using hb) with rfl | rfl
    · exact ⟨_, en, fun v q => nomatch q⟩
    · exact ⟨o, ho, fun v q => by rw [hd] at q; cases q⟩
  keep := fun i h h' st k => by
    obtain ⟨⟨old, en⟩, hi, z⟩ := st
    exact ⟨⟨old, k e (by simp) _ en⟩, hi.at fun o q => k it (by simp) o q, z⟩
  item := by
    intro X hP hw hK hc i pins s σ H E I hf st hg
    subst hP hw hK
    obtain ⟨⟨old, en⟩, hit, n1, n2, n3⟩ := st
    obtain ⟨xs, x, hq, hx⟩ := hg
    obtain ⟨its, rv, p, hz⟩ := I.tuple hq
    obtain ⟨u, hu, ru⟩ := rv.get hx
    have elt : e < s.heap.objs.size := Heap.lt_size en
    have ilt : it < s.heap.objs.size := by obtain ⟨_, q, _⟩ := hit; exact Heap.lt_size q
    have il : i < its.toArray.size := by
      have := (List.getElem?_eq_some_iff.mp hu).1
      simpa using this
    refine wpAny_pyNext_enum_itemD (Draws.tuple (show X.A.in1.handled = none from I.ok.hd hc) it a n2 its.toArray) en ⟨hit, p⟩ il n1 (by simp; exact ⟨n1, n3⟩) fun y h' tk hy ho ⟨hit', p'⟩ hT hsz hk => ?_
    have ey : y = u := by
      have z : its.toArray[i]? = some u := by simpa using hu
      rw [z] at hy
      exact (Option.some.inj hy).symm
    subst ey
    refine ⟨_, rfl, wpAny_letOwnedTupleGo_enum (s := { s with heap := h', toks := tk + 1 }) ho fun h'' en' sb => ?_⟩
    have hT2 : h''.get? s.heap.objs.size = some { cls := .type "tuple", data := .seq #[.int i tk, y] } := (sb.2 _ (Nat.ne_of_gt elt)).trans hT
    have new : ObjOk X.prog X.w (upd H s.heap.objs.size (.tup [.int (i : Nat), x])) h'' s.heap.objs.size (.tup [.int (i : Nat), x]) :=
      ⟨by show 2 ≤ sizeLine; decide, [.int i tk, y], .cons ⟨_, rfl⟩ (.cons ru .nil), ⟨_, hT2, rfl, _, rfl⟩⟩
    have I1 : Inv X pins σ (upd H s.heap.objs.size (.tup [.int (i : Nat), x])) { s with heap := h'', toks := tk + 1 } :=
      I.turnedNew (ch := [e, it]) (fun b o hb q => (sb.2 b (fun z => hb (by simp [z]))).trans (hk b o (fun z => hb (by simp [z])) (fun z => hb (by simp [z])) q)) hf (Nat.le_refl _) new
    refine ⟨.ref s.heap.objs.size, _, I1, rfl, ⟨_, x, rfl, I.hok.fresh (Nat.le_refl _), rfl, fun ys hy => by rw [I.tuple_inj hy hq]; exact hx⟩, ⟨⟨y, ?_⟩, hit'.at fun o q => (sb.2 it (Ne.symm n1)).trans q, n1, n2, n3⟩, fun b hb => ?_⟩
    · have ei : ((i + 1 : Nat) : Int) = (i : Int) + 1 := by omega
      rw [ei]
      exact en'
    · have lt : b < s.heap.objs.size := by
        rcases (show b = e ∨ b = it by simpa using hb) with rfl | rfl
        · exact elt
        · exact ilt
      rw [upd_ne (Nat.ne_of_lt lt)]
      exact (hf b hb).1
  done := by
    intro X hP hw hK hc i pins s σ H E I hf st hg
    subst hP hw hK
    obtain ⟨⟨old, en⟩, hit, n1, n2, n3⟩ := st
    obtain ⟨xs, hq, hx⟩ := hg
    obtain ⟨its, rv, p, hz⟩ := I.tuple hq
    have hl := rv.length
    obtain ⟨f0, f1, f2, f3, f4, f5⟩ := hf it (by simp)
    have ei : its.toArray.size = i := by simp; omega
    have D := Draws.tuple (prog := X.prog) (w := X.w) (A := X.A.in1) (show X.A.in1.handled = none from I.ok.hd hc) it a n2 its.toArray
    rw [ei] at D
    exact wpAny_pyNext_enum_endD D en ⟨hit, p⟩ fun h' eb => ⟨rfl, I.turned (t' := s.toks) (fun b o hb q => eb b o hb q) f0 f1 f3 f4 f5⟩
  self := fun A i s Q E st h => by
    obtain ⟨⟨_, en⟩, _⟩ := st
    exact wpAny_pyIter_enum en h
def iEnumA (K : PySem.W.Frag) (ta : TA) : TI := fun σ H R => ta σ H fun vs H1 => ∃ a xs, vs = [.ref a] ∧ ((SqL K H1 a xs ∧ R (Ite K a) H1) ∨ (SqT K H1 a xs ∧ R (IteT K a) H1))
theorem pi_enumA {X : Cx} {e : Expr} {ta : TA} {p pos tpos : Pos} {elts : List Expr} {kk : Nat} (hg : Gl X "enumerate") (hm : X.mg "enumerate" = none) (ha : PA X [e] ta) (hs : starEach [e] X.env = [(false, eval e X.env)] := by rfl) :
    PI X (.Tuple elts kk tpos) (.Call (.Name "enumerate" p) [e] [] pos) (iEnumA X.K ta) := by
  refine ⟨fun pins s σ H R I h => ?_⟩
  refine Call_ (ld_blt I hg hm boot_enumerate (PyProof.Rows.callWith_type1 (thn (ha.run pos pins s σ H _ I h) fun us s1 ⟨vs, H1, I1, r1, q1⟩ => ?_) hs rfl))
  obtain ⟨a, xs, rfl, q1⟩ := q1
  obtain ⟨u, rfl, ru⟩ : ∃ u, us = [u] ∧ RelV (.ref a) u := by
    cases r1 with
    | cons r rr => cases rr; exact ⟨_, rfl, r⟩
  cases ru
  have new : ∀ b ∈ [s1.heap.objs.size + 1, s1.heap.objs.size], FpOk X pins H1 b := fun b hb => by
    have hle : s1.heap.objs.size ≤ b := by
      rcases (show b = s1.heap.objs.size + 1 ∨ b = s1.heap.objs.size by simpa using hb) with z | z
      · exact z ▸ Nat.le_add_right _ _
      · exact z ▸ Nat.le_refl _
    exact I1.fpOk hle (I1.hok.fresh hle)
  rcases q1 with ⟨hq, q⟩ | ⟨hq, q⟩
  · obtain ⟨its, rv, t, hz⟩ := I1.list hq
    refine call_enumerate_list t.isList fun h' en hit _ hk => wpAny_pyIter_enum en ?_
    have I2 : Inv X pins σ H1 { s1 with heap := h' } := I1.kept (t' := s1.toks) hk
    exact ⟨s1.heap.objs.size + 1, _, _, _, H1, rfl, I2, turn_enum a (s1.heap.objs.size + 1) s1.heap.objs.size, ⟨⟨.none, en⟩, hit, Nat.succ_ne_self _⟩, new, q⟩
  · obtain ⟨its, rv, t, hz⟩ := I1.tuple hq
    obtain ⟨o0, ho0, _⟩ := id t
    have la : a < s1.heap.objs.size := Heap.lt_size ho0
    refine enum_call1 (begins_tuple a its.toArray) t fun h' en hit hk => wpAny_pyIter_enum en ?_
    have I2 : Inv X pins σ H1 { s1 with heap := h' } := I1.kept (t' := s1.toks) hk
    exact ⟨s1.heap.objs.size + 1, _, _, _, H1, rfl, I2, turn_enumT a (s1.heap.objs.size + 1) s1.heap.objs.size, ⟨⟨.none, en⟩, ⟨_, hit, rfl, rfl⟩, Nat.succ_ne_self _, Nat.ne_of_lt la, Nat.ne_of_gt (Nat.lt_succ_of_lt la)⟩, new, q⟩
theorem walk_enumT {K : PySem.W.Frag} {a : Addr} {xs : List V} : Walk (IteT K a) xs.length (fun H => SqT K H a xs) (fun i H v H' => ∃ T x, v = .ref T ∧ H T = none ∧ H' = upd H T (.tup [.int (i : Nat), x]) ∧ xs[i]? = some x) :=
  ⟨fun i H hi q => ⟨xs, xs[i], q, List.getElem?_eq_getElem hi⟩, fun H q => ⟨xs, q, rfl⟩, fun i H v H' hi q y => by
    obtain ⟨T, x, rfl, hT, eH, hx⟩ := y
    exact ⟨T, x, rfl, hT, eH, hx xs q⟩⟩
section
variable {K : PySem.W.Frag} {G0 H0 G H : Hp} {D : List Addr} {M : List (Addr × HO)} {σ σ' : L2.St} {Q : VK} {tt : TT} {ta te : TE} {t : TA} {ts : TS} {ds fs : List Dt} {vss : List Nat} {nx bk ct : L2.St → Hp → Prop} {rt : VK} {x y : V} {d : Dt}
def ETK (K : PySem.W.Frag) (k : It → Hp → Prop) (vs : List V) (H : Hp) : Prop := ∃ a xs, vs = [.ref a] ∧ ((SqL K H a xs ∧ k (Ite K a) H) ∨ (SqT K H a xs ∧ k (IteT K a) H))
theorem go_iEnumA {k : It → Hp → Prop} (h : t σ H fun vs H1 => ETK K k vs H1) : iEnumA K t σ H k := h
theorem go_etkL {k : It → Hp → Prop} (hx : Rp K G x (.lst ds)) (e : Same G H) (h : ∀ a xs, x = .ref a → SqL K G a xs → RpAll K G xs ds → k (Ite K a) H) : ETK K k [x] H := by
  obtain ⟨a, xs, rfl, hs, ha⟩ := Rp.lst_inv hx
  exact ⟨a, xs, rfl, .inl ⟨e.seq hs, h a xs rfl hs ha⟩⟩
theorem go_etkT {k : It → Hp → Prop} (hx : Rp K G x (.tup ds)) (e : Same G H) (h : ∀ a xs, x = .ref a → SqT K G a xs → RpAll K G xs ds → k (IteT K a) H) : ETK K k [x] H := by
  obtain ⟨a, xs, rfl, hs, ha⟩ := Rp.tup_inv hx
  exact ⟨a, xs, rfl, .inr ⟨Same.t e hs, h a xs rfl hs ha⟩⟩
/-- for i, x in enumerate(tuple) -/
theorem forET {a : Addr} {xs : List V} {i1 j1 : Nat} (hS : Sta K G0 H0 D G M H) (hq : SqT K G a xs) (hr : RpAll K G xs ds) (W : Nat → L2.St → Hp → List (Addr × HO) → Prop) (h0 : W 0 σ G M)
    (hs : ∀ i x d σ' G1 M1 H1, i < ds.length → ds[i]? = some d → Same G G1 → Sta K G0 H0 D G1 M1 H1 → Rp K G1 x d → (∃ G2, Same G2 G1 ∧ W i σ' G2 M1) → ∀ σ2, List.set (List.set σ' i1 (some (.int i))) j1 (some x) = σ2 → ts ⟨Nx K G0 H0 D G (W (i + 1)), rt, nx, Nx K G0 H0 D G (W (i + 1))⟩ σ2 H1)
    (hd : ∀ σ' G1 M1 H1, Same G G1 → Sta K G0 H0 D G1 M1 H1 → W ds.length σ' G1 M1 → nx σ' H1) : ForG (IteT K a) (gTup K 2 (gCons (gName i1) (gCons (gName j1) gNil))) ts ⟨nx, rt, bk, ct⟩ σ H :=
  forI (walk_enumT (xs := xs)) hS (fun H1 e => Same.t e hq) W h0 (fun i x σ' G1 M1 H1 H2 hi e s w y => by
    obtain ⟨T, v, rfl, hT, eH, h2⟩ := y
    obtain ⟨d, hd', rd⟩ := hr.getV h2
    obtain ⟨G2, e2, s2, q2⟩ := s.pair hT eH
    exact go_gpair q2 rfl (hs i v d σ' G2 M1 H2 (by rw [← hr.length]; exact hi) hd' (e.trans e2) s2 (rd.up (e.trans e2)) ⟨G1, e2, w⟩ _ rfl)) (by rw [hr.length]; exact hd)
end
/-! ### a range as a thing of its own -/
def rRange2_ : List V → Hp → VK → Prop := fun vs H Q => ∃ i j, vs = [V.int i, V.int j] ∧ ∀ p, H p = none → Q (.ref p) (upd H p (.rng i j))
theorem b_range2 {X : Cx} : CallR X (.type "range") rRange2_ := cr_range2
def iRngO (te : TE) : TI := fun σ H R => te σ H fun x H1 => ∃ a lo hi, x = .ref a ∧ H1 a = some (.rng lo hi) ∧ (-(2 ^ 62) ≤ lo ∧ lo < 2 ^ 62 ∧ -(2 ^ 62) ≤ hi ∧ hi < 2 ^ 62) ∧ R (Itr lo (hi - lo).toNat) H1
theorem pi_rng {X : Cx} {tg l : Expr} {tl : TE} (hl : PE X l tl) : PI X tg l (iRngO tl) := by
  refine ⟨fun pins s σ H R I h => ?_⟩
  refine thn (hl.run pins s σ H _ I h) fun v s1 ⟨x, H1, I1, r1, q1⟩ => ?_
  obtain ⟨a, lo, hi, rfl, ha, ⟨b1, b2, b3, b4⟩, q⟩ := q1
  cases r1
  obtain ⟨t, u, v, ho⟩ := I1.hok a _ ha
  refine wpAny_pyIter_range ho (small_one b1 b2 b3 b4) ?_
  refine ⟨s1.heap.objs.size, [s1.heap.objs.size], _, _, H1, rfl, I1.kept (t' := s1.toks) fun b o e => Heap.get?_push_of_some _ e, turn_range _ lo (hi - lo).toNat, ?_, fun b hb => ?_, q⟩
  · have z1 : lo + ((0 : Nat) : Int) * 1 = lo := by simp
    have z2 : (((hi - lo).toNat : Nat) : Int) - ((0 : Nat) : Int) = Builtin.Range.rangeSize lo hi 1 := by
      rw [rangeSize_one]
      split <;> omega
    show IsRangeIter _ _ (lo + ((0 : Nat) : Int) * 1) ((((hi - lo).toNat : Nat) : Int) - ((0 : Nat) : Int)) 1
    rw [z1, z2]
    exact Heap.get?_push_size _ rfl
  · have z : b = s1.heap.objs.size := by simpa using hb
    subst z
    exact I1.fpOk (Nat.le_refl _) (I1.hok.fresh (Nat.le_refl _))
section
variable {K : PySem.W.Frag} {G0 H0 G H : Hp} {D : List Addr} {M : List (Addr × HO)} {σ : L2.St} {Q : VK} {te : TE} {x : V}
def RKO (k : It → Hp → Prop) (x : V) (H : Hp) : Prop := ∃ a lo hi, x = .ref a ∧ H a = some (.rng lo hi) ∧ (-(2 ^ 62) ≤ lo ∧ lo < 2 ^ 62 ∧ -(2 ^ 62) ≤ hi ∧ hi < 2 ^ 62) ∧ k (Itr lo (hi - lo).toNat) H
theorem go_iRngO {k : It → Hp → Prop} (h : te σ H fun x H1 => RKO k x H1) : iRngO te σ H k := h
theorem go_rangeV {i j : Int} (hS : Sta K G0 H0 D G M H) (k : ∀ p G1 H1, Same G G1 → Sta K G0 H0 D G1 M H1 → G1 p = some (.rng i j) → Q (.ref p) H1) : rRange2_ [.int i, .int j] H Q :=
  ⟨i, j, rfl, fun p hp => k p _ _ (same_upd (hS.gn hp)) (hS.imm hp _) upd_same⟩
theorem go_rko {a : Addr} {lo hi : Int} {k : It → Hp → Prop} (hx : G a = some (.rng lo hi)) (e : Same G H) (b : -(2 ^ 62) ≤ lo ∧ lo < 2 ^ 62 ∧ -(2 ^ 62) ≤ hi ∧ hi < 2 ^ 62) (h : k (Itr lo (hi - lo).toNat) H) : RKO k (.ref a) H :=
  ⟨a, lo, hi, rfl, e _ _ hx, b, h⟩
end
/-- the class of what was raised -/
def clsA : Value → Addr
  | .ref a => a
  | _ => 0
/-- list(x) of ints: a list known as it is -/
theorem go_listRI {K : PySem.W.Frag} {G0 H0 G H : Hp} {D : List Addr} {M : List (Addr × HO)} {Q : VK} {x : V} {r : List Int} (hS : Sta K G0 H0 D G M H) (hx : Rp K G x (.lst (r.map .int)) ∨ Rp K G x (.tup (r.map .int))) (k : ∀ p G1 H1, Same G G1 → Sta K G0 H0 D G1 M H1 → G1 p = some (.lst (r.map .int)) → Q (.ref p) H1) : rListOf_ K [x] H Q := by
  rcases hx with hx | hx
  · obtain ⟨a, xs, rfl, hs, ha⟩ := Rp.lst_inv hx
    have := ha.ints_inv
    subst this
    exact ⟨a, _, rfl, .inl (hS.gh.seq hs), fun p hp => k p _ _ (same_upd (hS.gn hp)) (hS.imm hp _) upd_same⟩
  · obtain ⟨a, xs, rfl, hs, ha⟩ := Rp.tup_inv hx
    have := ha.ints_inv
    subst this
    exact ⟨a, _, rfl, .inr (Same.t hS.gh hs), fun p hp => k p _ _ (same_upd (hS.gn hp)) (hS.imm hp _) upd_same⟩
section
variable {K : PySem.W.Frag} {G0 H0 G H : Hp} {D : List Addr} {M : List (Addr × HO)} {σ : L2.St} {Q : VK} {tt : TT} {te : TE} {vss : List Nat}
theorem lcMapTRL {α : Type} {a : Addr} {xs : List V} {g : TG} {as : List α} {Da : α → Dt} {F : α → Dt} (hS : Sta K G0 H0 D G M H) (hq : SqL K G a xs) (hr : RpAll K G xs (as.map Da)) (hl : as.length ≤ 100000)
    (hs : ∀ x c L G1 vs es H1 (Z : List (Addr × HO) → List Dt → Prop), c ∈ as → Rp K G1 x (Da c) → Same G G1 → H0 L = none → Sta K G0 H0 D G1 ((L, .lst vs) :: M) H1 → RpAll K G1 vs es → (∀ y G2 H2, Same G1 G2 → Sta K G0 H0 D G2 ((L, .lst vs) :: M) H2 → Rp K G2 y (F c) → LcY K G0 H0 D G L Z y H2) →
      g x (wipe σ vss) H1 fun σ2 H3 => wipe σ2 vss = wipe σ vss ∧ tt σ2 H3 fun b H4 => if b = true then te σ2 H4 (LcY K G0 H0 D G L Z) else LcP K G0 H0 D G L Z H4)
    (hd : ∀ p G1 H1, Same G G1 → Sta K G0 H0 D G1 M H1 → RpL K G1 p (as.map F) → Q (.ref p) H1) : LcG (Itl K a) g tt te vss σ Q H := by
  refine lcIM (walk_list (xs := xs)) hS (fun H1 e => e.seq hq) (fun i M1 es => M1 = M ∧ es = (as.take i).map F) ⟨rfl, rfl⟩ (fun i x L G1 M1 vs es H1 H2 hi e l0 s r w yy => ?_) (fun L G1 M1 vs es H1 e l0 s r w => ?_)
  · obtain ⟨rfl, rfl⟩ := w
    obtain ⟨rfl, hx⟩ := yy
    have hi2 : i < as.length := by
      have := hr.length
      rw [List.length_map] at this
      omega
    obtain ⟨d, hd', rd⟩ := hr.getV hx
    rw [List.getElem?_map, List.getElem?_eq_getElem hi2] at hd'
    cases hd'
    refine hs x as[i] L G1 vs _ H2 _ (List.getElem_mem hi2) (rd.up e) e l0 s r fun y G2 H3 e2 s2 hy => ?_
    refine lcY s2 (e.trans e2) (r.up e2) hy (by simp; omega) ⟨rfl, ?_⟩
    rw [List.take_add_one, List.getElem?_eq_getElem hi2, List.map_append]
    rfl
  · obtain ⟨rfl, rfl⟩ := w
    have hl2 := hr.length
    rw [List.length_map] at hl2
    rw [List.take_of_length_le (by omega)] at r
    obtain ⟨s2, e2⟩ := s.frz l0
    exact hd L _ H1 (e.trans e2) s2 ⟨vs, upd_same, r.up e2⟩
end
end B
namespace B
open PySem PySem.Spec PyProof.Rows L2 RZ
/-! ### states with two things that change; things taken in, frozen -/
section
variable {K : PySem.W.Frag} {G0 H0 G H G1 H1 : Hp} {D : List Addr} {M : List (Addr × HO)} {p q : Addr} {o u o' u' : HO}
theorem Sta.start2 (e : Same G H) (hp : H p = some o) (hq : H q = some o') (gp : G p = none) (gq : G q = none) (n : p ≠ q) : Sta K G H [p, q] G [(p, o), (q, o')] H :=
  ⟨Same.refl G, e, fun _ _ => rfl, fun _ _ h _ => h, fun _ h => h, by simp [n], fun r hr => by
    rcases List.mem_cons.mp hr with rfl | hr
    · exact ⟨hp, gp, .inl (by simp)⟩
    · rw [List.mem_singleton.mp hr]
      exact ⟨hq, gq, .inl (by simp)⟩⟩
theorem Sta.callM2 (h : Sta K G0 H0 D G M H) {i j : Nat} (hi : M[i]? = some (p, o)) (hj : M[j]? = some (q, o')) (n : p ≠ q) (a : Adv [p, q] G H G1 H1) (hp : H1 p = some u) (hq : H1 q = some u') : Sta K G0 H0 D G1 ((M.set i (p, u)).set j (q, u')) H1 := by
  have ij : i ≠ j := fun e => by
    subst e
    rw [hi] at hj
    cases hj
    exact n rfl
  have hj' : (M.set i (p, u))[j]? = some (q, o') := by rw [List.getElem?_set_ne ij]; exact hj
  have nd' : ((M.set i (p, u)).map (·.1)).Nodup := by rw [set_keys hi]; exact h.md
  have own : ∀ r o, (r, o) ∈ M → r ∈ D ∨ H0 r = none := fun r o hr => (h.mh _ hr).2.2
  refine ⟨h.g0.trans a.gg, a.gh, fun b hb => by rw [a.fr b (h.up b hb)]; exact h.fr b hb, fun b v hb hd => ?_, fun b hb => a.up b (h.up b hb), ?_, fun r hr => ?_⟩
  · have np : ∀ (r : Addr) (o : HO), (r, o) ∈ M → b ≠ r := fun r o hr e => by
      subst e
      rcases own _ _ hr with z | z
      · exact hd z
      · rw [hb] at z; cases z
    refine a.kp b v (h.kp b v hb hd) ?_
    simp only [List.mem_cons, List.not_mem_nil, or_false, not_or]
    exact ⟨np _ _ (List.mem_of_getElem? hi), np _ _ (List.mem_of_getElem? hj)⟩
  · rw [set_keys hj']
    exact nd'
  · rcases set_mem nd' hj' hr with rfl | ⟨hm, hn⟩
    · obtain ⟨e1, e2, e3⟩ := h.mh _ (List.mem_of_getElem? hj)
      exact ⟨hq, by rw [a.fr _ (by rw [e1]; exact fun z => nomatch z)]; exact e2, e3⟩
    · rcases set_mem h.md hi hm with rfl | ⟨hm2, hn2⟩
      · obtain ⟨e1, e2, e3⟩ := h.mh _ (List.mem_of_getElem? hi)
        exact ⟨hp, by rw [a.fr _ (by rw [e1]; exact fun z => nomatch z)]; exact e2, e3⟩
      · obtain ⟨e1, e2, e3⟩ := h.mh r hm2
        exact ⟨a.kp _ _ e1 (by simp only [List.mem_cons, List.not_mem_nil, or_false, not_or]; exact ⟨hn2, hn⟩), by rw [a.fr _ (by rw [e1]; exact fun z => nomatch z)]; exact e2, e3⟩
theorem Sta.adopt (h : Sta K G0 H0 D G M H) (hp : H p = some o) (gp : G p = none) (h0 : H0 p = none) (hm : ∀ r ∈ M, r.1 ≠ p) : Sta K G0 H0 D G ((p, o) :: M) H :=
  ⟨h.g0, h.gh, h.fr, h.kp, h.up, by
    simp only [List.map_cons, List.nodup_cons]
    exact ⟨fun z => by
      obtain ⟨r, hr, e⟩ := List.mem_map.mp z
      exact hm r hr e, h.md⟩, fun r hr => by
    rcases List.mem_cons.mp hr with rfl | hr
    · exact ⟨hp, gp, .inr h0⟩
    · exact h.mh r hr⟩
end
/-! ### instances known as they are -/
section
variable {K : PySem.W.Frag} {G0 H0 G H : Hp} {D : List Addr} {M : List (Addr × HO)} {σ : L2.St} {Q : VK} {tt : TT} {te : TE} {t : TS} {vss : List Nat} {x y : V} {ds : List Dt} {C a dx : Addr} {fs : List (Str × V)} {nx bk ct : L2.St → Hp → Prop} {rt : VK}
theorem go_fldI {f : Str} {v : V} (hx : G a = some (.ins C dx fs)) (e : Same G H) (cl : Cls K C) (na : NoAttr K C f) (hi : fs.lookup f = some v) (k : Q v H) : FK K f Q (.ref a) H := ⟨a, C, dx, fs, v, rfl, e _ _ hx, cl, na, hi, k⟩
theorem go_mtkI {m : Str} {kk : Hp → Prop} (hx : G a = some (.ins C dx fs)) (e : Same G H) (hm : fs.lookup m = none) (h : kk H) : MTK C m kk (.ref a) H := ⟨a, dx, fs, rfl, e _ _ hx, hm, h⟩
theorem go_itlR {xs : List V} {k : It → Hp → Prop} (hx : G a = some (.lst xs)) (e : Same G H) (h : k (Itl K a) H) : LK K k (.ref a) H := ⟨a, rfl, ⟨xs, .inl (.inl (e _ _ hx))⟩, h⟩
/-- a loop over a list known as it is -/
theorem forV {xs : List V} {g : TG} (hS : Sta K G0 H0 D G M H) (hq : G a = some (.lst xs)) (W : Nat → L2.St → Hp → List (Addr × HO) → Prop) (h0 : W 0 σ G M)
    (hs : ∀ i x σ' G1 M1 H1, i < xs.length → xs[i]? = some x → Same G G1 → Sta K G0 H0 D G1 M1 H1 → W i σ' G1 M1 → g x σ' H1 fun σ2 H3 => t ⟨Nx K G0 H0 D G (W (i + 1)), rt, nx, Nx K G0 H0 D G (W (i + 1))⟩ σ2 H3)
    (hd : ∀ σ' G1 M1 H1, Same G G1 → Sta K G0 H0 D G1 M1 H1 → W xs.length σ' G1 M1 → nx σ' H1) : ForG (Itl K a) g t ⟨nx, rt, bk, ct⟩ σ H :=
  forI (walk_list (xs := xs)) hS (fun H1 e => .inl (.inl (e _ _ hq))) W h0 (fun i x σ' G1 M1 H1 H2 hi e s w y => by
    obtain ⟨rfl, hx⟩ := y
    exact hs i x σ' G1 M1 H2 hi hx e s w) hd
/-- items of a list that may change -/
theorem go_ixMR {xs : List V} {n : Int} {d : Dt} (hS : Sta K G0 H0 D G M H) {i : Nat} (hi : M[i]? = some (a, .lst xs)) (hr : RpAll K G xs ds) (hd : atI ds n = some d) (k : ∀ v, Rp K G v d → Q v H) : rIx K (.ref a) (.int n) H Q := by
  obtain ⟨v, hv, rv⟩ := hr.atI hd
  exact .inl ⟨a, xs, n, v, rfl, rfl, SqL.of (hS.get hi), hv, k v rv⟩
/-- a comprehension with a test, over a range -/
theorem lcFiltR {lo : Int} {n : Nat} {g : TG} {p : Nat → Bool} {F : Nat → Dt} (hS : Sta K G0 H0 D G M H) (hl : n ≤ 100000)
    (hs : ∀ (i : Nat) L G1 vs es H1 (Z Z0 : List (Addr × HO) → List Dt → Prop), i < n → Same G G1 → H0 L = none → Sta K G0 H0 D G1 ((L, .lst vs) :: M) H1 → RpAll K G1 vs es → (p i = true → ∀ y G2 H2, Same G1 G2 → Sta K G0 H0 D G2 ((L, .lst vs) :: M) H2 → Rp K G2 y (F i) → LcY K G0 H0 D G L Z y H2) → (p i = false → ∀ G2 H2, Same G1 G2 → Sta K G0 H0 D G2 ((L, .lst vs) :: M) H2 → LcP K G0 H0 D G L Z H2) →
      g (.int (lo + i)) (wipe σ vss) H1 fun σ2 H3 => wipe σ2 vss = wipe σ vss ∧ tt σ2 H3 fun b H4 => if b = true then te σ2 H4 (LcY K G0 H0 D G L Z) else LcP K G0 H0 D G L Z H4)
    (hd : ∀ p' G1 H1, Same G G1 → Sta K G0 H0 D G1 M H1 → Rp K G1 (.ref p') (.lst (((List.range n).filter p).map F)) → Q (.ref p') H1) : LcG (Itr lo n) g tt te vss σ Q H := by
  refine lcR hS (fun i M1 es => M1 = M ∧ es = ((List.range i).filter p).map F) ⟨rfl, rfl⟩ (fun i L G1 M1 vs es H1 hi e l0 s r w => ?_) (fun p' G1 M1 es H1 e s r w => ?_)
  · obtain ⟨rfl, rfl⟩ := w
    have len : (((List.range i).filter p).map F).length ≤ i := by
      rw [List.length_map]
      exact Nat.le_trans (List.length_filter_le _ _) (by simp)
    refine hs i L G1 vs _ H1 _ (fun _ _ => True) hi e l0 s r (fun hp y G2 H2 e2 s2 hy => ?_) (fun hp G2 H2 e2 s2 => ?_)
    · refine lcY s2 (e.trans e2) (r.up e2) hy (by omega) ⟨rfl, ?_⟩
      rw [List.range_succ, List.filter_append, List.map_append]
      simp [hp]
    · refine lcN s2 (e.trans e2) (r.up e2) ⟨rfl, ?_⟩
      rw [List.range_succ, List.filter_append, List.map_append]
      simp [hp]
  · obtain ⟨rfl, rfl⟩ := w
    exact hd p' G1 H1 e s r
/-- over a range, a tuple, a list; the new list may change -/
theorem lcMapRM {lo : Int} {n : Nat} {g : TG} {F : Nat → Dt} (hS : Sta K G0 H0 D G M H) (hl : n ≤ 100000)
    (hs : ∀ (i : Nat) L G1 vs es H1 (Z : List (Addr × HO) → List Dt → Prop), i < n → Same G G1 → H0 L = none → Sta K G0 H0 D G1 ((L, .lst vs) :: M) H1 → RpAll K G1 vs es → (∀ y G2 H2, Same G1 G2 → Sta K G0 H0 D G2 ((L, .lst vs) :: M) H2 → Rp K G2 y (F i) → LcY K G0 H0 D G L Z y H2) →
      g (.int (lo + i)) (wipe σ vss) H1 fun σ2 H3 => wipe σ2 vss = wipe σ vss ∧ tt σ2 H3 fun b H4 => if b = true then te σ2 H4 (LcY K G0 H0 D G L Z) else LcP K G0 H0 D G L Z H4)
    (hd : ∀ L vs G1 H1, Same G G1 → H0 L = none → Sta K G0 H0 D G1 ((L, .lst vs) :: M) H1 → RpAll K G1 vs ((List.range n).map F) → Q (.ref L) H1) : LcG (Itr lo n) g tt te vss σ Q H := by
  refine lcIM walk_range hS (fun _ _ => trivial) (fun i M1 es => M1 = M ∧ es = (List.range i).map F) ⟨rfl, rfl⟩ (fun i x L G1 M1 vs es H1 H2 hi e l0 s r w yy => ?_) (fun L G1 M1 vs es H1 e l0 s r w => ?_)
  · obtain ⟨rfl, rfl⟩ := w
    obtain ⟨rfl, rfl⟩ := yy
    refine hs i L G1 vs _ H2 _ hi e l0 s r fun y G2 H3 e2 s2 hy => ?_
    refine lcY s2 (e.trans e2) (r.up e2) hy (by simp; omega) ⟨rfl, ?_⟩
    rw [List.range_succ, List.map_append]
    rfl
  · obtain ⟨rfl, rfl⟩ := w
    exact hd L vs G1 H1 e l0 s r
theorem lcMapTM {α : Type} {xs : List V} {g : TG} {as : List α} {Da : α → Dt} {F : α → Dt} (hS : Sta K G0 H0 D G M H) (hq : SqT K G a xs) (hr : RpAll K G xs (as.map Da)) (hl : as.length ≤ 100000)
    (hs : ∀ x c L G1 vs es H1 (Z : List (Addr × HO) → List Dt → Prop), c ∈ as → Rp K G1 x (Da c) → Same G G1 → H0 L = none → Sta K G0 H0 D G1 ((L, .lst vs) :: M) H1 → RpAll K G1 vs es → (∀ y G2 H2, Same G1 G2 → Sta K G0 H0 D G2 ((L, .lst vs) :: M) H2 → Rp K G2 y (F c) → LcY K G0 H0 D G L Z y H2) →
      g x (wipe σ vss) H1 fun σ2 H3 => wipe σ2 vss = wipe σ vss ∧ tt σ2 H3 fun b H4 => if b = true then te σ2 H4 (LcY K G0 H0 D G L Z) else LcP K G0 H0 D G L Z H4)
    (hd : ∀ L vs G1 H1, Same G G1 → H0 L = none → Sta K G0 H0 D G1 ((L, .lst vs) :: M) H1 → RpAll K G1 vs (as.map F) → Q (.ref L) H1) : LcG (Itt K a) g tt te vss σ Q H := by
  have xl := hr.length
  rw [List.length_map] at xl
  refine lcIM (walk_tup (xs := xs)) hS (fun H1 e => Same.t e hq) (fun i M1 es => M1 = M ∧ es = (as.take i).map F) ⟨rfl, rfl⟩ (fun i x L G1 M1 vs es H1 H2 hi e l0 s r w yy => ?_) (fun L G1 M1 vs es H1 e l0 s r w => ?_)
  · obtain ⟨rfl, rfl⟩ := w
    obtain ⟨rfl, hx⟩ := yy
    have hi2 : i < as.length := by omega
    obtain ⟨d, hd', rd⟩ := hr.getV hx
    rw [List.getElem?_map, List.getElem?_eq_getElem hi2] at hd'
    cases hd'
    refine hs x as[i] L G1 vs _ H2 _ (List.getElem_mem hi2) (rd.up e) e l0 s r fun y G2 H3 e2 s2 hy => ?_
    refine lcY s2 (e.trans e2) (r.up e2) hy (by simp; omega) ⟨rfl, ?_⟩
    rw [List.take_add_one, List.getElem?_eq_getElem hi2, List.map_append]
    rfl
  · obtain ⟨rfl, rfl⟩ := w
    rw [List.take_of_length_le (by omega)] at r
    exact hd L vs G1 H1 e l0 s r
theorem lcMapLM {α : Type} {xs : List V} {g : TG} {as : List α} {Da : α → Dt} {F : α → Dt} (hS : Sta K G0 H0 D G M H) (hq : SqL K G a xs) (hr : RpAll K G xs (as.map Da)) (hl : as.length ≤ 100000)
    (hs : ∀ x c L G1 vs es H1 (Z : List (Addr × HO) → List Dt → Prop), c ∈ as → Rp K G1 x (Da c) → Same G G1 → H0 L = none → Sta K G0 H0 D G1 ((L, .lst vs) :: M) H1 → RpAll K G1 vs es → (∀ y G2 H2, Same G1 G2 → Sta K G0 H0 D G2 ((L, .lst vs) :: M) H2 → Rp K G2 y (F c) → LcY K G0 H0 D G L Z y H2) →
      g x (wipe σ vss) H1 fun σ2 H3 => wipe σ2 vss = wipe σ vss ∧ tt σ2 H3 fun b H4 => if b = true then te σ2 H4 (LcY K G0 H0 D G L Z) else LcP K G0 H0 D G L Z H4)
    (hd : ∀ L vs G1 H1, Same G G1 → H0 L = none → Sta K G0 H0 D G1 ((L, .lst vs) :: M) H1 → RpAll K G1 vs (as.map F) → Q (.ref L) H1) : LcG (Itl K a) g tt te vss σ Q H := by
  have xl := hr.length
  rw [List.length_map] at xl
  refine lcIM (walk_list (xs := xs)) hS (fun H1 e => e.seq hq) (fun i M1 es => M1 = M ∧ es = (as.take i).map F) ⟨rfl, rfl⟩ (fun i x L G1 M1 vs es H1 H2 hi e l0 s r w yy => ?_) (fun L G1 M1 vs es H1 e l0 s r w => ?_)
  · obtain ⟨rfl, rfl⟩ := w
    obtain ⟨rfl, hx⟩ := yy
    have hi2 : i < as.length := by omega
    obtain ⟨d, hd', rd⟩ := hr.getV hx
    rw [List.getElem?_map, List.getElem?_eq_getElem hi2] at hd'
    cases hd'
    refine hs x as[i] L G1 vs _ H2 _ (List.getElem_mem hi2) (rd.up e) e l0 s r fun y G2 H3 e2 s2 hy => ?_
    refine lcY s2 (e.trans e2) (r.up e2) hy (by simp; omega) ⟨rfl, ?_⟩
    rw [List.take_add_one, List.getElem?_eq_getElem hi2, List.map_append]
    rfl
  · obtain ⟨rfl, rfl⟩ := w
    rw [List.take_of_length_le (by omega)] at r
    exact hd L vs G1 H1 e l0 s r
/-- over zip of two lists of one length -/
theorem lcMapZL {α β : Type} {a b : Addr} {xs ys : List V} {as : List α} {bs : List β} {Da : α → Dt} {Db : β → Dt} {F : α → β → Dt} {i1 j1 : Nat} (hS : Sta K G0 H0 D G M H) (hq : SqL K G a xs) (hr : RpAll K G xs (as.map Da)) (hq' : SqL K G b ys) (hr' : RpAll K G ys (bs.map Db)) (hab : as.length = bs.length) (hl : as.length ≤ 100000)
    (hs : ∀ x y c e L G1 vs es H1 (Z : List (Addr × HO) → List Dt → Prop), c ∈ as → e ∈ bs → Rp K G1 x (Da c) → Rp K G1 y (Db e) → Same G G1 → H0 L = none → Sta K G0 H0 D G1 ((L, .lst vs) :: M) H1 → RpAll K G1 vs es → (∀ y G2 H2, Same G1 G2 → Sta K G0 H0 D G2 ((L, .lst vs) :: M) H2 → Rp K G2 y (F c e) → LcY K G0 H0 D G L Z y H2) →
      ∀ σ2, List.set (List.set (wipe σ vss) i1 (some x)) j1 (some y) = σ2 → wipe σ2 vss = wipe σ vss ∧ tt σ2 H1 fun b H4 => if b = true then te σ2 H4 (LcY K G0 H0 D G L Z) else LcP K G0 H0 D G L Z H4)
    (hd : ∀ p G1 H1, Same G G1 → Sta K G0 H0 D G1 M H1 → Rp K G1 (.ref p) (.lst (List.zipWith F as bs)) → Q (.ref p) H1) : LcG (Itz K a b) (gTup K 2 (gCons (gName i1) (gCons (gName j1) gNil))) tt te vss σ Q H := by
  refine lcZ hS hq hr hq' hr' (fun i M1 es => M1 = M ∧ es = (List.zipWith F as bs).take i) ⟨rfl, rfl⟩ (fun i u z d f L G1 M1 vs es H1 hi hd' hf' rd rf e l0 s r w σ2 eσ => ?_) (fun p G1 M1 es H1 e s r w => ?_)
  · obtain ⟨rfl, rfl⟩ := w
    rw [List.length_map, List.length_map] at hi
    have ha : i < as.length := by omega
    have hb : i < bs.length := by omega
    rw [List.getElem?_map, List.getElem?_eq_getElem ha] at hd'
    rw [List.getElem?_map, List.getElem?_eq_getElem hb] at hf'
    cases hd'
    cases hf'
    refine hs u z as[i] bs[i] L G1 vs _ H1 _ (List.getElem_mem ha) (List.getElem_mem hb) rd rf e l0 s r (fun y G3 H3 e3 s3 hy => ?_) σ2 eσ
    refine lcY s3 (e.trans e3) (r.up e3) hy (by simp; omega) ⟨rfl, ?_⟩
    have hz : i < (List.zipWith F as bs).length := by rw [List.length_zipWith]; omega
    rw [List.take_add_one, List.getElem?_eq_getElem hz]
    simp
  · obtain ⟨rfl, rfl⟩ := w
    rw [List.length_map, List.length_map, List.take_of_length_le (by rw [List.length_zipWith]; omega)] at r
    exact hd p G1 H1 e s r
theorem go_zkL {k : It → Hp → Prop} {fs : List Dt} (hx : Rp K G x (.lst ds)) (hy : Rp K G y (.lst fs)) (e : Same G H) (h : ∀ a b xs ys, x = .ref a → y = .ref b → SqL K G a xs → RpAll K G xs ds → SqL K G b ys → RpAll K G ys fs → k (Itz K a b) H) : ZTK K k [x, y] H := by
  obtain ⟨a, xs, rfl, hs, ha⟩ := Rp.lst_inv hx
  obtain ⟨b, ys, rfl, hs', ha'⟩ := Rp.lst_inv hy
  exact ⟨a, b, xs, ys, rfl, .inl ⟨e.seq hs, e.seq hs', h a b xs ys rfl rfl hs ha hs' ha'⟩⟩
/-- a list asked for its truth -/
theorem go_truL {ds : List Dt} {P : Bool → Hp → Prop} (hx : Rp K G x (.lst ds)) (e : Same G H) (h : P (!ds.isEmpty) H) : rTru_ K P x H := by
  obtain ⟨a, xs, rfl, hs, ha⟩ := Rp.lst_inv hx
  refine ⟨!xs.isEmpty, .inl ⟨xs, e.seq hs, rfl⟩, ?_⟩
  have : xs.isEmpty = ds.isEmpty := by
    cases ha <;> rfl
  rw [this]
  exact h
theorem go_tTru {ta : TE} {P : Bool → Hp → Prop} (h : ta σ H fun x H1 => rTru_ K P x H1) : tTru_ K ta σ H P := h
end
theorem putF3 {f g h : Str} {v u w : V} : (putF f v (putF g u (putF h w []))).length < 1000 := by
  have h1 := length_putF f v (putF g u (putF h w []))
  have h2 := length_putF g u (putF h w [])
  have h3 := length_putF h w []
  simp at h3
  omega
end B
/-! dicts whose keys are pairs of ints; lists that grow by whole lists; list * any int -/
namespace Bw
open PySem L2 B RZ
def ky (i j : Int) : List Key := [.inl i, .inl j]
theorem ky_inj {i j m n : Int} (h : ky i j = ky m n) : i = m ∧ j = n := by
  simp only [ky, List.cons.injEq, Sum.inl.injEq, and_true] at h
  exact h
def DKT (Q : VK) (x : V) (vs : List V) (H : Hp) : Prop := vs.length ≤ sizeLine ∧ ∀ p, H p = none → ∃ a v, x = .ref a ∧ DGet (upd H p (.tup vs)) a (.ref p) (some v) ∧ Q v (upd H p (.tup vs))
def DPT (nx : L2.St → Hp → Prop) (σ : L2.St) (v x : V) (vs : List V) (H : Hp) : Prop := vs.length ≤ sizeLine ∧ ∀ p, H p = none → ∃ a H4, x = .ref a ∧ DPut (upd H p (.tup vs)) a (.ref p) v H4 ∧ nx σ H4
section
variable {K : PySem.W.Frag} {G0 H0 G H : Hp} {D : List Addr} {M : List (Addr × HO)} {Q : VK} {x y v : V} {te td : TE} {t : TA} {σ : L2.St} {nx : L2.St → Hp → Prop} {rt : VK} {bk ct : L2.St → Hp → Prop}
theorem go_dget2 (h : td σ H fun x H1 => t σ H1 fun vs H2 => DKT Q x vs H2) : tDGet td (tTup t) σ H Q := h
theorem go_dput2 (h : te σ H fun v H1 => td σ H1 fun x H2 => t σ H2 fun vs H3 => DPT nx σ v x vs H3) : sDPut td (tTup t) te ⟨nx, rt, bk, ct⟩ σ H := h
theorem go_dnewT (hS : Sta K G0 H0 D G M H) (k : ∀ p H1, H0 p = none → G p = none → Sta K G0 H0 D G ((p, .dT []) :: M) H1 → Q (.ref p) H1) : tDNewT σ H Q := fun p hp => k p _ (hS.h0 hp) (hS.gn hp) (hS.mut hp _)
theorem go_dkt {a : Addr} {kvs : List (List Key × V)} {i j : Int} (hS : Sta K G0 H0 D G M H) (hx : G a = some (.dT kvs)) (e : valV kvs (ky i j) = some v) (k : ∀ G1 H1, Same G G1 → Sta K G0 H0 D G1 M H1 → Q v H1) : DKT Q (.ref a) [.int i, .int j] H :=
  ⟨sz (by simp), fun p hp => by
    have s1 := hS.imm hp (.tup [.int i, .int j])
    refine ⟨a, v, rfl, ?_, k _ _ (same_upd (hS.gn hp)) s1⟩
    have := DGet.t (k := ky i j) (s1.gh _ _ (same_upd (hS.gn hp) _ _ hx)) (b := p) upd_same
    rw [e] at this
    exact this⟩
theorem go_dpt {a : Addr} {kvs : List (List Key × V)} {i j : Int} {n : Nat} {M' : List (Addr × HO)} (hS : Sta K G0 H0 D G M H) (hi : M[n]? = some (a, .dT kvs)) (hl : kvs.length < 100000) (hM : M.set n (a, .dT (putK kvs (ky i j) v)) = M')
    (k : ∀ G1 H1, Same G G1 → Sta K G0 H0 D G1 M' H1 → nx σ H1) : DPT nx σ v (.ref a) [.int i, .int j] H :=
  ⟨sz (by simp), fun p hp => by
    subst hM
    have s1 := hS.imm hp (.tup [.int i, .int j])
    exact ⟨a, _, rfl, DPut.t (k := ky i j) (s1.get hi) upd_same (Nat.lt_of_lt_of_le hl (by decide)), k _ _ (same_upd (hS.gn hp)) (s1.set hi _)⟩⟩
theorem go_repZ {l : Addr} {k : Int} {xs : List V} (hS : Sta K G0 H0 D G M H) (hx : G l = some (.lst xs)) (hk : -1000000 ≤ k) (hk2 : k ≤ 1000000) (hl : xs.length * k.toNat ≤ 100000) (q : ∀ p G1 H1, Same G G1 → Sta K G0 H0 D G1 M H1 → G1 p = some (.lst (List.replicate k.toNat xs).flatten) → Q (.ref p) H1) : rRep (.ref l) (.int k) H Q :=
  ⟨l, k, xs, rfl, rfl, hS.gh _ _ hx, by omega, by omega, sz hl, fun p hp => q p _ _ (same_upd (hS.gn hp)) (hS.imm hp _) upd_same⟩
theorem go_ext {p b : Addr} {xs zs : List V} {M' : List (Addr × HO)} {i : Nat} (hS : Sta K G0 H0 D G M H) (hi : M[i]? = some (p, .lst xs)) (hb : G b = some (.lst zs)) (hl : xs.length + zs.length ≤ 100000) (hM : M.set i (p, .lst (xs ++ zs)) = M') (k : ∀ H1, Sta K G0 H0 D G M' H1 → Q .non H1) : rExtend (.ref p) [.ref b] H Q := by
  subst hM
  exact ⟨p, b, xs, zs, rfl, rfl, hS.get hi, hS.gh _ _ hb, sz hl, k _ (hS.set hi _)⟩
theorem go_catM {l b : Addr} {xs zs : List V} {i : Nat} (hS : Sta K G0 H0 D G M H) (hx : M[i]? = some (l, .lst xs)) (hz : G b = some (.lst zs)) (hl : xs.length + zs.length ≤ 100000) (k : ∀ p G1 H1, Same G G1 → Sta K G0 H0 D G1 M H1 → G1 p = some (.lst (xs ++ zs)) → Q (.ref p) H1) : rCat (.ref l) (.ref b) H Q :=
  ⟨l, b, xs, zs, rfl, rfl, hS.get hx, hS.gh _ _ hz, sz hl, fun p hp => k p _ _ (same_upd (hS.gn hp)) (hS.imm hp _) upd_same⟩
end
theorem rep1 {v : V} (n : Nat) : (List.replicate n [v]).flatten = List.replicate n v := rep_one n
theorem rpAll_rep {K : PySem.W.Frag} {G : Hp} {v : V} {d : Dt} (h : Rp K G v d) : ∀ n : Nat, RpAll K G (List.replicate n v) (List.replicate n d)
  | 0 => .nil
  | n + 1 => .cons h (rpAll_rep h n)
end Bw
/-! sorted(xs, key=lambda p: ..): the lambda is made anew, its code object stands in the maker's table -/
namespace B
open PySem PySem.Spec PyProof.Rows L2 LamX NdefX
/-- what stands in a maker's table: code objects of the name q, all known -/
def TabP (H : Hp) (ps : Array Value) (q : Str) : Prop := TriplesOk ps.toList ∧ ∀ (at_ : Pos) (u : Value), codeAmong at_ ps.toList = some u → ∃ c, u = .ref c ∧ H c = some (CodeO c q)
theorem TabP.nil {H : Hp} {q : Str} : TabP H #[] q := ⟨True.intro, fun at_ u e => by
  have e : codeAmong at_ [] = some u := e
  simp [codeAmong] at e⟩
theorem TabP.up {H H' : Hp} {ps : Array Value} {q : Str} (t : TabP H ps q) (e : Same H H') : TabP H' ps q := ⟨t.1, fun at_ u h => by
  obtain ⟨c, e1, e2⟩ := t.2 at_ u h
  exact ⟨c, e1, e _ _ e2⟩⟩
def rowT (at_ : Pos) (c : Addr) : Array Value := #[rawInt at_.line, rawInt at_.col, .ref c]
theorem TabP.snoc {H : Hp} {ps : Array Value} {q : Str} (t : TabP H ps q) {c : Addr} (at_ : Pos) (hc : H c = some (CodeO c q)) : TabP H (ps ++ rowT at_ c) q := by
  have el : (ps ++ rowT at_ c).toList = ps.toList ++ [rawInt at_.line, rawInt at_.col, .ref c] := by simp [rowT]
  refine ⟨by rw [el]; exact PySem.TriplesOk_snoc _ _ _ _ t.1, fun at2 u h => ?_⟩
  rw [el] at h
  rcases among_app _ t.1 h with z | z
  · exact t.2 at2 u z
  · exact ⟨c, z, hc⟩
abbrev lamO (q : Str) (params : Arguments) (body : Expr) (scope : Scope) (cl : List (Str × Addr)) (pm : Value) (c : Addr) (ct : Value) : Obj := PySem.W.kla_obj "<lambda>" q params body scope cl pm c ct
section
variable {s : Shared} {H : Hp} {X : Cx} {σ : L2.St} {pins : List (Addr × Obj)}
/-- the lambda's object: its code is found in the table, or new there -/
theorem lam_made {c P : Addr} {params : Arguments} {body : Expr} {scope : Scope} {at_ : Pos} {q : Str} {ps : Array Value} {E : Value → Shared → Prop} {Q : Value → Shared → Prop} (I : Inv X pins σ H s) (TB : TabB X.base X.mg c P) (hc : X.env.code = .ref c) (hq : X.env.qual ++ "<lambda>" = q)
    (hP : H P = some (.tbl ps)) (hT : TabP H ps q) (hd : defaultsOf params X.env = ([], [])) (hf : ∀ y ∈ scope.names, y.2 = .free → ∃ a, X.env.cells.lookup y.1 = some a)
    (old : ∀ (f k : Addr) (pm ct : Value) (s1 : Shared), codeAmong at_ ps.toList = some (.ref k) → H k = some (CodeO k q) → Inv X ((f, lamO q params body scope (cloFrom X.env.cells scope.names []) pm k ct) :: pins) σ H s1 → Q (.ref f) s1)
    (new : ∀ (f k : Addr) (pm ct : Value) (s1 : Shared), H k = none → Inv X ((f, lamO q params body scope (cloFrom X.env.cells scope.names []) pm k ct) :: pins) σ (upd (upd H P (.tbl (ps ++ rowT at_ k))) k (CodeO k q)) s1 → Q (.ref f) s1) :
    wpAny (model X.prog X.w) X.A (eval (.Lambda params body scope at_) X.env) Q E s := by
  subst hq
  have tabAt : s.heap.get? P = some { cls := .none, data := .fields ps } := I.hok P _ hP
  have lsz := I.lt
  have pinned : ∀ {s1 : Shared} {H1 : Hp} {f : Addr} {o : Obj}, Inv X pins σ H1 s1 → s1.heap.get? f = some o → H1 f = none → s.heap.objs.size ≤ f → (∀ v, o.data ≠ .cell v) → Inv X ((f, o) :: pins) σ H1 s1 := fun {s1 H1 f o} J e n hz nc => J.pins_of fun p hp => by
    rcases List.mem_cons.mp hp with rfl | hm
    · exact ⟨e, n, fun z => Nat.lt_irrefl _ (Nat.lt_of_lt_of_le (by rw [← z] at lsz; exact lsz) hz), I.nofs hz, nc⟩
    · exact J.pin p (List.mem_append_right _ hm)
  refine PySem.W.kla_eval hd ?_
  cases e : codeAmong at_ ps.toList with
  | some u =>
    obtain ⟨k, eu, hk⟩ := hT.2 at_ u e
    subst eu
    refine PySem.W.kla_makeFunctionHit (closure_ok hf) I.ok.glob (I.mod.glob.keeps I.bk) hc (TB.code.keeps I.bk) tabAt hT.1 e (TB.bm.keeps I.bk) fun ct h1 tk keep hsz => ?_
    refine old h1.objs.size k _ ct _ e hk (pinned (I.kept (t' := tk) fun b o eb => Heap.get?_push_of_some _ (keep b o eb)) (Heap.get?_push_size _ rfl) (I.hok.fresh hsz) hsz fun v z => by cases z)
  | none =>
    refine PySem.W.kla_makeFunction (closure_ok hf) I.ok.glob (I.mod.glob.keeps I.bk) hc (TB.code.keeps I.bk) tabAt hT.1 e TB.gP (TB.bm.keeps I.bk) fun k ct h1 tk keep hge hlt hrec htab => ?_
    obtain ⟨k2, oc, vs, t, e2, hoc, hdat, hnm⟩ := hrec
    cases e2
    have big : s.heap.objs.size ≤ h1.objs.size := Nat.le_trans hge (Nat.le_of_lt hlt)
    have nk : H k = none := I.hok.fresh hge
    have J := inv_table (t' := tk) (more := rowT at_ k) (h' := h1.push (lamO (X.env.qual ++ "<lambda>") params body scope (cloFrom X.env.cells scope.names []) ((X.mg "__name__").getD .none) k ct)) I hP
      (fun b o hb eb => Heap.get?_push_of_some _ (keep b o hb eb)) (Heap.get?_push_of_some _ htab) hge ⟨oc, vs, t, Heap.get?_push_of_some _ hoc, hdat, hnm⟩
    refine new h1.objs.size k _ ct _ nk (pinned J (Heap.get?_push_size _ rfl) ?_ big fun v z => by cases z)
    have d1 : h1.objs.size ≠ k := Nat.ne_of_gt hlt
    have d2 : h1.objs.size ≠ P := Nat.ne_of_gt (Nat.lt_of_lt_of_le (Heap.lt_size tabAt) big)
    rw [upd_ne d1, upd_ne d2]
    exact I.hok.fresh big
/-- the words of a lambda -/
abbrev lamF (q : Str) (params : Arguments) (scope : Scope) (cl : List (Str × Addr)) (k : Addr) : NF := ⟨"<lambda>", q, params, [], scope, cl, k⟩
/-- where its body is walked -/
abbrev lamX (X : Cx) (N : List Str) (F : NF) (f : Addr) (s : Shared) (H : Hp) : Cx := ncx CX0 X.prog X.w X.K X.mg X.base N F f X.A.in1.in1 X.stack s H E0
/-- a lambda of one parameter, called as a key -/
theorem key_lam {N fr : List Str} {x q : Str} {params : Arguments} {body : Expr} {scope : Scope} {cl : List (Str × Addr)} {pm ct : Value} {f k : Addr} {js : List Nat} {tb : TE} {n : Nat} (S : NScope N [x] fr scope) (cp : Caps X cl fr js) (hr : Room (n + 3) X.A)
    (hb : ∀ u : Value, bindArgs (PySem.W.kla_fn "<lambda>" q params body scope cl pm (.ref k) ct) ⟨[u], []⟩ = pure ([x].zip [u]))
    (hbody : ∀ (s : Shared) (H : Hp), Room n (lamX X N (lamF q params scope cl k) f s H).A → PE (lamX X N (lamF q params scope cl k) f s H) body tb) :
    KeyRun X [(f, lamO q params body scope cl pm k ct)] σ f fun y H1 Q => H1 k = some (CodeO k q) ∧ tb (startF N [y] (js.map (slotAt σ))) H1 Q := ⟨fun pins s H1 y u Q hp I ry h => by
  obtain ⟨hk, ht⟩ := h
  have hf := (I.pin _ (List.mem_append_right _ (hp _ List.mem_cons_self))).1
  have hr2 : Room (n + 1) X.A.in1.in1 := hr.in1.in1
  have e0 := I.env0.in1.in1
  have nolim : s.heap.NoLimit := e0.mod.nolimit.keeps fun a o z => (e0.bs a o z).1
  have go : codeAny (model X.prog X.w) X.A.in1.in1 (.call (.ref f) ⟨[u], []⟩) (CR CX0 X.stack X.prog X.w H1 s Q E0) s := by
    refine PySem.W.kla_callFunE hr2.depth hf rfl S.co S.gen rfl (codeO_at I.hok hk) ?_
    rw [hb u]
    refine wpAny_pure (wpAny_newFunctionEnv S.nocell (fun ⟨a, _⟩ hy => S.par a (List.of_mem_zip hy).1) (fun h₁ hns hsb => ⟨nolim.fresh _ hsb, ?_⟩) S.kind)
    show codeAny _ _ (.expr body (envF (lamF q params scope cl k) f s.heap.objs.size)) _ _
    have kp : ∀ a o, s.heap.get? a = some o → h₁.get? a = some o := fun a o z => hsb.extBut a o (Nat.ne_of_lt (Heap.lt_size z)) (Heap.get?_push_of_some _ z)
    have J : Inv (lamX X N (lamF q params scope cl k) f s H1) [] (startF N [y] (js.map (slotAt σ))) H1 { s with heap := h₁, toks := s.toks + ([x].zip [u]).length } := inv_startN S hr2.hd e0 rfl (.cons ry .nil) (cells_of I cp) hns kp
    refine PySem.W.kla_codeExpr (wpAny_mono ((hbody s H1 (hr2.deeper _)).run [] _ _ H1 Q J ht) (fun v s2 he => ?_) fun e s2 he => he)
    obtain ⟨w', H', J', rv, hq⟩ := he
    exact ⟨w', H', J'.os, J'.bare, J'.base, J'.hok, rv, hq⟩
  refine wpAny_call (codeAny_mono go fun r s2 hq => ?_)
  cases r with
  | error e => exact hq.elim
  | ok fl =>
    cases fl with
    | ret u => exact I.after hq
    | next => exact False.elim hq
    | brk => exact False.elim hq
    | cont => exact False.elim hq⟩
/-- sorted by the lambda whose code is at k -/
def rSoL (K : PySem.W.Frag) (q : Str) (N : List Str) (js : List Nat) (tb : TE) (σ : L2.St) (k : Addr) (vs : List V) (H : Hp) (Q : VK) : Prop := ∃ (a : Addr) (xs : List V), vs = [.ref a] ∧ (SqL K H a xs ∨ SqT K H a xs) ∧
  keysT (fun y H1 Q1 => H1 k = some (CodeO k q) ∧ tb (startF N [y] (js.map (slotAt σ))) H1 Q1) xs H fun ks H1 => ∃ ls : List (List Int), KeysAre K H1 ks ls ∧ ∀ p, H1 p = none → Q (.ref p) (upd H1 p (.lst ((srtK (ls.zip xs)).map (·.2))))
def tSoL (K : PySem.W.Frag) (P : Addr) (q : Str) (at_ : Pos) (N : List Str) (js : List Nat) (tb : TE) (t : TA) : TE := fun σ H Q => t σ H fun vs H1 => ∃ ps, H1 P = some (.tbl ps) ∧ TabP H1 ps q ∧
  (∀ k, codeAmong at_ ps.toList = some (.ref k) → H1 k = some (CodeO k q) → rSoL K q N js tb σ k vs H1 Q) ∧ ∀ k, H1 k = none → rSoL K q N js tb σ k vs (upd (upd H1 P (.tbl (ps ++ rowT at_ k))) k (CodeO k q)) Q
/-- its captured names are the maker's -/
def lamB (sc scope : Scope) (fr : List Str) : Bool := (scope.names.all fun y => !decide (y.2 = .free) || decide (sc.names.lookup y.1 = some .cell) || decide (sc.names.lookup y.1 = some .free)) && fr.all fun y => decide ((y, NameKind.free) ∈ scope.names)
theorem lamB_fr {sc scope : Scope} {fr : List Str} (h : lamB sc scope fr = true) : ∀ y ∈ scope.names, y.2 = .free → sc.names.lookup y.1 = some .cell ∨ sc.names.lookup y.1 = some .free := fun y hy e => by
  have z := List.all_eq_true.mp (Bool.and_eq_true_iff.mp h).1 y hy
  simp only [Bool.or_eq_true, Bool.not_eq_true', decide_eq_true_eq, decide_eq_false_iff_not] at z
  rcases z with (z | z) | z
  · exact absurd e z
  · exact .inl z
  · exact .inr z
theorem lamB_fx {sc scope : Scope} {fr : List Str} (h : lamB sc scope fr = true) : ∀ y ∈ fr, (y, NameKind.free) ∈ scope.names := fun y hy => by
  simpa using List.all_eq_true.mp (Bool.and_eq_true_iff.mp h).2 y hy
/-- sorted(e, key=lambda ..) -/
theorem pe_sortL {N fr : List Str} {x q : Str} {params : Arguments} {body : Expr} {scope : Scope} {js : List Nat} {tb : TE} {n : Nat} {c P : Addr} {e : Expr} {t : TA} {lp kp_ p pos : Pos} (TB : TabB X.base X.mg c P) (hc : X.env.code = .ref c) (hq : X.env.qual ++ "<lambda>" = q) (hg : Gl X "sorted") (hm : X.mg "sorted" = none)
    (ha : PA X [e] t) (S : NScope N [x] fr scope) (hl : lamB X.env.scope scope fr = true) (hjs : js.map (fun j => X.N[j]?) = fr.map some)
    (hr : Room (n + 3) X.A) (hd : defaultsOf params X.env = ([], [])) (hb : ∀ (cl : List (Str × Addr)) (pm ct : Value) (k : Addr) (u : Value), bindArgs (PySem.W.kla_fn "<lambda>" q params body scope cl pm (.ref k) ct) ⟨[u], []⟩ = pure ([x].zip [u]))
    (hbody : ∀ (f k : Addr) (s : Shared) (H : Hp), Room n (lamX X N (lamF q params scope (cloFrom X.env.cells scope.names []) k) f s H).A → PE (lamX X N (lamF q params scope (cloFrom X.env.cells scope.names []) k) f s H) body tb)
    (he : backTo pos (starEach [e] X.env) = (false, eval e X.env) :: backTo pos (starEach [] X.env) := by rfl) (hpl : (backTo pos (starEach [e] X.env)).any (·.1) = false := by rfl)
    (hall : (backToKw pos (keywordEach [⟨some (Str.ofString "key"), .Lambda params body scope lp, kp_⟩] X.env)).all (·.1.isSome) = true := by rfl) (hnone : (backToKw pos (keywordEach [⟨some (Str.ofString "key"), .Lambda params body scope lp, kp_⟩] X.env)).any (·.1.isNone) = false := by rfl) :
    PE X (.Call (.Name "sorted" p) [e] [⟨some (Str.ofString "key"), .Lambda params body scope lp, kp_⟩] pos) (tSoL X.K P q lp N js tb t) := by
  refine ⟨fun pins s σ H Q I h => wpAny_Call_Name_kw (ld_blt I hg hm (show bootBuiltins "sorted" = some (.builtin "sorted") by decide +kernel) ?_ (by decide) (by decide))⟩
  refine PyProof.Rows.callWith_kw (thn (ha.run pos pins s σ H _ I h) fun us s1 ⟨vs, H1, I1, r1, q1⟩ => ?_) he hpl hall hnone
  obtain ⟨ps, hP, hT, h1, h2⟩ := q1
  have hfr := lamB_fr hl
  have hfx := lamB_fx hl
  have free : ∀ y ∈ scope.names, y.2 = .free → ∃ a, X.env.cells.lookup y.1 = some a := fun y hy e => (hfr y hy e).elim (fun z => I.ok.has _ (.inl z)) fun z => I.ok.has _ (.inr z)
  have cp : Caps X (cloFrom X.env.cells scope.names []) fr js := Caps.made I.ok hfr hfx hjs
  show wpAny _ _ (evalAll [do let v ← eval (.Lambda params body scope lp) X.env; standAt pos; pure v]) _ _ s1
  have fin : ∀ (f k : Addr) (pm ct : Value) (s2 : Shared) (H2 : Hp), Inv X ((f, lamO q params body scope (cloFrom X.env.cells scope.names []) pm k ct) :: pins) σ H2 s2 → rSoL X.K q N js tb σ k vs H2 Q →
      wpAny (model X.prog X.w) X.A (call (.builtin "sorted") us [(Str.ofString "key", .ref f)]) (EP X pins σ Q) X.xe s2 := fun f k pm ct s2 H2 J ⟨a, xs, ev, hs, hk⟩ => by
    subst ev
    obtain rfl := Vals.ref1 r1
    refine thn (sortK_call (key_lam (pm := pm) (ct := ct) S cp hr (hb _ pm ct k) (hbody f k)) (fun p hp => by rw [List.mem_singleton.mp hp]; exact List.mem_cons_self) J hs hk) fun u s3 ⟨y, H3, J3, ry, hy⟩ => ?_
    exact ⟨y, H3, J3.pins_of fun p hp => J3.pin p (List.mem_append_right _ (List.mem_cons_of_mem _ hp)), ry, hy⟩
  refine wpAny_evalAll_cons (wpAny_bind (lam_made I1 TB hc hq hP hT hd free (fun f k pm ct s2 ht hk J => ?_) fun f k pm ct s2 hk J => ?_))
  · exact wpAny_bind (wpAny_standAt (wpAny_pure (wpAny_evalAll_nil (fin f k pm ct s2 _ J (h1 k ht hk)))))
  · exact wpAny_bind (wpAny_standAt (wpAny_pure (wpAny_evalAll_nil (fin f k pm ct s2 _ J (h2 k hk)))))
end
/-! ### in terms of the state -/
section
variable {K : PySem.W.Frag} {D : List Addr} {G0 H0 G H : Hp} {M : List (Addr × HO)} {α : Type} {Da : α → Dt} {kf : α → List Int} {kd : List Int → Dt}
/-- what a key's body makes of a thing, from G on -/
def KeyFrom (K : PySem.W.Frag) (Gb : Hp) (Da : α → Dt) (kf : α → List Int) (kd : List Int → Dt) (r : V → Hp → VK → Prop) : Prop := ∀ (x : V) (a : α) (G0 H0 G H : Hp) (D : List Addr) (M : List (Addr × HO)) (Q : VK), Same Gb G → Sta K G0 H0 D G M H → Rp K G x (Da a) →
  (∀ k G1 H1, Same G G1 → Sta K G0 H0 D G1 M H1 → Rp K G1 k (kd (kf a)) → Q k H1) → r x H Q
theorem keysT_from {r : V → Hp → VK → Prop} {Gb : Hp} (hd : KeyFrom K Gb Da kf kd r) : ∀ (as : List α) (xs : List V) (G H : Hp) (Q : List V → Hp → Prop), Same Gb G → Sta K G0 H0 D G M H → RpAll K G xs (as.map Da) →
    (∀ ks G1 H1, Same G G1 → Sta K G0 H0 D G1 M H1 → RpAll K G1 ks (as.map fun a => kd (kf a)) → Q ks H1) → keysT r xs H Q
  | [], xs, G, H, Q, _, hS, hx, q => by
    cases hx
    exact q [] G H (Same.refl G) hS .nil
  | a :: as, _, G, H, Q, eb, hS, hx, q => by
    cases hx with
    | cons h1 h2 =>
      refine hd _ a G0 H0 G H D M _ eb hS h1 fun k G1 H1 e1 hS1 hk => ?_
      refine keysT_from hd as _ G1 H1 _ (eb.trans e1) hS1 (h2.up e1) fun ks G2 H2 e2 hS2 hks => ?_
      exact q _ G2 H2 (e1.trans e2) hS2 (.cons (hk.up e2) hks)
/-- the table's new row: the code object is new and never changes -/
theorem Sta.row (h : Sta K G0 H0 D G M H) {i : Nat} {P k : Addr} {o u : HO} {q : Str} (hi : M[i]? = some (P, o)) (hk : H k = none) : Sta K G0 H0 D (upd G k (CodeO k q)) (M.set i (P, u)) (upd (upd H P u) k (CodeO k q)) := by
  have nk : P ≠ k := fun e => by
    have := h.get hi
    rw [e, hk] at this
    cases this
  have h1 := h.set hi u
  exact h1.imm (by rw [upd_ne (fun e => nk e.symm)]; exact hk) _
theorem go_soL {q : Str} {N : List Str} {js : List Nat} {tb : TE} {σ : L2.St} {k : Addr} {as : List α} {x : V} {Q : VK} (gk : G k = some (CodeO k q)) (hd : KeyFrom K G Da kf kd fun y H1 Q1 => tb (startF N [y] (js.map (slotAt σ))) H1 Q1) (hk : ∀ ks G1 H1, Same G1 H1 → RpAll K G1 ks (as.map fun a => kd (kf a)) → KeysAre K H1 ks (as.map kf))
    (hS : Sta K G0 H0 D G M H) (hx : Rp K G x (.lst (as.map Da)) ∨ Rp K G x (.tup (as.map Da)))
    (fin : ∀ p vs G1 H1, H0 p = none → G p = none → Same G G1 → Sta K G0 H0 D G1 ((p, .lst vs) :: M) H1 → RpAll K G1 vs ((srtA kf as).map Da) → Q (.ref p) H1) : rSoL K q N js tb σ k [x] H Q := by
  obtain ⟨a, xs, rfl, hs, ha⟩ : ∃ a xs, x = .ref a ∧ (SqL K H a xs ∨ SqT K H a xs) ∧ RpAll K G xs (as.map Da) := by
    rcases hx with hx | hx
    · obtain ⟨a, xs, rfl, hs, ha⟩ := Rp.lst_inv hx
      exact ⟨a, xs, rfl, .inl (hS.gh.seq hs), ha⟩
    · obtain ⟨a, xs, rfl, hs, ha⟩ := Rp.tup_inv hx
      exact ⟨a, xs, rfl, .inr (Same.t hS.gh hs), ha⟩
  refine ⟨a, xs, rfl, hs, keysT_from (kf := kf) (kd := kd) (Gb := G) (fun y b A0 B0 G1 H1 D1 M1 Q1 e s r w => ⟨s.gh _ _ (e _ _ gk), hd y b A0 B0 G1 H1 D1 M1 Q1 e s r w⟩) as xs G H _ (Same.refl G) hS ha fun ks G1 H1 e1 hS1 hks => ⟨as.map kf, hk ks G1 H1 hS1.gh hks, fun p hp => ?_⟩⟩
  have hg : G p = none := by
    cases e : G p with
    | none => rfl
    | some o =>
      have := hS1.gh _ _ (e1 _ _ e)
      rw [hp] at this
      cases this
  exact fin p _ G1 _ (hS1.h0 hp) hg e1 (hS1.mut hp _) (rpAll_of (srtK_rel (rk_of (ha.up e1))))
/-- sorted(xs, key=lambda ..): the table may have one row more -/
def SoK (K : PySem.W.Frag) (P : Addr) (q : Str) (at_ : Pos) (N : List Str) (js : List Nat) (tb : TE) (σ : L2.St) (Q : VK) (vs : List V) (H1 : Hp) : Prop := ∃ ps, H1 P = some (.tbl ps) ∧ TabP H1 ps q ∧
  (∀ k, codeAmong at_ ps.toList = some (.ref k) → H1 k = some (CodeO k q) → rSoL K q N js tb σ k vs H1 Q) ∧ ∀ k, H1 k = none → rSoL K q N js tb σ k vs (upd (upd H1 P (.tbl (ps ++ rowT at_ k))) k (CodeO k q)) Q
theorem go_tSoL {P : Addr} {q : Str} {at_ : Pos} {N : List Str} {js : List Nat} {tb : TE} {t : TA} {σ : L2.St} {Q : VK} (h : t σ H fun vs H1 => SoK K P q at_ N js tb σ Q vs H1) : tSoL K P q at_ N js tb t σ H Q := h
theorem set_same {M : List (Addr × HO)} {i : Nat} {q : Addr × HO} (h : M[i]? = some q) : M.set i q = M := by
  apply List.ext_getElem?
  intro j
  rw [List.getElem?_set]
  split
  · rename_i e
    subst e
    have hl := (List.getElem?_eq_some_iff.mp h).1
    rw [if_pos hl, h]
  · rfl
theorem go_soK {P : Addr} {q : Str} {at_ : Pos} {N : List Str} {js : List Nat} {tb : TE} {σ : L2.St} {as : List α} {x : V} {Q : VK} {ps : Array Value} {i : Nat} (hS : Sta K G0 H0 D G M H) (hi : M[i]? = some (P, .tbl ps)) (ht : TabP G ps q) (hx : Rp K G x (.lst (as.map Da)) ∨ Rp K G x (.tup (as.map Da)))
    (hd : ∀ Gb, Same G Gb → KeyFrom K Gb Da kf kd fun y H1 Q1 => tb (startF N [y] (js.map (slotAt σ))) H1 Q1) (hk : ∀ ks G1 H1, Same G1 H1 → RpAll K G1 ks (as.map fun a => kd (kf a)) → KeysAre K H1 ks (as.map kf))
    (fin : ∀ p vs ps' G1 H1, H0 p = none → G p = none → Same G G1 → TabP G1 ps' q → Sta K G0 H0 D G1 ((p, .lst vs) :: M.set i (P, .tbl ps')) H1 → RpAll K G1 vs ((srtA kf as).map Da) → Q (.ref p) H1) : SoK K P q at_ N js tb σ Q [x] H := by
  refine ⟨ps, hS.get hi, ht.up hS.gh, fun k hc _ => ?_, fun k hn => ?_⟩
  · obtain ⟨c, e1, e2⟩ := ht.2 at_ _ hc
    cases e1
    refine go_soL e2 (hd G (Same.refl G)) hk hS hx fun p vs G1 H1 h0 hg e s r => fin p vs ps G1 H1 h0 hg e (ht.up e) ?_ r
    rw [set_same hi]
    exact s
  · have hg : G k = none := hS.gn hn
    have eu : Same G (upd G k (CodeO k q)) := same_upd hg
    refine go_soL (G := upd G k (CodeO k q)) upd_same (hd _ eu) hk (hS.row hi hn) (hx.elim (fun z => .inl (z.up eu)) fun z => .inr (z.up eu)) fun p vs G1 H1 h0 hg1 e s r => fin p vs _ G1 H1 h0 (eu.free hg1) (eu.trans e) (((ht.up eu).snoc at_ upd_same).up e) s r
end
/-! ### a def that makes lambdas; the end -/
/-- the def's code object stands at c -/
structure FunC (K : PySem.W.Frag) (x qual : Str) (st : Stmt) (f : Addr) (fd : FuncData) (c : Addr) : Prop where
  ex : ∃ (oc : Value) (od : Option Addr) (kV doc pm : Value) (an : Option Addr) (ct : Value) (osl : Array (Option Value)),
    fd = PySem.W.fnOf x qual (defArgs st) (defBody st) (defScope st) .none kV doc pm an (.ref c) ct ∧ K.lookup f = some ⟨oc, od, .func fd, osl⟩ ∧ PySem.W.codeIn K (.ref c) qual = true
section
variable {P : Program} {w : World} {K : PySem.W.Frag} {mg : Str → Option Value} {base : Heap} {x qual : Str} {st : Stmt} {f c : Addr} {fd : FuncData} {N ps : List Str} {k : Nat} {sp : Sp}
theorem FunC.ok (F : FunC K x qual st f fd c) (S : FnScope N ps (defScope st)) (len : ∀ vs H Q E, sp vs H Q E → vs.length = ps.length)
    (hbody : ∀ (A : Around) (outer : List Env) (s : Shared) (H : Hp) (vs : List V) (Q : VK) (E : XK), Room k (A.deeper (envOfC qual (defScope st) s.heap.objs.size f (.ref c))) → sp vs H Q E →
      ∃ t, PSs (cxOf L2.CX0 P w K mg base N qual (defScope st) f (.ref c) A outer s H E).nox (defBody st) t ∧ t { nx := fun _ H' => Q .non H', rt := Q } (L2.start N vs) H) : FnOk P w K mg base L2.CX0 (k + 1) f fd ps sp := by
  obtain ⟨oc, od, kV, doc, pm, an, ct, osl, rfl, lk, hcd⟩ := F.ex
  refine fn_of lk hcd S len fun A outer s H vs Q E hr h => ?_
  obtain ⟨t, h1, h2⟩ := hbody A outer s H vs Q E hr h
  exact ⟨t, h1.nox, h2⟩
theorem funC_mk {oc : Value} {od an : Option Addr} {osl : Array (Option Value)} {kV doc pm ct : Value} (l : K.lookup f = some ⟨oc, od, .func (PySem.W.fnOf x qual (defArgs st) (defBody st) (defScope st) .none kV doc pm an (.ref c) ct), osl⟩)
    (h : PySem.W.codeIn K (.ref c) qual = true) : FunC K x qual st f (PySem.W.fnOf x qual (defArgs st) (defBody st) (defScope st) .none kV doc pm an (.ref c) ct) c := ⟨⟨oc, od, kV, doc, pm, an, ct, osl, rfl, l, h⟩⟩
end
/-- the table of the top's def x is empty at the head -/
def HeadTab (K : PySem.W.Frag) (q : Program) (h : Heap) : Prop := ∀ (x : Str) (c P : Addr), ((recsOf q).any fun e => e.name == x) = true → PySem.W.tabIn K x = some (c, P) → PySem.W.CodeHd h c P ∧ h.get? P = some { cls := .none, data := .fields #[] }
theorem walk_tabs {l : PySem.W.OpenLaw} {n k : Nat} {q : Program} {loose : List Str} {XP : (Str → Option Value) → Heap → Prop} {YP : World → Heap → Prop} {d : DefRec} {K : Params → PySem.W.Frag} {CX : World → CXT} {x : Str}
    (hn : l.most = some n) (hn2 : n ≤ sizeLine) (hdf : d.params.defaults = []) (hr : Room k callerA) (hY : ∀ (w : World) (h : Heap), YP w h → (K w.params).In h)
    (F : ∀ (w : World) (mg : Str → Option Value) (fa : Addr) (h : Heap), YP w h → (K w.params).In h → h.Ns mainGlobals mg → mg d.name = some (.ref fa) → HeadTab (K w.params) q h → LawAtS l w (K w.params) (CX w) k n x mg fa h)
    (hCX : ∀ (w : World) (H : Hp) (s : Shared) (e : Value) (s' : Shared), CX w [] H s (fun _ _ _ => False) e s' → False) : PySem.W.WalkO q loose XP YP l.row.toRowW d [] (fun f vs => PySem.call f vs) := by
  refine Att.attach_callB hn hdf fun w s0 s1 mg mb fa o pm cd doc a vs ns G Y ho hd hcd hmg hobj hints hlen hbits hg => ?_
  have KX := hY w _ Y
  have tabs : HeadTab (K w.params) q s1.heap := fun y c P hy ht => by
    cases e : (recsOf q).find? (fun e => e.name == y) with
    | none =>
      obtain ⟨r, hr, hy⟩ := List.any_eq_true.mp hy
      exact absurd hy (List.find?_eq_none.mp e r hr)
    | some r => exact PySem.W.tab_of G.T KX e ht
  obtain ⟨fd, cs, sp, h1, h2, h3, h4, h5, h6⟩ := F w mg fa _ Y KX G.T.g hmg tabs
  exact law_callTs KX G.T.g G.T.b G.T.builtins G.T.nolimit hg h1 h2 h3 G.T.bmain hobj hints (Nat.le_trans hlen hn2) hr h6 h4 (fun H hH hS => h5 H a ns hlen hbits hH hS) fun H e s' => hCX w H s1 e s'
/-- objects were laid that no one here knows -/
theorem Sta.grow {K : PySem.W.Frag} {G0 H0 G H H' : Hp} {D : List Addr} {M : List (Addr × HO)} (h : Sta K G0 H0 D G M H) (e : Same H H') : Sta K G0 H0 D G M H' where
  g0 := h.g0
  gh := h.gh.trans e
  fr := h.fr
  kp := fun a o z hd => e _ _ (h.kp a o z hd)
  up := fun a z n => by
    cases q : H a with
    | none => exact h.up a z q
    | some o =>
      rw [e _ _ q] at n
      cases n
  md := h.md
  mh := fun q hq => ⟨e _ _ (h.mh q hq).1, (h.mh q hq).2⟩
/-- xs[::-1] -/
def RVK (K : PySem.W.Frag) (Q : VK) (x : V) (H1 : Hp) : Prop := ∃ a xs, x = .ref a ∧ SqL K H1 a xs ∧ ∀ p, H1 p = none → Q (.ref p) (upd H1 p (.lst xs.reverse))
section
variable {K : PySem.W.Frag} {D : List Addr} {G0 H0 G H : Hp} {M : List (Addr × HO)} {Q : VK} {x : V} {te : TE} {σ : L2.St}
theorem go_tRev (h : te σ H fun y H1 => RVK K Q y H1) : tRevL K te σ H Q := h
theorem rpAll_rev : ∀ {vs : List V} {ds : List Dt}, RpAll K G vs ds → RpAll K G vs.reverse ds.reverse
  | [], _, h => by cases h; exact .nil
  | v :: vs, _, h => by
    cases h with
    | cons h1 h2 =>
      rw [List.reverse_cons, List.reverse_cons]
      exact (rpAll_rev h2).app (.one h1)
theorem go_revL {ds : List Dt} (hS : Sta K G0 H0 D G M H) (hx : Rp K G x (.lst ds)) (k : ∀ p G1 H1, Same G G1 → Sta K G0 H0 D G1 M H1 → Rp K G1 (.ref p) (.lst ds.reverse) → Q (.ref p) H1) : RVK K Q x H := by
  obtain ⟨a, xs, rfl, hs, ha⟩ := Rp.lst_inv hx
  exact ⟨a, xs, rfl, hS.gh.seq hs, fun p hp => k p _ _ (same_upd (hS.gn hp)) (hS.imm hp _) (.lst (.inl (.inl upd_same)) ((rpAll_rev ha).up (same_upd (hS.gn hp))))⟩
end
/-- a code object's words, by themselves -/
theorem codeHd_by {K : PySem.W.Frag} {h : Heap} {c P : Addr} {d : Option Addr} {vs : Array Value} {sl : Array (Option Value)} (KX : K.In h) (hl : K.lookup c = some ⟨.type "code", d, .fields vs, sl⟩) (b : PySem.W.codeHdIn [(c, ⟨.type "code", none, .fields vs, #[]⟩)] c P = true) : PySem.W.CodeHd h c P := by
  refine PySem.W.codeHd_of_K KX ?_
  unfold PySem.W.codeHdIn at b ⊢
  rw [hl]
  simpa [List.lookup] using b
end B
/-! lists that others hold are changed: data without lists do not hang on them; a known list of one's own is changed in place -/
namespace B
open PySem L2
mutual
def noL : Dt → Bool
  | .lst _ => false
  | .tup ds => noLs ds
  | .ins _ fs => noLF fs
  | _ => true
def noLs : List Dt → Bool
  | [] => true
  | d :: ds => noL d && noLs ds
def noLF : List (Str × Dt) → Bool
  | [] => true
  | (_, d) :: ds => noL d && noLF ds
end
section
variable {K : PySem.W.Frag} {G G' : Hp} {p : Addr} {ys : List V}
mutual
/-- what holds no list does not hang on the list at p -/
theorem Rp.shed (e : ∀ a, a ≠ p → G' a = G a) (hp : G p = some (.lst ys)) : ∀ (d : Dt) (v : V), noL d = true → Rp K G v d → Rp K G' v d
  | .non, _, _, h => by cases h; exact .non
  | .bl b, _, _, h => by cases h; exact .bl _
  | .int i, _, _, h => by cases h; exact .int _
  | .str x, _, _, h => by cases h; exact .str _
  | .lst ds, _, n, _ => by simp [noL] at n
  | .tup ds, _, n, h => by
    cases h with
    | tup hs ha =>
      refine .tup ?_ (RpAll.shed e hp ds _ (by simpa [noL] using n) ha)
      have keep : ∀ {a : Addr} {o : HO}, G a = some o → (∀ zs, o ≠ .lst zs) → G' a = some o := fun {a o} h no => by
        rw [e a fun z => by subst z; rw [hp] at h; exact no ys (Option.some.inj h).symm]
        exact h
      rcases hs with (hs | ⟨o, hs⟩) | hs
      · exact .inl (.inl (keep hs fun zs z => by cases z))
      · exact .inl (.inr ⟨o, keep hs fun zs z => by cases z⟩)
      · exact .inr hs
  | .ins C ds, _, n, h => by
    cases h with
    | @ins a C dx fs ds hs ha =>
      refine .ins (dx := dx) (fs := fs) ?_ (RpF.shed e hp ds _ (by simpa [noL] using n) ha)
      rw [e a fun z => by subst z; rw [hp] at hs; cases hs]
      exact hs
theorem RpAll.shed (e : ∀ a, a ≠ p → G' a = G a) (hp : G p = some (.lst ys)) : ∀ (ds : List Dt) (vs : List V), noLs ds = true → RpAll K G vs ds → RpAll K G' vs ds
  | [], _, _, h => by cases h; exact .nil
  | d :: ds, _, n, h => by
    simp only [noLs, Bool.and_eq_true] at n
    cases h with
    | cons h1 h2 => exact .cons (Rp.shed e hp d _ n.1 h1) (RpAll.shed e hp ds _ n.2 h2)
theorem RpF.shed (e : ∀ a, a ≠ p → G' a = G a) (hp : G p = some (.lst ys)) : ∀ (ds : List (Str × Dt)) (vs : List (Str × V)), noLF ds = true → RpF K G vs ds → RpF K G' vs ds
  | [], _, _, h => by cases h; exact .nil
  | (f, d) :: ds, _, n, h => by
    simp only [noLF, Bool.and_eq_true] at n
    cases h with
    | cons h1 h2 => exact .cons (Rp.shed e hp d _ n.1 h1) (RpF.shed e hp ds _ n.2 h2)
end
end
section
variable {K : PySem.W.Frag} {G0 H0 G H : Hp} {D : List Addr} {M : List (Addr × HO)} {p : Addr} {o u : HO} {Q : VK}
/-- a known object of one's own is changed in place: what was known ahead of its making stays known -/
theorem Sta.poke (h : Sta K G0 H0 D G M H) (hp : G p = some o) (h0 : H0 p = none) (g0 : G0 p = none) : Sta K G0 H0 D (upd G p u) M (upd H p u) where
  g0 := fun a w e => by
    have e1 := h.g0 a w e
    rw [upd_ne (ne_of_none e g0)]
    exact e1
  gh := same_upd2 h.gh
  fr := fun a ha => by
    have : a ≠ p := fun e => ha (by rw [e]; exact h0)
    rw [upd_ne this]
    exact h.fr a ha
  kp := fun a w ha hd => by
    rw [upd_ne (ne_of_none ha h0)]
    exact h.kp a w ha hd
  up := fun a ha => by
    have : a ≠ p := fun e => ha (by rw [e]; exact h0)
    rw [upd_ne this]
    exact h.up a ha
  md := h.md
  mh := fun q hq => by
    have n : q.1 ≠ p := fun e => by
      have := (h.mh q hq).2.1
      rw [e, hp] at this
      cases this
    rw [upd_ne n, upd_ne n]
    exact h.mh q hq
/-- list(xs), to be changed later -/
theorem go_listM {x : V} {ds : List Dt} (hS : Sta K G0 H0 D G M H) (hx : Rp K G x (.lst ds)) (k : ∀ q xs H1, H0 q = none → G q = none → RpAll K G xs ds → Sta K G0 H0 D G ((q, .lst xs) :: M) H1 → Q (.ref q) H1) : rListOf_ K [x] H Q := by
  obtain ⟨a, xs, rfl, hs, ha⟩ := Rp.lst_inv hx
  exact ⟨a, xs, rfl, .inl (hS.gh.seq hs), fun l hl => k l xs _ (hS.h0 hl) (hS.gn hl) ha (hS.mut hl _)⟩
/-- a list that may change is lent: a frame of one's own, in which it is known -/
theorem Sta.open (h : Sta K G0 H0 D G ((p, o) :: M) H) : Same G (upd G p o) ∧ Sta K (upd G p o) H (M.map (·.1)) (upd G p o) M H := by
  have hp := h.mh _ List.mem_cons_self
  have nd := List.nodup_cons.mp h.md
  refine ⟨same_upd hp.2.1, ⟨Same.refl _, fun b x e => ?_, fun _ _ => rfl, fun _ _ e _ => e, fun _ n => n, nd.2, fun q hq => ?_⟩⟩
  · by_cases hb : b = p
    · subst hb
      rw [upd_same] at e
      cases e
      exact hp.1
    · rw [upd_ne hb] at e
      exact h.gh _ _ e
  · have hq' := h.mh q (List.mem_cons_of_mem _ hq)
    have n : q.1 ≠ p := fun e => nd.1 (by
      show p ∈ M.map (·.1)
      rw [← e]
      exact List.mem_map.mpr ⟨q, hq, rfl⟩)
    exact ⟨hq'.1, by rw [upd_ne n]; exact hq'.2.1, .inl (List.mem_map.mpr ⟨q, hq, rfl⟩)⟩
/-- .. and taken back -/
theorem Sta.close {G1 H1 : Hp} {M1 : List (Addr × HO)} (h : Sta K G0 H0 D G ((p, o) :: M) H) (i : Sta K (upd G p o) H (M.map (·.1)) G1 M1 H1) :
    ∃ G2, Same G G2 ∧ (∀ a, a ≠ p → G2 a = G1 a) ∧ G1 p = some o ∧ Sta K G0 H0 D G2 ((p, o) :: M1) H1 := by
  have hp := h.mh _ List.mem_cons_self
  have nd := List.nodup_cons.mp h.md
  have g1 : G1 p = some o := i.g0 _ _ upd_same
  have g2n : ∀ a, a ≠ p → (fun b => if b = p then none else G1 b) a = G1 a := fun a ha => if_neg ha
  have g2p : (fun b => if b = p then none else G1 b) p = none := if_pos rfl
  generalize hG : (fun b => if b = p then none else G1 b) = G2 at *
  have sg : Same G G2 := fun b x e => by
    have hb : b ≠ p := fun z => by
      subst z
      have := hp.2.1
      rw [e] at this
      cases this
    rw [g2n b hb]
    exact i.g0 _ _ (by rw [upd_ne hb]; exact e)
  refine ⟨G2, sg, g2n, g1, ⟨h.g0.trans sg, fun b x e => ?_, fun a ha => ?_, fun a w ha hd => ?_, fun a ha => i.up a (h.up a ha), ?_, fun q hq => ?_⟩⟩
  · by_cases hb : b = p
    · subst hb
      rw [g2p] at e
      cases e
    · rw [g2n b hb] at e
      exact i.gh _ _ e
  · by_cases hb : a = p
    · subst hb
      rw [g2p, ← h.fr a ha]
      exact hp.2.1.symm
    · rw [g2n a hb, i.fr a (h.up a ha), upd_ne hb]
      exact h.fr a ha
  · refine i.kp a w (h.kp a w ha hd) fun hm => ?_
    obtain ⟨q, hq, e⟩ := List.mem_map.mp hm
    rcases (h.mh q (List.mem_cons_of_mem _ hq)).2.2 with z | z
    · exact hd (by rw [← e]; exact z)
    · rw [e, ha] at z
      cases z
  · refine List.nodup_cons.mpr ⟨fun hm => ?_, i.md⟩
    obtain ⟨q, hq, e⟩ := List.mem_map.mp hm
    have e : q.1 = p := e
    have := (i.mh q hq).2.1
    rw [e, g1] at this
    cases this
  · rcases List.mem_cons.mp hq with rfl | hq
    · exact ⟨i.kp _ _ hp.1 fun hm => nd.1 hm, g2p, hp.2.2⟩
    · obtain ⟨e1, e2, e3⟩ := i.mh q hq
      have n : q.1 ≠ p := fun e => by
        rw [e, g1] at e2
        cases e2
      refine ⟨e1, by rw [g2n _ n]; exact e2, ?_⟩
      rcases e3 with z | z
      · obtain ⟨q', hq', e⟩ := List.mem_map.mp z
        rcases (h.mh q' (List.mem_cons_of_mem _ hq')).2.2 with y | y
        · exact .inl (by rw [← e]; exact y)
        · exact .inr (by rw [← e]; exact y)
      · refine .inr ?_
        cases y : H0 q.1 with
        | none => rfl
        | some w => exact absurd z (h.up _ (by rw [y]; exact fun z => nomatch z))
end
end B
/-! lists of lists whose rows are changed in place: new rows, known objects taken up as changing ones (melt), and frozen again -/
namespace B
open PySem PySem.Spec PyProof.Rows L2 RZ
def rowsM (as : List Addr) (rs : List (List Int)) : List (Addr × HO) := List.zipWith (fun a r => (a, HO.lst (r.map V.int))) as rs
theorem rowsM_keys : ∀ {as : List Addr} {rs : List (List Int)}, as.length = rs.length → (rowsM as rs).map (·.1) = as
  | [], [], _ => rfl
  | [], _ :: _, h => by cases h
  | _ :: _, [], h => by cases h
  | a :: as, r :: rs, h => congrArg (a :: ·) (rowsM_keys (as := as) (rs := rs) (Nat.succ.inj h))
theorem rowsM_get {as : List Addr} {rs : List (List Int)} {i : Nat} (h : as.length = rs.length) (hi : i < rs.length) : (rowsM as rs)[i]? = some (as.getD i 0, .lst ((rs.getD i []).map V.int)) := by
  unfold rowsM
  rw [List.getElem?_zipWith]
  simp [List.getD, show i < as.length by omega, hi]
theorem rowsM_set {as : List Addr} {rs : List (List Int)} {i : Nat} {r : List Int} (h : as.length = rs.length) (hi : i < rs.length) : (rowsM as rs).set i (as.getD i 0, .lst (r.map V.int)) = rowsM as (rs.set i r) := by
  apply List.ext_getElem?
  intro j
  by_cases e : i = j
  · subst e
    rw [rowsM_get (by rw [List.length_set]; exact h) (by rw [List.length_set]; exact hi), List.getElem?_set, if_pos rfl, if_pos (by unfold rowsM; rw [List.length_zipWith]; omega)]
    simp [List.getD, hi]
  · rw [List.getElem?_set_ne e]
    unfold rowsM
    rw [List.getElem?_zipWith, List.getElem?_zipWith, List.getElem?_set_ne e]
theorem rowsM_mem {as : List Addr} {rs : List (List Int)} (h : as.length = rs.length) {q : Addr × HO} (hq : q ∈ rowsM as rs) : ∃ i, i < rs.length ∧ q = (as.getD i 0, .lst ((rs.getD i []).map V.int)) := by
  obtain ⟨i, hi⟩ := List.mem_iff_getElem?.mp hq
  have : i < rs.length := by
    have := (List.getElem?_eq_some_iff.mp hi).1
    unfold rowsM at this
    rw [List.length_zipWith] at this
    omega
  rw [rowsM_get h this] at hi
  exact ⟨i, this, (Option.some.inj hi).symm⟩
theorem rowsM_snoc {as : List Addr} {rs : List (List Int)} {a : Addr} {r : List Int} (h : as.length = rs.length) : rowsM (as ++ [a]) (rs ++ [r]) = rowsM as rs ++ [(a, .lst (r.map V.int))] := by
  unfold rowsM
  rw [List.zipWith_append h]
  rfl
theorem rowsM_paired {G : Hp} : ∀ {as : List Addr} {rs : List (List Int)}, as.length = rs.length → (∀ q ∈ rowsM as rs, G q.1 = some q.2) → Paired (RawI G) (as.map V.ref) rs
  | [], [], _, _ => .nil
  | [], _ :: _, h, _ => by cases h
  | _ :: _, [], h, _ => by cases h
  | a :: as, r :: rs, h, hq => .cons ⟨a, rfl, hq (a, .lst (r.map V.int)) List.mem_cons_self⟩ (rowsM_paired (Nat.succ.inj h) fun q hm => hq q (List.mem_cons_of_mem _ hm))
section
variable {K : PySem.W.Frag} {G0 H0 G H G1 : Hp} {D : List Addr} {M M' N : List (Addr × HO)} {σ : L2.St} {Q : VK} {tt : TT} {te : TE} {vss : List Nat} {p : Addr} {o : HO}
theorem Sta.perm (h : Sta K G0 H0 D G M H) (p : M.Perm M') : Sta K G0 H0 D G M' H :=
  ⟨h.g0, h.gh, h.fr, h.kp, h.up, (p.map _).nodup_iff.mp h.md, fun q hq => h.mh q (p.mem_iff.mpr hq)⟩
theorem Sta.frzs : ∀ (N : List (Addr × HO)) {G : Hp}, Sta K G0 H0 D G (N ++ M) H → (∀ q ∈ N, H0 q.1 = none) → ∃ G1, Same G G1 ∧ Sta K G0 H0 D G1 M H ∧ ∀ q ∈ N, G1 q.1 = some q.2
  | [], G, h, _ => ⟨G, Same.refl G, h, fun q hq => by cases hq⟩
  | (p, o) :: N, G, h, h0 => by
    obtain ⟨s, e⟩ := Sta.frz (M := N ++ M) h (h0 (p, o) List.mem_cons_self)
    obtain ⟨G1, e1, s1, k⟩ := Sta.frzs N s fun q hq => h0 q (List.mem_cons_of_mem _ hq)
    refine ⟨G1, e.trans e1, s1, fun q hq => ?_⟩
    rcases List.mem_cons.mp hq with rfl | hq
    · exact e1 _ _ upd_same
    · exact k q hq
open Classical in
noncomputable def hole (G : Hp) (as : List Addr) : Hp := fun a => if a ∈ as then none else G a
theorem hole_ne {as : List Addr} {a : Addr} (h : a ∉ as) : hole G as a = G a := if_neg h
theorem hole_in {as : List Addr} {a : Addr} (h : a ∈ as) : hole G as a = none := if_pos h
theorem hole_same {as : List Addr} (e : Same G G1) (h : ∀ a ∈ as, G a = none) : Same G (hole G1 as) := fun a o ha => by
  rw [hole_ne fun z => by rw [h a z] at ha; cases ha]
  exact e _ _ ha
/-- known objects of one's own are taken up as changing ones -/
theorem Sta.melt (h : Sta K G0 H0 D G M H) (N : List (Addr × HO)) (hn : ∀ q ∈ N, G q.1 = some q.2) (h0 : ∀ q ∈ N, H0 q.1 = none) (g0 : ∀ q ∈ N, G0 q.1 = none) (nd : (N.map (·.1)).Nodup) : Sta K G0 H0 D (hole G (N.map (·.1))) (N ++ M) H := by
  have inN : ∀ {a : Addr}, a ∈ N.map (·.1) → ∃ q ∈ N, q.1 = a := fun {a} hm => by
    obtain ⟨q, hq, e⟩ := List.mem_map.mp hm
    exact ⟨q, hq, e⟩
  have mn : ∀ q ∈ M, q.1 ∉ N.map (·.1) := fun q hq hm => by
    obtain ⟨r, hr, e⟩ := inN hm
    have e1 := hn r hr
    rw [e, (h.mh q hq).2.1] at e1
    cases e1
  refine ⟨hole_same h.g0 fun a ha => ?_, fun a x e => ?_, fun a ha => ?_, h.kp, h.up, ?_, fun q hq => ?_⟩
  · obtain ⟨q, hq, rfl⟩ := inN ha
    exact g0 q hq
  · have ne : a ∉ N.map (·.1) := fun z => by rw [hole_in z] at e; cases e
    rw [hole_ne ne] at e
    exact h.gh _ _ e
  · have ne : a ∉ N.map (·.1) := fun z => by
      obtain ⟨q, hq, rfl⟩ := inN z
      exact ha (h0 q hq)
    rw [hole_ne ne]
    exact h.fr a ha
  · rw [List.map_append]
    refine List.nodup_append.mpr ⟨nd, h.md, fun a ha b hb e => ?_⟩
    subst e
    obtain ⟨q, hq, e⟩ := List.mem_map.mp hb
    exact mn q hq (by rw [show q.1 = a from e]; exact ha)
  · rcases List.mem_append.mp hq with hq | hq
    · exact ⟨h.gh _ _ (hn q hq), hole_in (List.mem_map.mpr ⟨q, hq, rfl⟩), .inr (h0 q hq)⟩
    · obtain ⟨e1, e2, e3⟩ := h.mh q hq
      exact ⟨e1, by rw [hole_ne (mn q hq)]; exact e2, e3⟩
/-- a new list of ints by a comprehension over a range: the list is new -/
theorem lcNewI {lo : Int} {n : Nat} {g : TG} {F : Nat → Int} (hS : Sta K G0 H0 D G M H) (hl : n ≤ 100000)
    (hs : ∀ (i : Nat) L G1 vs H1 (Z : VK) (ZP : Hp → Prop), i < n → Same G G1 → H0 L = none → Sta K G0 H0 D G1 ((L, .lst vs) :: M) H1 → (∀ G2 H2, Same G1 G2 → Sta K G0 H0 D G2 ((L, .lst vs) :: M) H2 → Z (.int (F i)) H2) →
      g (.int (lo + i)) (wipe σ vss) H1 fun σ2 H3 => wipe σ2 vss = wipe σ vss ∧ tt σ2 H3 fun b H4 => if b = true then te σ2 H4 Z else ZP H4)
    (hd : ∀ p G1 H1, H p = none → Same G G1 → Sta K G0 H0 D G1 M H1 → G1 p = some (.lst (((List.range n).map F).map .int)) → Q (.ref p) H1) : LcG (Itr lo n) g tt te vss σ Q H := by
  intro L hL
  have l0 := hS.h0 hL
  refine lc_it walk_range (fun i H1 => ∃ G1, Same G G1 ∧ Sta K G0 H0 D G1 ((L, .lst (((List.range i).map F).map .int)) :: M) H1) ⟨G, Same.refl G, hS.mut hL _⟩ (fun i H1 _ _ => trivial) (fun i x H1 H2 hi p y => ?_) (fun H1 p => ?_)
  · obtain ⟨G1, e, s⟩ := p
    obtain ⟨rfl, rfl⟩ := y
    refine hs i L G1 _ H2 _ _ hi e l0 s fun G2 H3 e2 s2 => ?_
    refine ⟨_, s2.get (i := 0) rfl, by simp; exact Nat.lt_of_lt_of_le (show i < 100000 by omega) (by decide), G2, e.trans e2, ?_⟩
    have s3 := s2.set (i := 0) rfl (.lst (((List.range (i + 1)).map F).map .int))
    have el : ((List.range (i + 1)).map F).map V.int = ((List.range i).map F).map V.int ++ [.int (F i)] := by
      rw [List.range_succ, List.map_append, List.map_append]
      rfl
    rw [el] at s3 ⊢
    exact s3
  · obtain ⟨G1, e, s⟩ := p
    obtain ⟨s2, e2⟩ := s.frz l0
    exact hd L _ H1 hL (e.trans e2) s2 upd_same
/-- a new list of new rows -/
theorem lcNewR {lo : Int} {n : Nat} {g : TG} {F : Nat → List Int} (hS : Sta K G0 H0 D G M H) (hl : n ≤ 100000)
    (hs : ∀ (i : Nat) L G1 vs H1 (Z : VK) (ZP : Hp → Prop), i < n → Same G G1 → H0 L = none → Sta K G0 H0 D G1 ((L, .lst vs) :: M) H1 → (∀ a G2 H2, H1 a = none → Same G1 G2 → Sta K G0 H0 D G2 ((L, .lst vs) :: M) H2 → G2 a = some (.lst ((F i).map .int)) → Z (.ref a) H2) →
      g (.int (lo + i)) (wipe σ vss) H1 fun σ2 H3 => wipe σ2 vss = wipe σ vss ∧ tt σ2 H3 fun b H4 => if b = true then te σ2 H4 Z else ZP H4)
    (hd : ∀ p as G1 H1, H p = none → Same G G1 → Sta K G0 H0 D G1 M H1 → G1 p = some (.lst (as.map .ref)) → as.Nodup → as.length = n → (∀ a ∈ as, H0 a = none) → (∀ q ∈ rowsM as ((List.range n).map F), G1 q.1 = some q.2) → Q (.ref p) H1) : LcG (Itr lo n) g tt te vss σ Q H := by
  intro L hL
  have l0 := hS.h0 hL
  refine lc_it walk_range (fun i H1 => ∃ G1 as, Same G G1 ∧ Sta K G0 H0 D G1 ((L, .lst (as.map .ref)) :: M) H1 ∧ as.Nodup ∧ as.length = i ∧ (∀ a ∈ as, H0 a = none) ∧ (∀ q ∈ rowsM as ((List.range i).map F), G1 q.1 = some q.2)) ⟨G, [], Same.refl G, hS.mut hL _, .nil, rfl, (fun a ha => by cases ha), fun q hq => by cases hq⟩ (fun i H1 _ _ => trivial) (fun i x H1 H2 hi p y => ?_) (fun H1 p => ?_)
  · obtain ⟨G1, as, e, s, nd, al, new, rws⟩ := p
    obtain ⟨rfl, rfl⟩ := y
    refine hs i L G1 _ H2 _ _ hi e l0 s fun a G2 H3 ha e2 s2 ga => ?_
    have gn := s.gn ha
    have an : a ∉ as := fun hm => by
      obtain ⟨k, hk⟩ := List.mem_iff_getElem?.mp hm
      have hk1 : k < as.length := (List.getElem?_eq_some_iff.mp hk).1
      have := rws _ (List.mem_of_getElem? (rowsM_get (i := k) (by simp [al]) (by simp; omega)))
      have ek : as.getD k 0 = a := by simp [List.getD, hk]
      dsimp only at this
      rw [ek, gn] at this
      cases this
    refine ⟨_, s2.get (i := 0) rfl, by simp [al]; exact Nat.lt_of_lt_of_le (show i < 100000 by omega) (by decide), G2, as ++ [a], e.trans e2, ?_, ?_, by simp [al], fun b hb => ?_, fun q hq => ?_⟩
    · rw [List.map_append]
      exact s2.set (i := 0) rfl _
    · refine List.nodup_append.mpr ⟨nd, by simp, fun c hc d hd z => ?_⟩
      rw [List.mem_singleton] at hd
      subst z
      subst hd
      exact an hc
    · rcases List.mem_append.mp hb with hb | hb
      · exact new b hb
      · rw [List.mem_singleton.mp hb]
        exact s.h0 ha
    · rw [List.range_succ, List.map_append, show List.map F [i] = [F i] from rfl, rowsM_snoc (by simp [al])] at hq
      rcases List.mem_append.mp hq with hq | hq
      · exact e2 _ _ (rws q hq)
      · rw [List.mem_singleton.mp hq]
        exact ga
  · obtain ⟨G1, as, e, s, nd, al, new, rws⟩ := p
    obtain ⟨s2, e2⟩ := s.frz l0
    exact hd L as _ H1 hL (e.trans e2) s2 upd_same nd al new fun q hq => e2 _ _ (rws q hq)
end
end B
namespace B
open PySem PySem.Spec PyProof.Rows L2 RZ
/-! ### a map over the rows, row by row -/
def mapTo (f : List Int → List Int) (rs : List (List Int)) (i : Nat) : List (List Int) := (rs.take i).map f ++ rs.drop i
theorem mapTo_zero (f : List Int → List Int) (rs : List (List Int)) : mapTo f rs 0 = rs := rfl
theorem mapTo_all {f : List Int → List Int} {rs : List (List Int)} {i : Nat} (h : rs.length ≤ i) : mapTo f rs i = rs.map f := by
  unfold mapTo
  rw [List.take_of_length_le h, List.drop_of_length_le h, List.append_nil]
theorem mapTo_len {f : List Int → List Int} {rs : List (List Int)} {i : Nat} : (mapTo f rs i).length = rs.length := by
  unfold mapTo
  rw [List.length_append, List.length_map, List.length_take, List.length_drop]
  omega
theorem mapTo_get {f : List Int → List Int} {rs : List (List Int)} {i : Nat} (h : i < rs.length) : (mapTo f rs i).getD i [] = rs.getD i [] := by
  unfold mapTo
  rw [List.getD, List.getElem?_append_right (by simp; omega)]
  simp [List.getD, Nat.min_eq_left (Nat.le_of_lt h)]
theorem mapTo_set {f : List Int → List Int} {rs : List (List Int)} {i : Nat} (h : i < rs.length) : (mapTo f rs i).set i (f (rs.getD i [])) = mapTo f rs (i + 1) := by
  unfold mapTo
  have hl : ((rs.take i).map f).length = i := by simp; omega
  rw [List.set_append, if_neg (by omega), hl, Nat.sub_self, List.drop_eq_getElem_cons h, List.set_cons_zero, List.take_add_one, List.getElem?_eq_getElem h, List.map_append]
  simp [List.getD, h]
theorem refs_ints {as : List Addr} {r : List Int} (h : as.map V.ref = r.map V.int) : as = [] := by
  cases as with
  | nil => rfl
  | cons a as =>
    cases r with
    | nil => cases h
    | cons x r => cases h
theorem atI_rowV {r : List Int} {j : Nat} (h : j < r.length) : L2.atI (r.map V.int) (j : Int) = some (.int (r.getD j 0)) := by
  refine L2.atI_nat ?_
  rw [List.getElem?_map, List.getElem?_eq_getElem h]
  simp [List.getD, h]
end B
namespace B
open PySem PySem.Spec PyProof.Rows L2 RZ
/-- list * n, to be changed later -/
theorem go_repM {K : PySem.W.Frag} {G0 H0 G H : Hp} {D : List Addr} {M : List (Addr × HO)} {Q : VK} {l : Addr} {k : Int} {xs : List V} (hS : Sta K G0 H0 D G M H) (hx : H l = some (.lst xs)) (hk : 0 ≤ k) (hk2 : k ≤ 1000) (hl : xs.length * k.toNat ≤ 100000) (q : ∀ p H1, H0 p = none → G p = none → Sta K G0 H0 D G ((p, .lst (List.replicate k.toNat xs).flatten) :: M) H1 → Q (.ref p) H1) : rRep (.ref l) (.int k) H Q :=
  ⟨l, k, xs, rfl, rfl, hx, by omega, by omega, sz hl, fun p hp => q p _ (hS.h0 hp) (hS.gn hp) (hS.mut hp _)⟩
end B
namespace B
open PySem PySem.Spec PyProof.Rows L2 RZ
/-- tuple(xs), xs a list that may change -/
theorem go_tupM {K : PySem.W.Frag} {G0 H0 G H : Hp} {D : List Addr} {M : List (Addr × HO)} {Q : VK} {p : Addr} {xs : List V} {ds : List Dt} {i : Nat} (hS : Sta K G0 H0 D G M H) (hi : M[i]? = some (p, .lst xs)) (hx : RpAll K G xs ds) (q : ∀ l G1 H1, Same G G1 → Sta K G0 H0 D G1 M H1 → Rp K G1 (.ref l) (.tup ds) → Q (.ref l) H1) : rTupOf_ K [.ref p] H Q :=
  ⟨p, xs, rfl, .inl ⟨SqL.of (hS.get hi), fun l hl => q l _ _ (same_upd (hS.gn hl)) (hS.imm hl _) (.tup (.inl (.inl upd_same)) (hx.up (same_upd (hS.gn hl))))⟩⟩
end B
/-! zip of two sequences, each a list or a tuple -/
namespace B
open PySem PySem.Spec PyProof.Rows L2 RZ
def ItrAt (k : Bool) (h : Heap) (it a : Addr) (i : Nat) : Prop := if k = true then h.IsTupleIter it a i else h.IsListIter it a i
def SeqK (k : Bool) (h : Heap) (a : Addr) (items : Array Value) : Prop := if k = true then h.IsTuple a items else h.IsList a items
def SqK (k : Bool) (K : PySem.W.Frag) (H : Hp) (a : Addr) (xs : List V) : Prop := if k = true then SqT K H a xs else SqL K H a xs
theorem SqK.up {k : Bool} {K : PySem.W.Frag} {H H' : Hp} {a : Addr} {xs : List V} (e : Same H H') (h : SqK k K H a xs) : SqK k K H' a xs := by
  cases k with
  | true => exact Same.t e h
  | false => exact e.seq (show SqL K H a xs from h)
theorem drawsK (k : Bool) {prog : Program} {w : World} {A : Around} (hh : A.handled = none) (it a : Addr) (ne : a ≠ it) (items : Array Value) :
    Draws prog w A it [it, a] items.size (fun i v => items[i]? = some v) (fun i h => ItrAt k h it a i ∧ SeqK k h a items) := by
  cases k with
  | true => exact Draws.tuple hh it a ne items
  | false => exact Draws.list hh it a ne items
theorem ItrAt.ob {k : Bool} {h : Heap} {it a : Addr} {i : Nat} (x : ItrAt k h it a i) : ∃ o, h.get? it = some o ∧ ∀ v, o.data ≠ .cell v := by
  cases k with
  | true =>
    obtain ⟨o, e, _, d⟩ := (show h.IsTupleIter it a i from x)
    exact ⟨o, e, fun v q => by rw [d] at q; cases q⟩
  | false =>
    obtain ⟨o, e, _, d⟩ := (show h.IsListIter it a i from x)
    exact ⟨o, e, fun v q => by rw [d] at q; cases q⟩
theorem ItrAt.to {k : Bool} {h h' : Heap} {it a : Addr} {i : Nat} (x : ItrAt k h it a i) (e : ∀ o, h.get? it = some o → h'.get? it = some o) : ItrAt k h' it a i := by
  cases k with
  | true => exact Heap.IsTupleIter.at (show h.IsTupleIter it a i from x) e
  | false => exact Heap.IsListIter.at (show h.IsListIter it a i from x) e
theorem invK {X : Cx} {pins : List (Addr × Obj)} {σ : L2.St} {H : Hp} {s : Shared} (I : Inv X pins σ H s) {k : Bool} {a : Addr} {xs : List V} (q : SqK k X.K H a xs) : ∃ its, Vals xs its ∧ SeqK k s.heap a its.toArray ∧ a < s.heap.objs.size := by
  cases k with
  | true =>
    obtain ⟨its, rv, p, _⟩ := I.tuple (show SqT X.K H a xs from q)
    have ⟨o, ho, _⟩ := p
    exact ⟨its, rv, p, Heap.lt_size ho⟩
  | false =>
    obtain ⟨its, rv, p, _⟩ := I.list (show SqL X.K H a xs from q)
    exact ⟨its, rv, p.isList, p.lt⟩
theorem injK {X : Cx} {pins : List (Addr × Obj)} {σ : L2.St} {H : Hp} {s : Shared} (I : Inv X pins σ H s) {k : Bool} {a : Addr} {xs ys : List V} (p : SqK k X.K H a xs) (q : SqK k X.K H a ys) : xs = ys := by
  cases k with
  | true => exact I.tuple_inj (show SqT X.K H a xs from p) q
  | false => exact I.list_inj (show SqL X.K H a xs from p) q
/-- both as they stand at each turn, the items in new pairs -/
def ItzM (k1 k2 : Bool) (K : PySem.W.Frag) (a b : Addr) : It :=
  ⟨fun i H => ∃ xs ys x y, SqK k1 K H a xs ∧ SqK k2 K H b ys ∧ xs[i]? = some x ∧ ys[i]? = some y,
    fun i H v H' => ∃ T x y, v = .ref T ∧ H T = none ∧ H' = upd H T (.tup [x, y]) ∧ (∀ xs, SqK k1 K H a xs → xs[i]? = some x) ∧ ∀ ys, SqK k2 K H b ys → ys[i]? = some y,
    fun i H => ∃ xs ys, SqK k1 K H a xs ∧ SqK k2 K H b ys ∧ i = min xs.length ys.length⟩
abbrev zCells (N : Nat) : List Addr := [N + 4, N + 2, N + 3, N, N + 1]
theorem zCells_of {N : Nat} {c : Addr} (h : c ∈ zCells N) : c = N + 4 ∨ c = N + 2 ∨ c = N + 3 ∨ c = N ∨ c = N + 1 := by simpa using h
theorem turn_zipM {P : Program} {w : World} {K : PySem.W.Frag} {elts : List Expr} {kk : Nat} {tpos : Pos} {k1 k2 : Bool} {a b : Addr} {N : Nat} (la : a < N) (lb : b < N) :
    Turn P w K (.Tuple elts kk tpos) (ItzM k1 k2 K a b) (zCells N) (N + 4) (fun i h => IsZip h (N + 4) (N + 2) (N + 3) .none ∧ IsTupOf2 h (N + 2) (.ref N) (.ref (N + 1)) ∧ (∃ x y, IsTupOf2 h (N + 3) x y) ∧ ItrAt k1 h N a i ∧ ItrAt k2 h (N + 1) b i) where
  mem := List.mem_cons_self
  obj := fun i h st c hc => by
    obtain ⟨hz, hI, ⟨x, y, hO⟩, h1, h2⟩ := st
    rcases zCells_of hc with q | q | q | q | q <;> rw [q]
    · exact ⟨_, hz, fun v z => nomatch z⟩
    · exact ⟨_, hI, fun v z => nomatch z⟩
    · exact ⟨_, hO, fun v z => nomatch z⟩
    · exact h1.ob
    · exact h2.ob
  keep := fun i h h' st e => by
    obtain ⟨hz, hI, ⟨x, y, hO⟩, h1, h2⟩ := st
    exact ⟨e _ (by simp) _ hz, e _ (by simp) _ hI, ⟨x, y, e _ (by simp) _ hO⟩, h1.to fun o z => e _ (by simp) o z, h2.to fun o z => e _ (by simp) o z⟩
  item := by
    intro X hP hw hK hc i pins s σ H E I hf st hg
    subst hP hw hK
    obtain ⟨hz, hI, ⟨x0, y0, hO⟩, h1, h2⟩ := st
    obtain ⟨xs, ys, x, y, qx, qy, hx, hy⟩ := hg
    obtain ⟨us, rv, p1, _⟩ := invK I qx
    obtain ⟨ws, rw', p2, _⟩ := invK I qy
    obtain ⟨u, hu, ru⟩ := rv.get hx
    obtain ⟨v, hv, rv2⟩ := rw'.get hy
    have l1 : i < us.toArray.size := by simpa using (List.getElem?_eq_some_iff.mp hu).1
    have l2 : i < ws.toArray.size := by simpa using (List.getElem?_eq_some_iff.mp hv).1
    have hh : X.A.in1.handled = none := I.ok.hd hc
    have S := zip_sep2 (N := N) (fp1 := [a]) (fp2 := [b]) (fun c z => by rw [List.mem_singleton.mp z]; exact la) (fun c z => by rw [List.mem_singleton.mp z]; exact lb)
    refine wpAny_pyNext_zipD2_item S (drawsK k1 hh N a (Nat.ne_of_lt la) us.toArray) (drawsK k2 hh (N + 1) b (Nat.ne_of_lt (Nat.lt_succ_of_lt lb)) ws.toArray) hz hI hO ⟨h1, p1⟩ ⟨h2, p2⟩ l1 l2 fun u' v' g tk e1 e2 z1 o1 d1 d2 t1 sz kp => ?_
    have eu : u' = u := by
      have z : us.toArray[i]? = some u := by simpa using hu
      rw [z] at e1
      exact (Option.some.inj e1).symm
    have ev : v' = v := by
      have z : ws.toArray[i]? = some v := by simpa using hv
      rw [z] at e2
      exact (Option.some.inj e2).symm
    subst eu
    subst ev
    have zlt : N + 4 < s.heap.objs.size := Heap.lt_size hz
    refine ⟨_, rfl, wpAny_letOwnedTupleGo_zip (s := { s with heap := g, toks := tk }) z1 fun g2 z2 sb => ?_⟩
    have ht : g2.get? s.heap.objs.size = some { cls := .type "tuple", data := .seq #[u', v'] } := (sb.2 _ (Nat.ne_of_gt zlt)).trans t1
    have new : ObjOk X.prog X.w (upd H s.heap.objs.size (.tup [x, y])) g2 s.heap.objs.size (.tup [x, y]) :=
      ⟨show 2 ≤ sizeLine by decide, [u', v'], .cons ru (.cons rv2 .nil), _, ht, rfl, _, rfl⟩
    have old : ∀ c o, c ∉ zCells N → s.heap.get? c = some o → g2.get? c = some o := fun c o hb z =>
      (sb.2 c fun e => hb (by simp [e])).trans (kp c o (fun e => hb (by simp [e])) (fun e => hb (by simp [e])) (fun e => hb (by simp [e])) (fun e => hb (by simp [e])) z)
    have I1 : Inv X pins σ (upd H s.heap.objs.size (.tup [x, y])) { s with heap := g2, toks := tk } := I.turnedNew (ch := zCells N) (fun c o hb z => old c o hb z) hf (Nat.le_refl _) new
    refine ⟨.ref s.heap.objs.size, _, I1, rfl, ⟨_, x, y, rfl, I.hok.fresh (Nat.le_refl _), rfl, fun l hl => by rw [injK I hl qx]; exact hx, fun l hl => by rw [injK I hl qy]; exact hy⟩, ⟨z2, ?_, ⟨u', v', ?_⟩, ?_, ?_⟩, fun c hcm => ?_⟩
    · exact (sb.2 _ S.TIz).trans (kp _ _ S.TIz S.TITO S.TIi1 S.TIi2 hI)
    · exact (sb.2 _ S.TOz).trans o1
    · exact d1.1.to fun o z => (sb.2 _ (fun e => S.zi1 e.symm)).trans z
    · exact d2.1.to fun o z => (sb.2 _ (fun e => S.zi2 e.symm)).trans z
    · have lt : c < s.heap.objs.size := by
        have zz : (N + 4 : Nat) < s.heap.objs.size := zlt
        rcases zCells_of hcm with q | q | q | q | q
        · rw [q]; exact zz
        · rw [q]; exact (show (N + 2 : Nat) < s.heap.objs.size by omega)
        · rw [q]; exact (show (N + 3 : Nat) < s.heap.objs.size by omega)
        · rw [q]; exact (show (N : Nat) < s.heap.objs.size by omega)
        · rw [q]; exact (show (N + 1 : Nat) < s.heap.objs.size by omega)
      rw [upd_ne (Nat.ne_of_lt lt)]
      exact (hf c hcm).1
  done := by
    intro X hP hw hK hc i pins s σ H E I hf st hg
    subst hP hw hK
    obtain ⟨hz, hI, ⟨x0, y0, hO⟩, h1, h2⟩ := st
    obtain ⟨xs, ys, qx, qy, hend⟩ := hg
    obtain ⟨us, rv, p1, _⟩ := invK I qx
    obtain ⟨ws, rw', p2, _⟩ := invK I qy
    have l1 : us.toArray.size = xs.length := by rw [List.size_toArray]; exact rv.length.symm
    have l2 : ws.toArray.size = ys.length := by rw [List.size_toArray]; exact rw'.length.symm
    have hh : X.A.in1.handled = none := I.ok.hd hc
    have S := zip_sep2 (N := N) (fp1 := [a]) (fp2 := [b]) (fun c z => by rw [List.mem_singleton.mp z]; exact la) (fun c z => by rw [List.mem_singleton.mp z]; exact lb)
    refine wpAny_pyNext_zipD2_end S (drawsK k1 hh N a (Nat.ne_of_lt la) us.toArray) (drawsK k2 hh (N + 1) b (Nat.ne_of_lt (Nat.lt_succ_of_lt lb)) ws.toArray) hz hI hO ⟨h1, p1⟩ ⟨h2, p2⟩ (by omega) (by omega) (by omega) fun g tk kp => ⟨rfl, ?_⟩
    exact I.turnedL (t' := tk) (ch := zCells N) (fun c o hb z => kp c o (fun e => hb (by simp [e])) (fun e => hb (by simp [e])) (fun e => hb (by simp [e])) (fun e => hb (by simp [e])) z) hf
  self := fun A i s Q E st h => wpAny_pyIter_zip st.1 h
def iZipM (K : PySem.W.Frag) (ta : TA) : TI := fun σ H R => ta σ H fun vs H1 => ∃ k1 k2 a b xs ys, vs = [.ref a, .ref b] ∧ SqK k1 K H1 a xs ∧ SqK k2 K H1 b ys ∧ R (ItzM k1 k2 K a b) H1
theorem beginsK (k : Bool) (a : Addr) (items : Array Value) : ∃ o, Begins (.ref a) o (fun h => SeqK k h a items) ∧ ∀ h it, h.get? it = some o → ItrAt k h it a 0 := by
  cases k with
  | true => exact ⟨_, begins_tuple a items, fun h it e => ⟨_, e, rfl, rfl⟩⟩
  | false => exact ⟨_, begins_list a items, fun h it e => ⟨_, e, rfl, rfl⟩⟩
theorem pi_zipM {X : Cx} {e e2 : Expr} {ta : TA} {p pos tpos : Pos} {elts : List Expr} {kk : Nat} (hg : Gl X "zip") (hm : X.mg "zip" = none) (ha : PA X [e, e2] ta)
    (hs : starEach [e, e2] X.env = (false, eval e X.env) :: starEach [e2] X.env := by rfl) (hb : (backTo pos (starEach [e2] X.env)).any (·.1) = false := by rfl) :
    PI X (.Tuple elts kk tpos) (.Call (.Name "zip" p) [e, e2] [] pos) (iZipM X.K ta) := by
  refine ⟨fun pins s σ H R I h => ?_⟩
  refine Call_ (ld_blt I hg hm boot_zip (callWith_type1 (thn (ha.run pos pins s σ H _ I h) fun us s1 ⟨vs, H1, I1, r1, q1⟩ => ?_) hs hb))
  obtain ⟨k1, k2, a, b, xs, ys, rfl, qx, qy, q⟩ := q1
  obtain ⟨u, v, rfl, ru, rv⟩ : ∃ u v, us = [u, v] ∧ RelV (.ref a) u ∧ RelV (.ref b) v := by
    cases r1 with
    | cons r rr =>
      cases rr with
      | cons r' rr =>
        cases rr
        exact ⟨_, _, rfl, r, r'⟩
  cases ru
  cases rv
  obtain ⟨us, rv, p1, la⟩ := invK I1 qx
  obtain ⟨ws, rw', p2, lb⟩ := invK I1 qy
  obtain ⟨o1, B1, i1⟩ := beginsK k1 a us.toArray
  obtain ⟨o2, B2, i2⟩ := beginsK k2 b ws.toArray
  refine zip_begins2 B1 B2 p1 p2 fun g hz hI hO g1 g2 sz kp => wpAny_pyIter_zip hz ?_
  have I2 : Inv X pins σ H1 { s1 with heap := g } := I1.kept (t' := s1.toks) kp
  refine ⟨s1.heap.objs.size + 4, zCells s1.heap.objs.size, _, _, H1, rfl, I2, turn_zipM la lb, ⟨hz, hI, ⟨_, _, hO⟩, i1 _ _ g1, i2 _ _ g2⟩, fun c hc => ?_, q⟩
  have le : s1.heap.objs.size ≤ c := by
    rcases zCells_of hc with z | z | z | z | z <;> rw [z] <;> omega
  exact I1.fpOk le (I1.hok.fresh le)
theorem walk_zM {k1 k2 : Bool} {K : PySem.W.Frag} {a b : Addr} {xs ys : List V} : Walk (ItzM k1 k2 K a b) (min xs.length ys.length) (fun H => SqK k1 K H a xs ∧ SqK k2 K H b ys) (fun i H v H' => ∃ T x y, v = .ref T ∧ H T = none ∧ H' = upd H T (.tup [x, y]) ∧ xs[i]? = some x ∧ ys[i]? = some y) :=
  ⟨fun i H hi q => ⟨xs, ys, xs[i]'(by omega), ys[i]'(by omega), q.1, q.2, List.getElem?_eq_getElem _, List.getElem?_eq_getElem _⟩, fun H q => ⟨xs, ys, q.1, q.2, rfl⟩, fun i H v H' hi q z => by
    obtain ⟨T, x, y, e1, e2, e3, h1, h2⟩ := z
    exact ⟨T, x, y, e1, e2, e3, h1 xs q.1, h2 ys q.2⟩⟩
end B
namespace B
open PySem PySem.Spec PyProof.Rows L2 RZ
def seqD (k : Bool) (ds : List Dt) : Dt := if k = true then .tup ds else .lst ds
theorem Rp.seq_inv {K : PySem.W.Frag} {G : Hp} {k : Bool} {v : V} {ds : List Dt} (h : Rp K G v (seqD k ds)) : ∃ a xs, v = .ref a ∧ SqK k K G a xs ∧ RpAll K G xs ds := by
  cases k with
  | true =>
    obtain ⟨a, xs, e, q, r⟩ := Rp.tup_inv (show Rp K G v (.tup ds) from h)
    exact ⟨a, xs, e, q, r⟩
  | false =>
    obtain ⟨a, xs, e, q, r⟩ := Rp.lst_inv (show Rp K G v (.lst ds) from h)
    exact ⟨a, xs, e, q, r⟩
section
variable {K : PySem.W.Frag} {G0 H0 G H : Hp} {D : List Addr} {M : List (Addr × HO)} {σ σ' : L2.St} {Q : VK} {tt : TT} {ta te : TE} {t : TA} {ts : TS} {ds fs : List Dt} {vss : List Nat} {nx bk ct : L2.St → Hp → Prop} {rt : VK} {x y : V} {k1 k2 : Bool}
def ZMK (K : PySem.W.Frag) (k : It → Hp → Prop) (vs : List V) (H : Hp) : Prop := ∃ k1 k2 a b xs ys, vs = [.ref a, .ref b] ∧ SqK k1 K H a xs ∧ SqK k2 K H b ys ∧ k (ItzM k1 k2 K a b) H
theorem go_iZipM {k : It → Hp → Prop} (h : t σ H fun vs H1 => ZMK K k vs H1) : iZipM K t σ H k := h
theorem go_zmk {k : It → Hp → Prop} (hx : Rp K G x (seqD k1 ds)) (hy : Rp K G y (seqD k2 fs)) (e : Same G H) (h : ∀ a b xs ys, x = .ref a → y = .ref b → SqK k1 K G a xs → RpAll K G xs ds → SqK k2 K G b ys → RpAll K G ys fs → k (ItzM k1 k2 K a b) H) : ZMK K k [x, y] H := by
  obtain ⟨a, xs, rfl, hs, ha⟩ := hx.seq_inv
  obtain ⟨b, ys, rfl, hs', ha'⟩ := hy.seq_inv
  exact ⟨k1, k2, a, b, xs, ys, rfl, hs.up e, hs'.up e, h a b xs ys rfl rfl hs ha hs' ha'⟩
/-- a comprehension over zip of two sequences of one length, each pair by itself -/
theorem lcMapZM {α β : Type} {a b : Addr} {xs ys : List V} {as : List α} {bs : List β} {Da : α → Dt} {Db : β → Dt} {F : α → β → Dt} {i1 j1 : Nat} (hS : Sta K G0 H0 D G M H) (hq : SqK k1 K G a xs) (hr : RpAll K G xs (as.map Da)) (hq' : SqK k2 K G b ys) (hr' : RpAll K G ys (bs.map Db)) (hab : as.length = bs.length) (hl : as.length ≤ 100000)
    (hs : ∀ x y c e L G1 vs es H1 (Z : List (Addr × HO) → List Dt → Prop), c ∈ as → e ∈ bs → Rp K G1 x (Da c) → Rp K G1 y (Db e) → Same G G1 → H0 L = none → Sta K G0 H0 D G1 ((L, .lst vs) :: M) H1 → RpAll K G1 vs es → (∀ y G2 H2, Same G1 G2 → Sta K G0 H0 D G2 ((L, .lst vs) :: M) H2 → Rp K G2 y (F c e) → LcY K G0 H0 D G L Z y H2) →
      ∀ σ2, List.set (List.set (wipe σ vss) i1 (some x)) j1 (some y) = σ2 → wipe σ2 vss = wipe σ vss ∧ tt σ2 H1 fun b H4 => if b = true then te σ2 H4 (LcY K G0 H0 D G L Z) else LcP K G0 H0 D G L Z H4)
    (hd : ∀ p G1 H1, Same G G1 → Sta K G0 H0 D G1 M H1 → Rp K G1 (.ref p) (.lst (List.zipWith F as bs)) → Q (.ref p) H1) : LcG (ItzM k1 k2 K a b) (gTup K 2 (gCons (gName i1) (gCons (gName j1) gNil))) tt te vss σ Q H := by
  have lx := hr.length
  have ly := hr'.length
  rw [List.length_map] at lx ly
  refine lcI (walk_zM (xs := xs) (ys := ys)) hS (fun H1 e => ⟨hq.up e, hq'.up e⟩) (fun i M1 es => M1 = M ∧ es = (List.zipWith F as bs).take i) ⟨rfl, rfl⟩ (fun i x L G1 M1 vs es H1 H2 hi e l0 s r w yy => ?_) (fun p G1 M1 es H1 e s r w => ?_)
  · obtain ⟨rfl, rfl⟩ := w
    obtain ⟨T, u, v, rfl, hT, eH, h1, h2⟩ := yy
    have ha : i < as.length := by omega
    have hb : i < bs.length := by omega
    obtain ⟨d, hd', rd⟩ := hr.getV h1
    obtain ⟨f, hf', rf⟩ := hr'.getV h2
    rw [List.getElem?_map, List.getElem?_eq_getElem ha] at hd'
    rw [List.getElem?_map, List.getElem?_eq_getElem hb] at hf'
    cases hd'
    cases hf'
    obtain ⟨G2, e2, s2, q2⟩ := s.pair hT eH
    refine go_gpair q2 rfl (hs u v as[i] bs[i] L G2 vs _ H2 _ (List.getElem_mem ha) (List.getElem_mem hb) (rd.up (e.trans e2)) (rf.up (e.trans e2)) (e.trans e2) l0 s2 (r.up e2) (fun y G3 H3 e3 s3 hy => ?_) _ rfl)
    refine lcY s3 ((e.trans e2).trans e3) ((r.up e2).up e3) hy (by simp; omega) ⟨rfl, ?_⟩
    have hz : i < (List.zipWith F as bs).length := by rw [List.length_zipWith]; omega
    rw [List.take_add_one, List.getElem?_eq_getElem hz]
    simp
  · obtain ⟨rfl, rfl⟩ := w
    rw [List.take_of_length_le (by rw [List.length_zipWith]; omega)] at r
    exact hd p G1 H1 e s r
end
end B
namespace B
open PySem PySem.Spec PyProof.Rows L2 RZ
section
variable {K : PySem.W.Frag} {G0 H0 G H : Hp} {D : List Addr} {M : List (Addr × HO)} {Q : VK} {ds : List Dt} {d : Dt} {x : V} {k : Bool}
theorem go_lenK (hx : Rp K G x (seqD k ds)) (e : Same G H) (q : Q (.int ds.length) H) : rLen_ K [x] H Q := by
  cases k with
  | true => exact go_lenT (show Rp K G x (.tup ds) from hx) e q
  | false => exact go_lenL (show Rp K G x (.lst ds) from hx) e q
theorem go_ixK {n : Int} (hx : Rp K G x (seqD k ds)) (e : Same G H) (hi : atI ds n = some d) (q : ∀ v, Rp K G v d → Q v H) : rIx K x (.int n) H Q := by
  cases k with
  | true => exact go_ixA (show Rp K G x (.tup ds) from hx) e hi q
  | false => exact go_ixB (show Rp K G x (.lst ds) from hx) e hi q
theorem go_listK (hS : Sta K G0 H0 D G M H) (hx : Rp K G x (seqD k ds)) (q : ∀ p G1 H1, Same G G1 → Sta K G0 H0 D G1 M H1 → Rp K G1 (.ref p) (.lst ds) → Q (.ref p) H1) : rListOf_ K [x] H Q := by
  cases k with
  | true => exact go_listT hS (show Rp K G x (.tup ds) from hx) q
  | false => exact go_listL hS (show Rp K G x (.lst ds) from hx) q
end
end B
namespace B
open PySem PySem.Spec PyProof.Rows L2 RZ
/-! ### in, not in: whole numbers; loops over a list or a tuple, told which -/
section
variable {K : PySem.W.Frag} {G0 H0 G H : Hp} {D : List Addr} {M : List (Addr × HO)} {σ : L2.St} {Q : VK} {tt : TT} {te tl : TE} {t : TS} {ds : List Dt} {vss : List Nat} {nx bk ct : L2.St → Hp → Prop} {rt : VK} {x : V} {k : Bool} {a : Addr} {xs : List V}
theorem inV_ints (i : Int) (ns : List Int) : inV (.int i) (ns.map V.int) = decide (i ∈ ns) := by
  unfold inV
  rw [List.any_map, Bool.eq_iff_iff, List.any_eq_true, decide_eq_true_eq]
  constructor
  · rintro ⟨y, hy, e⟩
    have : y = i := by simpa [eqV] using e
    exact this ▸ hy
  · intro h
    exact ⟨i, h, by simp [eqV]⟩
theorem flat_ints (ns : List Int) : (ns.map V.int).all flatV = true := by
  rw [List.all_map, List.all_eq_true]
  intro n _
  rfl
theorem go_inI {neg : Bool} {i : Int} {ns : List Int} (hx : Rp K G x (seqD k (ns.map .int))) (e : Same G H) (q : Q (.bl (if neg then !decide (i ∈ ns) else decide (i ∈ ns))) H) : rIn K neg (.int i) x H Q := by
  obtain ⟨a, xs, rfl, hs, ha⟩ := hx.seq_inv
  rw [ha.ints_inv] at hs
  refine ⟨a, _, rfl, ?_, rfl, flat_ints ns, by rw [inV_ints]; exact q⟩
  have := hs.up e
  cases k with
  | true => exact .inr this
  | false => exact .inl this
def ItK (k : Bool) (K : PySem.W.Frag) (a : Addr) : It := if k = true then Itt K a else Itl K a
def iK (k : Bool) (K : PySem.W.Frag) (tl : TE) : TI := if k = true then iTup K tl else iList K tl
theorem pi_K {X : Cx} {tg l : Expr} (k : Bool) (hl : PE X l tl) : PI X tg l (iK k X.K tl) := by
  cases k with
  | true => exact pi_tup hl
  | false => exact pi_list hl
def LKK (k : Bool) (K : PySem.W.Frag) (kk : It → Hp → Prop) (x : V) (H : Hp) : Prop := ∃ a, x = .ref a ∧ (∃ xs, SqK k K H a xs) ∧ kk (ItK k K a) H
theorem go_iK {kk : It → Hp → Prop} (h : tl σ H fun x H1 => LKK k K kk x H1) : iK k K tl σ H kk := by
  cases k with
  | true => exact h
  | false => exact h
theorem go_itK {kk : It → Hp → Prop} (hx : Rp K G x (seqD k ds)) (e : Same G H) (h : ∀ a xs, x = .ref a → SqK k K G a xs → RpAll K G xs ds → kk (ItK k K a) H) : LKK k K kk x H := by
  obtain ⟨a, xs, rfl, hs, ha⟩ := hx.seq_inv
  exact ⟨a, rfl, ⟨xs, hs.up e⟩, h a xs rfl hs ha⟩
theorem walk_K : Walk (ItK k K a) xs.length (fun H => SqK k K H a xs) (fun i H x H' => H' = H ∧ xs[i]? = some x) := by
  cases k with
  | true => exact walk_tup (xs := xs)
  | false => exact walk_list (xs := xs)
theorem forK {g : TG} (hS : Sta K G0 H0 D G M H) (hq : SqK k K G a xs) (hr : RpAll K G xs ds) (W : Nat → L2.St → Hp → List (Addr × HO) → Prop) (h0 : W 0 σ G M)
    (hs : ∀ i x d σ' G1 M1 H1, i < ds.length → ds[i]? = some d → Same G G1 → Sta K G0 H0 D G1 M1 H1 → Rp K G1 x d → W i σ' G1 M1 → g x σ' H1 fun σ2 H3 => t ⟨Nx K G0 H0 D G (W (i + 1)), rt, nx, Nx K G0 H0 D G (W (i + 1))⟩ σ2 H3)
    (hd : ∀ σ' G1 M1 H1, Same G G1 → Sta K G0 H0 D G1 M1 H1 → W ds.length σ' G1 M1 → nx σ' H1) : ForG (ItK k K a) g t ⟨nx, rt, bk, ct⟩ σ H :=
  forI (walk_K (xs := xs)) hS (fun H1 e => hq.up e) W h0 (fun i x σ' G1 M1 H1 H2 hi e s w y => by
    obtain ⟨rfl, hx⟩ := y
    obtain ⟨d, hd, r⟩ := hr.getV hx
    exact hs i x d σ' G1 M1 H2 (by rw [← hr.length]; exact hi) hd e s (r.up e) w) (by rw [hr.length]; exact hd)
/-- a comprehension, each item by itself; the new list may change -/
theorem lcMapKM {α : Type} {g : TG} {as : List α} {Da : α → Dt} {F : α → Dt} (hS : Sta K G0 H0 D G M H) (hq : SqK k K G a xs) (hr : RpAll K G xs (as.map Da)) (hl : as.length ≤ 100000)
    (hs : ∀ x c L G1 vs es H1 (Z : List (Addr × HO) → List Dt → Prop), c ∈ as → Rp K G1 x (Da c) → Same G G1 → H0 L = none → Sta K G0 H0 D G1 ((L, .lst vs) :: M) H1 → RpAll K G1 vs es → (∀ y G2 H2, Same G1 G2 → Sta K G0 H0 D G2 ((L, .lst vs) :: M) H2 → Rp K G2 y (F c) → LcY K G0 H0 D G L Z y H2) →
      g x (wipe σ vss) H1 fun σ2 H3 => wipe σ2 vss = wipe σ vss ∧ tt σ2 H3 fun b H4 => if b = true then te σ2 H4 (LcY K G0 H0 D G L Z) else LcP K G0 H0 D G L Z H4)
    (hd : ∀ L vs G1 H1, Same G G1 → H0 L = none → Sta K G0 H0 D G1 ((L, .lst vs) :: M) H1 → RpAll K G1 vs (as.map F) → Q (.ref L) H1) : LcG (ItK k K a) g tt te vss σ Q H := by
  cases k with
  | true => exact lcMapTM hS (show SqT K G a xs from hq) hr hl hs hd
  | false => exact lcMapLM hS (show SqL K G a xs from hq) hr hl hs hd
theorem lcMapK {α : Type} {g : TG} {as : List α} {Da : α → Dt} {F : α → Dt} (hS : Sta K G0 H0 D G M H) (hq : SqK k K G a xs) (hr : RpAll K G xs (as.map Da)) (hl : as.length ≤ 100000)
    (hs : ∀ x c L G1 vs es H1 (Z : List (Addr × HO) → List Dt → Prop), c ∈ as → Rp K G1 x (Da c) → Same G G1 → H0 L = none → Sta K G0 H0 D G1 ((L, .lst vs) :: M) H1 → RpAll K G1 vs es → (∀ y G2 H2, Same G1 G2 → Sta K G0 H0 D G2 ((L, .lst vs) :: M) H2 → Rp K G2 y (F c) → LcY K G0 H0 D G L Z y H2) →
      g x (wipe σ vss) H1 fun σ2 H3 => wipe σ2 vss = wipe σ vss ∧ tt σ2 H3 fun b H4 => if b = true then te σ2 H4 (LcY K G0 H0 D G L Z) else LcP K G0 H0 D G L Z H4)
    (hd : ∀ p G1 H1, Same G G1 → Sta K G0 H0 D G1 M H1 → Rp K G1 (.ref p) (.lst (as.map F)) → Q (.ref p) H1) : LcG (ItK k K a) g tt te vss σ Q H :=
  lcMapKM hS hq hr hl hs fun L vs G1 H1 e l0 s r => by
    obtain ⟨G2, e2, s2, r2⟩ := s.frzL l0 r
    exact hd L G2 H1 (e.trans e2) s2 r2
/-- a comprehension whose test keeps nothing -/
theorem lcNoneK {α : Type} {g : TG} {as : List α} {Da : α → Dt} (hS : Sta K G0 H0 D G M H) (hq : SqK k K G a xs) (hr : RpAll K G xs (as.map Da))
    (hs : ∀ x c L G1 vs H1 (Z : VK) (Z0 : Hp → Prop), c ∈ as → Rp K G1 x (Da c) → Same G G1 → H0 L = none → Sta K G0 H0 D G1 ((L, .lst vs) :: M) H1 → (∀ G2 H2, Same G1 G2 → Sta K G0 H0 D G2 ((L, .lst vs) :: M) H2 → Z0 H2) →
      g x (wipe σ vss) H1 fun σ2 H3 => wipe σ2 vss = wipe σ vss ∧ tt σ2 H3 fun b H4 => if b = true then te σ2 H4 Z else Z0 H4)
    (hd : ∀ p G1 H1, Same G G1 → Sta K G0 H0 D G1 M H1 → Rp K G1 (.ref p) (.lst []) → Q (.ref p) H1) : LcG (ItK k K a) g tt te vss σ Q H := by
  refine lcI (walk_K (xs := xs)) hS (fun H1 e => hq.up e) (fun i M1 es => M1 = M ∧ es = []) ⟨rfl, rfl⟩ (fun i x L G1 M1 vs es H1 H2 hi e l0 s r w yy => ?_) (fun p G1 M1 es H1 e s r w => ?_)
  · obtain ⟨rfl, rfl⟩ := w
    obtain ⟨rfl, hx⟩ := yy
    obtain ⟨d, hd', rd⟩ := hr.getV hx
    rw [List.getElem?_map] at hd'
    obtain ⟨c, hc, rfl⟩ := Option.map_eq_some_iff.mp hd'
    exact hs x c L G1 vs H2 _ _ (List.mem_of_getElem? hc) (rd.up e) e l0 s fun G2 H3 e2 s2 => lcN s2 (e.trans e2) (r.up e2) ⟨rfl, rfl⟩
  · obtain ⟨rfl, rfl⟩ := w
    exact hd p G1 H1 e s r
end
end B
namespace B
open PySem PySem.Spec PyProof.Rows L2 RZ
/-- xs[:-1] -/
theorem cut_last (xs : List V) : cutV xs none (some (-1)) = xs.take (xs.length - 1) := by
  unfold cutV
  rw [HT.sIx_none, List.drop_zero]
  have : HT.sIx xs.length xs.length (some (-1)) = xs.length - 1 := by
    show (if (-1 : Int) < 0 then (-1 + (xs.length : Int)).toNat else min (-1 : Int).toNat xs.length) = xs.length - 1
    rw [if_pos (by decide)]
    omega
  rw [this, Nat.sub_zero]
theorem go_slast {K : PySem.W.Frag} {G0 H0 G H : Hp} {D : List Addr} {M : List (Addr × HO)} {Q : VK} {x : V} {ds : List Dt} (hS : Sta K G0 H0 D G M H) (hx : Rp K G x (.lst ds)) (k : ∀ p G1 H1, Same G G1 → Sta K G0 H0 D G1 M H1 → Rp K G1 (.ref p) (.lst (ds.take (ds.length - 1))) → Q (.ref p) H1) : rSlL K x none (some (-1)) H Q := by
  obtain ⟨a, xs, rfl, hs, ha⟩ := Rp.lst_inv hx
  refine go_slL hS hs fun p G1 H1 e s hp => k p G1 H1 e s (.lst (.inl (.inl hp)) ?_)
  rw [cut_last, ha.length]
  exact (ha.take _).up e
end B
namespace B
open PySem PySem.Spec PyProof.Rows L2 RZ
/-! ### f(e, .., k = v, ..) that may raise -/
def tCallNS (n m : Nat) (sp : Sp) (gV : List V → List V → List V) (E : L2.St → XK) (t tk : TA) : TE := fun σ H Q => t σ H fun vs H1 => tk σ H1 fun zs H2 => CN n m sp gV Q (E σ) vs zs H2
theorem pe_callNS {X : Cx} {CX : CXT} {k n : Nat} {f : Addr} {fd : FuncData} {ps ks : List Str} {sp : Sp} {E : L2.St → XK} {x : Str} {p pos : Pos} {e : Expr} {es : List Expr} {kws : List Keyword} {t tk : TA} {g : List Value → List Value → List Value} {gV : List V → List V → List V}
    (F : FnOk X.prog X.w X.K X.mg X.base CX k f fd ps sp) (hr : Room k X.A) (hg : Gl X x) (hm : X.mg x = some (.ref f)) (hk : PySem.W.keepIn X.K (.ref f) = true) (hb : KBn X.K fd ps n ks g gV) (hx : ∀ σ, PassesAt CX X σ (E σ))
    (ha : PA X (e :: es) t) (hkw : PK X kws tk) (hall : (backToKw pos (keywordEach kws X.env)).all (·.1.isSome) = true := by rfl) (hks : (backToKw pos (keywordEach kws X.env)).filterMap (·.1) = ks := by rfl)
    (hdb : (x == ("__debug__" : Str)) = false := by decide) (he : starEach (e :: es) X.env = (false, eval e X.env) :: starEach es X.env := by rfl)
    (hpl : ((backTo pos (starEach (e :: es) X.env)).any (·.1) || (backToKw pos (keywordEach kws X.env)).any (·.1.isNone)) = false := by rfl) :
    PE X (.Call (.Name x p) (e :: es) kws pos) (tCallNS n ks.length sp gV E t tk) := by
  refine ⟨fun pins s σ H Q I h => wpAny_Call_Name_kw (ld_glob I hg hm ?_ hdb)⟩
  refine PySem.W.callWith_KW (h₀ := X.base) I.ok.mod.kin hk hall (thn (ha.run pos pins s σ H _ I h) fun us s1 ⟨vs, H1, I1, r, q⟩ => ?_) hpl he
  refine thn (hkw.run pos pins s1 σ H1 _ I1 q) fun ws s2 ⟨zs, H2, I2, rz, l1, l2, q2⟩ => ⟨I2.kIn, ?_⟩
  rw [hks]
  have rb := hb.rel r rz
  have bd := hb.to s2 us ws I2.kIn (r.length.symm.trans l1) (rz.length.symm.trans l2)
  refine wpAny_call (codeAny_mono (F.run X.A X.stack s2 H2 ⟨us, ks.zip ws⟩ (g us ws) (gV vs zs) Q (E σ) hr I2.env0 bd rb q2) fun r s' hq => ?_)
  match r, hq with
  | .error e, hq => exact hx σ pins H2 s2 e s' I2 hq
  | .ok (.ret u), hq => exact I2.after hq
theorem go_callNS {σ : L2.St} {H : Hp} {Q : VK} {n m : Nat} {sp : Sp} {gV : List V → List V → List V} {E : L2.St → XK} {t tk : TA} (h : t σ H fun vs H1 => tk σ H1 fun zs H2 => CN n m sp gV Q (E σ) vs zs H2) : tCallNS n m sp gV E t tk σ H Q := h
end B
namespace B
open PySem L2 PyProof.Rows
/-! ### sets of ints: set(xs) of a list, len(set), sorted(set) -/
/-- a set as it is new -/
abbrev nSet (w : World) : Obj := { cls := .type "set", dict := none, data := .set #[] 0 (.fresh 0 0 (!w.params.followText "set-order")) }
section
variable {P : Program} {w : World} {A : Around}
  {E : Value → Shared → Prop} {s : Shared}
theorem set_lst {l : Addr} {its : Array Value} (ns : List Int) {Q : Value → Shared → Prop} (nh : A.handled = none) (il : s.heap.IsList l its) (hi0 : IntsAre its.toList ns) (few : ns.length + 1 < scanBound)
    (fin : ∀ (hp : Heap) (tk c : Nat), SetR w hp s.heap.objs.size (fun j => decide (j ∈ ns)) c → c ≤ ns.length → (∀ b u, s.heap.get? b = some u → hp.get? b = some u) → Q (.ref s.heap.objs.size) { s with heap := hp, toks := tk }) :
    wpAny (model P w) A (call (.type "set") [.ref l]) Q E s := by
  have isz : its.size = ns.length := by
    have z := hi0.length
    rwa [Array.length_toList] at z
  obtain ⟨c, tl, m0⟩ := F.called_set.mro
  have m1 := F.called_set.made
  have m2 := F.called_set.sub
  refine wpAny_call (codeAny_of_tree (show wpAny _ _ (callAny (.type "set") _) _ _ _ from wpAny_pure ⟨Code.quiet_builtin _ (by decide +kernel), codeAny_builtin F.entry_type_call ?_⟩))
  rw [Around.under_plain (weight_type_call_type _ [.ref l] []) rfl]
  have m3 := F.called_set.notType
  have m4 := F.called_set.canCreate
  have m5 := F.typeCall_set_1 (.ref l)
  repeat (any_goals first | assumption | wp_step)
  refine codeAny_mono (code_set_led1 (.ref l) (E := E) (Q₁ := fun o1 s1 => o1 = .ref s.heap.objs.size ∧ s1 = { s with heap := s.heap.push (nSet w) }) ⟨rfl, rfl⟩) fun r s1 rs => ?_
  match r, rs with
  | .error e, z => exact z
  | .ok (.ret o1), z =>
    obtain ⟨rfl, rfl⟩ := z
    have gS : (s.heap.push (nSet w)).get? s.heap.objs.size = some (nSet w) := Heap.get?_push_size _ rfl
    have tS : Shared.TypeIs { s with heap := s.heap.push (nSet w) } (.ref s.heap.objs.size) "set" := ⟨_, gS, rfl⟩
    have k1 := F.called_set.init.lookup
    have k2 := F.called_set.init.bind (.ref s.heap.objs.size)
    repeat (any_goals first | assumption | wp_step)
    refine codeAny_mono (codeAny_call_builtin (R := wants (fun r2 s2 => r2 = .none ∧ ∃ hp tk c, s2 = { s with heap := hp, toks := tk } ∧ SetR w hp s.heap.objs.size (fun j => decide (j ∈ ns)) c ∧ c ≤ ns.length ∧
        (∀ b u, s.heap.get? b = some u → hp.get? b = some u)) E) F.called_set.init.plain F.entry_set_init (check_set_init_1 tS ?_)) fun r2 s2 rs2 => ?_
    · obtain ⟨ol, go, gc, nl, gd⟩ := il
      obtain ⟨oc, od, oo, os⟩ := ol
      simp only at gc gd
      subst gc; subst gd
      have go' : (s.heap.push (nSet w)).get? l = some { cls := .type "list", dict := od, data := .seq its nl, slots := os } := Heap.get?_push_of_some _ go
      have u1 := F.sub_list_set
      have u2 := F.sub_list_frozenset
      have u3 : (Value.type "list" == Value.type "dict") = false := by decide
      have il2 : (s.heap.push (nSet w)).IsList l its := ⟨_, go', rfl, nl, rfl⟩
      unfold Builtin.«set.__init__»; unfold noKeywords Builtin.Frozenset.updateFrom
      generalize ei : pyIter = PI
      wp_walk
      subst ei
      refine wpAny_pyIter_list il2 (wpAny_bind (wpAny_runValue ?_))
      have ll : l < s.heap.objs.size := Heap.lt_size go
      have nh3 : A.in1.in1.in1.handled = none := by simp [nh]
      have nI : l ≠ (s.heap.push (nSet w)).objs.size := by
        rw [Heap.size_push]
        exact Nat.ne_of_lt (Nat.lt_succ_of_lt ll)
      have nS : s.heap.objs.size ∉ [(s.heap.push (nSet w)).objs.size, l] := by
        rw [Heap.size_push]
        intro z
        rcases List.mem_cons.mp z with z | z
        · exact absurd z (Nat.ne_of_lt (Nat.lt_succ_self _))
        · exact absurd (List.mem_singleton.mp z) (Nat.ne_of_gt ll)
      have val : ∀ (i : Nat) (v : Value), its[i]? = some v → ∃ k t, ns[i]? = some k ∧ v = .int k t := fun i v hv => by
        have hi : i < ns.length := by
          rw [← isz]
          exact (Array.getElem?_eq_some_iff.mp hv).1
        obtain ⟨t, e⟩ := IntsAre.int_at hi0 i v (by rw [Array.getElem?_toList]; exact hv)
        refine ⟨ns[i], t, List.getElem?_eq_getElem hi, ?_⟩
        rw [e, List.getD_eq_getElem?_getD, List.getElem?_eq_getElem hi]
        rfl
      refine set_update_ints ((Walks.list nh3 _ l nI its).toS) s.heap.objs.size nS ns isz few val (its.size - 0) 0 _ (by omega) (Nat.zero_le _) ⟨⟨_, Heap.get?_push_size _ rfl, rfl, rfl⟩, (il2.push _)⟩ ?g0 ?g1
      case g0 => exact ⟨0, Nat.le_refl 0, setR_new_at (Heap.get?_push_of_some _ gS)⟩
      case g1 =>
        intro s3 c3 mv c3l R3
        obtain ⟨hp, g3, d3, t3, o3⟩ := s3
        have e1 : g3 = s.gens := mv.gens
        have e2 : d3 = s.drawn := mv.drawn
        have e3 : o3 = s.os := mv.os
        subst e1 e2 e3
        refine (show wpAny _ _ _ _ _ _ from wpAny_pure (show wpAny _ _ (ret Value.none) _ _ _ from ?_))
        rw [isz] at c3l
        refine wpAny_pure ⟨rfl, hp, t3, c3, rfl, R3, c3l, fun b u e => ?_⟩
        have b0 : b < s.heap.objs.size := Heap.lt_size e
        have b2 : b ≠ (s.heap.push (nSet w)).objs.size := by
          rw [Heap.size_push]
          exact Nat.ne_of_lt (Nat.lt_succ_of_lt b0)
        refine mv.heap b u (fun z => ?_) (Heap.get?_push_of_some _ (Heap.get?_push_of_some _ e))
        rcases List.mem_cons.mp z with z | z
        · exact absurd z (Nat.ne_of_lt b0)
        · exact b2 (List.mem_singleton.mp z)
    · match r2, rs2 with
      | .error e, z => exact z
      | .ok (.ret _), z =>
        obtain ⟨rfl, hp, tk, c3, rfl, R3, c3l, kp⟩ := z
        repeat (any_goals first | assumption | wp_step)
        exact fin _ _ _ R3 c3l kp
end
def rSetL (K : PySem.W.Frag) (w : World) : List V → Hp → VK → Prop := fun vs H Q => ∃ (l : Addr) (ns : List Int), vs = [.ref l] ∧ (SqL K H l (ns.map V.int) ∨ SqT K H l (ns.map V.int)) ∧ ns.length ≤ 1000 ∧ ∀ p c, H p = none → c ≤ ns.length → Q (.ref p) (upd H p (SetO w p (fun j => decide (j ∈ ns)) c))
theorem cr_setL {X : Cx} (hc : X.calm = true) : CallR X (.type "set") (rSetL X.K X.w) := by
  intro pins s σ H vs us Q I r h
  obtain ⟨l, ns, rfl, hl, hn, q⟩ := h
  rw [Vals.ref1 r]
  have fin : ∀ (hp : Heap) (tk c : Nat), SetR X.w hp s.heap.objs.size (fun j => decide (j ∈ ns)) c → c ≤ ns.length → (∀ b u, s.heap.get? b = some u → hp.get? b = some u) →
      EP X pins σ Q (.ref s.heap.objs.size) { s with heap := hp, toks := tk } := fun hp tk c R cl kp =>
    ⟨.ref _, upd H s.heap.objs.size (SetO X.w s.heap.objs.size (fun j => decide (j ∈ ns)) c), I.laid (t' := tk) kp (Nat.le_refl _) (setO_new R), rfl, q _ c (I.hok.fresh (Nat.le_refl _)) cl⟩
  rcases hl with hl | hl
  · obtain ⟨its, rv, pl, hz⟩ := I.list hl
    exact set_lst ns (I.ok.hd hc) pl.isList (by simpa using rv.ints) (by unfold scanBound; omega) fin
  · obtain ⟨its, rv, pt, hz⟩ := I.tuple hl
    exact call_set_tupI ns (I.ok.hd hc) (show s.heap.IsTuple l its.toArray from pt) (by simpa using rv.ints) (by unfold scanBound; omega) fin
/-- len(set): as many as a list without doubles of the same members -/
def rLenSet (w : World) : List V → Hp → VK → Prop := fun vs H Q => ∃ (a : Addr) (S : Int → Bool) (n : Nat), vs = [.ref a] ∧ H a = some (SetO w a S n) ∧ n ≤ 1000 ∧ ∀ ks : List Int, ks.Nodup → (∀ k, k ∈ ks ↔ S k = true) → ks.length = n → Q (.int (n : Int)) H
theorem b_lenSet {X : Cx} : CallR X (.builtin "len") (rLenSet X.w) := by
  intro pins s σ H vs us Q I r h
  obtain ⟨a, S, n, rfl, ha, hn, q⟩ := h
  rw [Vals.ref1 r]
  obtain ⟨o, es, ep, t, ho, hex, hd, g, nd, hm, hb, hf, en, _⟩ := setO_get I ha
  refine call_len_set ho hex hd hf (by rw [en]; omega) ⟨.int (n : Int), H, I.tok _, ⟨_, by rw [en]⟩, ?_⟩
  exact q (es.toList.map keyOf) nd (fun k => (hm k).symm) (by rw [List.length_map, Array.length_toList]; exact en)
section
variable {K : PySem.W.Frag} {G0 H0 G H : Hp} {D : List Addr} {M : List (Addr × HO)} {Q : VK} {x : V} {w : World}
/-- what is known of a set -/
def RpS (w : World) (G : Hp) (v : V) (ns : List Int) (n : Nat) : Prop := ∃ p, v = .ref p ∧ G p = some (SetO w p (fun j => decide (j ∈ ns)) n)
theorem RpS.up {G G' : Hp} {v : V} {ns : List Int} {n : Nat} (e : Same G G') (h : RpS w G v ns n) : RpS w G' v ns n := by
  obtain ⟨p, e1, e2⟩ := h
  exact ⟨p, e1, e _ _ e2⟩
theorem go_setOf {ns : List Int} (hS : Sta K G0 H0 D G M H) (hx : Rp K G x (.lst (ns.map .int)) ∨ Rp K G x (.tup (ns.map .int))) (hl : ns.length ≤ 1000) (k : ∀ v n G1 H1, Same G G1 → Sta K G0 H0 D G1 M H1 → n ≤ ns.length → RpS w G1 v ns n → Q v H1) : rSetL K w [x] H Q := by
  have fin : ∀ p c, H p = none → c ≤ ns.length → Q (.ref p) (upd H p (SetO w p (fun j => decide (j ∈ ns)) c)) := fun p c hp cl =>
    k _ c _ _ (same_upd (hS.gn hp)) (hS.imm hp _) cl ⟨p, rfl, upd_same⟩
  rcases hx with hx | hx
  · obtain ⟨a, xs, rfl, hs, ha⟩ := Rp.lst_inv hx
    rw [ha.ints_inv] at hs
    exact ⟨a, ns, rfl, .inl (hS.gh.seq hs), hl, fin⟩
  · obtain ⟨a, xs, rfl, hs, ha⟩ := Rp.tup_inv hx
    rw [ha.ints_inv] at hs
    exact ⟨a, ns, rfl, .inr (Same.t hS.gh hs), hl, fin⟩
theorem go_lenSet {ns : List Int} {n : Nat} (hS : Sta K G0 H0 D G M H) (hx : RpS w G x ns n) (hn : n ≤ 1000) (k : ∀ ks : List Int, ks.Nodup → (∀ k, k ∈ ks ↔ k ∈ ns) → ks.length = n → Q (.int (n : Int)) H) : rLenSet w [x] H Q := by
  obtain ⟨p, rfl, hp⟩ := hx
  exact ⟨p, _, n, rfl, hS.gh _ _ hp, hn, fun ks h1 h2 h3 => k ks h1 (fun i => (h2 i).trans (by simp)) h3⟩
theorem go_sortSet {ns : List Int} {n : Nat} (hS : Sta K G0 H0 D G M H) (hx : RpS w G x ns n) (hn : n < 64) (k : ∀ p (ks : List Int) G1 H1, ks.Pairwise (· < ·) → (∀ k, k ∈ ks ↔ k ∈ ns) → ks.length = n → Same G G1 → Sta K G0 H0 D G1 M H1 → Rp K G1 (.ref p) (.lst (ks.map .int)) → Q (.ref p) H1) : rSortedSet w [x] H Q := by
  obtain ⟨p, rfl, hp⟩ := hx
  exact ⟨p, _, n, rfl, hS.gh _ _ hp, hn, fun ks q h1 h2 h3 hq => k q ks _ _ h1 (fun i => (h2 i).trans (by simp)) h3 (same_upd (hS.gn hq)) (hS.imm hq _) (.lst (.inl (.inl upd_same)) .ints)⟩
end
/-! ### plain: ascending, without doubles -/
def ascB : List Int → Bool
  | [] => true
  | [_] => true
  | x :: y :: l => decide (x < y) && ascB (y :: l)
theorem ascB_pw : ∀ l : List Int, ascB l = true ↔ l.Pairwise (· < ·)
  | [] => by simp [ascB]
  | [x] => by simp [ascB]
  | x :: y :: l => by
    have ih := ascB_pw (y :: l)
    rw [ascB, Bool.and_eq_true, decide_eq_true_eq, ih]
    constructor
    · rintro ⟨h1, h2⟩
      refine List.pairwise_cons.mpr ⟨fun z hz => ?_, h2⟩
      rcases List.mem_cons.mp hz with rfl | hz
      · exact h1
      · exact Int.lt_trans h1 ((List.pairwise_cons.mp h2).1 z hz)
    · intro h
      have h := List.pairwise_cons.mp h
      exact ⟨h.1 y (by simp), h.2⟩
theorem pw_uniq : ∀ {k l : List Int}, k.Pairwise (· < ·) → l.Pairwise (· < ·) → (∀ x, x ∈ k ↔ x ∈ l) → k = l
  | [], [], _, _, _ => rfl
  | [], y :: l, _, _, h => absurd ((h y).mpr (by simp)) (by simp)
  | x :: k, [], _, _, h => absurd ((h x).mp (by simp)) (by simp)
  | x :: k, y :: l, hk, hl, h => by
    have k1 := List.pairwise_cons.mp hk
    have l1 := List.pairwise_cons.mp hl
    have e : x = y := by
      have hx := (h x).mp (by simp)
      have hy := (h y).mpr (by simp)
      rcases List.mem_cons.mp hx with e | hx
      · exact e
      · rcases List.mem_cons.mp hy with e | hy
        · exact e.symm
        · have a1 := l1.1 x hx
          have a2 := k1.1 y hy
          omega
    subst e
    rw [pw_uniq k1.2 l1.2 fun z => ?_]
    constructor
    · intro hz
      have := (h z).mp (List.mem_cons_of_mem _ hz)
      rcases List.mem_cons.mp this with e | h2
      · have := k1.1 z hz
        omega
      · exact h2
    · intro hz
      have := (h z).mpr (List.mem_cons_of_mem _ hz)
      rcases List.mem_cons.mp this with e | h2
      · have := l1.1 z hz
        omega
      · exact h2
/-- xs != sorted(set(xs)) -/
theorem asc_iff {ns ks : List Int} (h1 : ks.Pairwise (· < ·)) (h2 : ∀ k, k ∈ ks ↔ k ∈ ns) : ns = ks ↔ ascB ns = true := by
  rw [ascB_pw]
  constructor
  · intro e
    rw [e]
    exact h1
  · intro h
    exact pw_uniq h h1 fun x => (h2 x).symm
theorem len_leI : ∀ {l m : List Int}, l.Nodup → (∀ x ∈ l, x ∈ m) → l.length ≤ m.length
  | [], _, _, _ => Nat.zero_le _
  | x :: l, m, nd, h => by
    have nd := List.nodup_cons.mp nd
    have hx := h x (by simp)
    have := len_leI (l := l) (m := m.erase x) nd.2 fun y hy => (List.mem_erase_of_ne (fun e => by subst e; exact nd.1 hy)).mpr (h y (by simp [hy]))
    rw [List.length_erase_of_mem hx] at this
    have : 0 < m.length := List.length_pos_of_mem hx
    simp only [List.length_cons]
    omega
theorem nodup_of : ∀ {ns ks : List Int}, ks.Nodup → (∀ k, k ∈ ks ↔ k ∈ ns) → ns.length ≤ ks.length → ns.Nodup
  | [], _, _, _, _ => List.nodup_nil
  | x :: t, ks, nd, h, hl => by
    simp only [List.length_cons] at hl
    by_cases hx : x ∈ t
    · have := len_leI (m := t) nd fun y hy => by
        rcases List.mem_cons.mp ((h y).mp hy) with rfl | z
        · exact hx
        · exact z
      omega
    · have hk := (h x).mpr (by simp)
      refine List.nodup_cons.mpr ⟨hx, nodup_of (ks := ks.erase x) (nd.erase x) (fun y => ?_) (by rw [List.length_erase_of_mem hk]; omega)⟩
      by_cases e : y = x
      · subst e
        exact ⟨fun z => absurd z (List.Nodup.not_mem_erase nd), fun z => absurd z hx⟩
      · rw [List.mem_erase_of_ne e, h y]
        simp [e]
theorem nodup_len {ns ks : List Int} (h1 : ks.Nodup) (h2 : ∀ k, k ∈ ks ↔ k ∈ ns) : ks.length = ns.length ↔ ns.Nodup := by
  constructor
  · intro e
    exact nodup_of h1 h2 (by omega)
  · intro h
    have a := len_leI h1 fun x hx => (h2 x).mp hx
    have c := len_leI h fun x hx => (h2 x).mpr hx
    omega
section
variable {K : PySem.W.Frag} {G0 H0 G H : Hp} {D : List Addr} {M : List (Addr × HO)} {σ : L2.St} {Q : VK} {tt : TT} {te : TE} {vss : List Nat} {k : Bool} {a : Addr} {xs : List V}
/-- a comprehension with a test over a list or a tuple -/
theorem lcFiltK {α : Type} {g : TG} {as : List α} {Da : α → Dt} {p : α → Bool} {F : α → Dt} (hS : Sta K G0 H0 D G M H) (hq : SqK k K G a xs) (hr : RpAll K G xs (as.map Da)) (hl : as.length ≤ 100000)
    (hs : ∀ x c L G1 vs es H1 (Z Z0 : List (Addr × HO) → List Dt → Prop), c ∈ as → Rp K G1 x (Da c) → Same G G1 → H0 L = none → Sta K G0 H0 D G1 ((L, .lst vs) :: M) H1 → RpAll K G1 vs es → (p c = true → ∀ y G2 H2, Same G1 G2 → Sta K G0 H0 D G2 ((L, .lst vs) :: M) H2 → Rp K G2 y (F c) → LcY K G0 H0 D G L Z y H2) → (p c = false → ∀ G2 H2, Same G1 G2 → Sta K G0 H0 D G2 ((L, .lst vs) :: M) H2 → LcP K G0 H0 D G L Z0 H2) →
      g x (wipe σ vss) H1 fun σ2 H3 => wipe σ2 vss = wipe σ vss ∧ tt σ2 H3 fun b H4 => if b = true then te σ2 H4 (LcY K G0 H0 D G L Z) else LcP K G0 H0 D G L Z0 H4)
    (hd : ∀ p' G1 H1, Same G G1 → Sta K G0 H0 D G1 M H1 → Rp K G1 (.ref p') (.lst ((as.filter p).map F)) → Q (.ref p') H1) : LcG (ItK k K a) g tt te vss σ Q H := by
  have xl := hr.length
  rw [List.length_map] at xl
  refine lcI (walk_K (xs := xs)) hS (fun H1 e => hq.up e) (fun i M1 es => M1 = M ∧ es = ((as.take i).filter p).map F) ⟨rfl, rfl⟩ (fun i x L G1 M1 vs es H1 H2 hi e l0 s r w yy => ?_) (fun p' G1 M1 es H1 e s r w => ?_)
  · obtain ⟨rfl, rfl⟩ := w
    obtain ⟨rfl, hx⟩ := yy
    have hi2 : i < as.length := by omega
    obtain ⟨d, hd', rd⟩ := hr.getV hx
    rw [List.getElem?_map, List.getElem?_eq_getElem hi2] at hd'
    cases hd'
    have len : (((as.take i).filter p).map F).length ≤ i := by
      rw [List.length_map]
      exact Nat.le_trans (List.length_filter_le _ _) (by simp; omega)
    refine hs x as[i] L G1 vs _ H2 _ _ (List.getElem_mem hi2) (rd.up e) e l0 s r (fun hp y G2 H3 e2 s2 hy => ?_) (fun hp G2 H3 e2 s2 => ?_)
    · refine lcY s2 (e.trans e2) (r.up e2) hy (by omega) ⟨rfl, ?_⟩
      rw [List.take_add_one, List.getElem?_eq_getElem hi2, List.filter_append, List.map_append]
      simp [hp]
    · refine lcN s2 (e.trans e2) (r.up e2) ⟨rfl, ?_⟩
      rw [List.take_add_one, List.getElem?_eq_getElem hi2, List.filter_append, List.map_append]
      simp [hp]
  · obtain ⟨rfl, rfl⟩ := w
    rw [List.take_of_length_le (by omega)] at r
    exact hd p' G1 H1 e s r
/-- .. over enumerate -/
def IteK (k : Bool) (K : PySem.W.Frag) (a : Addr) : It := if k = true then IteT K a else Ite K a
theorem walk_eK : Walk (IteK k K a) xs.length (fun H => SqK k K H a xs) (fun i H v H' => ∃ T x, v = .ref T ∧ H T = none ∧ H' = upd H T (.tup [.int (i : Nat), x]) ∧ xs[i]? = some x) := by
  cases k with
  | true => exact walk_enumT (xs := xs)
  | false =>
    exact ⟨(walk_enum (xs := xs)).goes, (walk_enum (xs := xs)).stops, fun i H v H' hi q y => by
      obtain ⟨T, u, x, h1, h2, h3, h4, h5⟩ := (walk_enum (xs := xs)).yields i H v H' hi q y
      cases h4
      exact ⟨T, x, h1, h2, h3, h5⟩⟩
theorem go_etkK {kk : It → Hp → Prop} {x : V} {ds : List Dt} (hx : Rp K G x (seqD k ds)) (e : Same G H) (h : ∀ a xs, x = .ref a → SqK k K G a xs → RpAll K G xs ds → kk (IteK k K a) H) : ETK K kk [x] H := by
  cases k with
  | true => exact go_etkT hx e h
  | false => exact go_etkL hx e h
theorem lcFiltE {α : Type} {as : List α} {Da : α → Dt} {p : Nat → Bool} {F : Nat → Dt} {i1 j1 : Nat} (hS : Sta K G0 H0 D G M H) (hq : SqK k K G a xs) (hr : RpAll K G xs (as.map Da)) (hl : as.length ≤ 100000)
    (hs : ∀ (i : Nat) x c L G1 vs es H1 (Z Z0 : List (Addr × HO) → List Dt → Prop), i < as.length → as[i]? = some c → Rp K G1 x (Da c) → Same G G1 → H0 L = none → Sta K G0 H0 D G1 ((L, .lst vs) :: M) H1 → RpAll K G1 vs es → (p i = true → ∀ y G2 H2, Same G1 G2 → Sta K G0 H0 D G2 ((L, .lst vs) :: M) H2 → Rp K G2 y (F i) → LcY K G0 H0 D G L Z y H2) → (p i = false → ∀ G2 H2, Same G1 G2 → Sta K G0 H0 D G2 ((L, .lst vs) :: M) H2 → LcP K G0 H0 D G L Z0 H2) →
      ∀ σ2, List.set (List.set (wipe σ vss) i1 (some (.int i))) j1 (some x) = σ2 → wipe σ2 vss = wipe σ vss ∧ tt σ2 H1 fun b H4 => if b = true then te σ2 H4 (LcY K G0 H0 D G L Z) else LcP K G0 H0 D G L Z0 H4)
    (hd : ∀ p' G1 H1, Same G G1 → Sta K G0 H0 D G1 M H1 → Rp K G1 (.ref p') (.lst (((List.range as.length).filter p).map F)) → Q (.ref p') H1) : LcG (IteK k K a) (gTup K 2 (gCons (gName i1) (gCons (gName j1) gNil))) tt te vss σ Q H := by
  have xl := hr.length
  rw [List.length_map] at xl
  refine lcI (walk_eK (xs := xs)) hS (fun H1 e => hq.up e) (fun i M1 es => M1 = M ∧ es = ((List.range i).filter p).map F) ⟨rfl, rfl⟩ (fun i x L G1 M1 vs es H1 H2 hi e l0 s r w yy => ?_) (fun p' G1 M1 es H1 e s r w => ?_)
  · obtain ⟨rfl, rfl⟩ := w
    obtain ⟨T, v, rfl, hT, eH, h2⟩ := yy
    have hi2 : i < as.length := by omega
    obtain ⟨d, hd', rd⟩ := hr.getV h2
    rw [List.getElem?_map, List.getElem?_eq_getElem hi2] at hd'
    cases hd'
    have len : (((List.range i).filter p).map F).length ≤ i := by
      rw [List.length_map]
      exact Nat.le_trans (List.length_filter_le _ _) (by simp)
    obtain ⟨G2, e2, s2, q2⟩ := s.pair hT eH
    refine go_gpair q2 rfl (hs i v as[i] L G2 vs _ H2 _ _ hi2 (List.getElem?_eq_getElem hi2) (rd.up (e.trans e2)) (e.trans e2) l0 s2 (r.up e2) (fun hp y G3 H3 e3 s3 hy => ?_) (fun hp G3 H3 e3 s3 => ?_) _ rfl)
    · refine lcY s3 ((e.trans e2).trans e3) ((r.up e2).up e3) hy (by omega) ⟨rfl, ?_⟩
      rw [List.range_succ, List.filter_append, List.map_append]
      simp [hp]
    · refine lcN s3 ((e.trans e2).trans e3) ((r.up e2).up e3) ⟨rfl, ?_⟩
      rw [List.range_succ, List.filter_append, List.map_append]
      simp [hp]
  · obtain ⟨rfl, rfl⟩ := w
    rw [xl] at r
    exact hd p' G1 H1 e s r
end
/-! ### xs.reverse() of a list that may change -/
section
variable {K : PySem.W.Frag} {G0 H0 G H : Hp} {D : List Addr} {M M' : List (Addr × HO)} {Q : VK}
theorem go_rev {p : Addr} {xs : List V} {i : Nat} (hS : Sta K G0 H0 D G M H) (hi : M[i]? = some (p, .lst xs)) (hM : M.set i (p, .lst xs.reverse) = M') (k : ∀ H1, Sta K G0 H0 D G M' H1 → Q .non H1) : rReverse (.ref p) [] H Q := by
  subst hM
  exact ⟨p, xs, rfl, rfl, hS.get hi, k _ (hS.set hi _)⟩
end
/-! ### x, y = a, b by a new pair -/
section
variable {K : PySem.W.Frag} {G0 H0 G H : Hp} {D : List Addr} {M : List (Addr × HO)} {σ σ' : L2.St} {p : L2.St → Hp → Prop} {x y : V} {i j : Nat}
theorem go_npair (hS : Sta K G0 H0 D G M H) (e : List.set (List.set σ i (some x)) j (some y) = σ') (k : ∀ G1 H1, Same G G1 → Sta K G0 H0 D G1 M H1 → p σ' H1) : NT (fun v H1 => gTup K 2 (gCons (gName i) (gCons (gName j) gNil)) v σ H1 p) [x, y] H :=
  go_rawT hS (sz (by simp)) fun q G1 H1 e1 hS1 hq => go_gpair (.inl (.inl hq)) e (k G1 H1 e1 hS1)
end
/-! ### data known to be comparable -/
theorem okE_succ : ∀ {n : Nat} {d : Dt}, okE n d = true → okE (n + 1) d = true
  | 0, _, h => by cases h
  | n + 1, .non, _ => rfl
  | n + 1, .bl _, _ => rfl
  | n + 1, .int _, _ => rfl
  | n + 1, .str _, h => by cases h
  | n + 1, .ins _ _, h => by cases h
  | n + 1, .lst ds, h => by
    have h' : ds.length ≤ 100000 ∧ ∀ e ∈ ds, okE n e = true := by simpa [okE] using h
    simp only [okE, Bool.and_eq_true, decide_eq_true_eq, List.all_eq_true]
    exact ⟨h'.1, fun e he => okE_succ (h'.2 e he)⟩
  | n + 1, .tup ds, h => by
    have h' : ds.length ≤ 100000 ∧ ∀ e ∈ ds, okE n e = true := by simpa [okE] using h
    simp only [okE, Bool.and_eq_true, decide_eq_true_eq, List.all_eq_true]
    exact ⟨h'.1, fun e he => okE_succ (h'.2 e he)⟩
theorem okE_up {n m : Nat} {d : Dt} (h : okE n d = true) (e : n ≤ m) : okE m d = true := by
  obtain ⟨k, rfl⟩ := Nat.exists_eq_add_of_le e
  induction k with
  | zero => exact h
  | succ k ih => exact okE_succ (ih (by omega))
theorem okE_lst {n : Nat} {ds : List Dt} (hl : ds.length ≤ 100000) (h : ∀ e ∈ ds, okE n e = true) : okE (n + 1) (.lst ds) = true := by
  simp only [okE, Bool.and_eq_true, decide_eq_true_eq, List.all_eq_true]
  exact ⟨hl, h⟩
theorem okE_tup {n : Nat} {ds : List Dt} (hl : ds.length ≤ 100000) (h : ∀ e ∈ ds, okE n e = true) : okE (n + 1) (.tup ds) = true := by
  simp only [okE, Bool.and_eq_true, decide_eq_true_eq, List.all_eq_true]
  exact ⟨hl, h⟩
/-! ### lists that may change, out of comprehensions with a test -/
theorem Sta.frzR {K : PySem.W.Frag} {G0 H0 G H : Hp} {D : List Addr} {M : List (Addr × HO)} {p : Addr} {xs : List V} {ds : List Dt} (h : Sta K G0 H0 D G ((p, .lst xs) :: M) H) (h0 : H0 p = none) (hx : RpAll K G xs ds) : ∃ G1, Same G G1 ∧ Sta K G0 H0 D G1 M H ∧ RpL K G1 p ds := by
  obtain ⟨h1, e⟩ := h.frz h0
  exact ⟨_, e, h1, _, upd_same, hx.up e⟩
section
variable {K : PySem.W.Frag} {G0 H0 G H : Hp} {D : List Addr} {M : List (Addr × HO)} {σ : L2.St} {Q : VK} {tt : TT} {te : TE} {vss : List Nat}
theorem lcFiltRM {lo : Int} {n : Nat} {g : TG} {p : Nat → Bool} {F : Nat → Dt} (hS : Sta K G0 H0 D G M H) (hl : n ≤ 100000)
    (hs : ∀ (i : Nat) L G1 vs es H1 (Z Z0 : List (Addr × HO) → List Dt → Prop), i < n → Same G G1 → H0 L = none → Sta K G0 H0 D G1 ((L, .lst vs) :: M) H1 → RpAll K G1 vs es → (p i = true → ∀ y G2 H2, Same G1 G2 → Sta K G0 H0 D G2 ((L, .lst vs) :: M) H2 → Rp K G2 y (F i) → LcY K G0 H0 D G L Z y H2) → (p i = false → ∀ G2 H2, Same G1 G2 → Sta K G0 H0 D G2 ((L, .lst vs) :: M) H2 → LcP K G0 H0 D G L Z0 H2) →
      g (.int (lo + i)) (wipe σ vss) H1 fun σ2 H3 => wipe σ2 vss = wipe σ vss ∧ tt σ2 H3 fun b H4 => if b = true then te σ2 H4 (LcY K G0 H0 D G L Z) else LcP K G0 H0 D G L Z0 H4)
    (hd : ∀ L vs G1 H1, Same G G1 → H0 L = none → Sta K G0 H0 D G1 ((L, .lst vs) :: M) H1 → RpAll K G1 vs (((List.range n).filter p).map F) → Q (.ref L) H1) : LcG (Itr lo n) g tt te vss σ Q H := by
  refine lcIM walk_range hS (fun _ _ => trivial) (fun i M1 es => M1 = M ∧ es = ((List.range i).filter p).map F) ⟨rfl, rfl⟩ (fun i x L G1 M1 vs es H1 H2 hi e l0 s r w yy => ?_) (fun L G1 M1 vs es H1 e l0 s r w => ?_)
  · obtain ⟨rfl, rfl⟩ := w
    obtain ⟨rfl, rfl⟩ := yy
    have len : (((List.range i).filter p).map F).length ≤ i := by
      rw [List.length_map]
      exact Nat.le_trans (List.length_filter_le _ _) (by simp)
    refine hs i L G1 vs _ H2 _ _ hi e l0 s r (fun hp y G2 H3 e2 s2 hy => ?_) (fun hp G2 H3 e2 s2 => ?_)
    · refine lcY s2 (e.trans e2) (r.up e2) hy (by omega) ⟨rfl, ?_⟩
      rw [List.range_succ, List.filter_append, List.map_append]
      simp [hp]
    · refine lcN s2 (e.trans e2) (r.up e2) ⟨rfl, ?_⟩
      rw [List.range_succ, List.filter_append, List.map_append]
      simp [hp]
  · obtain ⟨rfl, rfl⟩ := w
    exact hd L vs G1 H1 e l0 s r
end
end B
/-! sorted lists of pairs of ints; insert; a list asked whether it is empty -/
namespace B
open PySem L2
def prD (p : Int × Int) : Dt := .tup [.int p.1, .int p.2]
section
variable {K : PySem.W.Frag} {G0 H0 G H : Hp} {D : List Addr} {M M' : List (Addr × HO)} {Q : VK} {x : V}
theorem rpAll_perm {α : Type} {Da : α → Dt} : ∀ {ys xs : List V}, ys.Perm xs → ∀ {as : List α}, RpAll K G xs (as.map Da) → ∃ bs : List α, bs.Perm as ∧ RpAll K G ys (bs.map Da) := fun {ys xs} p => by
  induction p with
  | nil => exact fun {as} h => ⟨as, .refl _, h⟩
  | cons x _ ih =>
    intro as h
    cases as with
    | nil => cases h
    | cons a as =>
      cases h with
      | cons h1 h2 =>
        obtain ⟨bs, pb, hb⟩ := ih h2
        exact ⟨a :: bs, pb.cons a, .cons h1 hb⟩
  | swap x y l =>
    intro as h
    match as, h with
    | [], h => cases h
    | [a], h =>
      cases h with
      | cons h1 h2 => cases h2
    | a :: b :: as, h =>
      cases h with
      | cons h1 h2 => cases h2 with
        | cons h2 h3 => exact ⟨b :: a :: as, List.Perm.swap a b as, .cons h2 (.cons h1 h3)⟩
  | trans _ _ i1 i2 =>
    intro as h
    obtain ⟨bs, p1, h1⟩ := i2 h
    obtain ⟨cs, p2, h2⟩ := i1 h1
    exact ⟨cs, p2.trans p1, h2⟩
theorem prD_tup {v : V} {p : Int × Int} (h : Rp K G v (prD p)) (e : Same G H) : TupI K H v [p.1, p.2] := by
  obtain ⟨t, xs, rfl, hs, ha⟩ := Rp.tup_inv (ds := [.int p.1, .int p.2]) h
  have := ha.ints_inv (bs := [p.1, p.2])
  subst this
  exact ⟨t, rfl, Same.t e hs⟩
/-- lesser or the same -/
def leP (a b : Int × Int) : Prop := a.1 < b.1 ∨ a.1 = b.1 ∧ a.2 ≤ b.2
theorem rpAll_pw {α : Type} {Da : α → Dt} {R : V → V → Prop} {S : α → α → Prop} : ∀ {xs : List V} {as : List α}, RpAll K G xs (as.map Da) → xs.Pairwise R → (∀ x y a b, a ∈ as → b ∈ as → Rp K G x (Da a) → Rp K G y (Da b) → R x y → S a b) → as.Pairwise S
  | _, [], _, _, _ => List.Pairwise.nil
  | _, a :: as, h, pw, f => by
    cases h with
    | cons h1 h2 =>
      have pw := List.pairwise_cons.mp pw
      refine List.pairwise_cons.mpr ⟨fun b hb => ?_, rpAll_pw h2 pw.2 fun x y a b ha hb => f x y a b (List.mem_cons_of_mem _ ha) (List.mem_cons_of_mem _ hb)⟩
      obtain ⟨i, hi⟩ := List.mem_iff_getElem?.mp hb
      obtain ⟨v, hv, rv⟩ := h2.get (i := i) (d := Da b) (by rw [List.getElem?_map, hi]; rfl)
      exact f _ v a b List.mem_cons_self (List.mem_cons_of_mem _ hb) h1 rv (pw.1 v (List.mem_of_getElem? hv))
/-- sorted(xs), xs a list of fewer than 64 pairs of ints from 0 to B - 1 -/
theorem go_sortP {B : Int} {ps : List (Int × Int)} (hS : Sta K G0 H0 D G M H) (hx : Rp K G x (.lst (ps.map prD))) (hl : ps.length < 64) (hB : ∀ p ∈ ps, 0 ≤ p.1 ∧ p.1 < B ∧ 0 ≤ p.2 ∧ p.2 < B)
    (k : ∀ p (qs : List (Int × Int)) G1 H1, qs.Perm ps → qs.Pairwise leP → Same G G1 → Sta K G0 H0 D G1 M H1 → Rp K G1 (.ref p) (.lst (qs.map prD)) → Q (.ref p) H1) : rSortU K 2 B [x] H Q := by
  obtain ⟨a, xs, rfl, hs, ha⟩ := Rp.lst_inv hx
  have xl := ha.length
  rw [List.length_map] at xl
  refine ⟨a, xs, rfl, hS.gh.seq hs, by omega, fun v hv => ?_, fun ys p pm pw hp => ?_⟩
  · obtain ⟨i, hi⟩ := List.mem_iff_getElem?.mp hv
    obtain ⟨d, hd, rd⟩ := ha.getV hi
    rw [List.getElem?_map] at hd
    cases hq : ps[i]? with
    | none => rw [hq] at hd; cases hd
    | some q =>
      rw [hq] at hd
      cases hd
      have := hB q (List.mem_of_getElem? hq)
      exact ⟨[q.1, q.2], prD_tup rd hS.gh, rfl, fun z hz => by
        simp only [List.mem_cons, List.not_mem_nil, or_false] at hz
        rcases hz with rfl | rfl <;> omega⟩
  · obtain ⟨qs, pq, hq⟩ := rpAll_perm pm ha
    have bd : ∀ q ∈ qs, TS.Bd B [q.1, q.2] := fun q hq' z hz => by
      have := hB q (pq.mem_iff.mp hq')
      simp only [List.mem_cons, List.not_mem_nil, or_false] at hz
      rcases hz with rfl | rfl <;> omega
    have e1 : Same G (upd G p (.lst ys)) := same_upd (hS.gn hp)
    refine k p qs _ _ pq (rpAll_pw hq pw fun v u a b hma hmb hv hu h => ?_) e1 (hS.imm hp _) (.lst (.inl (.inl upd_same)) (hq.up e1))
    exact L2.code_lex (bd a hma) (bd b hmb) (h _ _ (prD_tup hv hS.gh) (prD_tup hu hS.gh))
/-- .. the list may change -/
theorem go_sortPM {B : Int} {ps : List (Int × Int)} (hS : Sta K G0 H0 D G M H) (hx : Rp K G x (.lst (ps.map prD))) (hl : ps.length < 64) (hB : ∀ p ∈ ps, 0 ≤ p.1 ∧ p.1 < B ∧ 0 ≤ p.2 ∧ p.2 < B)
    (k : ∀ p vs (qs : List (Int × Int)) H1, H0 p = none → G p = none → qs.Perm ps → qs.Pairwise leP → Sta K G0 H0 D G ((p, .lst vs) :: M) H1 → RpAll K G vs (qs.map prD) → Q (.ref p) H1) : rSortU K 2 B [x] H Q := by
  obtain ⟨a, xs, rfl, hs, ha⟩ := Rp.lst_inv hx
  have xl := ha.length
  rw [List.length_map] at xl
  refine ⟨a, xs, rfl, hS.gh.seq hs, by omega, fun v hv => ?_, fun ys p pm pw hp => ?_⟩
  · obtain ⟨i, hi⟩ := List.mem_iff_getElem?.mp hv
    obtain ⟨d, hd, rd⟩ := ha.getV hi
    rw [List.getElem?_map] at hd
    cases hq : ps[i]? with
    | none => rw [hq] at hd; cases hd
    | some q =>
      rw [hq] at hd
      cases hd
      have := hB q (List.mem_of_getElem? hq)
      exact ⟨[q.1, q.2], prD_tup rd hS.gh, rfl, fun z hz => by
        simp only [List.mem_cons, List.not_mem_nil, or_false] at hz
        rcases hz with rfl | rfl <;> omega⟩
  · obtain ⟨qs, pq, hq⟩ := rpAll_perm pm ha
    have bd : ∀ q ∈ qs, TS.Bd B [q.1, q.2] := fun q hq' z hz => by
      have := hB q (pq.mem_iff.mp hq')
      simp only [List.mem_cons, List.not_mem_nil, or_false] at hz
      rcases hz with rfl | rfl <;> omega
    exact k p ys qs _ (hS.h0 hp) (hS.gn hp) pq (rpAll_pw hq pw fun v u a b hma hmb hv hu h => L2.code_lex (bd a hma) (bd b hmb) (h _ _ (prD_tup hv hS.gh) (prD_tup hu hS.gh))) (hS.mut hp _) hq
/-- xs.insert(i, y) -/
def rInsert : V → List V → Hp → VK → Prop := fun x vs H Q => ∃ (l : Addr) (xs : List V) (i : Int) (y : V), x = .ref l ∧ vs = [.int i, y] ∧ H l = some (.lst xs) ∧ xs.length < sizeLine ∧ 0 ≤ i ∧ i < 2 ^ 63 ∧ Q .non (upd H l (.lst (xs.take i.toNat ++ [y] ++ xs.drop i.toNat)))
theorem mt_insert_ {X : Cx} : MtR X "list.insert" rInsert := L2.mt_insert
theorem go_insert {p : Addr} {xs : List V} {i k : Nat} {y : V} (hS : Sta K G0 H0 D G M H) (hi : M[i]? = some (p, .lst xs)) (hl : xs.length < 100000) (hk : k < 1000000) (hM : M.set i (p, .lst (xs.take k ++ [y] ++ xs.drop k)) = M') (q : ∀ H1, Sta K G0 H0 D G M' H1 → Q .non H1) : rInsert (.ref p) [.int (k : Int), y] H Q := by
  subst hM
  exact ⟨p, xs, (k : Int), y, rfl, rfl, hS.get hi, Nat.lt_of_lt_of_le hl (by decide), by omega, by omega, q _ (hS.set hi _)⟩
theorem okD_pr (p : Int × Int) (n : Nat) : okE (n + 2) (prD p) = true := by simp [prD, okE]
theorem okE_prs {ps : List (Int × Int)} (h : ps.length ≤ 100000) : okE 5 (.lst (ps.map prD)) = true := by
  refine okE_lst (by simpa using h) fun e he => ?_
  obtain ⟨p, _, rfl⟩ := List.mem_map.mp he
  exact okD_pr p 2
/-- xs == [] , xs a list that may change -/
theorem go_eqNil {p : Addr} {xs : List V} {ds : List Dt} {y : V} {i n : Nat} (hS : Sta K G0 H0 D G M H) (hi : M[i]? = some (p, .lst xs)) (hr : RpAll K G xs ds) (ho : okE n (.lst ds) = true) (hn : n ≤ 64) (hy : Rp K G y (.lst [])) (k : Q (.bl (decide (ds.length = 0))) H) : rEqD K (.ref p) y H Q := by
  have hx : Rp K H (.ref p) (.lst ds) := .lst (.inl (.inl (hS.get hi))) (hr.up hS.gh)
  refine ⟨_, _, Rp.dp (okE_okD ho) hx, Rp.dp (n := 2) (by simp [okD]) (hy.up hS.gh), shaped_toPy ho hn, shaped_toPy (n := 2) (by simp [okE]) (by decide), ?_⟩
  have : PyData.eqv (toPy (.lst ds)) (toPy (.lst [])) = decide (ds.length = 0) := by
    cases ds with
    | nil => simp [toPy, toPyL, PyData.eqv, PyData.eqvAll]
    | cons d ds => simp [toPy, toPyL, PyData.eqv, PyData.eqvAll]
  rw [this]
  exact k
theorem rpAll_erase : ∀ {vs : List V} {ds : List Dt} {i : Nat}, RpAll K G vs ds → RpAll K G (vs.eraseIdx i) (ds.eraseIdx i)
  | [], [], _, .nil => .nil
  | _ :: _, _ :: _, 0, .cons _ h => h
  | _ :: _, _ :: _, _ + 1, .cons h1 h => .cons h1 (rpAll_erase h)
theorem erase_mapL {α β : Type} {f : α → β} : ∀ {xs : List α} {i : Nat}, (xs.map f).eraseIdx i = (xs.eraseIdx i).map f
  | [], _ => rfl
  | _ :: _, 0 => rfl
  | x :: xs, i + 1 => congrArg (f x :: ·) erase_mapL
/-- xs.pop(i) -/
theorem go_popI {p : Addr} {xs : List V} {i k : Nat} (hS : Sta K G0 H0 D G M H) (hi : M[i]? = some (p, .lst xs)) (hk : k < xs.length) (hl : k < 1000000) (hM : M.set i (p, .lst (xs.eraseIdx k)) = M') (q : ∀ v H1, Sta K G0 H0 D G M' H1 → Q v H1) : rPopAt (.ref p) [.int (k : Int)] H Q := by
  subst hM
  exact ⟨p, xs, (k : Int), k, xs[k], rfl, rfl, hS.get hi, by omega, by omega, (L2.ixN_seq (ixN_nat hk)).1, List.getElem?_eq_getElem hk, q _ _ (hS.set hi _)⟩
def rIsB : R2 := fun x y H Q => ∃ a b, x = .bl a ∧ y = .bl b ∧ Q (.bl (decide (a = b))) H
def rIsntB : R2 := fun x y H Q => ∃ a b, x = .bl a ∧ y = .bl b ∧ Q (.bl (!decide (a = b))) H
theorem go_isB {i j : Bool} (h : Q (.bl (decide (i = j))) H) : rIsB (.bl i) (.bl j) H Q := ⟨i, j, rfl, rfl, h⟩
theorem go_isntB {i j : Bool} (h : Q (.bl (!decide (i = j))) H) : rIsntB (.bl i) (.bl j) H Q := ⟨i, j, rfl, rfl, h⟩
theorem go_eqNI {i : Int} (h : Q (.bl false) H) : rEq .non (.int i) H Q := ⟨rfl, by
  have : decide (V.non = V.int i) = false := by simp
  rw [this]; exact h⟩
theorem go_eqIN {i : Int} (h : Q (.bl false) H) : rEq (.int i) .non H Q := ⟨rfl, by
  have : decide (V.int i = V.non) = false := by simp
  rw [this]; exact h⟩
theorem go_eqNN (h : Q (.bl true) H) : rEq .non .non H Q := ⟨rfl, by
  have : decide (V.non = V.non) = true := by simp
  rw [this]; exact h⟩
/-- what stands without some tables -/
def lessL (H : Hp) (ps : List Addr) : Hp := fun b => if b ∈ ps then none else H b
theorem start_tabs {K : PySem.W.Frag} {H : Hp} {ps : List Addr} (h : ∀ p ∈ ps, H p = some (.tbl #[])) (nd : ps.Nodup) : Sta K (lessL H ps) H ps (lessL H ps) (ps.map fun p => (p, .tbl #[])) H :=
  ⟨Same.refl _, fun b o e => by
    have e : (if b ∈ ps then none else H b) = some o := e
    split at e
    · cases e
    · exact e, fun _ _ => rfl, fun _ _ h _ => h, fun _ h => h, by
      have e : (ps.map fun p => ((p, HO.tbl #[]) : Addr × HO)).map (·.1) = ps := by rw [List.map_map]; exact List.map_id' ps
      rw [e]
      exact nd, fun q hq => by
    obtain ⟨p, hp, rfl⟩ := List.mem_map.mp hq
    exact ⟨h p hp, if_pos hp, .inl hp⟩⟩
theorem sqL_lessL {K : PySem.W.Frag} {H : Hp} {ps : List Addr} {a : Addr} {xs : List V} (h : ∀ p ∈ ps, H p = some (.tbl #[])) (hs : SqL K H a xs) : SqL K (lessL H ps) a xs := by
  have ne : ∀ {o : HO}, H a = some o → (∀ q, o ≠ .tbl q) → lessL H ps a = some o := fun {o} e n => by
    have : a ∉ ps := fun z => by
      rw [h a z] at e
      exact n _ (Option.some.inj e).symm
    show (if a ∈ ps then none else H a) = some o
    rw [if_neg this]
    exact e
  rcases hs with (h | ⟨o, h⟩) | h
  · exact .inl (.inl (ne h fun q z => by cases z))
  · exact .inl (.inr ⟨o, ne h fun q z => by cases z⟩)
  · exact .inr h
end
theorem srtA_srtd {α : Type} (kf : α → List Int) (as : List α) : (srtA kf as).Pairwise fun a c => HT.lexLt (kf c) (kf a) = false := by
  unfold srtA
  rw [List.pairwise_map]
  refine List.Pairwise.imp_of_mem (fun {a c} ha hc h => ?_) (srtK_ok (as.map fun a => (kf a, a))).1
  obtain ⟨a', _, rfl⟩ := List.mem_map.mp ((srtK_perm _).mem_iff.mp ha)
  obtain ⟨c', _, rfl⟩ := List.mem_map.mp ((srtK_perm _).mem_iff.mp hc)
  exact h
theorem srtA_map {α β : Type} (f : α → β) (kf : β → List Int) (as : List α) : (srtA (fun a => kf (f a)) as).map f = srtA kf (as.map f) := by
  have paired : ∀ as : List α, RK_ (fun a b => f a = b) (as.map fun a => (kf (f a), a)) ((as.map f).map fun b => (kf b, b)) := fun as => by
    induction as with
    | nil => exact .nil
    | cons a as ih => exact .cons ⟨rfl, rfl⟩ ih
  have ends : ∀ {l : List (List Int × α)} {m : List (List Int × β)}, RK_ (fun a b => f a = b) l m → (l.map (·.2)).map f = m.map (·.2) := fun {l m} h => by
    induction h with
    | nil => rfl
    | cons h _ ih => rw [List.map_cons, List.map_cons, List.map_cons, ih, h.2]
  exact ends (srtK_rel (paired as))
theorem lex1 {x y : Int} (h : HT.lexLt [y] [x] = false) : x ≤ y := by
  rw [HT.lexLt_cons] at h
  by_cases e : y = x
  · omega
  · rw [if_neg e] at h
    have := of_decide_eq_false h
    omega
section
variable {K : PySem.W.Frag} {G0 H0 G H : Hp} {D : List Addr} {M : List (Addr × HO)} {σ : L2.St} {Q : VK} {tt : TT} {te : TE} {vss : List Nat} {k : Bool} {a : Addr} {xs : List V}
/-- a comprehension with a test over a list or a tuple: the list as it is -/
theorem lcFiltKR {α : Type} {g : TG} {as : List α} {Da : α → Dt} {p : α → Bool} {F : α → Dt} (hS : Sta K G0 H0 D G M H) (hq : SqK k K G a xs) (hr : RpAll K G xs (as.map Da)) (hl : as.length ≤ 100000)
    (hs : ∀ x c L G1 vs es H1 (Z Z0 : List (Addr × HO) → List Dt → Prop), c ∈ as → Rp K G1 x (Da c) → Same G G1 → H0 L = none → Sta K G0 H0 D G1 ((L, .lst vs) :: M) H1 → RpAll K G1 vs es → (p c = true → ∀ y G2 H2, Same G1 G2 → Sta K G0 H0 D G2 ((L, .lst vs) :: M) H2 → Rp K G2 y (F c) → LcY K G0 H0 D G L Z y H2) → (p c = false → ∀ G2 H2, Same G1 G2 → Sta K G0 H0 D G2 ((L, .lst vs) :: M) H2 → LcP K G0 H0 D G L Z0 H2) →
      g x (wipe σ vss) H1 fun σ2 H3 => wipe σ2 vss = wipe σ vss ∧ tt σ2 H3 fun b H4 => if b = true then te σ2 H4 (LcY K G0 H0 D G L Z) else LcP K G0 H0 D G L Z0 H4)
    (hd : ∀ p' G1 H1, Same G G1 → Sta K G0 H0 D G1 M H1 → RpL K G1 p' ((as.filter p).map F) → Q (.ref p') H1) : LcG (ItK k K a) g tt te vss σ Q H := by
  have xl := hr.length
  rw [List.length_map] at xl
  refine lcIM (walk_K (xs := xs)) hS (fun H1 e => hq.up e) (fun i M1 es => M1 = M ∧ es = ((as.take i).filter p).map F) ⟨rfl, rfl⟩ (fun i x L G1 M1 vs es H1 H2 hi e l0 s r w yy => ?_) (fun p' G1 M1 vs es H1 e l0 s r w => ?_)
  · obtain ⟨rfl, rfl⟩ := w
    obtain ⟨rfl, hx⟩ := yy
    have hi2 : i < as.length := by omega
    obtain ⟨d, hd', rd⟩ := hr.getV hx
    rw [List.getElem?_map, List.getElem?_eq_getElem hi2] at hd'
    cases hd'
    have len : (((as.take i).filter p).map F).length ≤ i := by
      rw [List.length_map]
      exact Nat.le_trans (List.length_filter_le _ _) (by rw [List.length_take]; omega)
    have tk : ((as.take (i + 1)).filter p).map F = ((as.take i).filter p).map F ++ if p as[i] = true then [F as[i]] else [] := by
      rw [List.take_add_one, List.getElem?_eq_getElem hi2, List.filter_append, List.map_append]
      by_cases hp : p as[i] = true <;> simp [hp]
    refine hs x as[i] L G1 vs _ _ _ _ (List.getElem_mem hi2) (rd.up e) e l0 s r (fun hp y G3 H3 e3 s3 hy => ?_) (fun hp G3 H3 e3 s3 => ?_)
    · exact lcY s3 (e.trans e3) (r.up e3) hy (by omega) ⟨rfl, by rw [tk, if_pos hp]⟩
    · exact lcN s3 (e.trans e3) (r.up e3) ⟨rfl, by rw [tk, if_neg (by rw [hp]; decide), List.append_nil]⟩
  · obtain ⟨rfl, rfl⟩ := w
    rw [List.take_of_length_le (by omega)] at r
    obtain ⟨s2, e2⟩ := s.frz l0
    exact hd p' _ H1 (e.trans e2) s2 ⟨vs, upd_same, r.up e2⟩
end
/-- numbers with what is known of them -/
theorem sub_lift {P : Int → Prop} {l : List Int} (h : ∀ i ∈ l, P i) : ∃ m : List {i : Int // P i}, m.map (·.1) = l ∧ m.map (fun i => Dt.int i.1) = l.map .int := by
  have e : (l.attach.map fun x => (⟨x.1, h x.1 x.2⟩ : {i : Int // P i})).map (·.1) = l := by
    rw [List.map_map]
    exact List.attach_map_subtype_val l
  refine ⟨_, e, ?_⟩
  have := congrArg (List.map Dt.int) e
  rw [List.map_map] at this
  exact this
end B
/-! dicts whose keys are ints; while; lists that hold ints or None -/
namespace Bw
open PySem L2 B RZ
section
variable {K : PySem.W.Frag} {G0 H0 G H : Hp} {D : List Addr} {M M' : List (Addr × HO)} {σ : L2.St} {Q : VK} {x y v : V} {te td ty : TE} {c : TT} {t : TS} {nx bk ct : L2.St → Hp → Prop} {rt : VK}
/-- behind a turn of a while: the measure is less -/
def NW (K : PySem.W.Frag) (G0 H0 : Hp) (D : List Addr) (G : Hp) (W : Nat → L2.St → Hp → List (Addr × HO) → Prop) (m : Nat) : L2.St → Hp → Prop := fun σ H => ∃ m' G1 M1, m' < m ∧ Same G G1 ∧ Sta K G0 H0 D G1 M1 H ∧ W m' σ G1 M1
theorem NW.mk {W : Nat → L2.St → Hp → List (Addr × HO) → Prop} {m m' : Nat} {G1 : Hp} (hS : Sta K G0 H0 D G1 M H) (e : Same G G1) (lt : m' < m) (w : W m' σ G1 M) : NW K G0 H0 D G W m σ H := ⟨m', G1, M, lt, e, hS, w⟩
/-- what a while's question is asked for -/
def WhQ (K : PySem.W.Frag) (G0 H0 : Hp) (D : List Addr) (G : Hp) (W : Nat → L2.St → Hp → List (Addr × HO) → Prop) (m : Nat) (t : TS) (nx : L2.St → Hp → Prop) (rt : VK) (σ : L2.St) : Bool → Hp → Prop := fun b H1 => if b = true then ∃ N : L2.St → Hp → Prop, (∀ σ' H', N σ' H' → ∃ m', m' < m ∧ ∃ G1 M1, Same G G1 ∧ Sta K G0 H0 D G1 M1 H' ∧ W m' σ' G1 M1) ∧ t ⟨N, rt, nx, N⟩ σ H1 else nx σ H1
theorem WhQ.tt {W : Nat → L2.St → Hp → List (Addr × HO) → Prop} {m : Nat} {b : Bool} (hb : b = true) (h : t ⟨NW K G0 H0 D G W m, rt, nx, NW K G0 H0 D G W m⟩ σ H) : WhQ K G0 H0 D G W m t nx rt σ b H := by
  subst hb
  unfold WhQ
  rw [if_pos rfl]
  exact ⟨_, fun σ' H' ⟨m', G1, M1, l, e, s, w⟩ => ⟨m', l, G1, M1, e, s, w⟩, h⟩
theorem WhQ.ff {W : Nat → L2.St → Hp → List (Addr × HO) → Prop} {m : Nat} {b : Bool} (hb : b = false) (h : nx σ H) : WhQ K G0 H0 D G W m t nx rt σ b H := by
  subst hb
  unfold WhQ
  rw [if_neg (by decide)]
  exact h
theorem whileS (hS : Sta K G0 H0 D G M H) (W : Nat → L2.St → Hp → List (Addr × HO) → Prop) (n : Nat) (h0 : W n σ G M)
    (hs : ∀ m σ' G1 M1 H1, Same G G1 → Sta K G0 H0 D G1 M1 H1 → W m σ' G1 M1 → c σ' H1 (WhQ K G0 H0 D G W m t nx rt σ')) : tWhile c t ⟨nx, rt, bk, ct⟩ σ H :=
  ⟨fun m σ' H' => ∃ G1 M1, Same G G1 ∧ Sta K G0 H0 D G1 M1 H' ∧ W m σ' G1 M1, ⟨n, G, M, Same.refl G, hS, h0⟩, fun m σ' H' ⟨G1, M1, e, s, w⟩ => hs m σ' G1 M1 H' e s w⟩
/-! dicts by ints -/
def DK1 (Q : VK) (x y : V) (H : Hp) : Prop := ∃ a v, x = .ref a ∧ DGet H a y (some v) ∧ Q v H
def DK2 (neg : Bool) (Q : VK) (x y : V) (H : Hp) : Prop := ∃ a o, x = .ref a ∧ DGet H a y o ∧ Q (.bl (if neg then !o.isSome else o.isSome)) H
def DK3 (nx : L2.St → Hp → Prop) (σ : L2.St) (v x y : V) (H : Hp) : Prop := ∃ a H4, x = .ref a ∧ DPut H a y v H4 ∧ nx σ H4
theorem go_dg (h : td σ H fun x H1 => ty σ H1 fun y H2 => DK1 Q x y H2) : tDGet td ty σ H Q := h
theorem go_di (h : ty σ H fun y H1 => td σ H1 fun x H2 => DK2 false Q x y H2) : tDIn ty td σ H Q := h
theorem go_dn (h : ty σ H fun y H1 => td σ H1 fun x H2 => DK2 true Q x y H2) : tDNotIn ty td σ H Q := h
theorem go_dp (h : te σ H fun v H1 => td σ H1 fun x H2 => ty σ H2 fun y H3 => DK3 nx σ v x y H3) : sDPut td ty te ⟨nx, rt, bk, ct⟩ σ H := h
theorem go_dnK (hS : Sta K G0 H0 D G M H) (k : ∀ p H1, H0 p = none → G p = none → Sta K G0 H0 D G ((p, .dK []) :: M) H1 → Q (.ref p) H1) : tDNewK σ H Q := fun p hp => k p _ (hS.h0 hp) (hS.gn hp) (hS.mut hp _)
/-- a dict from places to places, as it was filled -/
def cameK (came : List (Nat × Nat)) : List (Key × V) := came.map fun p => (.inl (p.1 : Int), .int (p.2 : Int))
theorem cameK_val : ∀ (came : List (Nat × Nat)) (k : Nat), valV (cameK came) (.inl (k : Int)) = (came.lookup k).map fun i => V.int (i : Int)
  | [], k => rfl
  | (j, i) :: came, k => by
    have ih := cameK_val came k
    unfold cameK at ih ⊢
    rw [List.map_cons]
    by_cases e : j = k
    · subst e
      rw [valV_pos rfl, List.lookup_cons_self]
      rfl
    · rw [valV_neg (by simp; omega), ih, List.lookup_cons, show (k == j) = false from by simp; omega]
theorem cameK_app (came : List (Nat × Nat)) (k i : Nat) : cameK (came ++ [(k, i)]) = cameK came ++ [(.inl (k : Int), .int (i : Int))] := by simp [cameK]
theorem lookup_mem (came : List (Nat × Nat)) (k : Nat) : (came.lookup k).isSome = decide (k ∈ came.map (·.1)) := by
  induction came with
  | nil => rfl
  | cons p came ih =>
    obtain ⟨j, i⟩ := p
    rw [List.lookup_cons]
    by_cases e : k = j
    · subst e; simp
    · rw [show (k == j) = false from by simp [e]]
      simp only [ih, List.map_cons, List.mem_cons]
      simp [e]
theorem cameK_put {came : List (Nat × Nat)} {k : Nat} (i : Nat) (h : k ∉ came.map (·.1)) : putK (cameK came) (.inl (k : Int)) (.int (i : Int)) = cameK (came ++ [(k, i)]) := by
  rw [cameK_app]
  apply putK_new
  rw [cameK_val]
  have := lookup_mem came k
  rw [decide_eq_false h] at this
  cases e : came.lookup k with
  | none => rfl
  | some w => rw [e] at this; cases this
theorem cameK_len (came : List (Nat × Nat)) : (cameK came).length = came.length := by simp [cameK]
theorem go_dgK {a : Addr} {came : List (Nat × Nat)} {k i : Nat} (hx : G a = some (.dK (cameK came))) (e : Same G H) (hk : came.lookup k = some i) (q : Q (.int (i : Int)) H) : DK1 Q (.ref a) (.int (k : Int)) H := by
  refine ⟨a, _, rfl, ?_, q⟩
  have := DGet.k (k := .inl (k : Int)) (e _ _ hx)
  rw [cameK_val, hk] at this
  exact this
theorem go_dnKM {a : Addr} {came : List (Nat × Nat)} {k n : Nat} (hS : Sta K G0 H0 D G M H) (hi : M[n]? = some (a, .dK (cameK came))) (q : Q (.bl (!decide (k ∈ came.map (·.1)))) H) : DK2 true Q (.ref a) (.int (k : Int)) H := by
  refine ⟨a, _, rfl, DGet.k (k := .inl (k : Int)) (hS.get hi), ?_⟩
  have e : (valV (cameK came) (.inl (k : Int))).isSome = decide (k ∈ came.map (·.1)) := by
    rw [cameK_val, ← lookup_mem]
    cases came.lookup k <;> rfl
  rw [e]
  exact q
theorem go_dpK {a : Addr} {came : List (Nat × Nat)} {k i n : Nat} {M' : List (Addr × HO)} (hS : Sta K G0 H0 D G M H) (hi : M[n]? = some (a, .dK (cameK came))) (hk : k ∉ came.map (·.1)) (hl : came.length < 100000) (hM : M.set n (a, .dK (cameK (came ++ [(k, i)]))) = M')
    (q : ∀ H1, Sta K G0 H0 D G M' H1 → nx σ H1) : DK3 nx σ (.int (i : Int)) (.ref a) (.int (k : Int)) H := by
  subst hM
  refine ⟨a, _, rfl, DPut.k (k := .inl (k : Int)) (hS.get hi) (by rw [cameK_len]; exact Nat.lt_of_lt_of_le hl (by decide)), ?_⟩
  rw [cameK_put i hk]
  exact q _ (hS.set hi _)
/-! lists that hold places or None -/
def oV : Option Nat → V
  | none => .non
  | some n => .int (n : Int)
theorem oV_set (l : List (Option Nat)) (i : Nat) (o : Option Nat) : (l.map oV).set i (oV o) = (l.set i o).map oV := by rw [List.map_set]
theorem oV_at {l : List (Option Nat)} {i : Nat} (h : i < l.length) : atI (l.map oV) (i : Int) = some (oV (l.getD i none)) := by
  have e : (l.map oV)[i]? = some (oV (l.getD i none)) := by
    rw [List.getElem?_map, List.getD, List.getElem?_eq_getElem h]
    rfl
  exact atI_nat e
theorem go_ixO {p : Addr} {l : List (Option Nat)} {i n : Nat} (hS : Sta K G0 H0 D G M H) (hi : M[n]? = some (p, .lst (l.map oV))) (h : i < l.length) (k : Q (oV (l.getD i none)) H) : rIx K (.ref p) (.int (i : Int)) H Q := go_ixM (hS.get hi) (oV_at h) k
theorem go_setO {p : Addr} {l : List (Option Nat)} {i n : Nat} {o : Option Nat} {M' : List (Addr × HO)} {k : Hp → Prop} (hS : Sta K G0 H0 D G M H) (hi : M[n]? = some (p, .lst (l.map oV))) (h : i < l.length) (hv : v = oV o) (hM : M.set n (p, .lst ((l.set i o).map oV)) = M') (q : ∀ H1, Sta K G0 H0 D G M' H1 → k H1) : rSetL (.ref p) (.int (i : Int)) v H k := by
  subst hv
  exact go_setL hS hi (ixN_nat (by simpa using h)) (by rw [oV_set]; exact hM) q
end
end Bw
namespace Bw
open PySem L2 B RZ
/-! ### the walk's own steps (local) -/
local macro_rules | `(tactic| walk_at "sm") => `(tactic| first
  | assumption
  | exact Same.refl _
  | (refine' Same.trans (H1 := ?m) ?g ?e; (case e => assumption); (case g => walk_at "sm")) | fail)
local macro_rules | `(tactic| walk_at "rp") => `(tactic| first
  | assumption
  | with_reducible exact Rp.int _
  | with_reducible exact Rp.bl _
  | with_reducible exact Rp.str _
  | with_reducible exact Rp.non
  | with_reducible exact RpAll.nil
  | ((with_reducible refine' RpAll.cons ?a ?b); (case a => walk_at "rp"); (case b => walk_at "rp"))
  | ((with_reducible refine' Rp.up (G := ?m) ?e ?g); (case e => assumption); (case g => walk_at "rp"))
  | ((with_reducible refine' RpAll.up (G := ?m) ?e ?g); (case e => assumption); (case g => walk_at "rp"))
  | ((with_reducible refine' Same.seq (H := ?m) ?e ?g); (case e => assumption); (case g => walk_at "rp"))
  | ((with_reducible refine' Same.t (H := ?m) ?e ?g); (case e => assumption); (case g => walk_at "rp")) | fail)
local macro_rules | `(tactic| walk_at "gh") => `(tactic| first | exact Sta.gh (by assumption) | walk_at "sm")
local macro_rules | `(tactic| walk_at "ar") => `(tactic| first | omega | decide | exact ⟨by omega, by omega⟩ | exact .inl ⟨by omega, by omega⟩ | exact .inr ⟨by omega, by omega⟩ | exact ⟨by omega, by omega, by omega, by omega⟩ | exact ⟨by omega, by omega, by decide⟩ | (show (0 : Int) < _; omega))
local macro_rules | `(tactic| walk_at "sc") => `(tactic| first | (obtain rfl := Rp.int_inv (by assumption)) | skip)
local macro_rules | `(tactic| walk_at "set") => `(tactic| ((try simp only [List.set_cons_zero, List.set_cons_succ]); try rfl))
local macro_rules | `(tactic| walk_at "val") => `(tactic| (intro v hv; first | (cases Rp.int_inv hv; clear hv) | (cases Rp.bl_inv hv; clear hv) | (cases Rp.non_inv hv; clear hv) | (cases Rp.str_inv hv; clear hv) | skip))
local macro_rules | `(tactic| walk_at "kit") => `(tactic| first | with_reducible exact kit_NoneType_tuple | with_reducible exact kit_NoneType_list | with_reducible exact kit_NoneType_bool | with_reducible exact kit_NoneType_int | with_reducible exact kit_NoneType_str | with_reducible exact kit_bool_tuple | with_reducible exact kit_bool_list | with_reducible exact kit_bool_bool | with_reducible exact kit_bool_int | with_reducible exact kit_bool_str | with_reducible exact kit_int_tuple | with_reducible exact kit_int_list | with_reducible exact kit_int_bool | with_reducible exact kit_int_int | with_reducible exact kit_int_str | with_reducible exact kit_str_tuple | with_reducible exact kit_str_list | with_reducible exact kit_str_bool | with_reducible exact kit_str_int | with_reducible exact kit_str_str | with_reducible exact kit_list_tuple | with_reducible exact kit_list_list | with_reducible exact kit_list_bool | with_reducible exact kit_list_int | with_reducible exact kit_list_str | with_reducible exact kit_tuple_tuple | with_reducible exact kit_tuple_list | with_reducible exact kit_tuple_bool | with_reducible exact kit_tuple_int | with_reducible exact kit_tuple_str)
local macro_rules | `(tactic| walk_at "mi") => `(tactic| first | (refine' mi0 ?_; exact rfl) | (refine' mi1 ?_; exact rfl) | (refine' mi2 ?_; exact rfl) | (refine' mi3 ?_; exact rfl))
local macro_rules | `(tactic| walk_at "mg") => `(tactic| first | (refine' Sta.get ?a ?b; (case a => assumption); (case b => walk_at "mi")) | fail)
local macro_rules | `(tactic| walk_at "s") => `(tactic| first
  | with_reducible refine' go_seq ?_
  | with_reducible refine' go_asg ?_
  | ((with_reducible refine' go_gname (σ' := ?s) ?e ?_); (case e => walk_at "set"))
  | ((with_reducible refine' go_σ (σ' := ?s) ?e ?_); (case e => walk_at "set"))
  | ((with_reducible refine' go_var (v := ?v) ?e ?_); (case e => exact rfl))
  | with_reducible refine' go_c ?_
  | with_reducible refine' go_op ?_
  | with_reducible refine' go_rI0 ?_
  | ((with_reducible refine' go_rI ?c ?_); (case c => walk_at "ar"))
  | with_reducible refine' go_un ?_
  | with_reducible refine' go_rU ?_
  | with_reducible refine' go_ret ?_
  | with_reducible refine' go_retN ?_
  | with_reducible refine' go_drop ?_
  | with_reducible refine' go_ifS ?_
  | with_reducible refine' go_tTest ?_
  | with_reducible refine' go_tB ?_
  | with_reducible refine' go_k ?_
  | with_reducible refine' go_kand ?_
  | with_reducible refine' go_tAnd ?_
  | with_reducible refine' go_tOr ?_
  | with_reducible refine' go_tNot ?_
  | with_reducible refine' go_tAndV ?_
  | with_reducible refine' go_tOrV ?_
  | with_reducible refine' go_tNotV ?_
  | with_reducible refine' go_tIf ?_
  | with_reducible refine' go_tYes ?_
  | with_reducible refine' go_eqI ?_
  | with_reducible refine' go_neI ?_
  | with_reducible refine' go_eqB ?_
  | with_reducible refine' go_neB ?_
  | with_reducible refine' go_eqS ?_
  | with_reducible refine' go_neS ?_
  | with_reducible refine' go_tIsN ?_
  | with_reducible refine' go_tNotN ?_
  | with_reducible refine' go_cons ?_
  | with_reducible refine' go_nil ?_
  | with_reducible refine' go_tCB ?_
  | with_reducible refine' go_call ?_
  | with_reducible refine' go_call0 ?_
  | with_reducible refine' go_chain ?_
  | with_reducible refine' go_next ?_
  | with_reducible refine' go_break ?_
  | with_reducible refine' go_cont ?_
  | with_reducible refine' go_par ?_
  | ((with_reducible refine' go_par2 (σ' := ?s) ?e ?_); (case e => walk_at "set"))
  | with_reducible refine' go_callN ?_
  | ((with_reducible refine' go_calln (ws := ?ws) ?a ?b ?e ?_); (case a => exact rfl); (case b => exact rfl); (case e => ((try simp only [List.cons_append, List.nil_append]); try rfl)))
  | with_reducible refine' go_bm0 ?_
  | with_reducible refine' go_abs ?_
  | ((with_reducible refine' go_isi (G := ?G) (d := ?d) (t := ?t) (b := ?b) ?hx ?e ?ht ?hn ?hb ?_); (case e => exact Sta.gh (by assumption)); (case hx => walk_at "rp"); (case ht => first | with_reducible exact tyD_int | with_reducible exact tyD_bl | with_reducible exact tyD_non | with_reducible exact tyD_str | with_reducible exact tyD_lst | with_reducible exact tyD_tup); (case hn => decide); (case hb => walk_at "kit"))
  | with_reducible refine' go_max ?_
  | with_reducible refine' go_min ?_
  | ((with_reducible refine' go_lenL (G := ?G) (ds := ?ds) ?hx ?e ?_); (case e => exact Sta.gh (by assumption)); (case hx => walk_at "rp"))
  | ((with_reducible refine' go_lenT (G := ?G) (ds := ?ds) ?hx ?e ?_); (case e => exact Sta.gh (by assumption)); (case hx => walk_at "rp"))
  | with_reducible refine' go_tup ?_
  | with_reducible refine' go_lst ?_
  | with_reducible refine' go_for ?_
  | with_reducible refine' go_iList ?_
  | ((with_reducible refine' go_itl (G := ?G) (ds := ?ds) ?hx ?e ?_); (case e => exact Sta.gh (by assumption)); (case hx => walk_at "rp"); (intro a xs ea hq hr; cases ea))
  | with_reducible refine' go_iRng1 ?_
  | with_reducible refine' go_iRng2 ?_
  | ((with_reducible refine' go_rng1 ?e ?_); (case e => walk_at "ar"))
  | ((with_reducible refine' go_rng2 ?e ?_); (case e => walk_at "ar"))
  | with_reducible refine' go_iteT ?_
  | with_reducible refine' go_iteF ?_
  | with_reducible refine' go_int ?_
  | with_reducible refine' go_intB ?_
  | ((with_reducible refine' go_ixA (G := ?G) (ds := ?ds) (d := ?d) ?hx ?e ?hi ?_); (case e => exact Sta.gh (by assumption)); (case hx => walk_at "rp"); (case hi => exact rfl); walk_at "val")
  | ((with_reducible refine' go_ixB (G := ?G) (ds := ?ds) (d := ?d) ?hx ?e ?hi ?_); (case e => exact Sta.gh (by assumption)); (case hx => walk_at "rp"); (case hi => exact rfl); walk_at "val")
  | ((with_reducible refine' go_ixM (xs := ?xs) (v := ?v) ?hp ?hi ?_); (case hp => walk_at "mg"); (case hi => exact rfl))
  | with_reducible refine' go_gsub ?_
  | with_reducible refine' go_bm ?_
  | with_reducible refine' go_fld ?_
  | ((with_reducible refine' go_bmL (xs := ?xs) ?hp ?_); (case hp => walk_at "mg"))
  | ((with_reducible refine' go_append (xs := ?xs) (i := ?i) (M' := ?M') ?hS ?hi ?hl ?hM ?_); (case hS => assumption); (case hi => walk_at "mi"); (case hl => first | omega | (simp; omega)); (case hM => walk_at "set"); (intro H1 hS1))
  | ((with_reducible refine' go_lenM (xs := ?xs) ?hp ?_); (case hp => walk_at "mg"))
  | ((with_reducible refine' go_iteX1 ?e ?_); (case e => first | exact rfl | exact decide_eq_true rfl))
  | ((with_reducible refine' go_iteX0 ?e ?_); (case e => first | exact rfl | exact congrArg Bool.not (decide_eq_true rfl)))
  | (with_reducible refine' go_ite (fun h => ?_) (fun h => ?_))
  | (with_reducible refine' go_iteN (fun h => ?_) (fun h => ?_)) | fail)
local macro_rules | `(tactic| walk_at "s") => `(tactic| first | ((with_reducible refine' go_newT (ds := ?ds) ?hS ?hx ?hl ?_); (case hS => assumption); (case hx => walk_at "rp"); (case hl => exact sz (by simp)); (intro p G1 H1 e1 hS1 hr1)) | fail)
local macro_rules | `(tactic| walk_at "nl") => `(tactic| first | ((with_reducible refine' go_newL (ds := ?ds) ?hS ?hx ?hl ?_); (case hS => assumption); (case hx => walk_at "rp"); (case hl => exact sz (by simp)); (intro p G1 H1 e1 hS1 hr1)) | fail)
local macro_rules | `(tactic| walk_at "go") => `(tactic| repeat' walk_at "s")
local macro_rules | `(tactic| walk_at "to") => `(tactic| repeat ((fail_if_success with_reducible refine' go_seq ?_); walk_at "s"))
local macro_rules | `(tactic| walk_at "set") => `(tactic| ((try simp only [wipe, List.set_cons_zero, List.set_cons_succ]); try rfl))
local macro_rules | `(tactic| walk_at "s") => `(tactic| first
  | with_reducible refine' go_lc ?_
  | ((with_reducible refine' go_wipe ?e ?_); (case e => rfl))
  | with_reducible refine' go_sl ?_
  | with_reducible refine' go_noPart ?_
  | with_reducible refine' go_part ?_
  | with_reducible refine' go_ptk ?_
  | with_reducible refine' go_orT ?_
  | with_reducible refine' go_ckw ?_
  | with_reducible refine' go_otk_non ?_
  | ((with_reducible refine' go_tupL (ds := ?ds) ?hS ?hx ?_); (case hS => assumption); (case hx => walk_at "rp"); (intro p G1 H1 e1 hS1 hr1))
  | ((with_reducible refine' go_listL (ds := ?ds) ?hS ?hx ?_); (case hS => assumption); (case hx => walk_at "rp"); (intro p G1 H1 e1 hS1 hr1)) | fail)
local macro_rules | `(tactic| walk_at "set") => `(tactic| ((try simp only [wipe, List.set_cons_zero, List.set_cons_succ]); try rfl))
local macro_rules | `(tactic| walk_at "s") => `(tactic| first
  | with_reducible refine' go_lc ?_
  | ((with_reducible refine' go_wipe ?e ?_); (case e => rfl))
  | ((with_reducible refine' go_tupL (ds := ?ds) ?hS ?hx ?_); (case hS => assumption); (case hx => walk_at "rp"); (intro p G1 H1 e1 hS1 hr1))
  | ((with_reducible refine' go_listL (ds := ?ds) ?hS ?hx ?_); (case hS => assumption); (case hx => walk_at "rp"); (intro p G1 H1 e1 hS1 hr1))
  | ((with_reducible refine' go_tupT (ds := ?ds) ?hS ?hx ?_); (case hS => assumption); (case hx => walk_at "rp"); (intro p G1 H1 e1 hS1 hr1))
  | ((with_reducible refine' go_listT (ds := ?ds) ?hS ?hx ?_); (case hS => assumption); (case hx => walk_at "rp"); (intro p G1 H1 e1 hS1 hr1))
  | with_reducible refine' go_iTup ?_
  | ((with_reducible refine' go_itt (G := ?G) (ds := ?ds) ?hx ?e ?_); (case e => exact Sta.gh (by assumption)); (case hx => walk_at "rp"); (intro a xs ea hq hr; cases ea))
  | with_reducible refine' go_makeS ?_
  | with_reducible refine' go_iZipA ?_
  | ((with_reducible refine' go_ztk (G := ?G) (ds := ?ds) (fs := ?fs) ?hx ?hy ?e ?_); (case e => exact Sta.gh (by assumption)); (case hx => walk_at "rp"); (case hy => walk_at "rp"); (intro a b xs ys ea eb hqa hra hqb hrb; cases ea; cases eb))
  | with_reducible refine' go_callS ?_
  | with_reducible refine' go_sFld ?_
  | ((with_reducible refine' go_sfk (i := ?i) (M' := ?M') ?hS ?hi ?cl ?na ?hl ?hM ?_); (case hS => assumption); (case hi => walk_at "mi"); (case cl => assumption); (case na => assumption); (case hl => first | decide | exact putF2 | (simp [putF])); (case hM => walk_at "set"); (intro H1 hS1))
  | with_reducible refine' go_prop ?_
  | with_reducible refine' go_metS ?_
  | with_reducible refine' go_opS ?_
  | with_reducible refine' go_stat ?_
  | with_reducible refine' go_stk ?_
  | ((with_reducible refine' go_fldR (G := ?G) (fds := ?fds) (d := ?d) ?hx ?e ?cl ?na ?hi ?_); (case e => exact Sta.gh (by assumption)); (case hx => walk_at "rp"); (case cl => assumption); (case na => assumption); (case hi => exact rfl); walk_at "val") | fail)
local macro_rules | `(tactic| walk_at "s") => `(tactic| first
  | with_reducible refine' go_iRngO ?_
  | ((with_reducible refine' go_rangeV ?hS ?_); (case hS => assumption); (intro p G1 H1 e1 hS1 hp1))
  | with_reducible refine' go_iEnumA ?_ | fail)
local macro_rules | `(tactic| walk_at "s") => `(tactic| first
  | with_reducible refine' go_dget2 ?_
  | with_reducible refine' go_dput2 ?_
  | ((with_reducible refine' go_dnewT ?hS ?_); (case hS => assumption); (intro p H1 p0 g0 hS1)) | fail)
local macro_rules | `(tactic| walk_at "s") => `(tactic| first
  | with_reducible refine' go_tSoL ?_
  | with_reducible refine' go_tRev ?_
  | ((with_reducible refine' go_revL (ds := ?ds) ?hS ?hx ?_); (case hS => assumption); (case hx => walk_at "rp"); (intro p G1 H1 e1 hS1 hr1)) | fail)
local macro_rules | `(tactic| walk_at "s") => `(tactic| first
  | with_reducible refine' go_callNS ?_ | fail)
local macro_rules | `(tactic| walk_at "s") => `(tactic| first
  | ((with_reducible refine' go_npair (σ' := ?s) ?hS ?e ?_); (case hS => assumption); (case e => walk_at "set"); (intro G1 H1 e1 hS1))
  | with_reducible refine' go_iK ?_
  | ((with_reducible refine' go_itK (G := ?G) (ds := ?ds) ?hx ?e ?_); (case e => exact Sta.gh (by assumption)); (case hx => walk_at "rp"); (intro a xs ea hq hr; cases ea))
  | ((with_reducible refine' go_lenK (G := ?G) (k := ?k) (ds := ?ds) ?hx ?e ?_); (case e => exact Sta.gh (by assumption)); (case hx => walk_at "rp"))
  | ((with_reducible refine' go_rev (i := ?i) (M' := ?M') ?hS ?hi ?hM ?_); (case hS => assumption); (case hi => walk_at "mi"); (case hM => walk_at "set"); (intro H1 hS1)) | fail)
local macro_rules | `(tactic| walk_at "s") => `(tactic| first
  | with_reducible refine' go_isB ?_
  | with_reducible refine' go_eqNI ?_
  | with_reducible refine' go_eqIN ?_
  | with_reducible refine' go_eqNN ?_
  | with_reducible refine' go_isntB ?_ | fail)
local macro_rules | `(tactic| walk_at "s") => `(tactic| first
  | with_reducible refine' go_dg ?_
  | with_reducible refine' go_di ?_
  | with_reducible refine' go_dn ?_
  | with_reducible refine' go_dp ?_
  | ((with_reducible refine' go_dnK ?hS ?_); (case hS => assumption); (intro p H1 p0 g0 hS1)) | fail)
def topS (i : Nat) : Stmt := PySem.Challenge.pw_barswoven_k37_whole_either_pairs_or_lone.main.body.getD i (.Pass ⟨0, 0, 0, 0⟩)
abbrev s_gap : Stmt := topS 1
theorem sc_gap : FnScope ["one", "other"] ["one", "other"] (defScope s_gap) := ⟨rfl, rfl, rfl, by decide +kernel, rfl, by decide +kernel, by decide +kernel⟩
abbrev s_are_near : Stmt := topS 2
theorem sc_are_near : FnScope ["bar", "other", "lag", "deaths"] ["bar", "other", "lag"] (defScope s_are_near) := ⟨rfl, rfl, rfl, by decide +kernel, rfl, by decide +kernel, by decide +kernel⟩
abbrev s_is_long : Stmt := topS 3
theorem sc_is_long : FnScope ["bar", "lag"] ["bar", "lag"] (defScope s_is_long) := ⟨rfl, rfl, rfl, by decide +kernel, rfl, by decide +kernel, by decide +kernel⟩
abbrev s_is_pairing : Stmt := topS 4
theorem sc_is_pairing : FnScope ["first", "second", "pairs", "lag", "ours", "theirs", "one", "other", "left", "pair", "place", "bar"] ["first", "second", "pairs", "lag"] (defScope s_is_pairing) := ⟨rfl, rfl, rfl, by decide +kernel, rfl, by decide +kernel, by decide +kernel⟩
abbrev s_is_lonely : Stmt := topS 5
theorem sc_is_lonely : FnScope ["first", "second", "side", "places", "lag", "ours", "others", "lot", "partners", "place", "bar", "one"] ["first", "second", "side", "places", "lag"] (defScope s_is_lonely) := ⟨rfl, rfl, rfl, by decide +kernel, rfl, by decide +kernel, by decide +kernel⟩
abbrev s_Search_init : Stmt := inClass (topS 6) 0
theorem sc_Search_init : FnScope ["self", "first", "second", "lag"] ["self", "first", "second", "lag"] (defScope s_Search_init) := ⟨rfl, rfl, rfl, by decide +kernel, rfl, by decide +kernel, by decide +kernel⟩
abbrev s_Search_marry : Stmt := inClass (topS 6) 1
theorem sc_Search_marry : FnScope ["self", "one", "other"] ["self", "one", "other"] (defScope s_Search_marry) := ⟨rfl, rfl, rfl, by decide +kernel, rfl, by decide +kernel, by decide +kernel⟩
abbrev s_Search_near_second : Stmt := inClass (topS 6) 2
theorem sc_Search_near_second : FnScope ["self", "one", "place", "bar"] ["self", "one"] (defScope s_Search_near_second) := ⟨rfl, rfl, rfl, by decide +kernel, rfl, by decide +kernel, by decide +kernel⟩
abbrev s_Search_near_first : Stmt := inClass (topS 6) 3
theorem sc_Search_near_first : FnScope ["self", "other", "place", "bar"] ["self", "other"] (defScope s_Search_near_first) := ⟨rfl, rfl, rfl, by decide +kernel, rfl, by decide +kernel, by decide +kernel⟩
abbrev s_Search_pair_first : Stmt := inClass (topS 6) 4
theorem sc_Search_pair_first : FnScope ["self", "start", "came", "lot", "at", "other"] ["self", "start"] (defScope s_Search_pair_first) := ⟨rfl, rfl, rfl, by decide +kernel, rfl, by decide +kernel, by decide +kernel⟩
abbrev s_Search_turn_first : Stmt := inClass (topS 6) 5
theorem sc_Search_turn_first : FnScope ["self", "came", "other", "one", "following"] ["self", "came", "other"] (defScope s_Search_turn_first) := ⟨rfl, rfl, rfl, by decide +kernel, rfl, by decide +kernel, by decide +kernel⟩
abbrev s_Search_pair_second : Stmt := inClass (topS 6) 6
theorem sc_Search_pair_second : FnScope ["self", "start", "came", "lot", "at", "one", "mate"] ["self", "start"] (defScope s_Search_pair_second) := ⟨rfl, rfl, rfl, by decide +kernel, rfl, by decide +kernel, by decide +kernel⟩
abbrev s_Search_turn_second : Stmt := inClass (topS 6) 7
theorem sc_Search_turn_second : FnScope ["self", "came", "one", "mate", "other", "following"] ["self", "came", "one", "mate"] (defScope s_Search_turn_second) := ⟨rfl, rfl, rfl, by decide +kernel, rfl, by decide +kernel, by decide +kernel⟩
abbrev s_pair_within : Stmt := topS 7
theorem sc_pair_within : FnScope ["first", "second", "lag", "search", "place", "bar", "lot", "one", "other"] ["first", "second", "lag"] (defScope s_pair_within) := ⟨rfl, rfl, rfl, by decide +kernel, rfl, by decide +kernel, by decide +kernel⟩
abbrev s_law_cell : Stmt := topS 9
theorem sc_law_cell : FnScope ["script", "k"] ["script", "k"] (defScope s_law_cell) := ⟨rfl, rfl, rfl, by decide +kernel, rfl, by decide +kernel, by decide +kernel⟩
abbrev s_law_draws : Stmt := topS 10
theorem sc_law_draws : FnScope ["cell", "row", "rest", "mixed", "is_great", "k"] ["cell"] (defScope s_law_draws) := ⟨rfl, rfl, rfl, by decide +kernel, rfl, by decide +kernel, by decide +kernel⟩
abbrev s_law_next : Stmt := topS 11
theorem sc_law_next : FnScope ["draws", "many", "row", "at"] ["draws", "many"] (defScope s_law_next) := ⟨rfl, rfl, rfl, by decide +kernel, rfl, by decide +kernel, by decide +kernel⟩
abbrev s_law_bar_key : Stmt := topS 12
theorem sc_law_bar_key : FnScope ["bar"] ["bar"] (defScope s_law_bar_key) := ⟨rfl, rfl, rfl, by decide +kernel, rfl, by decide +kernel, by decide +kernel⟩
abbrev s_law_bar : Stmt := topS 13
theorem sc_law_bar : FnScope ["draws", "last", "birth", "death"] ["draws", "last"] (defScope s_law_bar) := ⟨rfl, rfl, rfl, by decide +kernel, rfl, by decide +kernel, by decide +kernel⟩
abbrev s_law_bars : Stmt := topS 14
theorem sc_law_bars : FnScope ["draws", "last", "most", "k"] ["draws", "last", "most"] (defScope s_law_bars) := ⟨rfl, rfl, rfl, by decide +kernel, rfl, by decide +kernel, by decide +kernel⟩
abbrev s_law_are_near : Stmt := topS 15
theorem sc_law_are_near : FnScope ["bar", "other", "lag"] ["bar", "other", "lag"] (defScope s_law_are_near) := ⟨rfl, rfl, rfl, by decide +kernel, rfl, by decide +kernel, by decide +kernel⟩
abbrev s_law_is_long : Stmt := topS 16
theorem sc_law_is_long : FnScope ["bar", "lag"] ["bar", "lag"] (defScope s_law_is_long) := ⟨rfl, rfl, rfl, by decide +kernel, rfl, by decide +kernel, by decide +kernel⟩
abbrev s_law_moved_bars : Stmt := topS 17
theorem sc_law_moved_bars : FnScope ["draws", "bar_list", "last", "lag", "moved", "pairs", "k", "birth", "death", "is_dropped", "entry"] ["draws", "bar_list", "last", "lag"] (defScope s_law_moved_bars) := ⟨rfl, rfl, rfl, by decide +kernel, rfl, by decide +kernel, by decide +kernel⟩
abbrev s_law_greedy : Stmt := topS 18
theorem sc_law_greedy : FnScope ["draws", "first", "second", "lag", "pairs", "left", "one", "near", "other", "k"] ["draws", "first", "second", "lag"] (defScope s_law_greedy) := ⟨rfl, rfl, rfl, by decide +kernel, rfl, by decide +kernel, by decide +kernel⟩
abbrev s_law : Stmt := topS 19
theorem sc_law : FnScope ["script", "draws", "last", "lag", "first", "others", "second", "before", "near", "word", "k", "pairs", "side", "ours", "long", "mask", "lot", "j"] ["script"] (defScope s_law) := ⟨rfl, rfl, rfl, by decide +kernel, rfl, by decide +kernel, by decide +kernel⟩
structure Ad where
  f_gap : Addr
  d_gap : FuncData
  f_are_near : Addr
  d_are_near : FuncData
  f_is_long : Addr
  d_is_long : FuncData
  f_is_pairing : Addr
  d_is_pairing : FuncData
  f_is_lonely : Addr
  d_is_lonely : FuncData
  f_Search_init : Addr
  d_Search_init : FuncData
  f_Search_marry : Addr
  d_Search_marry : FuncData
  f_Search_near_second : Addr
  d_Search_near_second : FuncData
  f_Search_near_first : Addr
  d_Search_near_first : FuncData
  f_Search_pair_first : Addr
  d_Search_pair_first : FuncData
  f_Search_turn_first : Addr
  d_Search_turn_first : FuncData
  f_Search_pair_second : Addr
  d_Search_pair_second : FuncData
  f_Search_turn_second : Addr
  d_Search_turn_second : FuncData
  f_pair_within : Addr
  d_pair_within : FuncData
  f_law_cell : Addr
  d_law_cell : FuncData
  f_law_draws : Addr
  d_law_draws : FuncData
  f_law_next : Addr
  d_law_next : FuncData
  f_law_bar_key : Addr
  d_law_bar_key : FuncData
  f_law_bar : Addr
  d_law_bar : FuncData
  f_law_bars : Addr
  d_law_bars : FuncData
  f_law_are_near : Addr
  d_law_are_near : FuncData
  f_law_is_long : Addr
  d_law_is_long : FuncData
  f_law_moved_bars : Addr
  d_law_moved_bars : FuncData
  f_law_greedy : Addr
  d_law_greedy : FuncData
  f_law : Addr
  d_law : FuncData
  C_Search : Addr
  c_law_bars : Addr
  p_law_bars : Addr
  c_law_moved_bars : Addr
  p_law_moved_bars : Addr
def lq_law_bars : Str := (("_law_bars" : Str) ++ ".<locals>.") ++ "<lambda>"
def lq_law_moved_bars : Str := (("_law_moved_bars" : Str) ++ ".<locals>.") ++ "<lambda>"
structure Tbs (base : Heap) (mg : Str → Option Value) (A : Ad) : Prop where
  tb_law_bars : LamX.TabB base mg A.c_law_bars A.p_law_bars
  tb_law_moved_bars : LamX.TabB base mg A.c_law_moved_bars A.p_law_moved_bars
def Ad.tabs (A : Ad) : List (Addr × Addr) := [(A.c_law_bars, A.p_law_bars), (A.c_law_moved_bars, A.p_law_moved_bars)]
structure Txt (K : PySem.W.Frag) (mg : Str → Option Value) (A : Ad) : Prop where
  F_gap : Fun K "gap" "gap" s_gap A.f_gap A.d_gap
  m_gap : mg "gap" = some (.ref A.f_gap)
  b_gap : Binds K A.d_gap ["one", "other"] []
  F_are_near : Fun K "are_near" "are_near" s_are_near A.f_are_near A.d_are_near
  m_are_near : mg "are_near" = some (.ref A.f_are_near)
  k2_are_near : KBn K A.d_are_near ["bar", "other", "lag"] 2 ["lag"] (fun a b => a ++ b) (fun a b => a ++ b)
  F_is_long : Fun K "is_long" "is_long" s_is_long A.f_is_long A.d_is_long
  m_is_long : mg "is_long" = some (.ref A.f_is_long)
  k1_is_long : KBn K A.d_is_long ["bar", "lag"] 1 ["lag"] (fun a b => a ++ b) (fun a b => a ++ b)
  F_is_pairing : Fun K "is_pairing" "is_pairing" s_is_pairing A.f_is_pairing A.d_is_pairing
  m_is_pairing : mg "is_pairing" = some (.ref A.f_is_pairing)
  k3_is_pairing : KBn K A.d_is_pairing ["first", "second", "pairs", "lag"] 3 ["lag"] (fun a b => a ++ b) (fun a b => a ++ b)
  F_is_lonely : Fun K "is_lonely" "is_lonely" s_is_lonely A.f_is_lonely A.d_is_lonely
  m_is_lonely : mg "is_lonely" = some (.ref A.f_is_lonely)
  k4_is_lonely : KBn K A.d_is_lonely ["first", "second", "side", "places", "lag"] 4 ["lag"] (fun a b => a ++ b) (fun a b => a ++ b)
  F_Search_init : Fun K "__init__" "Search.__init__" s_Search_init A.f_Search_init A.d_Search_init
  b_Search_init : Binds K A.d_Search_init ["self", "first", "second", "lag"] []
  F_Search_marry : Fun K "marry" "Search.marry" s_Search_marry A.f_Search_marry A.d_Search_marry
  b_Search_marry : Binds K A.d_Search_marry ["self", "one", "other"] []
  F_Search_near_second : Fun K "near_second" "Search.near_second" s_Search_near_second A.f_Search_near_second A.d_Search_near_second
  b_Search_near_second : Binds K A.d_Search_near_second ["self", "one"] []
  F_Search_near_first : Fun K "near_first" "Search.near_first" s_Search_near_first A.f_Search_near_first A.d_Search_near_first
  b_Search_near_first : Binds K A.d_Search_near_first ["self", "other"] []
  F_Search_pair_first : Fun K "pair_first" "Search.pair_first" s_Search_pair_first A.f_Search_pair_first A.d_Search_pair_first
  b_Search_pair_first : Binds K A.d_Search_pair_first ["self", "start"] []
  F_Search_turn_first : Fun K "turn_first" "Search.turn_first" s_Search_turn_first A.f_Search_turn_first A.d_Search_turn_first
  b_Search_turn_first : Binds K A.d_Search_turn_first ["self", "came", "other"] []
  F_Search_pair_second : Fun K "pair_second" "Search.pair_second" s_Search_pair_second A.f_Search_pair_second A.d_Search_pair_second
  b_Search_pair_second : Binds K A.d_Search_pair_second ["self", "start"] []
  F_Search_turn_second : Fun K "turn_second" "Search.turn_second" s_Search_turn_second A.f_Search_turn_second A.d_Search_turn_second
  b_Search_turn_second : Binds K A.d_Search_turn_second ["self", "came", "one", "mate"] []
  F_pair_within : Fun K "pair_within" "pair_within" s_pair_within A.f_pair_within A.d_pair_within
  m_pair_within : mg "pair_within" = some (.ref A.f_pair_within)
  k2_pair_within : KBn K A.d_pair_within ["first", "second", "lag"] 2 ["lag"] (fun a b => a ++ b) (fun a b => a ++ b)
  F_law_cell : Fun K "_law_cell" "_law_cell" s_law_cell A.f_law_cell A.d_law_cell
  m_law_cell : mg "_law_cell" = some (.ref A.f_law_cell)
  b_law_cell : Binds K A.d_law_cell ["script", "k"] []
  F_law_draws : Fun K "_law_draws" "_law_draws" s_law_draws A.f_law_draws A.d_law_draws
  m_law_draws : mg "_law_draws" = some (.ref A.f_law_draws)
  b_law_draws : Binds K A.d_law_draws ["cell"] []
  F_law_next : Fun K "_law_next" "_law_next" s_law_next A.f_law_next A.d_law_next
  m_law_next : mg "_law_next" = some (.ref A.f_law_next)
  b_law_next : Binds K A.d_law_next ["draws", "many"] []
  F_law_bar_key : Fun K "_law_bar_key" "_law_bar_key" s_law_bar_key A.f_law_bar_key A.d_law_bar_key
  m_law_bar_key : mg "_law_bar_key" = some (.ref A.f_law_bar_key)
  b_law_bar_key : Binds K A.d_law_bar_key ["bar"] []
  F_law_bar : Fun K "_law_bar" "_law_bar" s_law_bar A.f_law_bar A.d_law_bar
  m_law_bar : mg "_law_bar" = some (.ref A.f_law_bar)
  b_law_bar : Binds K A.d_law_bar ["draws", "last"] []
  F_law_bars : Fun K "_law_bars" "_law_bars" s_law_bars A.f_law_bars A.d_law_bars
  FC_law_bars : FunC K "_law_bars" "_law_bars" s_law_bars A.f_law_bars A.d_law_bars A.c_law_bars
  m_law_bars : mg "_law_bars" = some (.ref A.f_law_bars)
  b_law_bars : Binds K A.d_law_bars ["draws", "last", "most"] []
  F_law_are_near : Fun K "_law_are_near" "_law_are_near" s_law_are_near A.f_law_are_near A.d_law_are_near
  m_law_are_near : mg "_law_are_near" = some (.ref A.f_law_are_near)
  b_law_are_near : Binds K A.d_law_are_near ["bar", "other", "lag"] []
  F_law_is_long : Fun K "_law_is_long" "_law_is_long" s_law_is_long A.f_law_is_long A.d_law_is_long
  m_law_is_long : mg "_law_is_long" = some (.ref A.f_law_is_long)
  b_law_is_long : Binds K A.d_law_is_long ["bar", "lag"] []
  F_law_moved_bars : Fun K "_law_moved_bars" "_law_moved_bars" s_law_moved_bars A.f_law_moved_bars A.d_law_moved_bars
  FC_law_moved_bars : FunC K "_law_moved_bars" "_law_moved_bars" s_law_moved_bars A.f_law_moved_bars A.d_law_moved_bars A.c_law_moved_bars
  m_law_moved_bars : mg "_law_moved_bars" = some (.ref A.f_law_moved_bars)
  b_law_moved_bars : Binds K A.d_law_moved_bars ["draws", "bar_list", "last", "lag"] []
  F_law_greedy : Fun K "_law_greedy" "_law_greedy" s_law_greedy A.f_law_greedy A.d_law_greedy
  m_law_greedy : mg "_law_greedy" = some (.ref A.f_law_greedy)
  b_law_greedy : Binds K A.d_law_greedy ["draws", "first", "second", "lag"] []
  F_law : Fun K "law" "law" s_law A.f_law A.d_law
  m_law : mg "law" = some (.ref A.f_law)
  b_law : Binds K A.d_law ["script"] []
  ne_law_bars_law_moved_bars : A.p_law_bars ≠ A.p_law_moved_bars
  c_Search : mg "Search" = some (.ref A.C_Search)
  cl_Search : Cls K A.C_Search
  dc_Search : DcOk K A.C_Search
  oc_Search : OcOk K A.C_Search
  mk_Search : Mk K A.C_Search A.f_Search_init
  na_Search_first : NoAttr K A.C_Search "first"
  na_Search_second : NoAttr K A.C_Search "second"
  na_Search_lag : NoAttr K A.C_Search "lag"
  na_Search_ours : NoAttr K A.C_Search "ours"
  na_Search_theirs : NoAttr K A.C_Search "theirs"
  me_Search_marry : Meth K A.C_Search "marry" A.f_Search_marry
  me_Search_near_second : Meth K A.C_Search "near_second" A.f_Search_near_second
  me_Search_near_first : Meth K A.C_Search "near_first" A.f_Search_near_first
  me_Search_pair_first : Meth K A.C_Search "pair_first" A.f_Search_pair_first
  me_Search_turn_first : Meth K A.C_Search "turn_first" A.f_Search_turn_first
  me_Search_pair_second : Meth K A.C_Search "pair_second" A.f_Search_pair_second
  me_Search_turn_second : Meth K A.C_Search "turn_second" A.f_Search_turn_second
  z_abs : mg "abs" = none
  z_all : mg "all" = none
  z_any : mg "any" = none
  z_bar : mg "bar" = none
  z_enumerate : mg "enumerate" = none
  z_int : mg "int" = none
  z_len : mg "len" = none
  z_list : mg "list" = none
  z_max : mg "max" = none
  z_min : mg "min" = none
  z_range : mg "range" = none
  z_set : mg "set" = none
  z_sorted : mg "sorted" = none
  z_tuple : mg "tuple" = none
section
variable {P : Program} {w : World} {K : PySem.W.Frag} {mg : Str → Option Value} {base : Heap} {A : Ad}
/-! ### the law's readers: a cell; a draw -/
def spCell (K : PySem.W.Frag) : Sp := fun vs H Q _ => ∃ (l : Addr) (ns : List Int) (k : Int), vs = [.ref l, .int k] ∧ SqL K H l (ns.map V.int) ∧ 0 ≤ k ∧ ∀ v : Int, Q (.int v) H
theorem ok_law_cell (T : Txt K mg A) : FnOk P w K mg base CX0 1 A.f_law_cell A.d_law_cell ["script", "k"] (spCell K) := by
  refine T.F_law_cell.ok sc_law_cell (fun vs H Q E h => by first | (obtain ⟨rfl, _⟩ := h; rfl) | (obtain ⟨_, rfl, _⟩ := h; rfl) | (obtain ⟨_, _, rfl, _⟩ := h; rfl) | (obtain ⟨_, _, _, rfl, _⟩ := h; rfl) | (obtain ⟨_, _, _, _, rfl, _⟩ := h; rfl) | (obtain ⟨_, _, _, _, _, rfl, _⟩ := h; rfl) | (obtain ⟨_, _, _, _, _, _, rfl, _⟩ := h; rfl) | (obtain ⟨_, _, _, _, _, _, _, rfl, _⟩ := h; rfl) | (obtain ⟨_, _, _, _, _, _, _, _, rfl, _⟩ := h; rfl) | (obtain ⟨_, _, _, _, _, _, _, _, _, rfl, _⟩ := h; rfl) | (obtain ⟨_, _, _, _, _, _, _, _, _, _, rfl, _⟩ := h; rfl) | (obtain ⟨_, _, _, _, _, _, _, _, _, _, _, rfl, _⟩ := h; rfl) | (obtain ⟨_, _, _, _, _, _, _, _, _, _, _, _, rfl, _⟩ := h; rfl) | (obtain ⟨_, _, _, _, _, _, _, _, _, _, _, _, _, rfl, _⟩ := h; rfl) | exact wk_len h) (fun cdv AA outer s H vs Q E hr h => ?_)
  obtain ⟨l, ns, k, rfl, hS, h0, q⟩ := h
  refine ⟨_, (pss_cons (ps_if (pt_cmpR op_lt (pv 1) (pe_callB (id := "len") b_len (by rfl) T.z_len (by decide +kernel) (pa_cons (pv 0) pa_nil)) (nomark _)) (pss_one (ps_ret (pe_ix ix_seq (pv 0) (pv 1) (fun _ _ => rfl)))) pss_nil)
      (pss_one (ps_ret pe_int))), ?_⟩
  try dsimp only [cxOf, Cx.nox, Cx.wish, Cx.blk]
  refine ⟨_, rfl, _, rfl, l, _, rfl, .inl hS, k, _, rfl, rfl, _, rfl, ite2 (fun e => ?_) (fun e => ?_)⟩
  · have e1 : k < ((ns.map V.int).length : Int) := of_decide_eq_true e
    rw [List.length_map] at e1
    have hk : k.toNat < ns.length := by omega
    refine ⟨_, rfl, _, rfl, .inl ⟨l, _, k, .int ns[k.toNat], rfl, rfl, hS, at_of (j := k.toNat) (by omega) (by rw [List.getElem?_map, List.getElem?_eq_getElem hk]; rfl), q _⟩⟩
  · exact q 0
theorem go_cell {G0 H0 G H : Hp} {D : List Addr} {M : List (Addr × HO)} {Q : VK} {E : XK} {l : Addr} {ns : List Int} {k : Int} (hS : Sta K G0 H0 D G M H) (hl : Rp K G (.ref l) (.lst (ns.map .int))) (h0 : 0 ≤ k) (q : ∀ v : Int, Q (.int v) H) : spCell K [.ref l, .int k] H Q E := by
  obtain ⟨a, xs, e, hs, ha⟩ := Rp.lst_inv hl
  cases e
  rw [RpAll.ints_inv ha] at hs
  exact ⟨l, ns, k, rfl, hS.gh.seq hs, h0, q⟩
def spNext (K : PySem.W.Frag) : Sp := fun vs H Q _ => ∃ (a r : Addr) (at_ many : Int), vs = [.ref a, .int many] ∧ H a = some (drw r at_) ∧ RowOk K H r ∧ 0 ≤ at_ ∧ at_ ≤ 1000000000 ∧ 0 < many ∧ ∀ v, 0 ≤ v → v < many → Q (.int v) (upd H a (drw r (at_ + 1)))
theorem ok_law_next (T : Txt K mg A) : FnOk P w K mg base CX0 1 A.f_law_next A.d_law_next ["draws", "many"] (spNext K) := by
  refine T.F_law_next.ok sc_law_next (fun vs H Q E h => by first | (obtain ⟨rfl, _⟩ := h; rfl) | (obtain ⟨_, rfl, _⟩ := h; rfl) | (obtain ⟨_, _, rfl, _⟩ := h; rfl) | (obtain ⟨_, _, _, rfl, _⟩ := h; rfl) | (obtain ⟨_, _, _, _, rfl, _⟩ := h; rfl) | (obtain ⟨_, _, _, _, _, rfl, _⟩ := h; rfl) | (obtain ⟨_, _, _, _, _, _, rfl, _⟩ := h; rfl) | (obtain ⟨_, _, _, _, _, _, _, rfl, _⟩ := h; rfl) | (obtain ⟨_, _, _, _, _, _, _, _, rfl, _⟩ := h; rfl) | (obtain ⟨_, _, _, _, _, _, _, _, _, rfl, _⟩ := h; rfl) | (obtain ⟨_, _, _, _, _, _, _, _, _, _, rfl, _⟩ := h; rfl) | (obtain ⟨_, _, _, _, _, _, _, _, _, _, _, rfl, _⟩ := h; rfl) | (obtain ⟨_, _, _, _, _, _, _, _, _, _, _, _, rfl, _⟩ := h; rfl) | (obtain ⟨_, _, _, _, _, _, _, _, _, _, _, _, _, rfl, _⟩ := h; rfl) | exact wk_len h) (fun cdv AA outer s H vs Q E hr h => ?_)
  obtain ⟨a, r, at_, many, rfl, hA, ⟨xs, hR, hx⟩, h0, h1, hm, q⟩ := h
  refine ⟨_, (pss_cons (ps_set (i := 2) sc_law_next.nd rfl (by first | exact Or.inl rfl | exact Or.inr rfl) (pe_ix ix_seq (pv 0) pe_int (fun _ _ => rfl)))
      (pss_cons (ps_set (i := 3) sc_law_next.nd rfl (by first | exact Or.inl rfl | exact Or.inr rfl) (pe_ix ix_seq (pv 0) pe_int (fun _ _ => rfl)))
      (pss_cons (ps_asg (pe_op op_add (pv 3) pe_int) (pg_sub (pv 0) pe_int set_list))
      (pss_cons (ps_if (pt_cmpR op_lt (pv 3) (pe_callB (id := "len") b_len (by rfl) T.z_len (by decide +kernel) (pa_cons (pv 2) pa_nil)) (nomark _)) (pss_one (ps_ret (pe_op op_mod (pe_callTy (T := "int") b_int (by rfl) T.z_int (by decide +kernel) (pa_cons (pe_ix ix_seq (pv 2) (pv 3) (fun _ _ => rfl)) pa_nil)) (pv 1)))) pss_nil)
      (pss_one (ps_ret (pe_op op_mod (pe_callTy (T := "int") b_int (by rfl) T.z_int (by decide +kernel) (pa_cons (pe_op op_add (pe_op op_mul (pe_op op_mul (pv 3) (pv 3)) pe_int) (pv 3)) pa_nil)) (pv 1)))))))), ?_⟩
  try dsimp only [cxOf, Cx.nox, Cx.wish, Cx.blk]
  have hrow : ∀ H', H' = upd H a (drw r (at_ + 1)) → SqL K H' r (xs.map V.int) := fun H' e => by
    subst e
    rcases hR with (z | ⟨o, z⟩) | z
    · have : r ≠ a := fun e => by
        subst e
        rw [hA] at z
        cases xs with
        | nil => cases z
        | cons y ys => cases z
      exact .inl (.inl (by rw [upd_ne this]; exact z))
    · have : r ≠ a := fun e => by
        subst e
        rw [hA] at z
        cases z
      exact .inl (.inr ⟨o, by rw [upd_ne this]; exact z⟩)
    · exact .inr z
  refine ⟨_, rfl, .inl ⟨a, _, _, _, rfl, rfl, SqL.of hA, rfl, ?_⟩⟩
  refine ⟨_, rfl, .inl ⟨a, _, _, _, rfl, rfl, SqL.of hA, rfl, ?_⟩⟩
  refine ⟨_, rfl, _, _, rfl, rfl, _, rfl, a, _, _, _, rfl, rfl, hA, rfl, ?_⟩
  refine ⟨_, rfl, _, rfl, r, _, rfl, .inl (hrow _ rfl), _, _, rfl, rfl, _, rfl, ite2 (fun e => ?_) (fun e => ?_)⟩
  · have e1 : at_ < ((xs.map V.int).length : Int) := of_decide_eq_true e
    rw [List.length_map] at e1
    have hk : at_.toNat < xs.length := by omega
    refine ⟨_, rfl, _, rfl, .inl ⟨r, _, at_, .int xs[at_.toNat], rfl, rfl, hrow _ rfl, at_of (j := at_.toNat) (by omega) (by rw [List.getElem?_map, List.getElem?_eq_getElem hk]; rfl), .inl ⟨_, rfl, ?_⟩⟩⟩
    exact ⟨_, rfl, _, _, rfl, rfl, hm, q _ (Int.emod_nonneg _ (by omega)) (Int.emod_lt_of_pos _ hm)⟩
  · refine ⟨_, rfl, _, rfl, at_, at_, rfl, rfl, .inl ⟨by omega, by omega⟩, at_ * at_, 7, rfl, rfl, .inr ⟨by omega, by omega⟩, _, rfl, _, _, rfl, rfl, .inl ⟨_, rfl, _, rfl, _, _, rfl, rfl, hm, ?_⟩⟩
    exact q _ (Int.emod_nonneg _ (by omega)) (Int.emod_lt_of_pos _ hm)
theorem go_next_ {G0 H0 G H : Hp} {D : List Addr} {M M' : List (Addr × HO)} {Q : VK} {E : XK} {a r : Addr} {at_ many : Int} {i : Nat} (hS : Sta K G0 H0 D G M H) (hi : M[i]? = some (a, drw r at_)) (hr : RowOk K G r) (h0 : 0 ≤ at_) (h1 : at_ ≤ 1000000000) (hm : 0 < many)
    (hM : M.set i (a, drw r (at_ + 1)) = M') (q : ∀ v H1, 0 ≤ v → v < many → Sta K G0 H0 D G M' H1 → Q (.int v) H1) : spNext K [.ref a, .int many] H Q E := by
  subst hM
  exact ⟨a, r, at_, many, rfl, hS.get hi, hr.up hS.gh, h0, h1, hm, fun v h2 h3 => q v _ h2 h3 (hS.set hi _)⟩
/-! ### the row of draws -/
def spDraws (K : PySem.W.Frag) : Sp := fun vs H Q _ => ∃ (c : Int) (G : Hp), vs = [.int c] ∧ Same G H ∧ ∀ a r G' H', Adv [] G H G' H' → H a = none → H' a = some (drw r 0) → G' a = none → RowOk K G' r → Q (.ref a) H'
theorem ok_law_draws (T : Txt K mg A) : FnOk P w K mg base CX0 1 A.f_law_draws A.d_law_draws ["cell"] (spDraws K) := by
  refine T.F_law_draws.ok sc_law_draws (fun vs H Q E h => by first | (obtain ⟨rfl, _⟩ := h; rfl) | (obtain ⟨_, rfl, _⟩ := h; rfl) | (obtain ⟨_, _, rfl, _⟩ := h; rfl) | (obtain ⟨_, _, _, rfl, _⟩ := h; rfl) | (obtain ⟨_, _, _, _, rfl, _⟩ := h; rfl) | (obtain ⟨_, _, _, _, _, rfl, _⟩ := h; rfl) | (obtain ⟨_, _, _, _, _, _, rfl, _⟩ := h; rfl) | (obtain ⟨_, _, _, _, _, _, _, rfl, _⟩ := h; rfl) | (obtain ⟨_, _, _, _, _, _, _, _, rfl, _⟩ := h; rfl) | (obtain ⟨_, _, _, _, _, _, _, _, _, rfl, _⟩ := h; rfl) | (obtain ⟨_, _, _, _, _, _, _, _, _, _, rfl, _⟩ := h; rfl) | (obtain ⟨_, _, _, _, _, _, _, _, _, _, _, rfl, _⟩ := h; rfl) | (obtain ⟨_, _, _, _, _, _, _, _, _, _, _, _, rfl, _⟩ := h; rfl) | (obtain ⟨_, _, _, _, _, _, _, _, _, _, _, _, _, rfl, _⟩ := h; rfl) | exact wk_len h) (fun cdv AA outer s H vs Q E hr h => ?_)
  obtain ⟨c, G, rfl, hG, q⟩ := h
  refine ⟨_, (pss_cons (ps_set (i := 1) sc_law_draws.nd rfl (by first | exact Or.inl rfl | exact Or.inr rfl) (pe_lst pa_nil))
      (pss_cons (ps_set (i := 2) sc_law_draws.nd rfl (by first | exact Or.inl rfl | exact Or.inr rfl) (pe_callB (id := "abs") b_abs (by rfl) T.z_abs (by decide +kernel) (pa_cons (pv 0) pa_nil)))
      (pss_cons (ps_set (i := 3) sc_law_draws.nd rfl (by first | exact Or.inl rfl | exact Or.inr rfl) (pe_op op_mod (pe_callTy (T := "int") b_int (by rfl) T.z_int (by decide +kernel) (pa_cons (pv 2) pa_nil)) pe_int))
      (pss_cons (ps_set (i := 4) sc_law_draws.nd rfl (by first | exact Or.inl rfl | exact Or.inr rfl) (pe_cmpR op_ge (pv 2) (pe_op op_pow pe_int pe_int) (nomark _)))
      (pss_cons (ps_for PassesOwn.never rfl (pi_range1 (by rfl) T.z_range (pa_cons pe_int pa_nil)) (pg_name (i := 5) sc_law_draws.nd rfl (by first | exact Or.inl rfl | exact Or.inr rfl)) (pss_one (ps_if (PW.pt (pw_and (pt_val (pv 4)) (pw_and1 (pt_cmpR op_gt (pv 2) pe_int (nomark _))))) (pss_cons (ps_expr (pe_bm PySem.F.plainAttrs_list PySem.F.slot_list_append PySem.F.type_list_append mt_append (pv 1) (pa_cons (pe_op op_mod (pe_callTy (T := "int") b_int (by rfl) T.z_int (by decide +kernel) (pa_cons (pv 2) pa_nil)) pe_int) pa_nil)))
      (pss_one (ps_set (i := 2) sc_law_draws.nd rfl (by first | exact Or.inl rfl | exact Or.inr rfl) (pe_op op_fdiv (pv 2) pe_int)))) (pss_cons (ps_set (i := 3) sc_law_draws.nd rfl (by first | exact Or.inl rfl | exact Or.inr rfl) (pe_op op_mod (pe_callTy (T := "int") b_int (by rfl) T.z_int (by decide +kernel) (pa_cons (pe_op op_add (pe_op op_mul (pv 3) pe_int) pe_int) pa_nil)) pe_int))
      (pss_one (ps_expr (pe_bm PySem.F.plainAttrs_list PySem.F.slot_list_append PySem.F.type_list_append mt_append (pv 1) (pa_cons (pe_op op_fdiv (pe_op op_mod (pe_callTy (T := "int") b_int (by rfl) T.z_int (by decide +kernel) (pa_cons (pe_op op_add (pe_op op_mul (pv 3) pe_int) pe_int) pa_nil)) pe_int) pe_int) pa_nil))))))))
      (pss_one (ps_ret (pe_lst (pa_cons (pv 1) (pa_cons pe_int pa_nil)))))))))), ?_⟩
  try dsimp only [cxOf, Cx.nox, Cx.wish, Cx.blk]
  have hS := Sta.start (K := K) hG
  refine go_start (σ := [some (.int c), none, none, none, none, none]) rfl ?_
  walk_at "go"
  refine go_mutL hS (by decide) fun row H1 r0 r1 hS => ?_
  walk_at "go"
  have hab : 0 ≤ (if c < 0 then -c else c) := by split <;> omega
  generalize (if c < 0 then -c else c) = ab at hab ⊢
  refine forR hS (fun i σ G1 M1 => G1 = G ∧ ∃ (xs : List Int) (rest mixed : Int) (gr : Bool) (kv : Option V), M1 = [(row, .lst (xs.map .int))] ∧ xs.length = i ∧ 0 ≤ rest ∧ 0 ≤ mixed ∧ mixed < 2147483647 ∧ σ = [some (.int c), some (.ref row), some (.int rest), some (.int mixed), some (.bl gr), kv])
    ⟨rfl, [], ab, ab % 2147483647, _, none, rfl, rfl, hab, Int.emod_nonneg _ (by decide), Int.emod_lt_of_pos _ (by decide), rfl⟩ ?_ ?_
  · rintro i σ G1 M1 H2 hi e1 hS2 ⟨rfl, xs, rest, mixed, gr, kv, rfl, hx, h0, h1, h2, rfl⟩
    have hi' : i < 200 := hi
    have fin : ∀ (σ' : L2.St) (H3 : Hp) (y rest' mixed' : Int), Sta K G1 H [] G1 [(row, .lst (xs.map .int ++ [.int y]))] H3 → 0 ≤ rest' → 0 ≤ mixed' → mixed' < 2147483647 → (∃ kv, σ' = [some (.int c), some (.ref row), some (.int rest'), some (.int mixed'), some (.bl gr), kv]) →
        Nx K G1 H [] G1 (fun σ G2 M2 => G2 = G1 ∧ ∃ (xs : List Int) (rest mixed : Int) (gr : Bool) (kv : Option V), M2 = [(row, .lst (xs.map .int))] ∧ xs.length = i + 1 ∧ 0 ≤ rest ∧ 0 ≤ mixed ∧ mixed < 2147483647 ∧ σ = [some (.int c), some (.ref row), some (.int rest), some (.int mixed), some (.bl gr), kv]) σ' H3 :=
      fun σ' H3 y rest' mixed' s3 a1 a2 a3 ⟨kv, a4⟩ => Nx.mk s3 (Same.refl _) ⟨rfl, xs ++ [y], rest', mixed', gr, kv, by simp, by simp [hx], a1, a2, a3, a4⟩
    walk_at "go"
    refine go_iteB (fun hg => ?_) (fun hg => ?_)
    · walk_at "go"
      · exact fin _ _ _ _ _ (by assumption) (Int.ediv_nonneg h0 (by decide)) h1 h2 ⟨_, rfl⟩
      · exact fin _ _ _ _ _ (by assumption) h0 (Int.emod_nonneg _ (by decide)) (Int.emod_lt_of_pos _ (by decide)) ⟨_, rfl⟩
    · walk_at "go"
      exact fin _ _ _ _ _ (by assumption) h0 (Int.emod_nonneg _ (by decide)) (Int.emod_lt_of_pos _ (by decide)) ⟨_, rfl⟩
  · rintro σ G1 M1 H2 e1 hS2 ⟨rfl, xs, rest, mixed, gr, kv, rfl, hx, h0, h1, h2, rfl⟩
    have hx' : xs.length = 200 := hx
    walk_at "go"
    obtain ⟨hS3, e3⟩ := hS2.frz r0
    refine ⟨sz (by simp), fun p hp => ?_⟩
    have hS4 := hS3.mut hp (drw row 0)
    exact q p row _ _ hS4.adv (hS3.h0 hp) upd_same (hS3.gn hp) ⟨xs, .inl (.inl upd_same), by omega⟩
theorem go_draws {G0 H0 G H : Hp} {D : List Addr} {M : List (Addr × HO)} {Q : VK} {E : XK} {c : Int} (hS : Sta K G0 H0 D G M H) (q : ∀ a r G1 H1, Same G G1 → Sta K G0 H0 D G1 ((a, drw r 0) :: M) H1 → RowOk K G1 r → Q (.ref a) H1) : spDraws K [.int c] H Q E :=
  ⟨c, G, rfl, hS.gh, fun a r G1 H1 ad h1 h2 h3 h4 => q a r G1 H1 ad.gg (hS.callNew ad h1 h2 h3) h4⟩
/-! ### bars: near, long -/
def gapF : Option Int → Option Int → Option Int
  | none, none => some 0
  | some x, some y => some (if x - y < 0 then -(x - y) else x - y)
  | _, _ => none
def nearB (b c : Bar) (lag : Int) : Bool := decide (b.1 - c.1 ≤ lag) && decide (c.1 - b.1 ≤ lag) && (match b.2, c.2 with
  | none, none => true
  | some x, some y => decide (x - y ≤ lag) && decide (y - x ≤ lag)
  | _, _ => false)
def longB (b : Bar) (lag : Int) : Bool := match b.2 with
  | none => true
  | some y => decide (2 * lag < y - b.1)
theorem nearB_comm (b c : Bar) (lag : Int) : nearB b c lag = nearB c b lag := by
  obtain ⟨b0, b1⟩ := b
  obtain ⟨c0, c1⟩ := c
  rw [Bool.eq_iff_iff]
  cases b1 <;> cases c1 <;> simp [nearB] <;> omega
theorem nearB_refl (b : Bar) {lag : Int} (h : 0 ≤ lag) : nearB b b lag = true := by
  obtain ⟨b0, b1⟩ := b
  cases b1 <;> simp [nearB] <;> omega
def spGap : Sp := fun vs H Q _ => ∃ a b : Option Int, vs = [optV a, optV b] ∧ Q (optV (gapF a b)) H
def spNear (K : PySem.W.Frag) : Sp := fun vs H Q _ => ∃ (x y : V) (lag : Int) (G : Hp) (b c : Bar), vs = [x, y, .int lag] ∧ Same G H ∧ Rp K G x (barD b) ∧ Rp K G y (barD c) ∧ Q (.bl (nearB b c lag)) H
def spLong (K : PySem.W.Frag) : Sp := fun vs H Q _ => ∃ (x : V) (lag : Int) (G : Hp) (b : Bar), vs = [x, .int lag] ∧ Same G H ∧ Rp K G x (barD b) ∧ Q (.bl (longB b lag)) H
theorem go_near {G0 H0 G H : Hp} {D : List Addr} {M : List (Addr × HO)} {Q : VK} {E : XK} {x y : V} {b c : Bar} {lag : Int} (hS : Sta K G0 H0 D G M H) (hx : Rp K G x (barD b)) (hy : Rp K G y (barD c)) (q : Q (.bl (nearB b c lag)) H) : spNear K [x, y, .int lag] H Q E := ⟨x, y, lag, G, b, c, rfl, hS.gh, hx, hy, q⟩
theorem go_long {G0 H0 G H : Hp} {D : List Addr} {M : List (Addr × HO)} {Q : VK} {E : XK} {x : V} {b : Bar} {lag : Int} (hS : Sta K G0 H0 D G M H) (hx : Rp K G x (barD b)) (q : Q (.bl (longB b lag)) H) : spLong K [x, .int lag] H Q E := ⟨x, lag, G, b, rfl, hS.gh, hx, q⟩
theorem go_gap {Q : VK} {E : XK} {H : Hp} {x y : V} {a b : Option Int} (hx : x = optV a) (hy : y = optV b) (q : Q (optV (gapF a b)) H) : spGap [x, y] H Q E := by
  subst hx hy
  exact ⟨a, b, rfl, q⟩
theorem ok_gap (T : Txt K mg A) : FnOk P w K mg base CX0 1 A.f_gap A.d_gap ["one", "other"] spGap := by
  refine T.F_gap.ok sc_gap (fun vs H Q E h => by first | (obtain ⟨rfl, _⟩ := h; rfl) | (obtain ⟨_, rfl, _⟩ := h; rfl) | (obtain ⟨_, _, rfl, _⟩ := h; rfl) | (obtain ⟨_, _, _, rfl, _⟩ := h; rfl) | (obtain ⟨_, _, _, _, rfl, _⟩ := h; rfl) | (obtain ⟨_, _, _, _, _, rfl, _⟩ := h; rfl) | (obtain ⟨_, _, _, _, _, _, rfl, _⟩ := h; rfl) | (obtain ⟨_, _, _, _, _, _, _, rfl, _⟩ := h; rfl) | (obtain ⟨_, _, _, _, _, _, _, _, rfl, _⟩ := h; rfl) | (obtain ⟨_, _, _, _, _, _, _, _, _, rfl, _⟩ := h; rfl) | (obtain ⟨_, _, _, _, _, _, _, _, _, _, rfl, _⟩ := h; rfl) | (obtain ⟨_, _, _, _, _, _, _, _, _, _, _, rfl, _⟩ := h; rfl) | (obtain ⟨_, _, _, _, _, _, _, _, _, _, _, _, rfl, _⟩ := h; rfl) | (obtain ⟨_, _, _, _, _, _, _, _, _, _, _, _, _, rfl, _⟩ := h; rfl) | exact wk_len h) (fun cdv AA outer s H vs Q E hr h => ?_)
  obtain ⟨a, b, rfl, q⟩ := h
  refine ⟨_, (pss_cons (ps_if (PW.pt (pw_and (pt_cmp (pc_isN (pv 0))) (pw_and1 (pt_cmp (pc_isN (pv 1)))))) (pss_one (ps_ret pe_int)) pss_nil)
      (pss_cons (ps_if (PW.pt (pw_or (pt_cmp (pc_isN (pv 0))) (pw_or1 (pt_cmp (pc_isN (pv 1)))))) (pss_one (ps_ret pe_non)) pss_nil)
      (pss_one (ps_ret (pe_callB (id := "abs") b_abs (by rfl) T.z_abs (by decide +kernel) (pa_cons (pe_op op_sub (pv 0) (pv 1)) pa_nil)))))), ?_⟩
  try dsimp only [cxOf, Cx.nox, Cx.wish, Cx.blk]
  have hS := Sta.start (K := K) (Same.refl H)
  refine go_start (σ := [some (optV a), some (optV b)]) rfl ?_
  cases a <;> cases b <;> dsimp only [optV, gapF] at q ⊢ <;> (walk_at "go") <;> exact q
theorem ok_are_near (T : Txt K mg A) : FnOk P w K mg base CX0 2 A.f_are_near A.d_are_near ["bar", "other", "lag"] (spNear K) := by
  have G_gap := ok_gap (P := P) (w := w) (base := base) T
  refine T.F_are_near.ok sc_are_near (fun vs H Q E h => by first | (obtain ⟨rfl, _⟩ := h; rfl) | (obtain ⟨_, rfl, _⟩ := h; rfl) | (obtain ⟨_, _, rfl, _⟩ := h; rfl) | (obtain ⟨_, _, _, rfl, _⟩ := h; rfl) | (obtain ⟨_, _, _, _, rfl, _⟩ := h; rfl) | (obtain ⟨_, _, _, _, _, rfl, _⟩ := h; rfl) | (obtain ⟨_, _, _, _, _, _, rfl, _⟩ := h; rfl) | (obtain ⟨_, _, _, _, _, _, _, rfl, _⟩ := h; rfl) | (obtain ⟨_, _, _, _, _, _, _, _, rfl, _⟩ := h; rfl) | (obtain ⟨_, _, _, _, _, _, _, _, _, rfl, _⟩ := h; rfl) | (obtain ⟨_, _, _, _, _, _, _, _, _, _, rfl, _⟩ := h; rfl) | (obtain ⟨_, _, _, _, _, _, _, _, _, _, _, rfl, _⟩ := h; rfl) | (obtain ⟨_, _, _, _, _, _, _, _, _, _, _, _, rfl, _⟩ := h; rfl) | (obtain ⟨_, _, _, _, _, _, _, _, _, _, _, _, _, rfl, _⟩ := h; rfl) | exact wk_len h) (fun cdv AA outer s H vs Q E hr h => ?_)
  obtain ⟨x, y, lag, G, b, c, rfl, hG, hx, hy, q⟩ := h
  refine ⟨_, (pss_cons (ps_set (i := 3) sc_are_near.nd rfl (by first | exact Or.inl rfl | exact Or.inr rfl) (pe_call G_gap (hr.mono (by first | decide | omega)) (by rfl) T.m_gap T.F_gap.kp T.b_gap .nil pass0 (pa_cons (pe_ix ix_seq (pv 0) pe_int (fun _ _ => rfl)) (pa_cons (pe_ix ix_seq (pv 1) pe_int (fun _ _ => rfl)) pa_nil))))
      (pss_one (ps_ret (pe_and (pe_cmpR op_le (pe_callB (id := "abs") b_abs (by rfl) T.z_abs (by decide +kernel) (pa_cons (pe_op op_sub (pe_ix ix_seq (pv 0) pe_int (fun _ _ => rfl)) (pe_ix ix_seq (pv 1) pe_int (fun _ _ => rfl))) pa_nil)) (pv 2) (nomark _)) (pe_and (pe_cmp (pc_notN (pv 3)) rfl) (pe_one (pe_cmpR op_le (pv 3) (pv 2) (nomark _)))))))), ?_⟩
  try dsimp only [cxOf, Cx.nox, Cx.wish, Cx.blk]
  have hS := Sta.start (K := K) hG
  refine go_start (σ := [some x, some y, some (.int lag), none]) rfl ?_
  have qq : ∀ {b' : Bool}, b' = nearB b c lag → Q (.bl b') H := fun e => by subst e; exact q
  obtain ⟨b0, b1⟩ := b
  obtain ⟨c0, c1⟩ := c
  unfold barD at hx hy
  walk_at "go"
  refine go_gap (a := b1) (b := c1) (optD_inv ‹_›) (optD_inv ‹_›) ?_
  cases b1 <;> cases c1 <;> simp only [gapF, optV] <;> (walk_at "go") <;> refine qq ?_ <;> rw [Bool.eq_iff_iff] <;> simp [nearB] <;> (try split) <;> (try omega)
theorem ok_is_long (T : Txt K mg A) : FnOk P w K mg base CX0 1 A.f_is_long A.d_is_long ["bar", "lag"] (spLong K) := by
  refine T.F_is_long.ok sc_is_long (fun vs H Q E h => by first | (obtain ⟨rfl, _⟩ := h; rfl) | (obtain ⟨_, rfl, _⟩ := h; rfl) | (obtain ⟨_, _, rfl, _⟩ := h; rfl) | (obtain ⟨_, _, _, rfl, _⟩ := h; rfl) | (obtain ⟨_, _, _, _, rfl, _⟩ := h; rfl) | (obtain ⟨_, _, _, _, _, rfl, _⟩ := h; rfl) | (obtain ⟨_, _, _, _, _, _, rfl, _⟩ := h; rfl) | (obtain ⟨_, _, _, _, _, _, _, rfl, _⟩ := h; rfl) | (obtain ⟨_, _, _, _, _, _, _, _, rfl, _⟩ := h; rfl) | (obtain ⟨_, _, _, _, _, _, _, _, _, rfl, _⟩ := h; rfl) | (obtain ⟨_, _, _, _, _, _, _, _, _, _, rfl, _⟩ := h; rfl) | (obtain ⟨_, _, _, _, _, _, _, _, _, _, _, rfl, _⟩ := h; rfl) | (obtain ⟨_, _, _, _, _, _, _, _, _, _, _, _, rfl, _⟩ := h; rfl) | (obtain ⟨_, _, _, _, _, _, _, _, _, _, _, _, _, rfl, _⟩ := h; rfl) | exact wk_len h) (fun cdv AA outer s H vs Q E hr h => ?_)
  obtain ⟨x, lag, G, b, rfl, hG, hx, q⟩ := h
  refine ⟨_, (pss_one (ps_ret (pe_or (pe_cmp (pc_isN (pe_ix ix_seq (pv 0) pe_int (fun _ _ => rfl))) rfl) (pe_one (pe_cmpR op_gt (pe_op op_sub (pe_ix ix_seq (pv 0) pe_int (fun _ _ => rfl)) (pe_ix ix_seq (pv 0) pe_int (fun _ _ => rfl))) (pe_op op_mul pe_int (pv 1)) (nomark _)))))), ?_⟩
  try dsimp only [cxOf, Cx.nox, Cx.wish, Cx.blk]
  have hS := Sta.start (K := K) hG
  refine go_start (σ := [some x, some (.int lag)]) rfl ?_
  obtain ⟨b0, b1⟩ := b
  unfold barD at hx
  cases b1 <;> (walk_at "go") <;> exact q
theorem ok_law_are_near (T : Txt K mg A) : FnOk P w K mg base CX0 1 A.f_law_are_near A.d_law_are_near ["bar", "other", "lag"] (spNear K) := by
  refine T.F_law_are_near.ok sc_law_are_near (fun vs H Q E h => by first | (obtain ⟨rfl, _⟩ := h; rfl) | (obtain ⟨_, rfl, _⟩ := h; rfl) | (obtain ⟨_, _, rfl, _⟩ := h; rfl) | (obtain ⟨_, _, _, rfl, _⟩ := h; rfl) | (obtain ⟨_, _, _, _, rfl, _⟩ := h; rfl) | (obtain ⟨_, _, _, _, _, rfl, _⟩ := h; rfl) | (obtain ⟨_, _, _, _, _, _, rfl, _⟩ := h; rfl) | (obtain ⟨_, _, _, _, _, _, _, rfl, _⟩ := h; rfl) | (obtain ⟨_, _, _, _, _, _, _, _, rfl, _⟩ := h; rfl) | (obtain ⟨_, _, _, _, _, _, _, _, _, rfl, _⟩ := h; rfl) | (obtain ⟨_, _, _, _, _, _, _, _, _, _, rfl, _⟩ := h; rfl) | (obtain ⟨_, _, _, _, _, _, _, _, _, _, _, rfl, _⟩ := h; rfl) | (obtain ⟨_, _, _, _, _, _, _, _, _, _, _, _, rfl, _⟩ := h; rfl) | (obtain ⟨_, _, _, _, _, _, _, _, _, _, _, _, _, rfl, _⟩ := h; rfl) | exact wk_len h) (fun cdv AA outer s H vs Q E hr h => ?_)
  obtain ⟨x, y, lag, G, b, c, rfl, hG, hx, hy, q⟩ := h
  refine ⟨_, (pss_cons (ps_if (PW.pt (pw_or (pt_cmpR op_gt (pe_op op_sub (pe_ix ix_seq (pv 0) pe_int (fun _ _ => rfl)) (pe_ix ix_seq (pv 1) pe_int (fun _ _ => rfl))) (pv 2) (nomark _)) (pw_or (pt_cmpR op_gt (pe_op op_sub (pe_ix ix_seq (pv 1) pe_int (fun _ _ => rfl)) (pe_ix ix_seq (pv 0) pe_int (fun _ _ => rfl))) (pv 2) (nomark _)) (pw_or1 (pt_cmpR op_ne (pe_cmp (pc_isN (pe_ix ix_seq (pv 0) pe_int (fun _ _ => rfl))) rfl) (pe_cmp (pc_isN (pe_ix ix_seq (pv 1) pe_int (fun _ _ => rfl))) rfl) (nomark _)))))) (pss_one (ps_ret pe_bl)) pss_nil)
      (pss_one (ps_ret (pe_or (pe_cmp (pc_isN (pe_ix ix_seq (pv 0) pe_int (fun _ _ => rfl))) rfl) (pe_one (pe_and (pe_cmpR op_le (pe_op op_sub (pe_ix ix_seq (pv 0) pe_int (fun _ _ => rfl)) (pe_ix ix_seq (pv 1) pe_int (fun _ _ => rfl))) (pv 2) (nomark _)) (pe_one (pe_cmpR op_le (pe_op op_sub (pe_ix ix_seq (pv 1) pe_int (fun _ _ => rfl)) (pe_ix ix_seq (pv 0) pe_int (fun _ _ => rfl))) (pv 2) (nomark _))))))))), ?_⟩
  try dsimp only [cxOf, Cx.nox, Cx.wish, Cx.blk]
  have hS := Sta.start (K := K) hG
  refine go_start (σ := [some x, some y, some (.int lag)]) rfl ?_
  have qq : ∀ {b' : Bool}, b' = nearB b c lag → Q (.bl b') H := fun e => by subst e; exact q
  obtain ⟨b0, b1⟩ := b
  obtain ⟨c0, c1⟩ := c
  unfold barD at hx hy
  cases b1 <;> cases c1 <;> (walk_at "go") <;> refine qq ?_ <;> rw [Bool.eq_iff_iff] <;> simp [nearB] <;> (try omega)
theorem ok_law_is_long (T : Txt K mg A) : FnOk P w K mg base CX0 1 A.f_law_is_long A.d_law_is_long ["bar", "lag"] (spLong K) := by
  refine T.F_law_is_long.ok sc_law_is_long (fun vs H Q E h => by first | (obtain ⟨rfl, _⟩ := h; rfl) | (obtain ⟨_, rfl, _⟩ := h; rfl) | (obtain ⟨_, _, rfl, _⟩ := h; rfl) | (obtain ⟨_, _, _, rfl, _⟩ := h; rfl) | (obtain ⟨_, _, _, _, rfl, _⟩ := h; rfl) | (obtain ⟨_, _, _, _, _, rfl, _⟩ := h; rfl) | (obtain ⟨_, _, _, _, _, _, rfl, _⟩ := h; rfl) | (obtain ⟨_, _, _, _, _, _, _, rfl, _⟩ := h; rfl) | (obtain ⟨_, _, _, _, _, _, _, _, rfl, _⟩ := h; rfl) | (obtain ⟨_, _, _, _, _, _, _, _, _, rfl, _⟩ := h; rfl) | (obtain ⟨_, _, _, _, _, _, _, _, _, _, rfl, _⟩ := h; rfl) | (obtain ⟨_, _, _, _, _, _, _, _, _, _, _, rfl, _⟩ := h; rfl) | (obtain ⟨_, _, _, _, _, _, _, _, _, _, _, _, rfl, _⟩ := h; rfl) | (obtain ⟨_, _, _, _, _, _, _, _, _, _, _, _, _, rfl, _⟩ := h; rfl) | exact wk_len h) (fun cdv AA outer s H vs Q E hr h => ?_)
  obtain ⟨x, lag, G, b, rfl, hG, hx, q⟩ := h
  refine ⟨_, (pss_one (ps_ret (pe_or (pe_cmp (pc_isN (pe_ix ix_seq (pv 0) pe_int (fun _ _ => rfl))) rfl) (pe_one (pe_cmpR op_gt (pe_op op_sub (pe_ix ix_seq (pv 0) pe_int (fun _ _ => rfl)) (pe_ix ix_seq (pv 0) pe_int (fun _ _ => rfl))) (pe_op op_mul pe_int (pv 1)) (nomark _)))))), ?_⟩
  try dsimp only [cxOf, Cx.nox, Cx.wish, Cx.blk]
  have hS := Sta.start (K := K) hG
  refine go_start (σ := [some x, some (.int lag)]) rfl ?_
  obtain ⟨b0, b1⟩ := b
  unfold barD at hx
  cases b1 <;> (walk_at "go") <;> exact q
theorem SqL.less {K : PySem.W.Frag} {H : Hp} {P a : Addr} {ps : Array Value} {xs : List V} (hP : H P = some (.tbl ps)) (h : SqL K H a xs) : SqL K (fun b => if b = P then none else H b) a xs := by
  have ne : ∀ {o : HO}, H a = some o → (∀ q, o ≠ .tbl q) → (fun b => if b = P then none else H b) a = some o := fun {o} e n => by
    have : a ≠ P := fun z => by
      rw [z, hP] at e
      exact n ps (Option.some.inj e).symm
    show (if a = P then none else H a) = some o
    rw [if_neg this]
    exact e
  rcases h with (h | ⟨o, h⟩) | h
  · exact .inl (.inl (ne h fun q z => by cases z))
  · exact .inl (.inr ⟨o, ne h fun q z => by cases z⟩)
  · exact .inr h
def spLawT (K : PySem.W.Frag) (A : Ad) : Sp := fun vs H Q _ => ∃ (a : Addr) (ns : List Int), vs = [.ref a] ∧ SqL K H a (ns.map V.int) ∧ ns.length ≤ 63 ∧ (∀ p ∈ A.tabs, H p.2 = some (.tbl #[])) ∧ ∀ H', Q (.bl true) H'
theorem spLawT_in {K : PySem.W.Frag} {A : Ad} {H : Hp} {a : Addr} {ns : List Int} (hl : ns.length ≤ 63) (hS : SqL K H a (ns.map V.int)) (ht : ∀ p ∈ A.tabs, H p.2 = some (.tbl #[])) : spLawT K A [.ref a] H (fun v _ => v = .bl true) fun _ _ _ => False := ⟨a, ns, rfl, hS, hl, ht, fun _ => rfl⟩
/-- the law's start: one table -/
theorem start_tab {K : PySem.W.Frag} {H : Hp} {P : Addr} (hP : H P = some (.tbl #[])) : Sta K (fun b => if b = P then none else H b) H [P] (fun b => if b = P then none else H b) [(P, .tbl #[])] H :=
  Sta.start1 (fun b o e => by
    have e : (if b = P then none else H b) = some o := e
    split at e
    · cases e
    · exact e) hP (if_pos rfl)
/-! ### bars alone: lives, the order, sorted -/
def keyB (b : Bar) : List Int := match b.2 with
  | none => [b.1, 1, 0]
  | some d => [b.1, 0, d]
theorem keyB_ne (b : Bar) : keyB b ≠ [] := by
  obtain ⟨x, o⟩ := b
  cases o <;> exact fun z => nomatch z
theorem leB (c b : Bar) : Ob.lexAt (fun j => decide ((keyB c).getD j 0 = (keyB b).getD j 0)) (fun j => decide ((keyB c).getD j 0 ≤ (keyB b).getD j 0)) (decide ((keyB c).length ≤ (keyB b).length)) 0 (min (keyB c).length (keyB b).length) = !HT.lexLt (keyB b) (keyB c) := by
  obtain ⟨x, o⟩ := c
  obtain ⟨y, u⟩ := b
  cases o <;> cases u <;> exact le3 _ _ _ _ _ _
def livesB (b : Bar) (t : Int) : Bool := decide (b.1 ≤ t) && (match b.2 with
  | none => true
  | some d => decide (t < d))
def spLives (K : PySem.W.Frag) : Sp := fun vs H Q _ => ∃ (x : V) (t : Int) (G : Hp) (b : Bar), vs = [x, .int t] ∧ Same G H ∧ Rp K G x (barD b) ∧ Q (.bl (livesB b t)) H
theorem go_lives {G0 H0 G H : Hp} {D : List Addr} {M : List (Addr × HO)} {Q : VK} {E : XK} {x : V} {b : Bar} {t : Int} (hS : Sta K G0 H0 D G M H) (hx : Rp K G x (barD b)) (q : Q (.bl (livesB b t)) H) : spLives K [x, .int t] H Q E := ⟨x, t, G, b, rfl, hS.gh, hx, q⟩
def spBarKey (K : PySem.W.Frag) : Sp := fun vs H Q _ => ∃ (x : V) (G : Hp) (b : Bar), vs = [x] ∧ Same G H ∧ Rp K G x (barD b) ∧ ∀ p G1 H1, Adv [] G H G1 H1 → Rp K G1 p (.tup ((keyB b).map .int)) → Q p H1
theorem go_barKey {G0 H0 G H : Hp} {D : List Addr} {M : List (Addr × HO)} {Q : VK} {E : XK} {x : V} {b : Bar} (hS : Sta K G0 H0 D G M H) (hx : Rp K G x (barD b)) (q : ∀ p G1 H1, Same G G1 → Sta K G0 H0 D G1 M H1 → Rp K G1 p (.tup ((keyB b).map .int)) → Q p H1) : spBarKey K [x] H Q E :=
  ⟨x, G, b, rfl, hS.gh, hx, fun p G1 H1 ad r => q p G1 H1 ad.gg (hS.call ad) r⟩
theorem keyDo_bar : KeyDo K barD keyB (fun l => .tup (l.map .int)) (fun x H Q => spBarKey K [x] H Q fun _ _ _ => False) := fun x b G0 H0 G H D M Q hS hx q => go_barKey hS hx fun p G1 H1 e s r => q p G1 H1 e s r
/-- sorted by their keys: what stands behind, a list that may change -/
def spSortB (K : PySem.W.Frag) : Sp := fun vs H Q _ => ∃ (x : V) (G : Hp) (bs : List Bar), vs = [x] ∧ Same G H ∧ (Rp K G x (.lst (bs.map barD)) ∨ Rp K G x (.tup (bs.map barD))) ∧ ∀ a xs G1 H1, Adv [] G H G1 H1 → H a = none → H1 a = some (.lst xs) → G1 a = none → RpAll K G1 xs ((srtA keyB bs).map barD) → Q (.ref a) H1
theorem go_sortB {G0 H0 G H : Hp} {D : List Addr} {M : List (Addr × HO)} {Q : VK} {E : XK} {x : V} {bs : List Bar} (hS : Sta K G0 H0 D G M H) (hx : Rp K G x (.lst (bs.map barD)) ∨ Rp K G x (.tup (bs.map barD)))
    (q : ∀ a xs G1 H1, Same G G1 → H0 a = none → Sta K G0 H0 D G1 ((a, .lst xs) :: M) H1 → RpAll K G1 xs ((srtA keyB bs).map barD) → Q (.ref a) H1) : spSortB K [x] H Q E :=
  ⟨x, G, bs, rfl, hS.gh, hx, fun a xs G1 H1 ad h1 h2 h3 h4 => q a xs G1 H1 ad.gg (hS.h0 h1) (hS.callNew ad h1 h2 h3) h4⟩
theorem ok_law_bar_key (T : Txt K mg A) : FnOk P w K mg base CX0 1 A.f_law_bar_key A.d_law_bar_key ["bar"] (spBarKey K) := by
  refine T.F_law_bar_key.ok sc_law_bar_key (fun vs H Q E h => by first | (obtain ⟨rfl, _⟩ := h; rfl) | (obtain ⟨_, rfl, _⟩ := h; rfl) | (obtain ⟨_, _, rfl, _⟩ := h; rfl) | (obtain ⟨_, _, _, rfl, _⟩ := h; rfl) | (obtain ⟨_, _, _, _, rfl, _⟩ := h; rfl) | (obtain ⟨_, _, _, _, _, rfl, _⟩ := h; rfl) | (obtain ⟨_, _, _, _, _, _, rfl, _⟩ := h; rfl) | (obtain ⟨_, _, _, _, _, _, _, rfl, _⟩ := h; rfl) | (obtain ⟨_, _, _, _, _, _, _, _, rfl, _⟩ := h; rfl) | (obtain ⟨_, _, _, _, _, _, _, _, _, rfl, _⟩ := h; rfl) | (obtain ⟨_, _, _, _, _, _, _, _, _, _, rfl, _⟩ := h; rfl) | (obtain ⟨_, _, _, _, _, _, _, _, _, _, _, rfl, _⟩ := h; rfl) | (obtain ⟨_, _, _, _, _, _, _, _, _, _, _, _, rfl, _⟩ := h; rfl) | (obtain ⟨_, _, _, _, _, _, _, _, _, _, _, _, _, rfl, _⟩ := h; rfl) | exact wk_len h) (fun cdv AA outer s H vs Q E hr h => ?_)
  obtain ⟨x, G, b, rfl, hG, hx, q⟩ := h
  refine ⟨_, (pss_cons (ps_if (pt_cmp (pc_isN (pe_ix ix_seq (pv 0) pe_int (fun _ _ => rfl)))) (pss_one (ps_ret (pe_tup (pa_cons (pe_ix ix_seq (pv 0) pe_int (fun _ _ => rfl)) (pa_cons pe_int (pa_cons pe_int pa_nil)))))) pss_nil)
      (pss_one (ps_ret (pe_tup (pa_cons (pe_ix ix_seq (pv 0) pe_int (fun _ _ => rfl)) (pa_cons pe_int (pa_cons (pe_ix ix_seq (pv 0) pe_int (fun _ _ => rfl)) pa_nil))))))), ?_⟩
  try dsimp only [cxOf, Cx.nox, Cx.wish, Cx.blk]
  have hS := Sta.start (K := K) hG
  refine go_start (σ := [some x]) rfl ?_
  obtain ⟨b0, o⟩ := b
  cases o with
  | none =>
    walk_at "go"
    exact q _ _ _ (Sta.adv (by assumption)) (by walk_at "rp")
  | some d =>
    walk_at "go"
    exact q _ _ _ (Sta.adv (by assumption)) (by walk_at "rp")
local macro_rules | `(tactic| walk_at "ro") => `(tactic| first | assumption | ((with_reducible refine' RowOk.up (G := ?m) ?e ?g); (case e => assumption); (case g => walk_at "ro")) | fail)
local macro_rules | `(tactic| walk_at "s") => `(tactic| first | ((with_reducible refine' go_next_ (at_ := ?t) (r := ?r) (i := ?i) (M' := ?M') ?hS ?hi ?hr ?h0 ?h1 ?hm ?hM ?_); (case hS => assumption); (case hi => walk_at "mi"); (case hr => walk_at "ro"); (case h0 => omega); (case h1 => omega); (case hm => omega); (case hM => walk_at "set"); (intro v H1 hv1 hv2 hS1)) | fail)
local macro_rules | `(tactic| walk_at "s") => `(tactic| first | ((with_reducible refine' go_cell (G := ?G) (ns := ?ns) ?hS ?hl ?h0 ?_); (case hS => assumption); (case hl => walk_at "rp"); (case h0 => omega); (intro v)) | fail)
/-! ### lonely lots, plain -/
def lotB (os : List Bar) (k : Int) : Bar := os.getD k.toNat (0, none)
theorem lotB_at {os : List Bar} {k : Int} (h0 : 0 ≤ k) (h1 : k < (os.length : Int)) : atI (os.map barD) k = some (barD (lotB os k)) := by
  obtain ⟨n, rfl⟩ := Int.eq_ofNat_of_zero_le h0
  have h : n < os.length := by omega
  exact atI_nat (by rw [List.getElem?_map]; simp [lotB, List.getD, h])
def parF (os ts : List Bar) (pl : List Int) (lag : Int) : List Bar := ts.filter fun c => pl.any fun k => nearB (lotB os k) c lag
def lonF (os ts : List Bar) (pl : List Int) (lag : Int) : Bool := ascB pl && (pl.all fun k => decide (0 ≤ k) && decide (k < (os.length : Int))) && (pl.all fun k => longB (lotB os k) lag) && decide ((parF os ts pl lag).length < pl.length)
theorem ascB_get : ∀ l : List Int, ascB l = true ↔ ∀ j, j + 1 < l.length → l.getD j 0 < l.getD (j + 1) 0
  | [] => by simp [ascB]
  | [x] => by simp [ascB]
  | x :: y :: l => by
    rw [ascB, Bool.and_eq_true, decide_eq_true_eq, ascB_get (y :: l)]
    constructor
    · rintro ⟨h1, h2⟩ j hj
      cases j with
      | zero => exact h1
      | succ j => exact h2 j (by simpa using hj)
    · intro h
      exact ⟨h 0 (by simp), fun j hj => h (j + 1) (by simpa using hj)⟩
theorem all_get {α : Type} {p : α → Bool} {l : List α} {d : α} : l.all p = true ↔ ∀ j, j < l.length → p (l.getD j d) = true := by
  rw [List.all_eq_true]
  constructor
  · intro h j hj
    rw [List.getD, List.getElem?_eq_getElem hj]
    exact h _ (List.getElem_mem hj)
  · intro h x hx
    obtain ⟨j, hj, rfl⟩ := List.mem_iff_getElem.mp hx
    have := h j hj
    rwa [List.getD, List.getElem?_eq_getElem hj] at this
theorem lon_iff {os ts : List Bar} {pl : List Int} {lag : Int} : lonF os ts pl lag = true ↔ (∀ j, j + 1 < pl.length → pl.getD j 0 < pl.getD (j + 1) 0) ∧ (∀ j, j < pl.length → 0 ≤ pl.getD j 0 ∧ pl.getD j 0 < (os.length : Int)) ∧ (∀ j, j < pl.length → longB (lotB os (pl.getD j 0)) lag = true) ∧ (parF os ts pl lag).length < pl.length := by
  unfold lonF
  rw [Bool.and_eq_true, Bool.and_eq_true, Bool.and_eq_true, ascB_get, all_get (d := 0), all_get (d := 0), decide_eq_true_eq]
  simp only [Bool.and_eq_true, decide_eq_true_eq, and_assoc]
def sideS (t : Bool) : Str := if t = true then "second" else "first"
def okB (last : Int) (c : Bar) : Prop := 0 ≤ c.1 ∧ c.1 ≤ last ∧ ∀ d, c.2 = some d → c.1 < d ∧ d ≤ last
/-! ### the law's drawn bar -/
def spBar (K : PySem.W.Frag) : Sp := fun vs H Q _ => ∃ (a r : Addr) (at_ last : Int) (G : Hp), vs = [.ref a, .int last] ∧ Same G H ∧ G a = none ∧ H a = some (drw r at_) ∧ RowOk K G r ∧ 0 ≤ at_ ∧ at_ ≤ 900000000 ∧ 0 ≤ last ∧
  ∀ p b G1 H1, Adv [a] G H G1 H1 → H1 a = some (drw r (at_ + 2)) → Rp K G1 p (barD b) → 0 ≤ b.1 → b.1 ≤ last → (∀ d, b.2 = some d → b.1 < d ∧ d ≤ last) → Q p H1
theorem ok_law_bar (T : Txt K mg A) : FnOk P w K mg base CX0 2 A.f_law_bar A.d_law_bar ["draws", "last"] (spBar K) := by
  have G_law_next := ok_law_next (P := P) (w := w) (base := base) T
  refine T.F_law_bar.ok sc_law_bar (fun vs H Q E h => by first | (obtain ⟨rfl, _⟩ := h; rfl) | (obtain ⟨_, rfl, _⟩ := h; rfl) | (obtain ⟨_, _, rfl, _⟩ := h; rfl) | (obtain ⟨_, _, _, rfl, _⟩ := h; rfl) | (obtain ⟨_, _, _, _, rfl, _⟩ := h; rfl) | (obtain ⟨_, _, _, _, _, rfl, _⟩ := h; rfl) | (obtain ⟨_, _, _, _, _, _, rfl, _⟩ := h; rfl) | (obtain ⟨_, _, _, _, _, _, _, rfl, _⟩ := h; rfl) | (obtain ⟨_, _, _, _, _, _, _, _, rfl, _⟩ := h; rfl) | (obtain ⟨_, _, _, _, _, _, _, _, _, rfl, _⟩ := h; rfl) | (obtain ⟨_, _, _, _, _, _, _, _, _, _, rfl, _⟩ := h; rfl) | (obtain ⟨_, _, _, _, _, _, _, _, _, _, _, rfl, _⟩ := h; rfl) | (obtain ⟨_, _, _, _, _, _, _, _, _, _, _, _, rfl, _⟩ := h; rfl) | (obtain ⟨_, _, _, _, _, _, _, _, _, _, _, _, _, rfl, _⟩ := h; rfl) | exact wk_len h) (fun cdv AA outer s H vs Q E hr h => ?_)
  obtain ⟨a, r, at_, last, G, rfl, hG, hga, hA, hR, h0, h1, hl, q⟩ := h
  refine ⟨_, (pss_cons (ps_set (i := 2) sc_law_bar.nd rfl (by first | exact Or.inl rfl | exact Or.inr rfl) (pe_call G_law_next (hr.mono (by first | decide | omega)) (by rfl) T.m_law_next T.F_law_next.kp T.b_law_next .nil pass0 (pa_cons (pv 0) (pa_cons (pe_op op_add (pv 1) pe_int) pa_nil))))
      (pss_cons (ps_set (i := 3) sc_law_bar.nd rfl (by first | exact Or.inl rfl | exact Or.inr rfl) (pe_op op_add (pe_op op_add (pv 2) pe_int) (pe_call G_law_next (hr.mono (by first | decide | omega)) (by rfl) T.m_law_next T.F_law_next.kp T.b_law_next .nil pass0 (pa_cons (pv 0) (pa_cons (pe_op op_add (pv 1) pe_int) pa_nil)))))
      (pss_cons (ps_if (pt_cmpR op_gt (pv 3) (pv 1) (nomark _)) (pss_one (ps_ret (pe_tup (pa_cons (pv 2) (pa_cons pe_non pa_nil))))) pss_nil)
      (pss_one (ps_ret (pe_tup (pa_cons (pv 2) (pa_cons (pv 3) pa_nil)))))))), ?_⟩
  try dsimp only [cxOf, Cx.nox, Cx.wish, Cx.blk]
  have hS := Sta.start1 (K := K) hG hA hga
  refine go_start (σ := [some (.ref a), some (.int last), none, none]) rfl ?_
  walk_at "go"
  · rename_i b H1 hb1 hb2 hS1 d H2 hd1 hd2 hS2 hgt p G3 H3 e3 hS3 hr3
    exact q _ (b, none) G3 H3 hS3.adv (by have := hS3.get (i := 0) rfl; rw [this, Int.add_assoc]; rfl) hr3 hb1 (by show b ≤ last; omega) (fun _ z => nomatch z)
  · rename_i b H1 hb1 hb2 hS1 d H2 hd1 hd2 hS2 hgt p G3 H3 e3 hS3 hr3
    exact q _ (b, some (b + 1 + d)) G3 H3 hS3.adv (by have := hS3.get (i := 0) rfl; rw [this, Int.add_assoc]; rfl) hr3 hb1 (by show b ≤ last; omega) (fun z hz => by cases hz; show b < b + 1 + d ∧ b + 1 + d ≤ last; omega)
theorem go_bar {G0 H0 G H : Hp} {D : List Addr} {M M' : List (Addr × HO)} {Q : VK} {E : XK} {a r : Addr} {at_ last : Int} {i : Nat} (hS : Sta K G0 H0 D G M H) (hi : M[i]? = some (a, drw r at_)) (hr : RowOk K G r) (h0 : 0 ≤ at_) (h1 : at_ ≤ 900000000) (hl : 0 ≤ last)
    (hM : M.set i (a, drw r (at_ + 2)) = M') (q : ∀ p b G1 H1, Same G G1 → Sta K G0 H0 D G1 M' H1 → Rp K G1 p (barD b) → 0 ≤ b.1 → b.1 ≤ last → (∀ d, b.2 = some d → b.1 < d ∧ d ≤ last) → Q p H1) : spBar K [.ref a, .int last] H Q E := by
  subst hM
  exact ⟨a, r, at_, last, G, rfl, hS.gh, (hS.mh _ (List.mem_of_getElem? hi)).2.1, hS.get hi, hr, h0, h1, hl, fun p b G1 H1 ad h1 h2 h3 h4 h5 => q p b G1 H1 ad.gg (hS.callM hi ad h1) h2 h3 h4 h5⟩
/-! ### the program's test of a pairing -/
theorem dup_len {xs ks : List Int} (nd : ks.Nodup) (h : ∀ k, k ∈ ks ↔ k ∈ xs) (hx : xs.Nodup) : ks.length = xs.length := ((List.perm_ext_iff_of_nodup nd hx).mpr h).length_eq
theorem sub_len : ∀ {ks xs : List Int}, ks.Nodup → (∀ k ∈ ks, k ∈ xs) → ks.length ≤ xs.length
  | [], _, _, _ => Nat.zero_le _
  | k :: ks, xs, nd, h => by
    have nk := List.nodup_cons.mp nd
    have hk := h k List.mem_cons_self
    have i := sub_len (ks := ks) (xs := xs.erase k) nk.2 fun j hj => (List.mem_erase_of_ne (fun e => nk.1 (by rw [← e]; exact hj))).mpr (h j (List.mem_cons_of_mem _ hj))
    rw [List.length_erase_of_mem hk] at i
    have := List.length_pos_of_mem hk
    rw [List.length_cons]
    omega
theorem nodup_of_len : ∀ {xs ks : List Int}, ks.Nodup → (∀ k, k ∈ ks ↔ k ∈ xs) → ks.length = xs.length → xs.Nodup
  | [], _, _, _, _ => List.nodup_nil
  | x :: t, ks, nd, h, hl => by
    rw [List.length_cons] at hl
    by_cases hx : x ∈ t
    · have := sub_len (xs := t) nd fun k hk => by
        rcases List.mem_cons.mp ((h k).mp hk) with rfl | z
        · exact hx
        · exact z
      omega
    · refine List.nodup_cons.mpr ⟨hx, nodup_of_len (ks := ks.erase x) (nd.erase x) (fun k => ?_) ?_⟩
      · rw [nd.mem_erase_iff]
        exact ⟨fun ⟨ne, hk⟩ => (List.mem_cons.mp ((h k).mp hk)).resolve_left ne, fun hk => ⟨fun e => hx (by rw [← e]; exact hk), (h k).mpr (List.mem_cons_of_mem _ hk)⟩⟩
      · rw [List.length_erase_of_mem ((h x).mpr List.mem_cons_self)]
        omega
def okP (os ts : List Bar) (lag : Int) (p : Int × Int) : Bool := (decide (0 ≤ p.1) && decide (p.1 < (os.length : Int))) && ((decide (0 ≤ p.2) && decide (p.2 < (ts.length : Int))) && nearB (lotB os p.1) (lotB ts p.2) lag)
def pairF (os ts : List Bar) (pr : List (Int × Int)) (lag : Int) : Bool :=
  ascB (pr.map (·.1)) && (decide (pr.map (·.2)).Nodup && (pr.all (okP os ts lag) &&
    !(((List.range os.length).any fun i => !decide ((i : Int) ∈ pr.map (·.1)) && longB (lotB os (i : Int)) lag) || ((List.range ts.length).any fun i => !decide ((i : Int) ∈ pr.map (·.2)) && longB (lotB ts (i : Int)) lag))))
/-! ### pairings, plain -/
structure PG (os ts : List Bar) (pr : List (Int × Int)) (lag : Int) : Prop where
  n1 : (pr.map (·.1)).Nodup
  n2 : (pr.map (·.2)).Nodup
  ok : ∀ p ∈ pr, okP os ts lag p = true
  l1 : ∀ j : Nat, j < os.length → (j : Int) ∈ pr.map (·.1) ∨ longB (lotB os (j : Int)) lag = false
  l2 : ∀ j : Nat, j < ts.length → (j : Int) ∈ pr.map (·.2) ∨ longB (lotB ts (j : Int)) lag = false
theorem pairF_PG {os ts : List Bar} {pr : List (Int × Int)} {lag : Int} : pairF os ts pr lag = true ↔ (pr.map (·.1)).Pairwise (· < ·) ∧ PG os ts pr lag := by
  have lo : ∀ {us : List Bar} {xs : List Int}, ((List.range us.length).any fun i => !decide ((i : Int) ∈ xs) && longB (lotB us (i : Int)) lag) = false ↔ ∀ j : Nat, j < us.length → (j : Int) ∈ xs ∨ longB (lotB us (j : Int)) lag = false := fun {us xs} => by
    rw [List.any_eq_false]
    simp only [List.mem_range, Bool.and_eq_true, Bool.not_eq_true', decide_eq_false_iff_not]
    constructor
    · intro h j hj
      by_cases hx : (j : Int) ∈ xs
      · exact .inl hx
      · refine .inr ?_
        cases hb : longB (lotB us (j : Int)) lag with
        | false => rfl
        | true => exact absurd ⟨hx, hb⟩ (h j hj)
    · rintro h j hj ⟨hx, hb⟩
      rcases h j hj with h | h
      · exact hx h
      · rw [h] at hb
        cases hb
  unfold pairF
  rw [Bool.and_eq_true, Bool.and_eq_true, Bool.and_eq_true, ascB_pw, decide_eq_true_eq, Bool.not_eq_true', Bool.or_eq_false_iff, List.all_eq_true, lo, lo]
  constructor
  · rintro ⟨h1, h2, h3, h4, h5⟩
    exact ⟨h1, h1.imp fun {a b} (h : a < b) => by omega, h2, h3, h4, h5⟩
  · rintro ⟨h1, h⟩
    exact ⟨h1, h.n2, h.ok, h.l1, h.l2⟩
theorem PG.perm {os ts : List Bar} {pr qs : List (Int × Int)} {lag : Int} (h : PG os ts pr lag) (p : qs.Perm pr) : PG os ts qs lag where
  n1 := (p.map _).nodup_iff.mpr h.n1
  n2 := (p.map _).nodup_iff.mpr h.n2
  ok := fun q hq => h.ok q (p.mem_iff.mp hq)
  l1 := fun j hj => (h.l1 j hj).imp (p.map _).mem_iff.mpr id
  l2 := fun j hj => (h.l2 j hj).imp (p.map _).mem_iff.mpr id
theorem PG.sorted {os ts : List Bar} {pr : List (Int × Int)} {lag : Int} (h : PG os ts pr lag) (s : pr.Pairwise leP) : pairF os ts pr lag = true := by
  refine pairF_PG.mpr ⟨?_, h⟩
  have n := h.n1
  rw [List.pairwise_map]
  rw [List.Nodup, List.pairwise_map] at n
  exact (s.and n).imp fun {a b} ⟨x, y⟩ => by
    rcases x with x | ⟨x, _⟩
    · exact x
    · exact absurd x y
theorem okP_swap {os ts : List Bar} {lag : Int} {p : Int × Int} (h : okP os ts lag p = true) : okP ts os lag (p.2, p.1) = true := by
  simp only [okP, Bool.and_eq_true, decide_eq_true_eq] at h ⊢
  exact ⟨h.2.1, h.1, by rw [nearB_comm]; exact h.2.2⟩
theorem PG.swap {os ts : List Bar} {pr : List (Int × Int)} {lag : Int} (h : PG os ts pr lag) : PG ts os (pr.map fun p => (p.2, p.1)) lag where
  n1 := by rw [List.map_map]; exact h.n2
  n2 := by rw [List.map_map]; exact h.n1
  ok := fun q hq => by
    obtain ⟨p, hp, rfl⟩ := List.mem_map.mp hq
    exact okP_swap (h.ok p hp)
  l1 := fun j hj => (h.l2 j hj).imp (fun z => by rw [List.map_map]; exact z) id
  l2 := fun j hj => (h.l1 j hj).imp (fun z => by rw [List.map_map]; exact z) id
/-! ### partners by changed ways: plain -/
abbrev Ar := List (Option Nat)
def arA (l : Ar) (i : Nat) : Option Nat := l.getD i none
theorem arA_set {l : Ar} {i j : Nat} {v : Option Nat} (h : i < l.length) : arA (l.set i v) j = if j = i then v else arA l j := by
  unfold arA
  by_cases e : j = i
  · subst e
    rw [if_pos rfl]
    simp [List.getD, h]
  · rw [if_neg e]
    simp [List.getD, List.getElem?_set, Ne.symm e]
theorem arA_lt {l : Ar} {i k : Nat} (h : arA l i = some k) : i < l.length := by
  unfold arA at h
  rcases Nat.lt_or_ge i l.length with e | e
  · exact e
  · rw [List.getD, List.getElem?_eq_none e] at h
    cases h
def keysC (came : List (Nat × Nat)) : List Nat := came.map (·.1)
/-- the partners of one place that are not met yet -/
def sprd (b : Ar) (stp : Option Nat → Bool) (one : Nat) : List Nat → List (Nat × Nat) → List Nat → List (Nat × Nat) × List Nat × Option Nat
  | [], came, lot => (came, lot, none)
  | k :: ks, came, lot => if k ∈ keysC came then sprd b stp one ks came lot else if stp (arA b k) = true then (came ++ [(k, one)], lot, some k) else sprd b stp one ks (came ++ [(k, one)]) (lot ++ [(arA b k).getD 0])
def bfsF (b : Ar) (stp : Option Nat → Bool) (near : Nat → List Nat) : Nat → Nat → List (Nat × Nat) → List Nat → Sum (List (Nat × Nat) × Nat) (List Nat)
  | 0, _, _, lot => .inr lot
  | f + 1, at_, came, lot => if at_ < lot.length then match sprd b stp (lot.getD at_ 0) (near (lot.getD at_ 0)) came lot with
      | (c, _, some k) => .inl (c, k)
      | (c, l, none) => bfsF b stp near f (at_ + 1) c l
    else .inr lot
def turnF (came : List (Nat × Nat)) : Nat → Ar → Ar → Nat → Ar × Ar
  | 0, a, b, _ => (a, b)
  | f + 1, a, b, k => match arA a ((came.lookup k).getD 0) with
      | none => (a.set ((came.lookup k).getD 0) (some k), b.set k (some ((came.lookup k).getD 0)))
      | some k' => turnF came f (a.set ((came.lookup k).getD 0) (some k)) (b.set k (some ((came.lookup k).getD 0))) k'
def clrA (a : Ar) : Option Nat → Ar
  | none => a
  | some j => a.set j none
/-- a partner for a place of the side a, or the lot that has too few -/
def seekF (a b : Ar) (stp : Option Nat → Bool) (near : Nat → List Nat) (start : Nat) : Sum (Ar × Ar) (List Nat) := match bfsF b stp near (a.length + 1) 0 [] [start] with
  | .inr lot => .inr lot
  | .inl (came, k) => .inl (turnF came came.length (clrA a (arA b k)) b k)
structure Mt (a b : Ar) (near : Nat → List Nat) : Prop where
  f : ∀ i j, arA a i = some j → arA b j = some i
  g : ∀ i j, arA b j = some i → arA a i = some j
  nr : ∀ i j, arA a i = some j → j ∈ near i
/-- what holds while the lot grows: up to at_ all is looked at, of the next one the partners in seen -/
structure Bf (a b : Ar) (stp : Option Nat → Bool) (near : Nat → List Nat) (start at_ : Nat) (seen : List Nat) (came : List (Nat × Nat)) (lot : List Nat) : Prop where
  le : lot = start :: (keysC came).map fun k => (arA b k).getD 0
  go : ∀ k ∈ keysC came, stp (arA b k) = false
  nd : (keysC came).Nodup
  ch : ∀ (e k i : Nat), came[e]? = some (k, i) → (∃ p, p ≤ e ∧ p ≤ at_ ∧ lot[p]? = some i) ∧ k ∈ near i
  all : ∀ p i, p < at_ → lot[p]? = some i → ∀ k ∈ near i, k ∈ keysC came
  cur : ∀ k ∈ seen, k ∈ keysC came
section
variable {a b : Ar} {stp : Option Nat → Bool} {near : Nat → List Nat} {start at_ : Nat} {came : List (Nat × Nat)} {lot seen : List Nat}
theorem keysC_app (c d : List (Nat × Nat)) : keysC (c ++ d) = keysC c ++ keysC d := List.map_append
theorem Bf.ini : Bf a b stp near start 0 [] [] [start] := ⟨rfl, fun k h => by simp [keysC] at h, by simp [keysC], fun e k i h => by simp at h, fun p i h => by omega, fun k h => by simp at h⟩
theorem Bf.mate (h : Bf a b stp near start at_ seen came lot) (hst : stp none = true) {k : Nat} (hk : k ∈ keysC came) : ∃ i, arA b k = some i ∧ (arA b k).getD 0 = i := by
  have := h.go k hk
  cases e : arA b k with
  | none => rw [e, hst] at this; cases this
  | some i => exact ⟨i, rfl, rfl⟩
theorem Bf.lot_nd (h : Bf a b stp near start at_ seen came lot) (mt : Mt a b near) (hst : stp none = true) (hs : arA a start = none) : lot.Nodup ∧ ∀ i ∈ lot, i = start ∨ ∃ k, k ∈ keysC came ∧ arA a i = some k := by
  have mem : ∀ i ∈ (keysC came).map (fun k => (arA b k).getD 0), ∃ k, k ∈ keysC came ∧ arA a i = some k := fun i hi => by
    obtain ⟨k, hk, rfl⟩ := List.mem_map.mp hi
    obtain ⟨j, e1, e2⟩ := h.mate hst hk
    rw [e2]
    exact ⟨k, hk, mt.g _ _ e1⟩
  rw [h.le]
  refine ⟨List.nodup_cons.mpr ⟨fun z => ?_, ?_⟩, fun i hi => ?_⟩
  · obtain ⟨k, _, e⟩ := mem _ z
    rw [hs] at e
    cases e
  · rw [List.Nodup, List.pairwise_map]
    refine List.Pairwise.imp_of_mem (fun {k k'} hk hk' ne e => ne ?_) h.nd
    obtain ⟨j, e1, e2⟩ := h.mate hst hk
    obtain ⟨j', e3, e4⟩ := h.mate hst hk'
    rw [e2, e4] at e
    subst e
    have := mt.g _ _ e1
    rw [mt.g _ _ e3] at this
    exact (Option.some.inj this).symm
  · rcases List.mem_cons.mp hi with rfl | hi
    · exact .inl rfl
    · exact .inr (mem i hi)
theorem Bf.len (h : Bf a b stp near start at_ seen came lot) : lot.length = came.length + 1 := by rw [h.le]; simp [keysC]
/-- the lot is not longer than its side -/
theorem Bf.lot_le (h : Bf a b stp near start at_ seen came lot) (mt : Mt a b near) (hst : stp none = true) (hs : arA a start = none) (hl : start < a.length) : lot.length ≤ a.length := by
  obtain ⟨nd, mem⟩ := h.lot_nd mt hst hs
  have := len_leI (l := lot.map fun i : Nat => (i : Int)) (m := (List.range a.length).map fun i : Nat => (i : Int)) (List.pairwise_map.mpr (nd.imp fun {x y} h e => h (by omega))) fun x hx => by
    obtain ⟨i, hi, rfl⟩ := List.mem_map.mp hx
    refine List.mem_map.mpr ⟨i, List.mem_range.mpr ?_, rfl⟩
    rcases mem i hi with rfl | ⟨k, _, e⟩
    · exact hl
    · exact arA_lt e
  simpa using this
/-- one partner more that goes on -/
theorem Bf.grow (h : Bf a b stp near start at_ seen came lot) {k : Nat} (hk : k ∉ keysC came) (hg : stp (arA b k) = false) (hat : at_ < lot.length) (hn : k ∈ near (lot.getD at_ 0)) : Bf a b stp near start at_ (seen ++ [k]) (came ++ [(k, lot.getD at_ 0)]) (lot ++ [(arA b k).getD 0]) where
  le := by rw [keysC_app, List.map_append, ← List.cons_append, ← h.le]; rfl
  go := fun k' hk' => by
    rw [keysC_app] at hk'
    rcases List.mem_append.mp hk' with z | z
    · exact h.go k' z
    · have : k' = k := by simpa [keysC] using z
      subst this
      exact hg
  nd := by
    rw [keysC_app]
    refine List.nodup_append.mpr ⟨h.nd, by simp [keysC], fun x hx y hy e => ?_⟩
    have : y = k := by simpa [keysC] using hy
    subst this
    subst e
    exact hk hx
  ch := fun e k' i he => by
    by_cases lt : e < came.length
    · rw [List.getElem?_append_left lt] at he
      obtain ⟨⟨p, p1, p2, p3⟩, n⟩ := h.ch e k' i he
      exact ⟨⟨p, p1, p2, by rw [List.getElem?_append_left (List.getElem?_eq_some_iff.mp p3).1]; exact p3⟩, n⟩
    · have l := (List.getElem?_eq_some_iff.mp he).1
      rw [List.length_append, List.length_singleton] at l
      have ee : e = came.length := by omega
      subst ee
      rw [List.getElem?_append_right (Nat.le_refl _), Nat.sub_self] at he
      cases he
      have hl := h.len
      refine ⟨⟨at_, by omega, Nat.le_refl _, ?_⟩, hn⟩
      rw [List.getElem?_append_left hat, List.getElem?_eq_getElem hat]
      simp [List.getD, hat]
  all := fun p i hp hi k' hk' => by
    rw [keysC_app]
    have hl := h.len
    rw [List.getElem?_append_left (by omega)] at hi
    exact List.mem_append_left _ (h.all p i hp hi k' hk')
  cur := fun k' hk' => by
    rw [keysC_app]
    rcases List.mem_append.mp hk' with z | z
    · exact List.mem_append_left _ (h.cur k' z)
    · exact List.mem_append_right _ (by simpa [keysC] using z)
theorem Bf.pass (h : Bf a b stp near start at_ seen came lot) {k : Nat} (hk : k ∈ keysC came) : Bf a b stp near start at_ (seen ++ [k]) came lot :=
  ⟨h.le, h.go, h.nd, h.ch, h.all, fun k' hk' => by
    rcases List.mem_append.mp hk' with z | z
    · exact h.cur k' z
    · have : k' = k := by simpa using z
      subst this
      exact hk⟩
theorem Bf.next (h : Bf a b stp near start at_ seen came lot) (hat : at_ < lot.length) (hs : ∀ k ∈ near (lot.getD at_ 0), k ∈ seen) : Bf a b stp near start (at_ + 1) [] came lot :=
  { h with
    ch := fun e k i he => by
      obtain ⟨⟨p, p1, p2, p3⟩, n⟩ := h.ch e k i he
      exact ⟨⟨p, p1, by omega, p3⟩, n⟩
    all := fun p i hp hi k hk => by
      by_cases e : p = at_
      · subst e
        have : i = lot.getD p 0 := by simp [List.getD, hi]
        subst this
        exact h.cur k (hs k hk)
      · exact h.all p i (by omega) hi k hk
    cur := fun k hk => by simp at hk }
/-- the partners of one place, looked at one by one -/
theorem sprd_ok : ∀ (ks : List Nat) {seen : List Nat} {came : List (Nat × Nat)} {lot : List Nat} {at_ : Nat}, Bf a b stp near start at_ seen came lot → at_ < lot.length → (∀ k ∈ ks, k ∈ near (lot.getD at_ 0)) → (∀ k ∈ near (lot.getD at_ 0), k ∈ seen ∨ k ∈ ks) →
    (∃ c l k, sprd b stp (lot.getD at_ 0) ks came lot = (c ++ [(k, lot.getD at_ 0)], l, some k) ∧ (∃ s, Bf a b stp near start at_ s c l) ∧ l[at_]? = some (lot.getD at_ 0) ∧ k ∉ keysC c ∧ stp (arA b k) = true ∧ k ∈ near (lot.getD at_ 0)) ∨
    (∃ c l, sprd b stp (lot.getD at_ 0) ks came lot = (c, l, none) ∧ Bf a b stp near start (at_ + 1) [] c l ∧ l.take lot.length = lot)
  | [], seen, came, lot, at_, h, hat, hk, hn => .inr ⟨came, lot, rfl, h.next hat (fun k hk => (hn k hk).resolve_right List.not_mem_nil), List.take_length⟩
  | k :: ks, seen, came, lot, at_, h, hat, hk, hn => by
    by_cases hin : k ∈ keysC came
    · rw [sprd, if_pos hin]
      exact sprd_ok ks (h.pass hin) hat (fun k' z => hk k' (List.mem_cons_of_mem _ z)) fun k' z => by
        rcases hn k' z with z | z
        · exact .inl (List.mem_append_left _ z)
        · rcases List.mem_cons.mp z with rfl | z
          · exact .inl (List.mem_append_right _ (List.mem_singleton.mpr rfl))
          · exact .inr z
    · rw [sprd, if_neg hin]
      by_cases hs : stp (arA b k) = true
      · rw [if_pos hs]
        exact .inl ⟨came, lot, k, rfl, ⟨seen, h⟩, by rw [List.getElem?_eq_getElem hat]; simp [List.getD, hat], hin, hs, hk k List.mem_cons_self⟩
      · rw [if_neg hs]
        have hs' : stp (arA b k) = false := by simpa using hs
        have g := h.grow hin hs' hat (hk k List.mem_cons_self)
        have e : (lot ++ [(arA b k).getD 0]).getD at_ 0 = lot.getD at_ 0 := by simp [List.getD, List.getElem?_append_left hat]
        have ih := sprd_ok ks g (by rw [List.length_append]; omega) (fun k' z => by rw [e]; exact hk k' (List.mem_cons_of_mem _ z)) fun k' z => by
          rw [e] at z
          rcases hn k' z with z | z
          · exact .inl (List.mem_append_left _ z)
          · rcases List.mem_cons.mp z with rfl | z
            · exact .inl (List.mem_append_right _ (List.mem_singleton.mpr rfl))
            · exact .inr z
        rw [e] at ih
        rcases ih with ih | ⟨c, l, h1, h2, h3⟩
        · exact .inl ih
        · refine .inr ⟨c, l, h1, h2, ?_⟩
          have e2 : l.take lot.length = (l.take (lot ++ [(arA b k).getD 0]).length).take lot.length := by
            rw [List.take_take, List.length_append]
            congr 1
            omega
          rw [e2, h3, List.take_left]
theorem bfs_ok (mt : Mt a b near) (hst : stp none = true) (hs : arA a start = none) (hl : start < a.length) : ∀ (f : Nat) {came : List (Nat × Nat)} {lot : List Nat} {at_ : Nat}, Bf a b stp near start at_ [] came lot → at_ ≤ lot.length → a.length + 1 ≤ f + at_ →
    (∃ c l k at2, bfsF b stp near f at_ came lot = .inl (c ++ [(k, l.getD at2 0)], k) ∧ (∃ s, Bf a b stp near start at2 s c l) ∧ at2 < l.length ∧ k ∉ keysC c ∧ stp (arA b k) = true ∧ k ∈ near (l.getD at2 0)) ∨
    (∃ c l, bfsF b stp near f at_ came lot = .inr l ∧ Bf a b stp near start l.length [] c l)
  | 0, came, lot, at_, h, h1, h2 => by
    have := h.lot_le mt hst hs hl
    omega
  | f + 1, came, lot, at_, h, h1, h2 => by
    rw [bfsF]
    by_cases hat : at_ < lot.length
    · rw [if_pos hat]
      rcases sprd_ok (near (lot.getD at_ 0)) h hat (fun k hk => hk) (fun k hk => .inr hk) with ⟨c, l, k, e, hb, hl', hk, hst', hn⟩ | ⟨c, l, e, hb, ht⟩
      · rw [e]
        have lt := (List.getElem?_eq_some_iff.mp hl').1
        have eg : l.getD at_ 0 = lot.getD at_ 0 := by rw [List.getD, hl']; rfl
        exact .inl ⟨c, l, k, at_, by rw [eg], hb, lt, hk, hst', by rw [eg]; exact hn⟩
      · rw [e]
        have ll : lot.length ≤ l.length := by
          have := congrArg List.length ht
          rw [List.length_take] at this
          omega
        exact bfs_ok mt hst hs hl f hb (by omega) (by omega)
    · rw [if_neg hat]
      have e : at_ = lot.length := by omega
      subst e
      exact .inr ⟨came, lot, rfl, h⟩
theorem look_at : ∀ {came : List (Nat × Nat)} {e k i : Nat}, (keysC came).Nodup → came[e]? = some (k, i) → came.lookup k = some i
  | [], _, _, _, _, h => by simp at h
  | (k', i') :: came, 0, k, i, _, h => by
    cases h
    simp
  | (k', i') :: came, e + 1, k, i, nd, h => by
    have nd' := List.nodup_cons.mp nd
    have h' : came[e]? = some (k, i) := h
    have ne : k ≠ k' := fun z => by
      subst z
      exact nd'.1 (List.mem_map.mpr ⟨(k, i), List.mem_of_getElem? h', rfl⟩)
    rw [List.lookup_cons]
    have : (k == k') = false := by simpa using ne
    rw [this]
    exact look_at nd'.2 h'
/-- the way as it was found -/
structure Way (a0 b0 : Ar) (near : Nat → List Nat) (start : Nat) (came : List (Nat × Nat)) (lot : List Nat) : Prop where
  nd : (keysC came).Nodup
  ln : lot.Nodup
  l0 : lot[0]? = some start
  s0 : arA a0 start = none
  ch : ∀ (e k i : Nat), came[e]? = some (k, i) → (∃ p, p ≤ e ∧ lot[p]? = some i) ∧ k ∈ near i
  mate : ∀ (p i : Nat), lot[p + 1]? = some i → ∃ k i', came[p]? = some (k, i') ∧ arA a0 i = some k
  ba : ∀ i ∈ lot, i < a0.length
  bb : ∀ k ∈ keysC came, k < b0.length
structure Tn (a0 b0 a b : Ar) (near : Nat → List Nat) (came : List (Nat × Nat)) (lot : List Nat) (k0 k e : Nat) : Prop where
  la : a.length = a0.length
  lb : b.length = b0.length
  cur : ∃ i, came[e]? = some (k, i)
  f : ∀ i j, arA a i = some j → arA b j = some i
  g : ∀ i j, j ≠ k → arA b j = some i → arA a i = some j
  no : ∀ i, arA a i ≠ some k
  nr : ∀ i j, arA a i = some j → j ∈ near i
  un : ∀ (q i : Nat), q ≤ e → lot[q]? = some i → arA a i = arA a0 i
  da : ∀ i, (arA a i).isSome = (arA a0 i).isSome
  db : ∀ j, (arA b0 j).isSome = true → (arA b j).isSome = true
  dc : ∀ j, (arA b j).isSome = true → (arA b0 j).isSome = true ∨ j = k0
  dd : (arA b k0).isSome = true ∨ k = k0
  dk : k = k0 ∨ (arA b k).isSome = true
/-- a changed way can be turned to its end -/
def TurnR (came : List (Nat × Nat)) : Nat → Ar → Ar → Nat → Prop
  | 0, _, _, _ => False
  | f + 1, a, b, k => ∃ i, came.lookup k = some i ∧ i < a.length ∧ k < b.length ∧ (arA a i = none ∨ ∃ k', arA a i = some k' ∧ TurnR came f (a.set i (some k)) (b.set k (some i)) k')
theorem TurnR.wrap {P : Prop} {f i k k' : Nat} {a b : Ar} {came : List (Nat × Nat)} (lk : came.lookup k = some i) (ia : i < a.length) (kb : k < b.length) (ea : arA a i = some k') (h : P ∧ TurnR came f (a.set i (some k)) (b.set k (some i)) k') : P ∧ TurnR came (f + 1) a b k := ⟨h.1, i, lk, ia, kb, .inr ⟨k', ea, h.2⟩⟩
theorem turn_ok {a0 b0 : Ar} {k0 : Nat} (wy : Way a0 b0 near start came lot) : ∀ (f : Nat) {a b : Ar} {k e : Nat}, Tn a0 b0 a b near came lot k0 k e → e < f →
    (Mt (turnF came f a b k).1 (turnF came f a b k).2 near ∧ (turnF came f a b k).1.length = a0.length ∧ (turnF came f a b k).2.length = b0.length ∧
    (∀ i, (arA (turnF came f a b k).1 i).isSome = true ↔ ((arA a0 i).isSome = true ∨ i = start)) ∧ (∀ j, (arA (turnF came f a b k).2 j).isSome = true ↔ ((arA b0 j).isSome = true ∨ j = k0))) ∧ TurnR came f a b k
  | 0, a, b, k, e, t, h => by omega
  | f + 1, a, b, k, e, t, h => by
    obtain ⟨i, hi⟩ := t.cur
    have lk := look_at wy.nd hi
    obtain ⟨⟨p, hp, hpi⟩, hn⟩ := wy.ch e k i hi
    have ia : i < a.length := by rw [t.la]; exact wy.ba i (List.mem_of_getElem? hpi)
    have kb : k < b.length := by rw [t.lb]; exact wy.bb k (List.mem_map.mpr ⟨(k, i), List.mem_of_getElem? hi, rfl⟩)
    have ai := t.un p i hp hpi
    rw [turnF, lk]
    simp only [Option.getD_some]
    have sa : ∀ j, arA (a.set i (some k)) j = if j = i then some k else arA a j := fun j => arA_set ia
    have sb : ∀ j, arA (b.set k (some i)) j = if j = k then some i else arA b j := fun j => arA_set kb
    have f' : ∀ x j, arA (a.set i (some k)) x = some j → arA (b.set k (some i)) j = some x := fun x j hx => by
      rw [sa] at hx
      rw [sb]
      by_cases ex : x = i
      · subst ex
        rw [if_pos rfl] at hx
        cases hx
        rw [if_pos rfl]
      · rw [if_neg ex] at hx
        have : j ≠ k := fun z => by
          subst z
          exact t.no x hx
        rw [if_neg this]
        exact t.f x j hx
    have nr' : ∀ x j, arA (a.set i (some k)) x = some j → j ∈ near x := fun x j hx => by
      rw [sa] at hx
      by_cases ex : x = i
      · subst ex
        rw [if_pos rfl] at hx
        cases hx
        exact hn
      · rw [if_neg ex] at hx
        exact t.nr x j hx
    have db' : ∀ j, (arA b0 j).isSome = true → (arA (b.set k (some i)) j).isSome = true := fun j hj => by
      rw [sb]
      split
      · rfl
      · exact t.db j hj
    have dk : (arA (b.set k (some i)) k0).isSome = true := by
      rw [sb]
      split
      · rfl
      · rename_i ne
        rcases t.dd with d | d
        · exact d
        · exact absurd d.symm ne
    cases ea : arA a i with
    | none =>
      have p0 : p = 0 := by
        cases p with
        | zero => rfl
        | succ p =>
          obtain ⟨k', i', _, e2⟩ := wy.mate p i hpi
          rw [← ai, ea] at e2
          cases e2
      subst p0
      have es : i = start := by
        rw [wy.l0] at hpi
        exact (Option.some.inj hpi).symm
      subst es
      simp only
      refine ⟨⟨⟨f', fun x j hx => ?_, nr'⟩, by rw [List.length_set]; exact t.la, by rw [List.length_set]; exact t.lb, fun x => ?_, fun j => ?_⟩, i, lk, ia, kb, .inl ea⟩
      · rw [sb] at hx
        rw [sa]
        by_cases ej : j = k
        · subst ej
          rw [if_pos rfl] at hx
          cases hx
          rw [if_pos rfl]
        · rw [if_neg ej] at hx
          have := t.g x j ej hx
          by_cases ex : x = i
          · subst ex
            rw [ea] at this
            cases this
          · rw [if_neg ex]
            exact this
      · rw [sa]
        by_cases ex : x = i
        · rw [if_pos ex]
          exact ⟨fun _ => .inr ex, fun _ => rfl⟩
        · rw [if_neg ex, t.da x]
          exact ⟨fun z => .inl z, fun z => z.resolve_right ex⟩
      · constructor
        · intro hj
          rw [sb] at hj
          by_cases ej : j = k
          · subst ej
            rcases t.dk with d | d
            · exact .inr d
            · exact t.dc j d
          · rw [if_neg ej] at hj
            exact t.dc j hj
        · rintro (hj | rfl)
          · exact db' j hj
          · exact dk
    | some k1 =>
      simp only
      have pp : ∃ p', p = p' + 1 := by
        cases p with
        | zero =>
          rw [wy.l0] at hpi
          cases hpi
          rw [wy.s0, ea] at ai
          cases ai
        | succ p => exact ⟨p, rfl⟩
      obtain ⟨p', rfl⟩ := pp
      obtain ⟨k', i', hc, e2⟩ := wy.mate p' i hpi
      rw [← ai, ea] at e2
      cases e2
      have k1k : k1 ≠ k := fun z => by
        subst z
        exact t.no i ea
      refine TurnR.wrap lk ia kb ea (turn_ok wy f (e := p') ⟨by rw [List.length_set]; exact t.la, by rw [List.length_set]; exact t.lb, ⟨i', hc⟩, f', fun x j ne hx => ?_, fun x hx => ?_, nr', fun q x hq hx => ?_, fun x => ?_, db', fun j hj => ?_, .inl dk, .inr (by rw [sb, if_neg k1k, t.f i k1 ea]; rfl)⟩ (by omega))
      · rw [sb] at hx
        rw [sa]
        by_cases ej : j = k
        · subst ej
          rw [if_pos rfl] at hx
          cases hx
          rw [if_pos rfl]
        · rw [if_neg ej] at hx
          have := t.g x j ej hx
          by_cases ex : x = i
          · subst ex
            rw [ea] at this
            exact absurd (Option.some.inj this).symm ne
          · rw [if_neg ex]
            exact this
      · rw [sa] at hx
        by_cases ex : x = i
        · rw [if_pos ex] at hx
          exact k1k (Option.some.inj hx).symm
        · rw [if_neg ex] at hx
          have h1 := t.f x k1 hx
          rw [t.f i k1 ea] at h1
          exact ex (Option.some.inj h1).symm
      · rw [sa]
        have : x ≠ i := fun z => by
          subst z
          have := (List.getElem?_inj (List.getElem?_eq_some_iff.mp hx).1 wy.ln).mp (hx.trans hpi.symm)
          omega
        rw [if_neg this]
        exact t.un q x (by omega) hx
      · rw [sa]
        by_cases ex : x = i
        · rw [if_pos ex, ex, ← t.da i, ea]
          rfl
        · rw [if_neg ex]
          exact t.da x
      · rw [sb] at hj
        by_cases ej : j = k
        · subst ej
          rcases t.dk with d | d
          · exact .inr d
          · exact t.dc j d
        · rw [if_neg ej] at hj
          exact t.dc j hj
theorem clrA_at {a b : Ar} {near : Nat → List Nat} {k : Nat} (mt : Mt a b near) (i : Nat) : arA (clrA a (arA b k)) i = if arA b k = some i then none else arA a i := by
  cases e : arA b k with
  | none => rw [if_neg (fun z => by cases z)]; rfl
  | some j =>
    have := arA_lt (mt.g _ _ e)
    show arA (a.set j none) i = _
    rw [arA_set this]
    by_cases ij : i = j
    · rw [if_pos ij, if_pos (by rw [ij])]
    · rw [if_neg ij, if_neg (fun z => ij (Option.some.inj z).symm)]
theorem clrA_len {a : Ar} : ∀ (o : Option Nat), (clrA a o).length = a.length
  | none => rfl
  | some j => List.length_set ..
theorem Bf.turns (mt : Mt a b near) (hst : stp none = true) (hs : arA a start = none) (hl : start < a.length) (hb : ∀ i k, k ∈ near i → k < b.length) {c : List (Nat × Nat)} {l sn : List Nat} {at2 k : Nat} (h : Bf a b stp near start at2 sn c l) (lt : at2 < l.length) (hk : k ∉ keysC c) (hkn : k ∈ near (l.getD at2 0)) :
    ∃ a0 : Ar, a0 = clrA a (arA b k) ∧ (Mt (turnF (c ++ [(k, l.getD at2 0)]) (c ++ [(k, l.getD at2 0)]).length a0 b k).1 (turnF (c ++ [(k, l.getD at2 0)]) (c ++ [(k, l.getD at2 0)]).length a0 b k).2 near ∧ (turnF (c ++ [(k, l.getD at2 0)]) (c ++ [(k, l.getD at2 0)]).length a0 b k).1.length = a0.length ∧ (turnF (c ++ [(k, l.getD at2 0)]) (c ++ [(k, l.getD at2 0)]).length a0 b k).2.length = b.length ∧
      (∀ i, (arA (turnF (c ++ [(k, l.getD at2 0)]) (c ++ [(k, l.getD at2 0)]).length a0 b k).1 i).isSome = true ↔ ((arA a0 i).isSome = true ∨ i = start)) ∧ (∀ j, (arA (turnF (c ++ [(k, l.getD at2 0)]) (c ++ [(k, l.getD at2 0)]).length a0 b k).2 j).isSome = true ↔ ((arA b j).isSome = true ∨ j = k))) ∧ TurnR (c ++ [(k, l.getD at2 0)]) (c ++ [(k, l.getD at2 0)]).length a0 b k := by
  obtain ⟨ln, lm⟩ := h.lot_nd mt hst hs
  have hlen := h.len
  have hla : ∀ i ∈ l, i < a.length := fun i hi => by
    rcases lm i hi with rfl | ⟨k', _, e'⟩
    · exact hl
    · exact arA_lt e'
  have ca := fun i => clrA_at (k := k) mt i
  have kc : keysC (c ++ [(k, l.getD at2 0)]) = keysC c ++ [k] := keysC_app _ _
  have wy : Way (clrA a (arA b k)) b near start (c ++ [(k, l.getD at2 0)]) l := by
    refine ⟨?_, ln, by rw [h.le]; rfl, ?_, fun e' k' i he => ?_, fun p i hi => ?_, fun i hi => by rw [clrA_len]; exact hla i hi, fun k' hk' => ?_⟩
    · rw [kc]
      refine List.nodup_append.mpr ⟨h.nd, by simp, fun x hx y hy z => ?_⟩
      rw [List.mem_singleton] at hy
      subst hy
      subst z
      exact hk hx
    · rw [ca]
      split
      · rfl
      · exact hs
    · by_cases lt' : e' < c.length
      · rw [List.getElem?_append_left lt'] at he
        obtain ⟨⟨p, p1, _, p3⟩, n⟩ := h.ch e' k' i he
        exact ⟨⟨p, p1, p3⟩, n⟩
      · have l' := (List.getElem?_eq_some_iff.mp he).1
        rw [List.length_append, List.length_singleton] at l'
        have ee : e' = c.length := by omega
        subst ee
        rw [List.getElem?_append_right (Nat.le_refl _), Nat.sub_self] at he
        cases he
        refine ⟨⟨at2, by omega, ?_⟩, hkn⟩
        rw [List.getElem?_eq_getElem lt]
        simp [List.getD, lt]
    · rw [h.le, List.getElem?_cons_succ] at hi
      unfold keysC at hi
      rw [List.map_map, List.getElem?_map] at hi
      cases hc : c[p]? with
      | none => rw [hc] at hi; cases hi
      | some q =>
        rw [hc] at hi
        have hi : (arA b q.1).getD 0 = i := by simpa using hi
        have qk : q.1 ∈ keysC c := List.mem_map.mpr ⟨q, List.mem_of_getElem? hc, rfl⟩
        obtain ⟨j, e1, e2⟩ := h.mate hst qk
        rw [e2] at hi
        subst hi
        refine ⟨q.1, q.2, by rw [List.getElem?_append_left (List.getElem?_eq_some_iff.mp hc).1]; exact hc, ?_⟩
        rw [ca, if_neg]
        · exact mt.g _ _ e1
        · intro z
          have h1 := mt.g _ _ z
          rw [mt.g _ _ e1] at h1
          exact hk (Option.some.inj h1 ▸ qk)
    · rw [kc] at hk'
      rcases List.mem_append.mp hk' with z | z
      · obtain ⟨j, e1, _⟩ := h.mate hst z
        exact arA_lt e1
      · rw [List.mem_singleton.mp z]
        exact hb _ _ hkn
  have tn : Tn (clrA a (arA b k)) b (clrA a (arA b k)) b near (c ++ [(k, l.getD at2 0)]) l k k c.length := by
    refine ⟨rfl, rfl, ⟨l.getD at2 0, by rw [List.getElem?_append_right (Nat.le_refl _), Nat.sub_self]; rfl⟩, fun i j hx => ?_, fun i j ne hx => ?_, fun i hx => ?_, fun i j hx => ?_, fun q i _ _ => rfl, fun i => rfl, fun j hj => hj, fun j hj => .inl hj, .inr rfl, .inl rfl⟩
    · rw [ca] at hx
      split at hx
      · cases hx
      · exact mt.f _ _ hx
    · rw [ca, if_neg]
      · exact mt.g _ _ hx
      · intro z
        have h1 := mt.g _ _ z
        rw [mt.g _ _ hx] at h1
        exact ne (Option.some.inj h1)
    · rw [ca] at hx
      split at hx
      · cases hx
      · rename_i ne
        exact ne (mt.f _ _ hx)
    · rw [ca] at hx
      split at hx
      · cases hx
      · exact mt.nr _ _ hx
  exact ⟨_, rfl, turn_ok wy (c ++ [(k, l.getD at2 0)]).length tn (by rw [List.length_append]; simp)⟩
theorem seek_ok (mt : Mt a b near) (hst : stp none = true) (hs : arA a start = none) (hl : start < a.length) (hb : ∀ i k, k ∈ near i → k < b.length) :
    (∃ r k, seekF a b stp near start = .inl r ∧ Mt r.1 r.2 near ∧ r.1.length = a.length ∧ r.2.length = b.length ∧ stp (arA b k) = true ∧
      (∀ i, (arA r.1 i).isSome = true ↔ ((arA a i).isSome = true ∧ arA b k ≠ some i) ∨ i = start) ∧ (∀ j, (arA r.2 j).isSome = true ↔ ((arA b j).isSome = true ∨ j = k))) ∨
    (∃ lot, seekF a b stp near start = .inr lot ∧ lot.Nodup ∧ (∀ i ∈ lot, i < a.length) ∧ (∀ i ∈ lot, i = start ∨ ∃ k, arA a i = some k ∧ stp (some i) = false) ∧ ∃ ks : List Nat, ks.length + 1 = lot.length ∧ ∀ i ∈ lot, ∀ k ∈ near i, k ∈ ks) := by
  rcases bfs_ok (stp := stp) mt hst hs hl (a.length + 1) Bf.ini (Nat.zero_le _) (Nat.le_refl _) with ⟨c, l, k, at2, e, ⟨sn, h⟩, lt, hk, hkst, hkn⟩ | ⟨c, l, e, h⟩
  · left
    have ca := fun i => clrA_at (k := k) mt i
    obtain ⟨a0, ea0, r, _⟩ := h.turns mt hst hs hl hb lt hk hkn
    subst ea0
    refine ⟨turnF (c ++ [(k, l.getD at2 0)]) (c ++ [(k, l.getD at2 0)]).length (clrA a (arA b k)) b k, k, by unfold seekF; rw [e], r.1, by rw [r.2.1, clrA_len], r.2.2.1, hkst, fun i => ?_, r.2.2.2.2⟩
    rw [r.2.2.2.1 i, ca]
    by_cases z : arA b k = some i
    · rw [if_pos z]
      simp [z]
    · rw [if_neg z]
      simp [z]
  · right
    obtain ⟨ln, lm⟩ := h.lot_nd mt hst hs
    refine ⟨l, by unfold seekF; rw [e], ln, fun i hi => ?_, fun i hi => ?_, keysC c, by rw [h.len]; simp [keysC], fun i hi k hk => ?_⟩
    · rcases lm i hi with rfl | ⟨k', _, e'⟩
      · exact hl
      · exact arA_lt e'
    · rcases lm i hi with z | ⟨k', h1, e'⟩
      · exact .inl z
      · refine .inr ⟨k', e', ?_⟩
        have := h.go k' h1
        rw [mt.f _ _ e'] at this
        exact this
    · obtain ⟨p, hp⟩ := List.mem_iff_getElem?.mp hi
      exact h.all p i (List.getElem?_eq_some_iff.mp hp).1 hp k hk
end
/-! the two sides -/
def nearS (os ts : List Bar) (lag : Int) (i : Nat) : List Nat := (List.range ts.length).filter fun j => nearB (lotB os (i : Int)) (lotB ts (j : Int)) lag
def nearR (os ts : List Bar) (lag : Int) (j : Nat) : List Nat := (List.range os.length).filter fun i => nearB (lotB os (i : Int)) (lotB ts (j : Int)) lag
def lgB (bs : List Bar) (lag : Int) (i : Nat) : Bool := longB (lotB bs (i : Int)) lag
def stp1 (m : Option Nat) : Bool := m.isNone
def stp2 (ts : List Bar) (lag : Int) : Option Nat → Bool
  | none => true
  | some j => !lgB ts lag j
theorem nearS_mem {os ts : List Bar} {lag : Int} {i j : Nat} : j ∈ nearS os ts lag i ↔ j < ts.length ∧ nearB (lotB os (i : Int)) (lotB ts (j : Int)) lag = true := by
  unfold nearS
  rw [List.mem_filter, List.mem_range]
theorem nearR_mem {os ts : List Bar} {lag : Int} {i j : Nat} : i ∈ nearR os ts lag j ↔ i < os.length ∧ nearB (lotB os (i : Int)) (lotB ts (j : Int)) lag = true := by
  unfold nearR
  rw [List.mem_filter, List.mem_range]
def ph1F (os ts : List Bar) (lag : Int) : List Nat → Ar × Ar → Sum (Ar × Ar) (List Nat)
  | [], s => .inl s
  | i :: is, s => if lgB os lag i = true then match seekF s.1 s.2 stp1 (nearS os ts lag) i with
      | .inr lot => .inr lot
      | .inl s' => ph1F os ts lag is s'
    else ph1F os ts lag is s
def ph2F (os ts : List Bar) (lag : Int) : List Nat → Ar × Ar → Sum (Ar × Ar) (List Nat)
  | [], s => .inl s
  | j :: js, s => if lgB ts lag j = true ∧ arA s.2 j = none then match seekF s.2 s.1 (stp2 ts lag) (nearR os ts lag) j with
      | .inr lot => .inr lot
      | .inl s' => ph2F os ts lag js (s'.2, s'.1)
    else ph2F os ts lag js s
structure Sch (os ts : List Bar) (lag : Int) (s : Ar × Ar) : Prop where
  l1 : s.1.length = os.length
  l2 : s.2.length = ts.length
  mt : Mt s.1 s.2 (nearS os ts lag)
theorem Sch.sw {os ts : List Bar} {lag : Int} {s : Ar × Ar} (h : Sch os ts lag s) : Mt s.2 s.1 (nearR os ts lag) := ⟨fun i j e => h.mt.g _ _ e, fun i j e => h.mt.f _ _ e, fun i j e => by
  have e' := h.mt.g _ _ e
  exact nearR_mem.mpr ⟨by rw [← h.l1]; exact arA_lt e', (nearS_mem.mp (h.mt.nr _ _ e')).2⟩⟩
/-- a lot of long places with too few partners -/
structure Lnl (n : Nat) (lng : Nat → Bool) (near : Nat → List Nat) (lot : List Nat) : Prop where
  nd : lot.Nodup
  bd : ∀ i ∈ lot, i < n
  lg : ∀ i ∈ lot, lng i = true
  few : ∃ ks : List Nat, ks.length + 1 = lot.length ∧ ∀ i ∈ lot, ∀ k ∈ near i, k ∈ ks
theorem ph1_ok {os ts : List Bar} {lag : Int} : ∀ (is : List Nat) {s : Ar × Ar}, Sch os ts lag s → is.Nodup → (∀ i ∈ is, i < os.length ∧ arA s.1 i = none) → (∀ i, (arA s.1 i).isSome = true → lgB os lag i = true) →
    (∃ s', ph1F os ts lag is s = .inl s' ∧ Sch os ts lag s' ∧ (∀ i, (arA s.1 i).isSome = true → (arA s'.1 i).isSome = true) ∧ ∀ i ∈ is, lgB os lag i = true → (arA s'.1 i).isSome = true) ∨
    (∃ lot, ph1F os ts lag is s = .inr lot ∧ Lnl os.length (lgB os lag) (nearS os ts lag) lot)
  | [], s, h, _, _, _ => .inl ⟨s, rfl, h, fun _ z => z, fun i hi => by simp at hi⟩
  | i :: is, s, h, nd, hi, hlg => by
    have nd' := List.nodup_cons.mp nd
    rw [ph1F]
    by_cases hl : lgB os lag i = true
    · rw [if_pos hl]
      rcases seek_ok (stp := stp1) h.mt rfl (hi i List.mem_cons_self).2 (by rw [h.l1]; exact (hi i List.mem_cons_self).1) (fun i' k hk => by rw [h.l2]; exact (nearS_mem.mp hk).1) with ⟨r, k, e, m, la, lb, st, d1, d2⟩ | ⟨lot, e, n1, n2, n3, n4⟩
      · rw [e]
        have kn : arA s.2 k = none := by simpa [stp1] using st
        have d1' : ∀ x, (arA r.1 x).isSome = true ↔ (arA s.1 x).isSome = true ∨ x = i := fun x => by
          rw [d1 x, kn]
          simp
        have ih := ph1_ok (os := os) (ts := ts) (lag := lag) is (s := r) ⟨by rw [la]; exact h.l1, by rw [lb]; exact h.l2, m⟩ nd'.2 (fun x hx => by
          have := hi x (List.mem_cons_of_mem _ hx)
          refine ⟨this.1, ?_⟩
          cases ex : arA r.1 x with
          | none => rfl
          | some y =>
            rcases (d1' x).mp (by rw [ex]; rfl) with z | z
            · rw [this.2] at z
              cases z
            · subst z
              exact absurd hx nd'.1) (fun x hx => by
          rcases (d1' x).mp hx with z | z
          · exact hlg x z
          · rw [z]
            exact hl)
        rcases ih with ⟨s', e', h', m1, m2⟩ | ⟨lot, e', h'⟩
        · refine .inl ⟨s', e', h', fun x hx => m1 x ((d1' x).mpr (.inl hx)), fun x hx hxl => ?_⟩
          rcases List.mem_cons.mp hx with rfl | hx
          · exact m1 _ ((d1' _).mpr (.inr rfl))
          · exact m2 x hx hxl
        · exact .inr ⟨lot, e', h'⟩
      · rw [e]
        refine .inr ⟨lot, rfl, n1, fun x hx => by rw [← h.l1]; exact n2 x hx, fun x hx => ?_, n4⟩
        rcases n3 x hx with rfl | ⟨k, z, _⟩
        · exact hl
        · exact hlg x (by rw [z]; rfl)
    · rw [if_neg hl]
      rcases ph1_ok (os := os) (ts := ts) (lag := lag) is h nd'.2 (fun x hx => hi x (List.mem_cons_of_mem _ hx)) hlg with ⟨s', e', h', m1, m2⟩ | z
      · refine .inl ⟨s', e', h', m1, fun x hx hxl => ?_⟩
        rcases List.mem_cons.mp hx with rfl | hx
        · exact absurd hxl hl
        · exact m2 x hx hxl
      · exact .inr z
theorem ph2_ok {os ts : List Bar} {lag : Int} : ∀ (js : List Nat) {s : Ar × Ar}, Sch os ts lag s → (∀ j ∈ js, j < ts.length) →
    (∃ s', ph2F os ts lag js s = .inl s' ∧ Sch os ts lag s' ∧ (∀ i, (arA s.1 i).isSome = true → (arA s'.1 i).isSome = true) ∧ (∀ j, lgB ts lag j = true → (arA s.2 j).isSome = true → (arA s'.2 j).isSome = true) ∧ ∀ j ∈ js, lgB ts lag j = true → (arA s'.2 j).isSome = true) ∨
    (∃ lot, ph2F os ts lag js s = .inr lot ∧ Lnl ts.length (lgB ts lag) (nearR os ts lag) lot)
  | [], s, h, _ => .inl ⟨s, rfl, h, fun _ z => z, fun _ _ z => z, fun i hi => by simp at hi⟩
  | j :: js, s, h, hj => by
    rw [ph2F]
    by_cases hl : lgB ts lag j = true ∧ arA s.2 j = none
    · rw [if_pos hl]
      rcases seek_ok (stp := stp2 ts lag) h.sw rfl hl.2 (by rw [h.l2]; exact hj j List.mem_cons_self) (fun i' k hk => by rw [h.l1]; exact (nearR_mem.mp hk).1) with ⟨r, k, e, m, la, lb, st, d1, d2⟩ | ⟨lot, e, n1, n2, n3, n4⟩
      · rw [e]
        have keep : ∀ x, lgB ts lag x = true → (arA s.2 x).isSome = true → (arA r.1 x).isSome = true := fun x hx hs => by
          refine (d1 x).mpr (.inl ⟨hs, fun z => ?_⟩)
          rw [z] at st
          simp [stp2, hx] at st
        have h2 : Sch os ts lag (r.2, r.1) := ⟨by show r.2.length = _; rw [lb]; exact h.l1, by show r.1.length = _; rw [la]; exact h.l2, fun x y z => m.g _ _ z, fun x y z => m.f _ _ z, fun x y z => by
          have z' := m.g _ _ z
          have := nearR_mem.mp (m.nr _ _ z')
          exact nearS_mem.mpr ⟨by have := arA_lt z'; rw [la, h.l2] at this; exact this, this.2⟩⟩
        rcases ph2_ok (os := os) (ts := ts) (lag := lag) js h2 (fun x hx => hj x (List.mem_cons_of_mem _ hx)) with ⟨s', e', h', m1, m2, m3⟩ | ⟨lot, e', h'⟩
        · refine .inl ⟨s', e', h', fun x hx => m1 x ((d2 x).mpr (.inl hx)), fun x hx hs => m2 x hx (keep x hx hs), fun x hx hxl => ?_⟩
          rcases List.mem_cons.mp hx with rfl | hx
          · exact m2 _ hxl ((d1 _).mpr (.inr rfl))
          · exact m3 x hx hxl
        · exact .inr ⟨lot, e', h'⟩
      · rw [e]
        refine .inr ⟨lot, rfl, n1, fun x hx => by rw [← h.l2]; exact n2 x hx, fun x hx => ?_, n4⟩
        rcases n3 x hx with rfl | ⟨k, _, z⟩
        · exact hl.1
        · simpa [stp2] using z
    · rw [if_neg hl]
      rcases ph2_ok (os := os) (ts := ts) (lag := lag) js h (fun x hx => hj x (List.mem_cons_of_mem _ hx)) with ⟨s', e', h', m1, m2, m3⟩ | z
      · refine .inl ⟨s', e', h', m1, m2, fun x hx hxl => ?_⟩
        rcases List.mem_cons.mp hx with rfl | hx
        · refine m2 _ hxl ?_
          cases ex : arA s.2 x with
          | none => exact absurd ⟨hxl, ex⟩ hl
          | some y => rfl
        · exact m3 x hx hxl
      · exact .inr z
/-! the answer -/
def prsO (n : Nat) (o : Ar) : List (Int × Int) := ((List.range n).filter fun i => (arA o i).isSome).map fun i : Nat => ((i : Int), (((arA o i).getD 0 : Nat) : Int))
def srtN (l : List Nat) : List Int := srtA (fun i => [i]) (l.map fun i : Nat => (i : Int))
def emptA (n : Nat) : Ar := List.replicate n none
/-- (false, pairs) or (true, the side and the places) -/
def pwF (os ts : List Bar) (lag : Int) : Sum (List (Int × Int)) (Bool × List Int) := match ph1F os ts lag (List.range os.length) (emptA os.length, emptA ts.length) with
  | .inr lot => .inr (false, srtN lot)
  | .inl s => match ph2F os ts lag (List.range ts.length) s with
    | .inr lot => .inr (true, srtN lot)
    | .inl s' => .inl (prsO os.length s'.1)
theorem emptA_at (n i : Nat) : arA (emptA n) i = none := by
  unfold arA emptA
  rw [List.getD, List.getElem?_replicate]
  split <;> rfl
theorem filt_len (ts : List Bar) (Q : Bar → Bool) : (ts.filter Q).length = ((List.range ts.length).filter fun k : Nat => Q (lotB ts (k : Int))).length := by
  rw [← List.countP_eq_length_filter, ← List.countP_eq_length_filter]
  have e : ts = (List.range ts.length).map fun k : Nat => lotB ts (k : Int) := by
    apply List.ext_getElem?
    intro i
    rw [List.getElem?_map]
    rcases Nat.lt_or_ge i ts.length with h | h
    · rw [List.getElem?_eq_getElem h, List.getElem?_range h]
      simp [lotB, List.getD, h]
    · rw [List.getElem?_eq_none h, List.getElem?_eq_none (by simpa using h)]
      rfl
  conv => lhs; rw [e]
  rw [List.countP_map]
  rfl
theorem Lnl.lon {os ts : List Bar} {lag : Int} {near : Nat → List Nat} {lot : List Nat} (hn : ∀ i j : Nat, j < ts.length → nearB (lotB os (i : Int)) (lotB ts (j : Int)) lag = true → j ∈ near i) (h : Lnl os.length (lgB os lag) near lot) : lonF os ts (srtN lot) lag = true := by
  have pm := srtA_perm (fun i : Int => [i]) (lot.map fun i : Nat => (i : Int))
  have mem : ∀ x, x ∈ srtN lot ↔ ∃ i : Nat, i ∈ lot ∧ (i : Int) = x := fun x => by
    show x ∈ srtA _ _ ↔ _
    rw [pm.mem_iff, List.mem_map]
  have nd : (srtN lot).Nodup := pm.nodup_iff.mpr (List.pairwise_map.mpr (h.nd.imp fun {x y} ne e => ne (by omega)))
  have ln : (srtN lot).length = lot.length := by
    show (srtA _ _).length = _
    rw [srtA_len, List.length_map]
  have as : ascB (srtN lot) = true := by
    rw [ascB_pw]
    refine ((srtA_srtd (fun i : Int => [i]) (lot.map fun i : Nat => (i : Int))).and nd).imp fun {a b} ⟨x, y⟩ => ?_
    have := lex1 x
    have y : a ≠ b := y
    omega
  unfold lonF
  rw [as, Bool.true_and, Bool.and_eq_true, Bool.and_eq_true, List.all_eq_true, List.all_eq_true, decide_eq_true_eq]
  refine ⟨⟨fun x hx => ?_, fun x hx => ?_⟩, ?_⟩
  · obtain ⟨i, hi, rfl⟩ := (mem x).mp hx
    have := h.bd i hi
    rw [Bool.and_eq_true, decide_eq_true_eq, decide_eq_true_eq]
    omega
  · obtain ⟨i, hi, rfl⟩ := (mem x).mp hx
    exact h.lg i hi
  · obtain ⟨ks, k1, k2⟩ := h.few
    unfold parF
    rw [filt_len, ln]
    have := len_leI (l := ((List.range ts.length).filter fun k : Nat => (srtN lot).any fun p => nearB (lotB os p) (lotB ts (k : Int)) lag).map fun k : Nat => (k : Int)) (m := ks.map fun k : Nat => (k : Int)) (List.pairwise_map.mpr ((List.nodup_range.filter _).imp fun {x y} ne e => ne (by omega))) fun x hx => by
      obtain ⟨k, hk, rfl⟩ := List.mem_map.mp hx
      obtain ⟨hk1, hk2⟩ := List.mem_filter.mp hk
      obtain ⟨p, hp, hb⟩ := List.any_eq_true.mp hk2
      obtain ⟨i, hi, rfl⟩ := (mem p).mp hp
      exact List.mem_map.mpr ⟨k, k2 i hi k (hn i k (List.mem_range.mp hk1) hb), rfl⟩
    rw [List.length_map, List.length_map] at this
    omega
theorem Sch.pg {os ts : List Bar} {lag : Int} {s : Ar × Ar} (h : Sch os ts lag s) (h1 : ∀ i, i < os.length → lgB os lag i = true → (arA s.1 i).isSome = true) (h2 : ∀ j, j < ts.length → lgB ts lag j = true → (arA s.2 j).isSome = true) : pairF os ts (prsO os.length s.1) lag = true := by
  have mem : ∀ p, p ∈ prsO os.length s.1 ↔ ∃ i j : Nat, i < os.length ∧ arA s.1 i = some j ∧ p = ((i : Int), (j : Int)) := fun p => by
    unfold prsO
    rw [List.mem_map]
    constructor
    · rintro ⟨i, hi, rfl⟩
      obtain ⟨a1, a2⟩ := List.mem_filter.mp hi
      obtain ⟨j, e⟩ := Option.isSome_iff_exists.mp a2
      exact ⟨i, j, List.mem_range.mp a1, e, by rw [e]; rfl⟩
    · rintro ⟨i, j, a1, e, rfl⟩
      exact ⟨i, List.mem_filter.mpr ⟨List.mem_range.mpr a1, by rw [e]; rfl⟩, by rw [e]; rfl⟩
  have fst : (prsO os.length s.1).map (·.1) = ((List.range os.length).filter fun i => (arA s.1 i).isSome).map fun i : Nat => (i : Int) := by
    unfold prsO
    rw [List.map_map]
    rfl
  refine pairF_PG.mpr ⟨?_, ?_, ?_, fun p hp => ?_, fun j hj => ?_, fun j hj => ?_⟩
  · rw [fst, List.pairwise_map]
    refine (List.pairwise_lt_range.filter _).imp fun {a b : Nat} (h : a < b) => ?_
    omega
  · rw [fst, List.Nodup, List.pairwise_map]
    refine (List.nodup_range.filter _).imp fun {a b : Nat} (h : a ≠ b) => ?_
    omega
  · unfold prsO
    rw [List.map_map, List.Nodup, List.pairwise_map]
    refine List.Pairwise.imp_of_mem (fun {a b} ha hb ne e => ne ?_) (List.nodup_range.filter fun i => (arA s.1 i).isSome)
    obtain ⟨j, ej⟩ := Option.isSome_iff_exists.mp (List.mem_filter.mp ha).2
    obtain ⟨k, ek⟩ := Option.isSome_iff_exists.mp (List.mem_filter.mp hb).2
    have e : (((arA s.1 a).getD 0 : Nat) : Int) = (((arA s.1 b).getD 0 : Nat) : Int) := e
    rw [ej, ek] at e
    have e : (j : Int) = (k : Int) := e
    have : j = k := by omega
    subst this
    have x := h.mt.f _ _ ej
    rw [h.mt.f _ _ ek] at x
    exact (Option.some.inj x).symm
  · obtain ⟨i, j, hi, e, rfl⟩ := (mem p).mp hp
    have n := nearS_mem.mp (h.mt.nr _ _ e)
    simp only [okP, Bool.and_eq_true, decide_eq_true_eq]
    exact ⟨⟨by omega, by omega⟩, ⟨by omega, by omega⟩, n.2⟩
  · cases hl : longB (lotB os (j : Int)) lag with
    | false => exact .inr rfl
    | true =>
      obtain ⟨k, e⟩ := Option.isSome_iff_exists.mp (h1 j hj hl)
      exact .inl (List.mem_map.mpr ⟨((j : Int), (k : Int)), (mem _).mpr ⟨j, k, hj, e, rfl⟩, rfl⟩)
  · cases hl : longB (lotB ts (j : Int)) lag with
    | false => exact .inr rfl
    | true =>
      obtain ⟨k, e⟩ := Option.isSome_iff_exists.mp (h2 j hj hl)
      have e' := h.mt.g _ _ e
      exact .inl (List.mem_map.mpr ⟨((k : Int), (j : Int)), (mem _).mpr ⟨k, j, by rw [← h.l1]; exact arA_lt e', e', rfl⟩, rfl⟩)
theorem pwF_ok (os ts : List Bar) (lag : Int) : match pwF os ts lag with
    | .inl pr => pairF os ts pr lag = true ∧ pr.length ≤ os.length
    | .inr (t, pl) => lonF (if t = true then ts else os) (if t = true then os else ts) pl lag = true ∧ pl.length ≤ (if t = true then ts else os).length := by
  have s0 : Sch os ts lag (emptA os.length, emptA ts.length) := ⟨by simp [emptA], by simp [emptA], ⟨fun i j e => absurd e (by rw [emptA_at]; exact fun z => by cases z), fun i j e => absurd e (by rw [emptA_at]; exact fun z => by cases z), fun i j e => absurd e (by rw [emptA_at]; exact fun z => by cases z)⟩⟩
  have ll : ∀ {n : Nat} {lg : Nat → Bool} {near : Nat → List Nat} {lot : List Nat}, Lnl n lg near lot → (srtN lot).length ≤ n := fun {n lg near lot} h => by
    show (srtA _ _).length ≤ n
    rw [srtA_len, List.length_map]
    have := len_leI (l := lot.map fun i : Nat => (i : Int)) (m := (List.range n).map fun i : Nat => (i : Int)) (List.pairwise_map.mpr (h.nd.imp fun {x y} h e => h (by omega))) fun x hx => by
      obtain ⟨i, hi, rfl⟩ := List.mem_map.mp hx
      exact List.mem_map.mpr ⟨i, List.mem_range.mpr (h.bd i hi), rfl⟩
    simpa using this
  unfold pwF
  rcases ph1_ok (List.range os.length) s0 List.nodup_range (fun i hi => ⟨List.mem_range.mp hi, emptA_at _ _⟩) (fun i h => absurd h (by rw [emptA_at]; exact fun z => by cases z)) with ⟨s1, e1, h1, _, m1⟩ | ⟨lot, e1, h1⟩
  · rw [e1]
    rcases ph2_ok (List.range ts.length) h1 (fun j hj => List.mem_range.mp hj) with ⟨s2, e2, h2, k1, _, k3⟩ | ⟨lot, e2, h2⟩
    · simp only [e2]
      refine ⟨h2.pg (fun i hi hl => k1 i (m1 i (List.mem_range.mpr hi) hl)) fun j hj hl => k3 j (List.mem_range.mpr hj) hl, ?_⟩
      unfold prsO
      rw [List.length_map]
      exact Nat.le_trans (List.length_filter_le _ _) (by simp)
    · simp only [e2]
      exact ⟨h2.lon fun i j hj hb => nearR_mem.mpr ⟨hj, by rw [nearB_comm]; exact hb⟩, ll h2⟩
  · simp only [e1]
    exact ⟨h1.lon fun i j hj hb => nearS_mem.mpr ⟨hj, hb⟩, ll h1⟩
/-! not both -/
theorem nodup_inj {α β : Type} {f : α → β} : ∀ {l : List α} {a b : α}, (l.map f).Nodup → a ∈ l → b ∈ l → f a = f b → a = b
  | x :: l, a, b, nd, ha, hb, e => by
    have nd' := List.nodup_cons.mp nd
    rcases List.mem_cons.mp ha with e1 | h1
    · rcases List.mem_cons.mp hb with e2 | h2
      · rw [e1, e2]
      · exact absurd (List.mem_map.mpr ⟨b, h2, by rw [← e, e1]⟩) nd'.1
    · rcases List.mem_cons.mp hb with e2 | h2
      · exact absurd (List.mem_map.mpr ⟨a, h1, by rw [e, e2]⟩) nd'.1
      · exact nodup_inj nd'.2 h1 h2 e
theorem PG.noLon {os ts : List Bar} {pr : List (Int × Int)} {lag d : Int} (h : PG os ts pr d) (hd : d ≤ lag) {pl : List Int} : lonF os ts pl lag = false := by
  cases e : lonF os ts pl lag with
  | false => rfl
  | true =>
    obtain ⟨a1, a2, a3, a4⟩ := lon_iff.mp e
    have hlong : ∀ b : Bar, longB b lag = true → longB b d = true := fun b hb => by
      unfold longB at hb ⊢
      split at hb
      · rfl
      · exact decide_eq_true (by have := of_decide_eq_true hb; omega)
    have hnear : ∀ b c : Bar, nearB b c d = true → nearB b c lag = true := fun b c hb => by
      obtain ⟨b0, b1⟩ := b
      obtain ⟨c0, c1⟩ := c
      cases b1 <;> cases c1 <;> simp [nearB] at hb ⊢ <;> omega
    -- each place of the lot has a partner of its own
    have mate : ∀ k ∈ pl, ∃ j : Int, (k, j) ∈ pr := fun k hk => by
      obtain ⟨n, hn, rfl⟩ := List.mem_iff_getElem.mp hk
      have e1 : pl.getD n 0 = pl[n] := by simp [List.getD, hn]
      have b := a2 n hn
      have l := a3 n hn
      rw [e1] at b l
      have en : ((pl[n].toNat : Nat) : Int) = pl[n] := Int.toNat_of_nonneg b.1
      rcases h.l1 pl[n].toNat (by omega) with z | z
      · rw [en] at z
        obtain ⟨p, hp, ep⟩ := List.mem_map.mp z
        exact ⟨p.2, by rw [← ep]; exact hp⟩
      · rw [en, hlong _ l] at z
        cases z
    have ndp : pl.Nodup := ((ascB_pw pl).mp (by
      have := e
      unfold lonF at this
      rw [Bool.and_eq_true, Bool.and_eq_true, Bool.and_eq_true] at this
      exact this.1.1.1)).imp fun {a b} (h : a < b) => by omega
    have hx : ∃ f : Int → Int, ∀ k ∈ pl, (k, f k) ∈ pr := by
      classical
      refine ⟨fun k => if h : ∃ j, (k, j) ∈ pr then h.choose else 0, fun k hk => ?_⟩
      have := mate k hk
      show (k, if h : ∃ j, (k, j) ∈ pr then h.choose else 0) ∈ pr
      rw [dif_pos this]
      exact this.choose_spec
    obtain ⟨f, hf⟩ := hx
    have inj : ∀ k ∈ pl, ∀ k' ∈ pl, f k = f k' → k = k' := fun k hk k' hk' ef => by
      exact congrArg Prod.fst (nodup_inj h.n2 (hf k hk) (hf k' hk') ef)
    have cnt := len_leI (l := pl.map f) (m := ((List.range ts.length).filter fun k : Nat => pl.any fun p => nearB (lotB os p) (lotB ts (k : Int)) lag).map fun k : Nat => (k : Int)) (by
      rw [List.Nodup, List.pairwise_map]
      exact List.Pairwise.imp_of_mem (fun {a b} ha hb ne e => ne (inj a ha b hb e)) ndp) fun x hx => by
      obtain ⟨k, hk, rfl⟩ := List.mem_map.mp hx
      have o := h.ok _ (hf k hk)
      simp only [okP, Bool.and_eq_true, decide_eq_true_eq] at o
      have en : (((f k).toNat : Nat) : Int) = f k := Int.toNat_of_nonneg o.2.1.1
      exact List.mem_map.mpr ⟨(f k).toNat, List.mem_filter.mpr ⟨List.mem_range.mpr (by omega), List.any_eq_true.mpr ⟨k, hk, by rw [en]; exact hnear _ _ o.2.2⟩⟩, en⟩
    unfold parF at a4
    rw [filt_len] at a4
    rw [List.length_map, List.length_map] at cnt
    omega
/-! ### the search's own object -/
def schF (fx sx : V) (lag : Int) (a1 a2 : Addr) : List (Str × V) := [("first", fx), ("second", sx), ("lag", .int lag), ("ours", .ref a1), ("theirs", .ref a2)]
def IsSch (K : PySem.W.Frag) (G : Hp) (C x : Addr) (k : Bool) (os ts : List Bar) (lag : Int) (a1 a2 : Addr) : Prop := ∃ dx fx sx, G x = some (.ins C dx (schF fx sx lag a1 a2)) ∧ Rp K G fx (seqD k (os.map barD)) ∧ Rp K G sx (seqD k (ts.map barD)) ∧ os.length ≤ 1000 ∧ ts.length ≤ 1000
theorem IsSch.up {G G' : Hp} {C x : Addr} {k : Bool} {os ts : List Bar} {lag : Int} {a1 a2 : Addr} (e : Same G G') (h : IsSch K G C x k os ts lag a1 a2) : IsSch K G' C x k os ts lag a1 a2 := by
  obtain ⟨dx, fx, sx, h1, h2, h3, h4⟩ := h
  exact ⟨dx, fx, sx, e _ _ h1, h2.up e, h3.up e, h4⟩
theorem rep_non (n : Nat) : (List.replicate n [V.non]).flatten = (emptA n).map oV := by
  unfold emptA
  rw [List.map_replicate]
  induction n with
  | zero => rfl
  | succ n ih => simp [List.replicate_succ, ih, oV]
def spSearch (K : PySem.W.Frag) (C : Addr) : Sp := fun vs H Q _ => ∃ (x dx : Addr) (fx sx : V) (lag : Int) (k : Bool) (G : Hp) (os ts : List Bar), vs = [.ref x, fx, sx, .int lag] ∧ Same G H ∧ G x = none ∧ H x = some (.ins C dx []) ∧ Rp K G fx (seqD k (os.map barD)) ∧ Rp K G sx (seqD k (ts.map barD)) ∧ os.length ≤ 1000 ∧ ts.length ≤ 1000 ∧
  ∀ a1 a2 G1 H1, Adv [x] G H G1 H1 → G1 x = none → H1 x = some (.ins C dx (schF fx sx lag a1 a2)) → H a1 = none → H a2 = none → a1 ≠ a2 → G1 a1 = none → G1 a2 = none → H1 a1 = some (.lst ((emptA os.length).map oV)) → H1 a2 = some (.lst ((emptA ts.length).map oV)) → Q .non H1
theorem ok_Search_init (T : Txt K mg A) : FnOk P w K mg base CX0 1 A.f_Search_init A.d_Search_init ["self", "first", "second", "lag"] (spSearch K A.C_Search) := by
  refine T.F_Search_init.ok sc_Search_init (fun vs H Q E h => by first | (obtain ⟨rfl, _⟩ := h; rfl) | (obtain ⟨_, rfl, _⟩ := h; rfl) | (obtain ⟨_, _, rfl, _⟩ := h; rfl) | (obtain ⟨_, _, _, rfl, _⟩ := h; rfl) | (obtain ⟨_, _, _, _, rfl, _⟩ := h; rfl) | (obtain ⟨_, _, _, _, _, rfl, _⟩ := h; rfl) | (obtain ⟨_, _, _, _, _, _, rfl, _⟩ := h; rfl) | (obtain ⟨_, _, _, _, _, _, _, rfl, _⟩ := h; rfl) | (obtain ⟨_, _, _, _, _, _, _, _, rfl, _⟩ := h; rfl) | (obtain ⟨_, _, _, _, _, _, _, _, _, rfl, _⟩ := h; rfl) | (obtain ⟨_, _, _, _, _, _, _, _, _, _, rfl, _⟩ := h; rfl) | (obtain ⟨_, _, _, _, _, _, _, _, _, _, _, rfl, _⟩ := h; rfl) | (obtain ⟨_, _, _, _, _, _, _, _, _, _, _, _, rfl, _⟩ := h; rfl) | (obtain ⟨_, _, _, _, _, _, _, _, _, _, _, _, _, rfl, _⟩ := h; rfl) | exact wk_len h) (fun cdv AA outer s H vs Q E hr h => ?_)
  obtain ⟨x, dx, fx, sx, lag, k, G, os, ts, rfl, hG, hgx, hx, hf, hs, l1, l2, q⟩ := h
  have cl := T.cl_Search
  have n1 := T.na_Search_first
  have n2 := T.na_Search_second
  have n3 := T.na_Search_lag
  have n4 := T.na_Search_ours
  have n5 := T.na_Search_theirs
  refine ⟨_, (pss_cons (ps_fld (pv 0) (pv 1) rfl)
      (pss_cons (ps_fld (pv 0) (pv 2) rfl)
      (pss_cons (ps_fld (pv 0) (pv 3) rfl)
      (pss_cons (ps_fld (pv 0) (pe_op op_rep (pe_lst (pa_cons pe_non pa_nil)) (pe_callB (id := "len") b_len (by rfl) T.z_len (by decide +kernel) (pa_cons (pv 1) pa_nil))) rfl)
      (pss_one (ps_fld (pv 0) (pe_op op_rep (pe_lst (pa_cons pe_non pa_nil)) (pe_callB (id := "len") b_len (by rfl) T.z_len (by decide +kernel) (pa_cons (pv 2) pa_nil))) rfl)))))), ?_⟩
  try dsimp only [cxOf, Cx.nox, Cx.wish, Cx.blk]
  have hS := Sta.start1 (K := K) hG hx hgx
  have m1 : (os.map barD).length = os.length := List.length_map ..
  have m2 : (ts.map barD).length = ts.length := List.length_map ..
  refine go_start (σ := [some (.ref x), some fx, some sx, some (.int lag)]) rfl ?_
  walk_at "go"
  rename_i Hx hSx
  refine go_newR hSx (by simp) fun p3 G3 H3 e3 hS3 hp3 => ?_
  have hf3 := hf.up e3
  walk_at "go"
  rw [m1]
  refine go_repM hS3 (hS3.gh _ _ hp3) (by omega) (by omega) (by simp; omega) fun L1 H4 l1' g1 hS4 => ?_
  rw [Int.toNat_natCast, rep_non] at hS4
  walk_at "go"
  refine go_sfk (i := 1) hS4 rfl cl n4 putF3 rfl fun H5 hS5 => ?_
  simp only [List.set_cons_succ, List.set_cons_zero] at hS5
  walk_at "go"
  refine go_newR hS5 (by simp) fun p6 G6 H6 e6 hS6 hp6 => ?_
  have hs6 := (hs.up e3).up e6
  walk_at "go"
  rw [m2]
  refine go_repM hS6 (hS6.gh _ _ hp6) (by omega) (by omega) (by simp; omega) fun L2 H7 l2' g2 hS7 => ?_
  rw [Int.toNat_natCast, rep_non] at hS7
  walk_at "go"
  refine go_sfk (i := 2) hS7 rfl cl n5 (by first | exact (by decide : (4 : Nat) < 1000) | simp [putF]) rfl fun H8 hS8 => ?_
  simp only [List.set_cons_succ, List.set_cons_zero] at hS8
  walk_at "go"
  have ef : putF "theirs" (V.ref L2) (putF "ours" (V.ref L1) (putF "lag" (V.int lag) (putF "second" sx (putF "first" fx [])))) = schF fx sx lag L1 L2 := by first | rfl | simp [putF, schF]
  rw [ef] at hS8
  have nd := hS8.md
  simp only [List.map_cons, List.map_nil, List.nodup_cons, List.mem_cons, List.not_mem_nil, or_false, not_or] at nd
  have g1' := (hS8.mh (L1, .lst ((emptA os.length).map oV)) (by simp)).2.1
  have g2' := (hS8.mh (L2, .lst ((emptA ts.length).map oV)) (by simp)).2.1
  have g3' := (hS8.mh (x, .ins A.C_Search dx (schF fx sx lag L1 L2)) (by simp)).2.1
  exact q L1 L2 _ _ hS8.adv g3' (hS8.get (i := 2) rfl) l1' l2' (fun e => nd.1.1 e.symm) g1' g2' (hS8.get (i := 1) rfl) (hS8.get (i := 0) rfl)
theorem go_search {A : Ad} {G0 H0 G H : Hp} {D : List Addr} {M : List (Addr × HO)} {Q : VK} {E : XK} {fx sx : V} {lag : Int} {k : Bool} {os ts : List Bar} (hS : Sta K G0 H0 D G M H) (hf : Rp K G fx (seqD k (os.map barD))) (hs : Rp K G sx (seqD k (ts.map barD))) (l1 : os.length ≤ 1000) (l2 : ts.length ≤ 1000)
    (q : ∀ x a1 a2 G1 H1, Same G G1 → a1 ≠ a2 → Sta K G0 H0 D G1 ((a1, .lst ((emptA os.length).map oV)) :: (a2, .lst ((emptA ts.length).map oV)) :: M) H1 → IsSch K G1 A.C_Search x k os ts lag a1 a2 → Q (.ref x) H1) : MKS A.C_Search (spSearch K A.C_Search) E Q [fx, sx, .int lag] H := by
  refine go_mks hS fun x dx G1 H1 e1 x0 hS1 => ?_
  have hx1 := hS1.get (i := 0) rfl
  refine ⟨x, dx, fx, sx, lag, k, G1, os, ts, rfl, hS1.gh, (hS1.mh _ List.mem_cons_self).2.1, hx1, hf.up e1, hs.up e1, l1, l2, fun a1 a2 G2 H2 ad hg hx h1 h2 n g1 g2 k1 k2 => ⟨rfl, ?_⟩⟩
  have hS2 := hS1.callM (i := 0) rfl ad hx
  obtain ⟨hS3, e3⟩ := hS2.frz x0
  have n1 : a1 ≠ x := fun e => by rw [e, hx1] at h1; cases h1
  have n2 : a2 ≠ x := fun e => by rw [e, hx1] at h2; cases h2
  have fr : ∀ p, H1 p = none → ∀ r ∈ M, r.1 ≠ p := fun p hp r hr e => by
    have := (hS1.mh r (List.mem_cons_of_mem _ hr)).1
    rw [e, hp] at this
    cases this
  have hS4 := hS3.adopt (p := a2) (o := .lst ((emptA ts.length).map oV)) k2 (by rw [upd_ne n2]; exact g2) (hS1.h0 h2) (fr a2 h2)
  have hS5 := hS4.adopt (p := a1) (o := .lst ((emptA os.length).map oV)) k1 (by rw [upd_ne n1]; exact g1) (hS1.h0 h1) (fun r hr => by
    rcases List.mem_cons.mp hr with rfl | hr
    · exact fun e => n e.symm
    · exact fr a1 h1 r hr)
  have ee := e1.trans (ad.gg.trans e3)
  exact q x a1 a2 _ _ ee n hS5 ⟨dx, fx, sx, upd_same, hf.up ee, hs.up ee, l1, l2⟩
/-! ### marry -/
def spMarry (K : PySem.W.Frag) (C : Addr) : Sp := fun vs H Q _ => ∃ (x : Addr) (i j : Nat) (k : Bool) (G : Hp) (os ts : List Bar) (lag : Int) (a1 a2 : Addr) (o t : Ar), vs = [.ref x, .int (i : Int), .int (j : Int)] ∧ Same G H ∧ IsSch K G C x k os ts lag a1 a2 ∧ G a1 = none ∧ G a2 = none ∧ a1 ≠ a2 ∧ H a1 = some (.lst (o.map oV)) ∧ H a2 = some (.lst (t.map oV)) ∧ i < o.length ∧ j < t.length ∧
  ∀ G1 H1, Adv [a1, a2] G H G1 H1 → H1 a1 = some (.lst ((o.set i (some j)).map oV)) → H1 a2 = some (.lst ((t.set j (some i)).map oV)) → Q .non H1
theorem ok_Search_marry (T : Txt K mg A) : FnOk P w K mg base CX0 1 A.f_Search_marry A.d_Search_marry ["self", "one", "other"] (spMarry K A.C_Search) := by
  refine T.F_Search_marry.ok sc_Search_marry (fun vs H Q E h => by first | (obtain ⟨rfl, _⟩ := h; rfl) | (obtain ⟨_, rfl, _⟩ := h; rfl) | (obtain ⟨_, _, rfl, _⟩ := h; rfl) | (obtain ⟨_, _, _, rfl, _⟩ := h; rfl) | (obtain ⟨_, _, _, _, rfl, _⟩ := h; rfl) | (obtain ⟨_, _, _, _, _, rfl, _⟩ := h; rfl) | (obtain ⟨_, _, _, _, _, _, rfl, _⟩ := h; rfl) | (obtain ⟨_, _, _, _, _, _, _, rfl, _⟩ := h; rfl) | (obtain ⟨_, _, _, _, _, _, _, _, rfl, _⟩ := h; rfl) | (obtain ⟨_, _, _, _, _, _, _, _, _, rfl, _⟩ := h; rfl) | (obtain ⟨_, _, _, _, _, _, _, _, _, _, rfl, _⟩ := h; rfl) | (obtain ⟨_, _, _, _, _, _, _, _, _, _, _, rfl, _⟩ := h; rfl) | (obtain ⟨_, _, _, _, _, _, _, _, _, _, _, _, rfl, _⟩ := h; rfl) | (obtain ⟨_, _, _, _, _, _, _, _, _, _, _, _, _, rfl, _⟩ := h; rfl) | exact wk_len h) (fun cdv AA outer s H vs Q E hr h => ?_)
  obtain ⟨x, i, j, k, G, os, ts, lag, a1, a2, o, t, rfl, hG, ⟨dx, fx, sx, hx, hf, hs, b1, b2⟩, g1, g2, hn, h1, h2, li, lj, q⟩ := h
  have cl := T.cl_Search
  have n4 := T.na_Search_ours
  have n5 := T.na_Search_theirs
  refine ⟨_, (pss_cons (ps_asg (pv 2) (pg_sub (pe_fld (pv 0) rfl) (pv 1) set_list))
      (pss_one (ps_asg (pv 1) (pg_sub (pe_fld (pv 0) rfl) (pv 2) set_list)))), ?_⟩
  try dsimp only [cxOf, Cx.nox, Cx.wish, Cx.blk]
  have hS := Sta.start2 (K := K) hG h1 h2 g1 g2 hn
  refine go_start (σ := [some (.ref x), some (.int (i : Int)), some (.int (j : Int))]) rfl ?_
  walk_at "go"
  refine go_fldI hx hS.gh cl n4 rfl ?_
  walk_at "go"
  refine go_setO (n := 0) (o := some j) hS rfl li rfl rfl fun H3 hS3 => ?_
  simp only [List.set_cons_succ, List.set_cons_zero] at hS3
  walk_at "go"
  refine go_fldI hx hS3.gh cl n5 rfl ?_
  walk_at "go"
  refine go_setO (n := 1) (o := some i) hS3 rfl lj rfl rfl fun H4 hS4 => ?_
  simp only [List.set_cons_succ, List.set_cons_zero] at hS4
  walk_at "go"
  exact q _ _ hS4.adv (hS4.get (i := 0) rfl) (hS4.get (i := 1) rfl)
theorem go_marry {A : Ad} {G0 H0 G H : Hp} {D : List Addr} {M : List (Addr × HO)} {Q : VK} {E : XK} {x a1 a2 : Addr} {i j n1 n2 : Nat} {k : Bool} {os ts : List Bar} {lag : Int} {o t : Ar} (hS : Sta K G0 H0 D G M H) (hx : IsSch K G A.C_Search x k os ts lag a1 a2) (h1 : M[n1]? = some (a1, .lst (o.map oV))) (h2 : M[n2]? = some (a2, .lst (t.map oV))) (hn : a1 ≠ a2) (li : i < o.length) (lj : j < t.length)
    (q : ∀ G1 H1, Same G G1 → Sta K G0 H0 D G1 ((M.set n1 (a1, .lst ((o.set i (some j)).map oV))).set n2 (a2, .lst ((t.set j (some i)).map oV))) H1 → Q .non H1) : spMarry K A.C_Search [.ref x, .int (i : Int), .int (j : Int)] H Q E :=
  ⟨x, i, j, k, G, os, ts, lag, a1, a2, o, t, rfl, hS.gh, hx, (hS.mh _ (List.mem_of_getElem? h1)).2.1, (hS.mh _ (List.mem_of_getElem? h2)).2.1, hn, hS.get h1, hS.get h2, li, lj, fun G1 H1 ad k1 k2 => q G1 H1 ad.gg (hS.callM2 h1 h2 hn ad k1 k2)⟩
def nD (k : Nat) : Dt := .int (k : Int)
/-! ### near places -/
def spNearS (K : PySem.W.Frag) (C : Addr) (tw : Bool) : Sp := fun vs H Q _ => ∃ (x : Addr) (i : Nat) (k : Bool) (G : Hp) (os ts : List Bar) (lag : Int) (a1 a2 : Addr), vs = [.ref x, .int (i : Int)] ∧ Same G H ∧ IsSch K G C x k os ts lag a1 a2 ∧ i < (if tw = true then ts else os).length ∧
  ∀ p G1 H1, Adv [] G H G1 H1 → Rp K G1 (.ref p) (.lst ((if tw = true then nearR os ts lag i else nearS os ts lag i).map nD)) → Q (.ref p) H1
theorem ok_Search_near_second (T : Txt K mg A) : FnOk P w K mg base CX0 3 A.f_Search_near_second A.d_Search_near_second ["self", "one"] (spNearS K A.C_Search false) := by
  have G_are_near := ok_are_near (P := P) (w := w) (base := base) T
  refine T.F_Search_near_second.ok sc_Search_near_second (fun vs H Q E h => by first | (obtain ⟨rfl, _⟩ := h; rfl) | (obtain ⟨_, rfl, _⟩ := h; rfl) | (obtain ⟨_, _, rfl, _⟩ := h; rfl) | (obtain ⟨_, _, _, rfl, _⟩ := h; rfl) | (obtain ⟨_, _, _, _, rfl, _⟩ := h; rfl) | (obtain ⟨_, _, _, _, _, rfl, _⟩ := h; rfl) | (obtain ⟨_, _, _, _, _, _, rfl, _⟩ := h; rfl) | (obtain ⟨_, _, _, _, _, _, _, rfl, _⟩ := h; rfl) | (obtain ⟨_, _, _, _, _, _, _, _, rfl, _⟩ := h; rfl) | (obtain ⟨_, _, _, _, _, _, _, _, _, rfl, _⟩ := h; rfl) | (obtain ⟨_, _, _, _, _, _, _, _, _, _, rfl, _⟩ := h; rfl) | (obtain ⟨_, _, _, _, _, _, _, _, _, _, _, rfl, _⟩ := h; rfl) | (obtain ⟨_, _, _, _, _, _, _, _, _, _, _, _, rfl, _⟩ := h; rfl) | (obtain ⟨_, _, _, _, _, _, _, _, _, _, _, _, _, rfl, _⟩ := h; rfl) | exact wk_len h) (fun cdv AA outer s H vs Q E hr h => ?_)
  obtain ⟨x, i, k, G, os, ts, lag, a1, a2, rfl, hG, ⟨dx, fx, sx, hx, hf, hs, b1, b2⟩, li, q⟩ := h
  have li : i < os.length := li
  have cl := T.cl_Search
  have n1 := T.na_Search_first
  have n2 := T.na_Search_second
  have n3 := T.na_Search_lag
  refine ⟨_, (pss_one (ps_ret (pe_lc (own := [("place", 2), ("bar", 3)]) (g := gTup K 2 (gCons (gName 2) (gCons (gName 3) gNil))) rfl sc_Search_near_second.nd (pi_enumA (by rfl) T.z_enumerate (pa_cons (pe_fld (pv 0) rfl) pa_nil)) (blkOk_by (N := ["self", "one", "place", "bar"]) (sc := defScope s_Search_near_second) (by decide +kernel)) (fun _ _ _ _ _ => pg_tup (by rfl) (pgs_cons (pg_name (i := 2) sc_Search_near_second.nd rfl (by first | exact Or.inl rfl | exact Or.inr rfl)) (pgs_cons (pg_name (i := 3) sc_Search_near_second.nd rfl (by first | exact Or.inl rfl | exact Or.inr rfl)) pgs_nil))) (fun _ _ _ _ _ => (pts_one (pt_val (pe_callN G_are_near (hr.mono (by first | decide | omega)) (by rfl) T.m_are_near T.F_are_near.kp T.k2_are_near pass0 (pa_cons (pe_ix (show IxR _ (rIx K) from ix_seq) (show PE _ _ (tFld K _ _) from pe_fld (pv 0) rfl) (pv 1) (fun _ _ => rfl)) (pa_cons (pv 3) pa_nil)) (pk_cons (show PE _ _ (tFld K _ _) from pe_fld (pv 0) rfl) pk_nil))))) (fun _ _ _ _ _ => (pv 2))))), ?_⟩
  try dsimp only [cxOf, Cx.nox, Cx.wish, Cx.blk]
  have hS := Sta.start (K := K) hG
  refine go_start (σ := [some (.ref x), some (.int (i : Int)), none, none]) rfl ?_
  walk_at "go"
  refine go_fldI hx hS.gh cl n2 rfl ?_
  walk_at "go"
  refine go_etkK hs hS.gh fun a xs ea hq hr => ?_
  cases ea
  refine lcFiltE (k := k) (as := ts) (Da := barD) (p := fun j => nearB (lotB os (i : Int)) (lotB ts (j : Int)) lag) (F := nD) hS hq hr (by omega) ?_ ?_
  · intro j z c L3 G3 vs3 es3 H3 Z Z0 hj hc hz e3 l3 hS3 hvs3 fin3 fin30 σ2 eσ
    have ec : lotB ts (j : Int) = c := by
      unfold lotB
      rw [Int.toNat_natCast, List.getD, hc]
      rfl
    rw [ec] at fin3 fin30
    subst eσ
    simp only [wipe, List.set_cons_zero, List.set_cons_succ, List.map_cons, List.map_nil, List.foldl_cons, List.foldl_nil]
    refine ⟨trivial, ?_⟩
    have hx3 := e3 _ _ hx
    walk_at "go"
    refine go_fldI hx3 hS3.gh cl n1 rfl ?_
    walk_at "go"
    refine go_ixK (hf.up e3) hS3.gh (lotB_at (by omega) (by omega)) fun v1 hv1 => ?_
    walk_at "go"
    refine go_fldI hx3 hS3.gh cl n3 rfl ?_
    walk_at "go"
    refine go_near hS3 hv1 hz ?_
    walk_at "go"
    refine go_iteB (fun hb => ?_) (fun hb => ?_)
    · walk_at "go"
      exact fin3 hb _ _ _ (Same.refl _) hS3 (.int _)
    · exact fin30 hb _ _ (Same.refl _) hS3
  intro p3 G3 H3 e3 hS3 hr3
  walk_at "go"
  exact q _ _ _ (Sta.adv (by assumption)) (by assumption)
theorem ok_Search_near_first (T : Txt K mg A) : FnOk P w K mg base CX0 3 A.f_Search_near_first A.d_Search_near_first ["self", "other"] (spNearS K A.C_Search true) := by
  have G_are_near := ok_are_near (P := P) (w := w) (base := base) T
  refine T.F_Search_near_first.ok sc_Search_near_first (fun vs H Q E h => by first | (obtain ⟨rfl, _⟩ := h; rfl) | (obtain ⟨_, rfl, _⟩ := h; rfl) | (obtain ⟨_, _, rfl, _⟩ := h; rfl) | (obtain ⟨_, _, _, rfl, _⟩ := h; rfl) | (obtain ⟨_, _, _, _, rfl, _⟩ := h; rfl) | (obtain ⟨_, _, _, _, _, rfl, _⟩ := h; rfl) | (obtain ⟨_, _, _, _, _, _, rfl, _⟩ := h; rfl) | (obtain ⟨_, _, _, _, _, _, _, rfl, _⟩ := h; rfl) | (obtain ⟨_, _, _, _, _, _, _, _, rfl, _⟩ := h; rfl) | (obtain ⟨_, _, _, _, _, _, _, _, _, rfl, _⟩ := h; rfl) | (obtain ⟨_, _, _, _, _, _, _, _, _, _, rfl, _⟩ := h; rfl) | (obtain ⟨_, _, _, _, _, _, _, _, _, _, _, rfl, _⟩ := h; rfl) | (obtain ⟨_, _, _, _, _, _, _, _, _, _, _, _, rfl, _⟩ := h; rfl) | (obtain ⟨_, _, _, _, _, _, _, _, _, _, _, _, _, rfl, _⟩ := h; rfl) | exact wk_len h) (fun cdv AA outer s H vs Q E hr h => ?_)
  obtain ⟨x, i, k, G, os, ts, lag, a1, a2, rfl, hG, ⟨dx, fx, sx, hx, hf, hs, b1, b2⟩, li, q⟩ := h
  have li : i < ts.length := li
  have cl := T.cl_Search
  have n1 := T.na_Search_first
  have n2 := T.na_Search_second
  have n3 := T.na_Search_lag
  refine ⟨_, (pss_one (ps_ret (pe_lc (own := [("place", 2), ("bar", 3)]) (g := gTup K 2 (gCons (gName 2) (gCons (gName 3) gNil))) rfl sc_Search_near_first.nd (pi_enumA (by rfl) T.z_enumerate (pa_cons (pe_fld (pv 0) rfl) pa_nil)) (blkOk_by (N := ["self", "other", "place", "bar"]) (sc := defScope s_Search_near_first) (by decide +kernel)) (fun _ _ _ _ _ => pg_tup (by rfl) (pgs_cons (pg_name (i := 2) sc_Search_near_first.nd rfl (by first | exact Or.inl rfl | exact Or.inr rfl)) (pgs_cons (pg_name (i := 3) sc_Search_near_first.nd rfl (by first | exact Or.inl rfl | exact Or.inr rfl)) pgs_nil))) (fun _ _ _ _ _ => (pts_one (pt_val (pe_callN G_are_near (hr.mono (by first | decide | omega)) (by rfl) T.m_are_near T.F_are_near.kp T.k2_are_near pass0 (pa_cons (pv 3) (pa_cons (pe_ix (show IxR _ (rIx K) from ix_seq) (show PE _ _ (tFld K _ _) from pe_fld (pv 0) rfl) (pv 1) (fun _ _ => rfl)) pa_nil)) (pk_cons (show PE _ _ (tFld K _ _) from pe_fld (pv 0) rfl) pk_nil))))) (fun _ _ _ _ _ => (pv 2))))), ?_⟩
  try dsimp only [cxOf, Cx.nox, Cx.wish, Cx.blk]
  have hS := Sta.start (K := K) hG
  refine go_start (σ := [some (.ref x), some (.int (i : Int)), none, none]) rfl ?_
  walk_at "go"
  refine go_fldI hx hS.gh cl n1 rfl ?_
  walk_at "go"
  refine go_etkK hf hS.gh fun a xs ea hq hr => ?_
  cases ea
  refine lcFiltE (k := k) (as := os) (Da := barD) (p := fun j => nearB (lotB os (j : Int)) (lotB ts (i : Int)) lag) (F := nD) hS hq hr (by omega) ?_ ?_
  · intro j z c L3 G3 vs3 es3 H3 Z Z0 hj hc hz e3 l3 hS3 hvs3 fin3 fin30 σ2 eσ
    have ec : lotB os (j : Int) = c := by
      unfold lotB
      rw [Int.toNat_natCast, List.getD, hc]
      rfl
    rw [ec] at fin3 fin30
    subst eσ
    simp only [wipe, List.set_cons_zero, List.set_cons_succ, List.map_cons, List.map_nil, List.foldl_cons, List.foldl_nil]
    refine ⟨trivial, ?_⟩
    have hx3 := e3 _ _ hx
    walk_at "go"
    refine go_fldI hx3 hS3.gh cl n2 rfl ?_
    walk_at "go"
    refine go_ixK (hs.up e3) hS3.gh (lotB_at (by omega) (by omega)) fun v1 hv1 => ?_
    walk_at "go"
    refine go_fldI hx3 hS3.gh cl n3 rfl ?_
    walk_at "go"
    refine go_near hS3 hz hv1 ?_
    walk_at "go"
    refine go_iteB (fun hb => ?_) (fun hb => ?_)
    · walk_at "go"
      exact fin3 hb _ _ _ (Same.refl _) hS3 (.int _)
    · exact fin30 hb _ _ (Same.refl _) hS3
  intro p3 G3 H3 e3 hS3 hr3
  walk_at "go"
  exact q _ _ _ (Sta.adv (by assumption)) (by assumption)
theorem go_nearS {A : Ad} {tw : Bool} {G0 H0 G H : Hp} {D : List Addr} {M : List (Addr × HO)} {Q : VK} {E : XK} {x a1 a2 : Addr} {i : Nat} {k : Bool} {os ts : List Bar} {lag : Int} (hS : Sta K G0 H0 D G M H) (hx : IsSch K G A.C_Search x k os ts lag a1 a2) (li : i < (if tw = true then ts else os).length)
    (q : ∀ p G1 H1, Same G G1 → Sta K G0 H0 D G1 M H1 → Rp K G1 (.ref p) (.lst ((if tw = true then nearR os ts lag i else nearS os ts lag i).map nD)) → Q (.ref p) H1) : spNearS K A.C_Search tw [.ref x, .int (i : Int)] H Q E :=
  ⟨x, i, k, G, os, ts, lag, a1, a2, rfl, hS.gh, hx, li, fun p G1 H1 ad r => q p G1 H1 ad.gg (hS.call ad) r⟩
/-! ### changed ways turned -/
theorem turn_step {came : List (Nat × Nat)} {f k i : Nat} {a b : Ar} (lk : came.lookup k = some i) : turnF came (f + 1) a b k = match arA a i with
    | none => (a.set i (some k), b.set k (some i))
    | some k' => turnF came f (a.set i (some k)) (b.set k (some i)) k' := by
  rw [turnF, lk]
  rfl
def spTurn1 (K : PySem.W.Frag) (C : Addr) : Sp := fun vs H Q _ => ∃ (x c : Addr) (k : Nat), vs = [.ref x, .ref c, .int (k : Int)] ∧ ∃ (came : List (Nat × Nat)) (f : Nat) (kk : Bool) (G : Hp) (os ts : List Bar) (lag : Int) (a1 a2 : Addr) (o t : Ar), Same G H ∧ IsSch K G C x kk os ts lag a1 a2 ∧ G c = some (.dK (cameK came)) ∧ G a1 = none ∧ G a2 = none ∧ a1 ≠ a2 ∧ H a1 = some (.lst (o.map oV)) ∧ H a2 = some (.lst (t.map oV)) ∧ TurnR came f o t k ∧
  ∀ G1 H1, Adv [a1, a2] G H G1 H1 → H1 a1 = some (.lst ((turnF came f o t k).1.map oV)) → H1 a2 = some (.lst ((turnF came f o t k).2.map oV)) → Q .non H1
theorem ok_Search_turn_first (T : Txt K mg A) : FnOk P w K mg base CX0 2 A.f_Search_turn_first A.d_Search_turn_first ["self", "came", "other"] (spTurn1 K A.C_Search) := by
  have G_Search_marry := ok_Search_marry (P := P) (w := w) (base := base) T
  refine T.F_Search_turn_first.ok sc_Search_turn_first (fun vs H Q E h => by first | (obtain ⟨rfl, _⟩ := h; rfl) | (obtain ⟨_, rfl, _⟩ := h; rfl) | (obtain ⟨_, _, rfl, _⟩ := h; rfl) | (obtain ⟨_, _, _, rfl, _⟩ := h; rfl) | (obtain ⟨_, _, _, _, rfl, _⟩ := h; rfl) | (obtain ⟨_, _, _, _, _, rfl, _⟩ := h; rfl) | (obtain ⟨_, _, _, _, _, _, rfl, _⟩ := h; rfl) | (obtain ⟨_, _, _, _, _, _, _, rfl, _⟩ := h; rfl) | (obtain ⟨_, _, _, _, _, _, _, _, rfl, _⟩ := h; rfl) | (obtain ⟨_, _, _, _, _, _, _, _, _, rfl, _⟩ := h; rfl) | (obtain ⟨_, _, _, _, _, _, _, _, _, _, rfl, _⟩ := h; rfl) | (obtain ⟨_, _, _, _, _, _, _, _, _, _, _, rfl, _⟩ := h; rfl) | (obtain ⟨_, _, _, _, _, _, _, _, _, _, _, _, rfl, _⟩ := h; rfl) | (obtain ⟨_, _, _, _, _, _, _, _, _, _, _, _, _, rfl, _⟩ := h; rfl) | exact wk_len h) (fun cdv AA outer s H vs Q E hr h => ?_)
  obtain ⟨x, c, k, rfl, came, f, kk, G, os, ts, lag, a1, a2, o, t, hG, hx, hc, g1, g2, hn, h1, h2, tr, q⟩ := h
  have cl := T.cl_Search
  have n4 := T.na_Search_ours
  have n5 := T.na_Search_theirs
  refine ⟨_, (pss_one (ps_while PassesOwn.never (pt_cmp (pc_notN (pv 2))) (pss_cons (ps_set (i := 3) sc_Search_turn_first.nd rfl (by first | exact Or.inl rfl | exact Or.inr rfl) (pe_dget (Nat.lt_trans (Nat.add_lt_add_left (by decide) _) hr.units) (pv 1) (pv 2) (fun _ _ => rfl)))
      (pss_cons (ps_set (i := 4) sc_Search_turn_first.nd rfl (by first | exact Or.inl rfl | exact Or.inr rfl) (pe_ix ix_seq (pe_fld (pv 0) rfl) (pv 3) (fun _ _ => rfl)))
      (pss_cons (ps_expr (pe_methS (E := fun _ _ _ _ => False) (pv 0) T.cl_Search T.me_Search_marry G_Search_marry (hr.mono (by first | decide | omega)) T.b_Search_marry (fun σ => pass0S σ) (pa_cons (pv 3) (pa_cons (pv 2) pa_nil))))
      (pss_one (ps_set (i := 2) sc_Search_turn_first.nd rfl (by first | exact Or.inl rfl | exact Or.inr rfl) (pv 4)))))))), ?_⟩
  try dsimp only [cxOf, Cx.nox, Cx.wish, Cx.blk]
  have hS := Sta.start2 (K := K) hG h1 h2 g1 g2 hn
  refine go_start (σ := [some (.ref x), some (.ref c), some (.int (k : Int)), none, none]) rfl ?_
  walk_at "to"
  refine whileS hS (fun m σ G1 M1 => ∃ w u v o' t', M1 = [(a1, .lst (o'.map oV)), (a2, .lst (t'.map oV))] ∧ σ = [some (.ref x), some (.ref c), some w, u, v] ∧ ((w = .non ∧ (o', t') = turnF came f o t k) ∨ ∃ k' : Nat, w = .int (k' : Int) ∧ TurnR came m o' t' k' ∧ turnF came m o' t' k' = turnF came f o t k)) f ⟨_, _, _, o, t, rfl, rfl, .inr ⟨k, rfl, tr, rfl⟩⟩ ?_
  rintro m σ' G1 M1 H1 e1 hS1 ⟨w, u, v, o', t', rfl, rfl, ⟨rfl, eT⟩ | ⟨k', rfl, tr', eT⟩⟩
  · walk_at "go"
    refine WhQ.ff rfl ?_
    walk_at "go"
    rw [← eT] at q
    exact q _ _ hS1.adv (hS1.get (i := 0) rfl) (hS1.get (i := 1) rfl)
  · walk_at "go"
    refine WhQ.tt rfl ?_
    cases m with
    | zero => exact absurd tr' id
    | succ m =>
      obtain ⟨i, lk, ia, kb, hor⟩ := tr'
      rw [turn_step lk] at eT
      have hx1 := hx.up e1
      walk_at "go"
      refine go_dgK (e1 _ _ hc) hS1.gh lk ?_
      walk_at "go"
      have hx1' := hx1
      obtain ⟨dx, fx, sx, hxx, hf, hs, b1, b2⟩ := hx1
      refine go_fldI hxx hS1.gh cl n4 rfl ?_
      walk_at "go"
      refine go_ixO (n := 0) hS1 rfl ia ?_
      walk_at "go"
      refine go_mtkI hxx hS1.gh rfl ?_
      walk_at "go"
      refine go_marry (n1 := 0) (n2 := 1) hS1 hx1' rfl rfl hn ia kb fun G2 H2 e2 hS2 => ?_
      simp only [List.set_cons_succ, List.set_cons_zero] at hS2
      walk_at "go"
      have hor : arA o' i = none ∨ ∃ k'_1, arA o' i = some k'_1 ∧ TurnR came m (o'.set i (some k')) (t'.set k' (some i)) k'_1 := hor
      have ed : o'.getD i none = arA o' i := rfl
      rw [ed]
      rcases hor with z | ⟨k2, z, tr2⟩
      · rw [z] at eT ⊢
        exact NW.mk (m' := 0) hS2 (e1.trans e2) (by omega) ⟨_, _, _, _, _, rfl, rfl, .inl ⟨rfl, eT⟩⟩
      · rw [z] at eT ⊢
        exact NW.mk (m' := m) hS2 (e1.trans e2) (by omega) ⟨_, _, _, _, _, rfl, rfl, .inr ⟨k2, rfl, tr2, eT⟩⟩
theorem go_turn1 {A : Ad} {G0 H0 G H : Hp} {D : List Addr} {M : List (Addr × HO)} {Q : VK} {E : XK} {x c a1 a2 : Addr} {came : List (Nat × Nat)} {f k n1 n2 : Nat} {kk : Bool} {os ts : List Bar} {lag : Int} {o t : Ar} (hS : Sta K G0 H0 D G M H) (hx : IsSch K G A.C_Search x kk os ts lag a1 a2) (hc : G c = some (.dK (cameK came))) (h1 : M[n1]? = some (a1, .lst (o.map oV))) (h2 : M[n2]? = some (a2, .lst (t.map oV))) (hn : a1 ≠ a2) (tr : TurnR came f o t k)
    (q : ∀ G1 H1, Same G G1 → Sta K G0 H0 D G1 ((M.set n1 (a1, .lst ((turnF came f o t k).1.map oV))).set n2 (a2, .lst ((turnF came f o t k).2.map oV))) H1 → Q .non H1) : spTurn1 K A.C_Search [.ref x, .ref c, .int (k : Int)] H Q E :=
  ⟨x, c, k, rfl, came, f, kk, G, os, ts, lag, a1, a2, o, t, hS.gh, hx, hc, (hS.mh _ (List.mem_of_getElem? h1)).2.1, (hS.mh _ (List.mem_of_getElem? h2)).2.1, hn, hS.get h1, hS.get h2, tr, fun G1 H1 ad k1 k2 => q G1 H1 ad.gg (hS.callM2 h1 h2 hn ad k1 k2)⟩
/-! the second side: the mate of the place found is left alone first -/
def spTurn2 (K : PySem.W.Frag) (C : Addr) : Sp := fun vs H Q _ => ∃ (x c : Addr) (k : Nat) (mt : Option Nat), vs = [.ref x, .ref c, .int (k : Int), oV mt] ∧ ∃ (came : List (Nat × Nat)) (f : Nat) (kk : Bool) (G : Hp) (os ts : List Bar) (lag : Int) (a1 a2 : Addr) (o t : Ar), Same G H ∧ IsSch K G C x kk os ts lag a1 a2 ∧ G c = some (.dK (cameK came)) ∧ G a1 = none ∧ G a2 = none ∧ a1 ≠ a2 ∧ H a1 = some (.lst (o.map oV)) ∧ H a2 = some (.lst (t.map oV)) ∧ (∀ j, mt = some j → j < t.length) ∧ TurnR came f (clrA t mt) o k ∧
  ∀ G1 H1, Adv [a1, a2] G H G1 H1 → H1 a1 = some (.lst ((turnF came f (clrA t mt) o k).2.map oV)) → H1 a2 = some (.lst ((turnF came f (clrA t mt) o k).1.map oV)) → Q .non H1
theorem ok_Search_turn_second (T : Txt K mg A) : FnOk P w K mg base CX0 2 A.f_Search_turn_second A.d_Search_turn_second ["self", "came", "one", "mate"] (spTurn2 K A.C_Search) := by
  have G_Search_marry := ok_Search_marry (P := P) (w := w) (base := base) T
  refine T.F_Search_turn_second.ok sc_Search_turn_second (fun vs H Q E h => by first | (obtain ⟨rfl, _⟩ := h; rfl) | (obtain ⟨_, rfl, _⟩ := h; rfl) | (obtain ⟨_, _, rfl, _⟩ := h; rfl) | (obtain ⟨_, _, _, rfl, _⟩ := h; rfl) | (obtain ⟨_, _, _, _, rfl, _⟩ := h; rfl) | (obtain ⟨_, _, _, _, _, rfl, _⟩ := h; rfl) | (obtain ⟨_, _, _, _, _, _, rfl, _⟩ := h; rfl) | (obtain ⟨_, _, _, _, _, _, _, rfl, _⟩ := h; rfl) | (obtain ⟨_, _, _, _, _, _, _, _, rfl, _⟩ := h; rfl) | (obtain ⟨_, _, _, _, _, _, _, _, _, rfl, _⟩ := h; rfl) | (obtain ⟨_, _, _, _, _, _, _, _, _, _, rfl, _⟩ := h; rfl) | (obtain ⟨_, _, _, _, _, _, _, _, _, _, _, rfl, _⟩ := h; rfl) | (obtain ⟨_, _, _, _, _, _, _, _, _, _, _, _, rfl, _⟩ := h; rfl) | (obtain ⟨_, _, _, _, _, _, _, _, _, _, _, _, _, rfl, _⟩ := h; rfl) | exact wk_len h) (fun cdv AA outer s H vs Q E hr h => ?_)
  obtain ⟨x, c, k, mt, rfl, came, f, kk, G, os, ts, lag, a1, a2, o, t, hG, hx, hc, g1, g2, hn, h1, h2, mj, tr, q⟩ := h
  have cl := T.cl_Search
  have n4 := T.na_Search_ours
  have n5 := T.na_Search_theirs
  refine ⟨_, (pss_cons (ps_if (pt_cmp (pc_notN (pv 3))) (pss_one (ps_asg pe_non (pg_sub (pe_fld (pv 0) rfl) (pv 3) set_list))) pss_nil)
      (pss_one (ps_while PassesOwn.never (pt_cmp (pc_notN (pv 2))) (pss_cons (ps_set (i := 4) sc_Search_turn_second.nd rfl (by first | exact Or.inl rfl | exact Or.inr rfl) (pe_dget (Nat.lt_trans (Nat.add_lt_add_left (by decide) _) hr.units) (pv 1) (pv 2) (fun _ _ => rfl)))
      (pss_cons (ps_set (i := 5) sc_Search_turn_second.nd rfl (by first | exact Or.inl rfl | exact Or.inr rfl) (pe_ix ix_seq (pe_fld (pv 0) rfl) (pv 4) (fun _ _ => rfl)))
      (pss_cons (ps_expr (pe_methS (E := fun _ _ _ _ => False) (pv 0) T.cl_Search T.me_Search_marry G_Search_marry (hr.mono (by first | decide | omega)) T.b_Search_marry (fun σ => pass0S σ) (pa_cons (pv 2) (pa_cons (pv 4) pa_nil))))
      (pss_one (ps_set (i := 2) sc_Search_turn_second.nd rfl (by first | exact Or.inl rfl | exact Or.inr rfl) (pv 5))))))))), ?_⟩
  try dsimp only [cxOf, Cx.nox, Cx.wish, Cx.blk]
  have hS := Sta.start2 (K := K) hG h1 h2 g1 g2 hn
  refine go_start (σ := [some (.ref x), some (.ref c), some (.int (k : Int)), some (oV mt), none, none]) rfl ?_
  walk_at "to"
  refine go_seq ?_
  refine go_join (fun σ' H' => Sta K G H [a1, a2] G [(a1, .lst (o.map oV)), (a2, .lst ((clrA t mt).map oV))] H' ∧ σ' = [some (.ref x), some (.ref c), some (.int (k : Int)), some (oV mt), none, none]) ?_ ?_
  · intro N hN
    cases mt with
    | none =>
      walk_at "go"
      exact hN _ _ ⟨hS, rfl⟩
    | some j =>
      walk_at "go"
      obtain ⟨dx, fx, sx, hxx, hf, hs, b1, b2⟩ := hx
      refine go_fldI hxx hS.gh cl n5 rfl ?_
      walk_at "go"
      refine go_setO (n := 1) (o := none) hS rfl (mj j rfl) rfl rfl fun H3 hS3 => ?_
      simp only [List.set_cons_succ, List.set_cons_zero] at hS3
      exact hN _ _ ⟨hS3, rfl⟩
  rintro σ' H' ⟨hS', rfl⟩
  clear hS
  generalize clrA t mt = t0 at *
  refine whileS hS' (fun m σ G1 M1 => ∃ w u v o' t', M1 = [(a1, .lst (o'.map oV)), (a2, .lst (t'.map oV))] ∧ σ = [some (.ref x), some (.ref c), some w, some (oV mt), u, v] ∧ ((w = .non ∧ (t', o') = turnF came f t0 o k) ∨ ∃ k' : Nat, w = .int (k' : Int) ∧ TurnR came m t' o' k' ∧ turnF came m t' o' k' = turnF came f t0 o k)) f ⟨_, _, _, o, t0, rfl, rfl, .inr ⟨k, rfl, tr, rfl⟩⟩ ?_
  rintro m σ' G1 M1 H1 e1 hS1 ⟨w, u, v, o', t', rfl, rfl, ⟨rfl, eT⟩ | ⟨k', rfl, tr', eT⟩⟩
  · walk_at "go"
    refine WhQ.ff rfl ?_
    walk_at "go"
    rw [← eT] at q
    exact q _ _ hS1.adv (hS1.get (i := 0) rfl) (hS1.get (i := 1) rfl)
  · walk_at "go"
    refine WhQ.tt rfl ?_
    cases m with
    | zero => exact absurd tr' id
    | succ m =>
      obtain ⟨i, lk, ia, kb, hor⟩ := tr'
      rw [turn_step lk] at eT
      have hx1 := hx.up e1
      walk_at "go"
      refine go_dgK (e1 _ _ hc) hS1.gh lk ?_
      walk_at "go"
      have hx1' := hx1
      obtain ⟨dx, fx, sx, hxx, hf, hs, b1, b2⟩ := hx1
      refine go_fldI hxx hS1.gh cl n5 rfl ?_
      walk_at "go"
      refine go_ixO (n := 1) hS1 rfl ia ?_
      walk_at "go"
      refine go_mtkI hxx hS1.gh rfl ?_
      walk_at "go"
      refine go_marry (n1 := 0) (n2 := 1) hS1 hx1' rfl rfl hn kb ia fun G2 H2 e2 hS2 => ?_
      simp only [List.set_cons_succ, List.set_cons_zero] at hS2
      walk_at "go"
      have hor : arA t' i = none ∨ ∃ k'_1, arA t' i = some k'_1 ∧ TurnR came m (t'.set i (some k')) (o'.set k' (some i)) k'_1 := hor
      have ed : t'.getD i none = arA t' i := rfl
      rw [ed]
      rcases hor with z | ⟨k2, z, tr2⟩
      · rw [z] at eT ⊢
        exact NW.mk (m' := 0) hS2 (e1.trans e2) (by omega) ⟨_, _, _, _, _, rfl, rfl, .inl ⟨rfl, eT⟩⟩
      · rw [z] at eT ⊢
        exact NW.mk (m' := m) hS2 (e1.trans e2) (by omega) ⟨_, _, _, _, _, rfl, rfl, .inr ⟨k2, rfl, tr2, eT⟩⟩
theorem go_turn2 {A : Ad} {G0 H0 G H : Hp} {D : List Addr} {M : List (Addr × HO)} {Q : VK} {E : XK} {x c a1 a2 : Addr} {came : List (Nat × Nat)} {f k n1 n2 : Nat} {mt : Option Nat} {kk : Bool} {os ts : List Bar} {lag : Int} {o t : Ar} {y : V} (hS : Sta K G0 H0 D G M H) (hx : IsSch K G A.C_Search x kk os ts lag a1 a2) (hc : G c = some (.dK (cameK came))) (h1 : M[n1]? = some (a1, .lst (o.map oV))) (h2 : M[n2]? = some (a2, .lst (t.map oV))) (hn : a1 ≠ a2) (hy : y = oV mt) (mj : ∀ j, mt = some j → j < t.length) (tr : TurnR came f (clrA t mt) o k)
    (q : ∀ G1 H1, Same G G1 → Sta K G0 H0 D G1 ((M.set n1 (a1, .lst ((turnF came f (clrA t mt) o k).2.map oV))).set n2 (a2, .lst ((turnF came f (clrA t mt) o k).1.map oV))) H1 → Q .non H1) : spTurn2 K A.C_Search [.ref x, .ref c, .int (k : Int), y] H Q E := by
  subst hy
  exact ⟨x, c, k, mt, rfl, came, f, kk, G, os, ts, lag, a1, a2, o, t, hS.gh, hx, hc, (hS.mh _ (List.mem_of_getElem? h1)).2.1, (hS.mh _ (List.mem_of_getElem? h2)).2.1, hn, hS.get h1, hS.get h2, mj, tr, fun G1 H1 ad k1 k2 => q G1 H1 ad.gg (hS.callM2 h1 h2 hn ad k1 k2)⟩
/-! ### a partner for one place -/
def nV (n : Nat) : V := .int (n : Int)
theorem pwle_uniq : ∀ {k l : List Int}, k.Pairwise (· ≤ ·) → l.Pairwise (· ≤ ·) → k.Perm l → k = l
  | [], l, _, _, p => (List.nil_perm.mp p).symm
  | x :: k, [], _, _, p => absurd p.length_eq (by simp)
  | x :: k, y :: l, hk, hl, p => by
    have h1 : y ≤ x := by
      rcases List.mem_cons.mp (p.mem_iff.mp List.mem_cons_self) with e | e
      · omega
      · exact (List.pairwise_cons.mp hl).1 x e
    have h2 : x ≤ y := by
      rcases List.mem_cons.mp (p.mem_iff.mpr List.mem_cons_self) with e | e
      · omega
      · exact (List.pairwise_cons.mp hk).1 y e
    have e : x = y := by omega
    subst e
    rw [pwle_uniq (List.pairwise_cons.mp hk).2 (List.pairwise_cons.mp hl).2 ((List.perm_cons _).mp p)]
theorem srtN_pw (l : List Nat) : (srtN l).Pairwise (· ≤ ·) := by
  refine (srtA_srtd (fun i : Int => [i]) (l.map fun i : Nat => (i : Int))).imp fun {x y} h => ?_
  exact lex1 h
theorem go_sortN {G0 H0 G H : Hp} {D : List Addr} {M : List (Addr × HO)} {Q : VK} {p : Addr} {l : List Nat} {n : Nat} (hS : Sta K G0 H0 D G M H) (hi : M[n]? = some (p, .lst (l.map nV)))
    (q : ∀ r G1 H1, Same G G1 → Sta K G0 H0 D G1 M H1 → Rp K G1 (.ref r) (.lst ((srtN l).map .int)) → Q (.ref r) H1) : rSortedI K [.ref p] H Q := by
  refine ⟨p, l.map fun i : Nat => (i : Int), rfl, SqL.of (by rw [List.map_map]; exact hS.get hi), fun ns' r pm pw hr => ?_⟩
  have e : ns' = srtN l := pwle_uniq pw (srtN_pw l) (pm.trans (srtA_perm _ _).symm)
  subst e
  exact q r _ _ (same_upd (hS.gn hr)) (hS.imm hr _) (.lst (SqL.of upd_same) RpAll.ints)
theorem go_ixN {G0 H0 G H : Hp} {D : List Addr} {M : List (Addr × HO)} {Q : VK} {p : Addr} {l : List Nat} {i n : Nat} (hS : Sta K G0 H0 D G M H) (hi : M[n]? = some (p, .lst (l.map nV))) (h : i < l.length) (k : Q (.int (l.getD i 0 : Nat)) H) : rIx K (.ref p) (.int (i : Int)) H Q :=
  go_ixM (hS.get hi) (atI_nat (by rw [List.getElem?_map, List.getElem?_eq_getElem h, List.getD, List.getElem?_eq_getElem h]; rfl)) k
theorem set_same {α : Type} {l : List α} {i : Nat} {x : α} (h : l[i]? = some x) : l.set i x = l := by
  obtain ⟨hl, e⟩ := List.getElem?_eq_some_iff.mp h
  rw [← e, List.set_getElem_self]
def SeekQ (K : PySem.W.Frag) (Q : VK) (G H : Hp) (a1 a2 : Addr) (o t o1 t1 : Ar) (z : Sum (Ar × Ar) (List Nat)) (tw : Bool) : Prop := (∀ lot, z = .inr lot → ∀ p G1 H1, Adv [a1, a2] G H G1 H1 → H1 a1 = some (.lst (o.map oV)) → H1 a2 = some (.lst (t.map oV)) → Rp K G1 (.ref p) (.lst ((srtN lot).map .int)) → Q (.ref p) H1) ∧
  (∀ r : Ar × Ar, z = .inl r → ∀ G1 H1, Adv [a1, a2] G H G1 H1 → H1 a1 = some (.lst ((if tw = true then r.2 else r.1).map oV)) → H1 a2 = some (.lst ((if tw = true then r.1 else r.2).map oV)) → Q .non H1)
def spPair1 (K : PySem.W.Frag) (C : Addr) : Sp := fun vs H Q _ => ∃ (x : Addr) (start : Nat), vs = [.ref x, .int (start : Int)] ∧ ∃ (kk : Bool) (G : Hp) (os ts : List Bar) (lag : Int) (a1 a2 : Addr) (o t : Ar), Same G H ∧ IsSch K G C x kk os ts lag a1 a2 ∧ G a1 = none ∧ G a2 = none ∧ a1 ≠ a2 ∧ H a1 = some (.lst (o.map oV)) ∧ H a2 = some (.lst (t.map oV)) ∧ Sch os ts lag (o, t) ∧ start < os.length ∧ arA o start = none ∧
  SeekQ K Q G H a1 a2 o t o t (seekF o t stp1 (nearS os ts lag) start) false
theorem ok_Search_pair_first (T : Txt K mg A) : FnOk P w K mg base CX0 4 A.f_Search_pair_first A.d_Search_pair_first ["self", "start"] (spPair1 K A.C_Search) := by
  have G_Search_near_second := ok_Search_near_second (P := P) (w := w) (base := base) T
  have G_Search_turn_first := ok_Search_turn_first (P := P) (w := w) (base := base) T
  refine T.F_Search_pair_first.ok sc_Search_pair_first (fun vs H Q E h => by first | (obtain ⟨rfl, _⟩ := h; rfl) | (obtain ⟨_, rfl, _⟩ := h; rfl) | (obtain ⟨_, _, rfl, _⟩ := h; rfl) | (obtain ⟨_, _, _, rfl, _⟩ := h; rfl) | (obtain ⟨_, _, _, _, rfl, _⟩ := h; rfl) | (obtain ⟨_, _, _, _, _, rfl, _⟩ := h; rfl) | (obtain ⟨_, _, _, _, _, _, rfl, _⟩ := h; rfl) | (obtain ⟨_, _, _, _, _, _, _, rfl, _⟩ := h; rfl) | (obtain ⟨_, _, _, _, _, _, _, _, rfl, _⟩ := h; rfl) | (obtain ⟨_, _, _, _, _, _, _, _, _, rfl, _⟩ := h; rfl) | (obtain ⟨_, _, _, _, _, _, _, _, _, _, rfl, _⟩ := h; rfl) | (obtain ⟨_, _, _, _, _, _, _, _, _, _, _, rfl, _⟩ := h; rfl) | (obtain ⟨_, _, _, _, _, _, _, _, _, _, _, _, rfl, _⟩ := h; rfl) | (obtain ⟨_, _, _, _, _, _, _, _, _, _, _, _, _, rfl, _⟩ := h; rfl) | exact wk_len h) (fun cdv AA outer s H vs Q E hr h => ?_)
  obtain ⟨x, start, rfl, kk, G, os, ts, lag, a1, a2, o, t, hG, hx, g1, g2, hn, h1, h2, sch, ls, hst, q0, q1⟩ := h
  have b1 := hx.choose_spec.choose_spec.choose_spec.2.2.2.1
  have b2 := hx.choose_spec.choose_spec.choose_spec.2.2.2.2
  have cl := T.cl_Search
  have n4 := T.na_Search_ours
  have n5 := T.na_Search_theirs
  have lo : o.length = os.length := sch.l1
  have lt_ : t.length = ts.length := sch.l2
  refine ⟨_, (pss_cons (ps_set (i := 2) sc_Search_pair_first.nd rfl (by first | exact Or.inl rfl | exact Or.inr rfl) pe_dnewK)
      (pss_cons (ps_set (i := 3) sc_Search_pair_first.nd rfl (by first | exact Or.inl rfl | exact Or.inr rfl) (pe_lst (pa_cons (pv 1) pa_nil)))
      (pss_cons (ps_set (i := 4) sc_Search_pair_first.nd rfl (by first | exact Or.inl rfl | exact Or.inr rfl) pe_int)
      (pss_cons (ps_while PassesOwn.never (pt_cmpR op_lt (pv 4) (pe_callB (id := "len") b_len (by rfl) T.z_len (by decide +kernel) (pa_cons (pv 3) pa_nil)) (nomark _)) (pss_cons (ps_for PassesOwn.never rfl (pi_list (pe_methS (E := fun _ _ _ _ => False) (pv 0) T.cl_Search T.me_Search_near_second G_Search_near_second (hr.mono (by first | decide | omega)) T.b_Search_near_second (fun σ => pass0S σ) (pa_cons (pe_ix ix_seq (pv 3) (pv 4) (fun _ _ => rfl)) pa_nil))) (pg_name (i := 5) sc_Search_pair_first.nd rfl (by first | exact Or.inl rfl | exact Or.inr rfl)) (pss_one (ps_if (pt_cmp (pc_dnotin (Nat.lt_trans (Nat.add_lt_add_left (by decide) _) hr.units) (pv 5) (pv 2))) (pss_cons (ps_dput (Nat.lt_trans (Nat.add_lt_add_left (by decide) _) hr.units) (pv 2) (pv 5) (pe_ix ix_seq (pv 3) (pv 4) (fun _ _ => rfl)) rfl)
      (pss_cons (ps_if (pt_cmp (pc_isN (pe_ix ix_seq (pe_fld (pv 0) rfl) (pv 5) (fun _ _ => rfl)))) (pss_cons (ps_expr (pe_methS (E := fun _ _ _ _ => False) (pv 0) T.cl_Search T.me_Search_turn_first G_Search_turn_first (hr.mono (by first | decide | omega)) T.b_Search_turn_first (fun σ => pass0S σ) (pa_cons (pv 2) (pa_cons (pv 5) pa_nil))))
      (pss_one (ps_ret pe_non))) pss_nil)
      (pss_one (ps_expr (pe_bm PySem.F.plainAttrs_list PySem.F.slot_list_append PySem.F.type_list_append mt_append (pv 3) (pa_cons (pe_ix ix_seq (pe_fld (pv 0) rfl) (pv 5) (fun _ _ => rfl)) pa_nil)))))) pss_nil)))
      (pss_one (ps_aug (i := 4) sc_Search_pair_first.nd rfl (by first | exact Or.inl rfl | exact Or.inr rfl) pe_int ip_add))))
      (pss_one (ps_ret (pe_callB (id := "sorted") cr_sortedI (by rfl) T.z_sorted (by decide +kernel) (pa_cons (pv 3) pa_nil)))))))), ?_⟩
  try dsimp only [cxOf, Cx.nox, Cx.wish, Cx.blk]
  have hS := Sta.start2 (K := K) hG h1 h2 g1 g2 hn
  refine go_start (σ := [some (.ref x), some (.int (start : Int)), none, none, none, none]) rfl ?_
  walk_at "go"
  rename_i pc Hc pc0 pcg hSc
  refine go_mutL hSc (sz (by simp)) fun pl Hl pl0 plg hSl => ?_
  walk_at "to"
  refine go_seq ?_
  walk_at "to"
  have mt : Mt o t (nearS os ts lag) := sch.mt
  have hb : ∀ i k, k ∈ nearS os ts lag i → k < t.length := fun i k h => by rw [lt_]; exact (nearS_mem.mp h).1
  refine whileS hSl (fun m σ G1 M1 => ∃ (at_ : Nat) (came : List (Nat × Nat)) (lot : List Nat) (u : Option V), M1 = [(pl, .lst (lot.map nV)), (pc, .dK (cameK came)), (a1, .lst (o.map oV)), (a2, .lst (t.map oV))] ∧ σ = [some (.ref x), some (.int (start : Int)), some (.ref pc), some (.ref pl), some (.int (at_ : Int)), u] ∧ Bf o t stp1 (nearS os ts lag) start at_ [] came lot ∧ at_ ≤ lot.length ∧ o.length + 1 ≤ m + at_ ∧ bfsF t stp1 (nearS os ts lag) m at_ came lot = bfsF t stp1 (nearS os ts lag) (o.length + 1) 0 [] [start]) (o.length + 1) ⟨0, [], [start], _, rfl, rfl, Bf.ini, Nat.zero_le _, Nat.le_refl _, rfl⟩ ?_
  rintro m σ' G1 M1 H1 e1 hS1 ⟨at_, came, lot, u, rfl, rfl, bf, hat, hm, eT⟩
  have lle : lot.length ≤ o.length := bf.lot_le mt rfl hst (by omega)
  have mlen : (lot.map nV).length = lot.length := List.length_map ..
  walk_at "go"
  rw [mlen]
  by_cases hlt : at_ < lot.length
  · refine WhQ.tt (decide_eq_true (by omega)) ?_
    have hx1 := hx.up e1
    walk_at "go"
    have hx1' := hx1
    obtain ⟨dx, fx, sx, hxx, _⟩ := hx1
    have hmem : ∀ i ∈ lot, i < o.length := fun i hi => by
      rcases (bf.lot_nd mt rfl hst).2 i hi with rfl | ⟨k', _, e'⟩
      · omega
      · exact arA_lt e'
    refine go_mtkI hxx hS1.gh rfl ?_
    walk_at "go"
    refine go_ixN (n := 0) hS1 rfl hlt ?_
    have hcl : lot.getD at_ 0 < o.length := hmem _ (List.mem_iff_getElem?.mpr ⟨at_, by rw [List.getD, List.getElem?_eq_getElem hlt]; rfl⟩)
    generalize hcu : lot.getD at_ 0 = cur at *
    walk_at "go"
    refine go_nearS (tw := false) hS1 hx1' (show cur < os.length by omega) fun pn G2 H2 e2 hS2 hrn => ?_
    have hrn : Rp K G2 (.ref pn) (.lst ((nearS os ts lag cur).map nD)) := hrn
    have hnb : ∀ k ∈ nearS os ts lag cur, k < t.length := fun k h => hb cur k h
    cases m with
    | zero => omega
    | succ m =>
    rw [bfsF, if_pos hlt, hcu] at eT
    generalize hnr : nearS os ts lag cur = nr at *
    refine go_itl hrn hS2.gh fun an xn ea hqn hrn2 => ?_
    cases ea
    refine forL hS2 hqn hrn2 (fun i σ G3 M3 => ∃ (c2 : List (Nat × Nat)) (l2 : List Nat) (u : Option V), M3 = [(pl, .lst (l2.map nV)), (pc, .dK (cameK c2)), (a1, .lst (o.map oV)), (a2, .lst (t.map oV))] ∧ σ = [some (.ref x), some (.int (start : Int)), some (.ref pc), some (.ref pl), some (.int (at_ : Int)), u] ∧ Bf o t stp1 (nearS os ts lag) start at_ (nr.take i) c2 l2 ∧ at_ < l2.length ∧ l2.getD at_ 0 = cur ∧ sprd t stp1 cur (nr.drop i) c2 l2 = sprd t stp1 cur nr came lot) ⟨came, lot, _, rfl, rfl, bf, hlt, hcu, rfl⟩ ?_ ?_
    · rintro i xv d σ3 G3 M3 H3 hi hd e3 hS3 hr3 ⟨c2, l2, u3, rfl, rfl, bf2, hlt2, hcu2, eR⟩
      have hkk : ∃ k, nr[i]? = some k ∧ d = nD k := by
        rw [List.getElem?_map] at hd
        cases hz : nr[i]? with
        | none => rw [hz] at hd; cases hd
        | some k => rw [hz] at hd; exact ⟨k, rfl, (Option.some.inj hd).symm⟩
      obtain ⟨k, hk, rfl⟩ := hkk
      have hr3' : Rp K G3 xv (.int (k : Int)) := hr3
      cases Rp.int_inv hr3'
      have kmem : k ∈ nr := List.mem_of_getElem? hk
      have kt := hnb k kmem
      have hil := (List.getElem?_eq_some_iff.mp hk).1
      have hdrop : nr.drop i = k :: nr.drop (i + 1) := by
        rw [List.drop_eq_getElem_cons hil, (List.getElem?_eq_some_iff.mp hk).2]
      have htake : nr.take (i + 1) = nr.take i ++ [k] := by rw [List.take_add_one, hk]; rfl
      have l2le : l2.length ≤ o.length := bf2.lot_le mt rfl hst (by omega)
      have c2len := bf2.len
      rw [hdrop, sprd] at eR
      have hxx3 := (e2.trans e3) _ _ hxx
      walk_at "go"
      refine go_dnKM (n := 1) hS3 rfl ?_
      by_cases hkc : k ∈ keysC c2
      · rw [if_pos hkc] at eR
        have eb : (!decide (k ∈ c2.map (·.1))) = false := by rw [decide_eq_true (show k ∈ c2.map (·.1) from hkc)]; rfl
        rw [eb]
        walk_at "go"
        exact Nx.mk hS3 e3 ⟨c2, l2, _, rfl, rfl, by rw [htake]; exact bf2.pass hkc, hlt2, hcu2, eR⟩
      · rw [if_neg hkc] at eR
        have eb : (!decide (k ∈ c2.map (·.1))) = true := by rw [decide_eq_false (show ¬ k ∈ c2.map (·.1) from hkc)]; rfl
        rw [eb]
        walk_at "go"
        refine go_ixN (n := 0) hS3 rfl hlt2 ?_
        rw [hcu2]
        walk_at "go"
        refine go_dpK (n := 1) hS3 rfl hkc (by omega) rfl fun H4 hS4 => ?_
        simp only [List.set_cons_succ, List.set_cons_zero] at hS4
        walk_at "go"
        refine go_fldI hxx3 hS4.gh cl n5 rfl ?_
        walk_at "go"
        refine go_ixO (n := 3) hS4 rfl kt ?_
        have ed : t.getD k none = arA t k := rfl
        rw [ed]
        cases hz : arA t k with
        | none =>
          rw [hz, if_pos (show stp1 none = true from rfl)] at eR
          rw [← eR] at eT
          walk_at "go"
          refine go_mtkI hxx3 hS4.gh rfl ?_
          walk_at "go"
          obtain ⟨hS6, e6⟩ := hS4.pop.frz pc0
          have tr := bf2.turns mt rfl hst (by omega) hb hlt2 hkc (by rw [hcu2, hnr]; exact kmem)
          rw [hcu2, hz] at tr
          obtain ⟨o', eo, _, tr⟩ := tr
          have eo : o' = o := eo
          subst eo
          have eS : seekF o' t stp1 (nearS os ts lag) start = .inl (turnF (c2 ++ [(k, cur)]) (c2 ++ [(k, cur)]).length o' t k) := by
            unfold seekF
            rw [← eT]
            simp only
            rw [hz]
            rfl
          refine go_turn1 (n1 := 0) (n2 := 1) hS6 (hx1'.up ((e2.trans e3).trans e6)) upd_same rfl rfl hn tr fun G7 H7 e7 hS7 => ?_
          simp only [List.set_cons_succ, List.set_cons_zero] at hS7
          walk_at "go"
          exact q1 _ eS _ _ hS7.adv (hS7.get (i := 0) rfl) (hS7.get (i := 1) rfl)
        | some j =>
          rw [hz, if_neg (show ¬ stp1 (some j) = true from fun z => by cases z)] at eR
          walk_at "go"
          refine go_fldI hxx3 hS4.gh cl n5 rfl ?_
          walk_at "go"
          refine go_ixO (n := 3) hS4 rfl kt ?_
          rw [ed, hz]
          walk_at "go"
          rename_i H5 hS5
          have el : l2.map nV ++ [oV (some j)] = (l2 ++ [j]).map nV := by rw [List.map_append]; rfl
          rw [el] at hS5
          refine Nx.mk hS5 e3 ⟨c2 ++ [(k, cur)], l2 ++ [j], _, rfl, rfl, ?_, by rw [List.length_append]; omega, ?_, eR⟩
          · have := bf2.grow hkc (by rw [hz]; rfl) hlt2 (by rw [hcu2, hnr]; exact kmem)
            rw [hcu2, hz] at this
            rw [htake]
            exact this
          · rw [← hcu2, List.getD, List.getD, List.getElem?_append_left hlt2]
    rintro σ3 G3 M3 H3 e3 hS3 ⟨c2, l2, u3, rfl, rfl, bf2, hlt2, hcu2, eR⟩
    rw [List.length_map] at bf2 eR
    rw [List.drop_length, sprd] at eR
    rw [List.take_length] at bf2
    rw [← eR] at eT
    walk_at "go"
    have hlm := bf2.lot_le mt rfl hst (by omega)
    refine go_aug (x := .int (at_ : Int)) rfl ?_
    walk_at "go"
    refine ⟨_, _, rfl, rfl, ?_⟩
    refine NW.mk (m' := m) hS3 (e1.trans (e2.trans e3)) (by omega) ⟨at_ + 1, c2, l2, _, rfl, rfl, bf2.next hlt2 (fun k hk => by rw [hcu2, hnr] at hk; exact hk), by omega, by omega, eT⟩
  · refine WhQ.ff (decide_eq_false (by omega)) ?_
    have eL : bfsF t stp1 (nearS os ts lag) m at_ came lot = .inr lot := by
      cases m with
      | zero => rfl
      | succ m => rw [bfsF, if_neg hlt]
    have eS : seekF o t stp1 (nearS os ts lag) start = .inr lot := by
      unfold seekF
      rw [← eT, eL]
    walk_at "go"
    refine go_sortN (n := 0) hS1 rfl fun p2 G2 H2 e2 hS2 hr2 => ?_
    walk_at "go"
    exact q0 lot eS _ _ _ hS2.adv (hS2.get (i := 2) rfl) (hS2.get (i := 3) rfl) hr2
theorem go_pair1 {A : Ad} {G0 H0 G H : Hp} {D : List Addr} {M : List (Addr × HO)} {Q : VK} {E : XK} {x a1 a2 : Addr} {start n1 n2 : Nat} {kk : Bool} {os ts : List Bar} {lag : Int} {o t : Ar} (hS : Sta K G0 H0 D G M H) (hx : IsSch K G A.C_Search x kk os ts lag a1 a2) (h1 : M[n1]? = some (a1, .lst (o.map oV))) (h2 : M[n2]? = some (a2, .lst (t.map oV))) (hn : a1 ≠ a2) (sch : Sch os ts lag (o, t)) (ls : start < os.length) (hs : arA o start = none)
    (q0 : ∀ lot, seekF o t stp1 (nearS os ts lag) start = .inr lot → ∀ p G1 H1, Same G G1 → Sta K G0 H0 D G1 M H1 → Rp K G1 (.ref p) (.lst ((srtN lot).map .int)) → Q (.ref p) H1)
    (q1 : ∀ r : Ar × Ar, seekF o t stp1 (nearS os ts lag) start = .inl r → ∀ G1 H1, Same G G1 → Sta K G0 H0 D G1 ((M.set n1 (a1, .lst (r.1.map oV))).set n2 (a2, .lst (r.2.map oV))) H1 → Q .non H1) : spPair1 K A.C_Search [.ref x, .int (start : Int)] H Q E := by
  refine ⟨x, start, rfl, kk, G, os, ts, lag, a1, a2, o, t, hS.gh, hx, (hS.mh _ (List.mem_of_getElem? h1)).2.1, (hS.mh _ (List.mem_of_getElem? h2)).2.1, hn, hS.get h1, hS.get h2, sch, ls, hs, fun lot e p G1 H1 ad k1 k2 r => q0 lot e p G1 H1 ad.gg ?_ r, fun r e G1 H1 ad k1 k2 => q1 r e G1 H1 ad.gg (hS.callM2 h1 h2 hn ad k1 k2)⟩
  have := hS.callM2 h1 h2 hn ad k1 k2
  rw [set_same h1, set_same h2] at this
  exact this
/-! ### the second side -/
def spPair2 (K : PySem.W.Frag) (C : Addr) : Sp := fun vs H Q _ => ∃ (x : Addr) (start : Nat), vs = [.ref x, .int (start : Int)] ∧ ∃ (kk : Bool) (G : Hp) (os ts : List Bar) (lag : Int) (a1 a2 : Addr) (o t : Ar), Same G H ∧ IsSch K G C x kk os ts lag a1 a2 ∧ G a1 = none ∧ G a2 = none ∧ a1 ≠ a2 ∧ H a1 = some (.lst (o.map oV)) ∧ H a2 = some (.lst (t.map oV)) ∧ Sch os ts lag (o, t) ∧ start < ts.length ∧ arA t start = none ∧
  SeekQ K Q G H a1 a2 o t o t (seekF t o (stp2 ts lag) (nearR os ts lag) start) true
theorem ok_Search_pair_second (T : Txt K mg A) : FnOk P w K mg base CX0 4 A.f_Search_pair_second A.d_Search_pair_second ["self", "start"] (spPair2 K A.C_Search) := by
  have G_Search_near_first := ok_Search_near_first (P := P) (w := w) (base := base) T
  have G_Search_turn_second := ok_Search_turn_second (P := P) (w := w) (base := base) T
  have G_is_long := ok_is_long (P := P) (w := w) (base := base) T
  refine T.F_Search_pair_second.ok sc_Search_pair_second (fun vs H Q E h => by first | (obtain ⟨rfl, _⟩ := h; rfl) | (obtain ⟨_, rfl, _⟩ := h; rfl) | (obtain ⟨_, _, rfl, _⟩ := h; rfl) | (obtain ⟨_, _, _, rfl, _⟩ := h; rfl) | (obtain ⟨_, _, _, _, rfl, _⟩ := h; rfl) | (obtain ⟨_, _, _, _, _, rfl, _⟩ := h; rfl) | (obtain ⟨_, _, _, _, _, _, rfl, _⟩ := h; rfl) | (obtain ⟨_, _, _, _, _, _, _, rfl, _⟩ := h; rfl) | (obtain ⟨_, _, _, _, _, _, _, _, rfl, _⟩ := h; rfl) | (obtain ⟨_, _, _, _, _, _, _, _, _, rfl, _⟩ := h; rfl) | (obtain ⟨_, _, _, _, _, _, _, _, _, _, rfl, _⟩ := h; rfl) | (obtain ⟨_, _, _, _, _, _, _, _, _, _, _, rfl, _⟩ := h; rfl) | (obtain ⟨_, _, _, _, _, _, _, _, _, _, _, _, rfl, _⟩ := h; rfl) | (obtain ⟨_, _, _, _, _, _, _, _, _, _, _, _, _, rfl, _⟩ := h; rfl) | exact wk_len h) (fun cdv AA outer s H vs Q E hr h => ?_)
  obtain ⟨x, start, rfl, kk, G, os, ts, lag, a1, a2, o, t, hG, hx, g1, g2, hn, h1, h2, sch, ls, hst, q0, q1⟩ := h
  have b1 := hx.choose_spec.choose_spec.choose_spec.2.2.2.1
  have b2 := hx.choose_spec.choose_spec.choose_spec.2.2.2.2
  have cl := T.cl_Search
  have n2 := T.na_Search_second
  have n3 := T.na_Search_lag
  have n4 := T.na_Search_ours
  have n5 := T.na_Search_theirs
  have lo : o.length = os.length := sch.l1
  have lt_ : t.length = ts.length := sch.l2
  refine ⟨_, (pss_cons (ps_set (i := 2) sc_Search_pair_second.nd rfl (by first | exact Or.inl rfl | exact Or.inr rfl) pe_dnewK)
      (pss_cons (ps_set (i := 3) sc_Search_pair_second.nd rfl (by first | exact Or.inl rfl | exact Or.inr rfl) (pe_lst (pa_cons (pv 1) pa_nil)))
      (pss_cons (ps_set (i := 4) sc_Search_pair_second.nd rfl (by first | exact Or.inl rfl | exact Or.inr rfl) pe_int)
      (pss_cons (ps_while PassesOwn.never (pt_cmpR op_lt (pv 4) (pe_callB (id := "len") b_len (by rfl) T.z_len (by decide +kernel) (pa_cons (pv 3) pa_nil)) (nomark _)) (pss_cons (ps_for PassesOwn.never rfl (pi_list (pe_methS (E := fun _ _ _ _ => False) (pv 0) T.cl_Search T.me_Search_near_first G_Search_near_first (hr.mono (by first | decide | omega)) T.b_Search_near_first (fun σ => pass0S σ) (pa_cons (pe_ix ix_seq (pv 3) (pv 4) (fun _ _ => rfl)) pa_nil))) (pg_name (i := 5) sc_Search_pair_second.nd rfl (by first | exact Or.inl rfl | exact Or.inr rfl)) (pss_one (ps_if (pt_cmp (pc_dnotin (Nat.lt_trans (Nat.add_lt_add_left (by decide) _) hr.units) (pv 5) (pv 2))) (pss_cons (ps_dput (Nat.lt_trans (Nat.add_lt_add_left (by decide) _) hr.units) (pv 2) (pv 5) (pe_ix ix_seq (pv 3) (pv 4) (fun _ _ => rfl)) rfl)
      (pss_cons (ps_set (i := 6) sc_Search_pair_second.nd rfl (by first | exact Or.inl rfl | exact Or.inr rfl) (pe_ix ix_seq (pe_fld (pv 0) rfl) (pv 5) (fun _ _ => rfl)))
      (pss_cons (ps_if (PW.pt (pw_or (pt_cmp (pc_isN (pv 6))) (pw_or1 (pt_not (pt_val (pe_callN G_is_long (hr.mono (by first | decide | omega)) (by rfl) T.m_is_long T.F_is_long.kp T.k1_is_long pass0 (pa_cons (pe_ix ix_seq (pe_fld (pv 0) rfl) (pv 6) (fun _ _ => rfl)) pa_nil) (pk_cons (pe_fld (pv 0) rfl) pk_nil))))))) (pss_cons (ps_expr (pe_methS (E := fun _ _ _ _ => False) (pv 0) T.cl_Search T.me_Search_turn_second G_Search_turn_second (hr.mono (by first | decide | omega)) T.b_Search_turn_second (fun σ => pass0S σ) (pa_cons (pv 2) (pa_cons (pv 5) (pa_cons (pv 6) pa_nil)))))
      (pss_one (ps_ret pe_non))) pss_nil)
      (pss_one (ps_expr (pe_bm PySem.F.plainAttrs_list PySem.F.slot_list_append PySem.F.type_list_append mt_append (pv 3) (pa_cons (pv 6) pa_nil))))))) pss_nil)))
      (pss_one (ps_aug (i := 4) sc_Search_pair_second.nd rfl (by first | exact Or.inl rfl | exact Or.inr rfl) pe_int ip_add))))
      (pss_one (ps_ret (pe_callB (id := "sorted") cr_sortedI (by rfl) T.z_sorted (by decide +kernel) (pa_cons (pv 3) pa_nil)))))))), ?_⟩
  try dsimp only [cxOf, Cx.nox, Cx.wish, Cx.blk]
  have hS := Sta.start2 (K := K) hG h1 h2 g1 g2 hn
  refine go_start (σ := [some (.ref x), some (.int (start : Int)), none, none, none, none, none]) rfl ?_
  walk_at "go"
  rename_i pc Hc pc0 pcg hSc
  refine go_mutL hSc (sz (by simp)) fun pl Hl pl0 plg hSl => ?_
  walk_at "to"
  refine go_seq ?_
  walk_at "to"
  have mt : Mt t o (nearR os ts lag) := sch.sw
  have hb : ∀ i k, k ∈ nearR os ts lag i → k < o.length := fun i k h => by rw [lo]; exact (nearR_mem.mp h).1
  refine whileS hSl (fun m σ G1 M1 => ∃ (at_ : Nat) (came : List (Nat × Nat)) (lot : List Nat) (u w : Option V), M1 = [(pl, .lst (lot.map nV)), (pc, .dK (cameK came)), (a1, .lst (o.map oV)), (a2, .lst (t.map oV))] ∧ σ = [some (.ref x), some (.int (start : Int)), some (.ref pc), some (.ref pl), some (.int (at_ : Int)), u, w] ∧ Bf t o (stp2 ts lag) (nearR os ts lag) start at_ [] came lot ∧ at_ ≤ lot.length ∧ t.length + 1 ≤ m + at_ ∧ bfsF o (stp2 ts lag) (nearR os ts lag) m at_ came lot = bfsF o (stp2 ts lag) (nearR os ts lag) (t.length + 1) 0 [] [start]) (t.length + 1) ⟨0, [], [start], _, _, rfl, rfl, Bf.ini, Nat.zero_le _, Nat.le_refl _, rfl⟩ ?_
  rintro m σ' G1 M1 H1 e1 hS1 ⟨at_, came, lot, u, w, rfl, rfl, bf, hat, hm, eT⟩
  have lle : lot.length ≤ t.length := bf.lot_le mt rfl hst (by omega)
  have mlen : (lot.map nV).length = lot.length := List.length_map ..
  walk_at "go"
  rw [mlen]
  by_cases hlt : at_ < lot.length
  · refine WhQ.tt (decide_eq_true (by omega)) ?_
    have hx1 := hx.up e1
    walk_at "go"
    have hx1' := hx1
    obtain ⟨dx, fx, sx, hxx, hfx, hsx, _⟩ := hx1
    have hmem : ∀ i ∈ lot, i < t.length := fun i hi => by
      rcases (bf.lot_nd mt rfl hst).2 i hi with rfl | ⟨k', _, e'⟩
      · omega
      · exact arA_lt e'
    refine go_mtkI hxx hS1.gh rfl ?_
    walk_at "go"
    refine go_ixN (n := 0) hS1 rfl hlt ?_
    have hcl : lot.getD at_ 0 < t.length := hmem _ (List.mem_iff_getElem?.mpr ⟨at_, by rw [List.getD, List.getElem?_eq_getElem hlt]; rfl⟩)
    generalize hcu : lot.getD at_ 0 = cur at *
    walk_at "go"
    refine go_nearS (tw := true) hS1 hx1' (show cur < ts.length by omega) fun pn G2 H2 e2 hS2 hrn => ?_
    have hrn : Rp K G2 (.ref pn) (.lst ((nearR os ts lag cur).map nD)) := hrn
    have hnb : ∀ k ∈ nearR os ts lag cur, k < o.length := fun k h => hb cur k h
    cases m with
    | zero => omega
    | succ m =>
    rw [bfsF, if_pos hlt, hcu] at eT
    generalize hnr : nearR os ts lag cur = nr at *
    refine go_itl hrn hS2.gh fun an xn ea hqn hrn2 => ?_
    cases ea
    refine forL hS2 hqn hrn2 (fun i σ G3 M3 => ∃ (c2 : List (Nat × Nat)) (l2 : List Nat) (u w : Option V), M3 = [(pl, .lst (l2.map nV)), (pc, .dK (cameK c2)), (a1, .lst (o.map oV)), (a2, .lst (t.map oV))] ∧ σ = [some (.ref x), some (.int (start : Int)), some (.ref pc), some (.ref pl), some (.int (at_ : Int)), u, w] ∧ Bf t o (stp2 ts lag) (nearR os ts lag) start at_ (nr.take i) c2 l2 ∧ at_ < l2.length ∧ l2.getD at_ 0 = cur ∧ sprd o (stp2 ts lag) cur (nr.drop i) c2 l2 = sprd o (stp2 ts lag) cur nr came lot) ⟨came, lot, _, _, rfl, rfl, bf, hlt, hcu, rfl⟩ ?_ ?_
    · rintro i xv d σ3 G3 M3 H3 hi hd e3 hS3 hr3 ⟨c2, l2, u3, w3, rfl, rfl, bf2, hlt2, hcu2, eR⟩
      have hkk : ∃ k, nr[i]? = some k ∧ d = nD k := by
        rw [List.getElem?_map] at hd
        cases hz : nr[i]? with
        | none => rw [hz] at hd; cases hd
        | some k => rw [hz] at hd; exact ⟨k, rfl, (Option.some.inj hd).symm⟩
      obtain ⟨k, hk, rfl⟩ := hkk
      have hr3' : Rp K G3 xv (.int (k : Int)) := hr3
      cases Rp.int_inv hr3'
      have kmem : k ∈ nr := List.mem_of_getElem? hk
      have kt := hnb k kmem
      have hil := (List.getElem?_eq_some_iff.mp hk).1
      have hdrop : nr.drop i = k :: nr.drop (i + 1) := by
        rw [List.drop_eq_getElem_cons hil, (List.getElem?_eq_some_iff.mp hk).2]
      have htake : nr.take (i + 1) = nr.take i ++ [k] := by rw [List.take_add_one, hk]; rfl
      have l2le : l2.length ≤ t.length := bf2.lot_le mt rfl hst (by omega)
      have c2len := bf2.len
      rw [hdrop, sprd] at eR
      have hxx3 := (e2.trans e3) _ _ hxx
      walk_at "go"
      refine go_dnKM (n := 1) hS3 rfl ?_
      by_cases hkc : k ∈ keysC c2
      · rw [if_pos hkc] at eR
        have eb : (!decide (k ∈ c2.map (·.1))) = false := by rw [decide_eq_true (show k ∈ c2.map (·.1) from hkc)]; rfl
        rw [eb]
        walk_at "go"
        exact Nx.mk hS3 e3 ⟨c2, l2, _, _, rfl, rfl, by rw [htake]; exact bf2.pass hkc, hlt2, hcu2, eR⟩
      · rw [if_neg hkc] at eR
        have eb : (!decide (k ∈ c2.map (·.1))) = true := by rw [decide_eq_false (show ¬ k ∈ c2.map (·.1) from hkc)]; rfl
        rw [eb]
        walk_at "go"
        refine go_ixN (n := 0) hS3 rfl hlt2 ?_
        rw [hcu2]
        walk_at "go"
        refine go_dpK (n := 1) hS3 rfl hkc (by omega) rfl fun H4 hS4 => ?_
        simp only [List.set_cons_succ, List.set_cons_zero] at hS4
        walk_at "go"
        refine go_fldI hxx3 hS4.gh cl n4 rfl ?_
        walk_at "go"
        refine go_ixO (n := 2) hS4 rfl kt ?_
        have ed : o.getD k none = arA o k := rfl
        rw [ed]
        have fin : (stp2 ts lag) (arA o k) = true → Sta K G H [a1, a2] G3 [(pl, .lst (l2.map nV)), (pc, .dK (cameK (c2 ++ [(k, cur)]))), (a1, .lst (o.map oV)), (a2, .lst (t.map oV))] H4 →
            (sprd o (stp2 ts lag) cur nr came lot = (c2 ++ [(k, cur)], l2, some k)) ∧ ∃ G5, Same G3 G5 ∧ Sta K G H [a1, a2] G5 [(a1, .lst (o.map oV)), (a2, .lst (t.map oV))] H4 ∧ G5 pc = some (.dK (cameK (c2 ++ [(k, cur)]))) ∧ TurnR (c2 ++ [(k, cur)]) (c2 ++ [(k, cur)]).length (clrA t (arA o k)) o k ∧ seekF t o (stp2 ts lag) (nearR os ts lag) start = .inl (turnF (c2 ++ [(k, cur)]) (c2 ++ [(k, cur)]).length (clrA t (arA o k)) o k) := fun hz s4 => by
          rw [if_pos hz] at eR
          rw [← eR] at eT
          obtain ⟨hS6, e6⟩ := s4.pop.frz pc0
          have tr := bf2.turns mt rfl hst (by omega) hb hlt2 hkc (by rw [hcu2, hnr]; exact kmem)
          rw [hcu2] at tr
          obtain ⟨o', eo, _, tr⟩ := tr
          subst eo
          refine ⟨eR.symm, _, e6, hS6, upd_same, tr, ?_⟩
          unfold seekF
          rw [← eT]
        cases hz : arA o k with
        | none =>
          obtain ⟨_, G5, e6, hS6, hcd, tr, eS⟩ := fin (by rw [hz]; rfl) hS4
          rw [hz] at tr eS
          walk_at "go"
          refine go_mtkI (e6 _ _ hxx3) hS6.gh rfl ?_
          walk_at "go"
          refine go_turn2 (n1 := 0) (n2 := 1) (mt := none) hS6 (hx1'.up ((e2.trans e3).trans e6)) hcd rfl rfl hn rfl (fun j z => by cases z) tr fun G7 H7 e7 hS7 => ?_
          simp only [List.set_cons_succ, List.set_cons_zero] at hS7
          walk_at "go"
          exact q1 _ eS _ _ hS7.adv (hS7.get (i := 0) rfl) (hS7.get (i := 1) rfl)
        | some j =>
          have jt : j < t.length := arA_lt (mt.g _ _ hz)
          walk_at "go"
          refine go_fldI hxx3 hS4.gh cl n2 rfl ?_
          walk_at "go"
          refine go_ixK (hsx.up (e2.trans e3)) hS4.gh (lotB_at (os := ts) (k := (j : Int)) (by omega) (by omega)) fun v1 hv1 => ?_
          walk_at "go"
          refine go_fldI hxx3 hS4.gh cl n3 rfl ?_
          walk_at "go"
          refine go_long hS4 hv1 ?_
          walk_at "go"
          cases hl : longB (lotB ts (j : Int)) lag with
          | false =>
            obtain ⟨_, G5, e6, hS6, hcd, tr, eS⟩ := fin (by rw [hz]; show (!longB (lotB ts (j : Int)) lag) = true; rw [hl]; rfl) hS4
            rw [hz] at tr eS
            walk_at "go"
            refine go_mtkI (e6 _ _ hxx3) hS6.gh rfl ?_
            walk_at "go"
            refine go_turn2 (n1 := 0) (n2 := 1) (mt := some j) hS6 (hx1'.up ((e2.trans e3).trans e6)) hcd rfl rfl hn rfl (fun j2 z => by cases z; exact jt) tr fun G7 H7 e7 hS7 => ?_
            simp only [List.set_cons_succ, List.set_cons_zero] at hS7
            walk_at "go"
            exact q1 _ eS _ _ hS7.adv (hS7.get (i := 0) rfl) (hS7.get (i := 1) rfl)
          | true =>
            have hns : ¬ stp2 ts lag (some j) = true := by
              show ¬ (!longB (lotB ts (j : Int)) lag) = true
              rw [hl]
              decide
            rw [hz, if_neg hns] at eR
            walk_at "go"
            rename_i H5 hS5
            have el : l2.map nV ++ [oV (some j)] = (l2 ++ [j]).map nV := by rw [List.map_append]; rfl
            rw [el] at hS5
            refine Nx.mk hS5 e3 ⟨c2 ++ [(k, cur)], l2 ++ [j], _, _, rfl, rfl, ?_, by rw [List.length_append]; omega, ?_, eR⟩
            · have := bf2.grow hkc (by rw [hz]; exact Bool.eq_false_iff.mpr hns) hlt2 (by rw [hcu2, hnr]; exact kmem)
              rw [hcu2, hz] at this
              rw [htake]
              exact this
            · rw [← hcu2, List.getD, List.getD, List.getElem?_append_left hlt2]
    rintro σ3 G3 M3 H3 e3 hS3 ⟨c2, l2, u3, w3, rfl, rfl, bf2, hlt2, hcu2, eR⟩
    rw [List.length_map] at bf2 eR
    rw [List.drop_length, sprd] at eR
    rw [List.take_length] at bf2
    rw [← eR] at eT
    walk_at "go"
    have hlm := bf2.lot_le mt rfl hst (by omega)
    refine go_aug (x := .int (at_ : Int)) rfl ?_
    walk_at "go"
    refine ⟨_, _, rfl, rfl, ?_⟩
    refine NW.mk (m' := m) hS3 (e1.trans (e2.trans e3)) (by omega) ⟨at_ + 1, c2, l2, _, _, rfl, rfl, bf2.next hlt2 (fun k hk => by rw [hcu2, hnr] at hk; exact hk), by omega, by omega, eT⟩
  · refine WhQ.ff (decide_eq_false (by omega)) ?_
    have eL : bfsF o (stp2 ts lag) (nearR os ts lag) m at_ came lot = .inr lot := by
      cases m with
      | zero => rfl
      | succ m => rw [bfsF, if_neg hlt]
    have eS : seekF t o (stp2 ts lag) (nearR os ts lag) start = .inr lot := by
      unfold seekF
      rw [← eT, eL]
    walk_at "go"
    refine go_sortN (n := 0) hS1 rfl fun p2 G2 H2 e2 hS2 hr2 => ?_
    walk_at "go"
    exact q0 lot eS _ _ _ hS2.adv (hS2.get (i := 2) rfl) (hS2.get (i := 3) rfl) hr2
theorem go_pair2 {A : Ad} {G0 H0 G H : Hp} {D : List Addr} {M : List (Addr × HO)} {Q : VK} {E : XK} {x a1 a2 : Addr} {start n1 n2 : Nat} {kk : Bool} {os ts : List Bar} {lag : Int} {o t : Ar} (hS : Sta K G0 H0 D G M H) (hx : IsSch K G A.C_Search x kk os ts lag a1 a2) (h1 : M[n1]? = some (a1, .lst (o.map oV))) (h2 : M[n2]? = some (a2, .lst (t.map oV))) (hn : a1 ≠ a2) (sch : Sch os ts lag (o, t)) (ls : start < ts.length) (hs : arA t start = none)
    (q0 : ∀ lot, seekF t o (stp2 ts lag) (nearR os ts lag) start = .inr lot → ∀ p G1 H1, Same G G1 → Sta K G0 H0 D G1 M H1 → Rp K G1 (.ref p) (.lst ((srtN lot).map .int)) → Q (.ref p) H1)
    (q1 : ∀ r : Ar × Ar, seekF t o (stp2 ts lag) (nearR os ts lag) start = .inl r → ∀ G1 H1, Same G G1 → Sta K G0 H0 D G1 ((M.set n1 (a1, .lst (r.2.map oV))).set n2 (a2, .lst (r.1.map oV))) H1 → Q .non H1) : spPair2 K A.C_Search [.ref x, .int (start : Int)] H Q E := by
  refine ⟨x, start, rfl, kk, G, os, ts, lag, a1, a2, o, t, hS.gh, hx, (hS.mh _ (List.mem_of_getElem? h1)).2.1, (hS.mh _ (List.mem_of_getElem? h2)).2.1, hn, hS.get h1, hS.get h2, sch, ls, hs, fun lot e p G1 H1 ad k1 k2 r => q0 lot e p G1 H1 ad.gg ?_ r, fun r e G1 H1 ad k1 k2 => q1 r e G1 H1 ad.gg (hS.callM2 h1 h2 hn ad k1 k2)⟩
  have := hS.callM2 h1 h2 hn ad k1 k2
  rw [set_same h1, set_same h2] at this
  exact this
/-! ### pair_within -/
theorem forEK {K : PySem.W.Frag} {G0 H0 G H : Hp} {D : List Addr} {M : List (Addr × HO)} {σ : L2.St} {nx bk ct : L2.St → Hp → Prop} {rt : VK} {ts : TS} {ds : List Dt} {k : Bool} {a : Addr} {xs : List V} {i1 j1 : Nat} (hS : Sta K G0 H0 D G M H) (hq : SqK k K G a xs) (hr : RpAll K G xs ds) (W : Nat → L2.St → Hp → List (Addr × HO) → Prop) (h0 : W 0 σ G M)
    (hs : ∀ i x d σ' G1 M1 H1, i < ds.length → ds[i]? = some d → Same G G1 → Sta K G0 H0 D G1 M1 H1 → Rp K G1 x d → (∃ G2, Same G2 G1 ∧ W i σ' G2 M1) → ∀ σ2, List.set (List.set σ' i1 (some (.int i))) j1 (some x) = σ2 → ts ⟨Nx K G0 H0 D G (W (i + 1)), rt, nx, Nx K G0 H0 D G (W (i + 1))⟩ σ2 H1)
    (hd : ∀ σ' G1 M1 H1, Same G G1 → Sta K G0 H0 D G1 M1 H1 → W ds.length σ' G1 M1 → nx σ' H1) : ForG (IteK k K a) (gTup K 2 (gCons (gName i1) (gCons (gName j1) gNil))) ts ⟨nx, rt, bk, ct⟩ σ H := by
  cases k with
  | true => exact forET hS hq hr W h0 hs hd
  | false => exact forE hS hq hr W h0 hs hd
def oD : Option Nat → Dt
  | none => .non
  | some n => .int (n : Int)
theorem rp_oV {G : Hp} : ∀ l : Ar, RpAll K G (l.map oV) (l.map oD)
  | [] => .nil
  | none :: l => .cons .non (rp_oV l)
  | some n :: l => .cons (.int _) (rp_oV l)
def pwD : Sum (List (Int × Int)) (Bool × List Int) → Dt
  | .inl pr => .tup [.str "paired", .tup (pr.map prD)]
  | .inr r => .tup [.str "lonely", .str (sideS r.1), .tup (r.2.map .int)]
def spPW (K : PySem.W.Frag) : Sp := fun vs H Q _ => ∃ (x y : V) (lag : Int) (k : Bool) (G : Hp) (os ts : List Bar), vs = [x, y, .int lag] ∧ Same G H ∧ Rp K G x (seqD k (os.map barD)) ∧ Rp K G y (seqD k (ts.map barD)) ∧ os.length ≤ 1000 ∧ ts.length ≤ 1000 ∧
  ∀ v G1 H1, Adv [] G H G1 H1 → Rp K G1 v (pwD (pwF os ts lag)) → Q v H1
theorem ok_pair_within (T : Txt K mg A) : FnOk P w K mg base CX0 5 A.f_pair_within A.d_pair_within ["first", "second", "lag"] (spPW K) := by
  have G_Search_init := ok_Search_init (P := P) (w := w) (base := base) T
  have G_Search_pair_first := ok_Search_pair_first (P := P) (w := w) (base := base) T
  have G_Search_pair_second := ok_Search_pair_second (P := P) (w := w) (base := base) T
  have G_is_long := ok_is_long (P := P) (w := w) (base := base) T
  refine T.F_pair_within.ok sc_pair_within (fun vs H Q E h => by first | (obtain ⟨rfl, _⟩ := h; rfl) | (obtain ⟨_, rfl, _⟩ := h; rfl) | (obtain ⟨_, _, rfl, _⟩ := h; rfl) | (obtain ⟨_, _, _, rfl, _⟩ := h; rfl) | (obtain ⟨_, _, _, _, rfl, _⟩ := h; rfl) | (obtain ⟨_, _, _, _, _, rfl, _⟩ := h; rfl) | (obtain ⟨_, _, _, _, _, _, rfl, _⟩ := h; rfl) | (obtain ⟨_, _, _, _, _, _, _, rfl, _⟩ := h; rfl) | (obtain ⟨_, _, _, _, _, _, _, _, rfl, _⟩ := h; rfl) | (obtain ⟨_, _, _, _, _, _, _, _, _, rfl, _⟩ := h; rfl) | (obtain ⟨_, _, _, _, _, _, _, _, _, _, rfl, _⟩ := h; rfl) | (obtain ⟨_, _, _, _, _, _, _, _, _, _, _, rfl, _⟩ := h; rfl) | (obtain ⟨_, _, _, _, _, _, _, _, _, _, _, _, rfl, _⟩ := h; rfl) | (obtain ⟨_, _, _, _, _, _, _, _, _, _, _, _, _, rfl, _⟩ := h; rfl) | exact wk_len h) (fun cdv AA outer s H vs Q E hr h => ?_)
  obtain ⟨x, y, lag, k, G, os, ts, rfl, hG, hx, hy, b1, b2, q⟩ := h
  have cl := T.cl_Search
  have n4 := T.na_Search_ours
  have n5 := T.na_Search_theirs
  refine ⟨_, (pss_cons (ps_set (i := 3) sc_pair_within.nd rfl (by first | exact Or.inl rfl | exact Or.inr rfl) (pe_makeS (E := fun _ _ _ _ => False) T.mk_Search G_Search_init (hr.mono (by first | decide | omega)) (by rfl) T.c_Search T.b_Search_init (fun σ => pass0S σ) (pa_cons (pv 0) (pa_cons (pv 1) (pa_cons (pv 2) pa_nil)))))
      (pss_cons (ps_for PassesOwn.never rfl (pi_enumA (by rfl) T.z_enumerate (pa_cons (pv 0) pa_nil)) (pg_tup (by rfl) (pgs_cons (pg_name (i := 4) sc_pair_within.nd rfl (by first | exact Or.inl rfl | exact Or.inr rfl)) (pgs_cons (pg_name (i := 5) sc_pair_within.nd rfl (by first | exact Or.inl rfl | exact Or.inr rfl)) pgs_nil))) (pss_one (ps_if (pt_val (pe_callN G_is_long (hr.mono (by first | decide | omega)) (by rfl) T.m_is_long T.F_is_long.kp T.k1_is_long pass0 (pa_cons (pv 5) pa_nil) (pk_cons (pv 2) pk_nil))) (pss_cons (ps_set (i := 6) sc_pair_within.nd rfl (by first | exact Or.inl rfl | exact Or.inr rfl) (pe_methS (E := fun _ _ _ _ => False) (pv 3) T.cl_Search T.me_Search_pair_first G_Search_pair_first (hr.mono (by first | decide | omega)) T.b_Search_pair_first (fun σ => pass0S σ) (pa_cons (pv 4) pa_nil)))
      (pss_one (ps_if (pt_cmp (pc_notN (pv 6))) (pss_one (ps_ret (pe_tup (pa_cons pe_str (pa_cons pe_str (pa_cons (pe_callTy (T := "tuple") b_tuple (by rfl) T.z_tuple (by decide +kernel) (pa_cons (pv 6) pa_nil)) pa_nil)))))) pss_nil))) pss_nil)))
      (pss_cons (ps_for PassesOwn.never rfl (pi_enumA (by rfl) T.z_enumerate (pa_cons (pv 1) pa_nil)) (pg_tup (by rfl) (pgs_cons (pg_name (i := 4) sc_pair_within.nd rfl (by first | exact Or.inl rfl | exact Or.inr rfl)) (pgs_cons (pg_name (i := 5) sc_pair_within.nd rfl (by first | exact Or.inl rfl | exact Or.inr rfl)) pgs_nil))) (pss_one (ps_if (PW.pt (pw_and (pt_val (pe_callN G_is_long (hr.mono (by first | decide | omega)) (by rfl) T.m_is_long T.F_is_long.kp T.k1_is_long pass0 (pa_cons (pv 5) pa_nil) (pk_cons (pv 2) pk_nil))) (pw_and1 (pt_cmp (pc_isN (pe_ix ix_seq (pe_fld (pv 3) rfl) (pv 4) (fun _ _ => rfl))))))) (pss_cons (ps_set (i := 6) sc_pair_within.nd rfl (by first | exact Or.inl rfl | exact Or.inr rfl) (pe_methS (E := fun _ _ _ _ => False) (pv 3) T.cl_Search T.me_Search_pair_second G_Search_pair_second (hr.mono (by first | decide | omega)) T.b_Search_pair_second (fun σ => pass0S σ) (pa_cons (pv 4) pa_nil)))
      (pss_one (ps_if (pt_cmp (pc_notN (pv 6))) (pss_one (ps_ret (pe_tup (pa_cons pe_str (pa_cons pe_str (pa_cons (pe_callTy (T := "tuple") b_tuple (by rfl) T.z_tuple (by decide +kernel) (pa_cons (pv 6) pa_nil)) pa_nil)))))) pss_nil))) pss_nil)))
      (pss_one (ps_ret (pe_tup (pa_cons pe_str (pa_cons (pe_callTy (T := "tuple") b_tuple (by rfl) T.z_tuple (by decide +kernel) (pa_cons (pe_lc (own := [("one", 7), ("other", 8)]) (g := gTup K 2 (gCons (gName 7) (gCons (gName 8) gNil))) rfl sc_pair_within.nd (pi_enumA (by rfl) T.z_enumerate (pa_cons (pe_fld (pv 3) rfl) pa_nil)) (blkOk_by (N := ["first", "second", "lag", "search", "place", "bar", "lot", "one", "other"]) (sc := defScope s_pair_within) (by decide +kernel)) (fun _ _ _ _ _ => pg_tup (by rfl) (pgs_cons (pg_name (i := 7) sc_pair_within.nd rfl (by first | exact Or.inl rfl | exact Or.inr rfl)) (pgs_cons (pg_name (i := 8) sc_pair_within.nd rfl (by first | exact Or.inl rfl | exact Or.inr rfl)) pgs_nil))) (fun _ _ _ _ _ => (pts_one (pt_cmp (pc_notN (pv 8))))) (fun _ _ _ _ _ => (pe_tup (pa_cons (pv 7) (pa_cons (pv 8) pa_nil))))) pa_nil)) pa_nil)))))))), ?_⟩
  try dsimp only [cxOf, Cx.nox, Cx.wish, Cx.blk]
  have hS := Sta.start (K := K) hG
  refine go_start (σ := [some x, some y, some (.int lag), none, none, none, none, none, none]) rfl ?_
  walk_at "go"
  refine go_search hS hx hy b1 b2 fun xs_ a1 a2 G1 H1 e1 hn hS1 hsc => ?_
  have hx1 := hx.up e1
  walk_at "go"
  refine go_etkK hx1 hS1.gh fun a xs ea hq hr => ?_
  cases ea
  have s0 : Sch os ts lag (emptA os.length, emptA ts.length) := ⟨by simp [emptA], by simp [emptA], ⟨fun i j e => absurd e (by rw [emptA_at]; exact fun z => by cases z), fun i j e => absurd e (by rw [emptA_at]; exact fun z => by cases z), fun i j e => absurd e (by rw [emptA_at]; exact fun z => by cases z)⟩⟩
  have fin : ∀ {v : V} {G2 H2 : Hp} {M2 : List (Addr × HO)}, Sta K G H [] G2 M2 H2 → Rp K G2 v (pwD (pwF os ts lag)) → Q v H2 := fun s r => q _ _ _ s.adv r
  have lon1 : ∀ lot, ph1F os ts lag (List.range os.length) (emptA os.length, emptA ts.length) = .inr lot → pwF os ts lag = .inr (false, srtN lot) := fun lot e => by unfold pwF; rw [e]
  have m1 : (os.map barD).length = os.length := List.length_map ..
  have m2 : (ts.map barD).length = ts.length := List.length_map ..
  refine forEK hS1 hq hr (fun i σ G2 M2 => ∃ (s : Ar × Ar) (u v w : Option V), M2 = [(a1, .lst (s.1.map oV)), (a2, .lst (s.2.map oV))] ∧ σ = [some (.ref a), some y, some (.int lag), some (.ref xs_), u, v, w, none, none] ∧ Sch os ts lag s ∧ (∀ i', i ≤ i' → arA s.1 i' = none) ∧ ph1F os ts lag ((List.range os.length).drop i) s = ph1F os ts lag (List.range os.length) (emptA os.length, emptA ts.length)) ⟨(emptA os.length, emptA ts.length), _, _, _, rfl, rfl, s0, fun i' _ => emptA_at _ _, rfl⟩ ?_ ?_
  · rintro i z d σ2 G2 M2 H2 hi hd e2 hS2 hz ⟨_, _, s, u, v, w, rfl, rfl, sch, hno, eP⟩ σ3 eσ
    simp only [List.set_cons_zero, List.set_cons_succ] at eσ
    subst eσ
    have hi' : i < os.length := by omega
    rw [List.getElem?_map, List.getElem?_eq_getElem hi'] at hd
    cases hd
    have elot : lotB os (i : Int) = os[i] := by
      unfold lotB
      rw [Int.toNat_natCast, List.getD, List.getElem?_eq_getElem hi']
      rfl
    have hdrop : (List.range os.length).drop i = i :: (List.range os.length).drop (i + 1) := by
      rw [List.drop_eq_getElem_cons (by simpa using hi'), List.getElem_range]
    rw [hdrop, ph1F] at eP
    have hsc2 := hsc.up e2
    walk_at "go"
    refine go_long hS2 hz ?_
    rw [← elot]
    walk_at "go"
    cases hl : longB (lotB os (i : Int)) lag with
    | false =>
      have lgd : ¬ lgB os lag i = true := by
        show ¬ longB (lotB os (i : Int)) lag = true
        rw [hl]
        decide
      rw [if_neg lgd] at eP
      walk_at "go"
      exact Nx.mk hS2 e2 ⟨s, _, _, _, rfl, rfl, sch, fun i' h => hno i' (by omega), eP⟩
    | true =>
      have lgd : lgB os lag i = true := hl
      rw [if_pos lgd] at eP
      walk_at "go"
      have hsc2' := hsc2
      obtain ⟨dx, fx, sx, hxx, _⟩ := hsc2
      refine go_mtkI hxx hS2.gh rfl ?_
      walk_at "go"
      refine go_pair1 (n1 := 0) (n2 := 1) hS2 hsc2' rfl rfl hn sch hi' (hno i (Nat.le_refl _)) (fun lot eS p3 G3 H3 e3 hS3 hr3 => ?_) (fun r eS G3 H3 e3 hS3 => ?_)
      · rw [eS] at eP
        have hw := lon1 lot eP.symm
        walk_at "go"
        refine fin (by assumption) ?_
        rw [hw]
        walk_at "rp"
      · rw [eS] at eP
        simp only [List.set_cons_zero, List.set_cons_succ] at hS3
        walk_at "go"
        rcases seek_ok (stp := stp1) sch.mt rfl (hno i (Nat.le_refl _)) (by rw [sch.l1]; exact hi') (fun i' k hk => by rw [sch.l2]; exact (nearS_mem.mp hk).1) with ⟨r', k', e', m', la, lb, st, d1, d2⟩ | ⟨lot, e', _⟩
        · rw [eS] at e'
          cases e'
          refine Nx.mk hS3 (e2.trans e3) ⟨r, _, _, _, rfl, rfl, ⟨by rw [la]; exact sch.l1, by rw [lb]; exact sch.l2, m'⟩, fun i' h => ?_, eP⟩
          cases ex : arA r.1 i' with
          | none => rfl
          | some y' =>
            rcases (d1 i').mp (by rw [ex]; rfl) with ⟨z, _⟩ | z
            · rw [hno i' (by omega)] at z
              cases z
            · omega
        · rw [eS] at e'
          cases e'
  · rintro σ2 G2 M2 H2 e2 hS2 ⟨s, u, v, w, rfl, rfl, sch, _, eP⟩
    rw [m1, List.drop_eq_nil_of_le (by simp), ph1F] at eP
    have pw2 : pwF os ts lag = match ph2F os ts lag (List.range ts.length) s with
      | .inr lot => .inr (true, srtN lot)
      | .inl s' => .inl (prsO os.length s'.1) := by
      unfold pwF
      rw [← eP]
      try rfl
    clear eP
    have hsc2 := hsc.up e2
    have hy2 := (hy.up e1).up e2
    generalize hs0 : s = s0' at *
    clear hs0
    walk_at "go"
    refine go_etkK hy2 hS2.gh fun b xb eb hqb hrb => ?_
    cases eb
    refine forEK hS2 hqb hrb (fun i σ G3 M3 => ∃ (s : Ar × Ar) (u v w : Option V), M3 = [(a1, .lst (s.1.map oV)), (a2, .lst (s.2.map oV))] ∧ σ = [some (.ref a), some (.ref b), some (.int lag), some (.ref xs_), u, v, w, none, none] ∧ Sch os ts lag s ∧ ph2F os ts lag ((List.range ts.length).drop i) s = ph2F os ts lag (List.range ts.length) s0') ⟨s0', _, _, _, rfl, rfl, sch, rfl⟩ ?_ ?_
    · rintro i z d σ2 G3 M3 H3 hi hd e3 hS3 hz ⟨_, _, s, u, v, w, rfl, rfl, sch, eP⟩ σ3 eσ
      simp only [List.set_cons_zero, List.set_cons_succ] at eσ
      subst eσ
      have hi' : i < ts.length := by omega
      rw [List.getElem?_map, List.getElem?_eq_getElem hi'] at hd
      cases hd
      have elot : lotB ts (i : Int) = ts[i] := by
        unfold lotB
        rw [Int.toNat_natCast, List.getD, List.getElem?_eq_getElem hi']
        rfl
      have hdrop : (List.range ts.length).drop i = i :: (List.range ts.length).drop (i + 1) := by
        rw [List.drop_eq_getElem_cons (by simpa using hi'), List.getElem_range]
      rw [hdrop, ph2F] at eP
      have hsc3 := hsc2.up e3
      have hsc3' := hsc3
      obtain ⟨dx, fx, sx, hxx, _⟩ := hsc3
      walk_at "go"
      refine go_long hS3 hz ?_
      rw [← elot]
      walk_at "go"
      cases hl : longB (lotB ts (i : Int)) lag with
      | false =>
        have lgd : ¬ lgB ts lag i = true := by
          show ¬ longB (lotB ts (i : Int)) lag = true
          rw [hl]
          decide
        rw [if_neg (fun z => lgd z.1)] at eP
        walk_at "go"
        exact Nx.mk hS3 e3 ⟨s, _, _, _, rfl, rfl, sch, eP⟩
      | true =>
        have lgd : lgB ts lag i = true := hl
        walk_at "go"
        refine go_fldI hxx hS3.gh cl n5 rfl ?_
        walk_at "go"
        refine go_ixO (n := 1) hS3 rfl (by rw [sch.l2]; exact hi') ?_
        have ed : s.2.getD i none = arA s.2 i := rfl
        rw [ed]
        cases hm : arA s.2 i with
        | some j =>
          rw [if_neg (fun z => by rw [hm] at z; cases z.2)] at eP
          walk_at "go"
          exact Nx.mk hS3 e3 ⟨s, _, _, _, rfl, rfl, sch, eP⟩
        | none =>
          rw [if_pos ⟨lgd, hm⟩] at eP
          walk_at "go"
          refine go_mtkI hxx hS3.gh rfl ?_
          walk_at "go"
          refine go_pair2 (n1 := 0) (n2 := 1) hS3 hsc3' rfl rfl hn sch hi' hm (fun lot eS p4 G4 H4 e4 hS4 hr4 => ?_) (fun r eS G4 H4 e4 hS4 => ?_)
          · rw [eS] at eP
            rw [← eP] at pw2
            walk_at "go"
            refine fin (by assumption) ?_
            rw [pw2]
            walk_at "rp"
          · rw [eS] at eP
            simp only [List.set_cons_zero, List.set_cons_succ] at hS4
            walk_at "go"
            rcases seek_ok (stp := stp2 ts lag) sch.sw rfl hm (by rw [sch.l2]; exact hi') (fun i' k hk => by rw [sch.l1]; exact (nearR_mem.mp hk).1) with ⟨r', k', e', m', la, lb, st, d1, d2⟩ | ⟨lot, e', _⟩
            · rw [eS] at e'
              cases e'
              refine Nx.mk hS4 (e3.trans e4) ⟨(r.2, r.1), _, _, _, rfl, rfl, ⟨by rw [lb]; exact sch.l1, by rw [la]; exact sch.l2, ⟨fun i j e => m'.g _ _ e, fun i j e => m'.f _ _ e, fun i j e => ?_⟩⟩, eP⟩
              have e5 := m'.g _ _ e
              exact nearS_mem.mpr ⟨by rw [← sch.l2, ← la]; exact arA_lt e5, (nearR_mem.mp (m'.nr _ _ e5)).2⟩
            · rw [eS] at e'
              cases e'
    · rintro σ2 G3 M3 H3 e3 hS3 ⟨s, u, v, w, rfl, rfl, sch, eP⟩
      rw [m2, List.drop_eq_nil_of_le (by simp), ph2F] at eP
      rw [← eP] at pw2
      obtain ⟨dx, fx, sx, hxx, _⟩ := hsc2.up e3
      have h0 : H a1 = none := by
        rcases (hS3.mh (a1, .lst (s.1.map oV)) (by simp)).2.2 with z | z
        · cases z
        · exact z
      obtain ⟨G4, e4, hS4, hr4⟩ := hS3.frzL h0 (rp_oV s.1)
      have lo : s.1.length = os.length := sch.l1
      walk_at "go"
      refine go_fldI (e4 _ _ hxx) hS4.gh cl n4 rfl ?_
      walk_at "go"
      refine go_etkL hr4 hS4.gh fun c xc ec hqc hrc => ?_
      cases ec
      refine lcFiltE (k := false) (as := s.1) (Da := oD) (p := fun i => (arA s.1 i).isSome) (F := fun i => prD ((i : Int), (((arA s.1 i).getD 0 : Nat) : Int))) hS4 hqc hrc (by omega) ?_ ?_
      · intro i z c L5 G5 vs5 es5 H5 Z Z0 hi hc hz e5 l5 hS5 hvs5 fin5 fin50 σ6 eσ
        have ec : arA s.1 i = c := by
          unfold arA
          rw [List.getD, hc]
          rfl
        rw [ec] at fin5 fin50
        subst eσ
        simp only [wipe, List.set_cons_zero, List.set_cons_succ, List.map_cons, List.map_nil, List.foldl_cons, List.foldl_nil]
        refine ⟨trivial, ?_⟩
        cases c with
        | none =>
          cases Rp.non_inv hz
          walk_at "go"
          exact fin50 rfl _ _ (Same.refl _) hS5
        | some j =>
          have hz' : Rp K G5 z (.int (j : Int)) := hz
          cases Rp.int_inv hz'
          walk_at "go"
          refine fin5 rfl _ _ _ (by assumption) (by assumption) ?_
          assumption
      intro p5 G5 H5 e5 hS5 hr5
      walk_at "go"
      refine fin (by assumption) ?_
      rw [pw2]
      have eq : (prsO os.length s.1).map prD = ((List.range s.1.length).filter fun i : Nat => (arA s.1 i).isSome).map fun i : Nat => prD ((i : Int), (((arA s.1 i).getD 0 : Nat) : Int)) := by
        unfold prsO
        rw [List.map_map, lo]
        rfl
      show Rp K _ _ (.tup [.str "paired", .tup ((prsO os.length s.1).map prD)])
      rw [eq]
      assumption
theorem go_pw {G0 H0 G H : Hp} {D : List Addr} {M : List (Addr × HO)} {Q : VK} {E : XK} {x y : V} {lag : Int} {k : Bool} {os ts : List Bar} (hS : Sta K G0 H0 D G M H) (hx : Rp K G x (seqD k (os.map barD))) (hy : Rp K G y (seqD k (ts.map barD))) (b1 : os.length ≤ 1000) (b2 : ts.length ≤ 1000)
    (q : ∀ v G1 H1, Same G G1 → Sta K G0 H0 D G1 M H1 → Rp K G1 v (pwD (pwF os ts lag)) → Q v H1) : spPW K [x, y, .int lag] H Q E :=
  ⟨x, y, lag, k, G, os, ts, rfl, hS.gh, hx, hy, b1, b2, fun v G1 H1 ad r => q v G1 H1 ad.gg (hS.call ad) r⟩
local macro_rules | `(tactic| walk_at "s") => `(tactic| first
  | ((with_reducible refine' go_near (G := ?G) (b := ?b) (c := ?c) ?hS ?hx ?hy ?_); (case hS => assumption); (case hx => walk_at "rp"); (case hy => walk_at "rp"))
  | ((with_reducible refine' go_long (G := ?G) (b := ?b) ?hS ?hx ?_); (case hS => assumption); (case hx => walk_at "rp")) | fail)
/-! ### filters over enumerate whose list is known as it is -/
section
variable {K : PySem.W.Frag} {G0 H0 G H : Hp} {D : List Addr} {M : List (Addr × HO)} {σ : L2.St} {Q : VK} {tt : TT} {te : TE} {vss : List Nat} {k : Bool} {a : Addr} {xs : List V}
theorem lcFiltER {α : Type} {as : List α} {Da : α → Dt} {p : Nat → Bool} {F : Nat → Dt} {i1 j1 : Nat} (hS : Sta K G0 H0 D G M H) (hq : SqK k K G a xs) (hr : RpAll K G xs (as.map Da)) (hl : as.length ≤ 100000)
    (hs : ∀ (i : Nat) x c L G1 vs es H1 (Z Z0 : List (Addr × HO) → List Dt → Prop), i < as.length → as[i]? = some c → Rp K G1 x (Da c) → Same G G1 → H0 L = none → Sta K G0 H0 D G1 ((L, .lst vs) :: M) H1 → RpAll K G1 vs es → (p i = true → ∀ y G2 H2, Same G1 G2 → Sta K G0 H0 D G2 ((L, .lst vs) :: M) H2 → Rp K G2 y (F i) → LcY K G0 H0 D G L Z y H2) → (p i = false → ∀ G2 H2, Same G1 G2 → Sta K G0 H0 D G2 ((L, .lst vs) :: M) H2 → LcP K G0 H0 D G L Z0 H2) →
      ∀ σ2, List.set (List.set (wipe σ vss) i1 (some (.int i))) j1 (some x) = σ2 → wipe σ2 vss = wipe σ vss ∧ tt σ2 H1 fun b H4 => if b = true then te σ2 H4 (LcY K G0 H0 D G L Z) else LcP K G0 H0 D G L Z0 H4)
    (hd : ∀ p' G1 H1, Same G G1 → Sta K G0 H0 D G1 M H1 → RpL K G1 p' (((List.range as.length).filter p).map F) → Q (.ref p') H1) : LcG (IteK k K a) (gTup K 2 (gCons (gName i1) (gCons (gName j1) gNil))) tt te vss σ Q H := by
  have xl := hr.length
  rw [List.length_map] at xl
  refine lcIM (walk_eK (xs := xs)) hS (fun H1 e => hq.up e) (fun i M1 es => M1 = M ∧ es = ((List.range i).filter p).map F) ⟨rfl, rfl⟩ (fun i x L G1 M1 vs es H1 H2 hi e l0 s r w yy => ?_) (fun p' G1 M1 vs es H1 e l0 s r w => ?_)
  · obtain ⟨rfl, rfl⟩ := w
    obtain ⟨T, v, rfl, hT, eH, h2⟩ := yy
    have hi2 : i < as.length := by omega
    obtain ⟨d, hd', rd⟩ := hr.getV h2
    rw [List.getElem?_map, List.getElem?_eq_getElem hi2] at hd'
    cases hd'
    have len : (((List.range i).filter p).map F).length ≤ i := by
      rw [List.length_map]
      exact Nat.le_trans (List.length_filter_le _ _) (by simp)
    obtain ⟨G2, e2, s2, q2⟩ := s.pair hT eH
    refine go_gpair q2 rfl (hs i v as[i] L G2 vs _ H2 _ _ hi2 (List.getElem?_eq_getElem hi2) (rd.up (e.trans e2)) (e.trans e2) l0 s2 (r.up e2) (fun hp y G3 H3 e3 s3 hy => ?_) (fun hp G3 H3 e3 s3 => ?_) _ rfl)
    · refine lcY s3 ((e.trans e2).trans e3) ((r.up e2).up e3) hy (by omega) ⟨rfl, ?_⟩
      rw [List.range_succ, List.filter_append, List.map_append]
      simp [hp]
    · refine lcN s3 ((e.trans e2).trans e3) ((r.up e2).up e3) ⟨rfl, ?_⟩
      rw [List.range_succ, List.filter_append, List.map_append]
      simp [hp]
  · obtain ⟨rfl, rfl⟩ := w
    rw [xl] at r
    obtain ⟨s2, e2⟩ := s.frz l0
    exact hd p' _ H1 (e.trans e2) s2 ⟨vs, upd_same, r.up e2⟩
end
def spPairing (K : PySem.W.Frag) : Sp := fun vs H Q _ => ∃ (x y z : V) (lag : Int) (G : Hp) (os ts : List Bar) (pr : List (Int × Int)), vs = [x, y, z, .int lag] ∧ Same G H ∧ Rp K G x (.lst (os.map barD)) ∧ Rp K G y (.lst (ts.map barD)) ∧ Rp K G z (.lst (pr.map prD)) ∧ os.length ≤ 1000 ∧ ts.length ≤ 1000 ∧ pr.length < 64 ∧
  ∀ G1 H1, Adv [] G H G1 H1 → Q (.bl (pairF os ts pr lag)) H1
theorem ok_is_pairing (T : Txt K mg A) : FnOk P w K mg base CX0 3 A.f_is_pairing A.d_is_pairing ["first", "second", "pairs", "lag"] (spPairing K) := by
  have G_are_near := ok_are_near (P := P) (w := w) (base := base) T
  have G_is_long := ok_is_long (P := P) (w := w) (base := base) T
  refine T.F_is_pairing.ok sc_is_pairing (fun vs H Q E h => by first | (obtain ⟨rfl, _⟩ := h; rfl) | (obtain ⟨_, rfl, _⟩ := h; rfl) | (obtain ⟨_, _, rfl, _⟩ := h; rfl) | (obtain ⟨_, _, _, rfl, _⟩ := h; rfl) | (obtain ⟨_, _, _, _, rfl, _⟩ := h; rfl) | (obtain ⟨_, _, _, _, _, rfl, _⟩ := h; rfl) | (obtain ⟨_, _, _, _, _, _, rfl, _⟩ := h; rfl) | (obtain ⟨_, _, _, _, _, _, _, rfl, _⟩ := h; rfl) | (obtain ⟨_, _, _, _, _, _, _, _, rfl, _⟩ := h; rfl) | (obtain ⟨_, _, _, _, _, _, _, _, _, rfl, _⟩ := h; rfl) | (obtain ⟨_, _, _, _, _, _, _, _, _, _, rfl, _⟩ := h; rfl) | (obtain ⟨_, _, _, _, _, _, _, _, _, _, _, rfl, _⟩ := h; rfl) | (obtain ⟨_, _, _, _, _, _, _, _, _, _, _, _, rfl, _⟩ := h; rfl) | (obtain ⟨_, _, _, _, _, _, _, _, _, _, _, _, _, rfl, _⟩ := h; rfl) | exact wk_len h) (fun cdv AA outer s H vs Q E hr h => ?_)
  obtain ⟨x, y, z, lag, G, os, ts, pr, rfl, hG, hx, hy, hz, l1, l2, l3, q⟩ := h
  refine ⟨_, (pss_cons (ps_set (i := 4) sc_is_pairing.nd rfl (by first | exact Or.inl rfl | exact Or.inr rfl) (pe_lc (own := [("pair", 9)]) (g := gName 9) rfl sc_is_pairing.nd (pi_list (pv 2)) (blkOk_by (N := ["first", "second", "pairs", "lag", "ours", "theirs", "one", "other", "left", "pair", "place", "bar"]) (sc := defScope s_is_pairing) (by decide +kernel)) (fun _ _ _ _ _ => pg_name (i := 9) sc_is_pairing.nd rfl (by first | exact Or.inl rfl | exact Or.inr rfl)) (fun _ _ _ _ _ => pts_nil) (fun _ _ _ _ _ => (pe_ix (show IxR _ (rIx K) from ix_seq) (pv 9) pe_int (fun _ _ => rfl)))))
      (pss_cons (ps_set (i := 5) sc_is_pairing.nd rfl (by first | exact Or.inl rfl | exact Or.inr rfl) (pe_lc (own := [("pair", 9)]) (g := gName 9) rfl sc_is_pairing.nd (pi_list (pv 2)) (blkOk_by (N := ["first", "second", "pairs", "lag", "ours", "theirs", "one", "other", "left", "pair", "place", "bar"]) (sc := defScope s_is_pairing) (by decide +kernel)) (fun _ _ _ _ _ => pg_name (i := 9) sc_is_pairing.nd rfl (by first | exact Or.inl rfl | exact Or.inr rfl)) (fun _ _ _ _ _ => pts_nil) (fun _ _ _ _ _ => (pe_ix (show IxR _ (rIx K) from ix_seq) (pv 9) pe_int (fun _ _ => rfl)))))
      (pss_cons (ps_if (PW.pt (pw_or (pt_cmpR (op_neD hr.units) (pv 4) (pe_callB (id := "sorted") (cr_sortedSet rfl) (by rfl) T.z_sorted (by decide +kernel) (pa_cons (pe_callTy (T := "set") (cr_setL rfl) (by rfl) T.z_set (by decide +kernel) (pa_cons (pv 4) pa_nil)) pa_nil)) (nomark _)) (pw_or1 (pt_cmpR op_ne (pe_callB (id := "len") b_lenSet (by rfl) T.z_len (by decide +kernel) (pa_cons (pe_callTy (T := "set") (cr_setL rfl) (by rfl) T.z_set (by decide +kernel) (pa_cons (pv 5) pa_nil)) pa_nil)) (pe_callB (id := "len") b_len (by rfl) T.z_len (by decide +kernel) (pa_cons (pv 5) pa_nil)) (nomark _))))) (pss_one (ps_ret pe_bl)) pss_nil)
      (pss_cons (ps_for PassesOwn.never rfl (pi_list (pv 2)) (pg_tup (by rfl) (pgs_cons (pg_name (i := 6) sc_is_pairing.nd rfl (by first | exact Or.inl rfl | exact Or.inr rfl)) (pgs_cons (pg_name (i := 7) sc_is_pairing.nd rfl (by first | exact Or.inl rfl | exact Or.inr rfl)) pgs_nil))) (pss_cons (ps_if (PW.pt (pw_or (pt_not (pt_chain op_le op_lt pe_int (pv 6) (pe_callB (id := "len") b_len (by rfl) T.z_len (by decide +kernel) (pa_cons (pv 0) pa_nil)))) (pw_or1 (pt_not (pt_chain op_le op_lt pe_int (pv 7) (pe_callB (id := "len") b_len (by rfl) T.z_len (by decide +kernel) (pa_cons (pv 1) pa_nil))))))) (pss_one (ps_ret pe_bl)) pss_nil)
      (pss_one (ps_if (pt_not (pt_val (pe_callN G_are_near (hr.mono (by first | decide | omega)) (by rfl) T.m_are_near T.F_are_near.kp T.k2_are_near pass0 (pa_cons (pe_ix ix_seq (pv 0) (pv 6) (fun _ _ => rfl)) (pa_cons (pe_ix ix_seq (pv 1) (pv 7) (fun _ _ => rfl)) pa_nil)) (pk_cons (pv 3) pk_nil)))) (pss_one (ps_ret pe_bl)) pss_nil))))
      (pss_cons (ps_setLc (i := 8) (own := [("place", 10), ("bar", 11)]) (g := gTup K 2 (gCons (gName 10) (gCons (gName 11) gNil))) rfl sc_is_pairing.nd rfl rfl (sw_true rfl rfl rfl (by decide +kernel)) (pi_enum (by rfl) T.z_enumerate (pa_cons (pv 0) pa_nil)) (blkOk_by (N := ["first", "second", "pairs", "lag", "ours", "theirs", "one", "other", "left", "pair", "place", "bar"]) (sc := defScope s_is_pairing) (by decide +kernel)) (fun _ _ _ _ _ => pg_tup (by rfl) (pgs_cons (pg_name (i := 10) sc_is_pairing.nd rfl (by first | exact Or.inl rfl | exact Or.inr rfl)) (pgs_cons (pg_name (i := 11) sc_is_pairing.nd rfl (by first | exact Or.inl rfl | exact Or.inr rfl)) pgs_nil))) (fun _ _ _ _ _ => (pts_one (pt_cmpR (show OpR _ _ (rIn K true) from op_notIn_seq) (pv 10) (pv 4) (by rfl)))) (fun _ _ _ _ _ => (pv 11)))
      (pss_cons (ps_set (i := 8) sc_is_pairing.nd rfl (by first | exact Or.inl rfl | exact Or.inr rfl) (pe_op op_cat (pv 8) (pe_lc (own := [("place", 10), ("bar", 11)]) (g := gTup K 2 (gCons (gName 10) (gCons (gName 11) gNil))) rfl sc_is_pairing.nd (pi_enum (by rfl) T.z_enumerate (pa_cons (pv 1) pa_nil)) (blkOk_by (N := ["first", "second", "pairs", "lag", "ours", "theirs", "one", "other", "left", "pair", "place", "bar"]) (sc := defScope s_is_pairing) (by decide +kernel)) (fun _ _ _ _ _ => pg_tup (by rfl) (pgs_cons (pg_name (i := 10) sc_is_pairing.nd rfl (by first | exact Or.inl rfl | exact Or.inr rfl)) (pgs_cons (pg_name (i := 11) sc_is_pairing.nd rfl (by first | exact Or.inl rfl | exact Or.inr rfl)) pgs_nil))) (fun _ _ _ _ _ => (pts_one (pt_cmpR (show OpR _ _ (rIn K true) from op_notIn_seq) (pv 10) (pv 5) (by rfl)))) (fun _ _ _ _ _ => (pv 11)))))
      (pss_one (ps_ret (pe_not (pe_callB (id := "any") (cr_any rfl) (by rfl) T.z_any (by decide +kernel) (pa_cons (pe_lc (own := [("bar", 11)]) (g := gName 11) rfl sc_is_pairing.nd (pi_list (pv 8)) (blkOk_by (N := ["first", "second", "pairs", "lag", "ours", "theirs", "one", "other", "left", "pair", "place", "bar"]) (sc := defScope s_is_pairing) (by decide +kernel)) (fun _ _ _ _ _ => pg_name (i := 11) sc_is_pairing.nd rfl (by first | exact Or.inl rfl | exact Or.inr rfl)) (fun _ _ _ _ _ => pts_nil) (fun _ _ _ _ _ => (pe_callN G_is_long (hr.mono (by first | decide | omega)) (by rfl) T.m_is_long T.F_is_long.kp T.k1_is_long pass0 (pa_cons (pv 11) pa_nil) (pk_cons (pv 3) pk_nil)))) pa_nil))))))))))), ?_⟩
  try dsimp only [cxOf, Cx.nox, Cx.wish, Cx.blk]
  have hS := Sta.start (K := K) hG
  have fin : ∀ {b : Bool} {G1 H1 : Hp}, Sta K G H [] G1 [] H1 → b = pairF os ts pr lag → Q (.bl b) H1 := fun s e => by subst e; exact q _ _ s.adv
  refine go_start (σ := [some x, some y, some z, some (.int lag), none, none, none, none, none, none, none, none]) rfl ?_
  walk_at "go"
  refine lcMapL (as := pr) (Da := prD) (F := fun p => .int p.1) hS (by assumption) (by assumption) (by omega) ?_ ?_
  · intro u c L4 G4 vs4 es4 H4 Z hc hu4 e4 l4 hS4 hvs4 fin4
    have hu' : Rp K G4 u (.tup [.int c.1, .int c.2]) := hu4
    walk_at "go"
    exact fin4 _ _ _ (Same.refl _) hS4 (.int _)
  intro p1 G1 H1 e1 hS1 hr1
  have hz1 := hz.up e1
  have hr1' : Rp K G1 (.ref p1) (.lst ((pr.map (·.1)).map .int)) := by rw [List.map_map]; exact hr1
  walk_at "go"
  refine lcMapL (as := pr) (Da := prD) (F := fun p => .int p.2) hS1 (by assumption) (by assumption) (by omega) ?_ ?_
  · intro u c L4 G4 vs4 es4 H4 Z hc hu4 e4 l4 hS4 hvs4 fin4
    have hu' : Rp K G4 u (.tup [.int c.1, .int c.2]) := hu4
    walk_at "go"
    exact fin4 _ _ _ (Same.refl _) hS4 (.int _)
  intro p2 G2 H2 e2 hS2 hr2
  have hr2' : Rp K G2 (.ref p2) (.lst ((pr.map (·.2)).map .int)) := by rw [List.map_map]; exact hr2
  have hr12 := hr1'.up e2
  have n1 : (pr.map (·.1)).length = pr.length := List.length_map ..
  have n2 : (pr.map (·.2)).length = pr.length := List.length_map ..
  walk_at "go"
  refine go_setOf (ns := pr.map (·.1)) hS2 (.inl hr12) (by omega) fun sv n G3 H3 e3 hS3 hn hsv => ?_
  walk_at "go"
  refine go_sortSet hS3 hsv (by omega) fun p4 ks G4 H4 hk1 hk2 hk3 e4 hS4 hr4 => ?_
  walk_at "go"
  refine go_neInts ((hr12.up e3).up e4) hr4 hS4.gh (by omega) (by omega) ?_
  walk_at "go"
  · rename_i hne
    refine fin hS4 ?_
    have : ascB (pr.map (·.1)) = false := by
      cases ea : ascB (pr.map (·.1)) with
      | false => rfl
      | true => exact absurd ((asc_iff hk1 hk2).mpr ea) hne
    simp [pairF, this]
  rename_i heq
  have ha : ascB (pr.map (·.1)) = true := (asc_iff hk1 hk2).mp heq
  refine go_setOf (ns := pr.map (·.2)) hS4 (.inl ((hr2'.up e3).up e4)) (by omega) fun sv2 n' G5 H5 e5 hS5 hn2 hsv2 => ?_
  walk_at "go"
  refine go_lenSet hS5 hsv2 (by omega) fun ks2 nd km kl => ?_
  have hr25 : Rp K G5 (.ref p2) (.lst ((pr.map (·.2)).map .int)) := ((hr2'.up e3).up e4).up e5
  have hr15 : Rp K G5 (.ref p1) (.lst ((pr.map (·.1)).map .int)) := ((hr12.up e3).up e4).up e5
  walk_at "go"
  · rename_i hne
    refine fin hS5 ?_
    have : decide (pr.map (·.2)).Nodup = false := decide_eq_false fun hx => hne (by have := dup_len nd km hx; rw [List.length_map]; omega)
    simp [pairF, ha, this]
  rename_i heq2 xs0 hr0 hq0
  have nd2 : (pr.map (·.2)).Nodup := nodup_of_len nd km (by rw [List.length_map] at heq2; omega)
  have om : (os.map barD).length = os.length := List.length_map ..
  have tm : (ts.map barD).length = ts.length := List.length_map ..
  have hx5 := hx.up ((((e1.trans e2).trans e3).trans e4).trans e5)
  have hy5 := hy.up ((((e1.trans e2).trans e3).trans e4).trans e5)
  have xl := hr0.length
  rw [List.length_map] at xl
  refine forI (walk_list (xs := xs0)) hS5 (fun H1 e => e.seq hq0) (fun i σ _ M' => M' = [] ∧ (∀ p ∈ pr.take i, okP os ts lag p = true) ∧ ∃ u6 u7, σ = [some x, some y, _, some (.int lag), some (.ref p1), some (.ref p2), u6, u7, none, none, none, none]) ⟨rfl, (fun p hp => by simp at hp), _, _, rfl⟩ (fun i u σ' G6 M6 H6 H7 hi e6 hS6 w yy => ?_) ?_
  · obtain ⟨rfl, acc, u6, u7, rfl⟩ := w
    obtain ⟨rfl, hxi⟩ := yy
    have hi' : i < pr.length := by omega
    obtain ⟨d, hd', rd⟩ := hr0.getV hxi
    rw [List.getElem?_map, List.getElem?_eq_getElem hi'] at hd'
    cases hd'
    obtain ⟨tp, tvs, rfl, htq, htr⟩ := Rp.tup_inv (rd.up e6)
    cases htr with
    | cons t1 t2 => cases t2 with
      | cons t2 t3 =>
        cases t3
        cases Rp.int_inv t1
        cases Rp.int_inv t2
        have bad : okP os ts lag pr[i] = false → ∀ {G9 H9 : Hp}, Sta K G H [] G9 [] H9 → Q (.bl false) H9 := fun e {G9 H9} s => fin s (by
          have z : pr.all (okP os ts lag) = false := List.all_eq_false.mpr ⟨_, List.getElem_mem hi', by rw [e]; decide⟩
          simp [pairF, z])
        refine go_gpair (Same.t hS6.gh htq) rfl ?_
        have hx6 := hx5.up e6
        have hy6 := hy5.up e6
        walk_at "go"
        rotate_left 2
        · rename_i a1 a2 a3 a4
          refine go_ixB (d := barD (lotB os pr[i].1)) hx6 hS6.gh (lotB_at a1 (by omega)) fun v1 hv1 => ?_
          walk_at "go"
          refine go_ixB (d := barD (lotB ts pr[i].2)) hy6 hS6.gh (lotB_at a3 (by omega)) fun v2 hv2 => ?_
          walk_at "go"
          refine go_iteBN (fun hb => ?_) (fun hb => ?_)
          · walk_at "go"
            exact bad (by unfold okP; rw [hb]; simp) hS6
          · walk_at "go"
            refine Nx.mk hS6 e6 ⟨rfl, fun p hp => ?_, _, _, rfl⟩
            rw [List.take_add_one, List.getElem?_eq_getElem hi'] at hp
            rcases List.mem_append.mp hp with hp | hp
            · exact acc p hp
            · have : p = pr[i] := by simpa using hp
              subst this
              unfold okP
              rw [hb]
              simp only [Bool.and_eq_true, decide_eq_true_eq, and_true]
              omega
        all_goals exact bad (by unfold okP; rw [Bool.eq_false_iff]; simp only [ne_eq, Bool.and_eq_true, decide_eq_true_eq]; omega) hS6
  rintro σ' G6 M6 H6 e6 hS6 ⟨rfl, acc, u6, u7, rfl⟩
  have allok : pr.all (okP os ts lag) = true := List.all_eq_true.mpr fun p hp => acc p (by rw [List.take_of_length_le (by omega)]; exact hp)
  have hx6 := hx5.up e6
  have hy6 := hy5.up e6
  have h16 := hr15.up e6
  have h26 := hr25.up e6
  walk_at "go"
  refine go_iEnum' ?_
  walk_at "go"
  refine go_ite_ hx6 hS6.gh fun ea exs eea eq er => ?_
  cases eea
  refine lcFiltER (k := false) (as := os) (Da := barD) (p := fun k => !decide ((k : Int) ∈ pr.map (·.1))) (F := fun k => barD (lotB os (k : Int))) hS6 eq er (by omega) ?_ ?_
  · intro i z c L3 G3 vs3 es3 H3 Z Z0 hi hc hz e3 l3 hS3 hvs3 fin3 fin30 σ2 eσ
    subst eσ
    simp only [wipe, List.set_cons_zero, List.set_cons_succ, List.map_cons, List.map_nil, List.foldl_cons, List.foldl_nil]
    refine ⟨trivial, ?_⟩
    have h13 := h16.up e3
    walk_at "go"
    have ec : lotB os (i : Int) = c := by unfold lotB; simp [List.getD, hc]
    refine go_inI (k := false) h13 hS3.gh ?_
    simp only [if_true]
    cases hm : (!decide ((i : Int) ∈ pr.map (·.1))) with
    | true =>
      walk_at "go"
      exact fin3 hm _ _ _ (Same.refl _) hS3 (by rw [ec]; exact hz)
    | false =>
      walk_at "go"
      exact fin30 hm _ _ (Same.refl _) hS3
  intro p7 G7 H7 e7 hS7 hr7
  have hy7 := hy6.up e7
  have h27 := h26.up e7
  walk_at "go"
  refine go_iEnum' ?_
  walk_at "go"
  refine go_ite_ hy7 hS7.gh fun ea2 exs2 eea2 eq2 er2 => ?_
  cases eea2
  refine lcFiltER (k := false) (as := ts) (Da := barD) (p := fun k => !decide ((k : Int) ∈ pr.map (·.2))) (F := fun k => barD (lotB ts (k : Int))) hS7 eq2 er2 (by omega) ?_ ?_
  · intro i z c L3 G3 vs3 es3 H3 Z Z0 hi hc hz e3 l3 hS3 hvs3 fin3 fin30 σ2 eσ
    subst eσ
    simp only [wipe, List.set_cons_zero, List.set_cons_succ, List.map_cons, List.map_nil, List.foldl_cons, List.foldl_nil]
    refine ⟨trivial, ?_⟩
    have h13 := h27.up e3
    walk_at "go"
    have ec : lotB ts (i : Int) = c := by unfold lotB; simp [List.getD, hc]
    refine go_inI (k := false) h13 hS3.gh ?_
    simp only [if_true]
    cases hm : (!decide ((i : Int) ∈ pr.map (·.2))) with
    | true =>
      walk_at "go"
      exact fin3 hm _ _ _ (Same.refl _) hS3 (by rw [ec]; exact hz)
    | false =>
      walk_at "go"
      exact fin30 hm _ _ (Same.refl _) hS3
  intro p8 G8 H8 e8 hS8 hr8
  walk_at "go"
  refine go_catL hS8 (hr7.up e8) hr8 (by
    have f1 := List.length_filter_le (fun (k : Nat) => !decide ((k : Int) ∈ pr.map (·.1))) (List.range os.length)
    have f2 := List.length_filter_le (fun (k : Nat) => !decide ((k : Int) ∈ pr.map (·.2))) (List.range ts.length)
    rw [List.length_range] at f1 f2
    rw [List.length_map, List.length_map]
    omega) fun p9 G9 H9 e9 hS9 hr9 => ?_
  obtain ⟨LL, eLL⟩ : ∃ LL, LL = (((List.range os.length).filter fun (k : Nat) => !decide ((k : Int) ∈ pr.map (·.1))).map (fun (k : Nat) => lotB os (k : Int)) ++ ((List.range ts.length).filter fun (k : Nat) => !decide ((k : Int) ∈ pr.map (·.2))).map (fun (k : Nat) => lotB ts (k : Int))) := ⟨_, rfl⟩
  have hr9' : Rp K G9 (.ref p9) (.lst (LL.map barD)) := by
    rw [eLL, List.map_append, List.map_map, List.map_map]
    exact hr9.rp
  have lll : LL.length ≤ 2000 := by
    have f1 := List.length_filter_le (fun (k : Nat) => !decide ((k : Int) ∈ pr.map (·.1))) (List.range os.length)
    have f2 := List.length_filter_le (fun (k : Nat) => !decide ((k : Int) ∈ pr.map (·.2))) (List.range ts.length)
    rw [List.length_range] at f1 f2
    rw [eLL, List.length_append, List.length_map, List.length_map]
    omega
  walk_at "go"
  refine lcMapL (as := LL) (Da := barD) (F := fun c => .bl (longB c lag)) hS9 (by assumption) (by assumption) (by omega) ?_ ?_
  · intro z c L6 G6' vs6 es6 H6' Z hc hz6 e6' l6 hS6' hvs6 fin6
    walk_at "go"
    exact fin6 _ _ _ (Same.refl _) hS6' (.bl _)
  intro p10 G10 H10 e10 hS10 hr10
  walk_at "go"
  refine go_any (bs := LL.map fun c => longB c lag) (by rw [List.map_map]; exact hr10) hS10.gh ?_
  walk_at "go"
  refine fin hS10 ?_
  rw [List.any_map, eLL, List.any_append, List.any_map, List.any_map, List.any_filter, List.any_filter]
  simp only [pairF, ha, allok, decide_eq_true nd2, Bool.true_and]
  rfl
theorem go_ispair {G0 H0 G H : Hp} {D : List Addr} {M : List (Addr × HO)} {Q : VK} {E : XK} {x y z : V} {lag : Int} {os ts : List Bar} {pr : List (Int × Int)} (hS : Sta K G0 H0 D G M H) (hx : Rp K G x (.lst (os.map barD))) (hy : Rp K G y (.lst (ts.map barD))) (hz : Rp K G z (.lst (pr.map prD))) (l1 : os.length ≤ 1000) (l2 : ts.length ≤ 1000) (l3 : pr.length < 64)
    (q : ∀ G1 H1, Same G G1 → Sta K G0 H0 D G1 M H1 → Q (.bl (pairF os ts pr lag)) H1) : spPairing K [x, y, z, .int lag] H Q E :=
  ⟨x, y, z, lag, G, os, ts, pr, rfl, hS.gh, hx, hy, hz, l1, l2, l3, fun G1 H1 ad => q G1 H1 ad.gg (hS.call ad)⟩
/-! ### the program's lonely lots -/
def spLonely (K : PySem.W.Frag) : Sp := fun vs H Q _ => ∃ (x y z : V) (t k k2 : Bool) (lag : Int) (G : Hp) (os ts : List Bar) (pl : List Int), vs = [x, y, .str (sideS t), z, .int lag] ∧ Same G H ∧ Rp K G x (seqD k (os.map barD)) ∧ Rp K G y (seqD k (ts.map barD)) ∧ Rp K G z (seqD k2 (pl.map .int)) ∧ os.length ≤ 1000 ∧ ts.length ≤ 1000 ∧ pl.length ≤ 63 ∧
  ∀ G1 H1, Adv [] G H G1 H1 → Q (.bl (lonF (if t = true then ts else os) (if t = true then os else ts) pl lag)) H1
theorem ok_is_lonely (T : Txt K mg A) : FnOk P w K mg base CX0 3 A.f_is_lonely A.d_is_lonely ["first", "second", "side", "places", "lag"] (spLonely K) := by
  have G_are_near := ok_are_near (P := P) (w := w) (base := base) T
  have G_is_long := ok_is_long (P := P) (w := w) (base := base) T
  refine T.F_is_lonely.ok sc_is_lonely (fun vs H Q E h => by first | (obtain ⟨rfl, _⟩ := h; rfl) | (obtain ⟨_, rfl, _⟩ := h; rfl) | (obtain ⟨_, _, rfl, _⟩ := h; rfl) | (obtain ⟨_, _, _, rfl, _⟩ := h; rfl) | (obtain ⟨_, _, _, _, rfl, _⟩ := h; rfl) | (obtain ⟨_, _, _, _, _, rfl, _⟩ := h; rfl) | (obtain ⟨_, _, _, _, _, _, rfl, _⟩ := h; rfl) | (obtain ⟨_, _, _, _, _, _, _, rfl, _⟩ := h; rfl) | (obtain ⟨_, _, _, _, _, _, _, _, rfl, _⟩ := h; rfl) | (obtain ⟨_, _, _, _, _, _, _, _, _, rfl, _⟩ := h; rfl) | (obtain ⟨_, _, _, _, _, _, _, _, _, _, rfl, _⟩ := h; rfl) | (obtain ⟨_, _, _, _, _, _, _, _, _, _, _, rfl, _⟩ := h; rfl) | (obtain ⟨_, _, _, _, _, _, _, _, _, _, _, _, rfl, _⟩ := h; rfl) | (obtain ⟨_, _, _, _, _, _, _, _, _, _, _, _, _, rfl, _⟩ := h; rfl) | exact wk_len h) (fun cdv AA outer s H vs Q E hr h => ?_)
  obtain ⟨x, y, z, t, k, k2, lag, G, os0, ts0, pl, rfl, hG, hx0, hy0, hz, l1, l2, l3, q⟩ := h
  refine ⟨_, (pss_cons (ps_asg (pe_tup (pa_cons (pv 0) (pa_cons (pv 1) pa_nil))) (show L2.PG _ _ (gTup K 2 (gCons (gName 5) (gCons (gName 6) gNil))) from pg_tup (by rfl) (pgs_cons (pg_name (i := 5) sc_is_lonely.nd rfl (by first | exact Or.inl rfl | exact Or.inr rfl)) (pgs_cons (pg_name (i := 6) sc_is_lonely.nd rfl (by first | exact Or.inl rfl | exact Or.inr rfl)) pgs_nil))))
      (pss_cons (ps_if (pt_cmpR op_eq (pv 2) pe_str (nomark _)) (pss_one (ps_asg (pe_tup (pa_cons (pv 1) (pa_cons (pv 0) pa_nil))) (show L2.PG _ _ (gTup K 2 (gCons (gName 5) (gCons (gName 6) gNil))) from pg_tup (by rfl) (pgs_cons (pg_name (i := 5) sc_is_lonely.nd rfl (by first | exact Or.inl rfl | exact Or.inr rfl)) (pgs_cons (pg_name (i := 6) sc_is_lonely.nd rfl (by first | exact Or.inl rfl | exact Or.inr rfl)) pgs_nil))))) pss_nil)
      (pss_cons (ps_if (PW.pt (pw_or (pt_cmpR (op_neD hr.units) (pe_callTy (T := "list") b_list (by rfl) T.z_list (by decide +kernel) (pa_cons (pv 3) pa_nil)) (pe_callB (id := "sorted") (cr_sortedSet rfl) (by rfl) T.z_sorted (by decide +kernel) (pa_cons (pe_callTy (T := "set") (cr_setL rfl) (by rfl) T.z_set (by decide +kernel) (pa_cons (pv 3) pa_nil)) pa_nil)) (nomark _)) (pw_or1 (pt_not (pt_val (pe_callB (id := "all") (cr_all rfl) (by rfl) T.z_all (by decide +kernel) (pa_cons (pe_lc (own := [("place", 9)]) (g := gName 9) rfl sc_is_lonely.nd ((pi_K k2) (pv 3)) (blkOk_by (N := ["first", "second", "side", "places", "lag", "ours", "others", "lot", "partners", "place", "bar", "one"]) (sc := defScope s_is_lonely) (by decide +kernel)) (fun _ _ _ _ _ => pg_name (i := 9) sc_is_lonely.nd rfl (by first | exact Or.inl rfl | exact Or.inr rfl)) (fun _ _ _ _ _ => pts_nil) (fun _ _ _ _ _ => (pe_chain op_le op_lt pe_int (pv 9) (pe_callB (id := "len") (show CallR _ _ (rLen_ K) from b_len) (by rfl) T.z_len (by decide +kernel) (pa_cons (pv 5) pa_nil))))) pa_nil))))))) (pss_one (ps_ret pe_bl)) pss_nil)
      (pss_cons (ps_set (i := 7) sc_is_lonely.nd rfl (by first | exact Or.inl rfl | exact Or.inr rfl) (pe_lc (own := [("place", 9)]) (g := gName 9) rfl sc_is_lonely.nd ((pi_K k2) (pv 3)) (blkOk_by (N := ["first", "second", "side", "places", "lag", "ours", "others", "lot", "partners", "place", "bar", "one"]) (sc := defScope s_is_lonely) (by decide +kernel)) (fun _ _ _ _ _ => pg_name (i := 9) sc_is_lonely.nd rfl (by first | exact Or.inl rfl | exact Or.inr rfl)) (fun _ _ _ _ _ => pts_nil) (fun _ _ _ _ _ => (pe_ix (show IxR _ (rIx K) from ix_seq) (pv 5) (pv 9) (fun _ _ => rfl)))))
      (pss_cons (ps_if (pt_not (pt_val (pe_callB (id := "all") (cr_all rfl) (by rfl) T.z_all (by decide +kernel) (pa_cons (pe_lc (own := [("bar", 10)]) (g := gName 10) rfl sc_is_lonely.nd (pi_list (pv 7)) (blkOk_by (N := ["first", "second", "side", "places", "lag", "ours", "others", "lot", "partners", "place", "bar", "one"]) (sc := defScope s_is_lonely) (by decide +kernel)) (fun _ _ _ _ _ => pg_name (i := 10) sc_is_lonely.nd rfl (by first | exact Or.inl rfl | exact Or.inr rfl)) (fun _ _ _ _ _ => pts_nil) (fun _ _ _ _ _ => (pe_callN G_is_long (hr.mono (by first | decide | omega)) (by rfl) T.m_is_long T.F_is_long.kp T.k1_is_long pass0 (pa_cons (pv 10) pa_nil) (pk_cons (pv 4) pk_nil)))) pa_nil)))) (pss_one (ps_ret pe_bl)) pss_nil)
      (pss_cons (ps_setLc (i := 8) (own := [("bar", 10)]) (g := gName 10) rfl sc_is_lonely.nd rfl rfl (sw_true rfl rfl rfl (by decide +kernel)) ((pi_K k) (pv 6)) (blkOk_by (N := ["first", "second", "side", "places", "lag", "ours", "others", "lot", "partners", "place", "bar", "one"]) (sc := defScope s_is_lonely) (by decide +kernel)) (fun _ _ _ _ _ => pg_name (i := 10) sc_is_lonely.nd rfl (by first | exact Or.inl rfl | exact Or.inr rfl)) (fun _ _ _ _ _ => (pts_one (pt_val (pe_callB (id := "any") (show CallR _ _ (rAny K) from (cr_any rfl)) (by rfl) T.z_any (by decide +kernel) (pa_cons (pe_lc (own := [("one", 11)]) (g := gName 11) rfl sc_is_lonely.nd (show PI _ _ _ (iList K _) from pi_list (pv 7)) (blkOk_by (by first | kernel_rfl | rfl)) (fun _ _ _ _ _ => pg_name (i := 11) sc_is_lonely.nd rfl (by first | exact Or.inl rfl | exact Or.inr rfl)) (fun _ _ _ _ _ => pts_nil) (fun _ _ _ _ _ => (pe_callN G_are_near (hr.mono (by first | decide | omega)) (by rfl) T.m_are_near T.F_are_near.kp T.k2_are_near pass0 (pa_cons (pv 11) (pa_cons (pv 10) pa_nil)) (pk_cons (pv 4) pk_nil)))) pa_nil))))) (fun _ _ _ _ _ => (pv 10)))
      (pss_one (ps_ret (pe_cmpR op_lt (pe_callB (id := "len") b_len (by rfl) T.z_len (by decide +kernel) (pa_cons (pv 8) pa_nil)) (pe_callB (id := "len") b_len (by rfl) T.z_len (by decide +kernel) (pa_cons (pv 7) pa_nil)) (nomark _)))))))))), ?_⟩
  try dsimp only [cxOf, Cx.nox, Cx.wish, Cx.blk]
  have hS := Sta.start (K := K) hG
  refine go_start (σ := [some x, some y, some (.str (sideS t)), some z, some (.int lag), none, none, none, none, none, none, none]) rfl ?_
  walk_at "to"
  refine go_seq ?_
  walk_at "to"
  rename_i Ga Ha ea hSa
  refine go_seq ?_
  refine go_join (fun σ' H' => ∃ G', Same G G' ∧ Sta K G H [] G' [] H' ∧ ∃ u v, σ' = [some x, some y, some (.str (sideS t)), some z, some (.int lag), some u, some v, none, none, none, none, none] ∧ Rp K G' u (seqD k ((if t = true then ts0 else os0).map barD)) ∧ Rp K G' v (seqD k ((if t = true then os0 else ts0).map barD))) ?_ ?_
  · intro N hN
    cases t with
    | true =>
      walk_at "go"
      rename_i Gb Hb eb hSb
      exact hN _ _ ⟨_, ea.trans eb, hSb, _, _, rfl, hy0.up (ea.trans eb), hx0.up (ea.trans eb)⟩
    | false =>
      walk_at "go"
      exact hN _ _ ⟨_, ea, hSa, _, _, rfl, hx0.up ea, hy0.up ea⟩
  rintro σ' H' ⟨G', eG, hS', u, v, rfl, hu, hv⟩
  clear hSa hS
  have hS := hS'
  clear hS'
  have hz := hz.up eG
  have lo : (if t = true then ts0 else os0).length ≤ 1000 := by split <;> assumption
  have lt : (if t = true then os0 else ts0).length ≤ 1000 := by split <;> assumption
  generalize (if t = true then ts0 else os0) = os at *
  generalize (if t = true then os0 else ts0) = ts at *
  have fin : ∀ {b : Bool} {G1 H1 : Hp}, Sta K G H [] G1 [] H1 → b = lonF os ts pl lag → Q (.bl b) H1 := fun s e => by subst e; exact q _ _ s.adv
  have bm : (os.map barD).length = os.length := List.length_map ..
  walk_at "go"
  refine go_listK hS hz fun p1 G1 H1 e1 hS1 hr1 => ?_
  walk_at "go"
  refine go_setOf (ns := pl) hS1 (by cases k2 with
    | true => exact .inr (hz.up e1)
    | false => exact .inl (hz.up e1)) (by omega) fun sv n G2 H2 e2 hS2 hn hsv => ?_
  walk_at "go"
  refine go_sortSet hS2 hsv (by omega) fun p3 ks G3 H3 hk1 hk2 hk3 e3 hS3 hr3 => ?_
  walk_at "go"
  refine go_neInts ((hr1.up e2).up e3) hr3 hS3.gh (by omega) (by omega) ?_
  walk_at "go"
  · rename_i hne
    refine fin hS3 ?_
    have : ascB pl = false := by
      cases ea : ascB pl with
      | false => rfl
      | true => exact absurd ((asc_iff hk1 hk2).mpr ea) hne
    simp [lonF, this]
  rename_i heq pa pxs hpq hpr hz0
  have ha : ascB pl = true := (asc_iff hk1 hk2).mp heq
  have hu3 := ((hu.up e1).up e2).up e3
  have hv3 := ((hv.up e1).up e2).up e3
  refine lcMapK (as := pl) (Da := .int) (F := fun c => .bl (decide (0 ≤ c) && decide (c < (os.length : Int)))) hS3 hpq hpr (by omega) ?_ ?_
  · intro z c L4 G4 vs4 es4 H4 Z hc hz4 e4 l4 hS4 hvs4 fin4
    cases Rp.int_inv hz4
    walk_at "go"
    · rename_i h0
      rw [bm]
      walk_at "go"
      refine fin4 _ _ _ (Same.refl _) (by assumption) ?_
      rw [decide_eq_true h0, Bool.true_and]
      exact .bl _
    · rename_i h0
      refine fin4 _ _ _ (Same.refl _) (by assumption) ?_
      rw [decide_eq_false h0, Bool.false_and]
      exact .bl _
  intro p4 G4 H4 e4 hS4 hr4
  walk_at "go"
  refine go_all (bs := pl.map fun c => decide (0 ≤ c) && decide (c < (os.length : Int))) (by rw [List.map_map]; exact hr4) hS4.gh ?_
  walk_at "go"
  refine go_iteBN (fun hb => ?_) (fun hb => ?_)
  · walk_at "go"
    rw [List.all_map] at hb
    refine fin hS4 ?_
    have : (pl.all fun k => decide (0 ≤ k) && decide (k < (os.length : Int))) = false := hb
    simp [lonF, this]
  rw [List.all_map] at hb
  have hr : (pl.all fun k => decide (0 ≤ k) && decide (k < (os.length : Int))) = true := hb
  have hu4 := hu3.up e4
  have hv4 := hv3.up e4
  have at_ : ∀ c ∈ pl, atI (os.map barD) c = some (barD (lotB os c)) := fun c hc => by
    have := List.all_eq_true.mp hr c hc
    rw [Bool.and_eq_true, decide_eq_true_eq, decide_eq_true_eq] at this
    exact lotB_at this.1 this.2
  walk_at "go"
  refine lcMapK (as := pl) (Da := .int) (F := fun c => barD (lotB os c)) hS4 ‹SqK k2 K G4 pa _› ‹RpAll K G4 _ (pl.map Dt.int)› (by omega) ?_ ?_
  · intro z c L5 G5 vs5 es5 H5 Z hc hz5 e5 l5 hS5 hvs5 fin5
    cases Rp.int_inv hz5
    walk_at "go"
    refine go_ixK (hu4.up e5) hS5.gh (at_ c hc) fun v' hv' => ?_
    exact fin5 _ _ _ (Same.refl _) hS5 hv'
  intro p5 G5 H5 e5 hS5 hr5
  have hv5 := hv4.up e5
  have hl5 : (pl.map fun c => barD (lotB os c)) = (pl.map (lotB os)).map barD := by rw [List.map_map]; rfl
  rw [hl5] at hr5
  have ll : ((pl.map (lotB os)).map barD).length = pl.length := by simp
  walk_at "go"
  refine lcMapL (as := pl.map (lotB os)) (Da := barD) (F := fun c => .bl (longB c lag)) hS5 ‹SqL K G5 p5 _› ‹RpAll K G5 _ ((pl.map (lotB os)).map barD)› (by simp; omega) ?_ ?_
  · intro z c L6 G6 vs6 es6 H6 Z hc hz6 e6 l6 hS6 hvs6 fin6
    walk_at "go"
    exact fin6 _ _ _ (Same.refl _) hS6 (.bl _)
  intro p6 G6 H6 e6 hS6 hr6
  walk_at "go"
  refine go_all (bs := (pl.map (lotB os)).map fun c => longB c lag) (by rw [List.map_map]; exact hr6) hS6.gh ?_
  walk_at "go"
  refine go_iteBN (fun hc => ?_) (fun hc => ?_)
  · walk_at "go"
    rw [List.all_map, List.all_map] at hc
    refine fin hS6 ?_
    have : (pl.all fun k => longB (lotB os k) lag) = false := hc
    simp [lonF, this]
  rw [List.all_map, List.all_map] at hc
  have hg : (pl.all fun k => longB (lotB os k) lag) = true := hc
  have hv6 := hv5.up e6
  have hr56 := hr5.up e6
  walk_at "go"
  refine lcFiltK (as := ts) (Da := barD) (p := fun c => pl.any fun j => nearB (lotB os j) c lag) (F := barD) hS6 ‹SqK k K G6 _ _› ‹RpAll K G6 _ (ts.map barD)› (by omega) ?_ ?_
  · intro z c L7 G7 vs7 es7 H7 Z Z0 hc hz7 e7 l7 hS7 hvs7 fin7 fin70
    have hr57 := hr56.up e7
    walk_at "go"
    refine lcMapL (as := pl.map (lotB os)) (Da := barD) (F := fun o => .bl (nearB o c lag)) hS7 ‹SqL K G7 p5 _› ‹RpAll K G7 _ ((pl.map (lotB os)).map barD)› (by simp; omega) ?_ ?_
    · intro z8 c8 L8 G8 vs8 es8 H8 Z8 hc8 hz8 e8 l8 hS8 hvs8 fin8
      have hz78 := hz7.up e8
      walk_at "go"
      exact fin8 _ _ _ (Same.refl _) hS8 (.bl _)
    intro p8 G8 H8 e8 hS8 hr8
    walk_at "go"
    refine go_any (bs := (pl.map (lotB os)).map fun o => nearB o c lag) (by rw [List.map_map]; exact hr8) hS8.gh ?_
    rw [List.any_map, List.any_map]
    walk_at "go"
    refine go_iteB (fun hb => ?_) (fun hb => ?_)
    · walk_at "go"
      exact fin7 hb _ _ _ e8 hS8 (hz7.up e8)
    · exact fin70 hb _ _ e8 hS8
  intro p7 G7 H7 e7 hS7 hr7
  have hr57 := hr56.up e7
  have l7 : ((ts.filter fun c => pl.any fun j => nearB (lotB os j) c lag).map barD).length = (parF os ts pl lag).length := List.length_map ..
  walk_at "go"
  refine fin hS7 ?_
  rw [l7, ll]
  simp only [lonF, ha, hr, hg, Bool.true_and]
  simp
theorem go_lonely {G0 H0 G H : Hp} {D : List Addr} {M : List (Addr × HO)} {Q : VK} {E : XK} {x y z : V} {t k k2 : Bool} {lag : Int} {os ts : List Bar} {pl : List Int} (hS : Sta K G0 H0 D G M H) (hx : Rp K G x (seqD k (os.map barD))) (hy : Rp K G y (seqD k (ts.map barD))) (hz : Rp K G z (seqD k2 (pl.map .int))) (h1 : os.length ≤ 1000) (h2 : ts.length ≤ 1000) (h3 : pl.length ≤ 63)
    (q : ∀ G1 H1, Same G G1 → Sta K G0 H0 D G1 M H1 → Q (.bl (lonF (if t = true then ts else os) (if t = true then os else ts) pl lag)) H1) : spLonely K [x, y, .str (sideS t), z, .int lag] H Q E :=
  ⟨x, y, z, t, k, k2, lag, G, os, ts, pl, rfl, hS.gh, hx, hy, hz, h1, h2, h3, fun G1 H1 ad => q G1 H1 ad.gg (hS.call ad)⟩
local macro_rules | `(tactic| walk_at "s") => `(tactic| first
  | ((with_reducible refine' go_ixB (G := ?G) (ds := ?ds) (d := ?d) ?hx ?e ?hi ?_); (case e => exact Sta.gh (by assumption)); (case hx => walk_at "rp"); (case hi => with_reducible assumption); walk_at "val")
  | ((with_reducible refine' go_ixA (G := ?G) (ds := ?ds) (d := ?d) ?hx ?e ?hi ?_); (case e => exact Sta.gh (by assumption)); (case hx => walk_at "rp"); (case hi => with_reducible assumption); walk_at "val") | fail)
local macro_rules | `(tactic| walk_at "s") => `(tactic| first
  | ((with_reducible refine' go_lives (G := ?G) (b := ?b) ?hS ?hx ?_); (case hS => assumption); (case hx => walk_at "rp"))
  | ((with_reducible refine' go_barKey (G := ?G) (b := ?b) ?hS ?hx ?_); (case hS => assumption); (case hx => walk_at "rp"); (intro p G1 H1 e1 hS1 hr1))
  | ((with_reducible refine' go_leT (G := ?G) (ns := keyB ?c) (ms := keyB ?b) ?hx ?hy ?e ?hb ?_); (case e => exact Sta.gh (by assumption)); (case hx => walk_at "rp"); (case hy => walk_at "rp"); (case hb => exact leB _ _)) | fail)
/-! the second list turned -/
theorem turn_lt {n : Nat} {t j : Int} (t0 : 0 ≤ t) (t1 : t ≤ n) (j0 : 0 ≤ j) (j1 : j < n) : (t ≤ j ∧ (j - t) % (n : Int) = j - t) ∨ (j < t ∧ (j - t) % (n : Int) = j - t + n) := by
  by_cases h : t ≤ j
  · exact .inl ⟨h, Int.emod_eq_of_lt (by omega) (by omega)⟩
  · refine .inr ⟨by omega, ?_⟩
    rw [← Int.add_emod_right, Int.emod_eq_of_lt (by omega) (by omega)]
theorem turn_at {ts : List Bar} {t : Nat} {j : Int} (t1 : t ≤ ts.length) (j0 : 0 ≤ j) (j1 : j < (ts.length : Int)) : lotB (ts.drop t ++ ts.take t) ((j - t) % (ts.length : Int)) = lotB ts j := by
  obtain ⟨m, rfl⟩ := Int.eq_ofNat_of_zero_le j0
  have hm : m < ts.length := by omega
  unfold lotB
  rw [Int.toNat_natCast]
  simp only [List.getD]
  congr 1
  rcases turn_lt (n := ts.length) (t := (t : Int)) (j := (m : Int)) (by omega) (by omega) (by omega) (by omega) with ⟨h, e⟩ | ⟨h, e⟩
  · rw [e, show ((m : Int) - (t : Int)).toNat = m - t by omega, List.getElem?_append_left (by rw [List.length_drop]; omega), List.getElem?_drop]
    congr 1
    omega
  · rw [e, show ((m : Int) - (t : Int) + (ts.length : Int)).toNat = m - t + (ts.length - t) + m by omega, List.getElem?_append_right (by rw [List.length_drop]; omega), List.length_drop, List.getElem?_take]
    rw [if_pos (by omega)]
    congr 1
    omega
theorem PG.turn {os ts : List Bar} {pr : List (Int × Int)} {lag : Int} {t : Nat} (h : PG os ts pr lag) (ht : t ≤ ts.length) : PG os (ts.drop t ++ ts.take t) (pr.map fun p => (p.1, (p.2 - t) % (ts.length : Int))) lag := by
  have bd : ∀ p ∈ pr, 0 ≤ p.2 ∧ p.2 < (ts.length : Int) := fun p hp => by
    have := h.ok p hp
    simp only [okP, Bool.and_eq_true, decide_eq_true_eq] at this
    exact this.2.1
  have ln : (ts.drop t ++ ts.take t).length = ts.length := by rw [List.length_append, List.length_drop, List.length_take]; omega
  have e1 : (pr.map fun p => (p.1, (p.2 - t) % (ts.length : Int))).map (·.1) = pr.map (·.1) := by rw [List.map_map]; rfl
  have e2 : (pr.map fun p => (p.1, (p.2 - t) % (ts.length : Int))).map (·.2) = (pr.map (·.2)).map fun j => (j - t) % (ts.length : Int) := by rw [List.map_map, List.map_map]; rfl
  refine ⟨by rw [e1]; exact h.n1, ?_, fun q hq => ?_, fun j hj => by rw [e1]; exact h.l1 j hj, fun j hj => ?_⟩
  · rw [e2, List.Nodup, List.pairwise_map]
    refine List.Pairwise.imp_of_mem (fun {a b} ha hb ne => ?_) h.n2
    obtain ⟨p, hp, rfl⟩ := List.mem_map.mp ha
    obtain ⟨q, hq, rfl⟩ := List.mem_map.mp hb
    have b1 := bd p hp
    have b2 := bd q hq
    have t1 := turn_lt (n := ts.length) (t := (t : Int)) (by omega) (by omega) b1.1 b1.2
    have t2 := turn_lt (n := ts.length) (t := (t : Int)) (by omega) (by omega) b2.1 b2.2
    omega
  · obtain ⟨p, hp, rfl⟩ := List.mem_map.mp hq
    have b1 := bd p hp
    have o := h.ok p hp
    simp only [okP, Bool.and_eq_true, decide_eq_true_eq] at o ⊢
    rw [turn_at ht b1.1 b1.2, ln]
    exact ⟨o.1, ⟨Int.emod_nonneg _ (by omega), Int.emod_lt_of_pos _ (by omega)⟩, o.2.2⟩
  · rw [ln] at hj
    -- the place ahead of the turn
    obtain ⟨m, hm, em⟩ : ∃ m : Nat, m < ts.length ∧ ((m : Int) - t) % (ts.length : Int) = (j : Int) := by
      by_cases hc : j + t < ts.length
      · refine ⟨j + t, hc, ?_⟩
        rw [show (((j + t : Nat) : Int) - t) = j by omega]
        exact Int.emod_eq_of_lt (by omega) (by omega)
      · refine ⟨j + t - ts.length, by omega, ?_⟩
        rw [← Int.add_emod_right, show (((j + t - ts.length : Nat) : Int) - t + ts.length) = j by omega]
        exact Int.emod_eq_of_lt (by omega) (by omega)
    rw [e2, ← em, turn_at ht (by omega) (by omega)]
    rcases h.l2 m hm with z | z
    · exact .inl (List.mem_map_of_mem z)
    · exact .inr z
/-! ### moved bars: each with the place of the one that it comes from, or -1 -/
structure MvI (bs : List Bar) (last lag : Int) (E : List (Bar × Int)) (n : Nat) : Prop where
  ok : ∀ e ∈ E, okB last e.1
  near : ∀ e ∈ E, 0 ≤ e.2 ∧ e.2 < (n : Int) ∧ nearB (lotB bs e.2) e.1 lag = true
  asc : (E.map (·.2)).Pairwise (· < ·)
  long : ∀ j : Nat, j < n → (j : Int) ∈ E.map (·.2) ∨ longB (lotB bs (j : Int)) lag = false
  len : E.length ≤ n
theorem MvI.nil {bs : List Bar} {last lag : Int} : MvI bs last lag [] 0 := ⟨fun _ h => by simp at h, fun _ h => by simp at h, List.Pairwise.nil, fun j hj => by omega, Nat.le_refl _⟩
theorem MvI.skip {bs : List Bar} {last lag : Int} {E : List (Bar × Int)} {n : Nat} (h : MvI bs last lag E n) (l : longB (lotB bs (n : Int)) lag = false) : MvI bs last lag E (n + 1) where
  ok := h.ok
  near := fun e he => by
    have := h.near e he
    exact ⟨this.1, by omega, this.2.2⟩
  asc := h.asc
  long := fun j hj => by
    by_cases e : j = n
    · subst e
      exact .inr l
    · exact h.long j (by omega)
  len := by have := h.len; omega
theorem MvI.add {bs : List Bar} {last lag : Int} {E : List (Bar × Int)} {n : Nat} {c : Bar} (h : MvI bs last lag E n) (o : okB last c) (l : nearB (lotB bs (n : Int)) c lag = true) : MvI bs last lag (E ++ [(c, (n : Int))]) (n + 1) where
  ok := fun e he => by
    rcases List.mem_append.mp he with he | he
    · exact h.ok e he
    · rw [List.mem_singleton] at he
      subst he
      exact o
  near := fun e he => by
    rcases List.mem_append.mp he with he | he
    · have := h.near e he
      exact ⟨this.1, by omega, this.2.2⟩
    · rw [List.mem_singleton] at he
      subst he
      exact ⟨by show (0 : Int) ≤ n; omega, by show (n : Int) < _; omega, l⟩
  asc := by
    rw [List.map_append]
    refine List.pairwise_append.mpr ⟨h.asc, List.pairwise_singleton _ _, fun a ha b hb => ?_⟩
    obtain ⟨e, he, rfl⟩ := List.mem_map.mp ha
    have := (h.near e he).2.1
    have hb : b = (n : Int) := by simpa using hb
    omega
  long := fun j hj => by
    rw [List.map_append]
    by_cases e : j = n
    · subst e
      exact .inl (List.mem_append_right _ (by simp))
    · exact (h.long j (by omega)).imp (fun z => List.mem_append_left _ z) id
  len := by rw [List.length_append, List.length_singleton]; have := h.len; omega
structure MvF (bs : List Bar) (last lag : Int) (E : List (Bar × Int)) : Prop where
  ok : ∀ e ∈ E, okB last e.1
  kind : ∀ e ∈ E, (e.2 = -1 ∧ longB e.1 lag = false) ∨ (0 ≤ e.2 ∧ e.2 < (bs.length : Int) ∧ nearB (lotB bs e.2) e.1 lag = true)
  nd : ((E.map (·.2)).filter fun k => decide (0 ≤ k)).Nodup
  long : ∀ j : Nat, j < bs.length → (j : Int) ∈ E.map (·.2) ∨ longB (lotB bs (j : Int)) lag = false
theorem MvI.fin {bs : List Bar} {last lag : Int} {E : List (Bar × Int)} (h : MvI bs last lag E bs.length) : MvF bs last lag E where
  ok := h.ok
  kind := fun e he => .inr (h.near e he)
  nd := ((h.asc.imp fun {a b} (x : a < b) => show a ≠ b by omega : (E.map (·.2)).Nodup)).filter _
  long := h.long
theorem MvF.short {bs : List Bar} {last lag : Int} {E : List (Bar × Int)} {c : Bar} (h : MvF bs last lag E) (o : okB last c) (l : longB c lag = false) : MvF bs last lag (E ++ [(c, -1)]) where
  ok := fun e he => by
    rcases List.mem_append.mp he with he | he
    · exact h.ok e he
    · rw [List.mem_singleton] at he
      subst he
      exact o
  kind := fun e he => by
    rcases List.mem_append.mp he with he | he
    · exact h.kind e he
    · rw [List.mem_singleton] at he
      subst he
      exact .inl ⟨rfl, l⟩
  nd := by
    rw [List.map_append, List.filter_append]
    simpa using h.nd
  long := fun j hj => by
    rw [List.map_append]
    exact (h.long j hj).imp (fun z => List.mem_append_left _ z) id
theorem MvF.perm {bs : List Bar} {last lag : Int} {E F : List (Bar × Int)} (h : MvF bs last lag E) (p : F.Perm E) : MvF bs last lag F where
  ok := fun e he => h.ok e (p.mem_iff.mp he)
  kind := fun e he => h.kind e (p.mem_iff.mp he)
  nd := ((p.map _).filter _).nodup_iff.mpr h.nd
  long := fun j hj => (h.long j hj).imp (p.map _).mem_iff.mpr id
/-- the pairs that they tell -/
def prF : List (Bar × Int) → Nat → List (Int × Int)
  | [], _ => []
  | e :: E, k => (if 0 ≤ e.2 then [(e.2, (k : Int))] else []) ++ prF E (k + 1)
theorem prF_app : ∀ (E F : List (Bar × Int)) (k : Nat), prF (E ++ F) k = prF E k ++ prF F (k + E.length)
  | [], F, k => by simp [prF]
  | e :: E, F, k => by
    rw [List.cons_append, prF, prF, prF_app E F (k + 1), List.append_assoc, List.length_cons]
    congr 3
    omega
theorem prF_fst : ∀ (E : List (Bar × Int)) (k : Nat), (prF E k).map (·.1) = (E.map (·.2)).filter fun k => decide (0 ≤ k)
  | [], _ => rfl
  | e :: E, k => by
    rw [prF, List.map_append, prF_fst E (k + 1), List.map_cons, List.filter_cons]
    by_cases h : 0 ≤ e.2 <;> simp [h]
theorem prF_mem : ∀ (E : List (Bar × Int)) (k : Nat) (p : Int × Int), p ∈ prF E k ↔ ∃ (n : Nat) (e : Bar × Int), E[n]? = some e ∧ 0 ≤ e.2 ∧ p = (e.2, ((k + n : Nat) : Int))
  | [], k, p => by simp [prF]
  | e :: E, k, p => by
    rw [prF, List.mem_append, prF_mem E (k + 1) p]
    constructor
    · rintro (h | ⟨n, f, h1, h2, h3⟩)
      · by_cases h0 : 0 ≤ e.2
        · rw [if_pos h0, List.mem_singleton] at h
          exact ⟨0, e, rfl, h0, h⟩
        · rw [if_neg h0] at h
          exact absurd h List.not_mem_nil
      · exact ⟨n + 1, f, h1, h2, by rw [h3]; congr 2; omega⟩
    · rintro ⟨n, f, h1, h2, h3⟩
      cases n with
      | zero =>
        cases h1
        left
        rw [if_pos h2, List.mem_singleton]
        exact h3
      | succ n => exact .inr ⟨n, f, h1, h2, by rw [h3]; congr 2; omega⟩
theorem prF_snd : ∀ (E : List (Bar × Int)) (k : Nat), ((prF E k).map (·.2)).Pairwise (· < ·) ∧ ∀ j ∈ (prF E k).map (·.2), (k : Int) ≤ j
  | [], k => ⟨List.Pairwise.nil, fun _ h => by simp [prF] at h⟩
  | e :: E, k => by
    obtain ⟨h1, h2⟩ := prF_snd E (k + 1)
    rw [prF]
    by_cases h0 : 0 ≤ e.2
    · rw [if_pos h0, List.map_append]
      refine ⟨List.pairwise_append.mpr ⟨List.pairwise_singleton _ _, h1, fun a ha b hb => ?_⟩, fun j hj => ?_⟩
      · have ha : a = (k : Int) := by simpa using ha
        have := h2 b hb
        omega
      · rcases List.mem_append.mp hj with hj | hj
        · have hj : j = (k : Int) := by simpa using hj
          omega
        · have := h2 j hj
          omega
    · rw [if_neg h0, List.nil_append]
      exact ⟨h1, fun j hj => by have := h2 j hj; omega⟩
theorem prF_len (E : List (Bar × Int)) (k : Nat) : (prF E k).length ≤ E.length := by
  have h := congrArg List.length (prF_fst E k)
  rw [List.length_map] at h
  rw [h]
  exact Nat.le_trans (List.length_filter_le _ _) (by simp)
theorem MvF.pg {bs : List Bar} {last lag : Int} {E : List (Bar × Int)} (h : MvF bs last lag E) : PG bs (E.map (·.1)) (prF E 0) lag where
  n1 := by rw [prF_fst]; exact h.nd
  n2 := (prF_snd E 0).1.imp fun {a b} (x : a < b) => show a ≠ b by omega
  ok := fun p hp => by
    obtain ⟨n, e, h1, h2, rfl⟩ := (prF_mem E 0 p).mp hp
    have hn := (List.getElem?_eq_some_iff.mp h1).1
    rcases h.kind e (List.mem_of_getElem? h1) with ⟨z, _⟩ | ⟨a1, a2, a3⟩
    · omega
    · simp only [okP, Bool.and_eq_true, decide_eq_true_eq, List.length_map]
      refine ⟨⟨a1, a2⟩, ⟨by omega, by omega⟩, ?_⟩
      have : lotB (E.map (·.1)) ((0 + n : Nat) : Int) = e.1 := by
        unfold lotB
        rw [Int.toNat_natCast, Nat.zero_add]
        simp [List.getD, List.getElem?_map, h1]
      rw [this]
      exact a3
  l1 := fun j hj => (h.long j hj).imp (fun z => by rw [prF_fst]; exact List.mem_filter.mpr ⟨z, by simp⟩) id
  l2 := fun j hj => by
    rw [List.length_map] at hj
    have h1 : E[j]? = some E[j] := List.getElem?_eq_getElem hj
    rcases h.kind E[j] (List.getElem_mem hj) with ⟨z, l⟩ | ⟨a1, a2, a3⟩
    · right
      have : lotB (E.map (·.1)) (j : Int) = E[j].1 := by
        unfold lotB
        rw [Int.toNat_natCast]
        simp [List.getD, List.getElem?_map, h1]
      rw [this]
      exact l
    · left
      exact List.mem_map.mpr ⟨_, (prF_mem E 0 _).mpr ⟨j, _, h1, a1, rfl⟩, by simp⟩
/-! ### the law's moved bars -/
theorem go_minA {i j : Int} {Q : VK} {H : Hp} (k : ∀ v : Int, v ≤ i → v ≤ j → (v = i ∨ v = j) → Q (.int v) H) : rMin2_ [.int i, .int j] H Q := ⟨i, j, rfl, k _ (by split <;> omega) (by split <;> omega) (by split <;> omega)⟩
theorem go_maxA {i j : Int} {Q : VK} {H : Hp} (k : ∀ v : Int, i ≤ v → j ≤ v → (v = i ∨ v = j) → Q (.int v) H) : rMax2_ [.int i, .int j] H Q := ⟨i, j, rfl, k _ (by split <;> omega) (by split <;> omega) (by split <;> omega)⟩
local macro_rules | `(tactic| walk_at "s") => `(tactic| first | ((with_reducible refine' go_minA ?_); (intro mn mn1 mn2 mn3)) | ((with_reducible refine' go_maxA ?_); (intro mx mx1 mx2 mx3)) | fail)
def entD (e : Bar × Int) : Dt := .lst [barD e.1, .int e.2]
theorem key_fromE {Gb : Hp} {σ : L2.St} {js : List Nat} {E : XK} : KeyFrom K Gb entD (fun e => keyB e.1) (fun l => .tup (l.map .int)) fun y H1 Q1 => tCall (spBarKey K) [] E (tCons (tOp (rIx K) (tVar 0) (tC (.int 0))) tNil) (NdefX.startF ["entry"] [y] (js.map (NdefX.slotAt σ))) H1 Q1 := fun x c G0 H0 G H D M Q _ hS hx q => by
  have hx' : Rp K G x (.lst [barD c.1, .int c.2]) := hx
  walk_at "go"
  exact q _ _ _ (by assumption) (by assumption) (by assumption)
theorem okB_mv {last b0 d0 : Int} (h1 : 0 ≤ b0) (h2 : b0 ≤ last) (h3 : b0 < d0) (h4 : d0 ≤ last) : okB last (b0, some d0) := ⟨h1, h2, fun d hd => by cases hd; exact ⟨h3, h4⟩⟩
theorem okB_mvN {last b0 : Int} (h1 : 0 ≤ b0) (h2 : b0 ≤ last) : okB last (b0, none) := ⟨h1, h2, fun d hd => by cases hd⟩
theorem nearB_some {a b c d lag : Int} (h1 : a - c ≤ lag) (h2 : c - a ≤ lag) (h3 : b - d ≤ lag) (h4 : d - b ≤ lag) : nearB (a, some b) (c, some d) lag = true := by simp [nearB, h1, h2, h3, h4]
theorem nearB_none {a c lag : Int} (h1 : a - c ≤ lag) (h2 : c - a ≤ lag) : nearB (a, none) (c, none) lag = true := by simp [nearB, h1, h2]
def spMoved (K : PySem.W.Frag) (P_ : Addr) (lq : Str) : Sp := fun vs H Q _ => ∃ (a r : Addr) (at_ last lag : Int) (y : V) (ps : Array Value) (G : Hp) (bs : List Bar), vs = [.ref a, y, .int last, .int lag] ∧ Same G H ∧ G a = none ∧ G P_ = none ∧ a ≠ P_ ∧ H a = some (drw r at_) ∧ H P_ = some (.tbl ps) ∧ TabP G ps lq ∧ RowOk K G r ∧ 0 ≤ at_ ∧ at_ ≤ 800000000 ∧ 0 ≤ last ∧ last ≤ 1000 ∧ 0 ≤ lag ∧ lag ≤ 1000 ∧ Rp K G y (.lst (bs.map barD)) ∧ bs.length ≤ 50 ∧ (∀ c ∈ bs, okB last c) ∧
  ∀ z ms prs at' ps' G1 H1, Adv [a, P_] G H G1 H1 → H1 a = some (drw r at') → H1 P_ = some (.tbl ps') → TabP G1 ps' lq → at_ ≤ at' → at' ≤ at_ + 1000 → ms.length ≤ bs.length + 2 → prs.length ≤ bs.length → (∀ c ∈ ms, okB last c) → pairF bs ms prs lag = true → Rp K G1 z (.lst [.lst (ms.map barD), .lst (prs.map prD)]) → Q z H1
def mvW (K : PySem.W.Frag) (P_ a r pp mm : Addr) (ps : Array Value) (bs : List Bar) (last lag at_ : Int) (y : V) (i : Nat) : L2.St → Hp → List (Addr × HO) → Prop := fun σ G' M' => ∃ (vs : List V) (E : List (Bar × Int)) (at' : Int) (u6 u7 u8 u9 : Option V), M' = [(pp, .lst []), (mm, .lst vs), (a, drw r at'), (P_, .tbl ps)] ∧ RpAll K G' vs (E.map entD) ∧ MvI bs last lag E i ∧ at_ ≤ at' ∧ at' ≤ at_ + 3 * i ∧
  σ = [some (.ref a), some y, some (.int last), some (.int lag), some (.ref mm), some (.ref pp), u6, u7, u8, u9, none]
theorem long_no {b d lag : Int} (h : d ≤ b + 2 * lag) : longB (b, some d) lag = false := by
  show decide (2 * lag < d - b) = false
  exact decide_eq_false (by omega)
def mvW2 (K : PySem.W.Frag) (P_ a r pp mm : Addr) (ps : Array Value) (bs : List Bar) (last lag at_ : Int) (y : V) (i : Nat) : L2.St → Hp → List (Addr × HO) → Prop := fun σ G' M' => ∃ (vs : List V) (E : List (Bar × Int)) (at' : Int) (u6 u7 u8 u9 : Option V), M' = [(pp, .lst []), (mm, .lst vs), (a, drw r at'), (P_, .tbl ps)] ∧ RpAll K G' vs (E.map entD) ∧ MvF bs last lag E ∧ E.length ≤ bs.length + i ∧ at_ ≤ at' ∧ at' ≤ at_ + 2 * i ∧
  σ = [some (.ref a), some y, some (.int last), some (.int lag), some (.ref mm), some (.ref pp), u6, u7, u8, u9, none]
theorem ok_law_moved_bars (T : Txt K mg A) (B : Tbs base mg A) : FnOk P w K mg base CX0 5 A.f_law_moved_bars A.d_law_moved_bars ["draws", "bar_list", "last", "lag"] (spMoved K A.p_law_moved_bars lq_law_moved_bars) := by
  have G_law_bar_key := ok_law_bar_key (P := P) (w := w) (base := base) T
  have G_law_is_long := ok_law_is_long (P := P) (w := w) (base := base) T
  have G_law_next := ok_law_next (P := P) (w := w) (base := base) T
  refine T.FC_law_moved_bars.ok sc_law_moved_bars (fun vs H Q E h => by first | (obtain ⟨rfl, _⟩ := h; rfl) | (obtain ⟨_, rfl, _⟩ := h; rfl) | (obtain ⟨_, _, rfl, _⟩ := h; rfl) | (obtain ⟨_, _, _, rfl, _⟩ := h; rfl) | (obtain ⟨_, _, _, _, rfl, _⟩ := h; rfl) | (obtain ⟨_, _, _, _, _, rfl, _⟩ := h; rfl) | (obtain ⟨_, _, _, _, _, _, rfl, _⟩ := h; rfl) | (obtain ⟨_, _, _, _, _, _, _, rfl, _⟩ := h; rfl) | (obtain ⟨_, _, _, _, _, _, _, _, rfl, _⟩ := h; rfl) | (obtain ⟨_, _, _, _, _, _, _, _, _, rfl, _⟩ := h; rfl) | (obtain ⟨_, _, _, _, _, _, _, _, _, _, rfl, _⟩ := h; rfl) | (obtain ⟨_, _, _, _, _, _, _, _, _, _, _, rfl, _⟩ := h; rfl) | (obtain ⟨_, _, _, _, _, _, _, _, _, _, _, _, rfl, _⟩ := h; rfl) | (obtain ⟨_, _, _, _, _, _, _, _, _, _, _, _, _, rfl, _⟩ := h; rfl) | exact wk_len h) (fun AA outer s H vs Q E hr h => ?_)
  obtain ⟨a, r, at_, last, lag, y, ps, G, bs, rfl, hG, hga, hgp, ne, hA, hP, tab, hR, h0, h1, hl0, hl1, hg0, hg1, hy, hbl, hbs, q⟩ := h
  refine ⟨_, (pss_cons (ps_set (i := 4) sc_law_moved_bars.nd rfl (by first | exact Or.inl rfl | exact Or.inr rfl) (pe_lst pa_nil))
      (pss_cons (ps_set (i := 5) sc_law_moved_bars.nd rfl (by first | exact Or.inl rfl | exact Or.inr rfl) (pe_lst pa_nil))
      (pss_cons (ps_for PassesOwn.never rfl (pi_range1 (by rfl) T.z_range (pa_cons (pe_callB (id := "len") b_len (by rfl) T.z_len (by decide +kernel) (pa_cons (pv 1) pa_nil)) pa_nil)) (pg_name (i := 6) sc_law_moved_bars.nd rfl (by first | exact Or.inl rfl | exact Or.inr rfl)) (pss_cons (ps_set (i := 7) sc_law_moved_bars.nd rfl (by first | exact Or.inl rfl | exact Or.inr rfl) (pe_callB (id := "min") (b_min rfl) (by rfl) T.z_min (by decide +kernel) (pa_cons (pv 2) (pa_cons (pe_callB (id := "max") (b_max rfl) (by rfl) T.z_max (by decide +kernel) (pa_cons pe_int (pa_cons (pe_op op_sub (pe_op op_add (pe_ix ix_seq (pe_ix ix_seq (pv 1) (pv 6) (fun _ _ => rfl)) pe_int (fun _ _ => rfl)) (pe_call G_law_next (hr.mono (by first | decide | omega)) (by rfl) T.m_law_next T.F_law_next.kp T.b_law_next .nil pass0 (pa_cons (pv 0) (pa_cons (pe_op op_add (pe_op op_mul pe_int (pv 3)) pe_int) pa_nil)))) (pv 3)) pa_nil))) pa_nil))))
      (pss_cons (ps_set (i := 8) sc_law_moved_bars.nd rfl (by first | exact Or.inl rfl | exact Or.inr rfl) pe_non)
      (pss_cons (ps_if (pt_cmp (pc_notN (pe_ix ix_seq (pe_ix ix_seq (pv 1) (pv 6) (fun _ _ => rfl)) pe_int (fun _ _ => rfl)))) (pss_one (ps_set (i := 8) sc_law_moved_bars.nd rfl (by first | exact Or.inl rfl | exact Or.inr rfl) (pe_callB (id := "min") (b_min rfl) (by rfl) T.z_min (by decide +kernel) (pa_cons (pv 2) (pa_cons (pe_callB (id := "max") (b_max rfl) (by rfl) T.z_max (by decide +kernel) (pa_cons pe_int (pa_cons (pe_op op_sub (pe_op op_add (pe_ix ix_seq (pe_ix ix_seq (pv 1) (pv 6) (fun _ _ => rfl)) pe_int (fun _ _ => rfl)) (pe_call G_law_next (hr.mono (by first | decide | omega)) (by rfl) T.m_law_next T.F_law_next.kp T.b_law_next .nil pass0 (pa_cons (pv 0) (pa_cons (pe_op op_add (pe_op op_mul pe_int (pv 3)) pe_int) pa_nil)))) (pv 3)) pa_nil))) pa_nil))))) pss_nil)
      (pss_cons (ps_set (i := 9) sc_law_moved_bars.nd rfl (by first | exact Or.inl rfl | exact Or.inr rfl) (pe_and (pe_not (pe_call G_law_is_long (hr.mono (by first | decide | omega)) (by rfl) T.m_law_is_long T.F_law_is_long.kp T.b_law_is_long .nil pass0 (pa_cons (pe_ix ix_seq (pv 1) (pv 6) (fun _ _ => rfl)) (pa_cons (pv 3) pa_nil)))) (pe_one (pe_cmpR op_eq (pe_call G_law_next (hr.mono (by first | decide | omega)) (by rfl) T.m_law_next T.F_law_next.kp T.b_law_next .nil pass0 (pa_cons (pv 0) (pa_cons pe_int pa_nil))) pe_int (nomark _)))))
      (pss_one (ps_if (PW.pt (pw_and (pt_not (pt_val (pv 9))) (pw_and1 (PW.pt (pw_or (pt_cmp (pc_isN (pv 8))) (pw_or1 (pt_cmpR op_lt (pv 7) (pv 8) (nomark _)))))))) (pss_one (ps_expr (pe_bm PySem.F.plainAttrs_list PySem.F.slot_list_append PySem.F.type_list_append mt_append (pv 4) (pa_cons (pe_lst (pa_cons (pe_tup (pa_cons (pv 7) (pa_cons (pv 8) pa_nil))) (pa_cons (pv 6) pa_nil))) pa_nil)))) (pss_one (ps_if (pt_val (pe_call G_law_is_long (hr.mono (by first | decide | omega)) (by rfl) T.m_law_is_long T.F_law_is_long.kp T.b_law_is_long .nil pass0 (pa_cons (pe_ix ix_seq (pv 1) (pv 6) (fun _ _ => rfl)) (pa_cons (pv 3) pa_nil)))) (pss_one (ps_expr (pe_bm PySem.F.plainAttrs_list PySem.F.slot_list_append PySem.F.type_list_append mt_append (pv 4) (pa_cons (pe_lst (pa_cons (pe_ix ix_seq (pv 1) (pv 6) (fun _ _ => rfl)) (pa_cons (pv 6) pa_nil))) pa_nil)))) pss_nil)))))))))
      (pss_cons (ps_for PassesOwn.never rfl (pi_range1 (by rfl) T.z_range (pa_cons (pe_call G_law_next (hr.mono (by first | decide | omega)) (by rfl) T.m_law_next T.F_law_next.kp T.b_law_next .nil pass0 (pa_cons (pv 0) (pa_cons pe_int pa_nil))) pa_nil)) (pg_name (i := 6) sc_law_moved_bars.nd rfl (by first | exact Or.inl rfl | exact Or.inr rfl)) (pss_cons (ps_set (i := 7) sc_law_moved_bars.nd rfl (by first | exact Or.inl rfl | exact Or.inr rfl) (pe_call G_law_next (hr.mono (by first | decide | omega)) (by rfl) T.m_law_next T.F_law_next.kp T.b_law_next .nil pass0 (pa_cons (pv 0) (pa_cons (pe_op op_add (pv 2) pe_int) pa_nil))))
      (pss_cons (ps_set (i := 8) sc_law_moved_bars.nd rfl (by first | exact Or.inl rfl | exact Or.inr rfl) (pe_callB (id := "min") (b_min rfl) (by rfl) T.z_min (by decide +kernel) (pa_cons (pv 2) (pa_cons (pe_op op_add (pe_op op_add (pv 7) pe_int) (pe_call G_law_next (hr.mono (by first | decide | omega)) (by rfl) T.m_law_next T.F_law_next.kp T.b_law_next .nil pass0 (pa_cons (pv 0) (pa_cons (pe_op op_add (pe_op op_mul pe_int (pv 3)) pe_int) pa_nil)))) pa_nil))))
      (pss_one (ps_if (pt_chain op_lt op_le (pv 7) (pv 8) (pe_op op_add (pv 7) (pe_op op_mul pe_int (pv 3)))) (pss_one (ps_expr (pe_bm PySem.F.plainAttrs_list PySem.F.slot_list_append PySem.F.type_list_append mt_append (pv 4) (pa_cons (pe_lst (pa_cons (pe_tup (pa_cons (pv 7) (pa_cons (pv 8) pa_nil))) (pa_cons (pe_un un_neg pe_int) pa_nil))) pa_nil)))) pss_nil)))))
      (pss_cons (ps_set (i := 4) sc_law_moved_bars.nd rfl (by first | exact Or.inl rfl | exact Or.inr rfl) (pe_sortL (N := ["entry"]) (fr := []) (x := "entry") (q := lq_law_moved_bars) (js := []) (n := 1) B.tb_law_moved_bars rfl (by rfl) (by rfl) T.z_sorted (pa_cons (pv 4) pa_nil) (NdefX.nscope_by (by first | kernel_rfl | rfl)) (by first | kernel_rfl | rfl) (by rfl) (hr.mono (by first | decide | omega)) (by rfl) (fun _ _ _ _ _ => by rfl) (fun _ _ _ _ hr => (pe_call G_law_bar_key (hr.mono (by first | decide | omega)) (by rfl) T.m_law_bar_key T.F_law_bar_key.kp T.b_law_bar_key .nil pass0 (pa_cons (pe_ix (show IxR _ (rIx K) from ix_seq) (pv 0) pe_int (fun _ _ => rfl)) pa_nil)))))
      (pss_cons (ps_for PassesOwn.never rfl (pi_range1 (by rfl) T.z_range (pa_cons (pe_callB (id := "len") b_len (by rfl) T.z_len (by decide +kernel) (pa_cons (pv 4) pa_nil)) pa_nil)) (pg_name (i := 6) sc_law_moved_bars.nd rfl (by first | exact Or.inl rfl | exact Or.inr rfl)) (pss_one (ps_if (pt_cmpR op_ge (pe_ix ix_seq (pe_ix ix_seq (pv 4) (pv 6) (fun _ _ => rfl)) pe_int (fun _ _ => rfl)) pe_int (nomark _)) (pss_one (ps_expr (pe_bm PySem.F.plainAttrs_list PySem.F.slot_list_append PySem.F.type_list_append mt_append (pv 5) (pa_cons (pe_tup (pa_cons (pe_ix ix_seq (pe_ix ix_seq (pv 4) (pv 6) (fun _ _ => rfl)) pe_int (fun _ _ => rfl)) (pa_cons (pv 6) pa_nil))) pa_nil)))) pss_nil)))
      (pss_one (ps_ret (pe_lst (pa_cons (pe_lc (own := [("entry", 10)]) (g := gName 10) rfl sc_law_moved_bars.nd (pi_list (pv 4)) (blkOk_by (N := ["draws", "bar_list", "last", "lag", "moved", "pairs", "k", "birth", "death", "is_dropped", "entry"]) (sc := defScope s_law_moved_bars) (by decide +kernel)) (fun _ _ _ _ _ => pg_name (i := 10) sc_law_moved_bars.nd rfl (by first | exact Or.inl rfl | exact Or.inr rfl)) (fun _ _ _ _ _ => pts_nil) (fun _ _ _ _ _ => (pe_ix (show IxR _ (rIx K) from ix_seq) (pv 10) pe_int (fun _ _ => rfl)))) (pa_cons (pe_callB (id := "sorted") (cr_sortT (d := 2) (B := 1000) (by decide)) (by rfl) T.z_sorted (by decide +kernel) (pa_cons (pv 5) pa_nil)) pa_nil))))))))))), ?_⟩
  try dsimp only [cxOf, Cx.nox, Cx.wish, Cx.blk]
  have hS := Sta.start2 (K := K) hG hA hP hga hgp ne
  have bm : (bs.map barD).length = bs.length := List.length_map ..
  refine go_start (σ := [some (.ref a), some y, some (.int last), some (.int lag), none, none, none, none, none, none, none]) rfl ?_
  walk_at "go"
  refine go_mutL hS (sz (by simp)) fun mm H1 m0 mg1 hS1 => ?_
  walk_at "go"
  refine go_mutL hS1 (sz (by simp)) fun pp H2 p0 pg1 hS2 => ?_
  walk_at "go"
  refine forR hS2 (mvW K A.p_law_moved_bars a r pp mm ps bs last lag at_ y) ⟨[], [], at_, _, _, _, _, rfl, .nil, MvI.nil, by omega, by omega, rfl⟩ ?_ ?_
  · rintro i σ G3 M3 H3 hi e3 hS3 ⟨vs, E, at3, u6, u7, u8, u9, rfl, hvs, mv, a31, a32, rfl⟩
    have hi' : i < bs.length := by omega
    have hy3 := hy.up e3
    have hR3 := hR.up e3
    have vl := hvs.length
    rw [List.length_map] at vl
    have ml := mv.len
    have hc := hbs (lotB bs (i : Int)) (by unfold lotB; rw [Int.toNat_natCast, List.getD, List.getElem?_eq_getElem hi']; exact List.getElem_mem hi')
    have hat : atI (bs.map barD) (0 + (i : Int)) = some (barD (lotB bs (i : Int))) := by rw [Int.zero_add]; exact lotB_at (by omega) (by omega)
    have fin : ∀ {G5 H5 : Hp} {vs5 : List V} {E5 : List (Bar × Int)} {at5 : Int} {u6 u7 u8 u9 : Option V}, Same G3 G5 → Sta K G H [a, A.p_law_moved_bars] G5 [(pp, .lst []), (mm, .lst vs5), (a, drw r at5), (A.p_law_moved_bars, .tbl ps)] H5 → RpAll K G5 vs5 (E5.map entD) → MvI bs last lag E5 (i + 1) → at_ ≤ at5 → at5 ≤ at_ + 3 * i + 3 →
      Nx K G H [a, A.p_law_moved_bars] G (mvW K A.p_law_moved_bars a r pp mm ps bs last lag at_ y (i + 1)) [some (.ref a), some y, some (.int last), some (.int lag), some (.ref mm), some (.ref pp), u6, u7, u8, u9, none] H5 := fun {G5 H5 vs5 E5 at5 u6 u7 u8 u9} e s hv m b1 b2 => Nx.mk s (e3.trans e) ⟨vs5, E5, at5, u6, u7, u8, u9, rfl, hv, m, b1, by omega, rfl⟩
    have sk : longB (lotB bs (i : Int)) lag = false → MvI bs last lag E (i + 1) := mv.skip
    have ad : ∀ {c : Bar}, okB last c → nearB (lotB bs (i : Int)) c lag = true → MvI bs last lag (E ++ [(c, (i : Int))]) (i + 1) := mv.add
    have nr := nearB_refl (lotB bs (i : Int)) hg0
    have ei : (0 : Int) + (i : Int) = (i : Int) := Int.zero_add _
    have ap : ∀ {G5 : Hp} {v : V} {c : Bar}, Same G3 G5 → Rp K G5 v (entD (c, (i : Int))) → RpAll K G5 (vs ++ [v]) ((E ++ [(c, (i : Int))]).map entD) := fun e h => by
      rw [List.map_append]
      exact (hvs.up e).app (.one h)
    generalize lotB bs (i : Int) = c at *
    obtain ⟨c0, c1⟩ := c
    have hat' : atI (bs.map barD) (0 + (i : Int)) = some (.tup [.int c0, optD c1]) := hat
    obtain ⟨hc0, hc1, hc2⟩ := hc
    dsimp only at hc0 hc1 hc2
    have hvs' := hvs
    clear hvs mv hat q
    cases c1 with
    | none =>
      walk_at "go"
      refine go_long (b := (c0, none)) (by assumption) (by walk_at "rp") ?_
      walk_at "go"
      walk_at "nl"
      walk_at "go"
      rename_i G4 H4 e4 hS4 hr4 p5 G5 H5 e5 hS5 hr5 H6 hS6
      rw [ei] at hr5
      refine fin (e4.trans e5) hS6 (ap (c := (_, none)) (e4.trans e5) hr5) (ad (okB_mvN ?_ ?_) (nearB_none ?_ ?_)) ?_ ?_ <;> omega
    | some c1 =>
      have hc3 := hc2 c1 rfl
      walk_at "go"
      refine go_long (b := (c0, some c1)) (by assumption) (by walk_at "rp") ?_
      walk_at "go"
      refine go_iteBN (fun hb => ?_) (fun hb => ?_)
      · walk_at "go"
        · walk_at "nl"
          walk_at "go"
          rename_i G4 H4 e4 hS4 hr4 p5 G5 H5 e5 hS5 hr5 H6 hS6
          rw [ei] at hr5
          refine fin (e4.trans e5) hS6 (ap (c := (_, some _)) (e4.trans e5) hr5) (ad (okB_mv ?_ ?_ ?_ ?_) (nearB_some ?_ ?_ ?_ ?_)) ?_ ?_ <;> omega
        all_goals (
          refine go_long (b := (c0, some c1)) (by assumption) (by walk_at "rp") ?_
          walk_at "go"
          refine go_iteX0 hb ?_
          walk_at "go"
          refine fin (Same.refl _) (by assumption) hvs' (sk hb) ?_ ?_ <;> omega)
      · walk_at "go"
        · walk_at "nl"
          walk_at "go"
          rename_i G4 H4 e4 hS4 hr4 p5 G5 H5 e5 hS5 hr5 H6 hS6
          rw [ei] at hr5
          refine fin (e4.trans e5) hS6 (ap (c := (_, some _)) (e4.trans e5) hr5) (ad (okB_mv ?_ ?_ ?_ ?_) (nearB_some ?_ ?_ ?_ ?_)) ?_ ?_ <;> omega
        · refine go_long (b := (c0, some c1)) (by assumption) (by walk_at "rp") ?_
          walk_at "go"
          refine go_iteX1 hb ?_
          walk_at "go"
          walk_at "nl"
          walk_at "go"
          rename_i p5 G5 H5 e5 hS5 hr5 H6 hS6
          rw [ei] at hr5
          refine fin e5 hS6 (ap (c := (c0, some c1)) e5 hr5) (ad (okB_mv ?_ ?_ ?_ ?_) nr) ?_ ?_ <;> omega
  rintro σ' G3 M3 H3 e3 hS3 ⟨vs, E, at3, u6, u7, u8, u9, rfl, hvs, mv, a31, a32, rfl⟩
  rw [bm, Int.toNat_natCast] at mv a32
  have ml := mv.len
  walk_at "go"
  rename_i kn H4 kn0 kn1 hS4
  refine forR hS4 (mvW2 K A.p_law_moved_bars a r pp mm ps bs last lag (at3 + 1) y) ⟨vs, E, _, _, _, _, _, rfl, hvs, mv.fin, by omega, by omega, by omega, rfl⟩ ?_ ?_
  · rintro i σ G5 M5 H5 hi e5 hS5 ⟨vs5, E5, at5, u6, u7, u8, u9, rfl, hvs5, mf, el5, a51, a52, rfl⟩
    have hR5 := (hR.up e3).up e5
    have vl := hvs5.length
    rw [List.length_map] at vl
    have hi3 : i < 3 := by omega
    clear hvs
    walk_at "go"
    · walk_at "nl"
      walk_at "go"
      rename_i G6 H6 e6 hS6 hr6 p7 G7 H7 e7 hS7 hr7 H8 hS8
      have hr7' : Rp K G7 (.ref p7) (entD ((_, some _), -1)) := hr7
      refine Nx.mk hS8 ((e5.trans e6).trans e7) ⟨_, E5 ++ [((_, some _), -1)], _, _, _, _, _, rfl, by rw [List.map_append]; exact (hvs5.up (e6.trans e7)).app (.one hr7'), mf.short (okB_mv ?_ ?_ ?_ ?_) (long_no ?_), by rw [List.length_append, List.length_singleton]; omega, ?_, ?_, rfl⟩ <;> omega
    all_goals (
      refine Nx.mk (by assumption) e5 ⟨_, E5, _, _, _, _, _, rfl, hvs5, mf, by omega, ?_, ?_, rfl⟩ <;> omega)
  clear u6 u7 u8 u9 hvs hS4 hS3 mv
  rintro σ' G5 M5 H5 e5 hS5 ⟨vs5, E5, at5, u6, u7, u8, u9, rfl, hvs5, mf, el5, a51, a52, rfl⟩
  obtain ⟨hS6, e6⟩ := (Sta.perm hS5 (List.Perm.swap _ _ _)).frz m0
  have hmv : Rp K _ (.ref mm) (.lst (E5.map entD)) := raw_l (K := K) (G := upd G5 mm (.lst vs5)) (p := mm) upd_same (hvs5.up e6)
  generalize upd G5 mm (.lst vs5) = G6 at *
  have tab6 := ((tab.up e3).up e5).up e6
  walk_at "go"
  refine go_soK (i := 2) (as := E5) (Da := entD) (kf := fun e => keyB e.1) (kd := fun l => .tup (l.map .int)) hS6 rfl tab6 (.inl hmv) (fun Gb eb => key_fromE) (fun ks G1 H1 e h => .inr (keysT_t e (fun a _ => keyB_ne a.1) h)) fun due dv ps' G7 H7 d0 dg e7 tab7 hS7 hdv => ?_
  simp only [List.set_cons_succ, List.set_cons_zero] at hS7
  have pm := srtA_perm (fun e : Bar × Int => keyB e.1) E5
  have mf' := mf.perm pm
  have el' : (srtA (fun e : Bar × Int => keyB e.1) E5).length ≤ bs.length + 2 := by rw [srtA_len]; omega
  generalize srtA (fun e : Bar × Int => keyB e.1) E5 = E at *
  obtain ⟨G8, e8, hS8, hdue⟩ := hS7.frzL d0 hdv
  have dm : (E.map entD).length = E.length := List.length_map ..
  walk_at "go"
  refine forR hS8 (fun i σ G' M' => ∃ (vs : List V) (u6 : Option V), M' = [(pp, .lst vs), (a, drw r at5), (A.p_law_moved_bars, .tbl ps')] ∧ RpAll K G' vs ((prF (E.take i) 0).map prD) ∧ σ = [some (.ref a), some y, some (.int last), some (.int lag), some (.ref due), some (.ref pp), u6, u7, u8, u9, none]) ⟨[], _, rfl, .nil, rfl⟩ ?_ ?_
  · rintro i σ G9 M9 H9 hi e9 hS9 ⟨vs, u6', rfl, hvs, rfl⟩
    have hi' : i < E.length := by omega
    have hdue9 := hdue.up e9
    have hat : atI (E.map entD) (0 + (i : Int)) = some (.lst [barD E[i].1, .int E[i].2]) := by rw [Int.zero_add]; exact atI_nat (by rw [List.getElem?_map, List.getElem?_eq_getElem hi']; rfl)
    have vl := hvs.length
    rw [List.length_map] at vl
    have pl := prF_len (E.take i) 0
    rw [List.length_take] at pl
    have tk : prF (E.take (i + 1)) 0 = prF (E.take i) 0 ++ if 0 ≤ E[i].2 then [(E[i].2, (i : Int))] else [] := by
      rw [List.take_add_one, List.getElem?_eq_getElem hi', prF_app]
      simp only [Option.toList_some, prF, List.append_nil, List.length_take]
      rw [show 0 + min i E.length = i by omega]
    walk_at "go"
    · rename_i pt G10 H10 e10 hS10 hr10 H11 hS11
      rw [if_pos (by assumption)] at tk
      refine Nx.mk hS11 (e9.trans e10) ⟨_, _, rfl, ?_, rfl⟩
      rw [tk, List.map_append]
      refine (hvs.up e10).app (.one ?_)
      rw [Int.zero_add] at hr10
      exact hr10
    · rename_i hge
      rw [if_neg hge, List.append_nil] at tk
      refine Nx.mk hS9 e9 ⟨_, _, rfl, ?_, rfl⟩
      rw [tk]
      exact hvs
  rintro σ' G9 M9 H9 e9 hS9 ⟨vs, u6', rfl, hvs, rfl⟩
  rw [dm, Int.toNat_natCast, List.take_length] at hvs
  have hdue9 := hdue.up e9
  have pl := prF_len E 0
  have vl := hvs.length
  rw [List.length_map] at vl
  have pg := mf'.pg
  walk_at "go"
  refine lcMapL (as := E) (Da := entD) (F := fun e => barD e.1) hS9 (by assumption) (by assumption) (by omega) ?_ ?_
  · intro z c L10 G10 vs10 es10 H10 Z hc hz e10 l10 hS10 hvs10 fin10
    have hz' : Rp K G10 z (.lst [barD c.1, .int c.2]) := hz
    walk_at "go"
    exact fin10 _ _ _ (Same.refl _) hS10 (by assumption)
  intro p10 G10 H10 e10 hS10 hr10
  have hr10' : Rp K G10 (.ref p10) (.lst ((E.map (·.1)).map barD)) := by rw [List.map_map]; exact hr10
  obtain ⟨G11, e11, hS11, hpp⟩ := hS10.frzL p0 (hvs.up e10)
  have bd : ∀ p ∈ prF E 0, 0 ≤ p.1 ∧ p.1 < 1000 ∧ 0 ≤ p.2 ∧ p.2 < 1000 := fun p hp => by
    have := pg.ok p hp
    simp only [okP, Bool.and_eq_true, decide_eq_true_eq, List.length_map] at this
    omega
  have hr11 := hr10'.up e11
  clear hr10 hr10' hvs hdue9 hdue
  walk_at "go"
  refine go_sortP hS11 hpp (by omega) bd fun p12 qs G12 H12 pm2 pw2 e12 hS12 hr12 => ?_
  have ql := pm2.length_eq
  walk_at "go"
  walk_at "nl"
  walk_at "go"
  rename_i p13 G13 H13 e13 hS13 hr13
  have el := congrArg List.length (prF_fst E 0)
  have fl := List.length_filter_le (fun k : Int => decide (0 ≤ k)) (E.map (·.2))
  have il : (prF E 0).length ≤ bs.length := by
    have n1 := pg.n1
    have := sub_len (ks := (prF E 0).map (·.1)) (xs := (List.range bs.length).map (fun n : Nat => (n : Int))) n1 fun k hk => by
      obtain ⟨p, hp, rfl⟩ := List.mem_map.mp hk
      have := pg.ok p hp
      simp only [okP, Bool.and_eq_true, decide_eq_true_eq] at this
      exact List.mem_map.mpr ⟨p.1.toNat, by rw [List.mem_range]; omega, by omega⟩
    simpa using this
  exact q _ (E.map (·.1)) qs _ _ _ _ hS13.adv (hS13.get (i := 0) rfl) (hS13.get (i := 1) rfl) ((((((tab7.up e8).up e9).up e10).up e11).up e12).up e13) (by omega) (by omega) (by rw [List.length_map]; omega) (by omega) (fun c hc => by
    obtain ⟨e, he, rfl⟩ := List.mem_map.mp hc
    exact mf'.ok e he) ((pg.perm pm2).sorted pw2) hr13
theorem go_moved {G0 H0 G H : Hp} {D : List Addr} {M : List (Addr × HO)} {Q : VK} {E : XK} {a r : Addr} {at_ last lag : Int} {y : V} {bs : List Bar} {ps : Array Value} {P_ : Addr} {lq : Str} {i j : Nat} (hS : Sta K G0 H0 D G M H) (hi : M[i]? = some (a, drw r at_)) (hj : M[j]? = some (P_, .tbl ps)) (tab : TabP G ps lq) (hr : RowOk K G r) (h0 : 0 ≤ at_) (h1 : at_ ≤ 800000000) (hl0 : 0 ≤ last) (hl1 : last ≤ 1000) (hg0 : 0 ≤ lag) (hg1 : lag ≤ 1000) (hy : Rp K G y (.lst (bs.map barD))) (hb : bs.length ≤ 50) (hbs : ∀ c ∈ bs, okB last c)
    (q : ∀ z ms prs at' ps' G1 H1, TabP G1 ps' lq → at_ ≤ at' → at' ≤ at_ + 1000 → ms.length ≤ bs.length + 2 → prs.length ≤ bs.length → (∀ c ∈ ms, okB last c) → pairF bs ms prs lag = true → Same G G1 → Sta K G0 H0 D G1 ((M.set i (a, drw r at')).set j (P_, .tbl ps')) H1 → Rp K G1 z (.lst [.lst (ms.map barD), .lst (prs.map prD)]) → Q z H1) : spMoved K P_ lq [.ref a, y, .int last, .int lag] H Q E := by
  have ne : a ≠ P_ := fun e => by
    subst e
    have h1 := hS.get hi
    have h2 := hS.get hj
    rw [h1] at h2
    cases h2
  exact ⟨a, r, at_, last, lag, y, ps, G, bs, rfl, hS.gh, (hS.mh _ (List.mem_of_getElem? hi)).2.1, (hS.mh _ (List.mem_of_getElem? hj)).2.1, ne, hS.get hi, hS.get hj, tab, hr, h0, h1, hl0, hl1, hg0, hg1, hy, hb, hbs, fun z ms prs at' ps' G1 H1 ad g1 g2 g3 g4 g5 g6 g7 g8 g9 g10 => q z ms prs at' ps' G1 H1 g3 g4 g5 g6 g7 g8 g9 ad.gg (hS.callM2 hi hj ne ad g1 g2) g10⟩
/-! ### the law's greedy pairs -/
theorem atI_getD {r : List Int} {j : Int} (h0 : 0 ≤ j) (h1 : j < r.length) : atI (r.map Dt.int) j = some (.int (r.getD j.toNat 0)) := by
  obtain ⟨k, rfl⟩ := Int.eq_ofNat_of_zero_le h0
  have hk : k < r.length := by omega
  refine atI_nat ?_
  rw [List.getElem?_map, List.getElem?_eq_getElem hk]
  simp [List.getD, hk]
theorem lcFiltKM {K : PySem.W.Frag} {G0 H0 G H : Hp} {D : List Addr} {M : List (Addr × HO)} {σ : L2.St} {Q : VK} {tt : TT} {te : TE} {vss : List Nat} {a : Addr} {xs : List V} {k : Bool} {α : Type} {g : TG} {as : List α} {Da : α → Dt} {p : α → Bool} {F : α → Dt} (hS : Sta K G0 H0 D G M H) (hq : SqK k K G a xs) (hr : RpAll K G xs (as.map Da)) (hl : as.length ≤ 100000)
    (hs : ∀ x c L G1 vs es H1 (Z Z0 : List (Addr × HO) → List Dt → Prop), c ∈ as → Rp K G1 x (Da c) → Same G G1 → H0 L = none → Sta K G0 H0 D G1 ((L, .lst vs) :: M) H1 → RpAll K G1 vs es → (p c = true → ∀ y G2 H2, Same G1 G2 → Sta K G0 H0 D G2 ((L, .lst vs) :: M) H2 → Rp K G2 y (F c) → LcY K G0 H0 D G L Z y H2) → (p c = false → ∀ G2 H2, Same G1 G2 → Sta K G0 H0 D G2 ((L, .lst vs) :: M) H2 → LcP K G0 H0 D G L Z0 H2) →
      g x (wipe σ vss) H1 fun σ2 H3 => wipe σ2 vss = wipe σ vss ∧ tt σ2 H3 fun b H4 => if b = true then te σ2 H4 (LcY K G0 H0 D G L Z) else LcP K G0 H0 D G L Z0 H4)
    (hd : ∀ L vs G1 H1, Same G G1 → H0 L = none → Sta K G0 H0 D G1 ((L, .lst vs) :: M) H1 → RpAll K G1 vs ((as.filter p).map F) → Q (.ref L) H1) : LcG (ItK k K a) g tt te vss σ Q H := by
  have xl := hr.length
  rw [List.length_map] at xl
  refine lcIM (walk_K (xs := xs)) hS (fun H1 e => hq.up e) (fun i M1 es => M1 = M ∧ es = ((as.take i).filter p).map F) ⟨rfl, rfl⟩ (fun i x L G1 M1 vs es H1 H2 hi e l0 s r w yy => ?_) (fun L G1 M1 vs es H1 e l0 s r w => ?_)
  · obtain ⟨rfl, rfl⟩ := w
    obtain ⟨rfl, hx⟩ := yy
    have hi2 : i < as.length := by omega
    obtain ⟨d, hd', rd⟩ := hr.getV hx
    rw [List.getElem?_map, List.getElem?_eq_getElem hi2] at hd'
    cases hd'
    have len : (((as.take i).filter p).map F).length ≤ i := by
      rw [List.length_map]
      exact Nat.le_trans (List.length_filter_le _ _) (by rw [List.length_take]; omega)
    have tk : ((as.take (i + 1)).filter p).map F = ((as.take i).filter p).map F ++ if p as[i] = true then [F as[i]] else [] := by
      rw [List.take_add_one, List.getElem?_eq_getElem hi2, List.filter_append, List.map_append]
      by_cases hp : p as[i] = true <;> simp [hp]
    refine hs x as[i] L G1 vs _ _ _ _ (List.getElem_mem hi2) (rd.up e) e l0 s r (fun hp y G3 H3 e3 s3 hy => ?_) (fun hp G3 H3 e3 s3 => ?_)
    · exact lcY s3 (e.trans e3) (r.up e3) hy (by omega) ⟨rfl, by rw [tk, if_pos hp]⟩
    · exact lcN s3 (e.trans e3) (r.up e3) ⟨rfl, by rw [tk, if_neg (by rw [hp]; decide), List.append_nil]⟩
  · obtain ⟨rfl, rfl⟩ := w
    rw [List.take_of_length_le (by omega)] at r
    exact hd L vs G1 H1 e l0 s r
/-- the first place where a number stands -/
theorem first_at : ∀ {ns : List Int} {k : Int}, k ∈ ns → ∃ j : Nat, ns[j]? = some k ∧ ∀ m : Nat, m < j → ns[m]? ≠ some k
  | n :: ns, k, h => by
    by_cases e : n = k
    · exact ⟨0, by rw [e]; rfl, fun m hm => by omega⟩
    · obtain ⟨j, h1, h2⟩ := first_at ((List.mem_cons.mp h).resolve_left fun z => e z.symm)
      refine ⟨j + 1, h1, fun m hm => ?_⟩
      cases m with
      | zero => exact fun z => e (Option.some.inj z)
      | succ m => exact h2 m (by omega)
theorem go_remI {G0 H0 G H : Hp} {D : List Addr} {M : List (Addr × HO)} {Q : VK} {p : Addr} {ns : List Int} {k : Int} {i : Nat} (hS : Sta K G0 H0 D G M H) (hi : M[i]? = some (p, .lst (ns.map .int))) (hk : k ∈ ns)
    (q : ∀ (j : Nat) H1, Sta K G0 H0 D G (M.set i (p, .lst ((ns.eraseIdx j).map .int))) H1 → Q .non H1) : rRemI (.ref p) [.int k] H Q := by
  obtain ⟨j, h1, h2⟩ := first_at hk
  exact ⟨p, ns, k, j, rfl, rfl, hS.get hi, h1, h2, q j _ (hS.set hi _)⟩
def spGreedy (K : PySem.W.Frag) : Sp := fun vs H Q _ => ∃ (a r : Addr) (at_ lag : Int) (x y : V) (G : Hp) (os ts : List Bar), vs = [.ref a, x, y, .int lag] ∧ Same G H ∧ G a = none ∧ H a = some (drw r at_) ∧ RowOk K G r ∧ 0 ≤ at_ ∧ at_ ≤ 800000000 ∧ Rp K G x (.lst (os.map barD)) ∧ Rp K G y (.lst (ts.map barD)) ∧ os.length ≤ 60 ∧ ts.length ≤ 60 ∧
  ∀ (p : Addr) (pr : List (Int × Int)) (at' : Int) (G1 H1 : Hp), Adv [a] G H G1 H1 → H1 a = some (drw r at') → at_ ≤ at' → at' ≤ at_ + 100 → pr.length ≤ os.length → Rp K G1 (.ref p) (.lst (pr.map prD)) → Q (.ref p) H1
def grW (K : PySem.W.Frag) (a r pl pp : Addr) (at_ lag : Int) (x y : V) (ts : List Bar) (i : Nat) : L2.St → Hp → List (Addr × HO) → Prop := fun σ G1 M1 => ∃ (ls : List Int) (pv : List V) (pr : List (Int × Int)) (at' : Int) (u1 u2 u3 : Option V), M1 = [(pl, .lst (ls.map .int)), (pp, .lst pv), (a, drw r at')] ∧ RpAll K G1 pv (pr.map prD) ∧ pr.length ≤ i ∧ (∀ k ∈ ls, 0 ≤ k ∧ k < (ts.length : Int)) ∧ ls.length ≤ ts.length ∧ at_ ≤ at' ∧ at' ≤ at_ + i ∧
  σ = [some (.ref a), some x, some y, some (.int lag), some (.ref pp), some (.ref pl), u1, u2, u3, none]
theorem ok_law_greedy (T : Txt K mg A) : FnOk P w K mg base CX0 2 A.f_law_greedy A.d_law_greedy ["draws", "first", "second", "lag"] (spGreedy K) := by
  have G_law_are_near := ok_law_are_near (P := P) (w := w) (base := base) T
  have G_law_next := ok_law_next (P := P) (w := w) (base := base) T
  refine T.F_law_greedy.ok sc_law_greedy (fun vs H Q E h => by first | (obtain ⟨rfl, _⟩ := h; rfl) | (obtain ⟨_, rfl, _⟩ := h; rfl) | (obtain ⟨_, _, rfl, _⟩ := h; rfl) | (obtain ⟨_, _, _, rfl, _⟩ := h; rfl) | (obtain ⟨_, _, _, _, rfl, _⟩ := h; rfl) | (obtain ⟨_, _, _, _, _, rfl, _⟩ := h; rfl) | (obtain ⟨_, _, _, _, _, _, rfl, _⟩ := h; rfl) | (obtain ⟨_, _, _, _, _, _, _, rfl, _⟩ := h; rfl) | (obtain ⟨_, _, _, _, _, _, _, _, rfl, _⟩ := h; rfl) | (obtain ⟨_, _, _, _, _, _, _, _, _, rfl, _⟩ := h; rfl) | (obtain ⟨_, _, _, _, _, _, _, _, _, _, rfl, _⟩ := h; rfl) | (obtain ⟨_, _, _, _, _, _, _, _, _, _, _, rfl, _⟩ := h; rfl) | (obtain ⟨_, _, _, _, _, _, _, _, _, _, _, _, rfl, _⟩ := h; rfl) | (obtain ⟨_, _, _, _, _, _, _, _, _, _, _, _, _, rfl, _⟩ := h; rfl) | exact wk_len h) (fun cdv AA outer s H vs Q E hr h => ?_)
  obtain ⟨a, r, at_, lag, x, y, G, os, ts, rfl, hG, hga, hA, hR, h0, h1, hx, hy, l1, l2, q⟩ := h
  refine ⟨_, (pss_cons (ps_set (i := 4) sc_law_greedy.nd rfl (by first | exact Or.inl rfl | exact Or.inr rfl) (pe_lst pa_nil))
      (pss_cons (ps_setLc (i := 5) (own := [("k", 9)]) (g := gName 9) rfl sc_law_greedy.nd rfl rfl (sw_true rfl rfl rfl (by decide +kernel)) (pi_range1 (by rfl) T.z_range (pa_cons (pe_callB (id := "len") b_len (by rfl) T.z_len (by decide +kernel) (pa_cons (pv 2) pa_nil)) pa_nil)) (blkOk_by (N := ["draws", "first", "second", "lag", "pairs", "left", "one", "near", "other", "k"]) (sc := defScope s_law_greedy) (by decide +kernel)) (fun _ _ _ _ _ => pg_name (i := 9) sc_law_greedy.nd rfl (by first | exact Or.inl rfl | exact Or.inr rfl)) (fun _ _ _ _ _ => pts_nil) (fun _ _ _ _ _ => (pv 9)))
      (pss_cons (ps_for PassesOwn.never rfl (pi_range1 (by rfl) T.z_range (pa_cons (pe_callB (id := "len") b_len (by rfl) T.z_len (by decide +kernel) (pa_cons (pv 1) pa_nil)) pa_nil)) (pg_name (i := 6) sc_law_greedy.nd rfl (by first | exact Or.inl rfl | exact Or.inr rfl)) (pss_cons (ps_setLc (i := 7) (own := [("k", 9)]) (g := gName 9) rfl sc_law_greedy.nd rfl rfl (sw_true rfl rfl rfl (by decide +kernel)) (pi_list (pv 5)) (blkOk_by (N := ["draws", "first", "second", "lag", "pairs", "left", "one", "near", "other", "k"]) (sc := defScope s_law_greedy) (by decide +kernel)) (fun _ _ _ _ _ => pg_name (i := 9) sc_law_greedy.nd rfl (by first | exact Or.inl rfl | exact Or.inr rfl)) (fun _ _ _ _ _ => (pts_one (pt_val (pe_call G_law_are_near (hr.mono (by first | decide | omega)) (by rfl) T.m_law_are_near T.F_law_are_near.kp T.b_law_are_near .nil pass0 (pa_cons (pe_ix (show IxR _ (rIx K) from ix_seq) (pv 1) (pv 6) (fun _ _ => rfl)) (pa_cons (pe_ix (show IxR _ (rIx K) from ix_seq) (pv 2) (pv 9) (fun _ _ => rfl)) (pa_cons (pv 3) pa_nil))))))) (fun _ _ _ _ _ => (pv 9)))
      (pss_one (ps_if (pt_cmpR (op_neD hr.units) (pv 7) (pe_lst pa_nil) (nomark _)) (pss_cons (ps_set (i := 8) sc_law_greedy.nd rfl (by first | exact Or.inl rfl | exact Or.inr rfl) (pe_ix ix_seq (pv 7) (pe_call G_law_next (hr.mono (by first | decide | omega)) (by rfl) T.m_law_next T.F_law_next.kp T.b_law_next .nil pass0 (pa_cons (pv 0) (pa_cons (pe_callB (id := "len") b_len (by rfl) T.z_len (by decide +kernel) (pa_cons (pv 7) pa_nil)) pa_nil))) (fun _ _ => rfl)))
      (pss_cons (ps_expr (pe_bm PySem.F.plainAttrs_list PySem.F.slot_list_remove PySem.F.type_list_remove mt_remove (pv 5) (pa_cons (pv 8) pa_nil)))
      (pss_one (ps_expr (pe_bm PySem.F.plainAttrs_list PySem.F.slot_list_append PySem.F.type_list_append mt_append (pv 4) (pa_cons (pe_tup (pa_cons (pv 6) (pa_cons (pv 8) pa_nil))) pa_nil)))))) pss_nil))))
      (pss_one (ps_ret (pv 4)))))), ?_⟩
  try dsimp only [cxOf, Cx.nox, Cx.wish, Cx.blk]
  have hS := Sta.start1 (K := K) hG hA hga
  have m1 : (os.map barD).length = os.length := List.length_map ..
  have m2 : (ts.map barD).length = ts.length := List.length_map ..
  refine go_start (σ := [some (.ref a), some x, some y, some (.int lag), none, none, none, none, none, none]) rfl ?_
  walk_at "go"
  refine go_mutL hS (sz (by simp)) fun pp H1 p0 pg1 hS1 => ?_
  walk_at "go"
  rw [m2]
  refine lcMapRM (F := fun i => .int (i : Int)) hS1 (by omega) ?_ ?_
  · intro i L G4 vs es H4 Z hi e4 l0 hS4 hvs fin
    walk_at "go"
    refine fin _ _ _ (Same.refl _) hS4 ?_
    rw [Int.zero_add]
    exact .int _
  intro pl vs1 G2 H2 e2 l2' hS2 hv1
  have ev1 : vs1 = ((List.range ts.length).map fun i : Nat => (i : Int)).map .int := by
    have : RpAll K G2 vs1 (((List.range ts.length).map fun i : Nat => (i : Int)).map .int) := by
      rw [List.map_map]
      have e : (ts.length : Int).toNat = ts.length := by omega
      first | exact hv1 | (rw [e] at hv1; exact hv1)
    exact this.ints_inv
  rw [ev1] at hS2
  walk_at "go"
  rw [m1]
  have rg : ∀ k ∈ (List.range ts.length).map fun i : Nat => (i : Int), 0 ≤ k ∧ k < (ts.length : Int) := fun k hk => by
    obtain ⟨i, hi, rfl⟩ := List.mem_map.mp hk
    rw [List.mem_range] at hi
    omega
  refine forR hS2 (grW K a r pl pp at_ lag x y ts) ⟨_, [], [], at_, _, _, _, rfl, .nil, Nat.zero_le _, rg, by simp, Int.le_refl _, by omega, rfl⟩ ?_ ?_
  · rintro i σ' G3 M3 H3 hi e3 hS3 ⟨ls, pv, pr, at3, u1, u2, u3, rfl, hpv, prl, lsr, lsl, a31, a32, rfl⟩
    have hio : i < os.length := by omega
    have hx3 := (hx.up e2).up e3
    have hy3 := (hy.up e2).up e3
    have hR3 := (hR.up e2).up e3
    obtain ⟨eO, hSo⟩ := hS3.open
    have hxo := hx3.up eO
    have hyo := hy3.up eO
    have lm : (ls.map V.int).length = ls.length := List.length_map ..
    walk_at "go"
    refine go_itlR (xs := ls.map V.int) upd_same hSo.gh ?_
    refine lcFiltKM (k := false) (as := ls) (Da := .int) (p := fun j => nearB (lotB os (i : Int)) (lotB ts j) lag) (F := .int) hSo (SqL.of upd_same) .ints (by omega) ?_ ?_
    · intro z c L5 G5 vs5 es5 H5 Z Z0 hc hz5 e5 l5 hS5 hvs5 fin5 fin50
      cases Rp.int_inv hz5
      have hxx := hxo.up e5
      have hyy := hyo.up e5
      walk_at "go"
      rw [show (0 : Int) + (i : Int) = (i : Int) from Int.zero_add _]
      refine go_ixB (ds := os.map barD) (d := barD (lotB os (i : Int))) hxx hS5.gh (lotB_at (by omega) (by omega)) fun v1 hv1 => ?_
      walk_at "go"
      refine go_ixB (ds := ts.map barD) (d := barD (lotB ts c)) hyy hS5.gh (lotB_at (lsr c hc).1 (lsr c hc).2) fun v2 hv2 => ?_
      walk_at "go"
      refine go_iteB (fun hb => ?_) (fun hb => ?_)
      · walk_at "go"
        exact fin5 hb _ _ _ (Same.refl _) hS5 (.int _)
      · exact fin50 hb _ _ (Same.refl _) hS5
    intro L6 vs6 G6 H6 e6 l6 hS6 hv6
    have lin : ∀ k ∈ ls.filter fun j => nearB (lotB os (i : Int)) (lotB ts j) lag, k ∈ ls := fun k hk => (List.mem_filter.mp hk).1
    have lfl : (ls.filter fun j => nearB (lotB os (i : Int)) (lotB ts j) lag).length ≤ ls.length := List.length_filter_le _ _
    generalize (ls.filter fun j => nearB (lotB os (i : Int)) (lotB ts j) lag) = nl at *
    have ev6 : vs6 = nl.map .int := hv6.ints_inv
    subst ev6
    obtain ⟨G7, e7, ne7, g7, hS7⟩ := hS3.close hS6
    obtain ⟨G8, e8, hS8, hr8⟩ := (Sta.perm hS7 (List.Perm.swap _ _ _)).frzL (hS3.h0 l6) (RpAll.ints (bs := nl))
    have lmn : (nl.map Dt.int).length = nl.length := List.length_map ..
    clear hSo hS7 hS6 hv6 eO hxo hyo
    walk_at "go"
    refine go_newR hS8 (by simp) fun p9 G9 H9 e9 hS9 hp9 => ?_
    refine go_neInts (as := nl) (bs := []) (hr8.up e9) (.lst (SqL.of hp9) .nil) hS9.gh (by omega) (by simp) ?_
    have hr9 := hr8.up e9
    have hR9 := ((hR3.up e7).up e8).up e9
    have e39 := (e7.trans e8).trans e9
    clear hS8 hS3 hr8
    walk_at "go"
    by_cases hnl : nl = []
    · rw [decide_eq_true hnl]
      walk_at "go"
      exact Nx.mk hS9 (e3.trans e39) ⟨ls, pv, pr, at3, _, _, _, rfl, hpv.up e39, by omega, lsr, lsl, a31, by omega, rfl⟩
    · rw [decide_eq_false hnl]
      have npos : 0 < nl.length := List.length_pos_iff.mpr hnl
      walk_at "go"
      rename_i v9 H10 v0 v1 hS10
      refine go_ixB (ds := nl.map Dt.int) (d := .int (nl.getD v9.toNat 0)) hr9 hS10.gh (atI_getD (by omega) (by omega)) fun v2 hv2 => ?_
      cases Rp.int_inv hv2
      have kmem : nl.getD v9.toNat 0 ∈ nl := by
        have : v9.toNat < nl.length := by omega
        rw [List.getD, List.getElem?_eq_getElem this]
        exact List.getElem_mem this
      generalize nl.getD v9.toNat 0 = kk at *
      walk_at "go"
      refine go_remI (i := 0) hS10 rfl (lin kk kmem) fun j H11 hS11 => ?_
      simp only [List.set_cons_succ, List.set_cons_zero] at hS11
      walk_at "go"
      rename_i pt G12 H12 e12 hS12 hr12
      have pvl : pv.length = pr.length := by rw [hpv.length, List.length_map]
      refine go_append (i := 1) hS12 rfl (by omega) rfl fun H13 hS13 => ?_
      simp only [List.set_cons_succ, List.set_cons_zero] at hS13
      refine Nx.mk hS13 (e3.trans (e39.trans e12)) ⟨ls.eraseIdx j, _, pr ++ [(0 + (i : Int), kk)], at3 + 1, _, _, _, rfl, ?_, by rw [List.length_append, List.length_singleton]; omega, fun k hk => lsr k (List.mem_of_mem_eraseIdx hk), Nat.le_trans (List.length_eraseIdx_le ls j) lsl, by omega, by omega, rfl⟩
      rw [List.map_append]
      exact ((hpv.up e39).up e12).app (.cons hr12 .nil)
  · rintro σ' G3 M3 H3 e3 hS3 ⟨ls, pv, pr, at3, u1, u2, u3, rfl, hpv, prl, lsr, lsl, a31, a32, rfl⟩
    walk_at "go"
    obtain ⟨G4, e4, hS4, hr4⟩ := hS3.pop.frzL p0 hpv
    exact q pp pr at3 _ _ hS4.adv (hS4.get (i := 0) rfl) a31 (by omega) (by omega) hr4
theorem go_greedy {G0 H0 G H : Hp} {D : List Addr} {M : List (Addr × HO)} {Q : VK} {E : XK} {a r : Addr} {at_ lag : Int} {x y : V} {os ts : List Bar} {i : Nat} (hS : Sta K G0 H0 D G M H) (hi : M[i]? = some (a, drw r at_)) (hR : RowOk K G r) (h0 : 0 ≤ at_) (h1 : at_ ≤ 800000000) (hx : Rp K G x (.lst (os.map barD))) (hy : Rp K G y (.lst (ts.map barD))) (l1 : os.length ≤ 60) (l2 : ts.length ≤ 60)
    (q : ∀ (p : Addr) (pr : List (Int × Int)) (at' : Int) (G1 H1 : Hp), at_ ≤ at' → at' ≤ at_ + 100 → pr.length ≤ os.length → Same G G1 → Sta K G0 H0 D G1 (M.set i (a, drw r at')) H1 → Rp K G1 (.ref p) (.lst (pr.map prD)) → Q (.ref p) H1) : spGreedy K [.ref a, x, y, .int lag] H Q E :=
  ⟨a, r, at_, lag, x, y, G, os, ts, rfl, hS.gh, (hS.mh _ (List.mem_of_getElem? hi)).2.1, hS.get hi, hR, h0, h1, hx, hy, l1, l2, fun p pr at' G1 H1 ad g1 g2 g3 g4 g5 => q p pr at' G1 H1 g2 g3 g4 ad.gg (hS.callM hi ad g1) g5⟩
/-! ### either pairs or a lonely lot -/
def isP : Sum (List (Int × Int)) (Bool × List Int) → Bool
  | .inl _ => true
  | .inr _ => false
def wdS (b : Bool) : Str := if b = true then "paired" else "lonely"
def pdB (os ts : List Bar) (lag : Int) : Bool := isP (pwF os ts lag)
theorem pd_of {os ts : List Bar} {pr : List (Int × Int)} {lag d : Int} (h : PG os ts pr d) (hd : d ≤ lag) : pdB os ts lag = true := by
  have ok := pwF_ok os ts lag
  unfold pdB
  cases e : pwF os ts lag with
  | inl pr => rfl
  | inr r =>
    rw [e] at ok
    obtain ⟨t, pl⟩ := r
    have ok1 := ok.1
    cases t with
    | false =>
      have := h.noLon hd (pl := pl)
      rw [if_neg (by decide), if_neg (by decide)] at ok1
      rw [this] at ok1
      cases ok1
    | true =>
      have := h.swap.noLon hd (pl := pl)
      rw [if_pos rfl, if_pos rfl] at ok1
      rw [this] at ok1
      cases ok1
theorem pd_pg {os ts : List Bar} {lag : Int} (h : pdB os ts lag = true) : ∃ pr, PG os ts pr lag := by
  have ok := pwF_ok os ts lag
  unfold pdB at h
  cases e : pwF os ts lag with
  | inr r => rw [e] at h; cases h
  | inl pr =>
    rw [e] at ok
    exact ⟨pr, (pairF_PG.mp ok.1).2⟩
theorem pd_comm (os ts : List Bar) (lag : Int) : pdB ts os lag = pdB os ts lag := by
  rw [Bool.eq_iff_iff]
  constructor
  · intro h
    obtain ⟨pr, g⟩ := pd_pg h
    exact pd_of g.swap (Int.le_refl _)
  · intro h
    obtain ⟨pr, g⟩ := pd_pg h
    exact pd_of g.swap (Int.le_refl _)
theorem pd_mono {os ts : List Bar} {n m : Int} (h : pdB os ts n = true) (l : n ≤ m) : pdB os ts m = true := by
  obtain ⟨pr, g⟩ := pd_pg h
  exact pd_of g l
theorem pd_noPair {os ts : List Bar} {lag : Int} (h : pdB os ts lag = false) (pr : List (Int × Int)) : pairF os ts pr lag = false := by
  cases e : pairF os ts pr lag with
  | false => rfl
  | true =>
    rw [pd_of (pairF_PG.mp e).2 (Int.le_refl _)] at h
    cases h
theorem pd_noLon {os ts : List Bar} {lag : Int} (h : pdB os ts lag = true) (t : Bool) (pl : List Int) : lonF (if t = true then ts else os) (if t = true then os else ts) pl lag = false := by
  obtain ⟨pr, g⟩ := pd_pg h
  cases t with
  | false => exact g.noLon (Int.le_refl _)
  | true => exact g.swap.noLon (Int.le_refl _)
def pwR : Sum (List (Int × Int)) (Bool × List Int) → List Dt
  | .inl pr => [.tup (pr.map prD)]
  | .inr r => [.str (sideS r.1), .tup (r.2.map .int)]
theorem pwD_eq (z : Sum (List (Int × Int)) (Bool × List Int)) : pwD z = .tup (.str (wdS (isP z)) :: pwR z) := by cases z <;> rfl
/-- the word ahead of a lag -/
def bwF (os ts : List Bar) : Nat → Str
  | 0 => ""
  | n + 1 => wdS (pdB os ts (n : Int))
local macro_rules | `(tactic| walk_at "s") => `(tactic| first | ((with_reducible refine' go_bar (at_ := ?t) (r := ?r) (i := ?i) (M' := ?M') ?hS ?hi ?hr ?h0 ?h1 ?hm ?hM ?_); (case hS => assumption); (case hi => walk_at "mi"); (case hr => walk_at "ro"); (case h0 => omega); (case h1 => omega); (case hm => omega); (case hM => walk_at "set"); (intro p b G1 H1 e1 hS1 hr1 hb1 hb2 hb3)) | fail)
theorem bars_of {P : Bar → Prop} : ∀ {es : List Dt}, (∀ (i : Nat) d, es[i]? = some d → ∃ c, d = barD c ∧ P c) → ∃ bs : List Bar, es = bs.map barD ∧ ∀ c ∈ bs, P c
  | [], _ => ⟨[], rfl, fun c hc => by cases hc⟩
  | d :: es, h => by
    obtain ⟨c, rfl, hc⟩ := h 0 d rfl
    obtain ⟨bs, rfl, hb⟩ := bars_of (es := es) fun i d e => h (i + 1) d (by simpa using e)
    exact ⟨c :: bs, rfl, fun x hx => by
      rcases List.mem_cons.mp hx with rfl | hx
      · exact hc
      · exact hb x hx⟩
theorem key_from {Gb : Hp} {σ : L2.St} {js : List Nat} {E : XK} : KeyFrom K Gb barD keyB (fun l => .tup (l.map .int)) fun y H1 Q1 => tCall (spBarKey K) [] E (tCons (tVar 0) tNil) (NdefX.startF ["bar"] [y] (js.map (NdefX.slotAt σ))) H1 Q1 := fun x c G0 H0 G H D M Q _ hS hx q => by
  walk_at "go"
  exact q _ _ _ (by assumption) (by assumption) (by assumption)
/-! ### the law's drawn bars, sorted by a lambda: the list of bars; the lambda's table is lent with the draws -/
def spLawBars (K : PySem.W.Frag) (P_ : Addr) (lq : Str) : Sp := fun vs H Q _ => ∃ (a r : Addr) (at_ last most : Int) (ps : Array Value) (G : Hp), vs = [.ref a, .int last, .int most] ∧ Same G H ∧ G a = none ∧ G P_ = none ∧ a ≠ P_ ∧ H a = some (drw r at_) ∧ H P_ = some (.tbl ps) ∧ TabP G ps lq ∧ RowOk K G r ∧ 0 ≤ at_ ∧ at_ ≤ 800000000 ∧ 0 ≤ last ∧ last ≤ 1000 ∧ 0 ≤ most ∧ most ≤ 100 ∧
  ∀ p vs bs at' ps' G1 H1, Adv [a, P_] G H G1 H1 → H1 a = some (drw r at') → H1 P_ = some (.tbl ps') → TabP G1 ps' lq → at_ ≤ at' → at' ≤ at_ + 1000 → (bs.length : Int) ≤ most → (∀ c ∈ bs, okB last c) → H p = none → H1 p = some (.lst vs) → G1 p = none → RpAll K G1 vs ((srtA keyB bs).map barD) → Q (.ref p) H1
theorem ok_law_bars (T : Txt K mg A) (B : Tbs base mg A) : FnOk P w K mg base CX0 5 A.f_law_bars A.d_law_bars ["draws", "last", "most"] (spLawBars K A.p_law_bars lq_law_bars) := by
  have G_law_bar := ok_law_bar (P := P) (w := w) (base := base) T
  have G_law_bar_key := ok_law_bar_key (P := P) (w := w) (base := base) T
  have G_law_next := ok_law_next (P := P) (w := w) (base := base) T
  refine T.FC_law_bars.ok sc_law_bars (fun vs H Q E h => by first | (obtain ⟨rfl, _⟩ := h; rfl) | (obtain ⟨_, rfl, _⟩ := h; rfl) | (obtain ⟨_, _, rfl, _⟩ := h; rfl) | (obtain ⟨_, _, _, rfl, _⟩ := h; rfl) | (obtain ⟨_, _, _, _, rfl, _⟩ := h; rfl) | (obtain ⟨_, _, _, _, _, rfl, _⟩ := h; rfl) | (obtain ⟨_, _, _, _, _, _, rfl, _⟩ := h; rfl) | (obtain ⟨_, _, _, _, _, _, _, rfl, _⟩ := h; rfl) | (obtain ⟨_, _, _, _, _, _, _, _, rfl, _⟩ := h; rfl) | (obtain ⟨_, _, _, _, _, _, _, _, _, rfl, _⟩ := h; rfl) | (obtain ⟨_, _, _, _, _, _, _, _, _, _, rfl, _⟩ := h; rfl) | (obtain ⟨_, _, _, _, _, _, _, _, _, _, _, rfl, _⟩ := h; rfl) | (obtain ⟨_, _, _, _, _, _, _, _, _, _, _, _, rfl, _⟩ := h; rfl) | (obtain ⟨_, _, _, _, _, _, _, _, _, _, _, _, _, rfl, _⟩ := h; rfl) | exact wk_len h) (fun AA outer s H vs Q E hr h => ?_)
  obtain ⟨a, r, at_, last, most, ps, G, rfl, hG, hga, hgp, ne, hA, hP, tab, hR, h0, h1, hl0, hl1, hm0, hm1, q⟩ := h
  refine ⟨_, (pss_one (ps_ret (pe_sortL (N := ["bar"]) (fr := []) (x := "bar") (q := lq_law_bars) (js := []) (n := 1) B.tb_law_bars rfl (by rfl) (by rfl) T.z_sorted (pa_cons (pe_lc (own := [("k", 3)]) (g := gName 3) rfl sc_law_bars.nd (pi_range1 (by rfl) T.z_range (pa_cons (pe_call G_law_next (hr.mono (by first | decide | omega)) (by rfl) T.m_law_next T.F_law_next.kp T.b_law_next .nil pass0 (pa_cons (pv 0) (pa_cons (pe_op op_add (pv 2) pe_int) pa_nil))) pa_nil)) (blkOk_by (N := ["draws", "last", "most", "k"]) (sc := defScope s_law_bars) (by decide +kernel)) (fun _ _ _ _ _ => pg_name (i := 3) sc_law_bars.nd rfl (by first | exact Or.inl rfl | exact Or.inr rfl)) (fun _ _ _ _ _ => pts_nil) (fun _ _ _ _ _ => (pe_call G_law_bar (hr.mono (by first | decide | omega)) (by rfl) T.m_law_bar T.F_law_bar.kp T.b_law_bar .nil pass0 (pa_cons (pv 0) (pa_cons (pv 1) pa_nil))))) pa_nil) (NdefX.nscope_by (by first | kernel_rfl | rfl)) (by first | kernel_rfl | rfl) (by rfl) (hr.mono (by first | decide | omega)) (by rfl) (fun _ _ _ _ _ => by rfl) (fun _ _ _ _ hr => (pe_call G_law_bar_key (hr.mono (by first | decide | omega)) (by rfl) T.m_law_bar_key T.F_law_bar_key.kp T.b_law_bar_key .nil pass0 (pa_cons (pv 0) pa_nil)))))), ?_⟩
  try dsimp only [cxOf, Cx.nox, Cx.wish, Cx.blk]
  have hS := Sta.start2 (K := K) hG hA hP hga hgp ne
  refine go_start (σ := [some (.ref a), some (.int last), some (.int most), none]) rfl ?_
  walk_at "go"
  rename_i n H1 n0 n1 hS1
  obtain ⟨N, rfl⟩ := Int.eq_ofNat_of_zero_le n0
  rw [Int.toNat_natCast]
  refine lcDrawR (j := 0) (c := 2) hS1 rfl (by omega) (fun _ d => ∃ c, d = barD c ∧ okB last c) ?_ ?_
  · intro i L G16 at3 vs es H16 Z hi e16 l0 a1 a2 hS16 hvs fin
    simp only [List.set_cons_zero] at hS16
    have hR16 := hR.up e16
    walk_at "go"
    rename_i p c G17 H17 e17 hS17 hr17 hb1 hb2 hb3
    exact fin _ _ _ _ _ e17 hS17 (by omega) (by omega) hr17 ⟨c, rfl, hb1, hb2, hb3⟩
  intro L at3 vs es G16 H16 e16 l0 a1 a2 hS16 hvs hel hPb
  obtain ⟨bs, rfl, hbs⟩ := bars_of hPb
  simp only [List.set_cons_zero] at hS16
  rw [List.length_map] at hel
  obtain ⟨hS17, e17⟩ := hS16.frz l0
  have hL := raw_l (K := K) (G := upd G16 L (.lst vs)) (p := L) upd_same (hvs.up e17)
  generalize upd G16 L (.lst vs) = G17 at *
  walk_at "go"
  refine go_soK (i := 1) (as := bs) (Da := barD) (kf := keyB) (kd := fun l => .tup (l.map .int)) hS17 rfl ((tab.up e16).up e17) (.inl hL) (fun Gb eb => key_from) (fun ks G1 H1 e h => .inr (keysT_t e (fun a _ => keyB_ne a) h)) fun due dv ps' G21 H21 d0 dg e21 tab2 hS21 hdv => ?_
  simp only [List.set_cons_succ, List.set_cons_zero] at hS21
  have hp1 := hS21.get (i := 0) rfl
  have hp2 := (hS21.mh _ (List.mem_cons_self)).2.1
  exact q due dv bs _ ps' _ _ hS21.pop.adv (hS21.get (i := 1) rfl) (hS21.get (i := 2) rfl) tab2 (by omega) (by omega) (by omega) hbs d0 hp1 hp2 hdv
theorem go_lawBarsM {G0 H0 G H : Hp} {D : List Addr} {M : List (Addr × HO)} {Q : VK} {E : XK} {a r : Addr} {at_ last most : Int} {ps : Array Value} {P_ : Addr} {lq : Str} {i j : Nat} (hS : Sta K G0 H0 D G M H) (hi : M[i]? = some (a, drw r at_)) (hj : M[j]? = some (P_, .tbl ps)) (tab : TabP G ps lq) (hr : RowOk K G r) (h0 : 0 ≤ at_) (h1 : at_ ≤ 800000000) (hl0 : 0 ≤ last) (hl1 : last ≤ 1000) (hm0 : 0 ≤ most) (hm1 : most ≤ 100)
    (q : ∀ p vs bs at' ps' G1 H1, TabP G1 ps' lq → at_ ≤ at' → at' ≤ at_ + 1000 → (bs.length : Int) ≤ most → (∀ c ∈ bs, okB last c) → Same G G1 → H0 p = none → G p = none → Sta K G0 H0 D G1 ((p, .lst vs) :: (M.set i (a, drw r at')).set j (P_, .tbl ps')) H1 → RpAll K G1 vs ((srtA keyB bs).map barD) → Q (.ref p) H1) : spLawBars K P_ lq [.ref a, .int last, .int most] H Q E := by
  have ne : a ≠ P_ := fun e => by
    subst e
    have h1 := hS.get hi
    have h2 := hS.get hj
    rw [h1] at h2
    cases h2
  refine ⟨a, r, at_, last, most, ps, G, rfl, hS.gh, (hS.mh _ (List.mem_of_getElem? hi)).2.1, (hS.mh _ (List.mem_of_getElem? hj)).2.1, ne, hS.get hi, hS.get hj, tab, hr, h0, h1, hl0, hl1, hm0, hm1, fun p vs bs at' ps' G1 H1 ad g1 g2 g3 g4 g5 g6 g7 n0 n1 n2 g8 => q p vs bs at' ps' G1 H1 g3 g4 g5 g6 g7 ad.gg (hS.h0 n0) (hS.gn n0) ((hS.callM2 hi hj ne ad g1 g2).adopt n1 n2 (hS.h0 n0) fun x hx e => ?_) g8⟩
  rcases set_mem (by rw [set_keys hi]; exact hS.md) (by rw [List.getElem?_set_ne (fun z => by subst z; rw [hi] at hj; cases hj)]; exact hj) hx with rfl | ⟨hx, _⟩
  · rw [← e, hS.get hj] at n0
    cases n0
  · rcases set_mem hS.md hi hx with rfl | ⟨hx, _⟩
    · rw [← e, hS.get hi] at n0
      cases n0
    · rw [← e, (hS.mh _ hx).1] at n0
      cases n0
theorem eqv_wd (a b : Bool) : decide (wdS a = wdS b) = decide (a = b) := by cases a <;> cases b <;> rfl
theorem atI_0 {d : Dt} {l : List Dt} : L2.atI (d :: l) 0 = some d := by
  have := atI_nat (xs := d :: l) (j := 0) (v := d) rfl
  simpa using this
theorem ok_law (T : Txt K mg A) (B : Tbs base mg A) : FnOk P w K mg base CX0 6 A.f_law A.d_law ["script"] (spLawT K A) := by
  have G_law_bars := ok_law_bars (P := P) (w := w) (base := base) T B
  have G_law_cell := ok_law_cell (P := P) (w := w) (base := base) T
  have G_law_draws := ok_law_draws (P := P) (w := w) (base := base) T
  have G_law_greedy := ok_law_greedy (P := P) (w := w) (base := base) T
  have G_law_is_long := ok_law_is_long (P := P) (w := w) (base := base) T
  have G_law_moved_bars := ok_law_moved_bars (P := P) (w := w) (base := base) T B
  have G_law_next := ok_law_next (P := P) (w := w) (base := base) T
  have G_is_lonely := ok_is_lonely (P := P) (w := w) (base := base) T
  have G_is_pairing := ok_is_pairing (P := P) (w := w) (base := base) T
  have G_pair_within := ok_pair_within (P := P) (w := w) (base := base) T
  refine T.F_law.ok sc_law (fun vs H Q E h => by first | (obtain ⟨rfl, _⟩ := h; rfl) | (obtain ⟨_, rfl, _⟩ := h; rfl) | (obtain ⟨_, _, rfl, _⟩ := h; rfl) | (obtain ⟨_, _, _, rfl, _⟩ := h; rfl) | (obtain ⟨_, _, _, _, rfl, _⟩ := h; rfl) | (obtain ⟨_, _, _, _, _, rfl, _⟩ := h; rfl) | (obtain ⟨_, _, _, _, _, _, rfl, _⟩ := h; rfl) | (obtain ⟨_, _, _, _, _, _, _, rfl, _⟩ := h; rfl) | (obtain ⟨_, _, _, _, _, _, _, _, rfl, _⟩ := h; rfl) | (obtain ⟨_, _, _, _, _, _, _, _, _, rfl, _⟩ := h; rfl) | (obtain ⟨_, _, _, _, _, _, _, _, _, _, rfl, _⟩ := h; rfl) | (obtain ⟨_, _, _, _, _, _, _, _, _, _, _, rfl, _⟩ := h; rfl) | (obtain ⟨_, _, _, _, _, _, _, _, _, _, _, _, rfl, _⟩ := h; rfl) | (obtain ⟨_, _, _, _, _, _, _, _, _, _, _, _, _, rfl, _⟩ := h; rfl) | exact wk_len h) (fun cdv AA outer s H vs Q E hr h => ?_)
  obtain ⟨a, ns, rfl, hs, hl, ht, q⟩ := h
  refine ⟨_, (pss_cons (ps_set (i := 1) sc_law.nd rfl (by first | exact Or.inl rfl | exact Or.inr rfl) (pe_call G_law_draws (hr.mono (by first | decide | omega)) (by rfl) T.m_law_draws T.F_law_draws.kp T.b_law_draws .nil pass0 (pa_cons (pe_call G_law_cell (hr.mono (by first | decide | omega)) (by rfl) T.m_law_cell T.F_law_cell.kp T.b_law_cell .nil pass0 (pa_cons (pv 0) (pa_cons pe_int pa_nil))) pa_nil)))
      (pss_cons (ps_set (i := 2) sc_law.nd rfl (by first | exact Or.inl rfl | exact Or.inr rfl) (pe_op op_add pe_int (pe_call G_law_next (hr.mono (by first | decide | omega)) (by rfl) T.m_law_next T.F_law_next.kp T.b_law_next .nil pass0 (pa_cons (pv 1) (pa_cons pe_int pa_nil)))))
      (pss_cons (ps_set (i := 3) sc_law.nd rfl (by first | exact Or.inl rfl | exact Or.inr rfl) (pe_call G_law_next (hr.mono (by first | decide | omega)) (by rfl) T.m_law_next T.F_law_next.kp T.b_law_next .nil pass0 (pa_cons (pv 1) (pa_cons pe_int pa_nil))))
      (pss_cons (ps_set (i := 4) sc_law.nd rfl (by first | exact Or.inl rfl | exact Or.inr rfl) (pe_call G_law_bars (hr.mono (by first | decide | omega)) (by rfl) T.m_law_bars T.F_law_bars.kp T.b_law_bars .nil pass0 (pa_cons (pv 1) (pa_cons (pv 2) (pa_cons pe_int pa_nil)))))
      (pss_cons (ps_set (i := 5) sc_law.nd rfl (by first | exact Or.inl rfl | exact Or.inr rfl) (pe_call G_law_draws (hr.mono (by first | decide | omega)) (by rfl) T.m_law_draws T.F_law_draws.kp T.b_law_draws .nil pass0 (pa_cons (pe_call G_law_cell (hr.mono (by first | decide | omega)) (by rfl) T.m_law_cell T.F_law_cell.kp T.b_law_cell .nil pass0 (pa_cons (pv 0) (pa_cons pe_int pa_nil))) pa_nil)))
      (pss_cons (ps_set (i := 6) sc_law.nd rfl (by first | exact Or.inl rfl | exact Or.inr rfl) (pe_call G_law_bars (hr.mono (by first | decide | omega)) (by rfl) T.m_law_bars T.F_law_bars.kp T.b_law_bars .nil pass0 (pa_cons (pv 5) (pa_cons (pv 2) (pa_cons pe_int pa_nil)))))
      (pss_cons (ps_if (pt_cmpR op_gt (pe_call G_law_next (hr.mono (by first | decide | omega)) (by rfl) T.m_law_next T.F_law_next.kp T.b_law_next .nil pass0 (pa_cons (pv 5) (pa_cons pe_int pa_nil))) pe_int (nomark _)) (pss_one (ps_set (i := 6) sc_law.nd rfl (by first | exact Or.inl rfl | exact Or.inr rfl) (pe_ix ix_seq (pe_call G_law_moved_bars (hr.mono (by first | decide | omega)) (by rfl) T.m_law_moved_bars T.F_law_moved_bars.kp T.b_law_moved_bars .nil pass0 (pa_cons (pv 5) (pa_cons (pv 4) (pa_cons (pv 2) (pa_cons (pv 3) pa_nil))))) pe_int (fun _ _ => rfl)))) pss_nil)
      (pss_cons (ps_set (i := 7) sc_law.nd rfl (by first | exact Or.inl rfl | exact Or.inr rfl) pe_str)
      (pss_cons (ps_for PassesOwn.never rfl (pi_range1 (by rfl) T.z_range (pa_cons pe_int pa_nil)) (pg_name (i := 8) sc_law.nd rfl (by first | exact Or.inl rfl | exact Or.inr rfl)) (pss_cons (ps_set (i := 9) sc_law.nd rfl (by first | exact Or.inl rfl | exact Or.inr rfl) (pe_ix ix_seq (pe_callN G_pair_within (hr.mono (by first | decide | omega)) (by rfl) T.m_pair_within T.F_pair_within.kp T.k2_pair_within pass0 (pa_cons (pv 4) (pa_cons (pv 6) pa_nil)) (pk_cons (pv 8) pk_nil)) pe_int (fun _ _ => rfl)))
      (pss_cons (ps_if (PW.pt (pw_or (pt_cmpR op_ne (pe_ix ix_seq (pe_callN G_pair_within (hr.mono (by first | decide | omega)) (by rfl) T.m_pair_within T.F_pair_within.kp T.k2_pair_within pass0 (pa_cons (pv 6) (pa_cons (pv 4) pa_nil)) (pk_cons (pv 8) pk_nil)) pe_int (fun _ _ => rfl)) (pv 9) (nomark _)) (pw_or1 (PW.pt (pw_and (pt_cmpR op_eq (pv 7) pe_str (nomark _)) (pw_and1 (pt_cmpR op_ne (pv 9) pe_str (nomark _)))))))) (pss_one (ps_ret pe_bl)) pss_nil)
      (pss_cons (ps_set (i := 7) sc_law.nd rfl (by first | exact Or.inl rfl | exact Or.inr rfl) (pv 9))
      (pss_cons (ps_for PassesOwn.never rfl (pi_range1 (by rfl) T.z_range (pa_cons pe_int pa_nil)) (pg_name (i := 10) sc_law.nd rfl (by first | exact Or.inl rfl | exact Or.inr rfl)) (pss_cons (ps_set (i := 11) sc_law.nd rfl (by first | exact Or.inl rfl | exact Or.inr rfl) (pe_call G_law_greedy (hr.mono (by first | decide | omega)) (by rfl) T.m_law_greedy T.F_law_greedy.kp T.b_law_greedy .nil pass0 (pa_cons (pv 5) (pa_cons (pv 4) (pa_cons (pv 6) (pa_cons (pv 8) pa_nil))))))
      (pss_one (ps_if (PW.pt (pw_and (pt_cmpR op_eq (pv 9) pe_str (nomark _)) (pw_and1 (pt_cmpR (show OpR _ _ rIsntB from op_isnot_bl) (pe_callN G_is_pairing (hr.mono (by first | decide | omega)) (by rfl) T.m_is_pairing T.F_is_pairing.kp T.k3_is_pairing pass0 (pa_cons (pv 4) (pa_cons (pv 6) (pa_cons (pv 11) pa_nil))) (pk_cons (pv 8) pk_nil)) pe_bl (nomark _))))) (pss_one (ps_ret pe_bl)) pss_nil))))
      (pss_one (ps_for PassesOwn.never rfl (pi_list (pe_lst (pa_cons pe_str (pa_cons pe_str pa_nil)))) (pg_name (i := 12) sc_law.nd rfl (by first | exact Or.inl rfl | exact Or.inr rfl)) (pss_cons (ps_set (i := 13) sc_law.nd rfl (by first | exact Or.inl rfl | exact Or.inr rfl) (pe_ix ix_seq (pe_lst (pa_cons (pv 4) (pa_cons (pv 6) pa_nil))) (pe_callTy (T := "int") b_int (by rfl) T.z_int (by decide +kernel) (pa_cons (pe_cmpR op_eq (pv 12) pe_str (nomark _)) pa_nil)) (fun _ _ => rfl)))
      (pss_cons (ps_set (i := 14) sc_law.nd rfl (by first | exact Or.inl rfl | exact Or.inr rfl) (pe_slice sl_list (pe_lc (own := [("k", 10)]) (g := gName 10) rfl sc_law.nd (pi_range1 (by rfl) T.z_range (pa_cons (pe_callB (id := "len") b_len (by rfl) T.z_len (by decide +kernel) (pa_cons (pv 13) pa_nil)) pa_nil)) (blkOk_by (N := ["script", "draws", "last", "lag", "first", "others", "second", "before", "near", "word", "k", "pairs", "side", "ours", "long", "mask", "lot", "j"]) (sc := defScope s_law) (by decide +kernel)) (fun _ _ _ _ _ => pg_name (i := 10) sc_law.nd rfl (by first | exact Or.inl rfl | exact Or.inr rfl)) (fun _ _ _ _ _ => (pts_one (pt_val (pe_call G_law_is_long (hr.mono (by first | decide | omega)) (by rfl) T.m_law_is_long T.F_law_is_long.kp T.b_law_is_long .nil pass0 (pa_cons (pe_ix (show IxR _ (rIx K) from ix_seq) (pv 13) (pv 10) (fun _ _ => rfl)) (pa_cons (pv 8) pa_nil)))))) (fun _ _ _ _ _ => (pv 10))) po_none (po_some pe_int)))
      (pss_one (ps_for PassesOwn.never rfl (pi_range1 (by rfl) T.z_range (pa_cons pe_int pa_nil)) (pg_name (i := 15) sc_law.nd rfl (by first | exact Or.inl rfl | exact Or.inr rfl)) (pss_cons (ps_setLc (i := 16) (own := [("j", 17)]) (g := gName 17) rfl sc_law.nd rfl rfl (sw_true rfl rfl rfl (by decide +kernel)) (pi_range1 (by rfl) T.z_range (pa_cons (pe_callB (id := "len") b_len (by rfl) T.z_len (by decide +kernel) (pa_cons (pv 14) pa_nil)) pa_nil)) (blkOk_by (N := ["script", "draws", "last", "lag", "first", "others", "second", "before", "near", "word", "k", "pairs", "side", "ours", "long", "mask", "lot", "j"]) (sc := defScope s_law) (by decide +kernel)) (fun _ _ _ _ _ => pg_name (i := 17) sc_law.nd rfl (by first | exact Or.inl rfl | exact Or.inr rfl)) (fun _ _ _ _ _ => (pts_one (pt_cmpR op_eq (pe_op op_mod (pe_op op_fdiv (pv 15) (pe_ix (show IxR _ (rIx K) from ix_seq) (pe_lst (pa_cons pe_int (pa_cons pe_int (pa_cons pe_int (pa_cons pe_int (pa_cons pe_int (pa_cons pe_int pa_nil))))))) (pv 17) (fun _ _ => rfl))) pe_int) pe_int (nomark _)))) (fun _ _ _ _ _ => (pe_ix (show IxR _ (rIx K) from ix_seq) (pv 14) (pv 17) (fun _ _ => rfl))))
      (pss_one (ps_if (PW.pt (pw_and (pt_cmpR op_eq (pv 9) pe_str (nomark _)) (pw_and1 (pt_cmpR (show OpR _ _ rIsntB from op_isnot_bl) (pe_callN G_is_lonely (hr.mono (by first | decide | omega)) (by rfl) T.m_is_lonely T.F_is_lonely.kp T.k4_is_lonely pass0 (pa_cons (pv 4) (pa_cons (pv 6) (pa_cons (pv 12) (pa_cons (pv 16) pa_nil)))) (pk_cons (pv 8) pk_nil)) pe_bl (nomark _))))) (pss_one (ps_ret pe_bl)) pss_nil))))))))))))))
      (pss_one (ps_ret (pe_cmpR op_in_seq (pv 7) (pe_lst (pa_cons pe_str (pa_cons pe_str pa_nil))) (by rfl))))))))))))), ?_⟩
  try dsimp only [cxOf, Cx.nox, Cx.wish, Cx.blk]
  have hP : ∀ p ∈ [A.p_law_bars, A.p_law_moved_bars], H p = some (.tbl #[]) := fun p hp => by
    simp only [List.mem_cons, List.not_mem_nil, or_false] at hp
    rcases hp with rfl | rfl
    · exact ht (A.c_law_bars, A.p_law_bars) (by simp [Ad.tabs])
    · exact ht (A.c_law_moved_bars, A.p_law_moved_bars) (by simp [Ad.tabs])
  have hS := start_tabs (K := K) hP (by
    have n1 := T.ne_law_bars_law_moved_bars
    simp [n1])
  have hsc : Rp K (lessL H [A.p_law_bars, A.p_law_moved_bars]) (.ref a) (.lst (ns.map .int)) := .lst (sqL_lessL hP hs) .ints
  generalize lessL H [A.p_law_bars, A.p_law_moved_bars] = G at *
  simp only [List.map_cons, List.map_nil] at hS
  generalize hD : [A.p_law_bars, A.p_law_moved_bars] = D at hS
  refine go_start (σ := [some (.ref a), none, none, none, none, none, none, none, none, none, none, none, none, none, none, none, none, none]) rfl ?_
  walk_at "go"
  refine go_draws ‹_› fun da r G2 H2 e2 hS2 hR => ?_
  walk_at "go"
  rename_i lt H3 lt0 lt1 hS3 lag H4 lg0 lg1 hS4
  refine go_lawBarsM (i := 0) (j := 1) hS4 rfl rfl TabP.nil hR (by omega) (by omega) (by omega) (by omega) (by omega) (by omega) fun pf vf bf0 at1 ps G5 H5 tab5 hc0 hc1 hbl hbs e5 nf gf hS5 hvf => ?_
  simp only [List.set_cons_succ, List.set_cons_zero] at hS5
  have hfl : (srtA keyB bf0).length ≤ 8 := by rw [srtA_len]; omega
  have hfo : ∀ c ∈ srtA keyB bf0, okB (3 + lt) c := fun c hc => hbs c ((srtA_perm keyB bf0).mem_iff.mp hc)
  generalize srtA keyB bf0 = bf at *
  clear hbs hbl
  obtain ⟨G6, e6, hS6, hbf⟩ := hS5.frzL nf hvf
  have hsc6 := (((hsc.up e2).up e5).up e6)
  have tab6 := tab5.up e6
  clear hS5 hS4 hS3 hS2 hS hvf
  walk_at "go"
  refine go_draws ‹_› fun db r2 G7 H7 e7 hS7 hR2 => ?_
  walk_at "go"
  refine go_lawBarsM (i := 0) (j := 2) hS7 rfl rfl (tab6.up e7) hR2 (by omega) (by omega) (by omega) (by omega) (by omega) (by omega) fun pg vg bg0 at2 ps2 G8 H8 tab8 hd0 hd1 hbl hbs e8 ng gg hS8 hvg => ?_
  simp only [List.set_cons_succ, List.set_cons_zero] at hS8
  have hgl : (srtA keyB bg0).length ≤ 8 := by rw [srtA_len]; omega
  generalize srtA keyB bg0 = bg at *
  clear hbs hbl
  obtain ⟨G9, e9, hS9, hbg⟩ := hS8.frzL ng hvg
  have hbf9 := ((hbf.up e7).up e8).up e9
  have hR9 := (hR2.up e8).up e9
  clear hS8 hS7 hS6 hvg
  walk_at "to"
  refine go_seq ?_
  refine go_join (fun σ' H' => ∃ (G' : Hp) (v6 : V) (ss : List Bar) (at' : Int) (ps' : Array Value), Same G9 G' ∧ Sta K G H D G' [(db, drw r2 at'), (da, drw r at1), (A.p_law_bars, .tbl ps2), (A.p_law_moved_bars, .tbl ps')] H' ∧ Rp K G' v6 (.lst (ss.map barD)) ∧ ss.length ≤ 12 ∧ at2 ≤ at' ∧ at' ≤ at2 + 2000 ∧
    σ' = [some (.ref a), some (.ref da), some (.int (3 + lt)), some (.int lag), some (.ref pf), some (.ref db), some v6, none, none, none, none, none, none, none, none, none, none, none]) ?_ ?_
  · intro N hN
    walk_at "go"
    · rename_i H10 v0 v1 hS10
      refine go_moved (i := 0) (j := 3) ‹_› rfl rfl TabP.nil hR9 (by omega) (by omega) (by omega) (by omega) (by omega) (by omega) hbf9 (by omega) hfo fun z ms prs at9 ps9 G9' H9' tab9 a91 a92 ml pl hmo hpr e9' hS9' hz => ?_
      simp only [List.set_cons_succ, List.set_cons_zero] at hS9'
      walk_at "go"
      exact hN _ _ ⟨_, _, ms, _, _, by assumption, by assumption, by assumption, by omega, by omega, by omega, rfl⟩
    · exact hN _ _ ⟨G9, _, bg, _, _, Same.refl _, by assumption, hbg, by omega, by omega, by omega, rfl⟩
  clear hS9
  rintro σ' H' ⟨G10, v6, ss, at3, ps3, e10, hS10, hss, lss, a31, a32, rfl⟩
  have hfs := hbf9.up e10
  have hR10 := hR9.up e10
  clear hbf9 hR9 hbg
  walk_at "go"
  refine forR hS10 (fun i σ G' M' => ∃ (at' : Int) (w8 w9 w10 w11 w12 w13 w14 w15 w16 w17 : Option V), M' = [(db, drw r2 at'), (da, drw r at1), (A.p_law_bars, .tbl ps2), (A.p_law_moved_bars, .tbl ps3)] ∧ at3 ≤ at' ∧ at' ≤ at3 + 400 * (i : Int) ∧ σ = [some (.ref a), some (.ref da), some (.int (3 + lt)), some (.int lag), some (.ref pf), some (.ref db), some v6, some (.str (bwF bf ss i)), w8, w9, w10, w11, w12, w13, w14, w15, w16, w17]) ⟨at3, _, _, _, _, _, _, _, _, _, _, rfl, by omega, by omega, rfl⟩ ?_ ?_
  · rintro i σ G11 M11 H11 hi e11 hS11 ⟨at4, w8, w9, w10, w11, w12, w13, w14, w15, w16, w17, rfl, a41, a42, rfl⟩
    have hi' : i < 5 := by omega
    have hfs11 := hfs.up e11
    have hss11 := hss.up e11
    have hR11 := hR10.up e11
    rw [show (0 : Int) + (i : Int) = (i : Int) from Int.zero_add _]
    walk_at "go"
    refine go_pw (k := false) (os := bf) (ts := ss) hS11 hfs11 hss11 (by omega) (by omega) fun v12 G12 H12 e12 hS12 hv12 => ?_
    rw [pwD_eq] at hv12
    walk_at "go"
    refine go_ixA (d := .str (wdS (pdB bf ss i))) hv12 hS12.gh atI_0 fun u12 hu12 => ?_
    cases Rp.str_inv hu12
    have hmo : bwF bf ss i = "paired" → pdB bf ss i = true := fun h => by
      cases i with
      | zero => exact absurd (show ("" : Str) = "paired" from h) (by decide)
      | succ n =>
        have h : wdS (pdB bf ss (n : Int)) = "paired" := h
        cases hb : pdB bf ss (n : Int) with
        | false => rw [hb] at h; exact absurd h (by decide)
        | true => exact pd_mono hb (by omega)
    walk_at "to"
    refine go_seq ?_
    refine go_join (fun σ' H' => ∃ G', Same G12 G' ∧ Sta K G H D G' [(db, drw r2 at4), (da, drw r at1), (A.p_law_bars, .tbl ps2), (A.p_law_moved_bars, .tbl ps3)] H' ∧ σ' = [some (.ref a), some (.ref da), some (.int (3 + lt)), some (.int lag), some (.ref pf), some (.ref db), some v6, some (.str (bwF bf ss i)), some (.int (i : Int)), some (.str (wdS (pdB bf ss i))), w10, w11, w12, w13, w14, w15, w16, w17]) ?_ ?_
    · intro N hN
      walk_at "go"
      refine go_pw (k := false) (os := ss) (ts := bf) hS12 (hss11.up e12) (hfs11.up e12) (by omega) (by omega) fun v13 G13 H13 e13 hS13 hv13 => ?_
      rw [pwD_eq] at hv13
      walk_at "go"
      refine go_ixA (d := .str (wdS (pdB ss bf i))) hv13 hS13.gh atI_0 fun u13 hu13 => ?_
      cases Rp.str_inv hu13
      rw [pd_comm bf ss]
      have hN' := hN _ _ ⟨G13, e13, hS13, rfl⟩
      clear hN hv13
      walk_at "go"
      · rename_i g1 g2
        exact absurd (show wdS (pdB bf ss i) = "paired" by rw [hmo g1]; rfl) g2
      all_goals exact hN'
    rintro σ' H' ⟨G13, e13, hS13, rfl⟩
    have e13a := e12.trans e13
    have hfs13 := hfs11.up e13a
    have hss13 := hss11.up e13a
    have hR13 := hR11.up e13a
    clear hS11 hS12 hu12 hv12 hfs11 hss11 hR11
    walk_at "go"
    refine forR hS13 (fun j σ G' M' => ∃ (at' : Int) (w10 w11 : Option V), M' = [(db, drw r2 at'), (da, drw r at1), (A.p_law_bars, .tbl ps2), (A.p_law_moved_bars, .tbl ps3)] ∧ at4 ≤ at' ∧ at' ≤ at4 + 100 * (j : Int) ∧ σ = [some (.ref a), some (.ref da), some (.int (3 + lt)), some (.int lag), some (.ref pf), some (.ref db), some v6, some (.str (wdS (pdB bf ss i))), some (.int (i : Int)), some (.str (wdS (pdB bf ss i))), w10, w11, w12, w13, w14, w15, w16, w17]) ⟨at4, _, _, rfl, by omega, by omega, rfl⟩ ?_ ?_
    · rintro j σ G14 M14 H14 hj e14 hS14 ⟨at5, w10, w11, rfl, a51, a52, rfl⟩
      have hj' : j < 4 := by omega
      walk_at "go"
      refine go_greedy (i := 0) hS14 rfl (hR13.up e14) (by omega) (by omega) (hfs13.up e14) (hss13.up e14) (by omega) (by omega) fun pg pr at6 G15 H15 a61 a62 prl e15 hS15 hr15 => ?_
      simp only [List.set_cons_zero] at hS15
      walk_at "go"
      · rename_i hw
        have hb : pdB bf ss i = false := by
          cases hb : pdB bf ss i with
          | false => rfl
          | true => rw [hb] at hw; exact absurd hw (by decide)
        refine go_ispair hS15 ((hfs13.up e14).up e15) ((hss13.up e14).up e15) hr15 (by omega) (by omega) (by omega) fun G16 H16 e16 hS16 => ?_
        rw [pd_noPair hb]
        walk_at "go"
        exact Nx.mk hS16 ((e14.trans e15).trans e16) ⟨at6, _, _, rfl, by omega, by omega, rfl⟩
      · exact Nx.mk hS15 (e14.trans e15) ⟨at6, _, _, rfl, by omega, by omega, rfl⟩
    rintro σ G14 M14 H14 e14 hS14 ⟨at5, w10, w11, rfl, a51, a52, rfl⟩
    have hfs14 := hfs13.up e14
    have hss14 := hss13.up e14
    clear hS13 hfs13 hss13
    walk_at "go"
    refine go_newR hS14 (by simp) fun pS G15 H15 e15 hS15 hpS => ?_
    have hfs15 := hfs14.up e15
    have hss15 := hss14.up e15
    clear hS14 hfs14 hss14
    walk_at "go"
    refine go_itlR hpS hS15.gh ?_
    refine forV hS15 hpS (fun n σ G' M' => ∃ (w10 w12 w13 w14 w15 w16 w17 : Option V), M' = [(db, drw r2 at5), (da, drw r at1), (A.p_law_bars, .tbl ps2), (A.p_law_moved_bars, .tbl ps3)] ∧ σ = [some (.ref a), some (.ref da), some (.int (3 + lt)), some (.int lag), some (.ref pf), some (.ref db), some v6, some (.str (wdS (pdB bf ss i))), some (.int (i : Int)), some (.str (wdS (pdB bf ss i))), w10, w11, w12, w13, w14, w15, w16, w17]) ⟨_, _, _, _, _, _, _, rfl, rfl⟩ ?_ ?_
    · rintro n xv σ G16 M16 H16 hn hx e16 hS16 ⟨w10, w12, w13, w14, w15, w16, w17, rfl, rfl⟩
      have ht : ∃ t : Bool, xv = .str (sideS t) := by
        match n, hn, hx with
        | 0, _, hx => exact ⟨false, (Option.some.inj hx).symm⟩
        | 1, _, hx => exact ⟨true, (Option.some.inj hx).symm⟩
      obtain ⟨t, rfl⟩ := ht
      have hfs16 := hfs15.up e16
      have hss16 := hss15.up e16
      walk_at "to"
      refine go_seq ?_
      refine go_join (fun σ' H' => ∃ G' u, Same G16 G' ∧ Sta K G H D G' [(db, drw r2 at5), (da, drw r at1), (A.p_law_bars, .tbl ps2), (A.p_law_moved_bars, .tbl ps3)] H' ∧ Rp K G' u (.lst ((if t = true then ss else bf).map barD)) ∧ σ' = [some (.ref a), some (.ref da), some (.int (3 + lt)), some (.int lag), some (.ref pf), some (.ref db), some v6, some (.str (wdS (pdB bf ss i))), some (.int (i : Int)), some (.str (wdS (pdB bf ss i))), w10, w11, some (.str (sideS t)), some u, w14, w15, w16, w17]) ?_ ?_
      · intro N hN
        walk_at "go"
        refine go_newR hS16 (by simp) fun pO G17 H17 e17 hS17 hpO => ?_
        have rO : Rp K G17 (.ref pO) (.lst [.lst (bf.map barD), .lst (ss.map barD)]) := .lst (SqL.of hpO) (.cons (hfs16.up e17) (.cons (hss16.up e17) .nil))
        cases t with
        | true =>
          walk_at "go"
          exact hN _ _ ⟨G17, _, e17, hS17, ‹Rp K G17 _ (.lst (ss.map barD))›, rfl⟩
        | false =>
          walk_at "go"
          exact hN _ _ ⟨G17, _, e17, hS17, ‹Rp K G17 _ (.lst (bf.map barD))›, rfl⟩
      rintro σ' H' ⟨G17, u, e17, hS17, hu, rfl⟩
      have hfs17 := hfs16.up e17
      have hss17 := hss16.up e17
      have hlo : (if t = true then ss else bf).length ≤ 12 := by split <;> omega
      clear hS16 hS15 hfs16 hss16 hfs15 hss15
      generalize (if t = true then ss else bf) = os at *
      have om : (os.map barD).length = os.length := List.length_map ..
      walk_at "go"
      rw [om]
      refine lcFiltR (p := fun k => longB (lotB os (k : Int)) (i : Int)) (F := fun k => .int (k : Int)) hS17 (by omega) ?_ ?_
      · intro k L18 G18 vs18 es18 H18 Z Z0 hk e18 l18 hS18 hvs18 fin18 fin180
        have hu18 := hu.up e18
        walk_at "go"
        rw [show (0 : Int) + (k : Int) = (k : Int) from Int.zero_add _]
        refine go_ixB (d := barD (lotB os (k : Int))) hu18 hS18.gh (lotB_at (by omega) (by omega)) fun v18 hv18 => ?_
        walk_at "go"
        refine go_iteB (fun hb => ?_) (fun hb => ?_)
        · walk_at "go"
          exact fin18 hb _ _ _ (Same.refl _) hS18 (.int _)
        · exact fin180 hb _ _ (Same.refl _) hS18
      intro pL G18 H18 e18 hS18 hr18
      obtain ⟨xa, xvs, exa, xq, xr⟩ := Rp.lst_inv hr18
      have hex : ∃ lg : List Int, xvs = lg.map .int := by
        refine ⟨((List.range (os.length : Int).toNat).filter fun k : Nat => longB (lotB os (k : Int)) (i : Int)).map fun k : Nat => (k : Int), ?_⟩
        refine RpAll.ints_inv (K := K) (G := G18) ?_
        rw [List.map_map]
        exact xr
      obtain ⟨lg, rfl⟩ := hex
      cases exa
      walk_at "go"
      refine go_slL hS18 xq fun p6 G19 H19 e19 hS19 hp6 => ?_
      rw [show (6 : Int) = ((6 : Nat) : Int) from rfl, cut_hi, ← List.map_take] at hp6
      have l6 : (lg.take 6).length ≤ 6 := by rw [List.length_take]; omega
      generalize lg.take 6 = lg at *
      have hl6 : Rp K G19 (.ref p6) (.lst (lg.map .int)) := .lst (SqL.of hp6) .ints
      have lgm : (lg.map Dt.int).length = lg.length := List.length_map ..
      have e17_19 := (e17.trans e18).trans e19
      have hfs19 := (hfs17.up e18).up e19
      have hss19 := (hss17.up e18).up e19
      clear hS18 hS17 hu hr18 xr xq hfs17 hss17
      walk_at "go"
      refine forR hS19 (fun m σ G' M' => ∃ (w10 w15 w16 w17 : Option V), M' = [(db, drw r2 at5), (da, drw r at1), (A.p_law_bars, .tbl ps2), (A.p_law_moved_bars, .tbl ps3)] ∧ σ = [some (.ref a), some (.ref da), some (.int (3 + lt)), some (.int lag), some (.ref pf), some (.ref db), some v6, some (.str (wdS (pdB bf ss i))), some (.int (i : Int)), some (.str (wdS (pdB bf ss i))), w10, w11, some (.str (sideS t)), some u, some (.ref p6), w15, w16, w17]) ⟨_, _, _, _, rfl, rfl⟩ ?_ ?_
      · rintro m σ G20 M20 H20 hm e20 hS20 ⟨w10, w15, w16, w17, rfl, rfl⟩
        have hl20 := hl6.up e20
        walk_at "go"
        rw [lgm]
        refine lcFiltR (p := fun j => decide ((0 + (m : Int)) / ([1, 2, 4, 8, 16, 32] : List Int).getD j 0 % 2 = 1)) (F := fun j => .int (lg.getD j 0)) hS20 (by omega) ?_ ?_
        · intro j L21 G21 vs21 es21 H21 Z Z0 hj e21 l21 hS21 hvs21 fin21 fin210
          have hl21 := hl20.up e21
          walk_at "go"
          refine go_newR hS21 (by simp) fun pC G22 H22 e22 hS22 hpC => ?_
          have rC : Rp K G22 (.ref pC) (.lst (([1, 2, 4, 8, 16, 32] : List Int).map .int)) := .lst (SqL.of hpC) (RpAll.ints (bs := [1, 2, 4, 8, 16, 32]))
          have hj6 : j < 6 := by omega
          walk_at "go"
          rw [show (0 : Int) + (j : Int) = (j : Int) from Int.zero_add _]
          refine go_ixB (d := .int (([1, 2, 4, 8, 16, 32] : List Int).getD j 0)) rC hS22.gh (by
            have := atI_getD (r := [1, 2, 4, 8, 16, 32]) (j := (j : Int)) (by omega) (show (j : Int) < 6 by omega)
            rw [Int.toNat_natCast] at this
            exact this) fun vC hvC => ?_
          cases Rp.int_inv hvC
          have cpos : ∀ j : Nat, j < 6 → 0 < ([1, 2, 4, 8, 16, 32] : List Int).getD j 0 ∧ ([1, 2, 4, 8, 16, 32] : List Int).getD j 0 ≤ 32 := by decide
          obtain ⟨cp1, cp2⟩ := cpos j hj6
          walk_at "go"
          · rename_i hm1
            refine go_ixB (d := .int (lg.getD j 0)) (hl21.up e22) hS22.gh (by
              have := atI_getD (r := lg) (j := (j : Int)) (by omega) (by omega)
              rw [Int.toNat_natCast] at this
              exact this) fun v hv => ?_
            exact fin21 (decide_eq_true hm1) _ _ _ e22 hS22 hv
          · rename_i hm1
            exact fin210 (decide_eq_false hm1) _ _ e22 hS22
        intro pT G21 H21 e21 hS21 hr21
        generalize hfl : ((List.range (lg.length : Int).toNat).filter fun j : Nat => decide ((0 + (m : Int)) / ([1, 2, 4, 8, 16, 32] : List Int).getD j 0 % 2 = 1)) = js at *
        have jsl : js.length ≤ 6 := by
          rw [← hfl]
          exact Nat.le_trans (List.length_filter_le _ _) (by rw [List.length_range]; omega)
        have hr21' : Rp K G21 (.ref pT) (.lst ((js.map fun j => lg.getD j 0).map .int)) := by rw [List.map_map]; exact hr21
        clear hr21 hfl
        walk_at "go"
        · rename_i hw
          have hb : pdB bf ss i = true := by
            cases hb : pdB bf ss i with
            | true => rfl
            | false => rw [hb] at hw; exact absurd hw (by decide)
          refine go_lonely (k := false) (k2 := false) (t := t) (os := bf) (ts := ss) (pl := js.map fun j => lg.getD j 0) hS21 (hfs19.up (e20.trans e21)) (hss19.up (e20.trans e21)) hr21' (by omega) (by omega) (by rw [List.length_map]; omega) fun G22 H22 e22 hS22 => ?_
          rw [pd_noLon hb]
          walk_at "go"
          exact Nx.mk hS22 (e20.trans (e21.trans e22)) ⟨_, _, _, _, rfl, rfl⟩
        · exact Nx.mk hS21 (e20.trans e21) ⟨_, _, _, _, rfl, rfl⟩
      · rintro σ G20 M20 H20 e20 hS20 ⟨w10, w15, w16, w17, rfl, rfl⟩
        walk_at "go"
        exact Nx.mk hS20 (e16.trans (e17_19.trans e20)) ⟨_, _, _, _, _, _, _, rfl, rfl⟩
    · rintro σ G16 M16 H16 e16 hS16 ⟨w10, w12, w13, w14, w15, w16, w17, rfl, rfl⟩
      walk_at "go"
      exact Nx.mk hS16 (e11.trans (e13a.trans (e14.trans (e15.trans e16)))) ⟨at5, _, _, _, _, _, _, _, _, _, _, rfl, by omega, by omega, rfl⟩
  · rintro σ G11 M11 H11 e11 hS11 ⟨at4, w8, w9, w10, w11, w12, w13, w14, w15, w16, w17, rfl, a41, a42, rfl⟩
    walk_at "go"
    refine go_newR hS11 (by simp) fun p12 G12 H12 e12 hS12 hp12 => ?_
    have hin : inV (.str (bwF bf ss (Int.toNat 5))) [.str "paired", .str "lonely"] = true := by
      show inV (.str (wdS (pdB bf ss ((4 : Nat) : Int)))) _ = true
      cases pdB bf ss ((4 : Nat) : Int) <;> rfl
    refine ⟨p12, _, rfl, .inl (SqL.of (hS12.gh _ _ hp12)), rfl, rfl, ?_⟩
    rw [if_neg (by decide), hin]
    exact q _
end
theorem all_mk {l : PySem.W.OpenLaw} {w : World} {K : PySem.W.Frag} {h : Heap} {mg : Str → Option Value} {fa : Addr} (X : K.In h) (G : h.Ns mainGlobals mg) (hfa : mg "law" = some (.ref fa))
    {C_Search : Addr}
    {f0 : Addr} {od0 an0 : Option Addr} {sl0 : Array (Option Value)} {oc0 kV0 dc0 pm0 cd0 ct0 : Value}
    {f1 : Addr} {od1 an1 : Option Addr} {sl1 : Array (Option Value)} {oc1 kV1 dc1 pm1 cd1 ct1 : Value}
    {f2 : Addr} {od2 an2 : Option Addr} {sl2 : Array (Option Value)} {oc2 kV2 dc2 pm2 cd2 ct2 : Value}
    {f3 : Addr} {od3 an3 : Option Addr} {sl3 : Array (Option Value)} {oc3 kV3 dc3 pm3 cd3 ct3 : Value}
    {f4 : Addr} {od4 an4 : Option Addr} {sl4 : Array (Option Value)} {oc4 kV4 dc4 pm4 cd4 ct4 : Value}
    {f5 : Addr} {od5 an5 : Option Addr} {sl5 : Array (Option Value)} {oc5 kV5 dc5 pm5 cd5 ct5 : Value}
    {f6 : Addr} {od6 an6 : Option Addr} {sl6 : Array (Option Value)} {oc6 kV6 dc6 pm6 cd6 ct6 : Value}
    {f7 : Addr} {od7 an7 : Option Addr} {sl7 : Array (Option Value)} {oc7 kV7 dc7 pm7 cd7 ct7 : Value}
    {f8 : Addr} {od8 an8 : Option Addr} {sl8 : Array (Option Value)} {oc8 kV8 dc8 pm8 cd8 ct8 : Value}
    {f9 : Addr} {od9 an9 : Option Addr} {sl9 : Array (Option Value)} {oc9 kV9 dc9 pm9 cd9 ct9 : Value}
    {f10 : Addr} {od10 an10 : Option Addr} {sl10 : Array (Option Value)} {oc10 kV10 dc10 pm10 cd10 ct10 : Value}
    {f11 : Addr} {od11 an11 : Option Addr} {sl11 : Array (Option Value)} {oc11 kV11 dc11 pm11 cd11 ct11 : Value}
    {f12 : Addr} {od12 an12 : Option Addr} {sl12 : Array (Option Value)} {oc12 kV12 dc12 pm12 cd12 ct12 : Value}
    {f13 : Addr} {od13 an13 : Option Addr} {sl13 : Array (Option Value)} {oc13 kV13 dc13 pm13 cd13 ct13 : Value}
    {f14 : Addr} {od14 an14 : Option Addr} {sl14 : Array (Option Value)} {oc14 kV14 dc14 pm14 cd14 ct14 : Value}
    {f15 : Addr} {od15 an15 : Option Addr} {sl15 : Array (Option Value)} {oc15 kV15 dc15 pm15 cd15 ct15 : Value}
    {f16 : Addr} {od16 an16 : Option Addr} {sl16 : Array (Option Value)} {oc16 kV16 dc16 pm16 cd16 ct16 : Value}
    {f17 : Addr} {od17 an17 : Option Addr} {sl17 : Array (Option Value)} {oc17 kV17 dc17 pm17 cd17 ct17 : Value}
    {f18 : Addr} {od18 an18 : Option Addr} {sl18 : Array (Option Value)} {oc18 kV18 dc18 pm18 cd18 ct18 : Value}
    {f19 cc19 pp19 : Addr} {od19 an19 : Option Addr} {sl19 : Array (Option Value)} {oc19 kV19 dc19 pm19 ct19 : Value} {cd19 : Option Addr} {cv19 : Array Value} {cs19 : Array (Option Value)}
    {f20 : Addr} {od20 an20 : Option Addr} {sl20 : Array (Option Value)} {oc20 kV20 dc20 pm20 cd20 ct20 : Value}
    {f21 : Addr} {od21 an21 : Option Addr} {sl21 : Array (Option Value)} {oc21 kV21 dc21 pm21 cd21 ct21 : Value}
    {f22 cc22 pp22 : Addr} {od22 an22 : Option Addr} {sl22 : Array (Option Value)} {oc22 kV22 dc22 pm22 ct22 : Value} {cd22 : Option Addr} {cv22 : Array Value} {cs22 : Array (Option Value)}
    {f23 : Addr} {od23 an23 : Option Addr} {sl23 : Array (Option Value)} {oc23 kV23 dc23 pm23 cd23 ct23 : Value}
    {f24 : Addr} {od24 an24 : Option Addr} {sl24 : Array (Option Value)} {oc24 kV24 dc24 pm24 cd24 ct24 : Value}
    (aC_Search : PySem.W.nsIn K mainGlobals "Search" = some (some (.ref C_Search)))
    (a0 : PySem.W.nsIn K mainGlobals "gap" = some (some (.ref f0)))
    (l0 : K.lookup f0 = some ⟨oc0, od0, .func (PySem.W.fnOf "gap" "gap" (defArgs s_gap) (defBody s_gap) (defScope s_gap) .none kV0 dc0 pm0 an0 cd0 ct0), sl0⟩) (c0 : PySem.W.codeIn K cd0 "gap" = true) (k0 : PySem.W.keepIn K (.ref f0) = true)
    (a1 : PySem.W.nsIn K mainGlobals "are_near" = some (some (.ref f1)))
    (l1 : K.lookup f1 = some ⟨oc1, od1, .func (PySem.W.fnOf "are_near" "are_near" (defArgs s_are_near) (defBody s_are_near) (defScope s_are_near) .none kV1 dc1 pm1 an1 cd1 ct1), sl1⟩) (c1 : PySem.W.codeIn K cd1 "are_near" = true) (k1 : PySem.W.keepIn K (.ref f1) = true)
    (a2 : PySem.W.nsIn K mainGlobals "is_long" = some (some (.ref f2)))
    (l2 : K.lookup f2 = some ⟨oc2, od2, .func (PySem.W.fnOf "is_long" "is_long" (defArgs s_is_long) (defBody s_is_long) (defScope s_is_long) .none kV2 dc2 pm2 an2 cd2 ct2), sl2⟩) (c2 : PySem.W.codeIn K cd2 "is_long" = true) (k2 : PySem.W.keepIn K (.ref f2) = true)
    (a3 : PySem.W.nsIn K mainGlobals "is_pairing" = some (some (.ref f3)))
    (l3 : K.lookup f3 = some ⟨oc3, od3, .func (PySem.W.fnOf "is_pairing" "is_pairing" (defArgs s_is_pairing) (defBody s_is_pairing) (defScope s_is_pairing) .none kV3 dc3 pm3 an3 cd3 ct3), sl3⟩) (c3 : PySem.W.codeIn K cd3 "is_pairing" = true) (k3 : PySem.W.keepIn K (.ref f3) = true)
    (a4 : PySem.W.nsIn K mainGlobals "is_lonely" = some (some (.ref f4)))
    (l4 : K.lookup f4 = some ⟨oc4, od4, .func (PySem.W.fnOf "is_lonely" "is_lonely" (defArgs s_is_lonely) (defBody s_is_lonely) (defScope s_is_lonely) .none kV4 dc4 pm4 an4 cd4 ct4), sl4⟩) (c4 : PySem.W.codeIn K cd4 "is_lonely" = true) (k4 : PySem.W.keepIn K (.ref f4) = true)
    (a5 : PySem.W.findIn K (.ref C_Search) "__init__" = some (some (.ref f5))) (i5 : PySem.W.isFn K (.ref f5) = true)
    (l5 : K.lookup f5 = some ⟨oc5, od5, .func (PySem.W.fnOf "__init__" "Search.__init__" (defArgs s_Search_init) (defBody s_Search_init) (defScope s_Search_init) .none kV5 dc5 pm5 an5 cd5 ct5), sl5⟩) (c5 : PySem.W.codeIn K cd5 "Search.__init__" = true) (k5 : PySem.W.keepIn K (.ref f5) = true)
    (a6 : PySem.W.findIn K (.ref C_Search) "marry" = some (some (.ref f6))) (i6 : PySem.W.isFn K (.ref f6) = true)
    (l6 : K.lookup f6 = some ⟨oc6, od6, .func (PySem.W.fnOf "marry" "Search.marry" (defArgs s_Search_marry) (defBody s_Search_marry) (defScope s_Search_marry) .none kV6 dc6 pm6 an6 cd6 ct6), sl6⟩) (c6 : PySem.W.codeIn K cd6 "Search.marry" = true) (k6 : PySem.W.keepIn K (.ref f6) = true)
    (a7 : PySem.W.findIn K (.ref C_Search) "near_second" = some (some (.ref f7))) (i7 : PySem.W.isFn K (.ref f7) = true)
    (l7 : K.lookup f7 = some ⟨oc7, od7, .func (PySem.W.fnOf "near_second" "Search.near_second" (defArgs s_Search_near_second) (defBody s_Search_near_second) (defScope s_Search_near_second) .none kV7 dc7 pm7 an7 cd7 ct7), sl7⟩) (c7 : PySem.W.codeIn K cd7 "Search.near_second" = true) (k7 : PySem.W.keepIn K (.ref f7) = true)
    (a8 : PySem.W.findIn K (.ref C_Search) "near_first" = some (some (.ref f8))) (i8 : PySem.W.isFn K (.ref f8) = true)
    (l8 : K.lookup f8 = some ⟨oc8, od8, .func (PySem.W.fnOf "near_first" "Search.near_first" (defArgs s_Search_near_first) (defBody s_Search_near_first) (defScope s_Search_near_first) .none kV8 dc8 pm8 an8 cd8 ct8), sl8⟩) (c8 : PySem.W.codeIn K cd8 "Search.near_first" = true) (k8 : PySem.W.keepIn K (.ref f8) = true)
    (a9 : PySem.W.findIn K (.ref C_Search) "pair_first" = some (some (.ref f9))) (i9 : PySem.W.isFn K (.ref f9) = true)
    (l9 : K.lookup f9 = some ⟨oc9, od9, .func (PySem.W.fnOf "pair_first" "Search.pair_first" (defArgs s_Search_pair_first) (defBody s_Search_pair_first) (defScope s_Search_pair_first) .none kV9 dc9 pm9 an9 cd9 ct9), sl9⟩) (c9 : PySem.W.codeIn K cd9 "Search.pair_first" = true) (k9 : PySem.W.keepIn K (.ref f9) = true)
    (a10 : PySem.W.findIn K (.ref C_Search) "turn_first" = some (some (.ref f10))) (i10 : PySem.W.isFn K (.ref f10) = true)
    (l10 : K.lookup f10 = some ⟨oc10, od10, .func (PySem.W.fnOf "turn_first" "Search.turn_first" (defArgs s_Search_turn_first) (defBody s_Search_turn_first) (defScope s_Search_turn_first) .none kV10 dc10 pm10 an10 cd10 ct10), sl10⟩) (c10 : PySem.W.codeIn K cd10 "Search.turn_first" = true) (k10 : PySem.W.keepIn K (.ref f10) = true)
    (a11 : PySem.W.findIn K (.ref C_Search) "pair_second" = some (some (.ref f11))) (i11 : PySem.W.isFn K (.ref f11) = true)
    (l11 : K.lookup f11 = some ⟨oc11, od11, .func (PySem.W.fnOf "pair_second" "Search.pair_second" (defArgs s_Search_pair_second) (defBody s_Search_pair_second) (defScope s_Search_pair_second) .none kV11 dc11 pm11 an11 cd11 ct11), sl11⟩) (c11 : PySem.W.codeIn K cd11 "Search.pair_second" = true) (k11 : PySem.W.keepIn K (.ref f11) = true)
    (a12 : PySem.W.findIn K (.ref C_Search) "turn_second" = some (some (.ref f12))) (i12 : PySem.W.isFn K (.ref f12) = true)
    (l12 : K.lookup f12 = some ⟨oc12, od12, .func (PySem.W.fnOf "turn_second" "Search.turn_second" (defArgs s_Search_turn_second) (defBody s_Search_turn_second) (defScope s_Search_turn_second) .none kV12 dc12 pm12 an12 cd12 ct12), sl12⟩) (c12 : PySem.W.codeIn K cd12 "Search.turn_second" = true) (k12 : PySem.W.keepIn K (.ref f12) = true)
    (a13 : PySem.W.nsIn K mainGlobals "pair_within" = some (some (.ref f13)))
    (l13 : K.lookup f13 = some ⟨oc13, od13, .func (PySem.W.fnOf "pair_within" "pair_within" (defArgs s_pair_within) (defBody s_pair_within) (defScope s_pair_within) .none kV13 dc13 pm13 an13 cd13 ct13), sl13⟩) (c13 : PySem.W.codeIn K cd13 "pair_within" = true) (k13 : PySem.W.keepIn K (.ref f13) = true)
    (a14 : PySem.W.nsIn K mainGlobals "_law_cell" = some (some (.ref f14)))
    (l14 : K.lookup f14 = some ⟨oc14, od14, .func (PySem.W.fnOf "_law_cell" "_law_cell" (defArgs s_law_cell) (defBody s_law_cell) (defScope s_law_cell) .none kV14 dc14 pm14 an14 cd14 ct14), sl14⟩) (c14 : PySem.W.codeIn K cd14 "_law_cell" = true) (k14 : PySem.W.keepIn K (.ref f14) = true)
    (a15 : PySem.W.nsIn K mainGlobals "_law_draws" = some (some (.ref f15)))
    (l15 : K.lookup f15 = some ⟨oc15, od15, .func (PySem.W.fnOf "_law_draws" "_law_draws" (defArgs s_law_draws) (defBody s_law_draws) (defScope s_law_draws) .none kV15 dc15 pm15 an15 cd15 ct15), sl15⟩) (c15 : PySem.W.codeIn K cd15 "_law_draws" = true) (k15 : PySem.W.keepIn K (.ref f15) = true)
    (a16 : PySem.W.nsIn K mainGlobals "_law_next" = some (some (.ref f16)))
    (l16 : K.lookup f16 = some ⟨oc16, od16, .func (PySem.W.fnOf "_law_next" "_law_next" (defArgs s_law_next) (defBody s_law_next) (defScope s_law_next) .none kV16 dc16 pm16 an16 cd16 ct16), sl16⟩) (c16 : PySem.W.codeIn K cd16 "_law_next" = true) (k16 : PySem.W.keepIn K (.ref f16) = true)
    (a17 : PySem.W.nsIn K mainGlobals "_law_bar_key" = some (some (.ref f17)))
    (l17 : K.lookup f17 = some ⟨oc17, od17, .func (PySem.W.fnOf "_law_bar_key" "_law_bar_key" (defArgs s_law_bar_key) (defBody s_law_bar_key) (defScope s_law_bar_key) .none kV17 dc17 pm17 an17 cd17 ct17), sl17⟩) (c17 : PySem.W.codeIn K cd17 "_law_bar_key" = true) (k17 : PySem.W.keepIn K (.ref f17) = true)
    (a18 : PySem.W.nsIn K mainGlobals "_law_bar" = some (some (.ref f18)))
    (l18 : K.lookup f18 = some ⟨oc18, od18, .func (PySem.W.fnOf "_law_bar" "_law_bar" (defArgs s_law_bar) (defBody s_law_bar) (defScope s_law_bar) .none kV18 dc18 pm18 an18 cd18 ct18), sl18⟩) (c18 : PySem.W.codeIn K cd18 "_law_bar" = true) (k18 : PySem.W.keepIn K (.ref f18) = true)
    (a19 : PySem.W.nsIn K mainGlobals "_law_bars" = some (some (.ref f19)))
    (l19 : K.lookup f19 = some ⟨oc19, od19, .func (PySem.W.fnOf "_law_bars" "_law_bars" (defArgs s_law_bars) (defBody s_law_bars) (defScope s_law_bars) .none kV19 dc19 pm19 an19 (.ref cc19) ct19), sl19⟩) (c19 : PySem.W.codeIn K (.ref cc19) "_law_bars" = true) (k19 : PySem.W.keepIn K (.ref f19) = true)
    (lc19 : K.lookup cc19 = some ⟨.type "code", cd19, .fields cv19, cs19⟩) (vp19 : (cv19[11]? : Option Value) = some (.ref pp19)) (hb19 : PySem.W.codeHdIn [(cc19, ⟨.type "code", none, .fields cv19, #[]⟩)] cc19 pp19 = true) (nt19 : K.lookup pp19 = none) (he19 : h.get? pp19 = some { cls := .none, data := .fields #[] })
    (a20 : PySem.W.nsIn K mainGlobals "_law_are_near" = some (some (.ref f20)))
    (l20 : K.lookup f20 = some ⟨oc20, od20, .func (PySem.W.fnOf "_law_are_near" "_law_are_near" (defArgs s_law_are_near) (defBody s_law_are_near) (defScope s_law_are_near) .none kV20 dc20 pm20 an20 cd20 ct20), sl20⟩) (c20 : PySem.W.codeIn K cd20 "_law_are_near" = true) (k20 : PySem.W.keepIn K (.ref f20) = true)
    (a21 : PySem.W.nsIn K mainGlobals "_law_is_long" = some (some (.ref f21)))
    (l21 : K.lookup f21 = some ⟨oc21, od21, .func (PySem.W.fnOf "_law_is_long" "_law_is_long" (defArgs s_law_is_long) (defBody s_law_is_long) (defScope s_law_is_long) .none kV21 dc21 pm21 an21 cd21 ct21), sl21⟩) (c21 : PySem.W.codeIn K cd21 "_law_is_long" = true) (k21 : PySem.W.keepIn K (.ref f21) = true)
    (a22 : PySem.W.nsIn K mainGlobals "_law_moved_bars" = some (some (.ref f22)))
    (l22 : K.lookup f22 = some ⟨oc22, od22, .func (PySem.W.fnOf "_law_moved_bars" "_law_moved_bars" (defArgs s_law_moved_bars) (defBody s_law_moved_bars) (defScope s_law_moved_bars) .none kV22 dc22 pm22 an22 (.ref cc22) ct22), sl22⟩) (c22 : PySem.W.codeIn K (.ref cc22) "_law_moved_bars" = true) (k22 : PySem.W.keepIn K (.ref f22) = true)
    (lc22 : K.lookup cc22 = some ⟨.type "code", cd22, .fields cv22, cs22⟩) (vp22 : (cv22[11]? : Option Value) = some (.ref pp22)) (hb22 : PySem.W.codeHdIn [(cc22, ⟨.type "code", none, .fields cv22, #[]⟩)] cc22 pp22 = true) (nt22 : K.lookup pp22 = none) (he22 : h.get? pp22 = some { cls := .none, data := .fields #[] })
    (a23 : PySem.W.nsIn K mainGlobals "_law_greedy" = some (some (.ref f23)))
    (l23 : K.lookup f23 = some ⟨oc23, od23, .func (PySem.W.fnOf "_law_greedy" "_law_greedy" (defArgs s_law_greedy) (defBody s_law_greedy) (defScope s_law_greedy) .none kV23 dc23 pm23 an23 cd23 ct23), sl23⟩) (c23 : PySem.W.codeIn K cd23 "_law_greedy" = true) (k23 : PySem.W.keepIn K (.ref f23) = true)
    (a24 : PySem.W.nsIn K mainGlobals "law" = some (some (.ref f24)))
    (l24 : K.lookup f24 = some ⟨oc24, od24, .func (PySem.W.fnOf "law" "law" (defArgs s_law) (defBody s_law) (defScope s_law) .none kV24 dc24 pm24 an24 cd24 ct24), sl24⟩) (c24 : PySem.W.codeIn K cd24 "law" = true) (k24 : PySem.W.keepIn K (.ref f24) = true)
    (pg_Search : PySem.W.plainGet K C_Search Str.empty = true) (hd_Search : PySem.W.hasDictIn K C_Search = true) (po_Search : PySem.W.plainOver K C_Search = true) (sa_Search : PySem.W.findIn K (.ref C_Search) "__setattr__" = some (some (.builtin "object.__setattr__"))) (mk_Search : PySem.W.makesIn K C_Search = true) (kc_Search : PySem.W.keepIn K (.ref C_Search) = true)
    (dc_Search : PySem.W.findIn K (.ref C_Search) "__class__" = some (some (.builtin "object.__class__")))
    (do_Search : PySem.W.mroIn K C_Search (.type "object") = some true)
    (na_Search_first : PySem.W.findIn K (.ref C_Search) "first" = some none)
    (na_Search_second : PySem.W.findIn K (.ref C_Search) "second" = some none)
    (na_Search_lag : PySem.W.findIn K (.ref C_Search) "lag" = some none)
    (na_Search_ours : PySem.W.findIn K (.ref C_Search) "ours" = some none)
    (na_Search_theirs : PySem.W.findIn K (.ref C_Search) "theirs" = some none)
    (x6 : PySem.W.specialIn K (.builtin "object.__class__") "__get__" = some (some (.builtin "getset_descriptor.__get__"))) (x7 : PySem.W.takesIn K (.builtin "object.__class__") = some true)
    (sf_Search : PySem.W.selfFirst K C_Search = true) (ty_Search : PySem.W.typeIn K (.ref C_Search) = some (.type "type"))
    (z_abs : PySem.W.nsIn K mainGlobals "abs" = some none)
    (z_all : PySem.W.nsIn K mainGlobals "all" = some none)
    (z_any : PySem.W.nsIn K mainGlobals "any" = some none)
    (z_bar : PySem.W.nsIn K mainGlobals "bar" = some none)
    (z_enumerate : PySem.W.nsIn K mainGlobals "enumerate" = some none)
    (z_int : PySem.W.nsIn K mainGlobals "int" = some none)
    (z_len : PySem.W.nsIn K mainGlobals "len" = some none)
    (z_list : PySem.W.nsIn K mainGlobals "list" = some none)
    (z_max : PySem.W.nsIn K mainGlobals "max" = some none)
    (z_min : PySem.W.nsIn K mainGlobals "min" = some none)
    (z_range : PySem.W.nsIn K mainGlobals "range" = some none)
    (z_set : PySem.W.nsIn K mainGlobals "set" = some none)
    (z_sorted : PySem.W.nsIn K mainGlobals "sorted" = some none)
    (z_tuple : PySem.W.nsIn K mainGlobals "tuple" = some none)
    (ne_19_22 : pp19 ≠ pp22)
    : LamX.LawAtS l w K CX0 6 63 "script" mg fa h := by
  have e : f24 = fa := by
    have e := hfa.symm.trans (PySem.W.mg_of X G a24)
    cases e
    rfl
  subst e
  have F0 := fun_mk (st := s_gap) l0 c0 k0
  have F1 := fun_mk (st := s_are_near) l1 c1 k1
  have F2 := fun_mk (st := s_is_long) l2 c2 k2
  have F3 := fun_mk (st := s_is_pairing) l3 c3 k3
  have F4 := fun_mk (st := s_is_lonely) l4 c4 k4
  have F5 := fun_mk (st := s_Search_init) l5 c5 k5
  have F6 := fun_mk (st := s_Search_marry) l6 c6 k6
  have F7 := fun_mk (st := s_Search_near_second) l7 c7 k7
  have F8 := fun_mk (st := s_Search_near_first) l8 c8 k8
  have F9 := fun_mk (st := s_Search_pair_first) l9 c9 k9
  have F10 := fun_mk (st := s_Search_turn_first) l10 c10 k10
  have F11 := fun_mk (st := s_Search_pair_second) l11 c11 k11
  have F12 := fun_mk (st := s_Search_turn_second) l12 c12 k12
  have F13 := fun_mk (st := s_pair_within) l13 c13 k13
  have F14 := fun_mk (st := s_law_cell) l14 c14 k14
  have F15 := fun_mk (st := s_law_draws) l15 c15 k15
  have F16 := fun_mk (st := s_law_next) l16 c16 k16
  have F17 := fun_mk (st := s_law_bar_key) l17 c17 k17
  have F18 := fun_mk (st := s_law_bar) l18 c18 k18
  have F19 := fun_mk (st := s_law_bars) l19 c19 k19
  have F20 := fun_mk (st := s_law_are_near) l20 c20 k20
  have F21 := fun_mk (st := s_law_is_long) l21 c21 k21
  have F22 := fun_mk (st := s_law_moved_bars) l22 c22 k22
  have F23 := fun_mk (st := s_law_greedy) l23 c23 k23
  have F24 := fun_mk (st := s_law) l24 c24 k24
  let A : Ad := { f_gap := f0, d_gap := PySem.W.fnOf "gap" "gap" (defArgs s_gap) (defBody s_gap) (defScope s_gap) .none kV0 dc0 pm0 an0 cd0 ct0, f_are_near := f1, d_are_near := PySem.W.fnOf "are_near" "are_near" (defArgs s_are_near) (defBody s_are_near) (defScope s_are_near) .none kV1 dc1 pm1 an1 cd1 ct1, f_is_long := f2, d_is_long := PySem.W.fnOf "is_long" "is_long" (defArgs s_is_long) (defBody s_is_long) (defScope s_is_long) .none kV2 dc2 pm2 an2 cd2 ct2, f_is_pairing := f3, d_is_pairing := PySem.W.fnOf "is_pairing" "is_pairing" (defArgs s_is_pairing) (defBody s_is_pairing) (defScope s_is_pairing) .none kV3 dc3 pm3 an3 cd3 ct3, f_is_lonely := f4, d_is_lonely := PySem.W.fnOf "is_lonely" "is_lonely" (defArgs s_is_lonely) (defBody s_is_lonely) (defScope s_is_lonely) .none kV4 dc4 pm4 an4 cd4 ct4, f_Search_init := f5, d_Search_init := PySem.W.fnOf "__init__" "Search.__init__" (defArgs s_Search_init) (defBody s_Search_init) (defScope s_Search_init) .none kV5 dc5 pm5 an5 cd5 ct5, f_Search_marry := f6, d_Search_marry := PySem.W.fnOf "marry" "Search.marry" (defArgs s_Search_marry) (defBody s_Search_marry) (defScope s_Search_marry) .none kV6 dc6 pm6 an6 cd6 ct6, f_Search_near_second := f7, d_Search_near_second := PySem.W.fnOf "near_second" "Search.near_second" (defArgs s_Search_near_second) (defBody s_Search_near_second) (defScope s_Search_near_second) .none kV7 dc7 pm7 an7 cd7 ct7, f_Search_near_first := f8, d_Search_near_first := PySem.W.fnOf "near_first" "Search.near_first" (defArgs s_Search_near_first) (defBody s_Search_near_first) (defScope s_Search_near_first) .none kV8 dc8 pm8 an8 cd8 ct8, f_Search_pair_first := f9, d_Search_pair_first := PySem.W.fnOf "pair_first" "Search.pair_first" (defArgs s_Search_pair_first) (defBody s_Search_pair_first) (defScope s_Search_pair_first) .none kV9 dc9 pm9 an9 cd9 ct9, f_Search_turn_first := f10, d_Search_turn_first := PySem.W.fnOf "turn_first" "Search.turn_first" (defArgs s_Search_turn_first) (defBody s_Search_turn_first) (defScope s_Search_turn_first) .none kV10 dc10 pm10 an10 cd10 ct10, f_Search_pair_second := f11, d_Search_pair_second := PySem.W.fnOf "pair_second" "Search.pair_second" (defArgs s_Search_pair_second) (defBody s_Search_pair_second) (defScope s_Search_pair_second) .none kV11 dc11 pm11 an11 cd11 ct11, f_Search_turn_second := f12, d_Search_turn_second := PySem.W.fnOf "turn_second" "Search.turn_second" (defArgs s_Search_turn_second) (defBody s_Search_turn_second) (defScope s_Search_turn_second) .none kV12 dc12 pm12 an12 cd12 ct12, f_pair_within := f13, d_pair_within := PySem.W.fnOf "pair_within" "pair_within" (defArgs s_pair_within) (defBody s_pair_within) (defScope s_pair_within) .none kV13 dc13 pm13 an13 cd13 ct13, f_law_cell := f14, d_law_cell := PySem.W.fnOf "_law_cell" "_law_cell" (defArgs s_law_cell) (defBody s_law_cell) (defScope s_law_cell) .none kV14 dc14 pm14 an14 cd14 ct14, f_law_draws := f15, d_law_draws := PySem.W.fnOf "_law_draws" "_law_draws" (defArgs s_law_draws) (defBody s_law_draws) (defScope s_law_draws) .none kV15 dc15 pm15 an15 cd15 ct15, f_law_next := f16, d_law_next := PySem.W.fnOf "_law_next" "_law_next" (defArgs s_law_next) (defBody s_law_next) (defScope s_law_next) .none kV16 dc16 pm16 an16 cd16 ct16, f_law_bar_key := f17, d_law_bar_key := PySem.W.fnOf "_law_bar_key" "_law_bar_key" (defArgs s_law_bar_key) (defBody s_law_bar_key) (defScope s_law_bar_key) .none kV17 dc17 pm17 an17 cd17 ct17, f_law_bar := f18, d_law_bar := PySem.W.fnOf "_law_bar" "_law_bar" (defArgs s_law_bar) (defBody s_law_bar) (defScope s_law_bar) .none kV18 dc18 pm18 an18 cd18 ct18, f_law_bars := f19, d_law_bars := PySem.W.fnOf "_law_bars" "_law_bars" (defArgs s_law_bars) (defBody s_law_bars) (defScope s_law_bars) .none kV19 dc19 pm19 an19 (.ref cc19) ct19, f_law_are_near := f20, d_law_are_near := PySem.W.fnOf "_law_are_near" "_law_are_near" (defArgs s_law_are_near) (defBody s_law_are_near) (defScope s_law_are_near) .none kV20 dc20 pm20 an20 cd20 ct20, f_law_is_long := f21, d_law_is_long := PySem.W.fnOf "_law_is_long" "_law_is_long" (defArgs s_law_is_long) (defBody s_law_is_long) (defScope s_law_is_long) .none kV21 dc21 pm21 an21 cd21 ct21, f_law_moved_bars := f22, d_law_moved_bars := PySem.W.fnOf "_law_moved_bars" "_law_moved_bars" (defArgs s_law_moved_bars) (defBody s_law_moved_bars) (defScope s_law_moved_bars) .none kV22 dc22 pm22 an22 (.ref cc22) ct22, f_law_greedy := f23, d_law_greedy := PySem.W.fnOf "_law_greedy" "_law_greedy" (defArgs s_law_greedy) (defBody s_law_greedy) (defScope s_law_greedy) .none kV23 dc23 pm23 an23 cd23 ct23, f_law := f24, d_law := PySem.W.fnOf "law" "law" (defArgs s_law) (defBody s_law) (defScope s_law) .none kV24 dc24 pm24 an24 cd24 ct24, C_Search := C_Search, c_law_bars := cc19, p_law_bars := pp19, c_law_moved_bars := cc22, p_law_moved_bars := pp22 }
  have T : Txt K mg A := {
    F_gap := F0
    m_gap := PySem.W.mg_of X G a0
    b_gap := F0.binds (ps := ["one", "other"]) fun _ _ _ _ _ _ us hl => match us, hl with | [_, _], _ => rfl
    F_are_near := F1
    m_are_near := PySem.W.mg_of X G a1
    k2_are_near := Fun.kbn F1 fun _ _ _ _ _ _ us ws hl hm => match us, ws, hl, hm with | [_, _], [_], _, _ => rfl
    F_is_long := F2
    m_is_long := PySem.W.mg_of X G a2
    k1_is_long := Fun.kbn F2 fun _ _ _ _ _ _ us ws hl hm => match us, ws, hl, hm with | [_], [_], _, _ => rfl
    F_is_pairing := F3
    m_is_pairing := PySem.W.mg_of X G a3
    k3_is_pairing := Fun.kbn F3 fun _ _ _ _ _ _ us ws hl hm => match us, ws, hl, hm with | [_, _, _], [_], _, _ => rfl
    F_is_lonely := F4
    m_is_lonely := PySem.W.mg_of X G a4
    k4_is_lonely := Fun.kbn F4 fun _ _ _ _ _ _ us ws hl hm => match us, ws, hl, hm with | [_, _, _, _], [_], _, _ => rfl
    F_Search_init := F5
    b_Search_init := F5.binds (ps := ["self", "first", "second", "lag"]) fun _ _ _ _ _ _ us hl => match us, hl with | [_, _, _, _], _ => rfl
    F_Search_marry := F6
    b_Search_marry := F6.binds (ps := ["self", "one", "other"]) fun _ _ _ _ _ _ us hl => match us, hl with | [_, _, _], _ => rfl
    F_Search_near_second := F7
    b_Search_near_second := F7.binds (ps := ["self", "one"]) fun _ _ _ _ _ _ us hl => match us, hl with | [_, _], _ => rfl
    F_Search_near_first := F8
    b_Search_near_first := F8.binds (ps := ["self", "other"]) fun _ _ _ _ _ _ us hl => match us, hl with | [_, _], _ => rfl
    F_Search_pair_first := F9
    b_Search_pair_first := F9.binds (ps := ["self", "start"]) fun _ _ _ _ _ _ us hl => match us, hl with | [_, _], _ => rfl
    F_Search_turn_first := F10
    b_Search_turn_first := F10.binds (ps := ["self", "came", "other"]) fun _ _ _ _ _ _ us hl => match us, hl with | [_, _, _], _ => rfl
    F_Search_pair_second := F11
    b_Search_pair_second := F11.binds (ps := ["self", "start"]) fun _ _ _ _ _ _ us hl => match us, hl with | [_, _], _ => rfl
    F_Search_turn_second := F12
    b_Search_turn_second := F12.binds (ps := ["self", "came", "one", "mate"]) fun _ _ _ _ _ _ us hl => match us, hl with | [_, _, _, _], _ => rfl
    F_pair_within := F13
    m_pair_within := PySem.W.mg_of X G a13
    k2_pair_within := Fun.kbn F13 fun _ _ _ _ _ _ us ws hl hm => match us, ws, hl, hm with | [_, _], [_], _, _ => rfl
    F_law_cell := F14
    m_law_cell := PySem.W.mg_of X G a14
    b_law_cell := F14.binds (ps := ["script", "k"]) fun _ _ _ _ _ _ us hl => match us, hl with | [_, _], _ => rfl
    F_law_draws := F15
    m_law_draws := PySem.W.mg_of X G a15
    b_law_draws := F15.binds (ps := ["cell"]) fun _ _ _ _ _ _ us hl => match us, hl with | [_], _ => rfl
    F_law_next := F16
    m_law_next := PySem.W.mg_of X G a16
    b_law_next := F16.binds (ps := ["draws", "many"]) fun _ _ _ _ _ _ us hl => match us, hl with | [_, _], _ => rfl
    F_law_bar_key := F17
    m_law_bar_key := PySem.W.mg_of X G a17
    b_law_bar_key := F17.binds (ps := ["bar"]) fun _ _ _ _ _ _ us hl => match us, hl with | [_], _ => rfl
    F_law_bar := F18
    m_law_bar := PySem.W.mg_of X G a18
    b_law_bar := F18.binds (ps := ["draws", "last"]) fun _ _ _ _ _ _ us hl => match us, hl with | [_, _], _ => rfl
    F_law_bars := F19
    FC_law_bars := funC_mk (st := s_law_bars) l19 c19
    m_law_bars := PySem.W.mg_of X G a19
    b_law_bars := F19.binds (ps := ["draws", "last", "most"]) fun _ _ _ _ _ _ us hl => match us, hl with | [_, _, _], _ => rfl
    F_law_are_near := F20
    m_law_are_near := PySem.W.mg_of X G a20
    b_law_are_near := F20.binds (ps := ["bar", "other", "lag"]) fun _ _ _ _ _ _ us hl => match us, hl with | [_, _, _], _ => rfl
    F_law_is_long := F21
    m_law_is_long := PySem.W.mg_of X G a21
    b_law_is_long := F21.binds (ps := ["bar", "lag"]) fun _ _ _ _ _ _ us hl => match us, hl with | [_, _], _ => rfl
    F_law_moved_bars := F22
    FC_law_moved_bars := funC_mk (st := s_law_moved_bars) l22 c22
    m_law_moved_bars := PySem.W.mg_of X G a22
    b_law_moved_bars := F22.binds (ps := ["draws", "bar_list", "last", "lag"]) fun _ _ _ _ _ _ us hl => match us, hl with | [_, _, _, _], _ => rfl
    F_law_greedy := F23
    m_law_greedy := PySem.W.mg_of X G a23
    b_law_greedy := F23.binds (ps := ["draws", "first", "second", "lag"]) fun _ _ _ _ _ _ us hl => match us, hl with | [_, _, _, _], _ => rfl
    F_law := F24
    m_law := PySem.W.mg_of X G a24
    b_law := F24.binds (ps := ["script"]) fun _ _ _ _ _ _ us hl => match us, hl with | [_], _ => rfl
    ne_law_bars_law_moved_bars := ne_19_22
    c_Search := PySem.W.mg_of X G aC_Search
    cl_Search := ⟨pg_Search, hd_Search, po_Search, sa_Search⟩
    dc_Search := ⟨dc_Search, x6, x7, do_Search⟩
    oc_Search := ⟨sf_Search, ty_Search⟩
    mk_Search := ⟨mk_Search, a5, i5, kc_Search⟩
    na_Search_first := na_Search_first
    na_Search_second := na_Search_second
    na_Search_lag := na_Search_lag
    na_Search_ours := na_Search_ours
    na_Search_theirs := na_Search_theirs
    me_Search_marry := ⟨a6, i6, k6⟩
    me_Search_near_second := ⟨a7, i7, k7⟩
    me_Search_near_first := ⟨a8, i8, k8⟩
    me_Search_pair_first := ⟨a9, i9, k9⟩
    me_Search_turn_first := ⟨a10, i10, k10⟩
    me_Search_pair_second := ⟨a11, i11, k11⟩
    me_Search_turn_second := ⟨a12, i12, k12⟩
    z_abs := PySem.W.mg_none_of X G z_abs
    z_all := PySem.W.mg_none_of X G z_all
    z_any := PySem.W.mg_none_of X G z_any
    z_bar := PySem.W.mg_none_of X G z_bar
    z_enumerate := PySem.W.mg_none_of X G z_enumerate
    z_int := PySem.W.mg_none_of X G z_int
    z_len := PySem.W.mg_none_of X G z_len
    z_list := PySem.W.mg_none_of X G z_list
    z_max := PySem.W.mg_none_of X G z_max
    z_min := PySem.W.mg_none_of X G z_min
    z_range := PySem.W.mg_none_of X G z_range
    z_set := PySem.W.mg_none_of X G z_set
    z_sorted := PySem.W.mg_none_of X G z_sorted
    z_tuple := PySem.W.mg_none_of X G z_tuple }
  have all : ∀ {φ : Addr × Addr → Prop}, φ (cc19, pp19) → φ (cc22, pp22) → ∀ p ∈ A.tabs, φ p := fun {φ} h19 h22 p hp => by
    simp only [Ad.tabs, List.mem_cons, List.not_mem_nil, or_false, A] at hp
    rcases hp with rfl | rfl
    · exact h19
    · exact h22
  refine ⟨_, A.tabs, spLawT K A, all he19 he22, all nt19 nt22, all (codeHd_by X lc19 hb19) (codeHd_by X lc22 hb22), fun s v => .of_eq rfl, fun H a ns hl _ ht hs => spLawT_in hl hs ht, fun base _ _ TB => ok_law T ⟨TB (cc19, pp19) (by simp [Ad.tabs, A]), TB (cc22, pp22) (by simp [Ad.tabs, A])⟩⟩
end Bw
open PySem PySem.W PyProof.Rows
set_option maxRecDepth 100000 in
set_option maxHeartbeats 0 in
theorem PySem.Challenge.cw_barswoven_k37_whole_either_pairs_or_lone_holds : PySem.Challenge.rw_barswoven_k37_whole_either_pairs_or_lone.Holds := by
  w_on; o_law; k_head; (case hw => w_witness2)
  k_fill
  refine B.walk_tabs (l := PySem.Challenge.rw_barswoven_k37_whole_either_pairs_or_lone) (n := 63) (k := 6) (x := "script") (CX := fun _ => L2.CX0) rfl (by decide) rfl ⟨rfl, by decide, by decide⟩ (fun w h Y => PySem.W.km_in_of Y) ?F (fun _ _ _ _ _ h => h)
  case F =>
    intro w mg fa h Y KX G hmg tabs
    refine' Bw.all_mk KX G hmg ?aC_Search ?a0 ?l0 ?c0 ?k0 ?a1 ?l1 ?c1 ?k1 ?a2 ?l2 ?c2 ?k2 ?a3 ?l3 ?c3 ?k3 ?a4 ?l4 ?c4 ?k4 ?a5 ?i5 ?l5 ?c5 ?k5 ?a6 ?i6 ?l6 ?c6 ?k6 ?a7 ?i7 ?l7 ?c7 ?k7 ?a8 ?i8 ?l8 ?c8 ?k8 ?a9 ?i9 ?l9 ?c9 ?k9 ?a10 ?i10 ?l10 ?c10 ?k10 ?a11 ?i11 ?l11 ?c11 ?k11 ?a12 ?i12 ?l12 ?c12 ?k12 ?a13 ?l13 ?c13 ?k13 ?a14 ?l14 ?c14 ?k14 ?a15 ?l15 ?c15 ?k15 ?a16 ?l16 ?c16 ?k16 ?a17 ?l17 ?c17 ?k17 ?a18 ?l18 ?c18 ?k18 ?a19 ?l19 ?c19 ?k19 ?lc19 ?vp19 ?hb19 ?nt19 ?he19 ?a20 ?l20 ?c20 ?k20 ?a21 ?l21 ?c21 ?k21 ?a22 ?l22 ?c22 ?k22 ?lc22 ?vp22 ?hb22 ?nt22 ?he22 ?a23 ?l23 ?c23 ?k23 ?a24 ?l24 ?c24 ?k24 ?pg_Search ?hd_Search ?po_Search ?sa_Search ?mk_Search ?kc_Search ?dc_Search ?do_Search ?na_Search_first ?na_Search_second ?na_Search_lag ?na_Search_ours ?na_Search_theirs ?x6 ?x7 ?sf_Search ?ty_Search ?z_abs ?z_all ?z_any ?z_bar ?z_enumerate ?z_int ?z_len ?z_list ?z_max ?z_min ?z_range ?z_set ?z_sorted ?z_tuple ?ne_19_22
    (case aC_Search => k_is)
    (case a0 => k_is)
    (case l0 => k_is)
    (case c0 => k_is)
    (case k0 => k_is)
    (case a1 => k_is)
    (case l1 => k_is)
    (case c1 => k_is)
    (case k1 => k_is)
    (case a2 => k_is)
    (case l2 => k_is)
    (case c2 => k_is)
    (case k2 => k_is)
    (case a3 => k_is)
    (case l3 => k_is)
    (case c3 => k_is)
    (case k3 => k_is)
    (case a4 => k_is)
    (case l4 => k_is)
    (case c4 => k_is)
    (case k4 => k_is)
    (case a5 => k_is)
    (case i5 => k_is)
    (case l5 => k_is)
    (case c5 => k_is)
    (case k5 => k_is)
    (case a6 => k_is)
    (case i6 => k_is)
    (case l6 => k_is)
    (case c6 => k_is)
    (case k6 => k_is)
    (case a7 => k_is)
    (case i7 => k_is)
    (case l7 => k_is)
    (case c7 => k_is)
    (case k7 => k_is)
    (case a8 => k_is)
    (case i8 => k_is)
    (case l8 => k_is)
    (case c8 => k_is)
    (case k8 => k_is)
    (case a9 => k_is)
    (case i9 => k_is)
    (case l9 => k_is)
    (case c9 => k_is)
    (case k9 => k_is)
    (case a10 => k_is)
    (case i10 => k_is)
    (case l10 => k_is)
    (case c10 => k_is)
    (case k10 => k_is)
    (case a11 => k_is)
    (case i11 => k_is)
    (case l11 => k_is)
    (case c11 => k_is)
    (case k11 => k_is)
    (case a12 => k_is)
    (case i12 => k_is)
    (case l12 => k_is)
    (case c12 => k_is)
    (case k12 => k_is)
    (case a13 => k_is)
    (case l13 => k_is)
    (case c13 => k_is)
    (case k13 => k_is)
    (case a14 => k_is)
    (case l14 => k_is)
    (case c14 => k_is)
    (case k14 => k_is)
    (case a15 => k_is)
    (case l15 => k_is)
    (case c15 => k_is)
    (case k15 => k_is)
    (case a16 => k_is)
    (case l16 => k_is)
    (case c16 => k_is)
    (case k16 => k_is)
    (case a17 => k_is)
    (case l17 => k_is)
    (case c17 => k_is)
    (case k17 => k_is)
    (case a18 => k_is)
    (case l18 => k_is)
    (case c18 => k_is)
    (case k18 => k_is)
    (case a19 => k_is)
    (case l19 => k_is)
    (case c19 => k_is)
    (case k19 => k_is)
    (case lc19 => k_is)
    (case vp19 => exact rfl)
    (case hb19 => exact rfl)
    (case nt19 => (first | kernel_rfl | exact rfl | decide))
    (case he19 => exact PySem.W.km_tabs_of Y _ (by simp))
    (case a20 => k_is)
    (case l20 => k_is)
    (case c20 => k_is)
    (case k20 => k_is)
    (case a21 => k_is)
    (case l21 => k_is)
    (case c21 => k_is)
    (case k21 => k_is)
    (case a22 => k_is)
    (case l22 => k_is)
    (case c22 => k_is)
    (case k22 => k_is)
    (case lc22 => k_is)
    (case vp22 => exact rfl)
    (case hb22 => exact rfl)
    (case nt22 => (first | kernel_rfl | exact rfl | decide))
    (case he22 => exact PySem.W.km_tabs_of Y _ (by simp))
    (case a23 => k_is)
    (case l23 => k_is)
    (case c23 => k_is)
    (case k23 => k_is)
    (case a24 => k_is)
    (case l24 => k_is)
    (case c24 => k_is)
    (case k24 => k_is)
    (case pg_Search => k_is)
    (case hd_Search => k_is)
    (case po_Search => k_is)
    (case sa_Search => k_is)
    (case mk_Search => k_is)
    (case kc_Search => k_is)
    (case dc_Search => k_is)
    (case do_Search => k_is)
    (case na_Search_first => k_is)
    (case na_Search_second => k_is)
    (case na_Search_lag => k_is)
    (case na_Search_ours => k_is)
    (case na_Search_theirs => k_is)
    (case x6 => k_is)
    (case x7 => k_is)
    (case sf_Search => k_is)
    (case ty_Search => k_is)
    (case z_abs => k_is)
    (case z_all => k_is)
    (case z_any => k_is)
    (case z_bar => k_is)
    (case z_enumerate => k_is)
    (case z_int => k_is)
    (case z_len => k_is)
    (case z_list => k_is)
    (case z_max => k_is)
    (case z_min => k_is)
    (case z_range => k_is)
    (case z_set => k_is)
    (case z_sorted => k_is)
    (case z_tuple => k_is)
    (case ne_19_22 => decide)
