import PyProof.Rows.All
import Wide.All
import OpenK.AllK
import Wide.FinOn
import HandS.ForMost
import HandS.ForExc
import HandS.TupAny
import HandS.TupLe
import HandS.IsInst
import PyProof.ReprRoads
import PySem.Challenge.RW_normalwords_k02_is_ahead
set_option Elab.async false
set_option linter.all false
set_option maxRecDepth 100000
set_option maxHeartbeats 1000000
/-! A logic of plain data over the hand layer: what stands in the slots is told by cells, expressions and statements by what they make of the cells. -/
namespace Nw
open PySem PySem.Spec PyProof.Rows L2

/-! ### data -/
inductive D where
  | non | bl (b : Bool) | int (i : Int) | str (s : Str)
  | tup (ds : List D) | lst (ds : List D)
  | ins (c : Addr) (fs : List (Str × D))
  | ty (n : String) | cls (c : Addr)

mutual
inductive Dd (H : Hp) : V → D → Prop
  | non : Dd H .non .non
  | bl (b : Bool) : Dd H (.bl b) (.bl b)
  | int (i : Int) : Dd H (.int i) (.int i)
  | str (s : Str) : Dd H (.str s) (.str s)
  | tup {a : Addr} {xs : List V} {ds : List D} : H a = some (.tup xs) → DdAll H xs ds → Dd H (.ref a) (.tup ds)
  | lst {a : Addr} {xs : List V} {ds : List D} : H a = some (.lst xs) → DdAll H xs ds → Dd H (.ref a) (.lst ds)
  | ins {a C dx : Addr} {vs : List (Str × V)} {fs : List (Str × D)} : H a = some (.ins C dx vs) → DdF H vs fs → Dd H (.ref a) (.ins C fs)
  | ty (n : String) : Dd H (.ty n) (.ty n)
  | cls (c : Addr) : Dd H (.ref c) (.cls c)
inductive DdAll (H : Hp) : List V → List D → Prop
  | nil : DdAll H [] []
  | cons {v : V} {vs : List V} {d : D} {ds : List D} : Dd H v d → DdAll H vs ds → DdAll H (v :: vs) (d :: ds)
inductive DdF (H : Hp) : List (Str × V) → List (Str × D) → Prop
  | nil : DdF H [] []
  | cons {f : Str} {v : V} {vs : List (Str × V)} {d : D} {ds : List (Str × D)} : Dd H v d → DdF H vs ds → DdF H ((f, v) :: vs) ((f, d) :: ds)
end
section
variable {H H' : Hp}
mutual
theorem Dd.mono (e : Same H H') : ∀ {v : V} {d : D}, Dd H v d → Dd H' v d
  | _, _, .non => .non
  | _, _, .bl b => .bl b
  | _, _, .int i => .int i
  | _, _, .str s => .str s
  | _, _, .tup h a => .tup (e _ _ h) (DdAll.mono e a)
  | _, _, .lst h a => .lst (e _ _ h) (DdAll.mono e a)
  | _, _, .ins h a => .ins (e _ _ h) (DdF.mono e a)
  | _, _, .ty n => .ty n
  | _, _, .cls c => .cls c
theorem DdAll.mono (e : Same H H') : ∀ {vs : List V} {ds : List D}, DdAll H vs ds → DdAll H' vs ds
  | _, _, .nil => .nil
  | _, _, .cons h a => .cons (Dd.mono e h) (DdAll.mono e a)
theorem DdF.mono (e : Same H H') : ∀ {vs : List (Str × V)} {ds : List (Str × D)}, DdF H vs ds → DdF H' vs ds
  | _, _, .nil => .nil
  | _, _, .cons h a => .cons (Dd.mono e h) (DdF.mono e a)
end
theorem DdAll.len : ∀ {vs : List V} {ds : List D}, DdAll H vs ds → vs.length = ds.length
  | _, _, .nil => rfl
  | _, _, .cons _ a => congrArg Nat.succ a.len
theorem DdAll.get : ∀ {vs : List V} {ds : List D} {i : Nat} {v : V}, DdAll H vs ds → vs[i]? = some v → ∃ d, ds[i]? = some d ∧ Dd H v d
  | _, _, _, _, .nil, e => by simp at e
  | _, _, 0, _, .cons h _, e => by
    simp at e
    subst e
    exact ⟨_, rfl, h⟩
  | _, _, i + 1, v, .cons _ a, e => by
    obtain ⟨d, h1, h2⟩ := DdAll.get (i := i) (v := v) a (by simpa using e)
    exact ⟨d, by simpa using h1, h2⟩
theorem DdAll.got : ∀ {vs : List V} {ds : List D} {i : Nat} {d : D}, DdAll H vs ds → ds[i]? = some d → ∃ v, vs[i]? = some v ∧ Dd H v d
  | _, _, _, _, .nil, e => by simp at e
  | _, _, 0, _, .cons h _, e => by
    simp at e
    subst e
    exact ⟨_, rfl, h⟩
  | _, _, i + 1, d, .cons _ a, e => by
    obtain ⟨v, h1, h2⟩ := DdAll.got (i := i) (d := d) a (by simpa using e)
    exact ⟨v, by simpa using h1, h2⟩
theorem DdAll.app : ∀ {vs ws : List V} {ds es : List D}, DdAll H vs ds → DdAll H ws es → DdAll H (vs ++ ws) (ds ++ es)
  | _, _, _, _, .nil, b => b
  | _, _, _, _, .cons h a, b => .cons h (a.app b)
theorem DdAll.take : ∀ {vs : List V} {ds : List D} (n : Nat), DdAll H vs ds → DdAll H (vs.take n) (ds.take n)
  | _, _, 0, _ => .nil
  | _, _, _ + 1, .nil => .nil
  | _, _, n + 1, .cons h a => .cons h (a.take n)
theorem DdAll.drop : ∀ {vs : List V} {ds : List D} (n : Nat), DdAll H vs ds → DdAll H (vs.drop n) (ds.drop n)
  | _, _, 0, h => h
  | _, _, _ + 1, .nil => .nil
  | _, _, n + 1, .cons _ a => a.drop n
theorem DdAll.set {v : V} {d : D} (h : Dd H v d) : ∀ {vs : List V} {ds : List D} (i : Nat), DdAll H vs ds → DdAll H (vs.set i v) (ds.set i d)
  | _, _, _, .nil => .nil
  | _, _, 0, .cons _ a => .cons h a
  | _, _, i + 1, .cons k a => .cons k (a.set h i)
theorem DdAll.dropLast : ∀ {vs : List V} {ds : List D}, DdAll H vs ds → DdAll H vs.dropLast ds.dropLast := fun {vs ds} h => by
  rw [List.dropLast_eq_take, List.dropLast_eq_take, h.len]
  exact h.take _
theorem DdAll.reverse : ∀ {vs : List V} {ds : List D}, DdAll H vs ds → DdAll H vs.reverse ds.reverse
  | _, _, .nil => .nil
  | _, _, .cons h a => by
    rw [List.reverse_cons, List.reverse_cons]
    exact a.reverse.app (.cons h .nil)
theorem DdAll.ints : ∀ {vs : List V} {ns : List Int}, DdAll H vs (ns.map D.int) → vs = ns.map V.int
  | _, [], h => by cases h; rfl
  | _, n :: ns, h => by
    cases h with
    | cons h1 h2 =>
      cases h1
      rw [DdAll.ints h2]
      rfl
theorem DdAll.of_ints : ∀ {ns : List Int}, DdAll H (ns.map V.int) (ns.map D.int)
  | [] => .nil
  | n :: ns => .cons (.int n) DdAll.of_ints
theorem DdAll.bls : ∀ {vs : List V} {ns : List Bool}, DdAll H vs (ns.map D.bl) → vs = ns.map V.bl
  | _, [], h => by cases h; rfl
  | _, n :: ns, h => by
    cases h with
    | cons h1 h2 =>
      cases h1
      rw [DdAll.bls h2]
      rfl
end

/-! ### cells: what a slot holds -/
inductive Cell where
  | non
  | dat (d : D)
  | lst (ds : List D)
  | dic (kvs : List (Key × D))
  | dit (kvs : List (List Key × D))
def Cell.own : Cell → Bool
  | .non => false
  | .dat _ => false
  | _ => true
inductive DdK {κ : Type} (H0 : Hp) : List (κ × V) → List (κ × D) → Prop
  | nil : DdK H0 [] []
  | cons {k : κ} {v : V} {vs : List (κ × V)} {d : D} {ds : List (κ × D)} : Dd H0 v d → DdK H0 vs ds → DdK H0 ((k, v) :: vs) ((k, d) :: ds)
theorem DdK.mono {κ : Type} {H H' : Hp} (e : Same H H') : ∀ {vs : List (κ × V)} {ds : List (κ × D)}, DdK H vs ds → DdK H' vs ds
  | _, _, .nil => .nil
  | _, _, .cons h a => .cons (Dd.mono e h) (DdK.mono e a)
def Own (H0 : Hp) (c : Cell) (o : HO) : Prop := match c with
  | .lst ds => ∃ vs, o = .lst vs ∧ DdAll H0 vs ds
  | .dic kvs => ∃ ws, o = .dK ws ∧ DdK H0 ws kvs
  | .dit kvs => ∃ ws, o = .dT ws ∧ DdK H0 ws kvs
  | .non => False
  | .dat _ => False
theorem Own.mono {H H' : Hp} (e : Same H H') : ∀ {c : Cell} {o : HO}, Own H c o → Own H' c o
  | .lst ds, _, ⟨vs, h1, h2⟩ => ⟨vs, h1, DdAll.mono e h2⟩
  | .dic kvs, _, ⟨ws, h1, h2⟩ => ⟨ws, h1, DdK.mono e h2⟩
  | .dit kvs, _, ⟨ws, h1, h2⟩ => ⟨ws, h1, DdK.mono e h2⟩
  | .non, _, h => h.elim
  | .dat _, _, h => h.elim

/-- what holds of a slot -/
def SlotOk (H0 H : Hp) (x : Option (Option V)) : Cell → Prop
  | .non => True
  | .dat d => ∃ v, x = some (some v) ∧ Dd H0 v d
  | c => ∃ l o, x = some (some (.ref l)) ∧ H0 l = none ∧ H l = some o ∧ Own H0 c o
def Owns (env : List Cell) (σ : L2.St) (i : Nat) (l : Addr) : Prop := ∃ c, env[i]? = some c ∧ c.own = true ∧ σ[i]? = some (some (.ref l))
def Owned (env : List Cell) (σ : L2.St) (l : Addr) : Prop := ∃ i, Owns env σ i l
structure Ok (env : List Cell) (σ : L2.St) (H0 H : Hp) : Prop where
  len : σ.length = env.length
  same : Same H0 H
  slot : ∀ (i : Nat) (c : Cell), env[i]? = some c → SlotOk H0 H σ[i]? c
  apart : ∀ (i j : Nat) (l : Addr), Owns env σ i l → Owns env σ j l → i = j
/-- from a state to a later one; the first m slots stay -/
structure Go (m : Nat) (env : List Cell) (σ : L2.St) (H0 H : Hp) (env' : List Cell) (σ' : L2.St) (H0' H' : Hp) : Prop where
  k0 : Same H0 H0'
  old : ∀ a, H a ≠ none → ¬ Owned env σ a → H0' a = H0 a
  keep : ∀ a o, H a = some o → ¬ Owned env σ a → H' a = some o
  al : ∀ a, H a ≠ none → H' a ≠ none
  ow : ∀ l, Owned env' σ' l → Owned env σ l ∨ H l = none
  fx : ∀ (i : Nat), i < m → σ'[i]? = σ[i]?

theorem slot_own {H0 H : Hp} {x : Option (Option V)} : ∀ {c : Cell}, c.own = true → (SlotOk H0 H x c ↔ ∃ l o, x = some (some (.ref l)) ∧ H0 l = none ∧ H l = some o ∧ Own H0 c o)
  | .non, h => by cases h
  | .dat _, h => by cases h
  | .lst _, _ => Iff.rfl
  | .dic _, _ => Iff.rfl
  | .dit _, _ => Iff.rfl

section
variable {m : Nat} {env env' env2 : List Cell} {σ σ' σ2 : L2.St} {H0 H H0' H' A0 A : Hp}
theorem Go.refl : Go m env σ H0 H env σ H0 H :=
  ⟨Same.refl _, fun _ _ _ => rfl, fun _ _ h _ => h, fun _ h => h, fun _ h => .inl h, fun _ _ => rfl⟩
theorem Go.trans (a : Go m env σ H0 H env' σ' H0' H') (b : Go m env' σ' H0' H' env2 σ2 A0 A) : Go m env σ H0 H env2 σ2 A0 A where
  k0 := a.k0.trans b.k0
  old x h n := (b.old x (a.al x h) fun w => by
    rcases a.ow x w with q | q
    · exact n q
    · exact h q).trans (a.old x h n)
  keep x o h n := b.keep x o (a.keep x o h n) fun w => by
    rcases a.ow x w with q | q
    · exact n q
    · rw [h] at q
      cases q
  al x h := b.al x (a.al x h)
  ow l h := by
    rcases b.ow l h with q | q
    · exact a.ow l q
    · exact .inr (Classical.byContradiction fun z => (a.al l z) q)
  fx i h := (b.fx i h).trans (a.fx i h)
theorem Go.fewer {n : Nat} (h : n ≤ m) (a : Go m env σ H0 H env' σ' H0' H') : Go n env σ H0 H env' σ' H0' H' :=
  ⟨a.k0, a.old, a.keep, a.al, a.ow, fun i hi => a.fx i (Nat.lt_of_lt_of_le hi h)⟩
theorem Ok.owned (O : Ok env σ H0 H) {l : Addr} (h : Owned env σ l) : H0 l = none ∧ H l ≠ none := by
  obtain ⟨i, c, h1, h2, h3⟩ := h
  obtain ⟨l', o, q1, q2, q3, _⟩ := (slot_own h2).mp (O.slot i c h1)
  rw [h3] at q1
  injection q1 with q1
  injection q1 with q1
  injection q1 with q1
  subst q1
  exact ⟨q2, fun z => by rw [q3] at z; cases z⟩
/-- a fresh address gets a thing, the known part grows with it -/
theorem Ok.laid (O : Ok env σ H0 H) {p : Addr} {o : HO} (hp : H p = none) : Ok env σ (upd H0 p o) (upd H p o) := by
  have h0 : H0 p = none := O.same.free hp
  have e0 : Same H0 (upd H0 p o) := fun b u e => by
    rw [upd_ne (ne_of_none e h0)]
    exact e
  refine ⟨O.len, fun b u e => ?_, fun i c h => ?_, O.apart⟩
  · by_cases hb : b = p
    · subst hb
      rw [upd_same] at e ⊢
      exact e
    · rw [upd_ne hb] at e ⊢
      exact O.same _ _ e
  · have q := O.slot i c h
    have own_ : ∀ c : Cell, (∃ l o, σ[i]? = some (some (V.ref l)) ∧ H0 l = none ∧ H l = some o ∧ Own H0 c o) → ∃ l u, σ[i]? = some (some (V.ref l)) ∧ upd H0 p o l = none ∧ upd H p o l = some u ∧ Own (upd H0 p o) c u := fun c ⟨l, u, q1, q2, q3, q4⟩ => by
      have hl : l ≠ p := ne_of_none q3 hp
      exact ⟨l, u, q1, by rw [upd_ne hl]; exact q2, by rw [upd_ne hl]; exact q3, Own.mono e0 q4⟩
    cases c with
    | non => trivial
    | dat d => obtain ⟨v, q1, q2⟩ := q; exact ⟨v, q1, q2.mono e0⟩
    | lst ds => exact own_ _ q
    | dic ds => exact own_ _ q
    | dit ds => exact own_ _ q
theorem Go.laid (O : Ok env σ H0 H) {p : Addr} {o : HO} (hp : H p = none) : Go m env σ H0 H env σ (upd H0 p o) (upd H p o) where
  k0 b u e := by
    rw [upd_ne (ne_of_none e (O.same.free hp))]
    exact e
  old a h _ := upd_ne (show a ≠ p from fun z => h (by rw [z]; exact hp))
  keep a u h _ := by
    rw [upd_ne (ne_of_none h hp)]
    exact h
  al a h := by
    rw [upd_ne (show a ≠ p from fun z => h (by rw [z]; exact hp))]
    exact h
  ow l h := .inl h
  fx _ _ := rfl
/-- a fresh address gets a thing that is nobody's yet -/
theorem Ok.tmp (O : Ok env σ H0 H) {p : Addr} {o : HO} (hp : H p = none) : Ok env σ H0 (upd H p o) := by
  refine ⟨O.len, fun b u e => ?_, fun i c h => ?_, O.apart⟩
  · rw [upd_ne (ne_of_none e (O.same.free hp))]
    exact O.same _ _ e
  · have q := O.slot i c h
    have own_ : ∀ c : Cell, (∃ l o, σ[i]? = some (some (V.ref l)) ∧ H0 l = none ∧ H l = some o ∧ Own H0 c o) → ∃ l u, σ[i]? = some (some (V.ref l)) ∧ H0 l = none ∧ upd H p o l = some u ∧ Own H0 c u := fun c ⟨l, u, q1, q2, q3, q4⟩ => by
      have hl : l ≠ p := ne_of_none q3 hp
      exact ⟨l, u, q1, q2, by rw [upd_ne hl]; exact q3, q4⟩
    cases c with
    | non => trivial
    | dat d => exact q
    | lst ds => exact own_ _ q
    | dic ds => exact own_ _ q
    | dit ds => exact own_ _ q
theorem Go.tmp (O : Ok env σ H0 H) {p : Addr} {o : HO} (hp : H p = none) : Go m env σ H0 H env σ H0 (upd H p o) where
  k0 := Same.refl _
  old _ _ _ := rfl
  keep a u h _ := by
    rw [upd_ne (ne_of_none h hp)]
    exact h
  al a h := by
    rw [upd_ne (show a ≠ p from fun z => h (by rw [z]; exact hp))]
    exact h
  ow l h := .inl h
  fx _ _ := rfl
/-- an own thing changes -/
theorem Ok.change (O : Ok env σ H0 H) {i : Nat} {c c' : Cell} {l : Addr} {o : HO} (h1 : env[i]? = some c) (h2 : c.own = true) (h3 : σ[i]? = some (some (.ref l))) (h4 : c'.own = true) (h5 : Own H0 c' o) :
    Ok (env.set i c') σ H0 (upd H l o) := by
  have ol : Owned env σ l := ⟨i, c, h1, h2, h3⟩
  obtain ⟨n0, al⟩ := O.owned ol
  have hi : i < env.length := by
    obtain ⟨q, _⟩ := List.getElem?_eq_some_iff.mp h1
    exact q
  have old : ∀ j d, (env.set i c')[j]? = some d → j ≠ i → env[j]? = some d := fun j d h n => by
    rw [List.getElem?_set_ne (Ne.symm n)] at h
    exact h
  have ap : ∀ j k, Owns (env.set i c') σ j k → Owns env σ j k := fun j k ⟨d, q1, q2, q3⟩ => by
    by_cases z : j = i
    · subst z
      exact ⟨c, h1, h2, q3⟩
    · exact ⟨d, old j d q1 z, q2, q3⟩
  refine ⟨by rw [List.length_set]; exact O.len, fun b u e => ?_, fun j d h => ?_, fun j k a q1 q2 => O.apart j k a (ap _ _ q1) (ap _ _ q2)⟩
  · rw [upd_ne (ne_of_none e n0)]
    exact O.same _ _ e
  · by_cases z : j = i
    · subst z
      rw [List.getElem?_set_self hi] at h
      injection h with h
      subst h
      exact (slot_own h4).mpr ⟨l, o, h3, n0, upd_same, h5⟩
    · have q := O.slot j d (old j d h z)
      have own_ : ∀ c : Cell, c.own = true → env[j]? = some c → (∃ l o, σ[j]? = some (some (V.ref l)) ∧ H0 l = none ∧ H l = some o ∧ Own H0 c o) → ∃ k u, σ[j]? = some (some (V.ref k)) ∧ H0 k = none ∧ upd H l o k = some u ∧ Own H0 c u := fun c oc ec ⟨k, u, q1, q2, q3, q4⟩ => by
        have hl : k ≠ l := fun e => z (O.apart j i l ⟨c, ec, oc, by rw [q1, e]⟩ ⟨_, h1, h2, h3⟩)
        exact ⟨k, u, q1, q2, by rw [upd_ne hl]; exact q3, q4⟩
      have oj := old j d h z
      cases d with
      | non => trivial
      | dat d => exact q
      | lst ds => exact own_ _ rfl oj q
      | dic ds => exact own_ _ rfl oj q
      | dit ds => exact own_ _ rfl oj q
theorem Go.change (O : Ok env σ H0 H) {i : Nat} {c c' : Cell} {l : Addr} {o : HO} (h1 : env[i]? = some c) (h2 : c.own = true) (h3 : σ[i]? = some (some (.ref l))) :
    Go m env σ H0 H (env.set i c') σ H0 (upd H l o) := by
  have ol : Owned env σ l := ⟨i, c, h1, h2, h3⟩
  refine ⟨Same.refl _, fun _ _ _ => rfl, fun a u h n => ?_, fun a h => ?_, fun k h => .inl ?_, fun _ _ => rfl⟩
  · rw [upd_ne (show a ≠ l from fun z => n (by rw [z]; exact ol))]
    exact h
  · by_cases z : a = l
    · subst z
      rw [upd_same]
      exact fun z => by cases z
    · rw [upd_ne z]
      exact h
  · obtain ⟨j, d, q1, q2, q3⟩ := h
    by_cases z : j = i
    · subst z
      exact ⟨j, c, h1, h2, q3⟩
    · rw [List.getElem?_set_ne (Ne.symm z)] at q1
      exact ⟨j, d, q1, q2, q3⟩
end

/-! ### what an expression hands over -/
inductive Res where
  | dat (d : D)
  | own (c : Cell)
  | al (i : Nat)
/-- v is what r says; B: where the expression began -/
def VAL (B : Hp) (env : List Cell) (σ : L2.St) (H0 H : Hp) (v : V) : Res → Prop
  | .dat d => Dd H0 v d
  | .own c => c.own = true ∧ ∃ l o, v = .ref l ∧ H0 l = none ∧ H l = some o ∧ Own H0 c o ∧ B l = none ∧ ¬ Owned env σ l
  | .al i => ∃ l, v = .ref l ∧ Owns env σ i l
section
variable {m : Nat} {env env' env2 : List Cell} {σ σ' σ2 : L2.St} {H0 H H0' H' A0 A B B' : Hp} {v : V}
/-- what was handed over stands, as long as the slots stand -/
theorem VAL.go (hal : ∀ i l, Owns env σ i l → Owns env' σ' i l) (g : Go m env σ H0 H env' σ' H0' H') : ∀ {r : Res}, VAL B env σ H0 H v r → VAL B env' σ' H0' H' v r
  | .dat d, h => Dd.mono g.k0 h
  | .own c, ⟨hc, l, o, e, h0, h1, h2, h3, h4⟩ => by
    have al : H l ≠ none := fun z => by rw [h1] at z; cases z
    refine ⟨hc, l, o, e, (g.old l al h4).trans h0, g.keep l o h1 h4, Own.mono g.k0 h2, h3, fun z => ?_⟩
    rcases g.ow l z with q | q
    · exact h4 q
    · exact al q
  | .al i, ⟨l, e, h⟩ => ⟨l, e, hal i l h⟩
/-- where it began may be told later or earlier -/
theorem VAL.base (h : ∀ l, B l = none → B' l = none) : ∀ {r : Res}, VAL B env σ H0 H v r → VAL B' env σ H0 H v r
  | .dat _, q => q
  | .own _, ⟨hc, l, o, e, h0, h1, h2, h3, h4⟩ => ⟨hc, l, o, e, h0, h1, h2, h l h3, h4⟩
  | .al _, q => q
end

/-- where we stand: the frame's part, how many slots stay, what is wished of an error -/
structure Wo where
  K : PySem.W.Frag
  m : Nat
  E : L2.St → XK
/-- the data side of a wish: what errors may come, with their fields, at which cells -/
abbrev PX := Addr → List (Str × D) → List Cell → Prop
abbrev PX0 : PX := fun _ _ _ => False
def ErrOk (W : Wo) (px : PX) (env : List Cell) (σ : L2.St) (H0 H : Hp) : Prop := ∀ (C d : Addr) (vs : List (Str × V)) (fs : List (Str × D)) (env' : List Cell) (σ' : L2.St) (H0' H' : Hp),
  px C fs env' → Ok env' σ' H0' H' → Go W.m env σ H0 H env' σ' H0' H' → H0' d = some (.xd vs) → DdF H0' vs fs → W.E σ' (.ref C) (some d) H'
theorem ErrOk.none {W : Wo} {env : List Cell} {σ : L2.St} {H0 H : Hp} : ErrOk W PX0 env σ H0 H := fun _ _ _ _ _ _ _ _ p => p.elim
theorem ErrOk.go {W : Wo} {px : PX} {env env' : List Cell} {σ σ' : L2.St} {H0 H H0' H' : Hp} (h : ErrOk W px env σ H0 H) (g : Go W.m env σ H0 H env' σ' H0' H') : ErrOk W px env' σ' H0' H' :=
  fun C d vs fs env2 σ2 A0 A p o g2 e f => h C d vs fs env2 σ2 A0 A p o (g.trans g2) e f
/-- a step that leaves the slots: own things may have changed -/
structure Stp (m : Nat) (env : List Cell) (σ : L2.St) (H0 H : Hp) (env' : List Cell) (H0' H' : Hp) : Prop where
  ok : Ok env' σ H0' H'
  go : Go m env σ H0 H env' σ H0' H'
  iff : ∀ (i : Nat) (l : Addr), Owns env σ i l ↔ Owns env' σ i l
theorem Stp.refl {m : Nat} {env : List Cell} {σ : L2.St} {H0 H : Hp} (O : Ok env σ H0 H) : Stp m env σ H0 H env H0 H := ⟨O, .refl, fun _ _ => Iff.rfl⟩
theorem Stp.trans {m : Nat} {env env' env2 : List Cell} {σ : L2.St} {H0 H H0' H' A0 A : Hp} (a : Stp m env σ H0 H env' H0' H') (b : Stp m env' σ H0' H' env2 A0 A) : Stp m env σ H0 H env2 A0 A :=
  ⟨b.ok, a.go.trans b.go, fun i l => (a.iff i l).trans (b.iff i l)⟩
theorem Stp.back {m : Nat} {env env' : List Cell} {σ : L2.St} {H0 H H0' H' : Hp} (a : Stp m env σ H0 H env' H0' H') {l : Addr} (h : H' l = none) : H l = none := Classical.byContradiction fun z => a.go.al l z h
theorem VAL.stp {m : Nat} {env env' : List Cell} {σ : L2.St} {H0 H H0' H' B : Hp} {v : V} {r : Res} (a : Stp m env σ H0 H env' H0' H') (h : VAL B env σ H0 H v r) : VAL B env' σ H0' H' v r :=
  VAL.go (fun i l q => (a.iff i l).mp q) a.go h

abbrev PR := Res → List Cell → Prop
/-- an expression: from the cells env it hands over r, leaving env', of which P holds; or an error of px -/
def wpE (W : Wo) (te : TE) (env : List Cell) (P : PR) (px : PX) : Prop := ∀ (σ : L2.St) (H0 H : Hp), Ok env σ H0 H → ErrOk W px env σ H0 H → ∀ Q : VK,
  (∀ v r env' H0' H', P r env' → Stp W.m env σ H0 H env' H0' H' → VAL H env' σ H0' H' v r → Q v H') → te σ H Q
/-- an operator on values, a one-place one, a call on values -/
def wpO (W : Wo) (f : R2) (x y : Res) (env : List Cell) (P : PR) (px : PX) : Prop := ∀ (σ : L2.St) (B H0 H : Hp), Ok env σ H0 H → ErrOk W px env σ H0 H → (∀ l, H l = none → B l = none) → ∀ v w, VAL B env σ H0 H v x → VAL B env σ H0 H w y → ∀ Q : VK,
  (∀ u r env' H0' H', P r env' → Stp W.m env σ H0 H env' H0' H' → VAL B env' σ H0' H' u r → Q u H') → f v w H Q
def wpU (W : Wo) (f : V → Hp → VK → Prop) (x : Res) (env : List Cell) (P : PR) (px : PX) : Prop := ∀ (σ : L2.St) (B H0 H : Hp), Ok env σ H0 H → ErrOk W px env σ H0 H → (∀ l, H l = none → B l = none) → ∀ v, VAL B env σ H0 H v x → ∀ Q : VK,
  (∀ u r env' H0' H', P r env' → Stp W.m env σ H0 H env' H0' H' → VAL B env' σ H0' H' u r → Q u H') → f v H Q
inductive VALs (B : Hp) (env : List Cell) (σ : L2.St) (H0 H : Hp) : List V → List Res → Prop
  | nil : VALs B env σ H0 H [] []
  | cons {v : V} {vs : List V} {r : Res} {rs : List Res} : VAL B env σ H0 H v r → VALs B env σ H0 H vs rs → VALs B env σ H0 H (v :: vs) (r :: rs)
theorem VALs.stp {m : Nat} {env env' : List Cell} {σ : L2.St} {H0 H H0' H' B : Hp} (a : Stp m env σ H0 H env' H0' H') : ∀ {vs : List V} {rs : List Res}, VALs B env σ H0 H vs rs → VALs B env' σ H0' H' vs rs
  | _, _, .nil => .nil
  | _, _, .cons h t => .cons (h.stp a) (t.stp a)
theorem VALs.base {env : List Cell} {σ : L2.St} {H0 H B B' : Hp} (a : ∀ l, B l = none → B' l = none) : ∀ {vs : List V} {rs : List Res}, VALs B env σ H0 H vs rs → VALs B' env σ H0 H vs rs
  | _, _, .nil => .nil
  | _, _, .cons h t => .cons (h.base a) (t.base a)
def wpA (W : Wo) (ta : TA) (env : List Cell) (P : List Res → List Cell → Prop) (px : PX) : Prop := ∀ (σ : L2.St) (H0 H : Hp), Ok env σ H0 H → ErrOk W px env σ H0 H → ∀ Q : List V → Hp → Prop,
  (∀ vs rs env' H0' H', P rs env' → Stp W.m env σ H0 H env' H0' H' → VALs H env' σ H0' H' vs rs → Q vs H') → ta σ H Q
def wpC (W : Wo) (f : List V → Hp → VK → Prop) (rs : List Res) (env : List Cell) (P : PR) (px : PX) : Prop := ∀ (σ : L2.St) (B H0 H : Hp), Ok env σ H0 H → ErrOk W px env σ H0 H → (∀ l, H l = none → B l = none) → ∀ vs, VALs B env σ H0 H vs rs → ∀ Q : VK,
  (∀ u r env' H0' H', P r env' → Stp W.m env σ H0 H env' H0' H' → VAL B env' σ H0' H' u r → Q u H') → f vs H Q
/-- a test -/
def wpT (W : Wo) (t : TT) (env : List Cell) (P : Bool → List Cell → Prop) (px : PX) : Prop := ∀ (σ : L2.St) (H0 H : Hp), Ok env σ H0 H → ErrOk W px env σ H0 H → ∀ Q : Bool → Hp → Prop,
  (∀ b env' H0' H', P b env' → Stp W.m env σ H0 H env' H0' H' → Q b H') → t σ H Q

/-! ### the rules of expressions -/
section
variable {W : Wo} {env : List Cell} {P : PR} {px : PX} {ta tb te : TE} {t u : TT}
theorem wpE.imp {P' : PR} (h : wpE W te env P px) (k : ∀ r env', P r env' → P' r env') : wpE W te env P' px :=
  fun σ H0 H O X Q q => h σ H0 H O X Q fun v r env' H0' H' p => q v r env' H0' H' (k r env' p)
theorem wpT.imp {P P' : Bool → List Cell → Prop} (h : wpT W t env P px) (k : ∀ r env', P r env' → P' r env') : wpT W t env P' px :=
  fun σ H0 H O X Q q => h σ H0 H O X Q fun r env' H0' H' p => q r env' H0' H' (k r env' p)
theorem wpA.imp {t : TA} {P P' : List Res → List Cell → Prop} (h : wpA W t env P px) (k : ∀ r env', P r env' → P' r env') : wpA W t env P' px :=
  fun σ H0 H O X Q q => h σ H0 H O X Q fun v r env' H0' H' p => q v r env' H0' H' (k r env' p)
theorem wp_var {i : Nat} {d : D} (h : env[i]? = some (.dat d)) (p : P (.dat d) env) : wpE W (tVar i) env P px := fun σ H0 H O _ Q q => by
  obtain ⟨v, q1, q2⟩ := O.slot i _ h
  exact ⟨v, q1, q v _ env H0 H p (.refl O) q2⟩
theorem wp_varO {i : Nat} {c : Cell} (h : env[i]? = some c) (hc : c.own = true) (p : P (.al i) env) : wpE W (tVar i) env P px := fun σ H0 H O _ Q q => by
  obtain ⟨l, o, q1, q2⟩ := (slot_own hc).mp (O.slot i _ h)
  exact ⟨.ref l, q1, q _ _ env H0 H p (.refl O) ⟨l, rfl, c, h, hc, q1⟩⟩
theorem wp_c {v : V} {d : D} (h : ∀ H, Dd H v d) (p : P (.dat d) env) : wpE W (tC v) env P px := fun σ H0 H O _ Q q => q v _ env H0 H p (.refl O) (h H0)
theorem wp_int {i : Int} (p : P (.dat (.int i)) env) : wpE W (tC (.int i)) env P px := wp_c (fun _ => .int i) p
theorem wp_bl {b : Bool} (p : P (.dat (.bl b)) env) : wpE W (tC (.bl b)) env P px := wp_c (fun _ => .bl b) p
theorem wp_non (p : P (.dat .non) env) : wpE W (tC .non) env P px := wp_c (fun _ => .non) p
theorem wp_str {s : Str} (p : P (.dat (.str s)) env) : wpE W (tC (.str s)) env P px := wp_c (fun _ => .str s) p
theorem wp_op {f : R2} (h : wpE W ta env (fun x env1 => wpE W tb env1 (fun y env2 => wpO W f x y env2 P px) px) px) : wpE W (tOp f ta tb) env P px := fun σ H0 H O X Q q =>
  h σ H0 H O X _ fun v x env1 A0 A h1 s1 v1 => h1 σ A0 A s1.ok (X.go s1.go) _ fun w y env2 B0 B h2 s2 v2 =>
    h2 σ H B0 B s2.ok (X.go (s1.trans s2).go) (fun l z => s1.back (s2.back z)) v w (v1.stp s2) (v2.base fun l z => s1.back z) Q fun u r env' C0 C p s3 v3 => q u r env' C0 C p ((s1.trans s2).trans s3) v3
theorem wp_un {f : V → Hp → VK → Prop} (h : wpE W ta env (fun x env1 => wpU W f x env1 P px) px) : wpE W (tUn f ta) env P px := fun σ H0 H O X Q q =>
  h σ H0 H O X _ fun v x env1 A0 A h1 s1 v1 => h1 σ H A0 A s1.ok (X.go s1.go) (fun l z => s1.back z) v v1 Q fun u r env' C0 C p s3 v3 => q u r env' C0 C p (s1.trans s3) v3
theorem wp_nil {P : List Res → List Cell → Prop} (p : P [] env) : wpA W tNil env P px := fun σ H0 H O X Q q => q [] [] env H0 H p (.refl O) .nil
/-- a list that is handed on is frozen -/
def fz : Res → Res
  | .own (.lst ds) => .dat (.lst ds)
  | r => r
theorem freeze {m : Nat} {A0 A H0 H : Hp} {env1 : List Cell} {σ : L2.St} {v : V} {r : Res} (S : Stp m env σ A0 A env1 H0 H) (h : VAL A env1 σ H0 H v r) : ∃ H0', Stp m env σ A0 A env1 H0' H ∧ VAL A env1 σ H0' H v (fz r) := by
  cases r with
  | dat d => exact ⟨H0, S, h⟩
  | al i => exact ⟨H0, S, h⟩
  | own c =>
    cases c with
    | non => exact ⟨H0, S, h⟩
    | dat d => exact ⟨H0, S, h⟩
    | dic d => exact ⟨H0, S, h⟩
    | dit d => exact ⟨H0, S, h⟩
    | lst ds =>
      obtain ⟨_, l, o, rfl, h0, h1, ⟨vs, rfl, h2⟩, h3, h4⟩ := h
      have O := S.ok
      have e0 : Same H0 (upd H0 l (.lst vs)) := fun b u e => by
        rw [upd_ne (ne_of_none e h0)]
        exact e
      have own_ : ∀ (i : Nat) (c : Cell), env1[i]? = some c → c.own = true → (∃ k o, σ[i]? = some (some (V.ref k)) ∧ H0 k = none ∧ H k = some o ∧ Own H0 c o) → ∃ k u, σ[i]? = some (some (V.ref k)) ∧ upd H0 l (.lst vs) k = none ∧ H k = some u ∧ Own (upd H0 l (.lst vs)) c u := fun i c e1 e2 ⟨k, u, q1, q2, q3, q4⟩ => by
        have hl : k ≠ l := fun z => h4 ⟨i, c, e1, e2, by rw [q1, z]⟩
        exact ⟨k, u, q1, by rw [upd_ne hl]; exact q2, q3, Own.mono e0 q4⟩
      refine ⟨upd H0 l (.lst vs), ⟨⟨O.len, fun b u e => ?_, fun i c e => ?_, O.apart⟩, ⟨S.go.k0.trans e0, fun a ha hn => ?_, S.go.keep, S.go.al, S.go.ow, S.go.fx⟩, S.iff⟩, .lst upd_same (h2.mono e0)⟩
      · by_cases hb : b = l
        · subst hb
          rw [upd_same] at e
          rw [h1]
          exact e
        · rw [upd_ne hb] at e
          exact O.same _ _ e
      · have q := O.slot i c e
        cases c with
        | non => trivial
        | dat d =>
          obtain ⟨v, q1, q2⟩ := q
          exact ⟨v, q1, q2.mono e0⟩
        | lst ds => exact own_ i _ e rfl q
        | dic ds => exact own_ i _ e rfl q
        | dit ds => exact own_ i _ e rfl q
      · rw [upd_ne (show a ≠ l from fun z => ha (by rw [z]; exact h3))]
        exact S.go.old a ha hn
theorem wpE.fz (h : wpE W te env (fun r e => P (fz r) e) px) : wpE W te env P px := fun σ H0 H O X Q q =>
  h σ H0 H O X Q fun v r env' A0 A p S w => by
    obtain ⟨A0', S', w'⟩ := freeze S w
    exact q v _ env' A0' A p S' w'
theorem wpa_cons {t : TA} {P : List Res → List Cell → Prop} (h : wpE W te env (fun r env1 => wpA W t env1 (fun rs env2 => P (Nw.fz r :: rs) env2) px) px) : wpA W (tCons te t) env P px := fun σ H0 H O X Q q =>
  (wpE.fz (P := fun r env1 => wpA W t env1 (fun rs env2 => P (r :: rs) env2) px) h) σ H0 H O X _ fun v r env1 A0 A h1 S w => h1 σ A0 A S.ok (X.go S.go) _ fun vs rs env2 B0 B p S2 w2 =>
    q (v :: vs) (r :: rs) env2 B0 B p (S.trans S2) (.cons (w.stp S2) (w2.base fun l z => S.back z))
/-- a new tuple -/
theorem Stp.laid {m : Nat} {env : List Cell} {σ : L2.St} {H0 H : Hp} (O : Ok env σ H0 H) {p : Addr} {o : HO} (hp : H p = none) : Stp m env σ H0 H env (upd H0 p o) (upd H p o) :=
  ⟨O.laid hp, .laid O hp, fun _ _ => Iff.rfl⟩
theorem Stp.tmp {m : Nat} {env : List Cell} {σ : L2.St} {H0 H : Hp} (O : Ok env σ H0 H) {p : Addr} {o : HO} (hp : H p = none) : Stp m env σ H0 H env H0 (upd H p o) :=
  ⟨O.tmp hp, .tmp O hp, fun _ _ => Iff.rfl⟩
theorem Stp.chg {m : Nat} {env : List Cell} {σ : L2.St} {H0 H : Hp} (O : Ok env σ H0 H) {i : Nat} {c c' : Cell} {l : Addr} {o : HO} (h1 : env[i]? = some c) (h2 : c.own = true) (h3 : σ[i]? = some (some (.ref l))) (h4 : c'.own = true) (h5 : Own H0 c' o) :
    Stp m env σ H0 H (env.set i c') H0 (upd H l o) := by
  refine ⟨O.change h1 h2 h3 h4 h5, .change O h1 h2 h3, fun j k => ⟨fun ⟨d, q1, q2, q3⟩ => ?_, fun ⟨d, q1, q2, q3⟩ => ?_⟩⟩
  · by_cases z : j = i
    · subst z
      have hi : j < env.length := (List.getElem?_eq_some_iff.mp h1).1
      exact ⟨c', List.getElem?_set_self hi, h4, q3⟩
    · exact ⟨d, by rw [List.getElem?_set_ne (Ne.symm z)]; exact q1, q2, q3⟩
  · by_cases z : j = i
    · subst z
      exact ⟨c, h1, h2, q3⟩
    · rw [List.getElem?_set_ne (Ne.symm z)] at q1
      exact ⟨d, q1, q2, q3⟩
def datAll : List Res → Option (List D)
  | [] => some []
  | .dat d :: rs => (datAll rs).map (d :: ·)
  | _ :: _ => none
theorem VALs.dats {B : Hp} {env : List Cell} {σ : L2.St} {H0 H : Hp} : ∀ {vs : List V} {ds : List D}, VALs B env σ H0 H vs (ds.map Res.dat) → DdAll H0 vs ds
  | _, [], h => by cases h; exact .nil
  | _, d :: ds, h => by
    cases h with
    | cons h1 h2 => exact .cons h1 h2.dats
theorem datAll_map : ∀ {rs : List Res} {ds : List D}, datAll rs = some ds → rs = ds.map Res.dat
  | [], _, h => by
    cases h
    rfl
  | .dat d :: rs, ds, h => by
    have h' : (datAll rs).map (d :: ·) = some ds := h
    cases e : datAll rs with
    | none => rw [e] at h'; cases h'
    | some es =>
      rw [e] at h'
      cases h'
      rw [datAll_map e]
      rfl
  | .own _ :: _, _, h => by cases h
  | .al _ :: _, _, h => by cases h
def alAll : List Res → Option (Nat × List D)
  | .al i :: rs => (datAll rs).map (i, ·)
  | _ => none
theorem alAll_map : ∀ {rs : List Res} {i : Nat} {ds : List D}, alAll rs = some (i, ds) → rs = .al i :: ds.map Res.dat
  | .al j :: rs, i, ds, h => by
    have h' : (datAll rs).map (j, ·) = some (i, ds) := h
    cases e : datAll rs with
    | none => rw [e] at h'; cases h'
    | some es =>
      rw [e] at h'
      cases h'
      rw [datAll_map e]
  | [], _, _, h => by cases h
  | .dat _ :: _, _, _, h => by cases h
  | .own _ :: _, _, _, h => by cases h
theorem wp_tup {t : TA} (h : wpA W t env (fun rs env1 => ∃ ds, datAll rs = some ds ∧ ds.length ≤ 100000 ∧ P (.dat (.tup ds)) env1) px) : wpE W (tTup t) env P px := fun σ H0 H O X Q q =>
  h σ H0 H O X _ fun vs rs env1 A0 A ⟨ds, er, hl, p⟩ S w => by
    have er := datAll_map er
    subst er
    have hd := w.dats
    have hlen := hd.len
    refine ⟨by rw [hlen]; exact Nat.le_trans hl (by decide), fun a ha => ?_⟩
    have e0 : Same A0 (upd A0 a (.tup vs)) := fun b u e => by
      rw [upd_ne (ne_of_none e (S.ok.same.free ha))]
      exact e
    exact q _ _ env1 _ _ p (S.trans (.laid S.ok ha)) (.tup upd_same (hd.mono e0))
theorem wp_lst {t : TA} (h : wpA W t env (fun rs env1 => ∃ ds, datAll rs = some ds ∧ ds.length ≤ 100000 ∧ P (.own (.lst ds)) env1) px) : wpE W (tLst t) env P px := fun σ H0 H O X Q q =>
  h σ H0 H O X _ fun vs rs env1 A0 A ⟨ds, er, hl, p⟩ S w => by
    have er := datAll_map er
    subst er
    have hd := w.dats
    have hlen := hd.len
    refine ⟨by rw [hlen]; exact Nat.le_trans hl (by decide), fun a ha => ?_⟩
    refine q _ _ env1 _ _ p (S.trans (.tmp S.ok ha)) ⟨rfl, a, _, rfl, S.ok.same.free ha, upd_same, ⟨vs, rfl, hd⟩, S.back ha, fun z => ?_⟩
    exact (S.ok.owned z).2 ha
end
end Nw

set_option Elab.async false
set_option linter.all false
set_option maxRecDepth 100000
set_option maxHeartbeats 1000000
namespace Nw
open PySem PySem.Spec PyProof.Rows L2

/-! ### operators -/
def D.sc : D → Option V
  | .non => some .non | .bl b => some (.bl b) | .int i => some (.int i) | .str s => some (.str s)
  | _ => none
theorem Dd.sc {H : Hp} {v x : V} {d : D} (h : Dd H v d) (e : d.sc = some x) : v = x := by
  cases h <;> first | (injection e with e) | cases e
theorem Dd.int_inv {H : Hp} {v : V} {i : Int} (h : Dd H v (.int i)) : v = .int i := by cases h; rfl
theorem Dd.bl_inv {H : Hp} {v : V} {i : Bool} (h : Dd H v (.bl i)) : v = .bl i := by cases h; rfl
theorem Dd.tup_inv {H : Hp} {v : V} {ds : List D} (h : Dd H v (.tup ds)) : ∃ a vs, v = .ref a ∧ H a = some (.tup vs) ∧ DdAll H vs ds := by
  cases h with
  | tup h a => exact ⟨_, _, rfl, h, a⟩
theorem Dd.lst_inv {H : Hp} {v : V} {ds : List D} (h : Dd H v (.lst ds)) : ∃ a vs, v = .ref a ∧ H a = some (.lst vs) ∧ DdAll H vs ds := by
  cases h with
  | lst h a => exact ⟨_, _, rfl, h, a⟩
/-- what stands as a row of items: a tuple, a list -/
inductive SeqR (env : List Cell) : Res → List D → Prop
  | tup (ds : List D) : SeqR env (.dat (.tup ds)) ds
  | lst (ds : List D) : SeqR env (.dat (.lst ds)) ds
  | own (ds : List D) : SeqR env (.own (.lst ds)) ds
  | al (i : Nat) (ds : List D) (h : env[i]? = some (.lst ds)) : SeqR env (.al i) ds
inductive LstR (env : List Cell) : Res → List D → Prop
  | lst (ds : List D) : LstR env (.dat (.lst ds)) ds
  | own (ds : List D) : LstR env (.own (.lst ds)) ds
  | al (i : Nat) (ds : List D) (h : env[i]? = some (.lst ds)) : LstR env (.al i) ds
section
variable {W : Wo} {env : List Cell} {P : PR} {px : PX} {ta tb tc te : TE} {t u : TT} {B H0 H : Hp} {σ : L2.St} {v : V} {r : Res} {ds es : List D}
theorem LstR.get (O : Ok env σ H0 H) (h : LstR env r ds) (w : VAL B env σ H0 H v r) : ∃ p vs, v = .ref p ∧ DdAll H0 vs ds ∧ H p = some (.lst vs) := by
  cases h with
  | lst =>
    obtain ⟨a, vs, rfl, q1, q2⟩ := Dd.lst_inv w
    exact ⟨a, vs, rfl, q2, O.same _ _ q1⟩
  | own =>
    obtain ⟨_, l, o, rfl, h0, h1, ⟨vs, rfl, h2⟩, _⟩ := w
    exact ⟨l, vs, rfl, h2, h1⟩
  | al i _ e =>
    obtain ⟨l, rfl, c, q1, q2, q3⟩ := w
    rw [e] at q1
    injection q1 with q1
    subst q1
    obtain ⟨k, o, z1, z2, z3, ⟨vs, rfl, z4⟩⟩ := O.slot i _ e
    rw [q3] at z1
    injection z1 with z1
    injection z1 with z1
    injection z1 with z1
    subst z1
    exact ⟨l, vs, rfl, z4, z3⟩
theorem SeqR.get (O : Ok env σ H0 H) (h : SeqR env r ds) (w : VAL B env σ H0 H v r) : ∃ p vs, v = .ref p ∧ DdAll H0 vs ds ∧ (H p = some (.lst vs) ∨ H p = some (.tup vs)) := by
  cases h with
  | tup =>
    obtain ⟨a, vs, rfl, q1, q2⟩ := Dd.tup_inv w
    exact ⟨a, vs, rfl, q2, .inr (O.same _ _ q1)⟩
  | lst =>
    obtain ⟨p, vs, e, h1, h2⟩ := LstR.get O (.lst ds) w
    exact ⟨p, vs, e, h1, .inl h2⟩
  | own =>
    obtain ⟨p, vs, e, h1, h2⟩ := LstR.get O (.own ds) w
    exact ⟨p, vs, e, h1, .inl h2⟩
  | al i _ q =>
    obtain ⟨p, vs, e, h1, h2⟩ := LstR.get O (.al i ds q) w
    exact ⟨p, vs, e, h1, .inl h2⟩
theorem wo_int {g : Int → Int → Int} {i j : Int} (p : P (.dat (.int (g i j))) env) : wpO W (rI0 fun i j => .int (g i j)) (.dat (.int i)) (.dat (.int j)) env P px := fun σ B H0 H O _ _ v w hv hw Q q => by
  cases hv; cases hw
  exact ⟨i, j, rfl, rfl, q _ _ env H0 H p (.refl O) (.int _)⟩
theorem wo_bl {g : Int → Int → Bool} {i j : Int} (p : P (.dat (.bl (g i j))) env) : wpO W (rI0 fun i j => .bl (g i j)) (.dat (.int i)) (.dat (.int j)) env P px := fun σ B H0 H O _ _ v w hv hw Q q => by
  cases hv; cases hw
  exact ⟨i, j, rfl, rfl, q _ _ env H0 H p (.refl O) (.bl _)⟩
theorem wo_intC {C : Int → Int → Prop} {g : Int → Int → Int} {i j : Int} (c : C i j) (p : P (.dat (.int (g i j))) env) : wpO W (rI C fun i j => .int (g i j)) (.dat (.int i)) (.dat (.int j)) env P px := fun σ B H0 H O _ _ v w hv hw Q q => by
  cases hv; cases hw
  exact ⟨i, j, rfl, rfl, c, q _ _ env H0 H p (.refl O) (.int _)⟩
theorem wo_eq {x y : V} {d e : D} (hd : d.sc = some x) (he : e.sc = some y) (hs : scal x y = true) (p : P (.dat (.bl (decide (x = y)))) env) : wpO W rEq (.dat d) (.dat e) env P px := fun σ B H0 H O _ _ v w hv hw Q q => by
  have hv : Dd H0 v d := hv
  have hw : Dd H0 w e := hw
  rw [hv.sc hd, hw.sc he]
  exact ⟨hs, q _ _ env H0 H p (.refl O) (.bl _)⟩
theorem wo_ne {x y : V} {d e : D} (hd : d.sc = some x) (he : e.sc = some y) (hs : scal x y = true) (p : P (.dat (.bl (!decide (x = y)))) env) : wpO W rNe (.dat d) (.dat e) env P px := fun σ B H0 H O _ _ v w hv hw Q q => by
  have hv : Dd H0 v d := hv
  have hw : Dd H0 w e := hw
  rw [hv.sc hd, hw.sc he]
  exact ⟨hs, q _ _ env H0 H p (.refl O) (.bl _)⟩
theorem dec_int (i j : Int) : decide (V.int i = V.int j) = decide (i = j) := by
  by_cases h : i = j
  · rw [decide_eq_true h, h, decide_eq_true rfl]
  · rw [decide_eq_false h, decide_eq_false fun e => h (V.int.inj e)]
theorem wo_eqI {i j : Int} (p : P (.dat (.bl (decide (i = j)))) env) : wpO W rEq (.dat (.int i)) (.dat (.int j)) env P px := wo_eq rfl rfl rfl (by rw [dec_int]; exact p)
theorem wo_neI {i j : Int} (p : P (.dat (.bl (!decide (i = j)))) env) : wpO W rNe (.dat (.int i)) (.dat (.int j)) env P px := wo_ne rfl rfl rfl (by rw [dec_int]; exact p)
theorem wo_eqB {i j : Bool} (p : P (.dat (.bl (i == j))) env) : wpO W rEq (.dat (.bl i)) (.dat (.bl j)) env P px := wo_eq rfl rfl rfl (by
  have e : decide (V.bl i = V.bl j) = (i == j) := by cases i <;> cases j <;> decide
  rw [e]
  exact p)
theorem ixN_lt {n : Nat} {i : Int} {k : Nat} (h : ixN n i = some k) : k < n := by
  unfold ixN at h
  split at h
  · split at h
    · injection h with h; omega
    · cases h
  · split at h
    · injection h with h; omega
    · cases h
theorem atI_of {vs : List V} {i : Int} {d : D} (h : DdAll H0 vs ds) (e : atI ds i = some d) : ∃ v, atI vs i = some v ∧ Dd H0 v d := by
  unfold atI at e ⊢
  rw [h.len]
  cases q : ixN ds.length i with
  | none => rw [q] at e; cases e
  | some k =>
    rw [q] at e
    exact h.got e
theorem wo_ixT {i : Int} {d : D} (e : atI ds i = some d) (p : P (.dat d) env) : wpO W (rIxT W.K) (.dat (.tup ds)) (.dat (.int i)) env P px := fun σ B H0 H O _ _ v w hv hw Q q => by
  cases hw
  obtain ⟨a, vs, rfl, q1, q2⟩ := Dd.tup_inv hv
  obtain ⟨u, z1, z2⟩ := atI_of q2 e
  exact ⟨a, vs, i, u, rfl, rfl, SqT.of (O.same _ _ q1), z1, q _ _ env H0 H p (.refl O) z2⟩
theorem wo_ixL {i : Int} {d : D} (l : LstR env r ds) (e : atI ds i = some d) (p : P (.dat d) env) : wpO W (rIxL W.K) r (.dat (.int i)) env P px := fun σ B H0 H O _ _ v w hv hw Q q => by
  cases hw
  obtain ⟨a, vs, rfl, q2, q1⟩ := l.get O hv
  obtain ⟨u, z1, z2⟩ := atI_of q2 e
  exact ⟨a, vs, i, u, rfl, rfl, SqL.of q1, z1, q _ _ env H0 H p (.refl O) z2⟩
theorem wo_ix {i : Int} {d : D} (l : SeqR env r ds) (e : atI ds i = some d) (p : P (.dat d) env) : wpO W (rIx W.K) r (.dat (.int i)) env P px := fun σ B H0 H O _ _ v w hv hw Q q => by
  cases hw
  obtain ⟨a, vs, rfl, q2, q1⟩ := l.get O hv
  obtain ⟨u, z1, z2⟩ := atI_of q2 e
  have z := q _ _ env H0 H p (.refl O) z2
  rcases q1 with q1 | q1
  · exact .inl ⟨a, vs, i, u, rfl, rfl, SqL.of q1, z1, z⟩
  · exact .inr (.inl ⟨a, vs, i, u, rfl, rfl, SqT.of q1, z1, z⟩)
theorem wo_catT (hl : ds.length + es.length ≤ 100000) (p : P (.dat (.tup (ds ++ es))) env) : wpO W (rCatA W.K) (.dat (.tup ds)) (.dat (.tup es)) env P px := fun σ B H0 H O _ _ v w hv hw Q q => by
  obtain ⟨a, vs, rfl, q1, q2⟩ := Dd.tup_inv hv
  obtain ⟨b, ws, rfl, z1, z2⟩ := Dd.tup_inv hw
  refine ⟨a, b, vs, ws, rfl, rfl, SqT.of (O.same _ _ q1), SqT.of (O.same _ _ z1), ?_, fun e => ?_, fun _ e => ?_, fun _ _ x hx => ?_⟩
  · rw [q2.len, z2.len]
    exact Nat.le_trans hl (by decide)
  · subst e
    cases q2
    exact q _ _ env H0 H p (.refl O) (.tup z1 z2)
  · subst e
    cases z2
    rw [List.append_nil] at p
    exact q _ _ env H0 H p (.refl O) (.tup q1 q2)
  · have e0 : Same H0 (upd H0 x (.tup (vs ++ ws))) := fun b u e => by
      rw [upd_ne (ne_of_none e (O.same.free hx))]
      exact e
    exact q _ _ env _ _ p (.laid O hx) (.tup upd_same ((q2.app z2).mono e0))
theorem wo_catL {r2 : Res} (l : LstR env r ds) (l2 : LstR env r2 es) (hl : ds.length + es.length ≤ 100000) (p : P (.own (.lst (ds ++ es))) env) : wpO W rCat r r2 env P px := fun σ B H0 H O _ hB v w hv hw Q q => by
  obtain ⟨a, vs, rfl, q2, q1⟩ := l.get O hv
  obtain ⟨b, ws, rfl, z2, z1⟩ := l2.get O hw
  refine ⟨a, b, vs, ws, rfl, rfl, q1, z1, ?_, fun x hx => ?_⟩
  · rw [q2.len, z2.len]
    exact Nat.le_trans hl (by decide)
  · exact q _ _ env _ _ p (.tmp O hx) ⟨rfl, x, _, rfl, O.same.free hx, upd_same, ⟨_, rfl, q2.app z2⟩, hB x hx, fun z => (O.owned z).2 hx⟩
/-- x in ns, all whole numbers -/
theorem inV_ints (i : Int) (ns : List Int) : inV (.int i) (ns.map V.int) = ns.contains i := by
  unfold inV
  induction ns with
  | nil => rfl
  | cons n ns ih =>
    rw [List.map_cons, List.any_cons, ih, List.contains_cons]
    have e : eqV (V.int n) (V.int i) = (i == n) := by
      by_cases h : n = i
      · subst h
        simp [eqV]
      · have h2 : ¬ i = n := fun z => h z.symm
        simp [eqV, h, h2]
        rw [beq_eq_false_iff_ne.mpr h, beq_eq_false_iff_ne.mpr h2]
    rw [e]
theorem wo_isN {d : D} {x : V} (hd : d.sc = some x) (p : P (.dat (.bl (decide (x = .non)))) env) : wpO W (fun x y H Q => y = .non ∧ Q (.bl (decide (x = .non))) H) (.dat d) (.dat .non) env P px := fun σ B H0 H O _ _ v w hv hw Q q => by
  have hv : Dd H0 v d := hv
  rw [hv.sc hd]
  cases hw
  exact ⟨rfl, q _ _ env H0 H p (.refl O) (.bl _)⟩

/-! ### calls of built-ins -/
theorem wp_cb {f : List V → Hp → VK → Prop} {t : TA} (h : wpA W t env (fun rs env1 => wpC W f rs env1 P px) px) : wpE W (tCB f t) env P px := fun σ H0 H O X Q q =>
  h σ H0 H O X _ fun vs rs env1 A0 A h1 s1 v1 => h1 σ H A0 A s1.ok (X.go s1.go) (fun l z => s1.back z) vs v1 Q fun u r env' C0 C p s3 v3 => q u r env' C0 C p (s1.trans s3) v3
theorem VALs.one {B : Hp} {vs : List V} (h : VALs B env σ H0 H vs [r]) : ∃ v, vs = [v] ∧ VAL B env σ H0 H v r := by
  cases h with
  | cons a b =>
    cases b
    exact ⟨_, rfl, a⟩
theorem VALs.two {B : Hp} {vs : List V} {r2 : Res} (h : VALs B env σ H0 H vs [r, r2]) : ∃ v w, vs = [v, w] ∧ VAL B env σ H0 H v r ∧ VAL B env σ H0 H w r2 := by
  cases h with
  | cons a b =>
    obtain ⟨w, rfl, b1⟩ := b.one
    exact ⟨_, w, rfl, a, b1⟩
theorem wc_len (l : SeqR env r ds) (p : P (.dat (.int ds.length)) env) : wpC W (fun xs H Q => ∃ p ys, xs = [.ref p] ∧ (SqL W.K H p ys ∨ SqT W.K H p ys) ∧ Q (.int ys.length) H) [r] env P px := fun σ B H0 H O _ _ vs hv Q q => by
  obtain ⟨v, rfl, hv1⟩ := hv.one
  obtain ⟨a, ws, rfl, q2, q1⟩ := l.get O hv1
  refine ⟨a, ws, rfl, ?_, ?_⟩
  · rcases q1 with q1 | q1
    · exact .inl (SqL.of q1)
    · exact .inr (SqT.of q1)
  · rw [q2.len]
    exact q _ _ env H0 H p (.refl O) (.int _)
theorem wc_int {i : Int} (p : P (.dat (.int i)) env) : wpC W (fun xs H Q => (∃ i, xs = [.int i] ∧ Q (.int i) H) ∨ ∃ k, xs = [.bl k] ∧ Q (.int (if k then 1 else 0)) H) [.dat (.int i)] env P px := fun σ B H0 H O _ _ vs hv Q q => by
  obtain ⟨v, rfl, hv1⟩ := hv.one
  cases hv1
  exact .inl ⟨i, rfl, q _ _ env H0 H p (.refl O) (.int _)⟩
theorem wc_intB {b : Bool} (p : P (.dat (.int (if b then 1 else 0))) env) : wpC W (fun xs H Q => (∃ i, xs = [.int i] ∧ Q (.int i) H) ∨ ∃ k, xs = [.bl k] ∧ Q (.int (if k then 1 else 0)) H) [.dat (.bl b)] env P px := fun σ B H0 H O _ _ vs hv Q q => by
  obtain ⟨v, rfl, hv1⟩ := hv.one
  cases hv1
  exact .inr ⟨b, rfl, q _ _ env H0 H p (.refl O) (.int _)⟩
theorem wc_abs {i : Int} (p : P (.dat (.int (if i < 0 then -i else i))) env) : wpC W (fun xs H Q => ∃ i, xs = [.int i] ∧ Q (.int (if i < 0 then -i else i)) H) [.dat (.int i)] env P px := fun σ B H0 H O _ _ vs hv Q q => by
  obtain ⟨v, rfl, hv1⟩ := hv.one
  cases hv1
  exact ⟨i, rfl, q _ _ env H0 H p (.refl O) (.int _)⟩
theorem wc_max2 {i j : Int} (p : P (.dat (.int (if j > i then j else i))) env) : wpC W (fun xs H Q => ∃ i j, xs = [.int i, .int j] ∧ Q (.int (if j > i then j else i)) H) [.dat (.int i), .dat (.int j)] env P px := fun σ B H0 H O _ _ vs hv Q q => by
  obtain ⟨v, w, rfl, hv1, hw1⟩ := hv.two
  cases hv1; cases hw1
  exact ⟨i, j, rfl, q _ _ env H0 H p (.refl O) (.int _)⟩
theorem wc_min2 {i j : Int} (p : P (.dat (.int (if j < i then j else i))) env) : wpC W (fun xs H Q => ∃ i j, xs = [.int i, .int j] ∧ Q (.int (if j < i then j else i)) H) [.dat (.int i), .dat (.int j)] env P px := fun σ B H0 H O _ _ vs hv Q q => by
  obtain ⟨v, w, rfl, hv1, hw1⟩ := hv.two
  cases hv1; cases hw1
  exact ⟨i, j, rfl, q _ _ env H0 H p (.refl O) (.int _)⟩
theorem laid_tup {m : Nat} {vs : List V} {a : Addr} (O : Ok env σ H0 H) (h : DdAll H0 vs ds) (ha : H a = none) : Stp m env σ H0 H env (upd H0 a (.tup vs)) (upd H a (.tup vs)) ∧ Dd (upd H0 a (.tup vs)) (.ref a) (.tup ds) := by
  have e0 : Same H0 (upd H0 a (.tup vs)) := fun b u e => by
    rw [upd_ne (ne_of_none e (O.same.free ha))]
    exact e
  exact ⟨.laid O ha, .tup upd_same (h.mono e0)⟩
theorem wc_tuple (l : SeqR env r ds) (p : P (.dat (.tup ds)) env) : wpC W (fun xs H Q => ∃ p ys, xs = [.ref p] ∧ ((SqL W.K H p ys ∧ ∀ l, H l = none → Q (.ref l) (upd H l (.tup ys))) ∨ (SqT W.K H p ys ∧ Q (.ref p) H))) [r] env P px := fun σ B H0 H O _ _ vs hv Q q => by
  obtain ⟨v, rfl, hv1⟩ := hv.one
  have new : ∀ (a : Addr) (ws : List V), v = .ref a → DdAll H0 ws ds → H a = some (.lst ws) → (∃ p ys, [v] = [V.ref p] ∧ ((SqL W.K H p ys ∧ ∀ l, H l = none → Q (.ref l) (upd H l (.tup ys))) ∨ (SqT W.K H p ys ∧ Q (.ref p) H))) := fun a ws e h1 h2 => by
    subst e
    refine ⟨a, ws, rfl, .inl ⟨SqL.of h2, fun x hx => ?_⟩⟩
    obtain ⟨S, d⟩ := laid_tup (m := W.m) O h1 hx
    exact q _ _ env _ _ p S d
  cases l with
  | tup =>
    obtain ⟨a, ws, rfl, q1, q2⟩ := Dd.tup_inv hv1
    exact ⟨a, ws, rfl, .inr ⟨SqT.of (O.same _ _ q1), q _ _ env H0 H p (.refl O) (.tup q1 q2)⟩⟩
  | lst =>
    obtain ⟨a, ws, e, h1, h2⟩ := LstR.get O (.lst ds) hv1
    exact new a ws e h1 h2
  | own =>
    obtain ⟨a, ws, e, h1, h2⟩ := LstR.get O (.own ds) hv1
    exact new a ws e h1 h2
  | al i _ z =>
    obtain ⟨a, ws, e, h1, h2⟩ := LstR.get O (.al i ds z) hv1
    exact new a ws e h1 h2
theorem wc_list (l : SeqR env r ds) (p : P (.own (.lst ds)) env) : wpC W (fun xs H Q => ∃ p ys, xs = [.ref p] ∧ (SqL W.K H p ys ∨ SqT W.K H p ys) ∧ ∀ l, H l = none → Q (.ref l) (upd H l (.lst ys))) [r] env P px := fun σ B H0 H O _ hB vs hv Q q => by
  obtain ⟨v, rfl, hv1⟩ := hv.one
  obtain ⟨a, ws, rfl, q2, q1⟩ := l.get O hv1
  refine ⟨a, ws, rfl, ?_, fun x hx => ?_⟩
  · rcases q1 with q1 | q1
    · exact .inl (SqL.of q1)
    · exact .inr (SqT.of q1)
  · exact q _ _ env _ _ p (.tmp O hx) ⟨rfl, x, _, rfl, O.same.free hx, upd_same, ⟨_, rfl, q2⟩, hB x hx, fun z => (O.owned z).2 hx⟩
theorem wc_all {bs : List Bool} (l : LstR env r (bs.map D.bl)) (p : P (.dat (.bl (bs.all id))) env) : wpC W (rAll W.K) [r] env P px := fun σ B H0 H O _ _ vs hv Q q => by
  obtain ⟨v, rfl, hv1⟩ := hv.one
  obtain ⟨a, ws, rfl, q2, q1⟩ := l.get O hv1
  have e := q2.bls
  subst e
  exact ⟨a, bs, rfl, SqL.of q1, q _ _ env H0 H p (.refl O) (.bl _)⟩
theorem wc_any {bs : List Bool} (l : LstR env r (bs.map D.bl)) (p : P (.dat (.bl (bs.any id))) env) : wpC W (rAny W.K) [r] env P px := fun σ B H0 H O _ _ vs hv Q q => by
  obtain ⟨v, rfl, hv1⟩ := hv.one
  obtain ⟨a, ws, rfl, q2, q1⟩ := l.get O hv1
  have e := q2.bls
  subst e
  exact ⟨a, bs, rfl, SqL.of q1, q _ _ env H0 H p (.refl O) (.bl _)⟩
/-- the built-in type of a thing -/
def D.tn : D → String
  | .non => "NoneType" | .bl _ => "bool" | .int _ => "int" | .str _ => "str" | .tup _ => "tuple" | .lst _ => "list"
  | _ => "type"
def D.pl : D → Bool
  | .ins _ _ => false | .ty _ => false | .cls _ => false
  | _ => true
end
end Nw

set_option Elab.async false
set_option linter.all false
set_option maxRecDepth 100000
set_option maxHeartbeats 1000000
namespace Nw
open PySem PySem.Spec PyProof.Rows L2
/-! ### isinstance -/
def D.isI : D → Bool | .int _ => true | .bl _ => true | _ => false
def D.isB : D → Bool | .bl _ => true | _ => false
def D.isT : D → Bool | .tup _ => true | _ => false
def D.isL : D → Bool | .lst _ => true | _ => false
def D.isS : D → Bool | .str _ => true | _ => false
theorem kb_int : ∀ d : D, d.pl = true → kitB d.tn "int" = some d.isI
  | .non, _ => (show kitB "NoneType" "int" = some false by decide +kernel)
  | .bl _, _ => (show kitB "bool" "int" = some true by decide +kernel)
  | .int _, _ => (show kitB "int" "int" = some true by decide +kernel)
  | .str _, _ => (show kitB "str" "int" = some false by decide +kernel)
  | .tup _, _ => (show kitB "tuple" "int" = some false by decide +kernel)
  | .lst _, _ => (show kitB "list" "int" = some false by decide +kernel)
  | .ins _ _, h => by cases h
  | .ty _, h => by cases h
  | .cls _, h => by cases h
theorem kb_bool : ∀ d : D, d.pl = true → kitB d.tn "bool" = some d.isB
  | .non, _ => (show kitB "NoneType" "bool" = some false by decide +kernel)
  | .bl _, _ => (show kitB "bool" "bool" = some true by decide +kernel)
  | .int _, _ => (show kitB "int" "bool" = some false by decide +kernel)
  | .str _, _ => (show kitB "str" "bool" = some false by decide +kernel)
  | .tup _, _ => (show kitB "tuple" "bool" = some false by decide +kernel)
  | .lst _, _ => (show kitB "list" "bool" = some false by decide +kernel)
  | .ins _ _, h => by cases h
  | .ty _, h => by cases h
  | .cls _, h => by cases h
theorem kb_tuple : ∀ d : D, d.pl = true → kitB d.tn "tuple" = some d.isT
  | .non, _ => (show kitB "NoneType" "tuple" = some false by decide +kernel)
  | .bl _, _ => (show kitB "bool" "tuple" = some false by decide +kernel)
  | .int _, _ => (show kitB "int" "tuple" = some false by decide +kernel)
  | .str _, _ => (show kitB "str" "tuple" = some false by decide +kernel)
  | .tup _, _ => (show kitB "tuple" "tuple" = some true by decide +kernel)
  | .lst _, _ => (show kitB "list" "tuple" = some false by decide +kernel)
  | .ins _ _, h => by cases h
  | .ty _, h => by cases h
  | .cls _, h => by cases h
theorem kb_list : ∀ d : D, d.pl = true → kitB d.tn "list" = some d.isL
  | .non, _ => (show kitB "NoneType" "list" = some false by decide +kernel)
  | .bl _, _ => (show kitB "bool" "list" = some false by decide +kernel)
  | .int _, _ => (show kitB "int" "list" = some false by decide +kernel)
  | .str _, _ => (show kitB "str" "list" = some false by decide +kernel)
  | .tup _, _ => (show kitB "tuple" "list" = some false by decide +kernel)
  | .lst _, _ => (show kitB "list" "list" = some true by decide +kernel)
  | .ins _ _, h => by cases h
  | .ty _, h => by cases h
  | .cls _, h => by cases h
theorem kb_str : ∀ d : D, d.pl = true → kitB d.tn "str" = some d.isS
  | .non, _ => (show kitB "NoneType" "str" = some false by decide +kernel)
  | .bl _, _ => (show kitB "bool" "str" = some false by decide +kernel)
  | .int _, _ => (show kitB "int" "str" = some false by decide +kernel)
  | .str _, _ => (show kitB "str" "str" = some true by decide +kernel)
  | .tup _, _ => (show kitB "tuple" "str" = some false by decide +kernel)
  | .lst _, _ => (show kitB "list" "str" = some false by decide +kernel)
  | .ins _ _, h => by cases h
  | .ty _, h => by cases h
  | .cls _, h => by cases h
theorem Dd.tyX {K : PySem.W.Frag} {H : Hp} {v : V} {d : D} (h : Dd H v d) (hp : d.pl = true) : TyX K H v (.type d.tn) := by
  cases h with
  | non => exact .base .non
  | bl b => exact .base (.bl b)
  | int i => exact .base (.int i)
  | str s => exact .base (.str s)
  | tup e _ => exact .base (.tup e)
  | lst e _ => exact .base (.lst e)
  | ins _ _ => cases hp
  | ty _ => cases hp
  | cls _ => cases hp
section
variable {W : Wo} {env : List Cell} {P : PR} {px : PX} {ta tb tc te : TE} {t u : TT} {B H0 H : Hp} {σ : L2.St} {v : V} {r : Res} {ds es : List D}
theorem wc_isi {d : D} {n : String} {b : Bool} (hp : d.pl = true) (hb : kitB d.tn n = some b) (p : P (.dat (.bl b)) env) : wpC W (rIsi W.K) [.dat d, .dat (.ty n)] env P px := fun σ B H0 H O _ _ vs hv Q q => by
  obtain ⟨v, w, rfl, h1, h2⟩ := hv.two
  cases h2
  have h1 : Dd H0 v d := h1
  exact ⟨v, _, _, _, b, rfl, .ty n, (h1.mono O.same).tyX hp, kit_ty hb, q _ _ env H0 H p (.refl O) (.bl _)⟩
theorem wc_isInt {d : D} (hp : d.pl = true) (p : P (.dat (.bl d.isI)) env) : wpC W (rIsi W.K) [.dat d, .dat (.ty "int")] env P px := wc_isi hp (kb_int d hp) p
theorem wc_isBool {d : D} (hp : d.pl = true) (p : P (.dat (.bl d.isB)) env) : wpC W (rIsi W.K) [.dat d, .dat (.ty "bool")] env P px := wc_isi hp (kb_bool d hp) p
theorem wc_isTuple {d : D} (hp : d.pl = true) (p : P (.dat (.bl d.isT)) env) : wpC W (rIsi W.K) [.dat d, .dat (.ty "tuple")] env P px := wc_isi hp (kb_tuple d hp) p
theorem wc_isStr {d : D} (hp : d.pl = true) (p : P (.dat (.bl d.isS)) env) : wpC W (rIsi W.K) [.dat d, .dat (.ty "str")] env P px := wc_isi hp (kb_str d hp) p
theorem wc_isList {d : D} (hp : d.pl = true) (p : P (.dat (.bl d.isL)) env) : wpC W (rIsi W.K) [.dat d, .dat (.ty "list")] env P px := wc_isi hp (kb_list d hp) p
/-- isinstance(value, (list, tuple)), (tuple, list) -/
theorem wc_isLT {d : D} (hp : d.pl = true) (p : P (.dat (.bl (d.isL || d.isT))) env) : wpC W (rIsiT W.K) [.dat d, .dat (.tup [.ty "list", .ty "tuple"])] env P px := fun σ B H0 H O _ _ vs hv Q q => by
  obtain ⟨v, w, rfl, h1, h2⟩ := hv.two
  obtain ⟨a, cs, rfl, q1, q2⟩ := Dd.tup_inv h2
  have h1 : Dd H0 v d := h1
  cases q2 with
  | cons c1 q2 =>
    cases q2 with
    | cons c2 q2 =>
      cases q2
      cases c1
      cases c2
      refine ⟨v, a, _, _, _, d.isL || d.isT, rfl, O.same _ _ q1, .cons (.ty _) (.cons (.ty _) .nil), (h1.mono O.same).tyX hp, ?_, q _ _ env H0 H p (.refl O) (.bl _)⟩
      refine kitAny_cons (kit_ty (kb_list d hp)) (fun e => ?_) (fun e => by rw [e]; rfl)
      rw [e, Bool.false_or]
      refine kitAny_cons (kit_ty (kb_tuple d hp)) (fun e2 => ?_) (fun e2 => e2)
      rw [e2]
      exact kitAny_nil
theorem wc_isTL {d : D} (hp : d.pl = true) (p : P (.dat (.bl (d.isT || d.isL))) env) : wpC W (rIsiT W.K) [.dat d, .dat (.tup [.ty "tuple", .ty "list"])] env P px := fun σ B H0 H O _ _ vs hv Q q => by
  obtain ⟨v, w, rfl, h1, h2⟩ := hv.two
  obtain ⟨a, cs, rfl, q1, q2⟩ := Dd.tup_inv h2
  have h1 : Dd H0 v d := h1
  cases q2 with
  | cons c1 q2 =>
    cases q2 with
    | cons c2 q2 =>
      cases q2
      cases c1
      cases c2
      refine ⟨v, a, _, _, _, d.isT || d.isL, rfl, O.same _ _ q1, .cons (.ty _) (.cons (.ty _) .nil), (h1.mono O.same).tyX hp, ?_, q _ _ env H0 H p (.refl O) (.bl _)⟩
      refine kitAny_cons (kit_ty (kb_tuple d hp)) (fun e => ?_) (fun e => by rw [e]; rfl)
      rw [e, Bool.false_or]
      refine kitAny_cons (kit_ty (kb_list d hp)) (fun e2 => ?_) (fun e2 => e2)
      rw [e2]
      exact kitAny_nil
theorem wp_ty {n : String} (p : P (.dat (.ty n)) env) : wpE W (tC (.ty n)) env P px := wp_c (fun _ => .ty n) p

/-! ### tests, choices -/
theorem wp_tB {P : Bool → List Cell → Prop} (h : wpE W te env (fun r env1 => ∃ b, r = .dat (.bl b) ∧ P b env1) px) : wpT W (tB te) env P px := fun σ H0 H O X Q q =>
  h σ H0 H O X _ fun v r env1 A0 A ⟨b, e, p⟩ S w => by
    subst e
    exact ⟨b, Dd.bl_inv w, q b env1 A0 A p S⟩
theorem wp_tTest {P : Bool → List Cell → Prop} (h : wpE W te env (fun r env1 => ∃ b, r = .dat (.bl b) ∧ P b env1) px) : wpT W (tTest te) env P px := wp_tB h
theorem wp_and {P : Bool → List Cell → Prop} (h : wpT W t env (fun b env1 => (b = true → wpT W u env1 P px) ∧ (b = false → P false env1)) px) : wpT W (tAnd t u) env P px := fun σ H0 H O X Q q =>
  h σ H0 H O X _ fun b env1 A0 A ⟨h1, h2⟩ S => by
    cases b with
    | true => exact h1 rfl σ A0 A S.ok (X.go S.go) Q fun c env2 B0 B p S2 => q c env2 B0 B p (S.trans S2)
    | false => exact q false env1 A0 A (h2 rfl) S
theorem wp_or {P : Bool → List Cell → Prop} (h : wpT W t env (fun b env1 => (b = true → P true env1) ∧ (b = false → wpT W u env1 P px)) px) : wpT W (tOr t u) env P px := fun σ H0 H O X Q q =>
  h σ H0 H O X _ fun b env1 A0 A ⟨h1, h2⟩ S => by
    cases b with
    | false => exact h2 rfl σ A0 A S.ok (X.go S.go) Q fun c env2 B0 B p S2 => q c env2 B0 B p (S.trans S2)
    | true => exact q true env1 A0 A (h1 rfl) S
theorem wp_not {P : Bool → List Cell → Prop} (h : wpT W t env (fun b env1 => P (!b) env1) px) : wpT W (tNot t) env P px := fun σ H0 H O X Q q =>
  h σ H0 H O X _ fun b env1 A0 A p S => q (!b) env1 A0 A p S
theorem wp_andV (h : wpE W ta env (fun r env1 => ∃ b, r = .dat (.bl b) ∧ (b = true → wpE W tb env1 P px) ∧ (b = false → P (.dat (.bl false)) env1)) px) : wpE W (tAndV ta tb) env P px := fun σ H0 H O X Q q =>
  h σ H0 H O X _ fun v r env1 A0 A ⟨b, e, h1, h2⟩ S w => by
    subst e
    refine ⟨b, Dd.bl_inv w, ?_⟩
    cases b with
    | true => exact h1 rfl σ A0 A S.ok (X.go S.go) Q fun v c env2 B0 B p S2 w => q v c env2 B0 B p (S.trans S2) (w.base fun l z => S.back z)
    | false => exact q _ _ env1 A0 A (h2 rfl) S (.bl _)
theorem wp_orV (h : wpE W ta env (fun r env1 => ∃ b, r = .dat (.bl b) ∧ (b = true → P (.dat (.bl true)) env1) ∧ (b = false → wpE W tb env1 P px)) px) : wpE W (tOrV ta tb) env P px := fun σ H0 H O X Q q =>
  h σ H0 H O X _ fun v r env1 A0 A ⟨b, e, h1, h2⟩ S w => by
    subst e
    refine ⟨b, Dd.bl_inv w, ?_⟩
    cases b with
    | false => exact h2 rfl σ A0 A S.ok (X.go S.go) Q fun v c env2 B0 B p S2 w => q v c env2 B0 B p (S.trans S2) (w.base fun l z => S.back z)
    | true => exact q _ _ env1 A0 A (h1 rfl) S (.bl _)
theorem wp_notV (h : wpE W ta env (fun r env1 => ∃ b, r = .dat (.bl b) ∧ P (.dat (.bl (!b))) env1) px) : wpE W (tNotV ta) env P px := fun σ H0 H O X Q q =>
  h σ H0 H O X _ fun v r env1 A0 A ⟨b, e, p⟩ S w => by
    subst e
    exact ⟨b, Dd.bl_inv w, q _ _ env1 A0 A p S (.bl _)⟩
theorem wp_ifE (h : wpT W t env (fun b env1 => (b = true → wpE W ta env1 P px) ∧ (b = false → wpE W tb env1 P px)) px) : wpE W (tIf t ta tb) env P px := fun σ H0 H O X Q q =>
  h σ H0 H O X _ fun b env1 A0 A ⟨h1, h2⟩ S => by
    cases b with
    | true => exact h1 rfl σ A0 A S.ok (X.go S.go) Q fun v c env2 B0 B p S2 w => q v c env2 B0 B p (S.trans S2) (w.base fun l z => S.back z)
    | false => exact h2 rfl σ A0 A S.ok (X.go S.go) Q fun v c env2 B0 B p S2 w => q v c env2 B0 B p (S.trans S2) (w.base fun l z => S.back z)
/-- a op b op2 c -/
theorem wp_chain {f g : R2} (h : wpE W ta env (fun x env1 => wpE W tb env1 (fun y env2 => wpO W f x y env2 (fun z env3 => ∃ b, z = .dat (.bl b) ∧ (b = true → wpE W tc env3 (fun w env4 => wpO W g y w env4 P px) px) ∧ (b = false → P (.dat (.bl false)) env3)) px) px) px) :
    wpE W (tChain f g ta tb tc) env P px := fun σ H0 H O X Q q =>
  h σ H0 H O X _ fun v x env1 A0 A h1 s1 v1 => h1 σ A0 A s1.ok (X.go s1.go) _ fun w y env2 B0 B h2 s2 v2 =>
    h2 σ H B0 B s2.ok (X.go (s1.trans s2).go) (fun l z => s1.back (s2.back z)) v w (v1.stp s2) (v2.base fun l z => s1.back z) _ fun z rz env3 C0 C ⟨b, e, k1, k2⟩ s3 v3 => by
      subst e
      refine ⟨b, Dd.bl_inv v3, ?_⟩
      have S3 := (s1.trans s2).trans s3
      cases b with
      | false => exact q _ _ env3 C0 C (k2 rfl) S3 (.bl _)
      | true =>
        exact k1 rfl σ C0 C S3.ok (X.go S3.go) _ fun v5 r5 env4 D0 D h4 s4 v4 => h4 σ H D0 D s4.ok (X.go (S3.trans s4).go) (fun l z => S3.back (s4.back z)) w v5 (((v2.base fun l z => s1.back z).stp s3).stp s4) (v4.base fun l z => S3.back z) Q
          fun u r env' E0 E p s6 v6 => q u r env' E0 E p ((S3.trans s4).trans s6) v6

/-! ### slices -/
def cutD (ds : List D) (lo hi : Option Int) : List D := (ds.drop (HT.sIx ds.length 0 lo)).take (HT.sIx ds.length ds.length hi - HT.sIx ds.length 0 lo)
theorem DdAll.cut {vs : List V} (h : DdAll H vs ds) (lo hi : Option Int) : DdAll H (cutV vs lo hi) (cutD ds lo hi) := by
  unfold cutV cutD
  rw [h.len]
  exact (h.drop _).take _
def wpP (W : Wo) (t : L2.TO) (env : List Cell) (P : Option Int → List Cell → Prop) (px : PX) : Prop := ∀ (σ : L2.St) (H0 H : Hp), Ok env σ H0 H → ErrOk W px env σ H0 H → ∀ Q : Option Int → Hp → Prop,
  (∀ o env' H0' H', P o env' → Stp W.m env σ H0 H env' H0' H' → Q o H') → t σ H Q
theorem wp_noPart {P : Option Int → List Cell → Prop} (p : P none env) : wpP W tNoPart env P px := fun σ H0 H O _ Q q => q none env H0 H p (.refl O)
theorem wp_part {P : Option Int → List Cell → Prop} (h : wpE W te env (fun r env1 => ∃ i, r = .dat (.int i) ∧ P (some i) env1) px) : wpP W (tPart te) env P px := fun σ H0 H O X Q q =>
  h σ H0 H O X _ fun v r env1 A0 A ⟨i, e, p⟩ S w => by
    subst e
    exact ⟨i, Dd.int_inv w, q _ env1 A0 A p S⟩
theorem wp_slT {tl th : L2.TO} (h : wpE W te env (fun r env1 => ∃ ds, r = .dat (.tup ds) ∧ wpP W tl env1 (fun lo env2 => wpP W th env2 (fun hi env3 => P (.dat (.tup (cutD ds lo hi))) env3) px) px) px) : wpE W (tSl (rSlA W.K) te tl th) env P px := fun σ H0 H O X Q q =>
  h σ H0 H O X _ fun v r env1 A0 A ⟨ds, e, h1⟩ S w => by
    subst e
    refine h1 σ A0 A S.ok (X.go S.go) _ fun lo env2 B0 B h2 S2 => h2 σ B0 B S2.ok (X.go (S.trans S2).go) _ fun hi env3 C0 C p S3 => ?_
    obtain ⟨a, vs, rfl, q1, q2⟩ := Dd.tup_inv ((w.stp S2).stp S3)
    refine ⟨a, vs, rfl, SqT.of (S3.ok.same _ _ q1), fun hw => ?_, fun _ x hx => ?_⟩
    · have e : cutD ds lo hi = ds := by
        unfold cutD
        rw [← q2.len, hw.1, hw.2, List.drop_zero, Nat.sub_zero, q2.len, List.take_length]
      have p' : P (.dat (.tup (cutD ds lo hi))) env3 := p
      rw [e] at p'
      exact q _ _ env3 C0 C p' ((S.trans S2).trans S3) (.tup q1 q2)
    · obtain ⟨S4, d⟩ := laid_tup (m := W.m) S3.ok (q2.cut lo hi) hx
      exact q _ _ env3 _ _ p (((S.trans S2).trans S3).trans S4) d
theorem wp_slL {tl th : L2.TO} (h : wpE W te env (fun r env1 => wpP W tl env1 (fun lo env2 => wpP W th env2 (fun hi env3 => ∃ ds, LstR env3 r ds ∧ P (.own (.lst (cutD ds lo hi))) env3) px) px) px) : wpE W (tSl (rSlL W.K) te tl th) env P px := fun σ H0 H O X Q q =>
  h σ H0 H O X _ fun v r env1 A0 A h1 S w => by
    refine h1 σ A0 A S.ok (X.go S.go) _ fun lo env2 B0 B h2 S2 => h2 σ B0 B S2.ok (X.go (S.trans S2).go) _ fun hi env3 C0 C ⟨ds, l, p⟩ S3 => ?_
    obtain ⟨a, vs, rfl, q2, q1⟩ := l.get S3.ok ((w.stp S2).stp S3)
    refine ⟨a, vs, rfl, SqL.of q1, fun x hx => ?_⟩
    have ST := (S.trans S2).trans S3
    exact q _ _ env3 _ _ p (ST.trans (.tmp S3.ok hx)) ⟨rfl, x, _, rfl, S3.ok.same.free hx, upd_same, ⟨_, rfl, q2.cut lo hi⟩, ST.back hx, fun z => (S3.ok.owned z).2 hx⟩
end

/-! ### statements -/
structure De where
  nx : List Cell → Prop
  rt : Res → List Cell → Prop
  bk : List Cell → Prop := fun _ => False
  ct : List Cell → Prop := fun _ => False
structure EndsOk (W : Wo) (d : De) (D : Ends) (env : List Cell) (σ : L2.St) (H0 H : Hp) : Prop where
  nx : ∀ env' σ' H0' H', d.nx env' → Ok env' σ' H0' H' → Go W.m env σ H0 H env' σ' H0' H' → D.nx σ' H'
  rt : ∀ v r env' σ' H0' H', d.rt r env' → Ok env' σ' H0' H' → Go W.m env σ H0 H env' σ' H0' H' → VAL H env' σ' H0' H' v r → D.rt v H'
  bk : ∀ env' σ' H0' H', d.bk env' → Ok env' σ' H0' H' → Go W.m env σ H0 H env' σ' H0' H' → D.bk σ' H'
  ct : ∀ env' σ' H0' H', d.ct env' → Ok env' σ' H0' H' → Go W.m env σ H0 H env' σ' H0' H' → D.ct σ' H'
theorem Go.back {m : Nat} {env env' : List Cell} {σ σ' : L2.St} {H0 H H0' H' : Hp} (g : Go m env σ H0 H env' σ' H0' H') {l : Addr} (h : H' l = none) : H l = none := Classical.byContradiction fun z => g.al l z h
theorem EndsOk.go {W : Wo} {d : De} {D : Ends} {env env' : List Cell} {σ σ' : L2.St} {H0 H H0' H' : Hp} (h : EndsOk W d D env σ H0 H) (g : Go W.m env σ H0 H env' σ' H0' H') : EndsOk W d D env' σ' H0' H' :=
  ⟨fun e s A0 A p o k => h.nx e s A0 A p o (g.trans k), fun v r e s A0 A p o k w => h.rt v r e s A0 A p o (g.trans k) (w.base fun l z => g.back z), fun e s A0 A p o k => h.bk e s A0 A p o (g.trans k), fun e s A0 A p o k => h.ct e s A0 A p o (g.trans k)⟩
def wpS (W : Wo) (t : TS) (env : List Cell) (d : De) (px : PX) : Prop := ∀ (σ : L2.St) (H0 H : Hp), Ok env σ H0 H → ErrOk W px env σ H0 H → ∀ D : Ends, EndsOk W d D env σ H0 H → t D σ H
section
variable {W : Wo} {env : List Cell} {px : PX} {ta tb tc te : TE} {c : TT} {t u : TS} {d : De} {ds es : List D}
theorem ws_seq (h : wpS W t env { d with nx := fun env1 => wpS W u env1 d px } px) : wpS W (tSeq t u) env d px := fun σ H0 H O X D e =>
  h σ H0 H O X _ ⟨fun env' σ' H0' H' p o g => p σ' H0' H' o (X.go g) D (e.go g), e.rt, e.bk, e.ct⟩
theorem ws_next (p : d.nx env) : wpS W tNext env d px := fun σ H0 H O X D e => e.nx env σ H0 H p O .refl
theorem ws_brk (p : d.bk env) : wpS W tBreak env d px := fun σ H0 H O X D e => e.bk env σ H0 H p O .refl
theorem ws_cont (p : d.ct env) : wpS W tCont env d px := fun σ H0 H O X D e => e.ct env σ H0 H p O .refl
theorem ws_ret (h : wpE W te env d.rt px) : wpS W (tRet te) env d px := fun σ H0 H O X D e =>
  h σ H0 H O X _ fun v r env' A0 A p S w => e.rt v r env' σ A0 A p S.ok S.go w
theorem ws_retN (p : d.rt (.dat .non) env) : wpS W tRetN env d px := fun σ H0 H O X D e => e.rt .non _ env σ H0 H p O .refl .non
theorem ws_if (h : wpT W c env (fun b env1 => (b = true → wpS W t env1 d px) ∧ (b = false → wpS W u env1 d px)) px) : wpS W (tIfS c t u) env d px := fun σ H0 H O X D e =>
  h σ H0 H O X _ fun b env1 A0 A ⟨h1, h2⟩ S => by
    cases b with
    | true => exact h1 rfl σ A0 A S.ok (X.go S.go) D (e.go S.go)
    | false => exact h2 rfl σ A0 A S.ok (X.go S.go) D (e.go S.go)
theorem ws_drop (h : wpE W te env (fun _ env1 => d.nx env1) px) : wpS W (tDrop te) env d px := fun σ H0 H O X D e =>
  h σ H0 H O X _ fun v r env' A0 A p S w => e.nx env' σ A0 A p S.ok S.go
/-- the cells behind a store of r in slot i -/
def putR (i : Nat) : Res → List Cell → List Cell
  | .dat d, env => env.set i (.dat d)
  | .own c, env => env.set i c
  | .al j, env => match env[j]? with
    | some c => (env.set j .non).set i c
    | none => env
theorem Ok.put {m : Nat} {σ : L2.St} {B H0 H : Hp} {v : V} {r : Res} {i : Nat} (O : Ok env σ H0 H) (w : VAL B env σ H0 H v r) (hi : i < env.length) (hm : m ≤ i) (hB : ∀ l, H l = none → B l = none) :
    Ok (putR i r env) (σ.set i (some v)) H0 H ∧ (∀ l, Owned (putR i r env) (σ.set i (some v)) l → Owned env σ l ∨ B l = none) ∧ ∀ k, k < m → (σ.set i (some v))[k]? = σ[k]? := by
  have hs : i < σ.length := by rw [O.len]; exact hi
  have fx : ∀ k, k < m → (σ.set i (some v))[k]? = σ[k]? := fun k hk => List.getElem?_set_ne (by omega)
  -- the shape: env' at i is c, elsewhere env or .non
  have main : ∀ (env1 : List Cell) (c : Cell), env1.length = env.length → (∀ k x, k ≠ i → env1[k]? = some x → x = .non ∨ env[k]? = some x) → SlotOk H0 H (some (some v)) c →
      (c.own = true → ∀ l, v = .ref l → ∀ k, k ≠ i → ¬ Owns env1 σ k l) → (c.own = true → ∀ l, v = .ref l → Owned env σ l ∨ B l = none) →
      Ok (env1.set i c) (σ.set i (some v)) H0 H ∧ (∀ l, Owned (env1.set i c) (σ.set i (some v)) l → Owned env σ l ∨ B l = none) ∧ ∀ k, k < m → (σ.set i (some v))[k]? = σ[k]? := by
    intro env1 c hl hk hc hap hown
    have hi1 : i < env1.length := by rw [hl]; exact hi
    have other : ∀ k l, k ≠ i → Owns (env1.set i c) (σ.set i (some v)) k l → Owns env1 σ k l := fun k l hn ⟨x, q1, q2, q3⟩ => by
      rw [List.getElem?_set_ne (Ne.symm hn)] at q1 q3
      exact ⟨x, q1, q2, q3⟩
    have other2 : ∀ k l, k ≠ i → Owns env1 σ k l → Owns env σ k l := fun k l hn ⟨x, q1, q2, q3⟩ => by
      rcases hk k x hn q1 with z | z
      · subst z
        cases q2
      · exact ⟨x, z, q2, q3⟩
    have atI_ : ∀ l, Owns (env1.set i c) (σ.set i (some v)) i l → c.own = true ∧ v = .ref l := fun l ⟨x, q1, q2, q3⟩ => by
      rw [List.getElem?_set_self hi1] at q1
      injection q1 with q1
      subst q1
      rw [List.getElem?_set_self hs] at q3
      injection q3 with q3
      injection q3 with q3
      exact ⟨q2, q3⟩
    refine ⟨⟨by rw [List.length_set, List.length_set, hl]; exact O.len, O.same, fun k x e => ?_, fun j k l h1 h2 => ?_⟩, fun l ⟨k, h⟩ => ?_, fx⟩
    · by_cases z : k = i
      · subst z
        rw [List.getElem?_set_self hi1] at e
        injection e with e
        subst e
        rw [List.getElem?_set_self hs]
        exact hc
      · rw [List.getElem?_set_ne (Ne.symm z)] at e ⊢
        rcases hk k x z e with q | q
        · subst q
          trivial
        · exact O.slot k x q
    · by_cases z1 : j = i
      · by_cases z2 : k = i
        · rw [z1, z2]
        · subst z1
          obtain ⟨a1, a2⟩ := atI_ l h1
          exact absurd (other k l z2 h2) (hap a1 l a2 k z2)
      · by_cases z2 : k = i
        · subst z2
          obtain ⟨a1, a2⟩ := atI_ l h2
          exact absurd (other j l z1 h1) (hap a1 l a2 j z1)
        · exact O.apart j k l (other2 j l z1 (other j l z1 h1)) (other2 k l z2 (other k l z2 h2))
    · by_cases z : k = i
      · subst z
        obtain ⟨a1, a2⟩ := atI_ l h
        exact hown a1 l a2
      · exact .inl ⟨k, other2 k l z (other k l z h)⟩
  cases r with
  | dat d =>
    exact main env (.dat d) rfl (fun k x _ e => .inr e) ⟨v, rfl, w⟩ (fun h => by cases h) (fun h => by cases h)
  | own c =>
    obtain ⟨hc, l, o, rfl, h0, h1, h2, h3, h4⟩ := w
    refine main env c rfl (fun k x _ e => .inr e) ((slot_own hc).mpr ⟨l, o, rfl, h0, h1, h2⟩) (fun _ l' e k _ z => ?_) (fun _ l' e => .inr ?_)
    · injection e with e
      subst e
      exact h4 ⟨k, z⟩
    · injection e with e
      subst e
      exact h3
  | al j =>
    obtain ⟨l, rfl, c, q1, q2, q3⟩ := w
    have e : putR i (.al j) env = (env.set j .non).set i c := by
      show (match env[j]? with
        | some c => (env.set j .non).set i c
        | none => env) = _
      rw [q1]
    rw [e]
    obtain ⟨l', o, z1, z2, z3, z4⟩ := (slot_own q2).mp (O.slot j c q1)
    rw [q3] at z1
    injection z1 with z1
    injection z1 with z1
    injection z1 with z1
    subst z1
    refine main (env.set j .non) c (by rw [List.length_set]) (fun k x _ e => ?_) ((slot_own q2).mpr ⟨l, o, rfl, z2, z3, z4⟩) (fun _ l' e k hk z => ?_) (fun _ l' e => .inl ?_)
    · by_cases z : k = j
      · subst z
        have hj : k < env.length := (List.getElem?_eq_some_iff.mp q1).1
        rw [List.getElem?_set_self hj] at e
        injection e with e
        exact .inl e.symm
      · rw [List.getElem?_set_ne (Ne.symm z)] at e
        exact .inr e
    · injection e with e
      subst e
      obtain ⟨x, y1, y2, y3⟩ := z
      by_cases zz : k = j
      · subst zz
        have hj : k < env.length := (List.getElem?_eq_some_iff.mp q1).1
        rw [List.getElem?_set_self hj] at y1
        injection y1 with y1
        subst y1
        cases y2
      · rw [List.getElem?_set_ne (Ne.symm zz)] at y1
        exact zz (O.apart k j l ⟨x, y1, y2, y3⟩ ⟨c, q1, q2, q3⟩)
    · injection e with e
      subst e
      exact ⟨j, c, q1, q2, q3⟩
theorem ws_asg {i : Nat} (hm : W.m ≤ i) (h : wpE W te env (fun r env1 => i < env1.length ∧ d.nx (putR i r env1)) px) : wpS W (tAsg te (gName i)) env d px := fun σ H0 H O X D e =>
  h σ H0 H O X _ fun v r env' A0 A ⟨hi, p⟩ S w => by
    obtain ⟨O2, ow, fx⟩ := S.ok.put w hi hm (fun l z => S.back z)
    refine e.nx _ _ A0 A p O2 ⟨S.go.k0, S.go.old, S.go.keep, S.go.al, fun l hl => ?_, fx⟩
    rcases ow l hl with q | q
    · exact S.go.ow l q
    · exact .inr q
end
end Nw

set_option Elab.async false
set_option linter.all false
set_option maxRecDepth 100000
set_option maxHeartbeats 1000000
namespace Nw
open PySem PySem.Spec PyProof.Rows L2
/-! ### targets -/
def wpG (W : Wo) (g : TG) (x : D) (env : List Cell) (P : List Cell → Prop) (px : PX) : Prop := ∀ (σ : L2.St) (H0 H : Hp) (v : V), Ok env σ H0 H → ErrOk W px env σ H0 H → Dd H0 v x → ∀ Q : L2.St → Hp → Prop,
  (∀ env' σ' H0' H', P env' → Ok env' σ' H0' H' → Go W.m env σ H0 H env' σ' H0' H' → Q σ' H') → g v σ H Q
def wpGs (W : Wo) (g : TGs) (xs : List D) (env : List Cell) (P : List Cell → Prop) (px : PX) : Prop := ∀ (σ : L2.St) (H0 H : Hp) (vs : List V), Ok env σ H0 H → ErrOk W px env σ H0 H → DdAll H0 vs xs → ∀ Q : L2.St → Hp → Prop,
  (∀ env' σ' H0' H', P env' → Ok env' σ' H0' H' → Go W.m env σ H0 H env' σ' H0' H' → Q σ' H') → g vs σ H Q
section
variable {W : Wo} {env : List Cell} {px : PX} {P : List Cell → Prop} {te to ti : TE} {ta : TA} {g : TG} {gs : TGs} {d : De} {t u tb : TS} {c : TT} {ds : List D} {x : D}
theorem wpG.imp {P' : List Cell → Prop} (h : wpG W g x env P px) (k : ∀ e, P e → P' e) : wpG W g x env P' px := fun σ H0 H v O X hv Q q => h σ H0 H v O X hv Q fun e s A0 A p => q e s A0 A (k e p)
theorem wg_name {i : Nat} (hm : W.m ≤ i) (hi : i < env.length) (p : P (env.set i (.dat x))) : wpG W (gName i) x env P px := fun σ H0 H v O X hv Q q => by
  obtain ⟨O2, ow, fx⟩ := Ok.put (B := H) (r := .dat x) O hv hi hm (fun l z => z)
  exact q _ _ H0 H p O2 ⟨Same.refl _, fun _ _ _ => rfl, fun _ _ h _ => h, fun _ h => h, ow, fx⟩
theorem wg_nil (p : P env) : wpGs W gNil [] env P px := fun σ H0 H vs O X hv Q q => by
  cases hv
  exact ⟨rfl, q env σ H0 H p O .refl⟩
theorem wg_cons (h : wpG W g x env (fun e => wpGs W gs ds e P px) px) : wpGs W (gCons g gs) (x :: ds) env P px := fun σ H0 H vs O X hv Q q => by
  cases hv with
  | cons h1 h2 => exact ⟨_, _, rfl, h σ H0 H _ O X h1 _ fun e s A0 A p O2 G => p s A0 A _ O2 (X.go G) (h2.mono G.k0) Q fun e2 s2 B0 B p2 O3 G2 => q e2 s2 B0 B p2 O3 (G.trans G2)⟩
theorem wg_tup {n : Nat} (hn : ds.length = n) (h : wpGs W gs ds env P px) : wpG W (gTup W.K n gs) (.tup ds) env P px := fun σ H0 H v O X hv Q q => by
  obtain ⟨a, vs, rfl, q1, q2⟩ := Dd.tup_inv hv
  exact ⟨a, vs, rfl, SqT.of (O.same _ _ q1), q2.len.trans hn, h σ H0 H vs O X q2 Q q⟩
/-- xs[i] = e -/
theorem wg_set (h : wpE W to env (fun ro env1 => ∃ k, ro = .al k ∧ wpE W ti env1 (fun ri env2 => ∃ (i : Int) (j : Nat) (ds : List D), ri = .dat (.int i) ∧ env2[k]? = some (.lst ds) ∧ ixN ds.length i = some j ∧ P (env2.set k (.lst (ds.set j x)))) px) px) :
    wpG W (gSub to ti rSetL) x env P px := fun σ H0 H v O X hv Q q =>
  h σ H0 H O X _ fun vo ro env1 A0 A ⟨k, e1, h1⟩ S w => by
    subst e1
    refine h1 σ A0 A S.ok (X.go S.go) _ fun vi ri env2 B0 B ⟨i, j, ds, e2, e3, e4, p⟩ S2 w2 => ?_
    subst e2
    obtain ⟨l, rfl, c, q1, q2, q3⟩ := w.stp S2
    rw [e3] at q1
    injection q1 with q1
    subst q1
    obtain ⟨l', o, z1, z2, z3, vs, rfl, z4⟩ := S2.ok.slot k _ e3
    rw [q3] at z1
    injection z1 with z1
    injection z1 with z1
    injection z1 with z1
    subst z1
    have ST := S.trans S2
    refine ⟨l, vs, i, j, rfl, Dd.int_inv w2, z3, by rw [z4.len]; exact e4, ?_⟩
    have S3 : Stp W.m env2 σ B0 B (env2.set k (.lst (ds.set j x))) B0 (upd B l (.lst (vs.set j v))) := .chg S2.ok e3 rfl q3 rfl ⟨_, rfl, z4.set (hv.mono ST.go.k0) j⟩
    exact q _ σ B0 _ p S3.ok (ST.trans S3).go
theorem ws_asgG (h : wpE W te env (fun r env1 => ∃ x, fz r = .dat x ∧ wpG W g x env1 d.nx px) px) : wpS W (tAsg te g) env d px := fun σ H0 H O X D e =>
  (wpE.fz (P := fun r env1 => ∃ x, r = .dat x ∧ wpG W g x env1 d.nx px) h) σ H0 H O X _ fun v r env1 A0 A ⟨x, ex, h1⟩ S w => by
    subst ex
    exact h1 σ A0 A v S.ok (X.go S.go) w _ fun e2 s2 B0 B p O2 G => e.nx e2 s2 B0 B p O2 (S.go.trans G)
/-- x = e, a list that never changes again -/
theorem ws_asgF {i : Nat} (hm : W.m ≤ i) (h : wpE W te env (fun r env1 => i < env1.length ∧ d.nx (putR i (fz r) env1)) px) : wpS W (tAsg te (gName i)) env d px :=
  ws_asg hm (wpE.fz (P := fun r env1 => i < env1.length ∧ d.nx (putR i r env1)) h)
theorem ws_aug {i : Nat} {f : Int → Int → Int} {a : Int} (hm : W.m ≤ i) (ha : env[i]? = some (.dat (.int a))) (h : wpE W te env (fun r env1 => ∃ b, r = .dat (.int b) ∧ i < env1.length ∧ d.nx (env1.set i (.dat (.int (f a b))))) px) :
    wpS W (tAug i te (ipI f)) env d px := fun σ H0 H O X D e => by
  obtain ⟨v, q1, q2⟩ := O.slot i _ ha
  cases q2
  refine ⟨_, q1, h σ H0 H O X _ fun w r env1 A0 A ⟨b, er, hi, p⟩ S wv => ?_⟩
  subst er
  have := Dd.int_inv wv
  subst this
  refine ⟨a, b, rfl, rfl, ?_⟩
  obtain ⟨O2, ow, fx⟩ := Ok.put (B := A) (r := .dat (.int (f a b))) S.ok (Dd.int (H := A0) (f a b)) hi hm (fun l z => z)
  exact e.nx _ _ A0 A p O2 (S.go.trans ⟨Same.refl _, fun _ _ _ => rfl, fun _ _ h _ => h, fun _ h => h, ow, fx⟩)

/-! ### loops -/
theorem Go.id (O : Ok env σ H0 H) : Go m env σ H0 H env σ H0 H := .refl
theorem ws_for_core {m : Nat} (I : Nat → List Cell → Prop) (n : Nat) (item : Nat → D) {A0 A : Hp} {σ : L2.St} {env1 : List Cell} (X : ErrOk W px env1 σ A0 A) (D : Ends) (e : EndsOk W d D env1 σ A0 A)
    (hs : ∀ i env', i < n → I i env' → wpG W g (item i) env' (fun env2 => wpS W tb env2 { nx := I (i + 1), rt := d.rt, bk := d.nx, ct := I (i + 1) } px) px)
    (i : Nat) (x : V) (σ' : L2.St) (H' : Hp) (hi : i < n) (p : ∃ env' H0', I i env' ∧ Ok env' σ' H0' H' ∧ Go W.m env1 σ A0 A env' σ' H0' H') (hx : ∀ H0', Same A0 H0' → Dd H0' x (item i)) :
    g x σ' H' fun σ2 H2 => tb { D with nx := fun σ3 H3 => ∃ env' H0', I (i + 1) env' ∧ Ok env' σ3 H0' H3 ∧ Go W.m env1 σ A0 A env' σ3 H0' H3, ct := fun σ3 H3 => ∃ env' H0', I (i + 1) env' ∧ Ok env' σ3 H0' H3 ∧ Go W.m env1 σ A0 A env' σ3 H0' H3, bk := D.nx } σ2 H2 := by
  obtain ⟨env', H0', pi, O', G⟩ := p
  refine hs i env' hi pi σ' H0' H' x O' (X.go G) (hx H0' G.k0) _ fun env2 σ2 B0 B p2 O2 G2 => ?_
  have GG := G.trans G2
  refine p2 σ2 B0 B O2 (X.go GG) _ ⟨fun env3 σ3 C0 C p3 O3 G3 => ⟨env3, C0, p3, O3, GG.trans G3⟩, fun v r env3 σ3 C0 C p3 O3 G3 w => ?_, fun env3 σ3 C0 C p3 O3 G3 => ?_, fun env3 σ3 C0 C p3 O3 G3 => ⟨env3, C0, p3, O3, GG.trans G3⟩⟩
  · exact e.rt v r env3 σ3 C0 C p3 O3 (GG.trans G3) (w.base fun l z => GG.back z)
  · exact e.nx env3 σ3 C0 C p3 O3 (GG.trans G3)
theorem ws_forR1 (h : wpA W ta env (fun rs env1 => ∃ (n : Int) (I : Nat → List Cell → Prop), rs = [.dat (.int n)] ∧ -(2 ^ 62) ≤ n ∧ n < 2 ^ 62 ∧ I 0 env1 ∧
      (∀ (i : Nat) env', (i : Int) < n → I i env' → wpG W g (.int i) env' (fun env2 => wpS W tb env2 { nx := I (i + 1), rt := d.rt, bk := d.nx, ct := I (i + 1) } px) px) ∧ (∀ env', I n.toNat env' → d.nx env')) px) :
    wpS W (tFor (iRng1 ta) g tb) env d px := fun σ H0 H O X D e =>
  h σ H0 H O X _ fun vs rs env1 A0 A ⟨n, I, er, l1, l2, i0, hs, hd⟩ S w => by
    subst er
    obtain ⟨v, rfl, w1⟩ := w.one
    have := Dd.int_inv w1
    subst this
    refine ⟨n, rfl, l1, l2, for_range (lo := 0) (n := n.toNat) (fun i σ' H' => ∃ env' H0', I i env' ∧ Ok env' σ' H0' H' ∧ Go W.m env1 σ A0 A env' σ' H0' H') ⟨env1, A0, i0, S.ok, .refl⟩ (fun i σ' H' hi p => ?_) (fun σ' H' ⟨env', H0', p, O', G⟩ => ?_)⟩
    · refine ws_for_core (m := 0) I n.toNat (fun i => .int (i : Int)) (X.go S.go) D (e.go S.go) (fun i env' hi p => hs i env' (by omega) p) i _ σ' H' hi p fun H0' _ => ?_
      rw [Int.zero_add]
      exact .int _
    · exact e.nx env' σ' H0' H' (hd env' p) O' (S.go.trans G)
theorem ws_forR2 (h : wpA W ta env (fun rs env1 => ∃ (lo n : Int) (I : Nat → List Cell → Prop), rs = [.dat (.int lo), .dat (.int n)] ∧ (-(2 ^ 62) ≤ lo ∧ lo < 2 ^ 62 ∧ -(2 ^ 62) ≤ n ∧ n < 2 ^ 62) ∧ I 0 env1 ∧
      (∀ (i : Nat) env', lo + (i : Int) < n → I i env' → wpG W g (.int (lo + i)) env' (fun env2 => wpS W tb env2 { nx := I (i + 1), rt := d.rt, bk := d.nx, ct := I (i + 1) } px) px) ∧ (∀ env', I (n - lo).toNat env' → d.nx env')) px) :
    wpS W (tFor (iRng2 ta) g tb) env d px := fun σ H0 H O X D e =>
  h σ H0 H O X _ fun vs rs env1 A0 A ⟨lo, n, I, er, l1, i0, hs, hd⟩ S w => by
    subst er
    obtain ⟨v, v2, rfl, w1, w2⟩ := w.two
    have := Dd.int_inv w1
    subst this
    have := Dd.int_inv w2
    subst this
    refine ⟨lo, n, rfl, l1, for_range (lo := lo) (n := (n - lo).toNat) (fun i σ' H' => ∃ env' H0', I i env' ∧ Ok env' σ' H0' H' ∧ Go W.m env1 σ A0 A env' σ' H0' H') ⟨env1, A0, i0, S.ok, .refl⟩ (fun i σ' H' hi p => ?_) (fun σ' H' ⟨env', H0', p, O', G⟩ => ?_)⟩
    · exact ws_for_core (m := 0) I (n - lo).toNat (fun i => .int (lo + (i : Int))) (X.go S.go) D (e.go S.go) (fun i env' hi p => hs i env' (by omega) p) i _ σ' H' hi p fun H0' _ => .int _
    · exact e.nx env' σ' H0' H' (hd env' p) O' (S.go.trans G)
theorem ws_forT (h : wpE W te env (fun r env1 => ∃ (ds : List D) (I : Nat → List Cell → Prop), r = .dat (.tup ds) ∧ I 0 env1 ∧
      (∀ (i : Nat) x env', ds[i]? = some x → I i env' → wpG W g x env' (fun env2 => wpS W tb env2 { nx := I (i + 1), rt := d.rt, bk := d.nx, ct := I (i + 1) } px) px) ∧ (∀ env', I ds.length env' → d.nx env')) px) :
    wpS W (tFor (iTup W.K te) g tb) env d px := fun σ H0 H O X D e =>
  h σ H0 H O X _ fun v r env1 A0 A ⟨ds, I, er, i0, hs, hd⟩ S w => by
    subst er
    obtain ⟨a, vs, rfl, q1, q2⟩ := Dd.tup_inv w
    refine ⟨a, rfl, ⟨vs, SqT.of (S.ok.same _ _ q1)⟩, for_tup (K := W.K) (a := a) (xs := vs) (fun i σ' H' => ∃ env' H0', I i env' ∧ Ok env' σ' H0' H' ∧ Go W.m env1 σ A0 A env' σ' H0' H') ⟨env1, A0, i0, S.ok, .refl⟩
      (fun i σ' H' _ ⟨env', H0', p, O', G⟩ => SqT.of (O'.same _ _ (G.k0 _ _ q1))) (fun i x σ' H' hx p => ?_) (fun σ' H' ⟨env', H0', p, O', G⟩ => ?_)⟩
    · have hi : i < ds.length := by
        rw [← q2.len]
        exact (List.getElem?_eq_some_iff.mp hx).1
      obtain ⟨y, z1, z2⟩ := q2.get hx
      refine ws_for_core (m := 0) I ds.length (fun i => ds.getD i .non) (X.go S.go) D (e.go S.go) (fun i env' hi p => hs i _ env' (by rw [List.getD_eq_getElem?_getD, List.getElem?_eq_getElem hi]; rfl) p) i x σ' H' hi p fun H0' k => ?_
      rw [List.getD_eq_getElem?_getD, z1]
      exact z2.mono k
    · rw [q2.len] at p
      exact e.nx env' σ' H0' H' (hd env' p) O' (S.go.trans G)
/-- over a list that stands still -/
theorem ws_forL (h : wpE W te env (fun r env1 => ∃ (ds : List D) (I : Nat → List Cell → Prop), fz r = .dat (.lst ds) ∧ I 0 env1 ∧
      (∀ (i : Nat) x env', ds[i]? = some x → I i env' → wpG W g x env' (fun env2 => wpS W tb env2 { nx := I (i + 1), rt := d.rt, bk := d.nx, ct := I (i + 1) } px) px) ∧ (∀ env', I ds.length env' → d.nx env')) px) :
    wpS W (tFor (iList W.K te) g tb) env d px := fun σ H0 H O X D e =>
  (wpE.fz (P := fun r env1 => ∃ (ds : List Nw.D) (I : Nat → List Cell → Prop), r = .dat (.lst ds) ∧ I 0 env1 ∧
      (∀ (i : Nat) x env', ds[i]? = some x → I i env' → wpG W g x env' (fun env2 => wpS W tb env2 { nx := I (i + 1), rt := d.rt, bk := d.nx, ct := I (i + 1) } px) px) ∧ (∀ env', I ds.length env' → d.nx env')) h) σ H0 H O X _ fun v r env1 A0 A ⟨ds, I, er, i0, hs, hd⟩ S w => by
    subst er
    obtain ⟨a, vs, rfl, q1, q2⟩ := Dd.lst_inv w
    refine ⟨a, rfl, ⟨vs, SqL.of (S.ok.same _ _ q1)⟩, for_list (K := W.K) (a := a) (xs := vs) (fun i σ' H' => ∃ env' H0', I i env' ∧ Ok env' σ' H0' H' ∧ Go W.m env1 σ A0 A env' σ' H0' H') ⟨env1, A0, i0, S.ok, .refl⟩
      (fun i σ' H' _ ⟨env', H0', p, O', G⟩ => SqL.of (O'.same _ _ (G.k0 _ _ q1))) (fun i x σ' H' hx p => ?_) (fun σ' H' ⟨env', H0', p, O', G⟩ => ?_)⟩
    · have hi : i < ds.length := by
        rw [← q2.len]
        exact (List.getElem?_eq_some_iff.mp hx).1
      obtain ⟨y, z1, z2⟩ := q2.get hx
      refine ws_for_core (m := 0) I ds.length (fun i => ds.getD i .non) (X.go S.go) D (e.go S.go) (fun i env' hi p => hs i _ env' (by rw [List.getD_eq_getElem?_getD, List.getElem?_eq_getElem hi]; rfl) p) i x σ' H' hi p fun H0' k => ?_
      rw [List.getD_eq_getElem?_getD, z1]
      exact z2.mono k
    · rw [q2.len] at p
      exact e.nx env' σ' H0' H' (hd env' p) O' (S.go.trans G)
theorem ws_while (I : Nat → List Cell → Prop) (m0 : Nat) (i0 : I m0 env) (hs : ∀ m env', I m env' → wpT W c env' (fun b env1 => (b = true → wpS W tb env1 { nx := fun e => ∃ m', m' < m ∧ I m' e, rt := d.rt, bk := d.nx, ct := fun e => ∃ m', m' < m ∧ I m' e } px) ∧ (b = false → d.nx env1)) px) :
    wpS W (tWhile c tb) env d px := fun σ H0 H O X D e => by
  refine ⟨fun m σ' H' => ∃ env' H0', I m env' ∧ Ok env' σ' H0' H' ∧ Go W.m env σ H0 H env' σ' H0' H', ⟨m0, env, H0, i0, O, .refl⟩, ?_⟩
  rintro m σ' H' ⟨env', H0', p, O', G⟩
  refine hs m env' p σ' H0' H' O' (X.go G) _ fun b env1 A0 A ⟨h1, h2⟩ S => ?_
  have GG := G.trans S.go
  cases b with
  | false =>
    show D.nx σ' A
    exact e.nx env1 σ' A0 A (h2 rfl) S.ok GG
  | true =>
    show ∃ N : L2.St → Hp → Prop, _
    refine ⟨fun σ2 H2 => ∃ env2 B0 m', m' < m ∧ I m' env2 ∧ Ok env2 σ2 B0 H2 ∧ Go W.m env σ H0 H env2 σ2 B0 H2, fun σ2 H2 ⟨env2, B0, m', l, q1, q2, q3⟩ => ⟨m', l, env2, B0, q1, q2, q3⟩, h1 rfl σ' A0 A S.ok (X.go GG) _
      ⟨fun env3 σ3 C0 C ⟨m', l, p3⟩ O3 G3 => ⟨env3, C0, m', l, p3, O3, GG.trans G3⟩, fun v r env3 σ3 C0 C p3 O3 G3 w => e.rt v r env3 σ3 C0 C p3 O3 (GG.trans G3) (w.base fun l z => GG.back z), fun env3 σ3 C0 C p3 O3 G3 => e.nx env3 σ3 C0 C p3 O3 (GG.trans G3),
        fun env3 σ3 C0 C ⟨m', l, p3⟩ O3 G3 => ⟨env3, C0, m', l, p3, O3, GG.trans G3⟩⟩⟩

/-! ### methods of lists -/
def wpM (W : Wo) (f : V → List V → Hp → VK → Prop) (x : Res) (rs : List Res) (env : List Cell) (P : PR) (px : PX) : Prop := ∀ (σ : L2.St) (B H0 H : Hp), Ok env σ H0 H → ErrOk W px env σ H0 H → (∀ l, H l = none → B l = none) → ∀ v vs, VAL B env σ H0 H v x → VALs B env σ H0 H vs rs → ∀ Q : VK,
  (∀ u r env' H0' H', P r env' → Stp W.m env σ H0 H env' H0' H' → VAL B env' σ H0' H' u r → Q u H') → f v vs H Q
theorem wp_bmL {f : V → List V → Hp → VK → Prop} {P : PR} (h : wpE W to env (fun x env1 => (∃ ds, LstR env1 x ds) ∧ wpA W ta env1 (fun rs env2 => wpM W f x rs env2 P px) px) px) : wpE W (tBM W.K "list" f to ta) env P px := fun σ H0 H O X Q q =>
  h σ H0 H O X _ fun v x env1 A0 A ⟨⟨ds, l⟩, h1⟩ S w => by
    obtain ⟨a, vs, rfl, _, q1⟩ := l.get S.ok w
    refine ⟨.inl ⟨rfl, vs, SqL.of q1⟩, h1 σ A0 A S.ok (X.go S.go) _ fun us rs env2 B0 B p S2 w2 => ?_⟩
    exact p σ H B0 B S2.ok (X.go (S.trans S2).go) (fun l z => S.back (S2.back z)) _ us (w.stp S2) (w2.base fun l z => S.back z) Q fun u r env' C0 C p3 S3 w3 => q u r env' C0 C p3 ((S.trans S2).trans S3) w3
theorem wp_bmL0 {f : V → List V → Hp → VK → Prop} {P : PR} (h : wpE W to env (fun x env1 => (∃ ds, LstR env1 x ds) ∧ wpM W f x [] env1 P px) px) : wpE W (tBM0 W.K "list" f to) env P px := fun σ H0 H O X Q q =>
  h σ H0 H O X _ fun v x env1 A0 A ⟨⟨ds, l⟩, h1⟩ S w => by
    obtain ⟨a, vs, rfl, _, q1⟩ := l.get S.ok w
    refine ⟨.inl ⟨rfl, vs, SqL.of q1⟩, ?_⟩
    exact h1 σ H A0 A S.ok (X.go S.go) (fun l z => S.back z) _ [] w .nil Q fun u r env' C0 C p3 S3 w3 => q u r env' C0 C p3 (S.trans S3) w3
/-- the own list behind an alias -/
theorem al_get {σ : L2.St} {B H0 H : Hp} {i : Nat} {v : V} (O : Ok env σ H0 H) (e : env[i]? = some (.lst ds)) (w : VAL B env σ H0 H v (.al i)) : ∃ l vs, v = .ref l ∧ σ[i]? = some (some (.ref l)) ∧ H l = some (.lst vs) ∧ DdAll H0 vs ds := by
  obtain ⟨l, rfl, c, q1, q2, q3⟩ := w
  obtain ⟨l', o, z1, z2, z3, vs, rfl, z4⟩ := O.slot i _ e
  rw [q3] at z1
  injection z1 with z1
  injection z1 with z1
  injection z1 with z1
  subst z1
  exact ⟨l, vs, rfl, q3, z3, z4⟩
theorem wm_append {i : Nat} {P : PR} (e : env[i]? = some (.lst ds)) (hl : ds.length < 100000) (p : P (.dat .non) (env.set i (.lst (ds ++ [x])))) : wpM W rAppend (.al i) [.dat x] env P px := fun σ B H0 H O _ _ v vs hv hw Q q => by
  obtain ⟨y, rfl, hy⟩ := hw.one
  obtain ⟨l, ws, rfl, s, h1, h2⟩ := al_get O e hv
  exact ⟨l, ws, y, rfl, rfl, h1, by rw [h2.len]; exact Nat.lt_of_lt_of_le hl (by decide), q _ _ _ H0 _ p (.chg O e rfl s rfl ⟨_, rfl, h2.app (.cons hy .nil)⟩) .non⟩
theorem wm_pop {i : Nat} {P : PR} (e : env[i]? = some (.lst ds)) (hx : ds[ds.length - 1]? = some x) (p : P (.dat x) (env.set i (.lst ds.dropLast))) : wpM W rPop (.al i) [] env P px := fun σ B H0 H O _ _ v vs hv hw Q q => by
  cases hw
  obtain ⟨l, ws, rfl, s, h1, h2⟩ := al_get O e hv
  rw [← h2.len] at hx
  obtain ⟨y, y1, y2⟩ := h2.got hx
  exact ⟨l, ws, y, rfl, rfl, h1, y1, q _ _ _ H0 _ p (.chg O e rfl s rfl ⟨_, rfl, h2.dropLast⟩) y2⟩
end
end Nw

set_option Elab.async false
set_option linter.all false
set_option maxRecDepth 100000
set_option maxHeartbeats 1000000
namespace Nw
open PySem PySem.Spec PyProof.Rows L2
/-! ### comprehensions -/
def Wo.inn (W : Wo) : Wo := ⟨W.K, 0, fun _ => E0⟩
section
variable {W : Wo} {env env2 : List Cell} {px : PX} {P : PR} {te to ti tl : TE} {ta : TA} {g : TG} {tt : TT} {ds : List D} {x : D} {σ : L2.St} {H0 H A0 A : Hp} {v : V} {j : Nat} {c0 : Cell}
theorem wipe1 (σ : L2.St) (j : Nat) (v : V) : (wipe σ [j]).set j (some v) = σ.set j (some v) := by
  show (σ.set j none).set j (some v) = σ.set j (some v)
  rw [List.set_set]
theorem Ok.inner (O : Ok env σ H0 H) (hj : env[j]? = some c0) (hc : c0.own = false) (hv : Dd H0 v x) : Ok (env.set j (.dat x)) (σ.set j (some v)) H0 H ∧ ∀ k l, Owns (env.set j (.dat x)) (σ.set j (some v)) k l ↔ Owns env σ k l := by
  have hi : j < env.length := (List.getElem?_eq_some_iff.mp hj).1
  have hs : j < σ.length := by rw [O.len]; exact hi
  have ow : ∀ k l, Owns (env.set j (.dat x)) (σ.set j (some v)) k l ↔ Owns env σ k l := fun k l => by
    by_cases z : k = j
    · subst z
      constructor
      · rintro ⟨c, q1, q2, q3⟩
        rw [List.getElem?_set_self hi] at q1
        injection q1 with q1
        subst q1
        cases q2
      · rintro ⟨c, q1, q2, q3⟩
        rw [hj] at q1
        injection q1 with q1
        subst q1
        rw [hc] at q2
        cases q2
    · constructor
      · rintro ⟨c, q1, q2, q3⟩
        rw [List.getElem?_set_ne (Ne.symm z)] at q1 q3
        exact ⟨c, q1, q2, q3⟩
      · rintro ⟨c, q1, q2, q3⟩
        exact ⟨c, by rw [List.getElem?_set_ne (Ne.symm z)]; exact q1, q2, by rw [List.getElem?_set_ne (Ne.symm z)]; exact q3⟩
  refine ⟨⟨by rw [List.length_set, List.length_set]; exact O.len, O.same, fun k c e => ?_, fun a b l h1 h2 => O.apart a b l ((ow _ _).mp h1) ((ow _ _).mp h2)⟩, ow⟩
  by_cases z : k = j
  · subst z
    rw [List.getElem?_set_self hi] at e
    injection e with e
    subst e
    rw [List.getElem?_set_self hs]
    exact ⟨v, rfl, hv⟩
  · rw [List.getElem?_set_ne (Ne.symm z)] at e ⊢
    exact O.slot k c e
theorem SlotOk.keep {H0' H' : Hp} {y : Option (Option V)} (k : Same H0 H0') : ∀ {c : Cell}, c.own = false → SlotOk H0 H y c → SlotOk H0' H' y c
  | .non, _, _ => trivial
  | .dat d, _, ⟨v, h1, h2⟩ => ⟨v, h1, h2.mono k⟩
  | .lst _, h, _ => by cases h
  | .dic _, h, _ => by cases h
  | .dit _, h, _ => by cases h
theorem Stp.outer {m m' : Nat} (O : Ok env σ H0 H) (hj : env[j]? = some c0) (hc : c0.own = false) (hv : Dd H0 v x) (S : Stp m' (env.set j (.dat x)) (σ.set j (some v)) H0 H env2 A0 A) : Stp m env σ H0 H (env2.set j c0) A0 A := by
  obtain ⟨O1, ow⟩ := O.inner hj hc hv
  have hi : j < env.length := (List.getElem?_eq_some_iff.mp hj).1
  have hl : env2.length = env.length := by
    have q := S.ok.len
    rw [List.length_set, O.len] at q
    exact q.symm
  have hi2 : j < env2.length := by rw [hl]; exact hi
  have nojv : ∀ l, ¬ Owns env2 (σ.set j (some v)) j l := fun l z => by
    obtain ⟨c, q1, q2, q3⟩ := (ow _ _).mp ((S.iff j l).mpr z)
    rw [hj] at q1
    injection q1 with q1
    subst q1
    rw [hc] at q2
    cases q2
  have ow2 : ∀ k l, Owns (env2.set j c0) σ k l ↔ Owns env2 (σ.set j (some v)) k l := fun k l => by
    by_cases z : k = j
    · subst z
      constructor
      · rintro ⟨c, q1, q2, q3⟩
        rw [List.getElem?_set_self hi2] at q1
        injection q1 with q1
        subst q1
        rw [hc] at q2
        cases q2
      · intro q
        exact absurd q (nojv l)
    · constructor
      · rintro ⟨c, q1, q2, q3⟩
        rw [List.getElem?_set_ne (Ne.symm z)] at q1
        exact ⟨c, q1, q2, by rw [List.getElem?_set_ne (Ne.symm z)]; exact q3⟩
      · rintro ⟨c, q1, q2, q3⟩
        rw [List.getElem?_set_ne (Ne.symm z)] at q3
        exact ⟨c, by rw [List.getElem?_set_ne (Ne.symm z)]; exact q1, q2, q3⟩
  have iff_ : ∀ k l, Owns env σ k l ↔ Owns (env2.set j c0) σ k l := fun k l => ((ow k l).symm.trans (S.iff k l)).trans (ow2 k l).symm
  have owd : ∀ l, Owned (env.set j (.dat x)) (σ.set j (some v)) l ↔ Owned env σ l := fun l => ⟨fun ⟨k, h⟩ => ⟨k, (ow k l).mp h⟩, fun ⟨k, h⟩ => ⟨k, (ow k l).mpr h⟩⟩
  refine ⟨⟨by rw [List.length_set, hl]; exact O.len, S.ok.same, fun k c e => ?_, fun a b l h1 h2 => O.apart a b l ((iff_ _ _).mpr h1) ((iff_ _ _).mpr h2)⟩, ⟨S.go.k0, fun a h n => S.go.old a h fun z => n ((owd a).mp z), fun a o h n => S.go.keep a o h fun z => n ((owd a).mp z), S.go.al, fun l ⟨k, h⟩ => .inl ⟨k, (iff_ k l).mpr h⟩, fun _ _ => rfl⟩, iff_⟩
  by_cases z : k = j
  · subst z
    rw [List.getElem?_set_self hi2] at e
    injection e with e
    subst e
    exact (O.slot k c0 hj).keep S.go.k0 hc
  · rw [List.getElem?_set_ne (Ne.symm z)] at e
    have q := S.ok.slot k c e
    rw [List.getElem?_set_ne (Ne.symm z)] at q
    exact q
/-- one turn of a comprehension -/
def LcTurn (W : Wo) (tt : TT) (te : TE) (j : Nat) (c0 : Cell) (I : List D → List Cell → Prop) (acc : List D) (x : D) (env2 : List Cell) : Prop :=
  wpT W.inn tt (env2.set j (.dat x)) (fun b env3 => (b = true → wpE W.inn te env3 (fun r env4 => ∃ d, fz r = .dat d ∧ I (acc ++ [d]) (env4.set j c0)) PX0) ∧ (b = false → I acc (env3.set j c0))) PX0
/-- the state between two turns: the list at l holds acc -/
def LcSt (m : Nat) (env1 : List Cell) (σ : L2.St) (A0 A : Hp) (l : Addr) (I : List D → List Cell → Prop) (B : Nat) (H' : Hp) : Prop :=
  ∃ acc env2 H0' vs, I acc env2 ∧ acc.length ≤ B ∧ Stp m env1 σ A0 A env2 H0' H' ∧ H' l = some (.lst vs) ∧ DdAll H0' vs acc ∧ H0' l = none
theorem Stp.tmpset {m : Nat} {env1 : List Cell} {l : Addr} {o : HO} {H0' H' : Hp} (S : Stp m env1 σ A0 A env2 H0' H') (hl : A l = none) (h0 : H0' l = none) (hn : ¬ Owned env2 σ l) : Stp m env1 σ A0 A env2 H0' (upd H' l o) := by
  refine ⟨⟨S.ok.len, fun b u e => ?_, fun k c e => ?_, S.ok.apart⟩, ⟨S.go.k0, S.go.old, fun a u h n => ?_, fun a h => ?_, S.go.ow, S.go.fx⟩, S.iff⟩
  · rw [upd_ne (ne_of_none e h0)]
    exact S.ok.same _ _ e
  · have q := S.ok.slot k c e
    have own_ : ∀ c : Cell, c.own = true → env2[k]? = some c → (∃ l o, σ[k]? = some (some (V.ref l)) ∧ H0' l = none ∧ H' l = some o ∧ Own H0' c o) → ∃ z u, σ[k]? = some (some (V.ref z)) ∧ H0' z = none ∧ upd H' l o z = some u ∧ Own H0' c u := fun c oc ec ⟨z, u, q1, q2, q3, q4⟩ =>
      ⟨z, u, q1, q2, by rw [upd_ne (show z ≠ l from fun y => hn ⟨k, c, ec, oc, by rw [q1, y]⟩)]; exact q3, q4⟩
    cases c with
    | non => trivial
    | dat d => exact q
    | lst ds => exact own_ _ rfl e q
    | dic ds => exact own_ _ rfl e q
    | dit ds => exact own_ _ rfl e q
  · rw [upd_ne (ne_of_none h hl)]
    exact S.go.keep a u h n
  · by_cases z : a = l
    · subst z
      rw [upd_same]
      exact fun z => by cases z
    · rw [upd_ne z]
      exact S.go.al a h
theorem lc_turn {m : Nat} {env1 : List Cell} {l : Addr} {I : List D → List Cell → Prop} {I' : List D → List Cell → Prop} {B : Nat} {H' : Hp} (O : Ok env1 σ A0 A) (hB : B < 100000) (hl : A l = none)
    (hI : ∀ acc env2, I acc env2 → env2[j]? = some c0) (hc : c0.own = false) (p : LcSt m env1 σ A0 A l I B H') (hx : ∀ H0', Same A0 H0' → Dd H0' v x) (ht : ∀ acc env2, I acc env2 → LcTurn W tt te j c0 I' acc x env2) :
    tt ((wipe σ [j]).set j (some v)) H' fun b H3 => if b = true then te ((wipe σ [j]).set j (some v)) H3 fun y H4 => ∃ acc, H4 l = some (.lst acc) ∧ acc.length < sizeLine ∧ LcSt m env1 σ A0 A l I' (B + 1) (upd H4 l (.lst (acc ++ [y]))) else LcSt m env1 σ A0 A l I' (B + 1) H3 := by
  obtain ⟨acc, env2, H0', vs, pi, hn, S, h1, h2, h3⟩ := p
  rw [wipe1]
  have hv := hx H0' S.go.k0
  have hj := hI acc env2 pi
  obtain ⟨O1, ow⟩ := S.ok.inner hj hc hv
  have nown : ∀ {env5 : List Cell} {B0 B5 : Hp}, Stp m env1 σ A0 A env5 B0 B5 → ¬ Owned env5 σ l := fun S5 ⟨k, z⟩ => (O.owned ⟨k, (S5.iff k l).mpr z⟩).2 hl
  have al : H' l ≠ none := fun z => by rw [h1] at z; cases z
  have nin : ¬ Owned (env2.set j (.dat x)) (σ.set j (some v)) l := fun ⟨k, z⟩ => nown S ⟨k, (ow k l).mp z⟩
  refine ht acc env2 pi (σ.set j (some v)) H0' H' O1 .none _ fun b env3 B0 B5 ⟨q1, q2⟩ S3 => ?_
  cases b with
  | false =>
    show LcSt m env1 σ A0 A l I' (B + 1) B5
    exact ⟨acc, _, B0, vs, q2 rfl, by omega, S.trans (S3.outer S.ok hj hc hv), S3.go.keep l _ h1 nin, h2.mono S3.go.k0, (S3.go.old l al nin).trans h3⟩
  | true =>
    show te (σ.set j (some v)) B5 fun y H4 => ∃ acc, H4 l = some (.lst acc) ∧ acc.length < sizeLine ∧ LcSt m env1 σ A0 A l I' (B + 1) (upd H4 l (.lst (acc ++ [y])))
    refine (wpE.fz (P := fun r env4 => ∃ d, r = .dat d ∧ I' (acc ++ [d]) (env4.set j c0)) (q1 rfl)) (σ.set j (some v)) B0 B5 S3.ok .none _ fun y r env4 C0 C ⟨d, er, pd⟩ S4 w => ?_
    subst er
    have Si := S3.trans S4
    have So := S.trans (Si.outer S.ok hj hc hv)
    have hC : C l = some (.lst vs) := Si.go.keep l _ h1 nin
    have h0 : C0 l = none := (Si.go.old l al nin).trans h3
    refine ⟨vs, hC, ?_, acc ++ [d], _, C0, vs ++ [y], pd, ?_, So.tmpset hl h0 (nown So), upd_same, (h2.mono Si.go.k0).app (.cons w .nil), h0⟩
    · rw [h2.len]
      exact Nat.lt_of_le_of_lt hn (Nat.lt_of_lt_of_le hB (by decide))
    · rw [List.length_append]
      show acc.length + 1 ≤ B + 1
      omega
theorem lc_start {m : Nat} {env1 : List Cell} {l : Addr} {I : List D → List Cell → Prop} (O : Ok env1 σ A0 A) (hl : A l = none) (i0 : I [] env1) : LcSt m env1 σ A0 A l I 0 (upd A l (.lst [])) :=
  ⟨[], env1, A0, [], i0, Nat.le_refl _, .tmp O hl, upd_same, .nil, O.same.free hl⟩
theorem lc_end {W : Wo} {env1 : List Cell} {l : Addr} {I : List D → List Cell → Prop} {B : Nat} {H' : Hp} {Q : VK} (O : Ok env1 σ A0 A) (S0 : Stp W.m env σ H0 H env1 A0 A) (hl : A l = none) (p : LcSt W.m env1 σ A0 A l I B H')
    (hd : ∀ acc env2, I acc env2 → acc.length ≤ B → P (.own (.lst acc)) env2) (q : ∀ v r env' H0' H', P r env' → Stp W.m env σ H0 H env' H0' H' → VAL H env' σ H0' H' v r → Q v H') : Q (.ref l) H' := by
  obtain ⟨acc, env2, H0', vs, pi, hn, S, h1, h2, h3⟩ := p
  exact q _ _ env2 H0' H' (hd acc env2 pi hn) (S0.trans S) ⟨rfl, l, _, rfl, h3, h1, ⟨vs, rfl, h2⟩, S0.back hl, fun ⟨k, z⟩ => (O.owned ⟨k, (S.iff k l).mpr z⟩).2 hl⟩
theorem wp_lcR1 (h : wpA W ta env (fun rs env1 => ∃ (n : Int) (c0 : Cell) (I : Nat → List D → List Cell → Prop), rs = [.dat (.int n)] ∧ -(2 ^ 62) ≤ n ∧ n < 100000 ∧ c0.own = false ∧ (∀ i acc e, I i acc e → e[j]? = some c0) ∧ I 0 [] env1 ∧
      (∀ (i : Nat) acc env2, (i : Int) < n → I i acc env2 → LcTurn W tt te j c0 (I (i + 1)) acc (.int i) env2) ∧ (∀ acc env2, I n.toNat acc env2 → acc.length ≤ n.toNat → P (.own (.lst acc)) env2)) px) :
    wpE W (tLc (iRng1 ta) (gName j) tt te [j]) env P px := fun σ H0 H O X Q q =>
  h σ H0 H O X _ fun vs rs env1 A0 A ⟨n, c0, I, er, l1, l2, hc, hI, i0, hs, hd⟩ S w => by
    subst er
    obtain ⟨v, rfl, w1⟩ := w.one
    have := Dd.int_inv w1
    subst this
    refine ⟨n, rfl, l1, by omega, fun l hl => lc_range (lo := 0) (n := n.toNat) (fun i H' => LcSt W.m env1 σ A0 A l (I i) i H') (lc_start S.ok hl i0) (fun i H' hi p => ⟨?_, ?_⟩) (fun H' p => lc_end S.ok S hl p hd q)⟩
    · show wipe ((wipe σ [j]).set j (some _)) [j] = wipe σ [j]
      show ((σ.set j none).set j (some _)).set j none = σ.set j none
      rw [List.set_set, List.set_set]
    · refine lc_turn S.ok (by omega) hl (hI i) hc p (x := .int (i : Int)) (fun _ _ => ?_) (fun acc env2 pi => hs i acc env2 (by omega) pi)
      rw [Int.zero_add]
      exact .int _
theorem wipe_again (σ : L2.St) (j : Nat) (v : V) : wipe ((wipe σ [j]).set j (some v)) [j] = wipe σ [j] := by
  show ((σ.set j none).set j (some v)).set j none = σ.set j none
  rw [List.set_set, List.set_set]
theorem wp_lcT (h : wpE W tl env (fun r env1 => ∃ (ds : List D) (c0 : Cell) (I : Nat → List D → List Cell → Prop), r = .dat (.tup ds) ∧ ds.length < 100000 ∧ c0.own = false ∧ (∀ i acc e, I i acc e → e[j]? = some c0) ∧ I 0 [] env1 ∧
      (∀ (i : Nat) x acc env2, ds[i]? = some x → I i acc env2 → LcTurn W tt te j c0 (I (i + 1)) acc x env2) ∧ (∀ acc env2, I ds.length acc env2 → acc.length ≤ ds.length → P (.own (.lst acc)) env2)) px) :
    wpE W (tLc (iTup W.K tl) (gName j) tt te [j]) env P px := fun σ H0 H O X Q q =>
  h σ H0 H O X _ fun v r env1 A0 A ⟨ds, c0, I, er, l1, hc, hI, i0, hs, hd⟩ S w => by
    subst er
    obtain ⟨a, vs, rfl, q1, q2⟩ := Dd.tup_inv w
    refine ⟨a, rfl, ⟨vs, SqT.of (S.ok.same _ _ q1)⟩, fun l hl => lc_tup (K := W.K) (a := a) (xs := vs) (fun i H' => LcSt W.m env1 σ A0 A l (I i) i H') (lc_start S.ok hl i0) (fun i H' hi ⟨acc, env2, H0', ws, pi, hn, S2, h1, h2, h3⟩ => SqT.of (S2.ok.same _ _ (S2.go.k0 _ _ q1)))
      (fun i x H' hi p => ⟨wipe_again σ j x, ?_⟩) (fun H' p => lc_end S.ok S hl p (by rw [q2.len]; exact hd) q)⟩
    obtain ⟨y, z1, z2⟩ := q2.get hi
    have hlt : i < ds.length := (List.getElem?_eq_some_iff.mp z1).1
    exact lc_turn S.ok (by omega) hl (hI i) hc p (x := y) (fun H0' k => z2.mono k) (fun acc env2 pi => hs i y acc env2 z1 pi)
theorem wp_lcL (h : wpE W tl env (fun r env1 => ∃ (ds : List D) (c0 : Cell) (I : Nat → List D → List Cell → Prop), fz r = .dat (.lst ds) ∧ ds.length < 100000 ∧ c0.own = false ∧ (∀ i acc e, I i acc e → e[j]? = some c0) ∧ I 0 [] env1 ∧
      (∀ (i : Nat) x acc env2, ds[i]? = some x → I i acc env2 → LcTurn W tt te j c0 (I (i + 1)) acc x env2) ∧ (∀ acc env2, I ds.length acc env2 → acc.length ≤ ds.length → P (.own (.lst acc)) env2)) px) :
    wpE W (tLc (iList W.K tl) (gName j) tt te [j]) env P px := fun σ H0 H O X Q q =>
  (wpE.fz (P := fun r env1 => ∃ (ds : List D) (c0 : Cell) (I : Nat → List D → List Cell → Prop), r = .dat (.lst ds) ∧ ds.length < 100000 ∧ c0.own = false ∧ (∀ i acc e, I i acc e → e[j]? = some c0) ∧ I 0 [] env1 ∧
      (∀ (i : Nat) x acc env2, ds[i]? = some x → I i acc env2 → LcTurn W tt te j c0 (I (i + 1)) acc x env2) ∧ (∀ acc env2, I ds.length acc env2 → acc.length ≤ ds.length → P (.own (.lst acc)) env2)) h) σ H0 H O X _ fun v r env1 A0 A ⟨ds, c0, I, er, l1, hc, hI, i0, hs, hd⟩ S w => by
    subst er
    obtain ⟨a, vs, rfl, q1, q2⟩ := Dd.lst_inv w
    refine ⟨a, rfl, ⟨vs, SqL.of (S.ok.same _ _ q1)⟩, fun l hl => lc_list (K := W.K) (a := a) (xs := vs) (fun i H' => LcSt W.m env1 σ A0 A l (I i) i H') (lc_start S.ok hl i0) (fun i H' hi ⟨acc, env2, H0', ws, pi, hn, S2, h1, h2, h3⟩ => SqL.of (S2.ok.same _ _ (S2.go.k0 _ _ q1)))
      (fun i x H' hi p => ⟨wipe_again σ j x, ?_⟩) (fun H' p => lc_end S.ok S hl p (by rw [q2.len]; exact hd) q)⟩
    obtain ⟨y, z1, z2⟩ := q2.get hi
    have hlt : i < ds.length := (List.getElem?_eq_some_iff.mp z1).1
    exact lc_turn S.ok (by omega) hl (hI i) hc p (x := y) (fun H0' k => z2.mono k) (fun acc env2 pi => hs i y acc env2 z1 pi)
theorem wt_yes {P : Bool → List Cell → Prop} (p : P true env) : wpT W tYes env P px := fun σ H0 H O _ Q q => q true env H0 H p (.refl O)
end

/-! ### functions -/
/-- what a def is, by cells: from its arguments, what is wanted of the end, what errors come -/
abbrev Spc := List Cell → PR → PX → Prop
def Res.nal : Res → Bool
  | .al _ => false
  | _ => true
def SPD (n : Nat) (pre : Spc) : Sp := fun vs H Q E => vs.length = n ∧ ∃ cs H0 post px, cs.length = n ∧ Ok cs (vs.map some) H0 H ∧ pre cs post px ∧
  (∀ v r cs' H0' H', r.nal = true → post r cs' → Stp 0 cs (vs.map some) H0 H cs' H0' H' → VAL H cs' (vs.map some) H0' H' v r → Q v H') ∧
  (∀ (C d : Addr) (ws : List (Str × V)) (fs : List (Str × D)) cs' H0' H', px C fs cs' → Stp 0 cs (vs.map some) H0 H cs' H0' H' → H0' d = some (.xd ws) → DdF H0' ws fs → E (.ref C) (some d) H')
def keptB : List Cell → List Cell → Bool
  | [], _ => true
  | c :: cs, [] => !c.own && keptB cs []
  | c :: cs, e :: es => (!c.own || e.own) && keptB cs es
def outCs : List Cell → List Cell → List Cell
  | [], _ => []
  | c :: cs, [] => c :: outCs cs []
  | c :: cs, e :: es => (if c.own = true then e else c) :: outCs cs es
def outR (r : Res) (env : List Cell) : Res := match r with
  | .al i => match env[i]? with
    | some c => .own c
    | none => .al i
  | r => r
def locR (m : Nat) : Res → Bool
  | .al i => decide (m ≤ i)
  | _ => true
/-- the arguments' owned things lie in the first m places -/
def firstB (m : Nat) : List Cell → Bool
  | [] => true
  | c :: cs => (!c.own || decide (0 < m)) && firstB (m - 1) cs
theorem keptB_at : ∀ {cs env : List Cell} {i : Nat} {c : Cell}, keptB cs env = true → cs[i]? = some c → c.own = true → ∃ e, env[i]? = some e ∧ e.own = true ∧ (outCs cs env)[i]? = some e
  | c :: cs, [], 0, _, h, e, o => by
    simp at e
    subst e
    simp [keptB, o] at h
  | c :: cs, e :: es, 0, _, h, q, o => by
    simp at q
    subst q
    simp [keptB, o] at h
    exact ⟨e, rfl, h.1, by simp [outCs, o]⟩
  | c :: cs, [], i + 1, d, h, q, o => by
    simp [keptB] at h
    obtain ⟨e, e1, _⟩ := keptB_at (i := i) (c := d) h.2 (by simpa using q) o
    simp at e1
  | c :: cs, e :: es, i + 1, d, h, q, o => by
    simp [keptB] at h
    obtain ⟨e2, e1, e3, e4⟩ := keptB_at (i := i) (c := d) h.2 (by simpa using q) o
    exact ⟨e2, by simpa using e1, e3, by simpa [outCs] using e4⟩
theorem outCs_no : ∀ {cs env : List Cell} {i : Nat} {c : Cell}, cs[i]? = some c → c.own = false → (outCs cs env)[i]? = some c
  | c :: cs, [], 0, _, e, o => by
    simp at e
    subst e
    simp [outCs]
  | c :: cs, e :: es, 0, _, q, o => by
    simp at q
    subst q
    simp [outCs, o]
  | c :: cs, [], i + 1, d, q, o => by
    have := outCs_no (cs := cs) (env := []) (i := i) (c := d) (by simpa using q) o
    simpa [outCs] using this
  | c :: cs, e :: es, i + 1, d, q, o => by
    have := outCs_no (cs := cs) (env := es) (i := i) (c := d) (by simpa using q) o
    simpa [outCs] using this
theorem outCs_len : ∀ {cs env : List Cell}, (outCs cs env).length = cs.length
  | [], _ => by simp [outCs]
  | c :: cs, [] => by simp [outCs, outCs_len]
  | c :: cs, e :: es => by simp [outCs, outCs_len]
theorem firstB_at : ∀ {m : Nat} {cs : List Cell} {i : Nat} {c : Cell}, firstB m cs = true → cs[i]? = some c → c.own = true → i < m
  | m, c :: cs, 0, _, h, e, o => by
    simp at e
    subst e
    simp [firstB, o] at h
    exact h.1
  | m, c :: cs, i + 1, d, h, q, o => by
    simp [firstB] at h
    have := firstB_at (m := m - 1) (i := i) (c := d) h.2 (by simpa using q) o
    omega
section
variable {m n k : Nat} {cs env' : List Cell} {vs : List V} {σ' : L2.St} {H0 H H0' H' : Hp}
theorem start_at {N : List Str} (hN : N.length = n + k) (hv : vs.length = n) {i : Nat} (hi : i < n) : (start N vs)[i]? = (vs.map some)[i]? := by
  unfold L2.start
  rw [List.getElem?_append_left (by rw [List.length_map, hv]; exact hi)]
theorem start_ok {N : List Str} (hN : N.length = n + k) (hv : vs.length = n) (hc : cs.length = n) (O : Ok cs (vs.map some) H0 H) : Ok (cs ++ List.replicate k .non) (start N vs) H0 H ∧ ∀ i l, Owns (cs ++ List.replicate k .non) (start N vs) i l ↔ Owns cs (vs.map some) i l := by
  have ow : ∀ i l, Owns (cs ++ List.replicate k .non) (start N vs) i l ↔ Owns cs (vs.map some) i l := fun i l => by
    by_cases hi : i < n
    · constructor
      · rintro ⟨c, q1, q2, q3⟩
        rw [List.getElem?_append_left (by omega)] at q1
        rw [start_at hN hv hi] at q3
        exact ⟨c, q1, q2, q3⟩
      · rintro ⟨c, q1, q2, q3⟩
        exact ⟨c, by rw [List.getElem?_append_left (by omega)]; exact q1, q2, by rw [start_at hN hv hi]; exact q3⟩
    · constructor
      · rintro ⟨c, q1, q2, q3⟩
        rw [List.getElem?_append_right (by omega)] at q1
        have := List.mem_of_getElem? q1
        rw [(List.mem_replicate.mp this).2] at q2
        cases q2
      · rintro ⟨c, q1, q2, q3⟩
        have := (List.getElem?_eq_some_iff.mp q1).1
        omega
  refine ⟨⟨?_, O.same, fun i c e => ?_, fun a b l h1 h2 => O.apart a b l ((ow _ _).mp h1) ((ow _ _).mp h2)⟩, ow⟩
  · unfold L2.start
    rw [List.length_append, List.length_append, List.length_map, List.length_replicate, List.length_replicate]
    omega
  · by_cases hi : i < n
    · rw [List.getElem?_append_left (by omega)] at e
      rw [start_at hN hv hi]
      exact O.slot i c e
    · rw [List.getElem?_append_right (by omega)] at e
      have := List.mem_of_getElem? e
      rw [(List.mem_replicate.mp this).2]
      trivial
/-- back at the caller: the arguments' cells -/
theorem leave {N : List Str} (hN : N.length = n + k) (hv : vs.length = n) (hc : cs.length = n) (O : Ok cs (vs.map some) H0 H) (hf : firstB m cs = true) (hk : keptB cs env' = true) (O' : Ok env' σ' H0' H') (G : Go m (cs ++ List.replicate k .non) (start N vs) H0 H env' σ' H0' H') :
    Stp 0 cs (vs.map some) H0 H (outCs cs env') H0' H' ∧ ∀ l i, Owns (outCs cs env') (vs.map some) i l → Owns env' σ' i l ∧ i < m := by
  obtain ⟨_, ow⟩ := start_ok hN hv hc O
  have owd : ∀ l, Owned (cs ++ List.replicate k .non) (start N vs) l ↔ Owned cs (vs.map some) l := fun l => ⟨fun ⟨i, h⟩ => ⟨i, (ow i l).mp h⟩, fun ⟨i, h⟩ => ⟨i, (ow i l).mpr h⟩⟩
  have same : ∀ (i : Nat) (c : Cell), cs[i]? = some c → c.own = true → σ'[i]? = (vs.map some)[i]? := fun i c e o => by
    have h1 := firstB_at hf e o
    have h2 := (List.getElem?_eq_some_iff.mp e).1
    rw [G.fx i h1, start_at hN hv (by omega)]
  have to : ∀ l i, Owns (outCs cs env') (vs.map some) i l → Owns env' σ' i l ∧ i < m ∧ Owns cs (vs.map some) i l := fun l i ⟨c, q1, q2, q3⟩ => by
    have hi : i < cs.length := by
      rw [← outCs_len (cs := cs) (env := env')]
      exact (List.getElem?_eq_some_iff.mp q1).1
    obtain ⟨c0, e0⟩ : ∃ c0, cs[i]? = some c0 := ⟨cs[i], List.getElem?_eq_getElem hi⟩
    cases o : c0.own with
    | false =>
      rw [outCs_no e0 o] at q1
      injection q1 with q1
      subst q1
      rw [o] at q2
      cases q2
    | true =>
      obtain ⟨e, e1, e2, e3⟩ := keptB_at hk e0 o
      exact ⟨⟨e, e1, e2, by rw [same i c0 e0 o]; exact q3⟩, firstB_at hf e0 o, c0, e0, o, q3⟩
  have iff_ : ∀ i l, Owns cs (vs.map some) i l ↔ Owns (outCs cs env') (vs.map some) i l := fun i l => ⟨fun ⟨c, q1, q2, q3⟩ => by
    obtain ⟨e, e1, e2, e3⟩ := keptB_at hk q1 q2
    exact ⟨e, e3, e2, q3⟩, fun h => (to l i h).2.2⟩
  refine ⟨⟨⟨?_, O'.same, fun i c e => ?_, fun a b l h1 h2 => O.apart a b l ((iff_ _ _).mpr h1) ((iff_ _ _).mpr h2)⟩,
    ⟨G.k0, fun a h n => G.old a h fun z => n ((owd a).mp z), fun a o h n => G.keep a o h fun z => n ((owd a).mp z), G.al, fun l ⟨i, h⟩ => .inl ⟨i, (iff_ i l).mpr h⟩, fun _ _ => rfl⟩, iff_⟩, fun l i h => ⟨(to l i h).1, (to l i h).2.1⟩⟩
  · rw [outCs_len, O.len]
  · have hi : i < cs.length := by
      rw [← outCs_len (cs := cs) (env := env')]
      exact (List.getElem?_eq_some_iff.mp e).1
    obtain ⟨c0, e0⟩ : ∃ c0, cs[i]? = some c0 := ⟨cs[i], List.getElem?_eq_getElem hi⟩
    cases o : c0.own with
    | false =>
      rw [outCs_no e0 o] at e
      injection e with e
      subst e
      exact (O.slot i c0 e0).keep G.k0 o
    | true =>
      obtain ⟨e', e1, e2, e3⟩ := keptB_at hk e0 o
      rw [e3] at e
      injection e with e
      subst e
      rw [← same i c0 e0 o]
      exact O'.slot i e' e1
/-- a def's body by the rules gives its promise -/
theorem body_of {K : PySem.W.Frag} {N : List Str} {t : TS} {pre : Spc} (hN : N.length = n + k) {vs : List V} {H : Hp} {Q : VK} {E : XK} (hs : SPD n pre vs H Q E)
    (h : ∀ cs post px, cs.length = n → pre cs post px → firstB m cs = true ∧ wpS ⟨K, m, fun _ => E⟩ t (cs ++ List.replicate k .non)
      { nx := fun env => keptB cs env = true ∧ post (.dat .non) (outCs cs env), rt := fun r env => keptB cs env = true ∧ locR m r = true ∧ post (outR r env) (outCs cs env) } (fun C fs env => keptB cs env = true ∧ px C fs (outCs cs env))) :
    t { nx := fun _ H' => Q .non H', rt := Q } (start N vs) H := by
  obtain ⟨hv, cs, H0, post, px, hc, O, pr, q, x⟩ := hs
  obtain ⟨hf, w⟩ := h cs post px hc pr
  obtain ⟨O1, ow⟩ := start_ok hN hv hc O
  refine w (start N vs) H0 H O1 (fun C d ws fs env' σ' H0' H' ⟨hk, p⟩ O' G e f => ?_) _ ⟨fun env' σ' H0' H' ⟨hk, p⟩ O' G => ?_, fun v r env' σ' H0' H' ⟨hk, hr, p⟩ O' G w => ?_, fun _ _ _ _ p => p.elim, fun _ _ _ _ p => p.elim⟩
  · exact x C d ws fs _ H0' H' p (leave hN hv hc O hf hk O' G).1 e f
  · exact q .non _ _ H0' H' rfl p (leave hN hv hc O hf hk O' G).1 .non
  · obtain ⟨S, to⟩ := leave hN hv hc O hf hk O' G
    cases r with
    | dat d => exact q v _ _ H0' H' rfl p S w
    | own c =>
      refine q v _ _ H0' H' rfl p S ?_
      obtain ⟨o, l, u, e, h0, h1, h2, h3, h4⟩ := w
      exact ⟨o, l, u, e, h0, h1, h2, h3, fun ⟨i, z⟩ => h4 ⟨i, (to l i z).1⟩⟩
    | al i =>
      obtain ⟨l, rfl, c, q1, q2, q3⟩ := w
      have hi : ¬ i < m := by
        have := of_decide_eq_true hr
        omega
      have e : outR (.al i) env' = .own c := by
        show (match env'[i]? with
          | some c => Res.own c
          | none => .al i) = _
        rw [q1]
      rw [e] at p
      refine q (.ref l) _ _ H0' H' rfl p S ?_
      obtain ⟨l', o, z1, z2, z3, z4⟩ := (slot_own q2).mp (O'.slot i c q1)
      rw [q3] at z1
      injection z1 with z1
      injection z1 with z1
      injection z1 with z1
      subst z1
      refine ⟨q2, l, o, rfl, z2, z3, z4, ?_, fun ⟨j, z⟩ => ?_⟩
      · rcases G.ow l ⟨i, c, q1, q2, q3⟩ with z | z
        · obtain ⟨j, z⟩ := z
          obtain ⟨cj, y1, y2, y3⟩ := (ow j l).mp z
          have hjm := firstB_at hf y1 y2
          have hjn := (List.getElem?_eq_some_iff.mp y1).1
          obtain ⟨e, e1, e2, e3⟩ := keptB_at hk y1 y2
          have ij := O'.apart i j l ⟨c, q1, q2, q3⟩ ⟨e, e1, e2, by rw [G.fx j hjm, start_at hN hv (by omega)]; exact y3⟩
          omega
        · exact z
      · obtain ⟨z1, z2⟩ := to l j z
        have ij := O'.apart i j l ⟨c, q1, q2, q3⟩ z1
        omega
end
end Nw

set_option Elab.async false
set_option linter.all false
set_option maxRecDepth 100000
set_option maxHeartbeats 1000000
namespace Nw
open PySem PySem.Spec PyProof.Rows L2
/-! ### calls of defs -/
section
variable {W : Wo} {env env2 : List Cell} {px : PX} {P : PR} {te to ti tl : TE} {t tk : TA} {ds : List D} {x : D} {σ : L2.St} {H0 H A0 A H0' H' : Hp} {v : V} {vs : List V}
theorem dats_slot : ∀ {vs : List V} {ds : List D} {i : Nat} {c : Cell}, DdAll H0 vs ds → (ds.map Cell.dat)[i]? = some c → c.own = false ∧ SlotOk H0 H ((vs.map some)[i]?) c := fun {vs ds i c} h e => by
  rw [List.getElem?_map] at e
  cases q : ds[i]? with
  | none => rw [q] at e; cases e
  | some d =>
    rw [q] at e
    injection e with e
    subst e
    obtain ⟨v, h1, h2⟩ := h.got q
    refine ⟨rfl, v, ?_, h2⟩
    rw [List.getElem?_map, h1]
    rfl
theorem dats_ok (O : Same H0 H) (h : DdAll H0 vs ds) : Ok (ds.map Cell.dat) (vs.map some) H0 H ∧ ∀ i l, ¬ Owns (ds.map Cell.dat) (vs.map some) i l := by
  have no : ∀ i l, ¬ Owns (ds.map Cell.dat) (vs.map some) i l := fun i l ⟨c, q1, q2, _⟩ => by
    have := (dats_slot (H := H) h q1).1
    rw [this] at q2
    cases q2
  exact ⟨⟨by rw [List.length_map, List.length_map]; exact h.len, O, fun i c e => (dats_slot h e).2, fun i _ l h1 _ => absurd h1 (no i l)⟩, no⟩
theorem own_all {env : List Cell} {m : Nat} (O : Ok env σ A0 A) (k0 : Same A0 H0') (sm : Same H0' H') (old : ∀ a, A a ≠ none → H0' a = A0 a) (keep : ∀ a o, A a = some o → H' a = some o) (al : ∀ a, A a ≠ none → H' a ≠ none) : Stp m env σ A0 A env H0' H' := by
  refine ⟨⟨O.len, sm, fun i c e => ?_, O.apart⟩, ⟨k0, fun a h _ => old a h, fun a o h _ => keep a o h, al, fun l h => .inl h, fun _ _ => rfl⟩, fun _ _ => Iff.rfl⟩
  cases o : c.own with
  | false => exact (O.slot i c e).keep k0 o
  | true =>
    obtain ⟨l, u, q1, q2, q3, q4⟩ := (slot_own o).mp (O.slot i c e)
    exact (slot_own o).mpr ⟨l, u, q1, (old l (fun z => by rw [q3] at z; cases z)).trans q2, keep l u q3, q4.mono k0⟩
/-- f(..) of data -/
theorem spd_dats {n m : Nat} {pre : Spc} {Q : VK} {E : XK} {env : List Cell} (O : Ok env σ A0 A) (h : DdAll A0 vs ds) (hn : ds.length = n) (hp : pre (ds.map Cell.dat) (fun r _ => P r env) (fun C fs _ => px C fs env))
    (q : ∀ u r H0' H', P r env → Stp m env σ A0 A env H0' H' → VAL A env σ H0' H' u r → Q u H')
    (x : ∀ (C d : Addr) (ws : List (Str × V)) (fs : List (Str × D)) H0' H', px C fs env → Stp m env σ A0 A env H0' H' → H0' d = some (.xd ws) → DdF H0' ws fs → E (.ref C) (some d) H') : SPD n pre vs A Q E := by
  obtain ⟨O1, no⟩ := dats_ok O.same h
  have nod : ∀ a, ¬ Owned (ds.map Cell.dat) (vs.map some) a := fun a ⟨i, z⟩ => no i a z
  have tos : ∀ {cs' H0' H'}, Stp 0 (ds.map Cell.dat) (vs.map some) A0 A cs' H0' H' → Stp m env σ A0 A env H0' H' := fun S =>
    own_all O S.go.k0 S.ok.same (fun a h => S.go.old a h (nod a)) (fun a o h => S.go.keep a o h (nod a)) S.go.al
  refine ⟨by rw [h.len]; exact hn, ds.map Cell.dat, A0, _, _, by rw [List.length_map]; exact hn, O1, hp, fun u r cs' H0' H' hr p S w => ?_, fun C d ws fs cs' H0' H' p S e f => x C d ws fs H0' H' p (tos S) e f⟩
  have ST := tos S
  refine q u r H0' H' p ST ?_
  cases r with
  | dat d => exact w
  | al i => cases hr
  | own c =>
    obtain ⟨o, l, u, e, h0, h1, h2, h3, h4⟩ := w
    exact ⟨o, l, u, e, h0, h1, h2, h3, fun z => (O.owned z).2 h3⟩
theorem wp_callD {n : Nat} {pre : Spc} {E : XK} (hE : W.E = fun _ => E) (h : wpA W t env (fun rs env1 => ∃ (ds : List Nw.D), datAll rs = some ds ∧ ds.length = n ∧ pre (ds.map Cell.dat) (fun r _ => P r env1) (fun C fs _ => px C fs env1)) px) :
    wpE W (tCall (SPD n pre) [] E t) env P px := fun σ H0 H O X Q q =>
  h σ H0 H O X _ fun vs rs env1 A0 A ⟨ds, er, hn, hp⟩ S w => by
    have er := datAll_map er
    subst er
    rw [List.append_nil]
    refine spd_dats (m := W.m) S.ok w.dats hn hp (fun u r H0' H' p S2 w2 => q u r env1 H0' H' p (S.trans S2) (w2.base fun l z => S.back z)) fun C d ws fs H0' H' p S2 e f => ?_
    have := X C d ws fs env1 σ H0' H' p S2.ok (S.trans S2).go e f
    rw [hE] at this
    exact this
theorem wp_callD0 {n : Nat} {pre : Spc} {E : XK} (h : wpA W t env (fun rs env1 => ∃ (ds : List Nw.D), datAll rs = some ds ∧ ds.length = n ∧ pre (ds.map Cell.dat) (fun r _ => P r env1) PX0) px) :
    wpE W (tCall (SPD n pre) [] E t) env P px := fun σ H0 H O X Q q =>
  h σ H0 H O X _ fun vs rs env1 A0 A ⟨ds, er, hn, hp⟩ S w => by
    have er := datAll_map er
    subst er
    rw [List.append_nil]
    exact spd_dats (m := W.m) (px := PX0) S.ok w.dats hn hp (fun u r H0' H' p S2 w2 => q u r env1 H0' H' p (S.trans S2) (w2.base fun l z => S.back z)) fun C d ws fs H0' H' p S2 e f => p.elim
/-- a try's body: the wish is told at the caller's slots -/
theorem wp_callS {n : Nat} {pre : Spc} (h : wpA W t env (fun rs env1 => ∃ (ds : List Nw.D), datAll rs = some ds ∧ ds.length = n ∧ pre (ds.map Cell.dat) (fun r _ => P r env1) (fun C fs _ => px C fs env1)) px) :
    wpE W (tCallS (SPD n pre) W.E t) env P px := fun σ H0 H O X Q q =>
  h σ H0 H O X _ fun vs rs env1 A0 A ⟨ds, er, hn, hp⟩ S w => by
    have er := datAll_map er
    subst er
    exact spd_dats (m := W.m) S.ok w.dats hn hp (fun u r H0' H' p S2 w2 => q u r env1 H0' H' p (S.trans S2) (w2.base fun l z => S.back z)) fun C d ws fs H0' H' p S2 e f =>
      X C d ws fs env1 σ H0' H' p S2.ok (S.trans S2).go e f
/-- f(b, ..), b an own list that f changes -/
theorem spd_own {n m i : Nat} {pre : Spc} {Q : VK} {E : XK} {env : List Cell} {b : List D} {v : V} (O : Ok env σ A0 A) (e : env[i]? = some (.lst b)) (hv : VAL H env σ A0 A v (.al i)) (h : DdAll A0 vs ds) (hn : ds.length + 1 = n)
    (hp : pre (.lst b :: ds.map Cell.dat) (fun r cs' => ∃ c, cs'[0]? = some c ∧ P r (env.set i c)) (fun C fs cs' => ∃ c, cs'[0]? = some c ∧ px C fs (env.set i c)))
    (q : ∀ u r env' H0' H', P r env' → Stp m env σ A0 A env' H0' H' → VAL A env' σ H0' H' u r → Q u H')
    (x : ∀ (C d : Addr) (ws : List (Str × V)) (fs : List (Str × D)) env' H0' H', px C fs env' → Stp m env σ A0 A env' H0' H' → H0' d = some (.xd ws) → DdF H0' ws fs → E (.ref C) (some d) H') : SPD n pre (v :: vs) A Q E := by
  obtain ⟨l, us, rfl, s, h1, h2⟩ := al_get O e hv
  have al : A l ≠ none := fun z => by rw [h1] at z; cases z
  have n0 : A0 l = none := (O.owned ⟨i, _, e, rfl, s⟩).1
  obtain ⟨O1, no⟩ := dats_ok O.same h
  have no' : ∀ k a, Owns (.lst b :: ds.map Cell.dat) ((V.ref l :: vs).map some) k a → k = 0 ∧ a = l := fun k a ⟨c, q1, q2, q3⟩ => by
    cases k with
    | zero =>
      simp at q3
      exact ⟨rfl, q3.symm⟩
    | succ k =>
      exact absurd ⟨c, by simpa using q1, q2, by simpa using q3⟩ (no k a)
  have yes : Owns (.lst b :: ds.map Cell.dat) ((V.ref l :: vs).map some) 0 l := ⟨.lst b, rfl, rfl, rfl⟩
  have O2 : Ok (.lst b :: ds.map Cell.dat) ((V.ref l :: vs).map some) A0 A := by
    refine ⟨?_, O.same, fun k c z => ?_, fun j k a z1 z2 => by rw [(no' j a z1).1, (no' k a z2).1]⟩
    · simp [h.len]
    · cases k with
      | zero =>
        simp at z
        subst z
        exact ⟨l, _, rfl, n0, h1, us, rfl, h2⟩
      | succ k =>
        have := O1.slot k c (by simpa using z)
        simpa using this
  have owd : ∀ a, Owned (.lst b :: ds.map Cell.dat) ((V.ref l :: vs).map some) a ↔ a = l := fun a => ⟨fun ⟨k, z⟩ => (no' k a z).2, fun z => ⟨0, by rw [z]; exact yes⟩⟩
  have tos : ∀ {cs' H0' H' c}, Stp 0 (.lst b :: ds.map Cell.dat) ((V.ref l :: vs).map some) A0 A cs' H0' H' → cs'[0]? = some c → Stp m env σ A0 A (env.set i c) H0' H' := fun {cs' H0' H' c} S ec => by
    have hi : i < env.length := (List.getElem?_eq_some_iff.mp e).1
    obtain ⟨c1, y1, y2, y3⟩ := (S.iff 0 l).mp yes
    rw [ec] at y1
    injection y1 with y1
    subst y1
    have sl := (slot_own y2).mp (S.ok.slot 0 c ec)
    have iff_ : ∀ k a, Owns env σ k a ↔ Owns (env.set i c) σ k a := fun k a => by
      by_cases z : k = i
      · subst z
        constructor
        · rintro ⟨c2, z1, z2, z3⟩
          exact ⟨c, List.getElem?_set_self hi, y2, z3⟩
        · rintro ⟨c2, z1, z2, z3⟩
          exact ⟨_, e, rfl, z3⟩
      · constructor
        · rintro ⟨c2, z1, z2, z3⟩
          exact ⟨c2, by rw [List.getElem?_set_ne (Ne.symm z)]; exact z1, z2, z3⟩
        · rintro ⟨c2, z1, z2, z3⟩
          rw [List.getElem?_set_ne (Ne.symm z)] at z1
          exact ⟨c2, z1, z2, z3⟩
    refine ⟨⟨by rw [List.length_set]; exact O.len, S.ok.same, fun k c2 z => ?_, fun j k a z1 z2 => O.apart j k a ((iff_ _ _).mpr z1) ((iff_ _ _).mpr z2)⟩,
      ⟨S.go.k0, fun a h z => S.go.old a h fun y => z ⟨i, _, e, rfl, by rw [(owd a).mp y]; exact s⟩, fun a o h z => S.go.keep a o h fun y => z ⟨i, _, e, rfl, by rw [(owd a).mp y]; exact s⟩, S.go.al, fun a ⟨k, z⟩ => .inl ⟨k, (iff_ k a).mpr z⟩, fun _ _ => rfl⟩, iff_⟩
    by_cases z' : k = i
    · subst z'
      rw [List.getElem?_set_self hi] at z
      injection z with z
      subst z
      obtain ⟨l', o, z1, z2, z3, z4⟩ := sl
      refine (slot_own y2).mpr ⟨l', o, ?_, z2, z3, z4⟩
      rw [s]
      exact z1
    · rw [List.getElem?_set_ne (Ne.symm z')] at z
      cases o : c2.own with
      | false => exact (O.slot k c2 z).keep S.go.k0 o
      | true =>
        obtain ⟨l', u, z1, z2, z3, z4⟩ := (slot_own o).mp (O.slot k c2 z)
        have hl : l' ≠ l := fun y => z' (O.apart k i l ⟨c2, z, o, by rw [z1, y]⟩ ⟨_, e, rfl, s⟩)
        have al' : A l' ≠ none := fun y => by rw [z3] at y; cases y
        exact (slot_own o).mpr ⟨l', u, z1, (S.go.old l' al' fun y => hl ((owd l').mp y)).trans z2, S.go.keep l' u z3 fun y => hl ((owd l').mp y), z4.mono S.go.k0⟩
  refine ⟨by rw [List.length_cons, h.len]; exact hn, .lst b :: ds.map Cell.dat, A0, _, _, by rw [List.length_cons, List.length_map]; exact hn, O2, hp, fun u r cs' H0' H' hr ⟨c, ec, p⟩ S w => ?_, fun C d ws fs cs' H0' H' ⟨c, ec, p⟩ S e f => x C d ws fs _ H0' H' p (tos S ec) e f⟩
  have ST := tos S ec
  refine q u r _ H0' H' p ST ?_
  cases r with
  | dat d => exact w
  | al i => cases hr
  | own c =>
    obtain ⟨o, l, u, e, h0, h1, h2, h3, h4⟩ := w
    refine ⟨o, l, u, e, h0, h1, h2, h3, fun ⟨k, z⟩ => ?_⟩
    exact (O.owned ⟨k, (ST.iff k l).mpr z⟩).2 h3
theorem wp_callB {n : Nat} {pre : Spc} {E : XK} (h : wpA W t env (fun rs env1 => ∃ (i : Nat) (ds b : List Nw.D), alAll rs = some (i, ds) ∧ env1[i]? = some (.lst b) ∧ ds.length + 1 = n ∧
      pre (.lst b :: ds.map Cell.dat) (fun r cs' => ∃ c, cs'[0]? = some c ∧ P r (env1.set i c)) PX0) px) : wpE W (tCall (SPD n pre) [] E t) env P px := fun σ H0 H O X Q q =>
  h σ H0 H O X _ fun vs rs env1 A0 A ⟨i, ds, b, er, e, hn, hp⟩ S w => by
    have er := alAll_map er
    subst er
    rw [List.append_nil]
    cases w with
    | cons w1 w2 =>
      refine spd_own (m := W.m) (px := PX0) S.ok e w1 w2.dats hn ?_ (fun u r env' H0' H' p S2 w2 => q u r env' H0' H' p (S.trans S2) (w2.base fun l z => S.back z)) fun C d ws fs env' H0' H' p S2 e f => p.elim
      have z : (fun (C : Addr) (fs : List (Str × D)) (cs' : List Cell) => ∃ c, cs'[0]? = some c ∧ PX0 C fs (env1.set i c)) = PX0 := by
        funext C fs cs'
        exact propext ⟨fun ⟨_, _, p⟩ => p.elim, fun p => p.elim⟩
      rw [z]
      exact hp
end

/-! ### calls by keywords alone -/
def perm {α : Type} (ix : List Nat) (xs : List α) : List α := ix.filterMap fun i => xs[i]?
theorem perm_dd {H : Hp} {vs : List V} {ds : List D} (h : DdAll H vs ds) : ∀ ix : List Nat, DdAll H (perm ix vs) (perm ix ds)
  | [] => .nil
  | i :: ix => by
    have ih := perm_dd h ix
    unfold perm at ih ⊢
    rw [List.filterMap_cons, List.filterMap_cons]
    cases e : vs[i]? with
    | none =>
      have : ds[i]? = none := by
        rw [List.getElem?_eq_none_iff] at e ⊢
        rw [← h.len]
        exact e
      rw [this]
      exact ih
    | some v =>
      obtain ⟨d, h1, h2⟩ := h.get e
      rw [h1]
      exact .cons h2 ih
theorem perm_vals {vs : List V} {us : List Value} (h : Vals vs us) : ∀ ix : List Nat, Vals (perm ix vs) (perm ix us)
  | [] => .nil
  | i :: ix => by
    have ih := perm_vals h ix
    unfold perm at ih ⊢
    rw [List.filterMap_cons, List.filterMap_cons]
    cases e : vs[i]? with
    | none =>
      rw [h.none_of e]
      exact ih
    | some v =>
      obtain ⟨u, h1, h2⟩ := h.get e
      rw [h1]
      exact .cons h2 ih
/-- how keywords alone bind -/
def KwBinds (K : PySem.W.Frag) (fd : FuncData) (ps ks : List Str) (ix : List Nat) : Prop := ∀ (s : Shared) (ws : List Value), K.In s.heap → ws.length = ks.length → BindsTo s fd ⟨[], ks.zip ws⟩ (ps.zip (perm ix ws))
def tCallP (n : Nat) (ix : List Nat) (sp : Sp) (E : XK) (tk : TA) : TE := fun σ H Q => tk σ H fun zs H1 => zs.length = n ∧ sp (perm ix zs) H1 Q E
section
variable {X : Cx} {CX : CXT} {k : Nat} {f : Addr} {fd : FuncData} {ps ks : List Str} {sp : Sp} {E : XK} {x : Str} {p pos : Pos} {kws : List Keyword} {tk : TA} {ix : List Nat}
theorem pe_callP (F : FnOk X.prog X.w X.K X.mg X.base CX k f fd ps sp) (hr : Room k X.A) (hg : Gl X x) (hm : X.mg x = some (.ref f)) (hk : PySem.W.keepIn X.K (.ref f) = true) (hb : KwBinds X.K fd ps ks ix) (hx : Passes CX X E)
    (hkw : PK X kws tk) (hall : (backToKw pos (keywordEach kws X.env)).all (·.1.isSome) = true := by rfl) (hks : (backToKw pos (keywordEach kws X.env)).filterMap (·.1) = ks := by rfl)
    (hdb : (x == ("__debug__" : Str)) = false := by decide) (hpl : ((backTo pos (starEach [] X.env)).any (·.1) || (backToKw pos (keywordEach kws X.env)).any (·.1.isNone)) = false := by rfl) :
    PE X (.Call (.Name x p) [] kws pos) (tCallP ks.length ix sp E tk) := by
  refine ⟨fun pins s σ H Q I h => ?_⟩
  refine wpAny_Call_Name_kw (ld_glob I hg hm ?_ hdb)
  refine PySem.W.callWith_KW0 (h₀ := X.base) I.ok.mod.kin hk hall ?_ hpl
  refine thn (hkw.run pos pins s σ H _ I h) fun ws s2 ⟨zs, H2, I2, rz, hl, q2⟩ => ⟨I2.kIn, ?_⟩
  rw [hks]
  have r2 := perm_vals rz ix
  refine wpAny_call (codeAny_mono (F.run X.A X.stack s2 H2 ⟨[], ks.zip ws⟩ (perm ix ws) (perm ix zs) Q E hr I2.env0 (hb s2 ws I2.kIn (rz.length.symm.trans hl)) r2 q2) fun r s' hq => ?_)
  cases r with
  | error e => exact hx pins σ H2 s2 e s' I2 hq
  | ok fl =>
    cases fl with
    | ret u => exact I2.after hq
    | next => exact False.elim hq
    | brk => exact False.elim hq
    | cont => exact False.elim hq
end
section
variable {W : Wo} {env : List Cell} {px : PX} {P : PR} {t : TA} {ds : List D}
theorem wp_callP0 {n l : Nat} {ix : List Nat} {pre : Spc} {E : XK} (h : wpA W t env (fun rs env1 => ∃ (ds : List Nw.D), datAll rs = some ds ∧ ds.length = l ∧ (perm ix ds).length = n ∧ pre ((perm ix ds).map Cell.dat) (fun r _ => P r env1) PX0) px) :
    wpE W (tCallP l ix (SPD n pre) E t) env P px := fun σ H0 H O X Q q =>
  h σ H0 H O X _ fun vs rs env1 A0 A ⟨ds, er, hl, hn, hp⟩ S w => by
    have er := datAll_map er
    subst er
    refine ⟨by rw [w.dats.len]; exact hl, ?_⟩
    exact spd_dats (m := W.m) (px := PX0) S.ok (perm_dd w.dats ix) hn hp (fun u r H0' H' p S2 w2 => q u r env1 H0' H' p (S.trans S2) (w2.base fun l z => S.back z)) fun C d ws fs H0' H' p S2 e f => p.elim
end
end Nw

set_option Elab.async false
set_option linter.all false
set_option maxRecDepth 100000
set_option maxHeartbeats 1000000
namespace L2
open PySem PySem.Spec PyProof.Rows
theorem Fun.kw {K : PySem.W.Frag} {x qual : Str} {st : Stmt} {f : Addr} {fd : FuncData} {ps ks : List Str} {ix : List Nat} (F : Fun K x qual st f fd)
    (h : ∀ (kV doc pm : Value) (an : Option Addr) (cdv ct : Value) (ws : List Value), ws.length = ks.length → bindArgs (PySem.W.fnOf x qual (defArgs st) (defBody st) (defScope st) .none kV doc pm an cdv ct) ⟨[], ks.zip ws⟩ = pure (ps.zip (Nw.perm ix ws))) : Nw.KwBinds K fd ps ks ix := by
  obtain ⟨oc, od, kV, doc, pm, an, cdv, ct, osl, rfl, lk, hcd⟩ := F.ex
  intro s ws _ hl
  exact .of_eq (h kV doc pm an cdv ct ws hl)
end L2
namespace Nw
open PySem PySem.Spec PyProof.Rows L2
/-- a word between two statements -/
theorem ws_cut {W : Wo} {env : List Cell} {px : PX} {t u : TS} {d : De} (M : List Cell → Prop) (h : wpS W t env { d with nx := M } px) (k : ∀ env1, M env1 → wpS W u env1 d px) : wpS W (tSeq t u) env d px := fun σ H0 H O X D e =>
  h σ H0 H O X _ ⟨fun env' σ' H0' H' p o g => k env' p σ' H0' H' o (X.go g) D (e.go g), e.rt, e.bk, e.ct⟩
theorem wu_neg {W : Wo} {env : List Cell} {P : PR} {px : PX} {i : Int} (p : P (.dat (.int (-i))) env) : wpU W (rU fun i => .int (-i)) (.dat (.int i)) env P px := fun σ B H0 H O _ _ v hv Q q => by
  cases hv
  exact ⟨i, rfl, q _ _ env H0 H p (.refl O) (.int _)⟩
/-! ### the law's box -/
def BoxD (ds : List D) : Prop := ∃ (ns : List Int) (a b e : Int), ds = [.lst (ns.map D.int), .int a, .int b, .int e] ∧ ns.length ≤ 63 ∧ 0 ≤ a ∧ 0 ≤ b ∧ 0 ≤ e
def preDraw : Spc := fun cs post _ => ∃ b n, cs = [.lst b, .dat (.int n)] ∧ BoxD b ∧ 0 < n ∧ n < 1073741824 ∧ ∀ b' r, BoxD b' → 0 ≤ r → r < n → post (.dat (.int r)) [.lst b', .dat (.int n)]
/-- _law_box(script) -/
def spBox (K : PySem.W.Frag) : Sp := fun vs H Q _ => ∃ (a : Addr) (ns : List Int), vs = [.ref a] ∧ SqL K H a (ns.map V.int) ∧ ns.length ≤ 63 ∧
  ∀ H' b c, Same H H' → H b = none → H c = none → b ≠ c → H' b = some (.lst [.ref c, .int 0, .int 0, .int 0]) → H' c = some (.lst (ns.map V.int)) → Q (.ref b) H'
theorem atI_int {ns : List Int} {i : Int} (h0 : 0 ≤ i) (h1 : i < ns.length) : ∃ x, atI (ns.map D.int) i = some (.int x) := by
  obtain ⟨k, rfl⟩ : ∃ k : Nat, i = k := ⟨i.toNat, by omega⟩
  have hk : k < ns.length := by omega
  refine ⟨ns[k], atI_nat ?_⟩
  rw [List.getElem?_map, List.getElem?_eq_getElem hk]
  rfl
theorem abs_nonneg (i : Int) : 0 ≤ (if i < 0 then -i else i) := by
  split <;> omega
end Nw

set_option Elab.async false
set_option linter.all false
set_option maxRecDepth 100000
set_option maxHeartbeats 1000000
namespace Nw
open PySem PySem.Spec PyProof.Rows L2
/-! ### plain data -/
mutual
def D.py : D → PyData
  | .non => .none | .bl b => .bool b | .int i => .int i | .str s => .str s
  | .tup ds => .tuple (D.pys ds) | .lst ds => .list (D.pys ds)
  | .ins _ _ => .none | .ty _ => .none | .cls _ => .none
def D.pys : List D → List PyData
  | [] => []
  | d :: ds => D.py d :: D.pys ds
end
mutual
def D.pln : D → Bool
  | .non => true | .bl _ => true | .int _ => true | .str _ => true
  | .tup ds => D.plns ds | .lst ds => D.plns ds
  | .ins _ _ => false | .ty _ => false | .cls _ => false
def D.plns : List D → Bool
  | [] => true
  | d :: ds => D.pln d && D.plns ds
end
theorem D.pys_map : ∀ ds : List D, D.pys ds = ds.map D.py
  | [] => by simp [D.pys]
  | d :: ds => by simp [D.pys, D.pys_map ds]
theorem D.plns_all : ∀ ds : List D, D.plns ds = ds.all D.pln
  | [] => by simp [D.plns]
  | d :: ds => by simp [D.plns, D.plns_all ds]
mutual
theorem Dd.dp {K : PySem.W.Frag} {H : Hp} : ∀ (d : D) {v : V}, Dd H v d → d.pln = true → Dp K H v d.py
  | .non, _, .non, _ => by simp only [D.py]; exact .non
  | .bl _, _, .bl b, _ => by simp only [D.py]; exact .bl b
  | .int _, _, .int b, _ => by simp only [D.py]; exact .int b
  | .str _, _, .str b, _ => by simp only [D.py]; exact .str b
  | .tup ds, _, .tup h a, p => by
    simp only [D.py]
    simp only [D.pln] at p
    exact .tup (SqT.of h) (DdAll.dp ds a p)
  | .lst ds, _, .lst h a, p => by
    simp only [D.py]
    simp only [D.pln] at p
    exact .lst (SqL.of h) (DdAll.dp ds a p)
  | .ins _ _, _, _, p => by simp [D.pln] at p
  | .ty _, _, _, p => by simp [D.pln] at p
  | .cls _, _, _, p => by simp [D.pln] at p
theorem DdAll.dp {K : PySem.W.Frag} {H : Hp} : ∀ (ds : List D) {vs : List V}, DdAll H vs ds → D.plns ds = true → DpAll K H vs (D.pys ds)
  | [], _, .nil, _ => by simp only [D.pys]; exact .nil
  | d :: ds, _, .cons h a, p => by
    simp only [D.plns, Bool.and_eq_true] at p
    simp only [D.pys]
    exact .cons (Dd.dp d h p.1) (DdAll.dp ds a p.2)
end
/-! ### the order of tuples -/
mutual
def ltP : PyData → PyData → Bool
  | .int i, .int j => decide (i < j)
  | .tuple xs, .tuple ys => ltPs xs ys
  | _, _ => false
def ltPs : List PyData → List PyData → Bool
  | [], [] => false
  | [], _ :: _ => true
  | _ :: _, [] => false
  | x :: xs, y :: ys => if PyData.eqv x y = true then ltPs xs ys else ltP x y
end
mutual
def okP : PyData → PyData → Bool
  | .int _, .int _ => true
  | .tuple xs, .tuple ys => okPs xs ys
  | _, _ => false
def okPs : List PyData → List PyData → Bool
  | x :: xs, y :: ys => okP x y && okPs xs ys
  | _, _ => true
end
theorem okPs_at : ∀ {xs ys : List PyData} {j : Nat} {x y : PyData}, okPs xs ys = true → xs[j]? = some x → ys[j]? = some y → okP x y = true
  | [], _, _, _, _, _, h, _ => by simp at h
  | _ :: _, [], _, _, _, _, _, h => by simp at h
  | x :: xs, y :: ys, 0, _, _, h, e, f => by
    simp at e f
    subst e
    subst f
    simp [okPs] at h
    exact h.1
  | x :: xs, y :: ys, j + 1, _, _, h, e, f => by
    simp [okPs] at h
    exact okPs_at (j := j) h.2 (by simpa using e) (by simpa using f)
theorem lexAt_shift {e r : Nat → Bool} {z : Bool} : ∀ (k i : Nat), Ob.lexAt e r z (i + 1) k = Ob.lexAt (fun j => e (j + 1)) (fun j => r (j + 1)) z i k
  | 0, _ => rfl
  | k + 1, i => by
    rw [Ob.lexAt_succ, Ob.lexAt_succ, lexAt_shift k (i + 1)]
theorem lexAt_ltPs : ∀ (xs ys : List PyData), Ob.lexAt (fun j => PyData.eqv (xs.getD j .none) (ys.getD j .none)) (fun j => ltP (xs.getD j .none) (ys.getD j .none)) (decide (xs.length < ys.length)) 0 (min xs.length ys.length) = ltPs xs ys
  | [], [] => by simp [ltPs, Ob.lexAt]
  | [], y :: ys => by simp [ltPs, Ob.lexAt]
  | x :: xs, [] => by simp [ltPs, Ob.lexAt]
  | x :: xs, y :: ys => by
    have ih := lexAt_ltPs xs ys
    have hm : min (x :: xs).length (y :: ys).length = min xs.length ys.length + 1 := by simp only [List.length_cons]; omega
    rw [hm, Ob.lexAt_succ, lexAt_shift]
    show (if PyData.eqv x y = true then Ob.lexAt (fun j => PyData.eqv (xs.getD j .none) (ys.getD j .none)) (fun j => ltP (xs.getD j .none) (ys.getD j .none)) (decide ((x :: xs).length < (y :: ys).length)) 0 (min xs.length ys.length) else ltP x y) = ltPs (x :: xs) (y :: ys)
    have hd : decide ((x :: xs).length < (y :: ys).length) = decide (xs.length < ys.length) := by
      simp only [List.length_cons]
      by_cases h : xs.length < ys.length
      · rw [decide_eq_true h, decide_eq_true (by omega)]
      · rw [decide_eq_false h, decide_eq_false (by omega)]
    rw [hd, ih]
    simp [ltPs]
theorem readsAll_at {h : Heap} : ∀ {us : List Value} {ds : List PyData} {as : List Addr} {j : Nat} {u : Value}, ReadsAll h us ds as → us[j]? = some u → ∃ d as', ds[j]? = some d ∧ Reads h u d as'
  | _, _, _, _, _, .nil, e => by simp at e
  | _, _, _, 0, _, .cons r _, e => by
    simp at e
    subst e
    exact ⟨_, _, rfl, r⟩
  | _, _, _, j + 1, u, .cons _ t, e => by
    obtain ⟨d, as', h1, h2⟩ := readsAll_at (j := j) (u := u) t (by simpa using e)
    exact ⟨d, as', by simpa using h1, h2⟩
theorem readsAll_len {h : Heap} : ∀ {us : List Value} {ds : List PyData} {as : List Addr}, ReadsAll h us ds as → us.length = ds.length
  | _, _, _, .nil => rfl
  | _, _, _, .cons _ t => congrArg Nat.succ (readsAll_len t)
theorem canLayAll_at : ∀ {xs : List PyData} {j : Nat} {x : PyData}, PyData.canLayAll0 xs = true → xs[j]? = some x → x.canLay0 = true
  | [], _, _, _, e => by simp at e
  | x :: xs, 0, _, h, e => by
    simp at e
    subst e
    simp [PyData.canLayAll0] at h
    exact h.1
  | x :: xs, j + 1, _, h, e => by
    simp [PyData.canLayAll0] at h
    exact canLayAll_at (j := j) h.2 (by simpa using e)
theorem depthAll_at : ∀ {xs : List PyData} {j : Nat} {x : PyData}, xs[j]? = some x → x.depth ≤ PyData.depthAll xs
  | [], _, _, e => by simp at e
  | x :: xs, 0, _, e => by
    simp at e
    subst e
    simp only [PyData.depthAll]
    omega
  | x :: xs, j + 1, _, e => by
    have := depthAll_at (xs := xs) (j := j) (by simpa using e)
    simp only [PyData.depthAll]
    omega
theorem lt_reads : ∀ (n : Nat) (da db : PyData) (A : Around) (s : Shared) (a b : Value) (as bs : List Addr), da.depth ≤ n → Reads s.heap a da as → Reads s.heap b db bs → da.canLay0 = true → db.canLay0 = true → okP da db = true → A.units + da.depth < cLine → Ob.RcOp .Lt A s a b (ltP da db) := by
  intro n
  induction n with
  | zero =>
    intro da db A s a b as bs hd ra rb ca cb ok hu
    cases ra with
    | int i t =>
      cases rb with
      | int j u =>
        simp only [ltP]
        exact Ob.RcOp.lt_int i j t u
      | _ => simp [okP] at ok
    | tuple _ _ _ _ =>
      simp [PyData.depth] at hd
    | _ => simp [okP] at ok
  | succ n ih =>
    intro da db A s a b as bs hd ra rb ca cb ok hu
    cases ra with
    | int i t =>
      cases rb with
      | int j u =>
        simp only [ltP]
        exact Ob.RcOp.lt_int i j t u
      | _ => simp [okP] at ok
    | @tuple p o vs k xs as' h1 h2 h3 h4 =>
      cases rb with
      | @tuple q o2 ws k2 ys bs' g1 g2 g3 g4 =>
        simp only [ltP]
        simp only [okP] at ok
        simp only [PyData.depth] at hd hu
        have ca' : PyData.canLayAll0 xs = true := by simpa [PyData.canLay0] using ca
        have cb' : PyData.canLayAll0 ys = true := by simpa [PyData.canLay0] using cb
        have l1 : vs.size = xs.length := by
          have := readsAll_len h4
          simpa using this
        have l2 : ws.size = ys.length := by
          have := readsAll_len g4
          simpa using this
        have R := Ob.RcOp.tuples_lt (A := A) (s := s) (l := p) (b := q) (items := vs) (items2 := ws) (e := fun j => PyData.eqv (xs.getD j .none) (ys.getD j .none)) (r := fun j => ltP (xs.getD j .none) (ys.getD j .none))
          ⟨o, h1, h2, k, h3⟩ ⟨o2, g1, g2, k2, g3⟩ (by omega) (fun j j1 j2 => ?_) (fun j j1 j2 _ => ?_)
        · rw [l1, l2, lexAt_ltPs] at R
          exact R
        · obtain ⟨d, as1, e1, r1⟩ := readsAll_at (j := j) (u := vs[j]) h4 (by rw [List.getElem?_eq_getElem (by simpa using j1)]; simp)
          obtain ⟨d2, as2, e2, r2⟩ := readsAll_at (j := j) (u := ws[j]) g4 (by rw [List.getElem?_eq_getElem (by simpa using j2)]; simp)
          have hdp := depthAll_at e1
          rw [List.getD_eq_getElem?_getD, List.getD_eq_getElem?_getD, e1, e2]
          exact SeqAt.eqAt_reads d d2 A.in1 s _ _ _ _ r1 r2 (canLayAll_at ca' e1) (canLayAll_at cb' e2) (by
            show A.units + 1 + min d.depth d2.depth < cLine
            have : min d.depth d2.depth ≤ d.depth := Nat.min_le_left _ _
            omega)
        · obtain ⟨d, as1, e1, r1⟩ := readsAll_at (j := j) (u := vs[j]) h4 (by rw [List.getElem?_eq_getElem (by simpa using j1)]; simp)
          obtain ⟨d2, as2, e2, r2⟩ := readsAll_at (j := j) (u := ws[j]) g4 (by rw [List.getElem?_eq_getElem (by simpa using j2)]; simp)
          have hdp := depthAll_at e1
          rw [List.getD_eq_getElem?_getD, List.getD_eq_getElem?_getD, e1, e2]
          exact ih d d2 A.in1 s _ _ _ _ (by omega) r1 r2 (canLayAll_at ca' e1) (canLayAll_at cb' e2) (okPs_at ok e1 e2) (by
            show A.units + 1 + d.depth < cLine
            omega)
      | _ => simp [okP] at ok
    | _ => simp [okP] at ok
def rLtD (K : PySem.W.Frag) : R2 := fun x y H Q => ∃ d e, Dp K H x d ∧ Dp K H y e ∧ SeqAt.shaped d = true ∧ SeqAt.shaped e = true ∧ okP d e = true ∧ Q (.bl (ltP d e)) H
theorem op_ltD {X : Cx} (hu : X.A.units + 64 < cLine) : OpR X (compareOp .Lt) (rLtD X.K) := by
  intro pins s σ H x y v u Q I rx ry h
  obtain ⟨d, e, hd, he, sd, se, ok, q⟩ := h
  obtain ⟨as, r1⟩ := Dp.reads I d x v hd rx
  obtain ⟨bs, r2⟩ := Dp.reads I e y u he ry
  have dd := SeqAt.depth_of_shaped sd
  exact lt_reads d.depth d e X.A s v u as bs (Nat.le_refl _) r1 r2 (SeqAt.canLay_of_shaped sd) (SeqAt.canLay_of_shaped se) ok (by omega) X.prog X.w X.xe _ ⟨.bl _, H, I, rfl, q⟩
/-! ### repr of plain data -/
def rReprD (K : PySem.W.Frag) : List V → Hp → VK → Prop := fun xs H Q => ∃ x d, xs = [x] ∧ Dp K H x d ∧ d.showable = true ∧ d.depth ≤ 60 ∧ d.shown.length ≤ sizeLine ∧ Q (.str d.shown) H
end Nw

set_option Elab.async false
set_option linter.all false
set_option maxRecDepth 100000
set_option maxHeartbeats 1000000
namespace Nw
open PySem PySem.Spec PyProof.Rows L2
/-! ### promises that hold where no repr is under way: so repr can be told -/
structure FnG (P : Program) (w : World) (K : PySem.W.Frag) (mg : Str → Option Value) (base : Heap) (CX : CXT) (k : Nat) (f : Addr) (fd : FuncData) (ps : List Str) (sp : Sp) : Prop where
  len : ∀ vs H Q E, sp vs H Q E → vs.length = ps.length
  run : ∀ (A : Around) (outer : List Env) (s : Shared) (H : Hp) (args : Args) (us : List Value) (vs : List V) (Q : VK) (E : XK), A.guards = some [] → Room k A → Env0 P w K mg base A outer s H →
    BindsTo s fd args (ps.zip us) → Vals vs us → sp vs H Q E → codeAny (model P w) A (.call (.ref f) args) (CR CX outer P w H s Q E) s
section
variable {P : Program} {w : World} {K : PySem.W.Frag} {mg : Str → Option Value} {base : Heap} {CX : CXT}
theorem FnG.of {k : Nat} {f : Addr} {fd : FuncData} {ps : List Str} {sp : Sp} (F : FnOk P w K mg base CX k f fd ps sp) : FnG P w K mg base CX k f fd ps sp :=
  ⟨F.len, fun A outer s H args us vs Q E _ hr he hb hv hs => F.run A outer s H args us vs Q E hr he hb hv hs⟩
/-- a def by its body -/
theorem fnG_of {k : Nat} {x qual : Str} {st : Stmt} {f : Addr} {fd : FuncData} {N ps : List Str} {sp : Sp} (F : Fun K x qual st f fd) (S : FnScope N ps (defScope st)) (len : ∀ vs H Q E, sp vs H Q E → vs.length = ps.length)
    (body : ∀ (cdv : Value) (A : Around) (outer : List Env) (s : Shared) (H : Hp) (vs : List V) (Q : VK) (E : XK), A.guards = some [] → Room k (A.deeper (envOfC qual (defScope st) s.heap.objs.size f cdv)) → sp vs H Q E →
      ∃ t, PSs (cxOf CX P w K mg base N qual (defScope st) f cdv A outer s H E) (defBody st) t ∧ t { nx := fun _ H' => Q .non H', rt := Q } (L2.start N vs) H) : FnG P w K mg base CX (k + 1) f fd ps sp := by
  obtain ⟨oc, od, kV, doc, pm, an, cdv, ct, osl, rfl, lk, hcd⟩ := F.ex
  refine ⟨len, fun A outer s H args us vs Q E hg room env binds vals want => ?_⟩
  have inK : K.In s.heap := env.mod.kin.keeps fun b o e => (env.bs b o e).1
  have kinds : ∀ y ∈ ps.zip us, (defScope st).names.lookup y.1 = some .local ∨ ((defScope st).names.lookup y.1 = some .cell ∧ ((cellsFrom (s.heap.objs.size + 1) (defScope st).names []).lookup y.1).isSome = true) := by
    rintro ⟨a, b⟩ hy
    cases S.par a (List.of_mem_zip hy).1 with
    | inl q => exact .inl q
    | inr q => exact .inr ⟨q, PySem.W.cellsFrom_some _ _ _ (.inl q)⟩
  apply codeAny_call_function room.depth (inK _ _ lk) rfl S.co S.gen rfl (PySem.W.codeRec_of inK hcd)
  apply binds
  refine wpAny_newFunctionEnv_cells S.kind kinds fun env' he s1 y => ?_
  cases he
  refine ⟨(env.mod.nolimit.keeps fun b o e => (env.bs b o e).1).keeps y.toInCall.keep, codeAny_func ?_⟩
  obtain ⟨t, ht, hq⟩ := body cdv A outer s H vs Q E hg (room.deeper _) want
  have J : L2.Inv (cxOf CX P w K mg base N qual (defScope st) f cdv A outer s H E) [] (L2.start N vs) H s1 := inv_start S room.hd env (len _ _ _ _ want) vals y
  refine wpAny_mono (ht.run [] s1 (L2.start N vs) H _ J hq) (fun fl s' h => ?_) fun e s' h => h
  cases fl with
  | ret u =>
    obtain ⟨v, σ', H', I, r, q⟩ := h
    exact ⟨v, H', I.os, I.bare, I.base, I.hok, r, q⟩
  | next =>
    obtain ⟨σ', H', I, q⟩ := h
    exact ⟨V.non, H', I.os, I.bare, I.base, I.hok, rfl, q⟩
  | brk =>
    obtain ⟨_, _, _, z⟩ := h
    exact z.elim
  | cont =>
    obtain ⟨_, _, _, z⟩ := h
    exact z.elim
theorem okG {x qual : Str} {st : Stmt} {f : Addr} {fd : FuncData} {N ps : List Str} {k : Nat} {sp : Sp} (F : Fun K x qual st f fd) (S : FnScope N ps (defScope st)) (len : ∀ vs H Q E, sp vs H Q E → vs.length = ps.length)
    (body : ∀ (cdv : Value) (A : Around) (outer : List Env) (s : Shared) (H : Hp) (vs : List V) (Q : VK) (E : XK), A.guards = some [] → Room k (A.deeper (envOfC qual (defScope st) s.heap.objs.size f cdv)) → sp vs H Q E →
      ∃ t, PSs (cxOf CX0 P w K mg base N qual (defScope st) f cdv A outer s H E).nox (defBody st) t ∧ t { nx := fun _ H' => Q .non H', rt := Q } (L2.start N vs) H) : FnG P w K mg base CX0 (k + 1) f fd ps sp :=
  fnG_of F S len fun cdv A outer s H vs Q E hg hr h => by
    obtain ⟨t, h1, h2⟩ := body cdv A outer s H vs Q E hg hr h
    exact ⟨t, h1.nox, h2⟩
end
mutual
theorem noDict {K : PySem.W.Frag} {H : Hp} : ∀ {d : PyData} {v : V}, Dp K H v d → d.hasDict = false
  | _, _, .non => by simp only [PyData.hasDict]
  | _, _, .bl _ => by simp only [PyData.hasDict]
  | _, _, .int _ => by simp only [PyData.hasDict]
  | _, _, .str _ => by simp only [PyData.hasDict]
  | _, _, .lst _ h => by
    simp only [PyData.hasDict]
    exact noDicts h
  | _, _, .tup _ h => by
    simp only [PyData.hasDict]
    exact noDicts h
theorem noDicts {K : PySem.W.Frag} {H : Hp} : ∀ {ds : List PyData} {vs : List V}, DpAll K H vs ds → PyData.hasDictAll ds = false
  | _, _, .nil => by simp only [PyData.hasDictAll]
  | _, _, .cons h t => by
    simp only [PyData.hasDictAll, noDict h, noDicts t, Bool.or_self]
end
section
variable {X : Cx} {CX : CXT} {k : Nat} {f : Addr} {fd : FuncData} {ps ks : List Str} {sp : Sp} {E : XK} {x : Str} {p pos : Pos} {e : Expr} {es : List Expr} {kws : List Keyword} {t tk : TA} {ix : List Nat}
/-- the callee's end is the call's -/
theorem callG {pins : List (Addr × Obj)} {σ : L2.St} {H : Hp} {s : Shared} {Q : VK} {us : List Value} {vs : List V} {args : Args} (F : FnG X.prog X.w X.K X.mg X.base CX k f fd ps sp) (hG : X.A.guards = some []) (hr : Room k X.A) (hb : BindsTo s fd args (ps.zip us))
    (hx : ∀ e s', CX X.stack H s E e s' → X.xe e s') (I : L2.Inv X pins σ H s) (r : Vals vs us) (h : sp vs H Q E) : codeAny (model X.prog X.w) X.A (.call (.ref f) args) (fun r s' => match r with
      | .ok (.ret u) => EP X pins σ Q u s'
      | .ok _ => False
      | .error e => X.xe e s') s := by
  refine codeAny_mono (F.run X.A X.stack s H args us vs Q E hG hr I.env0 hb r h) fun r s' q => ?_
  match r, q with
  | .error e, q => exact hx e s' q
  | .ok (.ret u), q => exact I.after q
theorem pe_callG (F : FnG X.prog X.w X.K X.mg X.base CX k f fd ps sp) (hG : X.A.guards = some []) (hr : Room k X.A) (hg : Gl X x) (hm : X.mg x = some (.ref f)) (hk : PySem.W.keepIn X.K (.ref f) = true) (hb : Binds X.K fd ps [])
    (hx : Passes CX X E) (ha : PA X (e :: es) t) (hdb : (x == ("__debug__" : Str)) = false := by decide) (he : starEach (e :: es) X.env = (false, eval e X.env) :: starEach es X.env := by rfl) (hpl : (backTo pos (starEach es X.env)).any (·.1) = false := by rfl) :
    PE X (.Call (.Name x p) (e :: es) [] pos) (tCall sp [] E t) := by
  constructor
  intro pins s σ H Q I h
  apply wpAny_Call_Name_kw
  refine ld_glob I hg hm ?_ hdb
  refine PySem.W.callWith_K (h₀ := X.base) I.ok.mod.kin hk ?_ he hpl
  refine thn (ha.run pos pins s σ H _ I h) fun us s1 ⟨vs, H1, J, r, q⟩ => ⟨J.kIn, ?_⟩
  have q1 : sp (vs ++ []) H1 Q E := q
  rw [List.append_nil] at q1
  have hl : us.length = ps.length := r.length.symm.trans (F.len _ _ _ _ q1)
  have b := hb s1 us J.kIn (by rw [List.append_nil]; exact hl)
  rw [List.append_nil] at b
  exact wpAny_call (callG F hG hr b (fun e s' z => hx pins σ H1 s1 e s' J z) J r q1)
theorem pe_callG0 (F : FnG X.prog X.w X.K X.mg X.base CX k f fd ps sp) (hG : X.A.guards = some []) (hr : Room k X.A) (hg : Gl X x) (hm : X.mg x = some (.ref f)) (hk : PySem.W.keepIn X.K (.ref f) = true) (hb : Binds X.K fd ps [])
    (hx : Passes CX X E) (hdb : (x == ("__debug__" : Str)) = false := by decide) : PE X (.Call (.Name x p) [] [] pos) (tCall sp [] E tNil) := by
  constructor
  intro pins s σ H Q I h
  apply wpAny_Call_Name_kw
  refine ld_glob I hg hm ?_ hdb
  have q : sp [] H Q E := h
  have b := hb s [] I.kIn (by have := F.len _ _ _ _ q; simpa using this)
  exact PySem.W.callWith_K0 I.kIn hk (wpAny_call (callG F hG hr b (fun e s' z => hx pins σ H s e s' I z) I .nil q))
theorem pe_callPG (F : FnG X.prog X.w X.K X.mg X.base CX k f fd ps sp) (hG : X.A.guards = some []) (hr : Room k X.A) (hg : Gl X x) (hm : X.mg x = some (.ref f)) (hk : PySem.W.keepIn X.K (.ref f) = true) (hb : KwBinds X.K fd ps ks ix) (hx : Passes CX X E)
    (hkw : PK X kws tk) (hall : (backToKw pos (keywordEach kws X.env)).all (·.1.isSome) = true := by rfl) (hks : (backToKw pos (keywordEach kws X.env)).filterMap (·.1) = ks := by rfl)
    (hdb : (x == ("__debug__" : Str)) = false := by decide) (hpl : ((backTo pos (starEach [] X.env)).any (·.1) || (backToKw pos (keywordEach kws X.env)).any (·.1.isNone)) = false := by rfl) :
    PE X (.Call (.Name x p) [] kws pos) (tCallP ks.length ix sp E tk) := by
  constructor
  intro pins s σ H Q I h
  apply wpAny_Call_Name_kw
  refine ld_glob I hg hm ?_ hdb
  refine PySem.W.callWith_KW0 (h₀ := X.base) I.ok.mod.kin hk hall ?_ hpl
  refine thn (hkw.run pos pins s σ H _ I h) fun ws s2 ⟨zs, H2, J, r, hl, q⟩ => ⟨J.kIn, ?_⟩
  rw [hks]
  exact wpAny_call (callG F hG hr (hb s2 ws J.kIn (r.length.symm.trans hl)) (fun e s' z => hx pins σ H2 s2 e s' J z) J (perm_vals r ix) q)
/-- in a try's body -/
theorem pe_callSG {E : L2.St → XK} (F : FnG X.prog X.w X.K X.mg X.base CX k f fd ps sp) (hG : X.A.guards = some []) (hr : Room k X.A) (hg : Gl X x) (hm : X.mg x = some (.ref f)) (hk : PySem.W.keepIn X.K (.ref f) = true) (hb : Binds X.K fd ps [])
    (hx : ∀ σ, PassesAt CX X σ (E σ)) (ha : PA X (e :: es) t) (hdb : (x == ("__debug__" : Str)) = false := by decide) (he : starEach (e :: es) X.env = (false, eval e X.env) :: starEach es X.env := by rfl) (hpl : (backTo pos (starEach es X.env)).any (·.1) = false := by rfl) :
    PE X (.Call (.Name x p) (e :: es) [] pos) (tCallS sp E t) := by
  constructor
  intro pins s σ H Q I h
  apply wpAny_Call_Name_kw
  refine ld_glob I hg hm ?_ hdb
  refine PySem.W.callWith_K (h₀ := X.base) I.ok.mod.kin hk ?_ he hpl
  refine thn (ha.run pos pins s σ H _ I h) fun us s1 ⟨vs, H1, J, r, q⟩ => ⟨J.kIn, ?_⟩
  have hl : us.length = ps.length := r.length.symm.trans (F.len _ _ _ _ q)
  have b := hb s1 us J.kIn (by rw [List.append_nil]; exact hl)
  rw [List.append_nil] at b
  exact wpAny_call (callG F hG hr b (fun e s' z => hx σ pins H1 s1 e s' J z) J r q)
/-- repr of plain data -/
theorem call_reprD (hG : X.A.guards = some []) (hr : Room k X.A) : CallR X (.builtin "repr") (rReprD X.K) := by
  intro pins s σ H xs us Q I r h
  obtain ⟨x, d, rfl, hd, hs, hdp, hl, q⟩ := h
  obtain ⟨u, rfl, rx⟩ := vals1 r
  obtain ⟨as, rd⟩ := Dp.reads I d x u hd rx
  have hu : X.A.units + 200 < cLine := by have := hr.un; omega
  have main : ∀ a : Addr, u = .ref a → d.hasDict = false → wpAny (model X.prog X.w) X.A (call (.builtin "repr") [u]) (EP X pins σ Q) X.xe s := fun a e nd => by
    subst e
    refine repr_of_reads' rd hs (fun z => by rw [nd] at z; cases z) hG (by omega) (fun _ _ z => z) (fun h' tk ts keep => ?_) hl
    exact ⟨.str _, H, I.kept (t' := ts) keep, ⟨tk, rfl⟩, q⟩
  cases hd with
  | non =>
    cases rx
    exact PySem.P.repr_of_none ⟨.str _, H, I.tok _, ⟨_, rfl⟩, (by simpa [PyData.shown] using q)⟩
  | bl b =>
    cases rx
    exact PySem.P.repr_of_bool ⟨.str _, H, I.tok _, ⟨_, rfl⟩, (by simpa [PyData.shown] using q)⟩
  | int i =>
    obtain ⟨t, rfl⟩ := rx
    exact PySem.P.repr_of_int (by simpa [PyData.showable] using hs) ⟨.str _, H, I.tok _, ⟨_, rfl⟩, (by simpa [PyData.shown] using q)⟩
  | str z =>
    obtain ⟨t, rfl⟩ := rx
    exact PySem.P.repr_of_str ⟨.str _, H, I.tok _, ⟨_, rfl⟩, (by simpa [PyData.shown] using q)⟩ (by simpa [PyData.shown] using hl)
  | lst h1 h2 =>
    cases rx
    exact main _ rfl (noDict (.lst h1 h2))
  | tup h1 h2 =>
    cases rx
    exact main _ rfl (noDict (.tup h1 h2))
end
end Nw

set_option Elab.async false
set_option linter.all false
set_option maxRecDepth 100000
set_option maxHeartbeats 1000000
namespace Nw
open PySem PySem.Spec PyProof.Rows L2
section
variable {W : Wo} {env : List Cell} {P : PR} {px : PX} {d e : D}
theorem wo_ltD (pd : d.pln = true) (pe : e.pln = true) (sd : SeqAt.shaped d.py = true) (se : SeqAt.shaped e.py = true) (ok : okP d.py e.py = true) (p : P (.dat (.bl (ltP d.py e.py))) env) : wpO W (rLtD W.K) (.dat d) (.dat e) env P px := fun σ B H0 H O _ _ v w hv hw Q q =>
  ⟨d.py, e.py, Dd.dp d (Dd.mono O.same hv) pd, Dd.dp e (Dd.mono O.same hw) pe, sd, se, ok, q _ _ env H0 H p (.refl O) (.bl _)⟩
theorem wo_eqD (pd : d.pln = true) (pe : e.pln = true) (sd : SeqAt.shaped d.py = true) (se : SeqAt.shaped e.py = true) (p : P (.dat (.bl (PyData.eqv d.py e.py))) env) : wpO W (rEqD W.K) (.dat d) (.dat e) env P px := fun σ B H0 H O _ _ v w hv hw Q q =>
  ⟨d.py, e.py, Dd.dp d (Dd.mono O.same hv) pd, Dd.dp e (Dd.mono O.same hw) pe, sd, se, q _ _ env H0 H p (.refl O) (.bl _)⟩
theorem wo_neD (pd : d.pln = true) (pe : e.pln = true) (sd : SeqAt.shaped d.py = true) (se : SeqAt.shaped e.py = true) (p : P (.dat (.bl (!PyData.eqv d.py e.py))) env) : wpO W (rNeD W.K) (.dat d) (.dat e) env P px := fun σ B H0 H O _ _ v w hv hw Q q =>
  ⟨d.py, e.py, Dd.dp d (Dd.mono O.same hv) pd, Dd.dp e (Dd.mono O.same hw) pe, sd, se, q _ _ env H0 H p (.refl O) (.bl _)⟩
theorem wc_repr (pd : d.pln = true) (hs : d.py.showable = true) (hd : d.py.depth ≤ 60) (hl : d.py.shown.length ≤ sizeLine) (p : P (.dat (.str d.py.shown)) env) : wpC W (rReprD W.K) [.dat d] env P px := fun σ B H0 H O _ _ vs hv Q q => by
  obtain ⟨v, rfl, h1⟩ := hv.one
  exact ⟨v, d.py, rfl, Dd.dp d (Dd.mono O.same h1) pd, hs, hd, hl, q _ _ env H0 H p (.refl O) (.str _)⟩
end
/-! ### words -/
def tw (w : List Int) : D := .tup (w.map D.int)
theorem pys_ints : ∀ w : List Int, D.pys (w.map D.int) = w.map PyData.int
  | [] => by simp [D.pys]
  | x :: w => by simp [D.pys, D.py, pys_ints w]
theorem tw_py (w : List Int) : (tw w).py = .tuple (w.map PyData.int) := by
  show D.py (.tup (w.map D.int)) = _
  simp only [D.py, pys_ints]
theorem plns_ints : ∀ w : List Int, D.plns (w.map D.int) = true
  | [] => by simp [D.plns]
  | x :: w => by simp [D.plns, D.pln, plns_ints w]
theorem tw_pln (w : List Int) : (tw w).pln = true := by
  show D.pln (.tup (w.map D.int)) = true
  simp only [D.pln, plns_ints]
theorem canLay_ints : ∀ w : List Int, PyData.canLayAll0 (w.map PyData.int) = true
  | [] => by simp [PyData.canLayAll0]
  | x :: w => by simp [PyData.canLayAll0, PyData.canLay0, canLay_ints w]
theorem depth_ints : ∀ w : List Int, PyData.depthAll (w.map PyData.int) = 0
  | [] => by simp [PyData.depthAll]
  | x :: w => by simp [PyData.depthAll, PyData.depth, depth_ints w]
theorem tw_shaped (w : List Int) : SeqAt.shaped (tw w).py = true := by
  rw [tw_py]
  unfold SeqAt.shaped
  simp only [PyData.canLay0, PyData.depth, canLay_ints, depth_ints]
  rfl
theorem eqv_ints : ∀ u v : List Int, PyData.eqvAll (u.map PyData.int) (v.map PyData.int) = decide (u = v)
  | [], [] => by simp [PyData.eqvAll]
  | [], y :: v => by simp [PyData.eqvAll]
  | x :: u, [] => by simp [PyData.eqvAll]
  | x :: u, y :: v => by
    simp only [List.map_cons, PyData.eqvAll, PyData.eqv, eqv_ints u v, List.cons.injEq]
    by_cases h : x = y
    · by_cases k : u = v
      · simp [h, k]
      · simp [h, k]
    · simp [h]
theorem tw_eqv (u v : List Int) : PyData.eqv (tw u).py (tw v).py = decide (u = v) := by
  rw [tw_py, tw_py]
  simp only [PyData.eqv, eqv_ints]
theorem ltPs_ints : ∀ u v : List Int, ltPs (u.map PyData.int) (v.map PyData.int) = HT.lexLt u v
  | [], [] => by simp [ltPs, HT.lexLt]
  | [], y :: v => by simp [ltPs, HT.lexLt]
  | x :: u, [] => by simp [ltPs, HT.lexLt]
  | x :: u, y :: v => by
    simp only [List.map_cons, ltPs, PyData.eqv, ltP, HT.lexLt_cons, ltPs_ints u v, beq_iff_eq]
theorem okPs_ints : ∀ u v : List Int, okPs (u.map PyData.int) (v.map PyData.int) = true
  | [], _ => by simp [okPs]
  | x :: u, [] => by simp [okPs]
  | x :: u, y :: v => by simp [okPs, okP, okPs_ints u v]
/-- one word is the first of both -/
def ahead (u v : List Int) : Bool := if u.length = v.length then HT.lexLt u v else decide (u.length < v.length)
/-- the pair of a word's length and the word -/
def lw (w : List Int) : D := .tup [.int (w.length : Int), tw w]
theorem lw_py (w : List Int) : (lw w).py = .tuple [.int (w.length : Int), .tuple (w.map PyData.int)] := by
  show D.py (.tup [.int (w.length : Int), tw w]) = _
  simp only [D.py, D.pys, tw_py]
theorem lw_pln (w : List Int) : (lw w).pln = true := by
  show D.pln (.tup [.int (w.length : Int), tw w]) = true
  simp only [D.pln, D.plns, tw_pln, Bool.and_true]
theorem lw_shaped (w : List Int) : SeqAt.shaped (lw w).py = true := by
  rw [lw_py]
  unfold SeqAt.shaped
  simp only [PyData.canLay0, PyData.canLayAll0, PyData.depth, PyData.depthAll, canLay_ints, depth_ints]
  rfl
theorem lw_ok (u v : List Int) : okP (lw u).py (lw v).py = true := by
  rw [lw_py, lw_py]
  simp only [okP, okPs, okPs_ints, Bool.and_true]
theorem lw_lt (u v : List Int) : ltP (lw u).py (lw v).py = ahead u v := by
  rw [lw_py, lw_py]
  simp only [ltP, ltPs, PyData.eqv, ltPs_ints, eqv_ints]
  unfold ahead
  by_cases h : u.length = v.length
  · simp only [h, beq_self_eq_true, if_true]
    by_cases k : u = v
    · subst k
      have irr : ∀ w : List Int, HT.lexLt w w = false := fun w => by
        induction w with
        | nil => rfl
        | cons x w ih => rw [HT.lexLt_cons, if_pos rfl, ih]
      simp [irr]
    · simp [k]
  · have h2 : ¬ ((u.length : Int) = (v.length : Int)) := fun e => h (by omega)
    have h3 : ((u.length : Int) == (v.length : Int)) = false := beq_eq_false_iff_ne.mpr h2
    simp only [h3, Bool.false_eq_true, if_false, h]
    by_cases l : u.length < v.length
    · rw [decide_eq_true l, decide_eq_true (by omega)]
    · rw [decide_eq_false l, decide_eq_false (by omega)]
/-- from place n on both are compared -/
theorem lexLt_step {u v : List Int} {n : Nat} {x y : Int} (hx : u[n]? = some x) (hy : v[n]? = some y) : HT.lexLt (u.drop n) (v.drop n) = if x = y then HT.lexLt (u.drop (n + 1)) (v.drop (n + 1)) else decide (x < y) := by
  obtain ⟨h1, e1⟩ := List.getElem?_eq_some_iff.mp hx
  obtain ⟨h2, e2⟩ := List.getElem?_eq_some_iff.mp hy
  rw [List.drop_eq_getElem_cons h1, List.drop_eq_getElem_cons h2, e1, e2, HT.lexLt_cons]

theorem cutD_take (ds : List D) (n : Nat) : cutD ds none (some (n : Int)) = ds.take n := by
  unfold cutD
  rw [HT.sIx_none, HT.sIx_nat, List.drop_zero, Nat.sub_zero]
  by_cases h : n ≤ ds.length
  · rw [Nat.min_eq_left h]
  · rw [Nat.min_eq_right (by omega), List.take_length, List.take_of_length_le (by omega)]
theorem cutD_drop (ds : List D) (n : Nat) : cutD ds (some (n : Int)) none = ds.drop n := by
  unfold cutD
  rw [HT.sIx_none, HT.sIx_nat]
  by_cases h : n ≤ ds.length
  · rw [Nat.min_eq_left h, List.take_of_length_le (by rw [List.length_drop]; omega)]
  · rw [Nat.min_eq_right (by omega), Nat.sub_self, List.take_zero, List.drop_eq_nil_of_le (by omega)]
theorem tup_take (w : List Int) (n : Nat) : D.tup (cutD (w.map D.int) none (some (n : Int))) = tw (w.take n) := by
  rw [cutD_take, ← List.map_take]
  rfl
theorem tup_drop (w : List Int) (n : Nat) : D.tup (cutD (w.map D.int) (some (n : Int)) none) = tw (w.drop n) := by
  rw [cutD_drop, ← List.map_drop]
  rfl
section
variable {W : Wo} {env : List Cell} {P : PR} {px : PX}
theorem wo_catW {u v : List Int} (hl : u.length + v.length ≤ 100000) (p : P (.dat (tw (u ++ v))) env) : wpO W (rCatA W.K) (.dat (tw u)) (.dat (tw v)) env P px := by
  refine wo_catT (by rw [List.length_map, List.length_map]; exact hl) ?_
  rw [← List.map_append]
  exact p
end
/-! ### the law's helpers -/
def preWord : Spc := fun cs post _ => ∃ (b : List D) (k m : Int), cs = [.lst b, .dat (.int k), .dat (.int m)] ∧ BoxD b ∧ 0 < k ∧ k < 1073741824 ∧ 0 ≤ m ∧ m < 1000 ∧
  ∀ b' w, BoxD b' → (w.length : Int) ≤ m → (∀ x ∈ w, 0 ≤ x ∧ x < k) → post (.dat (tw w)) [.lst b', .dat (.int k), .dat (.int m)]
section
variable {W : Wo} {env : List Cell} {P : PR} {px : PX} {t : TA} {E : XK}
theorem wp_draw (h : wpA W t env (fun rs env1 => ∃ (i : Nat) (n : Int), rs = [.al i, .dat (.int n)] ∧ ∃ b, env1[i]? = some (.lst b) ∧ BoxD b ∧ 0 < n ∧ n < 1073741824 ∧
    ∀ b' r, BoxD b' → 0 ≤ r → r < n → P (.dat (.int r)) (env1.set i (.lst b'))) px) : wpE W (tCall (SPD 2 preDraw) [] E t) env P px :=
  wp_callB (wpA.imp h fun rs env1 ⟨i, n, e, b, e1, hb, n0, n1, q⟩ => ⟨i, [.int n], b, by rw [e]; rfl, e1, rfl, b, n, rfl, hb, n0, n1, fun b' r hb' r0 r1 => ⟨_, rfl, q b' r hb' r0 r1⟩⟩)
theorem wp_word (h : wpA W t env (fun rs env1 => ∃ (i : Nat) (k m : Int), rs = [.al i, .dat (.int k), .dat (.int m)] ∧ ∃ b, env1[i]? = some (.lst b) ∧ BoxD b ∧ 0 < k ∧ k < 1073741824 ∧ 0 ≤ m ∧ m < 1000 ∧
    ∀ b' w, BoxD b' → (w.length : Int) ≤ m → (∀ x ∈ w, 0 ≤ x ∧ x < k) → P (.dat (tw w)) (env1.set i (.lst b'))) px) : wpE W (tCall (SPD 3 preWord) [] E t) env P px :=
  wp_callB (wpA.imp h fun rs env1 ⟨i, k, m, e, b, e1, hb, k0, k9, m0, m9, q⟩ => ⟨i, [.int k, .int m], b, by rw [e]; rfl, e1, rfl, b, k, m, rfl, hb, k0, k9, m0, m9, fun b' w hb' h1 h2 => ⟨_, rfl, q b' w hb' h1 h2⟩⟩)
end
theorem map_snoc (ns : List Int) (r : Int) : ns.map D.int ++ [D.int r] = (ns ++ [r]).map D.int := by rw [List.map_append]; rfl
theorem cut_ints (w : List Int) (lo hi : Option Int) : cutD (w.map D.int) lo hi = ((w.drop (HT.sIx w.length 0 lo)).take (HT.sIx w.length w.length hi - HT.sIx w.length 0 lo)).map D.int := by
  unfold cutD
  rw [List.length_map, ← List.map_drop, ← List.map_take]
theorem cut_len (ds : List D) (lo hi : Option Int) : (cutD ds lo hi).length ≤ ds.length := by
  unfold cutD
  rw [List.length_take, List.length_drop]
  omega
/-- t[:n] is of at most n -/
theorem cut_to (ds : List D) (n : Nat) : (cutD ds none (some (n : Int))).length ≤ n := by
  unfold cutD
  rw [List.length_take, List.length_drop, HT.sIx_nat, HT.sIx_none]
  omega
end Nw

set_option Elab.async false
set_option linter.all false
set_option maxRecDepth 100000
set_option maxHeartbeats 1000000
namespace Nw
open PySem PySem.Spec PyProof.Rows L2
/-! ### the law's own frame -/
theorem same_new {H : Hp} {p : Addr} {o : HO} (h : H p = none) : Same H (upd H p o) := fun b u e => by
  rw [upd_ne (ne_of_none e h)]
  exact e
def spAll (K : PySem.W.Frag) : Sp := fun vs H Q _ => ∃ (a : Addr) (ns : List Int), vs = [.ref a] ∧ SqL K H a (ns.map V.int) ∧ ns.length ≤ 63 ∧ ∀ H', Q (.bl true) H'
theorem run_all {K : PySem.W.Frag} {m n : Nat} {t : TS} {H' : Hp} {ns : List Int} {a b c : Addr} (hl : ns.length ≤ 63) (hbc : b ≠ c) (hb : H' b = some (.lst [.ref c, .int 0, .int 0, .int 0])) (hc : H' c = some (.lst (ns.map V.int)))
    (h : ∀ bx, BoxD bx → wpS ⟨K, m, fun _ => E0⟩ t (.non :: .lst bx :: List.replicate n .non) { nx := fun _ => False, rt := fun r _ => r = .dat (.bl true) } PX0) (D : Ends) (hD : ∀ H2, D.rt (.bl true) H2) :
    t D (some (.ref a) :: some (.ref b) :: List.replicate n none) H' := by
  have own1 : ∀ i l, Owns (.non :: .lst [.lst (ns.map Nw.D.int), .int 0, .int 0, .int 0] :: List.replicate n .non) (some (.ref a) :: some (.ref b) :: List.replicate n none) i l → i = 1 := fun i l ⟨x, q1, q2, q3⟩ => by
    match i with
    | 0 =>
      simp at q1
      subst q1
      cases q2
    | 1 => rfl
    | i + 2 =>
      have : x ∈ List.replicate n Cell.non := List.mem_of_getElem? (by simpa using q1)
      rw [(List.mem_replicate.mp this).2] at q2
      cases q2
  have hd0 : Dd (upd (fun _ => none) c (.lst (ns.map V.int))) (.ref c) (.lst (ns.map Nw.D.int)) := .lst upd_same DdAll.of_ints
  have O : Ok (.non :: .lst [.lst (ns.map Nw.D.int), .int 0, .int 0, .int 0] :: List.replicate n .non) (some (.ref a) :: some (.ref b) :: List.replicate n none) (upd (fun _ => none) c (.lst (ns.map V.int))) H' := by
    refine ⟨by simp, fun x o e => ?_, fun i x e => ?_, fun i j l h1 h2 => by rw [own1 i l h1, own1 j l h2]⟩
    · by_cases z : x = c
      · subst z
        rw [upd_same] at e
        rw [hc]
        exact e
      · rw [upd_ne z] at e
        cases e
    · match i with
      | 0 =>
        simp at e
        subst e
        trivial
      | 1 =>
        simp at e
        subst e
        exact ⟨b, _, rfl, upd_ne hbc, hb, _, rfl, .cons hd0 (.cons (.int 0) (.cons (.int 0) (.cons (.int 0) .nil)))⟩
      | i + 2 =>
        have : x ∈ List.replicate n Cell.non := List.mem_of_getElem? (by simpa using e)
        rw [(List.mem_replicate.mp this).2]
        trivial
  refine h _ ⟨ns, 0, 0, 0, rfl, hl, by decide, by decide, by decide⟩ _ _ _ O .none D ⟨fun _ _ _ _ p => p.elim, fun v r env' σ' H0' H2 p _ _ w => ?_, fun _ _ _ _ p => p.elim, fun _ _ _ _ p => p.elim⟩
  subst p
  rw [Dd.bl_inv w]
  exact hD H2

/-- [[int(cell) for cell in script], 0, 0, 0] -/
theorem box_read {K : PySem.W.Frag} {H : Hp} {Q : VK} {a : Addr} {ns : List Int} {D : Ends} (hS : SqL K H a (ns.map V.int)) (hl : ns.length ≤ 63)
    (q : ∀ H' b c, Same H H' → H b = none → H c = none → b ≠ c → H' b = some (.lst [.ref c, .int 0, .int 0, .int 0]) → H' c = some (.lst (ns.map V.int)) → Q (.ref b) H') (hD : D.rt = Q) :
    tRet (tLst (tCons (tLc (iList K (tVar 0)) (gName 1) tYes (tCB (fun xs H Q => (∃ i, xs = [.int i] ∧ Q (.int i) H) ∨ ∃ k, xs = [.bl k] ∧ Q (.int (if k then 1 else 0)) H) (tCons (tVar 1) tNil)) [1])
      (tCons (tC (.int 0)) (tCons (tC (.int 0)) (tCons (tC (.int 0)) tNil))))) D [some (.ref a), none] H := by
  refine ⟨.ref a, rfl, a, rfl, ⟨_, hS⟩, fun c hc => lc_list (K := K) (a := a) (xs := ns.map V.int) (fun i H' => Same H H' ∧ H' c = some (.lst ((ns.take i).map V.int))) ⟨same_new hc, upd_same⟩ (fun i H' _ p => p.1.seq hS) (fun i x H' hi ⟨p1, p2⟩ => ?_) (fun H' ⟨p1, p2⟩ => ?_)⟩
  · obtain ⟨z, hz, rfl⟩ : ∃ z, ns[i]? = some z ∧ x = V.int z := by
      rw [List.getElem?_map] at hi
      cases e : ns[i]? with
      | none => rw [e] at hi; cases hi
      | some z =>
        rw [e] at hi
        exact ⟨z, rfl, (Option.some.inj hi).symm⟩
    have hlt : i < ns.length := (List.getElem?_eq_some_iff.mp hz).1
    refine ⟨rfl, .int z, rfl, .inl ⟨z, rfl, _, p2, ?_, fun b o e => ?_, ?_⟩⟩
    · rw [List.length_map, List.length_take]
      exact Nat.lt_of_le_of_lt (Nat.min_le_left _ _) (small1000 (by omega))
    · rw [upd_ne (ne_of_none e hc)]
      exact p1 b o e
    · rw [upd_same, List.take_add_one, hz, List.map_append]
      rfl
  · rw [List.length_map, List.take_length] at p2
    refine ⟨by show 4 ≤ sizeLine; decide, fun b hb => ?_⟩
    rw [hD]
    refine q _ b c (fun x o e => ?_) (p1.free hb) hc (fun z => by rw [z, p2] at hb; cases hb) upd_same ?_
    · rw [upd_ne (ne_of_none (p1 x o e) hb)]
      exact p1 x o e
    · rw [upd_ne (show c ≠ b from fun z => by rw [← z, p2] at hb; cases hb)]
      exact p2
theorem seq_box {K : PySem.W.Frag} {m n : Nat} {t : TS} {H : Hp} {ns : List Int} {a : Addr} {Q : VK} (hS : SqL K H a (ns.map V.int)) (hl : ns.length ≤ 63)
    (h : ∀ bx, BoxD bx → wpS ⟨K, m, fun _ => E0⟩ t (.non :: .lst bx :: List.replicate n .non) { nx := fun _ => False, rt := fun r _ => r = .dat (.bl true) } PX0) (q : ∀ H', Q (.bl true) H') :
    tSeq (tAsg (tCall (spBox K) [] E0 (tCons (tVar 0) tNil)) (gName 1)) t { nx := fun _ H' => Q .non H', rt := Q } (some (.ref a) :: List.replicate (n + 1) none) H := by
  refine ⟨.ref a, rfl, a, ns, rfl, hS, hl, fun H' b c sm hb hc hbc eb ec => ?_⟩
  exact run_all (t := t) hl hbc eb ec h { nx := fun _ H' => Q .non H', rt := Q } q
/-! ### the head: the law's promise at the heap behind the top -/
section
variable {P : Program} {w : World} {K : PySem.W.Frag} {mg mb : Str → Option Value} {k : Nat} {fa a : Addr} {fd : FuncData} {x : Str} {s₁ : Shared} {vs : List Value} {ns : List Int}
theorem head_at {H : Hp} {CX : CXT} {sp : Sp} (hns : s₁.heap.Ns mainGlobals mg) (KX : K.In s₁.heap) (hb : s₁.heap.Ns builtinsNs mb) (hbb : ∀ x : Str, x ≠ "__name__" → mb x = bootBuiltins x) (lim : s₁.heap.NoLimit) (hg : s₁.gens = #[])
    (ha : s₁.heap.get? a = some { cls := .type "list", data := .seq vs.toArray }) (hr : Room k callerA) (F : ∀ base : Heap, K.In base → base.Ns mainGlobals mg → FnG P w K mg base CX k fa fd [x] sp)
    (bind : ∀ (s : Shared) (u : Value), BindsTo s fd ⟨[u], []⟩ [(x, u)]) (only : Only H) (ok : HOk P w H s₁.heap) (at_ : ∀ b, H b ≠ none → b = a) (hK : H a ≠ none → K.lookup a = none)
    (want : sp [.ref a] H (fun v _ => v = .bl true) fun _ _ _ => False) (hCX : ∀ e s', CX [] H s₁ (fun _ _ _ => False) e s' → False) :
    codeAny (model P w) callerA (.call (.ref fa) ⟨[.ref a], []⟩) (fun r s' => r = .ok (.ret (.bool true)) ∧ OldK s₁.heap s'.heap ∧ s'.os = s₁.os ∧ AllBare s'.gens) s₁ := by
  -- what is tracked is hidden from the base
  have free : ∀ {b : Addr} {o : Obj}, s₁.heap.get? b = some o → (∀ es ep, o.data = .dict es ep → H b = none) := fun {b o} e es ep d => by
    apply Classical.byContradiction
    intro z
    have := at_ b z
    subst this
    rw [ha] at e
    cases e
    cases d
  have keepNs : ∀ {b : Addr} {m : Str → Option Value}, s₁.heap.Ns b m → (hidT s₁.heap H).Ns b m := by
    rintro b m ⟨o, es, ep, e, d, r⟩
    exact ⟨o, es, ep, hidT_get e (free e es ep d), d, r⟩
  have inK : K.In (hidT s₁.heap H) := fun b o e => hidT_get (KX b o e) (Classical.byContradiction fun z => by
    have q := at_ b z
    subst q
    rw [hK z] at e
    cases e)
  obtain ⟨mc, l1, l2⟩ := lim
  have M : Mod K mg (hidT s₁.heap H) := ⟨inK, keepNs hns, ⟨mb, keepNs hb, hbb⟩, ⟨mc, keepNs l1, l2⟩⟩
  have env : Env0 P w K mg (hidT s₁.heap H) callerA [] s₁ H := { frames := rfl, mod := M, bs := fun b o e => of_hidT e, bsz := Nat.le_of_eq (hidT_size _ _), funs := trivial, frf := fun b z => absurd z List.not_mem_nil, hok := ok, bare := .of_eq hg }
  have run := (F _ inK (keepNs hns)).run callerA [] s₁ H ⟨[.ref a], []⟩ [.ref a] [.ref a] _ _ rfl hr env (bind s₁ (.ref a)) (.cons rfl .nil) want
  refine codeAny_mono run fun r s' h => ?_
  match r, h with
  | .error e, h => exact (hCX e s' h).elim
  | .ok (.ret u), h =>
    obtain ⟨v, H', os, bare, un, ok2, rv, q⟩ := h
    cases (show v = .bl true from q)
    cases (show u = Value.bool true from rv)
    refine ⟨rfl, OldK.of_keep fun b o e => ?_, os, bare⟩
    rcases only b with z | ⟨ob, xs, z⟩
    · exact un.keep b o e z List.not_mem_nil List.not_mem_nil
    · have e1 := (ok b _ z).1
      have e2 := (ok2 b _ (un.frzs b ob _ z)).1
      rw [e1] at e
      cases e
      exact e2
theorem head_call {CX : CXT} {sp : Sp} (KX : K.In s₁.heap) (hns : s₁.heap.Ns mainGlobals mg) (hb : s₁.heap.Ns builtinsNs mb) (hbb : ∀ x : Str, x ≠ "__name__" → mb x = bootBuiltins x) (lim : s₁.heap.NoLimit) (hg : s₁.gens = #[])
    (ha : s₁.heap.get? a = some { cls := .type "list", data := .seq vs.toArray }) (hi : IntsAre vs ns) (hl : ns.length ≤ sizeLine) (hr : Room k callerA) (F : ∀ base : Heap, K.In base → base.Ns mainGlobals mg → FnG P w K mg base CX k fa fd [x] sp)
    (bind : ∀ (s : Shared) (u : Value), BindsTo s fd ⟨[u], []⟩ [(x, u)]) (want : ∀ H : Hp, Only H → SqL K H a (ns.map V.int) → sp [.ref a] H (fun v _ => v = .bl true) fun _ _ _ => False) (hCX : ∀ H e s', CX [] H s₁ (fun _ _ _ => False) e s' → False) :
    codeAny (model P w) callerA (.call (.ref fa) ⟨[.ref a], []⟩) (fun r s' => r = .ok (.ret (.bool true)) ∧ OldK s₁.heap s'.heap ∧ s'.os = s₁.os ∧ AllBare s'.gens) s₁ := by
  have rv := vals_ints hi
  have lv := hi.length
  by_cases hk : K.lookup a = none
  · have at_ : ∀ b : Addr, (fun b => if b = a then some (HO.frz { cls := .type "list", data := .seq vs.toArray } (.lst (ns.map V.int))) else none) b ≠ none → b = a := fun b z => Classical.byContradiction fun q => z (if_neg q)
    refine head_at (H := fun b => if b = a then some (.frz { cls := .type "list", data := .seq vs.toArray } (.lst (ns.map V.int))) else none) hns KX hb hbb lim hg ha hr F bind (fun b => ?_) (fun b u z => ?_) at_ (fun _ => hk) (want _ (fun b => ?_) (.inl (.inr ⟨_, if_pos rfl⟩))) (hCX _)
    · by_cases q : b = a
      · exact .inr ⟨_, _, if_pos q⟩
      · exact .inl (if_neg q)
    · have q : b = a := at_ b fun y => by rw [y] at z; cases z
      subst q
      have z' := (if_pos rfl).symm.trans z
      cases z'
      exact ⟨ha, by rw [List.length_map]; exact hl, vs, _, rv, ha⟩
    · by_cases q : b = a
      · exact .inr ⟨_, _, if_pos q⟩
      · exact .inl (if_neg q)
  · cases e : K.lookup a with
    | none => exact absurd e hk
    | some o =>
      have e2 := KX a o e
      rw [ha] at e2
      cases e2
      refine head_at (H := fun _ => none) hns KX hb hbb lim hg ha hr F bind (fun _ => .inl rfl) (fun b u z => by cases (show (none : Option HO) = some u from z)) (fun b z => absurd rfl z) (fun z => absurd rfl z)
        (want _ (fun _ => .inl rfl) (.inr ⟨_, vs.toArray, _, e, rfl, rfl, rfl, ?_, ?_⟩)) (hCX _)
      · rw [List.size_toArray, lv]
        exact hl
      · simpa using rv
end
theorem walkG {l : PySem.W.OpenLaw} {n k : Nat} {q : Program} {loose : List Str} {XP : (Str → Option Value) → Heap → Prop} {YP : World → Heap → Prop} {d : DefRec} {K : Params → PySem.W.Frag} {CX : World → CXT} {sp : World → Sp} {x : Str}
    (hn : l.most = some n) (hn2 : n ≤ sizeLine) (hdf : d.params.defaults = []) (hr : Room k callerA) (hY : ∀ (w : World) (h : Heap), YP w h → (K w.params).In h)
    (F : ∀ (w : World) (mg : Str → Option Value) (fa : Addr) (h : Heap), (K w.params).In h → h.Ns mainGlobals mg → mg d.name = some (.ref fa) →
      ∃ fd : FuncData, (∀ (s : Shared) (u : Value), BindsTo s fd ⟨[u], []⟩ [(x, u)]) ∧ ∀ base : Heap, (K w.params).In base → base.Ns mainGlobals mg → FnG l.prog w (K w.params) mg base (CX w) k fa fd [x] (sp w))
    (want : ∀ (w : World) (H : Hp) (a : Addr) (ns : List Int), ns.length ≤ n → Only H → SqL (K w.params) H a (ns.map V.int) → sp w [.ref a] H (fun v _ => v = .bl true) fun _ _ _ => False)
    (hCX : ∀ (w : World) (H : Hp) (s : Shared) (e : Value) (s' : Shared), CX w [] H s (fun _ _ _ => False) e s' → False) : PySem.W.WalkO q loose XP YP l.row.toRowW d [] (fun f vs => PySem.call f vs) := by
  refine Att.attach_call hn hdf fun w s₀ s₁ mg mb fa o pm cd doc a vs ns G Y ho hd hcd hmg hobj hints hlen hg => ?_
  obtain ⟨fd, hb, hF⟩ := F w mg fa _ (hY w _ Y) G.T.g hmg
  exact head_call (hY w _ Y) G.T.g G.T.b G.T.builtins G.T.nolimit hg hobj hints (Nat.le_trans hlen hn2) hr hF hb (fun H hO hS => want w H a ns hlen hO hS) fun H e s' => hCX w H s₁ e s'
end Nw

set_option Elab.async false
set_option linter.all false
set_option maxRecDepth 100000
set_option maxHeartbeats 1000000
namespace Nw.K02
open PySem PySem.Spec PyProof.Rows L2 Nw

def topS (i : Nat) : Stmt := PySem.Challenge.pw_normalwords_k02_is_ahead.main.body.getD i (.Pass ⟨0, 0, 0, 0⟩)
abbrev s_is_ahead : Stmt := topS 3
theorem sc_is_ahead : FnScope ["one", "other"] ["one", "other"] (defScope s_is_ahead) := ⟨rfl, rfl, rfl, by decide +kernel, rfl, by decide +kernel, by decide +kernel⟩
abbrev s_law_box : Stmt := topS 5
theorem sc_law_box : FnScope ["script", "cell"] ["script"] (defScope s_law_box) := ⟨rfl, rfl, rfl, by decide +kernel, rfl, by decide +kernel, by decide +kernel⟩
abbrev s_law_draw : Stmt := topS 6
theorem sc_law_draw : FnScope ["box", "limit", "cells", "k", "digit", "cell", "mixed"] ["box", "limit"] (defScope s_law_draw) := ⟨rfl, rfl, rfl, by decide +kernel, rfl, by decide +kernel, by decide +kernel⟩
abbrev s_law_word : Stmt := topS 7
theorem sc_law_word : FnScope ["box", "letters", "most", "k"] ["box", "letters", "most"] (defScope s_law_word) := ⟨rfl, rfl, rfl, by decide +kernel, rfl, by decide +kernel, by decide +kernel⟩
abbrev s_law_due : Stmt := topS 8
theorem sc_law_due : FnScope ["one", "other", "k"] ["one", "other"] (defScope s_law_due) := ⟨rfl, rfl, rfl, by decide +kernel, rfl, by decide +kernel, by decide +kernel⟩
abbrev s_law_near : Stmt := topS 9
theorem sc_law_near : FnScope ["box", "word", "letters", "at", "shape"] ["box", "word", "letters"] (defScope s_law_near) := ⟨rfl, rfl, rfl, by decide +kernel, rfl, by decide +kernel, by decide +kernel⟩
abbrev s_law_told : Stmt := topS 10
theorem sc_law_told : FnScope ["answer", "due"] ["answer", "due"] (defScope s_law_told) := ⟨rfl, rfl, rfl, by decide +kernel, rfl, by decide +kernel, by decide +kernel⟩
abbrev s_law_all : Stmt := topS 11
theorem sc_law_all : FnScope ["script", "box", "k", "letters", "one", "other", "first", "second", "due"] ["script"] (defScope s_law_all) := ⟨rfl, rfl, rfl, by decide +kernel, rfl, by decide +kernel, by decide +kernel⟩
abbrev s_law : Stmt := topS 12
theorem sc_law : FnScope ["script"] ["script"] (defScope s_law) := ⟨rfl, rfl, rfl, by decide +kernel, rfl, by decide +kernel, by decide +kernel⟩
structure Txt (K : PySem.W.Frag) (mg : Str → Option Value) where
  f_is_ahead : Addr
  d_is_ahead : FuncData
  F_is_ahead : Fun K "is_ahead" "is_ahead" s_is_ahead f_is_ahead d_is_ahead
  b_is_ahead : Binds K d_is_ahead ["one", "other"] []
  g_is_ahead : mg "is_ahead" = some (.ref f_is_ahead)
  f_law_box : Addr
  d_law_box : FuncData
  F_law_box : Fun K "_law_box" "_law_box" s_law_box f_law_box d_law_box
  b_law_box : Binds K d_law_box ["script"] []
  g_law_box : mg "_law_box" = some (.ref f_law_box)
  f_law_draw : Addr
  d_law_draw : FuncData
  F_law_draw : Fun K "_law_draw" "_law_draw" s_law_draw f_law_draw d_law_draw
  b_law_draw : Binds K d_law_draw ["box", "limit"] []
  g_law_draw : mg "_law_draw" = some (.ref f_law_draw)
  f_law_word : Addr
  d_law_word : FuncData
  F_law_word : Fun K "_law_word" "_law_word" s_law_word f_law_word d_law_word
  b_law_word : Binds K d_law_word ["box", "letters", "most"] []
  g_law_word : mg "_law_word" = some (.ref f_law_word)
  f_law_due : Addr
  d_law_due : FuncData
  F_law_due : Fun K "_law_due" "_law_due" s_law_due f_law_due d_law_due
  b_law_due : Binds K d_law_due ["one", "other"] []
  g_law_due : mg "_law_due" = some (.ref f_law_due)
  f_law_near : Addr
  d_law_near : FuncData
  F_law_near : Fun K "_law_near" "_law_near" s_law_near f_law_near d_law_near
  b_law_near : Binds K d_law_near ["box", "word", "letters"] []
  g_law_near : mg "_law_near" = some (.ref f_law_near)
  f_law_told : Addr
  d_law_told : FuncData
  F_law_told : Fun K "_law_told" "_law_told" s_law_told f_law_told d_law_told
  b_law_told : Binds K d_law_told ["answer", "due"] []
  g_law_told : mg "_law_told" = some (.ref f_law_told)
  f_law_all : Addr
  d_law_all : FuncData
  F_law_all : Fun K "_law_all" "_law_all" s_law_all f_law_all d_law_all
  b_law_all : Binds K d_law_all ["script"] []
  g_law_all : mg "_law_all" = some (.ref f_law_all)
  f_law : Addr
  d_law : FuncData
  F_law : Fun K "law" "law" s_law f_law d_law
  b_law : Binds K d_law ["script"] []
  g_law : mg "law" = some (.ref f_law)
  z_abs : mg "abs" = none
  z_bool : mg "bool" = none
  z_int : mg "int" = none
  z_isinstance : mg "isinstance" = none
  z_len : mg "len" = none
  z_range : mg "range" = none
  z_tuple : mg "tuple" = none
local macro_rules
  | `(tactic| walk_at "nz") => `(tactic| try dsimp only [cxOf, Cx.nox, Cx.wish, Wo.inn, putR, List.set, List.length, List.replicate, List.cons_append, List.nil_append, List.append, List.map, Nat.reduceAdd, Nat.reduceLT, Nat.reduceSub, Int.reduceToNat, LcTurn])
local macro_rules
  | `(tactic| walk_at "nws") => `(tactic| ((repeat' (first
    | ((with_reducible show wpS _ _ _ _ _); first
      | ((with_reducible show wpS _ (tSeq (tAsg _ _) _) _ _ _); refine ws_seq ?_)
      | ((with_reducible show wpS _ (tSeq (tIfS _ (tRet _) tNext) _) _ _ _); refine ws_seq ?_)
      | ((with_reducible show wpS _ (tSeq (tDrop _) _) _ _ _); refine ws_seq ?_)
      | ((with_reducible show wpS _ (tSeq (tAug _ _ _) _) _ _ _); refine ws_seq ?_)
      | ((with_reducible show wpS _ tNext _ _ _); refine ws_next ?_)
      | ((with_reducible show wpS _ tBreak _ _ _); refine ws_brk ?_)
      | ((with_reducible show wpS _ tCont _ _ _); refine ws_cont ?_)
      | ((with_reducible show wpS _ (tRet _) _ _ _); refine ws_ret ?_)
      | ((with_reducible show wpS _ (tAsg _ (gName _)) _ _ _); refine ws_asg (Nat.le_of_ble_eq_true rfl) ?_)
      | ((with_reducible show wpS _ (tAsg _ _) _ _ _); refine ws_asgG ?_)
      | ((with_reducible show wpS _ (tIfS _ _ _) _ _ _); refine ws_if ?_)
      | ((with_reducible show wpS _ (tDrop _) _ _ _); refine ws_drop ?_)
      | fail)
    | ((with_reducible show wpE _ _ _ _ _); first
      | ((with_reducible show wpE _ (tVar _) _ _ _); first | refine wp_var rfl ?_ | refine wp_varO rfl rfl ?_ | fail)
      | ((with_reducible show wpE _ (tC _) _ _ _); first | refine wp_int ?_ | refine wp_bl ?_ | refine wp_non ?_ | refine wp_str ?_ | refine wp_ty ?_ | fail)
      | ((with_reducible show wpE _ (tOp _ _ _) _ _ _); refine wp_op ?_)
      | ((with_reducible show wpE _ (tUn _ _) _ _ _); refine wp_un ?_)
      | ((with_reducible show wpE _ (tCB _ _) _ _ _); refine wp_cb ?_)
      | ((with_reducible show wpE _ (tChain _ _ _ _ _) _ _ _); refine wp_chain ?_)
      | ((with_reducible show wpE _ (tAndV _ _) _ _ _); refine wp_andV ?_)
      | ((with_reducible show wpE _ (tOrV _ _) _ _ _); refine wp_orV ?_)
      | ((with_reducible show wpE _ (tNotV _) _ _ _); refine wp_notV ?_)
      | ((with_reducible show wpE _ (tIf _ _ _) _ _ _); refine wp_ifE ?_)
      | ((with_reducible show wpE _ (tTup _) _ _ _); refine wp_tup ?_)
      | ((with_reducible show wpE _ (tLst _) _ _ _); refine wp_lst ?_)
      | ((with_reducible show wpE _ (tSl (rSlA _) _ _ _) _ _ _); refine wp_slT ?_)
      | ((with_reducible show wpE _ (tSl (rSlL _) _ _ _) _ _ _); refine wp_slL ?_)
      | fail)
    | ((with_reducible show wpO _ _ _ _ _ _ _); first
      | refine wo_int ?_
      | refine wo_bl ?_
      | refine wo_eqI ?_
      | refine wo_neI ?_
      | refine wo_eqB ?_
      | refine wo_ixL (.al _ _ rfl) rfl ?_
      | refine wo_ixL (.lst _) rfl ?_
      | refine wo_ixL (.own _) rfl ?_
      | refine wo_ixT rfl ?_
      | fail)
    | ((with_reducible show wpU _ _ _ _ _ _); first | refine wu_neg ?_ | fail)
    | ((with_reducible show wpC _ _ _ _ _ _); first
      | refine wc_len (.tup _) ?_
      | refine wc_len (.lst _) ?_
      | refine wc_len (.al _ _ rfl) ?_
      | refine wc_int ?_
      | refine wc_abs ?_
      | refine wc_isBool rfl ?_
      | refine wc_tuple (.lst _) ?_
      | fail)
    | ((with_reducible show wpA _ _ _ _ _); first | refine wpa_cons ?_ | refine wp_nil ?_ | fail)
    | ((with_reducible show wpT _ _ _ _ _); first
      | ((with_reducible show wpT _ (tTest _) _ _ _); refine wp_tTest ?_)
      | ((with_reducible show wpT _ (tB _) _ _ _); refine wp_tB ?_)
      | ((with_reducible show wpT _ (tNot _) _ _ _); refine wp_not ?_)
      | ((with_reducible show wpT _ (tAnd _ _) _ _ _); refine wp_and ?_)
      | ((with_reducible show wpT _ (tOr _ _) _ _ _); refine wp_or ?_)
      | ((with_reducible show wpT _ tYes _ _ _); refine wt_yes ?_)
      | fail)
    | ((with_reducible show wpG _ _ _ _ _ _); first
      | refine wg_name (Nat.le_of_ble_eq_true rfl) (Nat.le_of_ble_eq_true rfl) ?_
      | refine wg_set ?_
      | refine wg_tup rfl ?_
      | fail)
    | ((with_reducible show wpGs _ _ _ _ _ _); first | refine wg_cons ?_ | refine wg_nil ?_ | fail)
    | ((with_reducible show wpP _ _ _ _ _); first | refine wp_noPart ?_ | refine wp_part ?_ | fail)
    | ((with_reducible show ∃ _, @Eq Res _ _ ∧ _); refine ⟨_, rfl, ?_⟩)
    | ((with_reducible show ∃ _, @Eq (Option (List D)) _ _ ∧ _ ≤ _ ∧ _); refine ⟨_, rfl, Nat.le_of_ble_eq_true rfl, ?_⟩)
    | ((with_reducible show ∃ _ _ _, @Eq Res _ _ ∧ _ = _ ∧ _ = _ ∧ _); refine ⟨_, _, _, rfl, rfl, rfl, ?_⟩)
    | ((with_reducible show @LT.lt Nat _ _ _ ∧ wpS _ _ _ _ _); refine ⟨Nat.le_of_ble_eq_true rfl, ?_⟩)
    | ((with_reducible show _ < List.length _ ∧ _); refine ⟨Nat.le_of_ble_eq_true rfl, ?_⟩)
    | fail)) <;> try dsimp only [cxOf, Cx.nox, Cx.wish, Wo.inn, putR, List.set, List.length, List.replicate, List.cons_append, List.nil_append, List.append, List.map, Nat.reduceAdd, Nat.reduceLT, Nat.reduceSub, Int.reduceToNat]))

section
variable {P : Program} {w : World} {K : PySem.W.Frag} {mg : Str → Option Value} {base : Heap}

def preAhead : Spc := fun cs post _ => ∃ u v : List Int, cs = [.dat (tw u), .dat (tw v)] ∧ u.length ≤ 1000 ∧ v.length ≤ 1000 ∧ post (.dat (.bl (ahead u v))) cs

theorem ok_is_ahead (T : Txt K mg) : FnG P w K mg base CX0 1 T.f_is_ahead T.d_is_ahead ["one", "other"] (SPD 2 preAhead) := by
  refine okG T.F_is_ahead sc_is_ahead (fun vs H Q E h => h.1) (fun cdv A outer s H vs Q E hG hr h => ?_)
  have nd := sc_is_ahead.nd
  refine ⟨_, (pss_one (ps_ret (pe_cmpR (op_ltD hr.units) (pe_tup (pa_cons (pe_callB call_len_seq (by rfl) T.z_len (by decide +kernel) (pa_cons (pv 0) pa_nil)) (pa_cons (pv 0) pa_nil))) (pe_tup (pa_cons (pe_callB call_len_seq (by rfl) T.z_len (by decide +kernel) (pa_cons (pv 1) pa_nil)) (pa_cons (pv 1) pa_nil))) (nomark _)))), body_of (n := 2) (k := 0) (m := 0) (K := K) rfl h fun cs post px hc pre => ?_⟩
  clear h
  obtain ⟨u, v, rfl, hu, hv, q⟩ := pre
  refine ⟨rfl, ?_⟩
  walk_at "nz"
  walk_at "nws"
  rw [List.length_map, List.length_map]
  refine wo_ltD (lw_pln u) (lw_pln v) (lw_shaped u) (lw_shaped v) (lw_ok u v) ?_
  rw [← lw_lt] at q
  exact ⟨rfl, rfl, q⟩


theorem ok_law_draw (T : Txt K mg) : FnG P w K mg base CX0 1 T.f_law_draw T.d_law_draw ["box", "limit"] (SPD 2 preDraw) := by
  refine okG T.F_law_draw sc_law_draw (fun vs H Q E h => h.1) (fun cdv A outer s H vs Q E hG hr h => ?_)
  have nd := sc_law_draw.nd
  refine ⟨_, (pss_cons (ps_set (i := 2) nd rfl (.inl rfl) (pe_ix ix_list (pv 0) pe_int (fun _ _ => rfl)))
      (pss_cons (ps_asg (pe_op op_add (pe_ix ix_list (pv 0) pe_int (fun _ _ => rfl)) pe_int) (pg_sub (pv 0) pe_int set_list))
      (pss_cons (ps_for PassesOwn.never rfl (pi_range1 (by rfl) T.z_range (pa_cons (pe_callB call_len_seq (by rfl) T.z_len (by decide +kernel) (pa_cons (pv 2) pa_nil)) pa_nil)) (pg_name (i := 3) nd rfl (.inl rfl)) (pss_one (ps_if (PW.pt (pw_and (pt_cmpR op_eq (pe_ix ix_list (pv 0) pe_int (fun _ _ => rfl)) pe_int (nomark _)) (pw_and1 (pt_cmpR op_lt (pe_ix ix_list (pv 0) pe_int (fun _ _ => rfl)) (pe_callB call_len_seq (by rfl) T.z_len (by decide +kernel) (pa_cons (pv 2) pa_nil)) (nomark _))))) (pss_cons (ps_if (pt_cmpR op_ge (pe_callB call_abs (by rfl) T.z_abs (by decide +kernel) (pa_cons (pe_ix ix_list (pv 2) (pe_ix ix_list (pv 0) pe_int (fun _ _ => rfl)) (fun _ _ => rfl)) pa_nil)) (pe_op op_pow pe_int pe_int) (nomark _)) (pss_one (ps_asg (pe_callB call_abs (by rfl) T.z_abs (by decide +kernel) (pa_cons (pe_ix ix_list (pv 2) (pe_ix ix_list (pv 0) pe_int (fun _ _ => rfl)) (fun _ _ => rfl)) pa_nil)) (pg_sub (pv 0) pe_int set_list))) pss_nil)
      (pss_one (ps_asg (pe_op op_add (pe_ix ix_list (pv 0) pe_int (fun _ _ => rfl)) pe_int) (pg_sub (pv 0) pe_int set_list)))) (pss_one ps_break))))
      (pss_cons (ps_if (pt_cmpR op_gt (pe_ix ix_list (pv 0) pe_int (fun _ _ => rfl)) pe_int (nomark _)) (pss_cons (ps_set (i := 4) nd rfl (.inl rfl) (pe_op op_mod (pe_callTy call_int1 (by rfl) T.z_int (by decide +kernel) (pa_cons (pe_ix ix_list (pv 0) pe_int (fun _ _ => rfl)) pa_nil)) (pv 1)))
      (pss_cons (ps_asg (pe_op op_fdiv (pe_ix ix_list (pv 0) pe_int (fun _ _ => rfl)) (pv 1)) (pg_sub (pv 0) pe_int set_list))
      (pss_one (ps_ret (pv 4))))) pss_nil)
      (pss_cons (ps_set (i := 5) nd rfl (.inl rfl) pe_int)
      (pss_cons (ps_if (pt_cmpR op_gt (pe_callB call_len_seq (by rfl) T.z_len (by decide +kernel) (pa_cons (pv 2) pa_nil)) pe_int (nomark _)) (pss_one (ps_set (i := 5) nd rfl (.inl rfl) (pe_callB call_abs (by rfl) T.z_abs (by decide +kernel) (pa_cons (pe_ix ix_list (pv 2) (pe_op op_mod (pe_callTy call_int1 (by rfl) T.z_int (by decide +kernel) (pa_cons (pe_ix ix_list (pv 0) pe_int (fun _ _ => rfl)) pa_nil)) (pe_callB call_len_seq (by rfl) T.z_len (by decide +kernel) (pa_cons (pv 2) pa_nil))) (fun _ _ => rfl)) pa_nil)))) pss_nil)
      (pss_cons (ps_set (i := 6) nd rfl (.inl rfl) (pe_op op_mod (pe_callTy call_int1 (by rfl) T.z_int (by decide +kernel) (pa_cons (pe_op op_add (pe_op op_add (pe_op op_mul (pv 5) pe_int) (pe_op op_mul (pe_ix ix_list (pv 0) pe_int (fun _ _ => rfl)) pe_int)) pe_int) pa_nil)) pe_int))
      (pss_cons (ps_set (i := 6) nd rfl (.inl rfl) (pe_op op_mod (pe_callTy call_int1 (by rfl) T.z_int (by decide +kernel) (pa_cons (pe_op op_add (pe_op op_add (pe_op op_mul (pv 6) (pv 6)) (pe_op op_mul (pe_ix ix_list (pv 0) pe_int (fun _ _ => rfl)) pe_int)) (pv 5)) pa_nil)) pe_int))
      (pss_cons (ps_set (i := 6) nd rfl (.inl rfl) (pe_op op_mod (pe_callTy call_int1 (by rfl) T.z_int (by decide +kernel) (pa_cons (pe_op op_add (pe_op op_add (pe_op op_mul (pe_op op_mul (pv 6) (pv 6)) pe_int) (pe_op op_fdiv (pv 5) pe_int)) pe_int) pa_nil)) pe_int))
      (pss_one (ps_ret (pe_op op_mod (pe_callTy call_int1 (by rfl) T.z_int (by decide +kernel) (pa_cons (pe_op op_fdiv (pv 6) pe_int) pa_nil)) (pv 1))))))))))))), body_of (n := 2) (k := 5) (m := 1) (K := K) rfl h fun cs post px hc pre => ?_⟩
  clear h
  obtain ⟨b, n, rfl, ⟨ns, a, c, e, rfl, hl, ha, hb, he⟩, n0, n1, q⟩ := pre
  refine ⟨rfl, ?_⟩
  walk_at "nz"
  walk_at "nws"
  -- for k in range(len(cells))
  walk_at "nz"
  refine ws_cut (fun env => ∃ c e ck, env = [.lst [.lst (ns.map D.int), .int (a + 1), .int c, .int e], .dat (.int n), .dat (.lst (ns.map D.int)), ck, .non, .non, .non] ∧ 0 ≤ c ∧ 0 ≤ e) ?_ ?_
  · refine ws_forR1 ?_
    walk_at "nws"
    refine ⟨_, fun _ env => ∃ c e ck, env = [.lst [.lst (ns.map D.int), .int (a + 1), .int c, .int e], .dat (.int n), .dat (.lst (ns.map D.int)), ck, .non, .non, .non] ∧ 0 ≤ c ∧ 0 ≤ e, rfl, by omega, ?_, ⟨c, e, .non, rfl, hb, he⟩, ?_, fun env h => h⟩
    · rw [List.length_map]
      omega
    · rintro i env hi ⟨c, e, ck, rfl, hb, he⟩
      walk_at "nws"
      refine ⟨fun h1 => ?_, fun h1 => ⟨fun h2 => (by cases h2), fun _ => ?_⟩⟩
      · walk_at "nz"
        walk_at "nws"
        refine ⟨fun h2 => ?_, fun h2 => ?_⟩
        · have h3 := of_decide_eq_true h2
          obtain ⟨x, hx⟩ := atI_int (ns := ns) he (by rw [List.length_map] at h3; exact h3)
          refine ws_cut (fun env => ∃ c, env = [.lst [.lst (ns.map D.int), .int (a + 1), .int c, .int e], .dat (.int n), .dat (.lst (ns.map D.int)), .dat (.int i), .non, .non, .non] ∧ 0 ≤ c) ?_ ?_
          · walk_at "nws"
            refine wo_ixL (.lst _) hx ?_
            walk_at "nws"
            refine wo_intC ⟨by decide, by decide, by decide⟩ ?_
            walk_at "nws"
            refine ⟨fun h4 => ?_, fun h4 => ?_⟩
            · walk_at "nws"
              refine wo_ixL (.lst _) hx ?_
              walk_at "nws"
              exact ⟨_, rfl, abs_nonneg x⟩
            · walk_at "nws"
              exact ⟨_, rfl, hb⟩
          · rintro env ⟨c, rfl, hb⟩
            walk_at "nws"
            exact ⟨_, _, _, rfl, hb, by omega⟩
        · walk_at "nws"
          exact ⟨_, _, _, rfl, hb, he⟩
      · walk_at "nws"
        exact ⟨_, _, _, rfl, hb, he⟩
  · rintro env ⟨c, e, ck, rfl, hb, he⟩
    refine ws_seq ?_
    walk_at "nws"
    refine ⟨fun h1 => ?_, fun h1 => ?_⟩
    · walk_at "nws"
      refine wo_intC n0 ?_
      walk_at "nws"
      refine wo_intC ⟨n0, n1⟩ ?_
      walk_at "nws"
      exact ⟨rfl, rfl, q _ _ ⟨ns, _, _, _, rfl, hl, by omega, Int.ediv_nonneg hb (by omega), he⟩ (Int.emod_nonneg _ (by omega)) (Int.emod_lt_of_pos _ n0)⟩
    · walk_at "nws"
      refine ws_cut (fun env => ∃ y, env = [.lst [.lst (ns.map D.int), .int (a + 1), .int c, .int e], .dat (.int n), .dat (.lst (ns.map D.int)), ck, .non, .dat (.int y), .non]) ?_ ?_
      · walk_at "nws"
        refine ⟨fun h2 => ?_, fun h2 => ?_⟩
        · walk_at "nws"
          have h3 := of_decide_eq_true h2
          refine wo_intC h3 ?_
          rw [List.length_map] at h3
          obtain ⟨x, hx⟩ := atI_int (ns := ns) (i := (a + 1) % ((ns.map D.int).length : Int)) (Int.emod_nonneg _ (by rw [List.length_map]; omega)) (by rw [List.length_map]; exact Int.emod_lt_of_pos _ h3)
          refine wo_ixL (.lst _) hx ?_
          walk_at "nws"
          exact ⟨_, rfl⟩
        · walk_at "nws"
          exact ⟨_, rfl⟩
      · rintro env ⟨y, rfl⟩
        walk_at "nws"
        have c1 : CMul y 48271 := .inr ⟨by decide, by decide⟩
        refine wo_intC c1 ?_
        walk_at "nws"
        refine wo_intC (.inr ⟨by decide, by decide⟩) ?_
        walk_at "nws"
        refine wo_intC (show (0 : Int) < 2147483647 by decide) ?_
        walk_at "nws"
        generalize hm : (y * 48271 + (a + 1) * 69621 + 7) % 2147483647 = m1
        have m0 : 0 ≤ m1 := by rw [← hm]; exact Int.emod_nonneg _ (by decide)
        have m9 : m1 < 2147483647 := by rw [← hm]; exact Int.emod_lt_of_pos _ (by decide)
        refine wo_intC (.inl ⟨by omega, by omega⟩) ?_
        walk_at "nws"
        refine wo_intC (.inr ⟨by decide, by decide⟩) ?_
        walk_at "nws"
        refine wo_intC (show (0 : Int) < 1000003 by decide) ?_
        walk_at "nws"
        generalize hk : (m1 * m1 + (a + 1) * 7919 + y) % 1000003 = m2
        have k0 : 0 ≤ m2 := by rw [← hk]; exact Int.emod_nonneg _ (by decide)
        have k9 : m2 < 1000003 := by rw [← hk]; exact Int.emod_lt_of_pos _ (by decide)
        refine wo_intC (.inl ⟨by omega, by omega⟩) ?_
        walk_at "nws"
        refine wo_intC (.inr ⟨by decide, by decide⟩) ?_
        walk_at "nws"
        refine wo_intC ⟨by decide, by decide⟩ ?_
        walk_at "nws"
        refine wo_intC (show (0 : Int) < 998244353 by decide) ?_
        walk_at "nws"
        refine wo_intC ⟨by decide, by decide⟩ ?_
        walk_at "nws"
        refine wo_intC n0 ?_
        exact ⟨rfl, rfl, q _ _ ⟨ns, _, _, _, rfl, hl, by omega, hb, he⟩ (Int.emod_nonneg _ (by omega)) (Int.emod_lt_of_pos _ n0)⟩


theorem ok_law_word (T : Txt K mg) : FnG P w K mg base CX0 2 T.f_law_word T.d_law_word ["box", "letters", "most"] (SPD 3 preWord) := by
  refine okG T.F_law_word sc_law_word (fun vs H Q E h => h.1) (fun cdv A outer s H vs Q E hG hr h => ?_)
  have nd := sc_law_word.nd
  refine ⟨_, (pss_one (ps_ret (pe_callTy call_tuple_of (by rfl) T.z_tuple (by decide +kernel) (pa_cons (pe_lc (own := [("k", 3)]) (g := gName 3) (tt := tYes) rfl nd (pi_range1 (by rfl) T.z_range (pa_cons (pe_callG (ok_law_draw T) hG (hr.mono (by decide)) (by rfl) T.g_law_draw T.F_law_draw.kp T.b_law_draw pass0 (pa_cons (pv 0) (pa_cons (pe_op op_add (pv 2) pe_int) pa_nil))) pa_nil)) (blkOk_by (N := ["box", "letters", "most", "k"]) (sc := defScope s_law_word) (by decide +kernel)) (fun _ _ _ _ _ => pg_name (i := 3) nd rfl (Or.inl rfl)) (fun _ _ _ _ _ => pts_nil) (fun _ _ _ _ _ => (pe_callG (ok_law_draw T) hG (hr.mono (by decide)) (by rfl) T.g_law_draw T.F_law_draw.kp T.b_law_draw pass0 (pa_cons (pv 0) (pa_cons (pv 1) pa_nil))))) pa_nil)))), body_of (n := 3) (k := 1) (m := 1) (K := K) rfl h fun cs post px hc pre => ?_⟩
  clear h
  obtain ⟨b, k, m, rfl, hb, k0, k9, m0, m9, q⟩ := pre
  refine ⟨rfl, ?_⟩
  walk_at "nz"
  walk_at "nws"
  refine wp_lcR1 ?_
  walk_at "nws"
  refine wp_draw ?_
  walk_at "nws"
  refine ⟨_, _, rfl, _, rfl, hb, by omega, by omega, fun b1 r1 hb1 h0 h1 => ?_⟩
  walk_at "nws"
  refine ⟨_, .non, fun i acc env => ∃ b ns, acc = ns.map D.int ∧ (∀ x ∈ ns, 0 ≤ x ∧ x < k) ∧ BoxD b ∧ env = [.lst b, .dat (.int k), .dat (.int m), .non], rfl, by omega, by omega, rfl, ?_, ⟨b1, [], rfl, fun x hx => by simp at hx, hb1, rfl⟩, ?_, ?_⟩
  · rintro i acc env ⟨b, ns, rfl, _, _, rfl⟩
    rfl
  · rintro i acc env hi ⟨b, ns, rfl, hn, hb, rfl⟩
    walk_at "nz"
    walk_at "nws"
    refine ⟨fun _ => ?_, fun z => by cases z⟩
    refine wp_draw ?_
    walk_at "nws"
    refine ⟨_, _, rfl, _, rfl, hb, k0, k9, fun b2 r2 hb2 h2 h3 => ?_⟩
    refine ⟨_, rfl, b2, ns ++ [r2], (map_snoc ns r2), fun x hx => ?_, hb2, rfl⟩
    rcases List.mem_append.mp hx with z | z
    · exact hn x z
    · rw [List.mem_singleton.mp z]
      exact ⟨h2, h3⟩
  · rintro acc env ⟨b, ns, rfl, hn, hb, rfl⟩ hl
    walk_at "nws"
    rw [List.length_map] at hl
    exact ⟨rfl, rfl, q b ns hb (by omega) hn⟩


def preTold : Spc := fun cs post _ => ∃ a d : Bool, cs = [.dat (.bl a), .dat (.bl d)] ∧ post (.dat (.bl (a == d))) cs
def preNear : Spc := fun cs post _ => ∃ (b : List D) (w : List Int) (k : Int), cs = [.lst b, .dat (tw w), .dat (.int k)] ∧ BoxD b ∧ w.length ≤ 40 ∧ 0 < k ∧ k < 1073741824 ∧
  ∀ b' w', BoxD b' → w'.length ≤ 40 → post (.dat (tw w')) [.lst b', .dat (tw w), .dat (.int k)]

theorem ok_law_told (T : Txt K mg) : FnG P w K mg base CX0 1 T.f_law_told T.d_law_told ["answer", "due"] (SPD 2 preTold) := by
  refine okG T.F_law_told sc_law_told (fun vs H Q E h => h.1) (fun cdv A outer s H vs Q E hG hr h => ?_)
  have nd := sc_law_told.nd
  refine ⟨_, (pss_one (ps_ret (pe_and (pe_callB call_isi (by rfl) T.z_isinstance (by decide +kernel) (pa_cons (pv 0) (pa_cons (pe_bltn (v := .ty "bool") (by rfl) T.z_bool (by decide +kernel) rfl) pa_nil))) (pe_one (pe_cmpR op_eq (pv 0) (pv 1) (nomark _)))))), body_of (n := 2) (k := 0) (m := 0) (K := K) rfl h fun cs post px hc pre => ?_⟩
  clear h
  obtain ⟨a, d, rfl, q⟩ := pre
  refine ⟨rfl, ?_⟩
  walk_at "nz"
  walk_at "nws"
  refine ⟨fun _ => ?_, fun z => by cases z⟩
  walk_at "nws"
  exact ⟨rfl, rfl, q⟩


theorem ok_law_due (T : Txt K mg) : FnG P w K mg base CX0 1 T.f_law_due T.d_law_due ["one", "other"] (SPD 2 preAhead) := by
  refine okG T.F_law_due sc_law_due (fun vs H Q E h => h.1) (fun cdv A outer s H vs Q E hG hr h => ?_)
  have nd := sc_law_due.nd
  refine ⟨_, (pss_cons (ps_if (pt_cmpR op_ne (pe_callB call_len_seq (by rfl) T.z_len (by decide +kernel) (pa_cons (pv 0) pa_nil)) (pe_callB call_len_seq (by rfl) T.z_len (by decide +kernel) (pa_cons (pv 1) pa_nil)) (nomark _)) (pss_one (ps_ret (pe_cmpR op_lt (pe_callB call_len_seq (by rfl) T.z_len (by decide +kernel) (pa_cons (pv 0) pa_nil)) (pe_callB call_len_seq (by rfl) T.z_len (by decide +kernel) (pa_cons (pv 1) pa_nil)) (nomark _)))) pss_nil)
      (pss_cons (ps_for PassesOwn.never rfl (pi_range1 (by rfl) T.z_range (pa_cons (pe_callB call_len_seq (by rfl) T.z_len (by decide +kernel) (pa_cons (pv 0) pa_nil)) pa_nil)) (pg_name (i := 2) nd rfl (.inl rfl)) (pss_one (ps_if (pt_cmpR op_ne (pe_ix ix_tup (pv 0) (pv 2) (fun _ _ => rfl)) (pe_ix ix_tup (pv 1) (pv 2) (fun _ _ => rfl)) (nomark _)) (pss_one (ps_ret (pe_cmpR op_lt (pe_ix ix_tup (pv 0) (pv 2) (fun _ _ => rfl)) (pe_ix ix_tup (pv 1) (pv 2) (fun _ _ => rfl)) (nomark _)))) pss_nil)))
      (pss_one (ps_ret pe_bl)))), body_of (n := 2) (k := 1) (m := 0) (K := K) rfl h fun cs post px hc pre => ?_⟩
  clear h
  obtain ⟨u, v, rfl, hu, hv, q⟩ := pre
  refine ⟨rfl, ?_⟩
  walk_at "nz"
  walk_at "nws"
  rw [List.length_map, List.length_map]
  refine ⟨fun h => ?_, fun h => ?_⟩
  · walk_at "nws"
    rw [List.length_map, List.length_map]
    walk_at "nws"
    have e : decide ((u.length : Int) < (v.length : Int)) = ahead u v := by
      unfold ahead
      have h1 : ¬ (u.length = v.length) := fun z => by rw [z] at h; simp at h
      rw [if_neg h1]
      by_cases l : u.length < v.length
      · rw [decide_eq_true l, decide_eq_true (by omega)]
      · rw [decide_eq_false l, decide_eq_false (by omega)]
    rw [e]
    exact ⟨rfl, rfl, q⟩
  · have el : u.length = v.length := by
      have : ((u.length : Int) = (v.length : Int)) := by simpa using h
      omega
    walk_at "nws"
    refine ws_seq ?_
    refine ws_forR1 ?_
    walk_at "nws"
    rw [List.length_map]
    refine ⟨_, fun i env => ∃ c, env = [.dat (tw u), .dat (tw v), c] ∧ HT.lexLt (u.drop i) (v.drop i) = ahead u v, rfl, by omega, by omega, ⟨.non, rfl, ?_⟩, ?_, ?_⟩
    · unfold ahead
      rw [if_pos el]
      rfl
    · rintro i env hi ⟨c, rfl, hI⟩
      have hu' : i < u.length := by omega
      have hv' : i < v.length := by omega
      have au : atI (u.map D.int) (i : Int) = some (.int u[i]) := atI_nat (by rw [List.getElem?_map, List.getElem?_eq_getElem hu']; rfl)
      have av : atI (v.map D.int) (i : Int) = some (.int v[i]) := atI_nat (by rw [List.getElem?_map, List.getElem?_eq_getElem hv']; rfl)
      have st := lexLt_step (List.getElem?_eq_getElem hu') (List.getElem?_eq_getElem hv')
      walk_at "nws"
      refine wo_ixT au ?_
      walk_at "nws"
      refine wo_ixT av ?_
      walk_at "nws"
      refine ⟨fun h2 => ?_, fun h2 => ?_⟩
      · walk_at "nws"
        refine wo_ixT au ?_
        walk_at "nws"
        refine wo_ixT av ?_
        walk_at "nws"
        rw [if_neg (by simpa using h2), hI] at st
        rw [← st]
        exact ⟨rfl, rfl, q⟩
      · walk_at "nws"
        rw [if_pos (by simpa using h2), hI] at st
        exact ⟨_, rfl, st.symm⟩
    · rintro env ⟨c, rfl, hI⟩
      walk_at "nws"
      rw [Int.toNat_natCast, List.drop_eq_nil_of_le (Nat.le_refl _), List.drop_eq_nil_of_le (by omega)] at hI
      rw [← hI] at q
      exact ⟨rfl, rfl, q⟩


theorem ok_law_near (T : Txt K mg) : FnG P w K mg base CX0 2 T.f_law_near T.d_law_near ["box", "word", "letters"] (SPD 3 preNear) := by
  refine okG T.F_law_near sc_law_near (fun vs H Q E h => h.1) (fun cdv A outer s H vs Q E hG hr h => ?_)
  have nd := sc_law_near.nd
  refine ⟨_, (pss_cons (ps_set (i := 3) nd rfl (.inl rfl) (pe_callG (ok_law_draw T) hG (hr.mono (by decide)) (by rfl) T.g_law_draw T.F_law_draw.kp T.b_law_draw pass0 (pa_cons (pv 0) (pa_cons (pe_op op_add (pe_callB call_len_seq (by rfl) T.z_len (by decide +kernel) (pa_cons (pv 1) pa_nil)) pe_int) pa_nil))))
      (pss_cons (ps_set (i := 4) nd rfl (.inl rfl) (pe_callG (ok_law_draw T) hG (hr.mono (by decide)) (by rfl) T.g_law_draw T.F_law_draw.kp T.b_law_draw pass0 (pa_cons (pv 0) (pa_cons pe_int pa_nil))))
      (pss_cons (ps_if (pt_cmpR op_eq (pv 4) pe_int (nomark _)) (pss_one (ps_ret (pv 1))) pss_nil)
      (pss_cons (ps_if (pt_cmpR op_eq (pv 4) pe_int (nomark _)) (pss_one (ps_ret (pe_op op_catA (pe_slice sl_tupA (pv 1) po_none (po_some (pv 3))) (pe_slice sl_tupA (pv 1) (po_some (pe_op op_add (pv 3) pe_int)) po_none)))) pss_nil)
      (pss_cons (ps_if (pt_cmpR op_eq (pv 4) pe_int (nomark _)) (pss_one (ps_ret (pe_slice sl_tupA (pe_op op_catA (pv 1) (pe_tup (pa_cons (pe_callG (ok_law_draw T) hG (hr.mono (by decide)) (by rfl) T.g_law_draw T.F_law_draw.kp T.b_law_draw pass0 (pa_cons (pv 0) (pa_cons (pv 2) pa_nil))) pa_nil))) po_none (po_some pe_int)))) pss_nil)
      (pss_one (ps_ret (pe_slice sl_tupA (pe_op op_catA (pe_op op_catA (pe_slice sl_tupA (pv 1) po_none (po_some (pv 3))) (pe_tup (pa_cons (pe_callG (ok_law_draw T) hG (hr.mono (by decide)) (by rfl) T.g_law_draw T.F_law_draw.kp T.b_law_draw pass0 (pa_cons (pv 0) (pa_cons (pv 2) pa_nil))) pa_nil))) (pe_slice sl_tupA (pv 1) (po_some (pe_op op_add (pv 3) pe_int)) po_none)) po_none (po_some pe_int))))))))), body_of (n := 3) (k := 2) (m := 1) (K := K) rfl h fun cs post px hc pre => ?_⟩
  clear h
  obtain ⟨b, w, k, rfl, hb, hw, k0, k9, q⟩ := pre
  refine ⟨rfl, ?_⟩
  walk_at "nz"
  walk_at "nws"
  refine wp_draw ?_
  walk_at "nws"
  rw [List.length_map]
  refine ⟨_, _, rfl, _, rfl, hb, by omega, by omega, fun b1 a hb1 a0 a1 => ?_⟩
  walk_at "nws"
  refine wp_draw ?_
  walk_at "nws"
  refine ⟨_, _, rfl, _, rfl, hb1, by decide, by decide, fun b2 sh hb2 _ _ => ?_⟩
  walk_at "nws"
  have done : ∀ b (w' : List Int), BoxD b → w'.length ≤ 40 → keptB [Cell.lst b, Cell.dat (tw w), Cell.dat (D.int k)] [Cell.lst b, Cell.dat (tw w), Cell.dat (D.int k), Cell.dat (D.int a), Cell.dat (D.int sh)] = true ∧ locR 1 (.dat (tw w')) = true ∧
      post (outR (.dat (tw w')) [Cell.lst b, Cell.dat (tw w), Cell.dat (D.int k), Cell.dat (D.int a), Cell.dat (D.int sh)]) (outCs [Cell.lst b, Cell.dat (tw w), Cell.dat (D.int k)] [Cell.lst b, Cell.dat (tw w), Cell.dat (D.int k), Cell.dat (D.int a), Cell.dat (D.int sh)]) :=
    fun b w' h1 h2 => ⟨rfl, rfl, q b w' h1 h2⟩
  obtain ⟨an, rfl⟩ : ∃ n : Nat, a = n := ⟨a.toNat, by omega⟩
  refine ⟨fun _ => ?_, fun _ => ?_⟩
  · walk_at "nws"
    exact done b2 w hb2 hw
  · walk_at "nws"
    refine ⟨fun _ => ?_, fun _ => ?_⟩
    · walk_at "nws"
      rw [show ((an : Int) + 1) = ((an + 1 : Nat) : Int) by omega, tup_take, tup_drop]
      refine wo_catW (by rw [List.length_take, List.length_drop]; omega) ?_
      refine done b2 _ hb2 ?_
      rw [List.length_append, List.length_take, List.length_drop]
      omega
    · walk_at "nws"
      refine ⟨fun _ => ?_, fun _ => ?_⟩
      · walk_at "nws"
        refine wp_draw ?_
        walk_at "nws"
        refine ⟨_, _, rfl, _, rfl, hb2, k0, k9, fun b3 x hb3 _ _ => ?_⟩
        walk_at "nws"
        refine wo_catW (v := [x]) (by show w.length + 1 ≤ 100000; omega) ?_
        walk_at "nws"
        rw [show (40 : Int) = ((40 : Nat) : Int) from rfl, tup_take]
        refine done b3 _ hb3 ?_
        rw [List.length_take]
        omega
      · walk_at "nws"
        rw [tup_take]
        refine wp_draw ?_
        walk_at "nws"
        refine ⟨_, _, rfl, _, rfl, hb2, k0, k9, fun b3 x hb3 _ _ => ?_⟩
        walk_at "nws"
        refine wo_catW (v := [x]) (by rw [List.length_take]; show _ + 1 ≤ 100000; omega) ?_
        walk_at "nws"
        rw [show ((an : Int) + 1) = ((an + 1 : Nat) : Int) by omega, tup_drop]
        refine wo_catW (by rw [List.length_append, List.length_take, List.length_drop]; show _ + 1 + _ ≤ 100000; omega) ?_
        walk_at "nws"
        rw [show (40 : Int) = ((40 : Nat) : Int) from rfl, tup_take]
        refine done b3 _ hb3 ?_
        rw [List.length_take]
        omega


theorem ok_law_box (T : Txt K mg) : FnG P w K mg base CX0 1 T.f_law_box T.d_law_box ["script"] (spBox K) := by
  refine okG T.F_law_box sc_law_box (fun vs H Q E h => ?_) (fun cdv A outer s H vs Q E hG hr h => ?_)
  · obtain ⟨a, ns, rfl, _⟩ := h
    rfl
  have nd := sc_law_box.nd
  obtain ⟨a, ns, rfl, hS, hl, q⟩ := h
  refine ⟨_, (pss_one (ps_ret (pe_lst (pa_cons (pe_lc (own := [("cell", 1)]) (g := gName 1) (tt := tYes) rfl nd (pi_list (pv 0)) (blkOk_by (N := ["script", "cell"]) (sc := defScope s_law_box) (by decide +kernel)) (fun _ _ _ _ _ => pg_name (i := 1) nd rfl (Or.inl rfl)) (fun _ _ _ _ _ => pts_nil) (fun _ _ _ _ _ => (pe_callTy call_int1 (by rfl) T.z_int (by decide +kernel) (pa_cons (pv 1) pa_nil)))) (pa_cons pe_int (pa_cons pe_int (pa_cons pe_int pa_nil))))))), ?_⟩
  exact box_read hS hl q rfl

theorem ok_law_all (T : Txt K mg) : FnG P w K mg base CX0 3 T.f_law_all T.d_law_all ["script"] (spAll K) := by
  refine okG T.F_law_all sc_law_all (fun vs H Q E h => ?_) (fun cdv A outer s H vs Q E hG hr h => ?_)
  · obtain ⟨a, ns, rfl, _⟩ := h
    rfl
  have nd := sc_law_all.nd
  obtain ⟨a, ns, rfl, hS, hl, q⟩ := h
  refine ⟨_, (pss_cons (ps_set (i := 1) nd rfl (.inl rfl) (pe_callG (ok_law_box T) hG (hr.mono (by decide)) (by rfl) T.g_law_box T.F_law_box.kp T.b_law_box pass0 (pa_cons (pv 0) pa_nil)))
      (pss_cons (ps_for PassesOwn.never rfl (pi_range1 (by rfl) T.z_range (pa_cons pe_int pa_nil)) (pg_name (i := 2) nd rfl (.inl rfl)) (pss_cons (ps_set (i := 3) nd rfl (.inl rfl) (pe_op op_add pe_int (pe_callG (ok_law_draw T) hG (hr.mono (by decide)) (by rfl) T.g_law_draw T.F_law_draw.kp T.b_law_draw pass0 (pa_cons (pv 1) (pa_cons pe_int pa_nil)))))
      (pss_cons (ps_set (i := 4) nd rfl (.inl rfl) (pe_callG (ok_law_word T) hG (hr.mono (by decide)) (by rfl) T.g_law_word T.F_law_word.kp T.b_law_word pass0 (pa_cons (pv 1) (pa_cons (pv 3) (pa_cons (pe_ix ix_list (pe_lst (pa_cons pe_int (pa_cons pe_int pa_nil))) (pe_callG (ok_law_draw T) hG (hr.mono (by decide)) (by rfl) T.g_law_draw T.F_law_draw.kp T.b_law_draw pass0 (pa_cons (pv 1) (pa_cons pe_int pa_nil))) (fun _ _ => rfl)) pa_nil)))))
      (pss_cons (ps_set (i := 5) nd rfl (.inl rfl) (pe_callG (ok_law_word T) hG (hr.mono (by decide)) (by rfl) T.g_law_word T.F_law_word.kp T.b_law_word pass0 (pa_cons (pv 1) (pa_cons (pv 3) (pa_cons pe_int pa_nil)))))
      (pss_cons (ps_if (pt_cmpR op_gt (pe_callG (ok_law_draw T) hG (hr.mono (by decide)) (by rfl) T.g_law_draw T.F_law_draw.kp T.b_law_draw pass0 (pa_cons (pv 1) (pa_cons pe_int pa_nil))) pe_int (nomark _)) (pss_one (ps_set (i := 5) nd rfl (.inl rfl) (pe_callG (ok_law_near T) hG (hr.mono (by decide)) (by rfl) T.g_law_near T.F_law_near.kp T.b_law_near pass0 (pa_cons (pv 1) (pa_cons (pv 4) (pa_cons (pv 3) pa_nil)))))) pss_nil)
      (pss_one (ps_for PassesOwn.never rfl (pi_list (pe_lst (pa_cons (pe_tup (pa_cons (pv 4) (pa_cons (pv 5) pa_nil))) (pa_cons (pe_tup (pa_cons (pv 5) (pa_cons (pv 4) pa_nil))) (pa_cons (pe_tup (pa_cons (pv 4) (pa_cons (pv 4) pa_nil))) pa_nil))))) (pg_tup rfl (pgs_cons (pg_name (i := 6) nd rfl (.inl rfl)) (pgs_cons (pg_name (i := 7) nd rfl (.inl rfl)) pgs_nil))) (pss_cons (ps_set (i := 8) nd rfl (.inl rfl) (pe_callG (ok_law_due T) hG (hr.mono (by decide)) (by rfl) T.g_law_due T.F_law_due.kp T.b_law_due pass0 (pa_cons (pv 6) (pa_cons (pv 7) pa_nil))))
      (pss_one (ps_if (PW.pt (pw_or (pt_not (pt_val (pe_callG (ok_law_told T) hG (hr.mono (by decide)) (by rfl) T.g_law_told T.F_law_told.kp T.b_law_told pass0 (pa_cons (pe_callG (ok_is_ahead T) hG (hr.mono (by decide)) (by rfl) T.g_is_ahead T.F_is_ahead.kp T.b_is_ahead pass0 (pa_cons (pv 6) (pa_cons (pv 7) pa_nil))) (pa_cons (pv 8) pa_nil))))) (pw_or1 (pt_not (pt_val (pe_callG (ok_law_told T) hG (hr.mono (by decide)) (by rfl) T.g_law_told T.F_law_told.kp T.b_law_told pass0 (pa_cons (pe_callPG (ok_is_ahead T) hG (hr.mono (by decide)) (by rfl) T.g_is_ahead T.F_is_ahead.kp (T.F_is_ahead.kw (ks := ["other", "one"]) (ix := [1, 0]) fun _ _ _ _ _ _ ws hl => match ws, hl with | [_, _], _ => rfl) pass0 (pk_cons (pv 7) (pk_cons (pv 6) pk_nil))) (pa_cons (pv 8) pa_nil)))))))) (pss_one (ps_ret pe_bl)) pss_nil))))))))))
      (pss_one (ps_ret (pe_and (pe_callG (ok_law_told T) hG (hr.mono (by decide)) (by rfl) T.g_law_told T.F_law_told.kp T.b_law_told pass0 (pa_cons (pe_callG (ok_is_ahead T) hG (hr.mono (by decide)) (by rfl) T.g_is_ahead T.F_is_ahead.kp T.b_is_ahead pass0 (pa_cons (pe_tup pa_nil) (pa_cons (pe_tup (pa_cons pe_int pa_nil)) pa_nil))) (pa_cons pe_bl pa_nil))) (pe_and (pe_callG (ok_law_told T) hG (hr.mono (by decide)) (by rfl) T.g_law_told T.F_law_told.kp T.b_law_told pass0 (pa_cons (pe_callG (ok_is_ahead T) hG (hr.mono (by decide)) (by rfl) T.g_is_ahead T.F_is_ahead.kp T.b_is_ahead pass0 (pa_cons (pe_tup (pa_cons pe_int pa_nil)) (pa_cons (pe_tup (pa_cons pe_int (pa_cons pe_int pa_nil))) pa_nil))) (pa_cons pe_bl pa_nil))) (pe_one (pe_callG (ok_law_told T) hG (hr.mono (by decide)) (by rfl) T.g_law_told T.F_law_told.kp T.b_law_told pass0 (pa_cons (pe_callG (ok_is_ahead T) hG (hr.mono (by decide)) (by rfl) T.g_is_ahead T.F_is_ahead.kp T.b_is_ahead pass0 (pa_cons (pe_tup pa_nil) (pa_cons (pe_tup pa_nil) pa_nil))) (pa_cons pe_bl pa_nil)))))))))), ?_⟩
  refine seq_box (m := 1) (n := 7) hS hl (fun bx hbx => ?_) q
  clear q
  walk_at "nz"
  refine ws_seq ?_
  refine ws_forR1 ?_
  walk_at "nws"
  refine ⟨_, fun _ env => ∃ b c2 c3 c4 c5 c6 c7 c8, BoxD b ∧ env = [.non, .lst b, c2, c3, c4, c5, c6, c7, c8], rfl, by decide, by decide, ⟨bx, _, _, _, _, _, _, _, hbx, rfl⟩, ?_, ?_⟩
  · rintro i env hi ⟨b, c2, c3, c4, c5, c6, c7, c8, hb, rfl⟩
    walk_at "nws"
    refine wp_draw ?_
    walk_at "nws"
    refine ⟨_, _, rfl, _, rfl, hb, by decide, by decide, fun b1 l hb1 l0 l1 => ?_⟩
    walk_at "nws"
    refine wp_word ?_
    walk_at "nws"
    refine wp_draw ?_
    walk_at "nws"
    refine ⟨_, _, rfl, _, rfl, hb1, by decide, by decide, fun b2 j hb2 j0 j1 => ?_⟩
    obtain ⟨m, hm, m0, m1⟩ : ∃ m : Int, atI [D.int 3, D.int 40] j = some (.int m) ∧ 0 ≤ m ∧ m ≤ 40 := by
      have : j = 0 ∨ j = 1 := by omega
      rcases this with rfl | rfl
      · exact ⟨3, rfl, by decide, by decide⟩
      · exact ⟨40, rfl, by decide, by decide⟩
    refine wo_ixL (.own _) hm ?_
    walk_at "nws"
    refine ⟨_, _, _, rfl, _, rfl, hb2, by omega, by omega, m0, by omega, fun b3 u hb3 hu _ => ?_⟩
    walk_at "nws"
    refine wp_word ?_
    walk_at "nws"
    refine ⟨_, _, _, rfl, _, rfl, hb3, by omega, by omega, by decide, by decide, fun b4 v hb4 hv _ => ?_⟩
    walk_at "nws"
    refine ws_cut (fun env => ∃ b v, BoxD b ∧ v.length ≤ 40 ∧ env = [.non, .lst b, .dat (.int i), .dat (.int (1 + l)), .dat (tw u), .dat (tw v), c6, c7, c8]) ?_ ?_
    · walk_at "nws"
      refine wp_draw ?_
      walk_at "nws"
      refine ⟨_, _, rfl, _, rfl, hb4, by decide, by decide, fun b5 t hb5 _ _ => ?_⟩
      walk_at "nws"
      refine ⟨fun _ => ?_, fun _ => ?_⟩
      · walk_at "nws"
        refine wp_callB ?_
        walk_at "nws"
        refine ⟨_, _, _, rfl, rfl, rfl, _, u, _, rfl, hb5, by omega, by omega, by omega, fun b6 v' hb6 hv' => ⟨_, rfl, ?_⟩⟩
        walk_at "nws"
        exact ⟨b6, v', hb6, hv', rfl⟩
      · walk_at "nws"
        exact ⟨b5, v, hb5, by omega, rfl⟩
    · rintro env ⟨b, v, hb, hv, rfl⟩
      refine ws_forL ?_
      walk_at "nws"
      refine ⟨_, fun _ env => ∃ c6 c7 c8, env = [.non, .lst b, .dat (.int i), .dat (.int (1 + l)), .dat (tw u), .dat (tw v), c6, c7, c8], rfl, ⟨_, _, _, rfl⟩, ?_, fun env ⟨c6, c7, c8, e⟩ => ⟨_, _, _, _, _, _, _, _, hb, e⟩⟩
      rintro n x env hx ⟨c6, c7, c8, rfl⟩
      obtain ⟨p, q, rfl, hp, hq⟩ : ∃ p q, x = .tup [tw p, tw q] ∧ p.length ≤ 40 ∧ q.length ≤ 40 := by
        have hm := List.mem_of_getElem? hx
        simp only [List.mem_cons, List.not_mem_nil, or_false] at hm
        rcases hm with rfl | rfl | rfl
        · exact ⟨u, v, rfl, by omega, hv⟩
        · exact ⟨v, u, rfl, hv, by omega⟩
        · exact ⟨u, u, rfl, by omega, by omega⟩
      walk_at "nws"
      refine wp_callD0 ?_
      walk_at "nws"
      refine ⟨_, rfl, rfl, p, q, rfl, by omega, by omega, ?_⟩
      walk_at "nws"
      refine wp_callD0 ?_
      walk_at "nws"
      refine wp_callD0 ?_
      walk_at "nws"
      refine ⟨_, rfl, rfl, p, q, rfl, by omega, by omega, ?_⟩
      walk_at "nws"
      refine ⟨_, rfl, rfl, _, _, rfl, ?_⟩
      walk_at "nws"
      refine ⟨fun h => ?_, fun _ => ?_⟩
      · exfalso
        cases hh : ahead p q <;> rw [hh] at h <;> cases h
      · walk_at "nws"
        refine wp_callD0 ?_
        walk_at "nws"
        refine wp_callP0 ?_
        walk_at "nws"
        refine ⟨_, rfl, rfl, rfl, p, q, rfl, by omega, by omega, ?_⟩
        walk_at "nws"
        refine ⟨_, rfl, rfl, _, _, rfl, ?_⟩
        walk_at "nws"
        refine ⟨fun h => ?_, fun _ => ?_⟩
        · exfalso
          cases hh : ahead p q <;> rw [hh] at h <;> cases h
        · walk_at "nws"
          exact ⟨_, _, _, rfl⟩
  · rintro env ⟨b, c2, c3, c4, c5, c6, c7, c8, hb, rfl⟩
    walk_at "nws"
    refine wp_callD0 ?_
    walk_at "nws"
    refine wp_callD0 ?_
    walk_at "nws"
    refine ⟨_, rfl, rfl, [], [0], rfl, by decide, by decide, ?_⟩
    walk_at "nws"
    refine ⟨_, rfl, rfl, _, _, rfl, ?_⟩
    refine ⟨_, rfl, fun _ => ?_, fun z => by cases z⟩
    walk_at "nws"
    refine wp_callD0 ?_
    walk_at "nws"
    refine wp_callD0 ?_
    walk_at "nws"
    refine ⟨_, rfl, rfl, [1], [0, 0], rfl, by decide, by decide, ?_⟩
    walk_at "nws"
    refine ⟨_, rfl, rfl, _, _, rfl, ?_⟩
    refine ⟨_, rfl, fun _ => ?_, fun z => by cases z⟩
    refine wp_callD0 ?_
    walk_at "nws"
    refine wp_callD0 ?_
    walk_at "nws"
    refine ⟨_, rfl, rfl, [], [], rfl, by decide, by decide, ?_⟩
    walk_at "nws"
    refine ⟨_, rfl, rfl, _, _, rfl, ?_⟩
    rfl


theorem ok_law (T : Txt K mg) : FnG P w K mg base CX0 4 T.f_law T.d_law ["script"] (spAll K) := by
  refine okG T.F_law sc_law (fun vs H Q E h => ?_) (fun cdv A outer s H vs Q E hG hr h => ?_)
  · obtain ⟨a, ns, rfl, _⟩ := h
    rfl
  obtain ⟨a, ns, rfl, hS, hl, q⟩ := h
  refine ⟨_, pss_one (ps_try_thru0 (pss_one (ps_ret (pe_callG (ok_law_all T) hG (hr.mono (by decide)) (by rfl) T.g_law_all T.F_law_all.kp T.b_law_all pass0 (pa_cons (pv 0) pa_nil))))), ?_⟩
  exact ⟨.ref a, rfl, a, ns, rfl, hS, hl, q⟩
end
theorem all_mk {l : PySem.W.OpenLaw} {w : World} {K : PySem.W.Frag} {h : Heap} {mg : Str → Option Value} {fa : Addr} (X : K.In h) (G : h.Ns mainGlobals mg) (hfa : mg "law" = some (.ref fa))
    {x0 : Addr} {od0 an0 : Option Addr} {sl0 : Array (Option Value)} {oc0 kV0 dc0 pm0 cd0 ct0 : Value}
    {x1 : Addr} {od1 an1 : Option Addr} {sl1 : Array (Option Value)} {oc1 kV1 dc1 pm1 cd1 ct1 : Value}
    {x2 : Addr} {od2 an2 : Option Addr} {sl2 : Array (Option Value)} {oc2 kV2 dc2 pm2 cd2 ct2 : Value}
    {x3 : Addr} {od3 an3 : Option Addr} {sl3 : Array (Option Value)} {oc3 kV3 dc3 pm3 cd3 ct3 : Value}
    {x4 : Addr} {od4 an4 : Option Addr} {sl4 : Array (Option Value)} {oc4 kV4 dc4 pm4 cd4 ct4 : Value}
    {x5 : Addr} {od5 an5 : Option Addr} {sl5 : Array (Option Value)} {oc5 kV5 dc5 pm5 cd5 ct5 : Value}
    {x6 : Addr} {od6 an6 : Option Addr} {sl6 : Array (Option Value)} {oc6 kV6 dc6 pm6 cd6 ct6 : Value}
    {x7 : Addr} {od7 an7 : Option Addr} {sl7 : Array (Option Value)} {oc7 kV7 dc7 pm7 cd7 ct7 : Value}
    {x8 : Addr} {od8 an8 : Option Addr} {sl8 : Array (Option Value)} {oc8 kV8 dc8 pm8 cd8 ct8 : Value}
    (a0 : PySem.W.nsIn K mainGlobals "is_ahead" = some (some (.ref x0)))
    (l0 : K.lookup x0 = some ⟨oc0, od0, .func (PySem.W.fnOf "is_ahead" "is_ahead" (defArgs s_is_ahead) (defBody s_is_ahead) (defScope s_is_ahead) .none kV0 dc0 pm0 an0 cd0 ct0), sl0⟩)
    (c0 : PySem.W.codeIn K cd0 "is_ahead" = true) (k0 : PySem.W.keepIn K (.ref x0) = true)
    (a1 : PySem.W.nsIn K mainGlobals "_law_box" = some (some (.ref x1)))
    (l1 : K.lookup x1 = some ⟨oc1, od1, .func (PySem.W.fnOf "_law_box" "_law_box" (defArgs s_law_box) (defBody s_law_box) (defScope s_law_box) .none kV1 dc1 pm1 an1 cd1 ct1), sl1⟩)
    (c1 : PySem.W.codeIn K cd1 "_law_box" = true) (k1 : PySem.W.keepIn K (.ref x1) = true)
    (a2 : PySem.W.nsIn K mainGlobals "_law_draw" = some (some (.ref x2)))
    (l2 : K.lookup x2 = some ⟨oc2, od2, .func (PySem.W.fnOf "_law_draw" "_law_draw" (defArgs s_law_draw) (defBody s_law_draw) (defScope s_law_draw) .none kV2 dc2 pm2 an2 cd2 ct2), sl2⟩)
    (c2 : PySem.W.codeIn K cd2 "_law_draw" = true) (k2 : PySem.W.keepIn K (.ref x2) = true)
    (a3 : PySem.W.nsIn K mainGlobals "_law_word" = some (some (.ref x3)))
    (l3 : K.lookup x3 = some ⟨oc3, od3, .func (PySem.W.fnOf "_law_word" "_law_word" (defArgs s_law_word) (defBody s_law_word) (defScope s_law_word) .none kV3 dc3 pm3 an3 cd3 ct3), sl3⟩)
    (c3 : PySem.W.codeIn K cd3 "_law_word" = true) (k3 : PySem.W.keepIn K (.ref x3) = true)
    (a4 : PySem.W.nsIn K mainGlobals "_law_due" = some (some (.ref x4)))
    (l4 : K.lookup x4 = some ⟨oc4, od4, .func (PySem.W.fnOf "_law_due" "_law_due" (defArgs s_law_due) (defBody s_law_due) (defScope s_law_due) .none kV4 dc4 pm4 an4 cd4 ct4), sl4⟩)
    (c4 : PySem.W.codeIn K cd4 "_law_due" = true) (k4 : PySem.W.keepIn K (.ref x4) = true)
    (a5 : PySem.W.nsIn K mainGlobals "_law_near" = some (some (.ref x5)))
    (l5 : K.lookup x5 = some ⟨oc5, od5, .func (PySem.W.fnOf "_law_near" "_law_near" (defArgs s_law_near) (defBody s_law_near) (defScope s_law_near) .none kV5 dc5 pm5 an5 cd5 ct5), sl5⟩)
    (c5 : PySem.W.codeIn K cd5 "_law_near" = true) (k5 : PySem.W.keepIn K (.ref x5) = true)
    (a6 : PySem.W.nsIn K mainGlobals "_law_told" = some (some (.ref x6)))
    (l6 : K.lookup x6 = some ⟨oc6, od6, .func (PySem.W.fnOf "_law_told" "_law_told" (defArgs s_law_told) (defBody s_law_told) (defScope s_law_told) .none kV6 dc6 pm6 an6 cd6 ct6), sl6⟩)
    (c6 : PySem.W.codeIn K cd6 "_law_told" = true) (k6 : PySem.W.keepIn K (.ref x6) = true)
    (a7 : PySem.W.nsIn K mainGlobals "_law_all" = some (some (.ref x7)))
    (l7 : K.lookup x7 = some ⟨oc7, od7, .func (PySem.W.fnOf "_law_all" "_law_all" (defArgs s_law_all) (defBody s_law_all) (defScope s_law_all) .none kV7 dc7 pm7 an7 cd7 ct7), sl7⟩)
    (c7 : PySem.W.codeIn K cd7 "_law_all" = true) (k7 : PySem.W.keepIn K (.ref x7) = true)
    (a8 : PySem.W.nsIn K mainGlobals "law" = some (some (.ref x8)))
    (l8 : K.lookup x8 = some ⟨oc8, od8, .func (PySem.W.fnOf "law" "law" (defArgs s_law) (defBody s_law) (defScope s_law) .none kV8 dc8 pm8 an8 cd8 ct8), sl8⟩)
    (c8 : PySem.W.codeIn K cd8 "law" = true) (k8 : PySem.W.keepIn K (.ref x8) = true)
    (z_abs : PySem.W.nsIn K mainGlobals "abs" = some none)
    (z_bool : PySem.W.nsIn K mainGlobals "bool" = some none)
    (z_int : PySem.W.nsIn K mainGlobals "int" = some none)
    (z_isinstance : PySem.W.nsIn K mainGlobals "isinstance" = some none)
    (z_len : PySem.W.nsIn K mainGlobals "len" = some none)
    (z_range : PySem.W.nsIn K mainGlobals "range" = some none)
    (z_tuple : PySem.W.nsIn K mainGlobals "tuple" = some none) :
    ∃ fd : FuncData, (∀ (s : Shared) (v : Value), BindsTo s fd ⟨[v], []⟩ [("script", v)]) ∧ ∀ base : Heap, K.In base → base.Ns mainGlobals mg → FnG l.prog w K mg base CX0 4 fa fd ["script"] (spAll K) := by
  have e := hfa.symm.trans (PySem.W.mg_of X G a8)
  cases e
  let T : Txt K mg := {
    f_is_ahead := x0, d_is_ahead := _, F_is_ahead := fun_mk (st := s_is_ahead) l0 c0 k0, b_is_ahead := (fun_mk (st := s_is_ahead) l0 c0 k0).binds (ps := ["one", "other"]) fun _ _ _ _ _ _ us hl => (match us, hl with | [_, _], _ => rfl), g_is_ahead := PySem.W.mg_of X G a0,
    f_law_box := x1, d_law_box := _, F_law_box := fun_mk (st := s_law_box) l1 c1 k1, b_law_box := (fun_mk (st := s_law_box) l1 c1 k1).binds (ps := ["script"]) fun _ _ _ _ _ _ us hl => (match us, hl with | [_], _ => rfl), g_law_box := PySem.W.mg_of X G a1,
    f_law_draw := x2, d_law_draw := _, F_law_draw := fun_mk (st := s_law_draw) l2 c2 k2, b_law_draw := (fun_mk (st := s_law_draw) l2 c2 k2).binds (ps := ["box", "limit"]) fun _ _ _ _ _ _ us hl => (match us, hl with | [_, _], _ => rfl), g_law_draw := PySem.W.mg_of X G a2,
    f_law_word := x3, d_law_word := _, F_law_word := fun_mk (st := s_law_word) l3 c3 k3, b_law_word := (fun_mk (st := s_law_word) l3 c3 k3).binds (ps := ["box", "letters", "most"]) fun _ _ _ _ _ _ us hl => (match us, hl with | [_, _, _], _ => rfl), g_law_word := PySem.W.mg_of X G a3,
    f_law_due := x4, d_law_due := _, F_law_due := fun_mk (st := s_law_due) l4 c4 k4, b_law_due := (fun_mk (st := s_law_due) l4 c4 k4).binds (ps := ["one", "other"]) fun _ _ _ _ _ _ us hl => (match us, hl with | [_, _], _ => rfl), g_law_due := PySem.W.mg_of X G a4,
    f_law_near := x5, d_law_near := _, F_law_near := fun_mk (st := s_law_near) l5 c5 k5, b_law_near := (fun_mk (st := s_law_near) l5 c5 k5).binds (ps := ["box", "word", "letters"]) fun _ _ _ _ _ _ us hl => (match us, hl with | [_, _, _], _ => rfl), g_law_near := PySem.W.mg_of X G a5,
    f_law_told := x6, d_law_told := _, F_law_told := fun_mk (st := s_law_told) l6 c6 k6, b_law_told := (fun_mk (st := s_law_told) l6 c6 k6).binds (ps := ["answer", "due"]) fun _ _ _ _ _ _ us hl => (match us, hl with | [_, _], _ => rfl), g_law_told := PySem.W.mg_of X G a6,
    f_law_all := x7, d_law_all := _, F_law_all := fun_mk (st := s_law_all) l7 c7 k7, b_law_all := (fun_mk (st := s_law_all) l7 c7 k7).binds (ps := ["script"]) fun _ _ _ _ _ _ us hl => (match us, hl with | [_], _ => rfl), g_law_all := PySem.W.mg_of X G a7,
    f_law := fa, d_law := _, F_law := fun_mk (st := s_law) l8 c8 k8, b_law := (fun_mk (st := s_law) l8 c8 k8).binds (ps := ["script"]) fun _ _ _ _ _ _ us hl => (match us, hl with | [_], _ => rfl), g_law := PySem.W.mg_of X G a8,
    z_abs := PySem.W.mg_none_of X G z_abs,
    z_bool := PySem.W.mg_none_of X G z_bool,
    z_int := PySem.W.mg_none_of X G z_int,
    z_isinstance := PySem.W.mg_none_of X G z_isinstance,
    z_len := PySem.W.mg_none_of X G z_len,
    z_range := PySem.W.mg_none_of X G z_range,
    z_tuple := PySem.W.mg_none_of X G z_tuple }
  exact ⟨_, fun s v => .of_eq rfl, fun base _ _ => ok_law T⟩
end Nw.K02
open PySem PySem.W PyProof.Rows
set_option maxHeartbeats 0 in
theorem PySem.Challenge.cw_normalwords_k02_is_ahead_holds : PySem.Challenge.rw_normalwords_k02_is_ahead.Holds := by
  w_on; o_law; k_head; (case hw => w_witness2)
  k_fill
  refine Nw.walkG (l := PySem.Challenge.rw_normalwords_k02_is_ahead) (n := 63) (k := 4) (x := "script") (CX := fun _ => L2.CX0) (sp := fun w => Nw.spAll _) rfl (by decide) rfl ⟨rfl, by decide, by decide⟩ (fun w h Y => PySem.W.kIn_of Y) ?F (fun _ _ a ns hl _ hS => ⟨a, ns, rfl, hS, hl, fun _ => rfl⟩) (fun _ _ _ _ _ h => h)
  case F =>
    intro w mg fa h KX G hmg
    refine' Nw.K02.all_mk KX G hmg ?a0 ?l0 ?c0 ?k0 ?a1 ?l1 ?c1 ?k1 ?a2 ?l2 ?c2 ?k2 ?a3 ?l3 ?c3 ?k3 ?a4 ?l4 ?c4 ?k4 ?a5 ?l5 ?c5 ?k5 ?a6 ?l6 ?c6 ?k6 ?a7 ?l7 ?c7 ?k7 ?a8 ?l8 ?c8 ?k8 ?z_abs ?z_bool ?z_int ?z_isinstance ?z_len ?z_range ?z_tuple
    (case a0 => k_is)
    (case l0 => k_is)
    (case c0 => k_is)
    (case k0 => k_is)
    (case a1 => k_is)
    (case l1 => k_is)
    (case c1 => k_is)
    (case k1 => k_is)
    (case a2 => k_is)
    (case l2 => k_is)
    (case c2 => k_is)
    (case k2 => k_is)
    (case a3 => k_is)
    (case l3 => k_is)
    (case c3 => k_is)
    (case k3 => k_is)
    (case a4 => k_is)
    (case l4 => k_is)
    (case c4 => k_is)
    (case k4 => k_is)
    (case a5 => k_is)
    (case l5 => k_is)
    (case c5 => k_is)
    (case k5 => k_is)
    (case a6 => k_is)
    (case l6 => k_is)
    (case c6 => k_is)
    (case k6 => k_is)
    (case a7 => k_is)
    (case l7 => k_is)
    (case c7 => k_is)
    (case k7 => k_is)
    (case a8 => k_is)
    (case l8 => k_is)
    (case c8 => k_is)
    (case k8 => k_is)
    (case z_abs => k_is)
    (case z_bool => k_is)
    (case z_int => k_is)
    (case z_isinstance => k_is)
    (case z_len => k_is)
    (case z_range => k_is)
    (case z_tuple => k_is)
