import PyProof.Rows.All
import Wide.All
import OpenK.AllK
import Wide.FinOn
import HandS.ForMost
import HandS.ForExc
import HandS.TupAny
import HandS.TupLe
import HandS.IsInst
import PyProof.ReprRoads
import KE.KRevSl
import KE.GoesEnum
import HandS.Walk
import HandS.Zip
import HandS.Deep
import HandS.Text
import PyProof.ReprLen
import PyProof.FitsInt
import PyProof.Rows.StrJoinMade
import HandS.ExcInit
import HandS.ExcField
import HandS.ExcOwn
import HandS.TryMany
import PySem.Challenge.RW_normalwords_k03_faults_of_words
set_option Elab.async false
set_option linter.all false
set_option maxRecDepth 100000
set_option maxHeartbeats 1000000
/-! A logic of plain data over the hand layer: what stands in the slots is told by cells, expressions and statements by what they make of the cells. -/
namespace Nw
open PySem PySem.Spec PyProof.Rows L2

/-! ### data -/
inductive D where
  | non | bl (b : Bool) | int (i : Int) | str (s : Str)
  | tup (ds : List D) | lst (ds : List D)
  | ins (c : Addr) (fs : List (Str × D))
  | ty (n : String) | cls (c : Addr)
  | exc (a C d : Addr) (fs : List (Str × D))

mutual
inductive Dd (H : Hp) : V → D → Prop
  | non : Dd H .non .non
  | bl (b : Bool) : Dd H (.bl b) (.bl b)
  | int (i : Int) : Dd H (.int i) (.int i)
  | str (s : Str) : Dd H (.str s) (.str s)
  | tup {a : Addr} {xs : List V} {ds : List D} : H a = some (.tup xs) → DdAll H xs ds → Dd H (.ref a) (.tup ds)
  | lst {a : Addr} {xs : List V} {ds : List D} : H a = some (.lst xs) → DdAll H xs ds → Dd H (.ref a) (.lst ds)
  | ins {a C dx : Addr} {vs : List (Str × V)} {fs : List (Str × D)} : H a = some (.ins C dx vs) → DdF H vs fs → Dd H (.ref a) (.ins C fs)
  | ty (n : String) : Dd H (.ty n) (.ty n)
  | cls (c : Addr) : Dd H (.ref c) (.cls c)
  | exc {a C d : Addr} {vs : List (Str × V)} {fs : List (Str × D)} : H d = some (.xd vs) → DdF H vs fs → Dd H (.ref a) (.exc a C d fs)
inductive DdAll (H : Hp) : List V → List D → Prop
  | nil : DdAll H [] []
  | cons {v : V} {vs : List V} {d : D} {ds : List D} : Dd H v d → DdAll H vs ds → DdAll H (v :: vs) (d :: ds)
inductive DdF (H : Hp) : List (Str × V) → List (Str × D) → Prop
  | nil : DdF H [] []
  | cons {f : Str} {v : V} {vs : List (Str × V)} {d : D} {ds : List (Str × D)} : Dd H v d → DdF H vs ds → DdF H ((f, v) :: vs) ((f, d) :: ds)
end
section
variable {H H' : Hp}
mutual
theorem Dd.mono (e : Same H H') : ∀ {v : V} {d : D}, Dd H v d → Dd H' v d
  | _, _, .non => .non
  | _, _, .bl b => .bl b
  | _, _, .int i => .int i
  | _, _, .str s => .str s
  | _, _, .tup h a => .tup (e _ _ h) (DdAll.mono e a)
  | _, _, .lst h a => .lst (e _ _ h) (DdAll.mono e a)
  | _, _, .ins h a => .ins (e _ _ h) (DdF.mono e a)
  | _, _, .ty n => .ty n
  | _, _, .cls c => .cls c
  | _, _, .exc h a => .exc (e _ _ h) (DdF.mono e a)
theorem DdAll.mono (e : Same H H') : ∀ {vs : List V} {ds : List D}, DdAll H vs ds → DdAll H' vs ds
  | _, _, .nil => .nil
  | _, _, .cons h a => .cons (Dd.mono e h) (DdAll.mono e a)
theorem DdF.mono (e : Same H H') : ∀ {vs : List (Str × V)} {ds : List (Str × D)}, DdF H vs ds → DdF H' vs ds
  | _, _, .nil => .nil
  | _, _, .cons h a => .cons (Dd.mono e h) (DdF.mono e a)
end
theorem DdAll.len : ∀ {vs : List V} {ds : List D}, DdAll H vs ds → vs.length = ds.length
  | _, _, .nil => rfl
  | _, _, .cons _ a => congrArg Nat.succ a.len
theorem DdAll.get : ∀ {vs : List V} {ds : List D} {i : Nat} {v : V}, DdAll H vs ds → vs[i]? = some v → ∃ d, ds[i]? = some d ∧ Dd H v d
  | _, _, _, _, .nil, e => by simp at e
  | _, _, 0, _, .cons h _, e => by
    simp at e
    subst e
    exact ⟨_, rfl, h⟩
  | _, _, i + 1, v, .cons _ a, e => by
    obtain ⟨d, h1, h2⟩ := DdAll.get (i := i) (v := v) a (by simpa using e)
    exact ⟨d, by simpa using h1, h2⟩
theorem DdAll.got : ∀ {vs : List V} {ds : List D} {i : Nat} {d : D}, DdAll H vs ds → ds[i]? = some d → ∃ v, vs[i]? = some v ∧ Dd H v d
  | _, _, _, _, .nil, e => by simp at e
  | _, _, 0, _, .cons h _, e => by
    simp at e
    subst e
    exact ⟨_, rfl, h⟩
  | _, _, i + 1, d, .cons _ a, e => by
    obtain ⟨v, h1, h2⟩ := DdAll.got (i := i) (d := d) a (by simpa using e)
    exact ⟨v, by simpa using h1, h2⟩
theorem DdAll.app : ∀ {vs ws : List V} {ds es : List D}, DdAll H vs ds → DdAll H ws es → DdAll H (vs ++ ws) (ds ++ es)
  | _, _, _, _, .nil, b => b
  | _, _, _, _, .cons h a, b => .cons h (a.app b)
theorem DdAll.take : ∀ {vs : List V} {ds : List D} (n : Nat), DdAll H vs ds → DdAll H (vs.take n) (ds.take n)
  | _, _, 0, _ => .nil
  | _, _, _ + 1, .nil => .nil
  | _, _, n + 1, .cons h a => .cons h (a.take n)
theorem DdAll.drop : ∀ {vs : List V} {ds : List D} (n : Nat), DdAll H vs ds → DdAll H (vs.drop n) (ds.drop n)
  | _, _, 0, h => h
  | _, _, _ + 1, .nil => .nil
  | _, _, n + 1, .cons _ a => a.drop n
theorem DdAll.set {v : V} {d : D} (h : Dd H v d) : ∀ {vs : List V} {ds : List D} (i : Nat), DdAll H vs ds → DdAll H (vs.set i v) (ds.set i d)
  | _, _, _, .nil => .nil
  | _, _, 0, .cons _ a => .cons h a
  | _, _, i + 1, .cons k a => .cons k (a.set h i)
theorem DdAll.dropLast : ∀ {vs : List V} {ds : List D}, DdAll H vs ds → DdAll H vs.dropLast ds.dropLast := fun {vs ds} h => by
  rw [List.dropLast_eq_take, List.dropLast_eq_take, h.len]
  exact h.take _
theorem DdAll.reverse : ∀ {vs : List V} {ds : List D}, DdAll H vs ds → DdAll H vs.reverse ds.reverse
  | _, _, .nil => .nil
  | _, _, .cons h a => by
    rw [List.reverse_cons, List.reverse_cons]
    exact a.reverse.app (.cons h .nil)
theorem DdAll.ints : ∀ {vs : List V} {ns : List Int}, DdAll H vs (ns.map D.int) → vs = ns.map V.int
  | _, [], h => by cases h; rfl
  | _, n :: ns, h => by
    cases h with
    | cons h1 h2 =>
      cases h1
      rw [DdAll.ints h2]
      rfl
theorem DdAll.of_ints : ∀ {ns : List Int}, DdAll H (ns.map V.int) (ns.map D.int)
  | [] => .nil
  | n :: ns => .cons (.int n) DdAll.of_ints
theorem DdAll.bls : ∀ {vs : List V} {ns : List Bool}, DdAll H vs (ns.map D.bl) → vs = ns.map V.bl
  | _, [], h => by cases h; rfl
  | _, n :: ns, h => by
    cases h with
    | cons h1 h2 =>
      cases h1
      rw [DdAll.bls h2]
      rfl
end

/-! ### cells: what a slot holds -/
inductive Cell where
  | non
  | dat (d : D)
  | lst (ds : List D)
  | dic (kvs : List (Key × D))
  | dit (kvs : List (List Key × D))
def Cell.own : Cell → Bool
  | .non => false
  | .dat _ => false
  | _ => true
inductive DdK {κ : Type} (H0 : Hp) : List (κ × V) → List (κ × D) → Prop
  | nil : DdK H0 [] []
  | cons {k : κ} {v : V} {vs : List (κ × V)} {d : D} {ds : List (κ × D)} : Dd H0 v d → DdK H0 vs ds → DdK H0 ((k, v) :: vs) ((k, d) :: ds)
theorem DdK.mono {κ : Type} {H H' : Hp} (e : Same H H') : ∀ {vs : List (κ × V)} {ds : List (κ × D)}, DdK H vs ds → DdK H' vs ds
  | _, _, .nil => .nil
  | _, _, .cons h a => .cons (Dd.mono e h) (DdK.mono e a)
def Own (H0 : Hp) (c : Cell) (o : HO) : Prop := match c with
  | .lst ds => ∃ vs, o = .lst vs ∧ DdAll H0 vs ds
  | .dic kvs => ∃ ws, o = .dK ws ∧ DdK H0 ws kvs
  | .dit kvs => ∃ ws, o = .dT ws ∧ DdK H0 ws kvs
  | .non => False
  | .dat _ => False
theorem Own.mono {H H' : Hp} (e : Same H H') : ∀ {c : Cell} {o : HO}, Own H c o → Own H' c o
  | .lst ds, _, ⟨vs, h1, h2⟩ => ⟨vs, h1, DdAll.mono e h2⟩
  | .dic kvs, _, ⟨ws, h1, h2⟩ => ⟨ws, h1, DdK.mono e h2⟩
  | .dit kvs, _, ⟨ws, h1, h2⟩ => ⟨ws, h1, DdK.mono e h2⟩
  | .non, _, h => h.elim
  | .dat _, _, h => h.elim

/-- what holds of a slot -/
def SlotOk (H0 H : Hp) (x : Option (Option V)) : Cell → Prop
  | .non => True
  | .dat d => ∃ v, x = some (some v) ∧ Dd H0 v d
  | c => ∃ l o, x = some (some (.ref l)) ∧ H0 l = none ∧ H l = some o ∧ Own H0 c o
def Owns (env : List Cell) (σ : L2.St) (i : Nat) (l : Addr) : Prop := ∃ c, env[i]? = some c ∧ c.own = true ∧ σ[i]? = some (some (.ref l))
def Owned (env : List Cell) (σ : L2.St) (l : Addr) : Prop := ∃ i, Owns env σ i l
structure Ok (env : List Cell) (σ : L2.St) (H0 H : Hp) : Prop where
  len : σ.length = env.length
  same : Same H0 H
  slot : ∀ (i : Nat) (c : Cell), env[i]? = some c → SlotOk H0 H σ[i]? c
  apart : ∀ (i j : Nat) (l : Addr), Owns env σ i l → Owns env σ j l → i = j
/-- from a state to a later one; the first m slots stay -/
structure Go (m : Nat) (env : List Cell) (σ : L2.St) (H0 H : Hp) (env' : List Cell) (σ' : L2.St) (H0' H' : Hp) : Prop where
  k0 : Same H0 H0'
  old : ∀ a, H a ≠ none → ¬ Owned env σ a → H0' a = H0 a
  keep : ∀ a o, H a = some o → ¬ Owned env σ a → H' a = some o
  al : ∀ a, H a ≠ none → H' a ≠ none
  ow : ∀ l, Owned env' σ' l → Owned env σ l ∨ H l = none
  fx : ∀ (i : Nat), i < m → σ'[i]? = σ[i]?

theorem slot_own {H0 H : Hp} {x : Option (Option V)} : ∀ {c : Cell}, c.own = true → (SlotOk H0 H x c ↔ ∃ l o, x = some (some (.ref l)) ∧ H0 l = none ∧ H l = some o ∧ Own H0 c o)
  | .non, h => by cases h
  | .dat _, h => by cases h
  | .lst _, _ => Iff.rfl
  | .dic _, _ => Iff.rfl
  | .dit _, _ => Iff.rfl

section
variable {m : Nat} {env env' env2 : List Cell} {σ σ' σ2 : L2.St} {H0 H H0' H' A0 A : Hp}
theorem Go.refl : Go m env σ H0 H env σ H0 H :=
  ⟨Same.refl _, fun _ _ _ => rfl, fun _ _ h _ => h, fun _ h => h, fun _ h => .inl h, fun _ _ => rfl⟩
theorem Go.trans (a : Go m env σ H0 H env' σ' H0' H') (b : Go m env' σ' H0' H' env2 σ2 A0 A) : Go m env σ H0 H env2 σ2 A0 A where
  k0 := a.k0.trans b.k0
  old x h n := (b.old x (a.al x h) fun w => by
    rcases a.ow x w with q | q
    · exact n q
    · exact h q).trans (a.old x h n)
  keep x o h n := b.keep x o (a.keep x o h n) fun w => by
    rcases a.ow x w with q | q
    · exact n q
    · rw [h] at q
      cases q
  al x h := b.al x (a.al x h)
  ow l h := by
    rcases b.ow l h with q | q
    · exact a.ow l q
    · exact .inr (Classical.byContradiction fun z => (a.al l z) q)
  fx i h := (b.fx i h).trans (a.fx i h)
theorem Go.fewer {n : Nat} (h : n ≤ m) (a : Go m env σ H0 H env' σ' H0' H') : Go n env σ H0 H env' σ' H0' H' :=
  ⟨a.k0, a.old, a.keep, a.al, a.ow, fun i hi => a.fx i (Nat.lt_of_lt_of_le hi h)⟩
theorem Ok.owned (O : Ok env σ H0 H) {l : Addr} (h : Owned env σ l) : H0 l = none ∧ H l ≠ none := by
  obtain ⟨i, c, h1, h2, h3⟩ := h
  obtain ⟨l', o, q1, q2, q3, _⟩ := (slot_own h2).mp (O.slot i c h1)
  rw [h3] at q1
  injection q1 with q1
  injection q1 with q1
  injection q1 with q1
  subst q1
  exact ⟨q2, fun z => by rw [q3] at z; cases z⟩
/-- a fresh address gets a thing, the known part grows with it -/
theorem Ok.laid (O : Ok env σ H0 H) {p : Addr} {o : HO} (hp : H p = none) : Ok env σ (upd H0 p o) (upd H p o) := by
  have h0 : H0 p = none := O.same.free hp
  have e0 : Same H0 (upd H0 p o) := fun b u e => by
    rw [upd_ne (ne_of_none e h0)]
    exact e
  refine ⟨O.len, fun b u e => ?_, fun i c h => ?_, O.apart⟩
  · by_cases hb : b = p
    · subst hb
      rw [upd_same] at e ⊢
      exact e
    · rw [upd_ne hb] at e ⊢
      exact O.same _ _ e
  · have q := O.slot i c h
    have own_ : ∀ c : Cell, (∃ l o, σ[i]? = some (some (V.ref l)) ∧ H0 l = none ∧ H l = some o ∧ Own H0 c o) → ∃ l u, σ[i]? = some (some (V.ref l)) ∧ upd H0 p o l = none ∧ upd H p o l = some u ∧ Own (upd H0 p o) c u := fun c ⟨l, u, q1, q2, q3, q4⟩ => by
      have hl : l ≠ p := ne_of_none q3 hp
      exact ⟨l, u, q1, by rw [upd_ne hl]; exact q2, by rw [upd_ne hl]; exact q3, Own.mono e0 q4⟩
    cases c with
    | non => trivial
    | dat d => obtain ⟨v, q1, q2⟩ := q; exact ⟨v, q1, q2.mono e0⟩
    | lst ds => exact own_ _ q
    | dic ds => exact own_ _ q
    | dit ds => exact own_ _ q
theorem Go.laid (O : Ok env σ H0 H) {p : Addr} {o : HO} (hp : H p = none) : Go m env σ H0 H env σ (upd H0 p o) (upd H p o) where
  k0 b u e := by
    rw [upd_ne (ne_of_none e (O.same.free hp))]
    exact e
  old a h _ := upd_ne (show a ≠ p from fun z => h (by rw [z]; exact hp))
  keep a u h _ := by
    rw [upd_ne (ne_of_none h hp)]
    exact h
  al a h := by
    rw [upd_ne (show a ≠ p from fun z => h (by rw [z]; exact hp))]
    exact h
  ow l h := .inl h
  fx _ _ := rfl
/-- a fresh address gets a thing that is nobody's yet -/
theorem Ok.tmp (O : Ok env σ H0 H) {p : Addr} {o : HO} (hp : H p = none) : Ok env σ H0 (upd H p o) := by
  refine ⟨O.len, fun b u e => ?_, fun i c h => ?_, O.apart⟩
  · rw [upd_ne (ne_of_none e (O.same.free hp))]
    exact O.same _ _ e
  · have q := O.slot i c h
    have own_ : ∀ c : Cell, (∃ l o, σ[i]? = some (some (V.ref l)) ∧ H0 l = none ∧ H l = some o ∧ Own H0 c o) → ∃ l u, σ[i]? = some (some (V.ref l)) ∧ H0 l = none ∧ upd H p o l = some u ∧ Own H0 c u := fun c ⟨l, u, q1, q2, q3, q4⟩ => by
      have hl : l ≠ p := ne_of_none q3 hp
      exact ⟨l, u, q1, q2, by rw [upd_ne hl]; exact q3, q4⟩
    cases c with
    | non => trivial
    | dat d => exact q
    | lst ds => exact own_ _ q
    | dic ds => exact own_ _ q
    | dit ds => exact own_ _ q
theorem Go.tmp (O : Ok env σ H0 H) {p : Addr} {o : HO} (hp : H p = none) : Go m env σ H0 H env σ H0 (upd H p o) where
  k0 := Same.refl _
  old _ _ _ := rfl
  keep a u h _ := by
    rw [upd_ne (ne_of_none h hp)]
    exact h
  al a h := by
    rw [upd_ne (show a ≠ p from fun z => h (by rw [z]; exact hp))]
    exact h
  ow l h := .inl h
  fx _ _ := rfl
/-- an own thing changes -/
theorem Ok.change (O : Ok env σ H0 H) {i : Nat} {c c' : Cell} {l : Addr} {o : HO} (h1 : env[i]? = some c) (h2 : c.own = true) (h3 : σ[i]? = some (some (.ref l))) (h4 : c'.own = true) (h5 : Own H0 c' o) :
    Ok (env.set i c') σ H0 (upd H l o) := by
  have ol : Owned env σ l := ⟨i, c, h1, h2, h3⟩
  obtain ⟨n0, al⟩ := O.owned ol
  have hi : i < env.length := by
    obtain ⟨q, _⟩ := List.getElem?_eq_some_iff.mp h1
    exact q
  have old : ∀ j d, (env.set i c')[j]? = some d → j ≠ i → env[j]? = some d := fun j d h n => by
    rw [List.getElem?_set_ne (Ne.symm n)] at h
    exact h
  have ap : ∀ j k, Owns (env.set i c') σ j k → Owns env σ j k := fun j k ⟨d, q1, q2, q3⟩ => by
    by_cases z : j = i
    · subst z
      exact ⟨c, h1, h2, q3⟩
    · exact ⟨d, old j d q1 z, q2, q3⟩
  refine ⟨by rw [List.length_set]; exact O.len, fun b u e => ?_, fun j d h => ?_, fun j k a q1 q2 => O.apart j k a (ap _ _ q1) (ap _ _ q2)⟩
  · rw [upd_ne (ne_of_none e n0)]
    exact O.same _ _ e
  · by_cases z : j = i
    · subst z
      rw [List.getElem?_set_self hi] at h
      injection h with h
      subst h
      exact (slot_own h4).mpr ⟨l, o, h3, n0, upd_same, h5⟩
    · have q := O.slot j d (old j d h z)
      have own_ : ∀ c : Cell, c.own = true → env[j]? = some c → (∃ l o, σ[j]? = some (some (V.ref l)) ∧ H0 l = none ∧ H l = some o ∧ Own H0 c o) → ∃ k u, σ[j]? = some (some (V.ref k)) ∧ H0 k = none ∧ upd H l o k = some u ∧ Own H0 c u := fun c oc ec ⟨k, u, q1, q2, q3, q4⟩ => by
        have hl : k ≠ l := fun e => z (O.apart j i l ⟨c, ec, oc, by rw [q1, e]⟩ ⟨_, h1, h2, h3⟩)
        exact ⟨k, u, q1, q2, by rw [upd_ne hl]; exact q3, q4⟩
      have oj := old j d h z
      cases d with
      | non => trivial
      | dat d => exact q
      | lst ds => exact own_ _ rfl oj q
      | dic ds => exact own_ _ rfl oj q
      | dit ds => exact own_ _ rfl oj q
theorem Go.change (O : Ok env σ H0 H) {i : Nat} {c c' : Cell} {l : Addr} {o : HO} (h1 : env[i]? = some c) (h2 : c.own = true) (h3 : σ[i]? = some (some (.ref l))) :
    Go m env σ H0 H (env.set i c') σ H0 (upd H l o) := by
  have ol : Owned env σ l := ⟨i, c, h1, h2, h3⟩
  refine ⟨Same.refl _, fun _ _ _ => rfl, fun a u h n => ?_, fun a h => ?_, fun k h => .inl ?_, fun _ _ => rfl⟩
  · rw [upd_ne (show a ≠ l from fun z => n (by rw [z]; exact ol))]
    exact h
  · by_cases z : a = l
    · subst z
      rw [upd_same]
      exact fun z => by cases z
    · rw [upd_ne z]
      exact h
  · obtain ⟨j, d, q1, q2, q3⟩ := h
    by_cases z : j = i
    · subst z
      exact ⟨j, c, h1, h2, q3⟩
    · rw [List.getElem?_set_ne (Ne.symm z)] at q1
      exact ⟨j, d, q1, q2, q3⟩
end

/-! ### what an expression hands over -/
inductive Res where
  | dat (d : D)
  | own (c : Cell)
  | al (i : Nat)
/-- v is what r says; B: where the expression began -/
def VAL (B : Hp) (env : List Cell) (σ : L2.St) (H0 H : Hp) (v : V) : Res → Prop
  | .dat d => Dd H0 v d
  | .own c => c.own = true ∧ ∃ l o, v = .ref l ∧ H0 l = none ∧ H l = some o ∧ Own H0 c o ∧ B l = none ∧ ¬ Owned env σ l
  | .al i => ∃ l, v = .ref l ∧ Owns env σ i l
section
variable {m : Nat} {env env' env2 : List Cell} {σ σ' σ2 : L2.St} {H0 H H0' H' A0 A B B' : Hp} {v : V}
/-- what was handed over stands, as long as the slots stand -/
theorem VAL.go (hal : ∀ i l, Owns env σ i l → Owns env' σ' i l) (g : Go m env σ H0 H env' σ' H0' H') : ∀ {r : Res}, VAL B env σ H0 H v r → VAL B env' σ' H0' H' v r
  | .dat d, h => Dd.mono g.k0 h
  | .own c, ⟨hc, l, o, e, h0, h1, h2, h3, h4⟩ => by
    have al : H l ≠ none := fun z => by rw [h1] at z; cases z
    refine ⟨hc, l, o, e, (g.old l al h4).trans h0, g.keep l o h1 h4, Own.mono g.k0 h2, h3, fun z => ?_⟩
    rcases g.ow l z with q | q
    · exact h4 q
    · exact al q
  | .al i, ⟨l, e, h⟩ => ⟨l, e, hal i l h⟩
/-- where it began may be told later or earlier -/
theorem VAL.base (h : ∀ l, B l = none → B' l = none) : ∀ {r : Res}, VAL B env σ H0 H v r → VAL B' env σ H0 H v r
  | .dat _, q => q
  | .own _, ⟨hc, l, o, e, h0, h1, h2, h3, h4⟩ => ⟨hc, l, o, e, h0, h1, h2, h l h3, h4⟩
  | .al _, q => q
end

/-- where we stand: the frame's part, how many slots stay, what is wished of an error -/
structure Wo where
  K : PySem.W.Frag
  m : Nat
  E : L2.St → XK
/-- the data side of a wish: what errors may come, with their fields, at which cells -/
abbrev PX := Addr → List (Str × D) → List Cell → Prop
abbrev PX0 : PX := fun _ _ _ => False
def ErrOk (W : Wo) (px : PX) (env : List Cell) (σ : L2.St) (H0 H : Hp) : Prop := ∀ (C d : Addr) (vs : List (Str × V)) (fs : List (Str × D)) (env' : List Cell) (σ' : L2.St) (H0' H' : Hp),
  px C fs env' → Ok env' σ' H0' H' → Go W.m env σ H0 H env' σ' H0' H' → H0' d = some (.xd vs) → DdF H0' vs fs → W.E σ' (.ref C) (some d) H'
theorem ErrOk.none {W : Wo} {env : List Cell} {σ : L2.St} {H0 H : Hp} : ErrOk W PX0 env σ H0 H := fun _ _ _ _ _ _ _ _ p => p.elim
theorem ErrOk.go {W : Wo} {px : PX} {env env' : List Cell} {σ σ' : L2.St} {H0 H H0' H' : Hp} (h : ErrOk W px env σ H0 H) (g : Go W.m env σ H0 H env' σ' H0' H') : ErrOk W px env' σ' H0' H' :=
  fun C d vs fs env2 σ2 A0 A p o g2 e f => h C d vs fs env2 σ2 A0 A p o (g.trans g2) e f
/-- a step that leaves the slots: own things may have changed -/
structure Stp (m : Nat) (env : List Cell) (σ : L2.St) (H0 H : Hp) (env' : List Cell) (H0' H' : Hp) : Prop where
  ok : Ok env' σ H0' H'
  go : Go m env σ H0 H env' σ H0' H'
  iff : ∀ (i : Nat) (l : Addr), Owns env σ i l ↔ Owns env' σ i l
theorem Stp.refl {m : Nat} {env : List Cell} {σ : L2.St} {H0 H : Hp} (O : Ok env σ H0 H) : Stp m env σ H0 H env H0 H := ⟨O, .refl, fun _ _ => Iff.rfl⟩
theorem Stp.trans {m : Nat} {env env' env2 : List Cell} {σ : L2.St} {H0 H H0' H' A0 A : Hp} (a : Stp m env σ H0 H env' H0' H') (b : Stp m env' σ H0' H' env2 A0 A) : Stp m env σ H0 H env2 A0 A :=
  ⟨b.ok, a.go.trans b.go, fun i l => (a.iff i l).trans (b.iff i l)⟩
theorem Stp.back {m : Nat} {env env' : List Cell} {σ : L2.St} {H0 H H0' H' : Hp} (a : Stp m env σ H0 H env' H0' H') {l : Addr} (h : H' l = none) : H l = none := Classical.byContradiction fun z => a.go.al l z h
theorem VAL.stp {m : Nat} {env env' : List Cell} {σ : L2.St} {H0 H H0' H' B : Hp} {v : V} {r : Res} (a : Stp m env σ H0 H env' H0' H') (h : VAL B env σ H0 H v r) : VAL B env' σ H0' H' v r :=
  VAL.go (fun i l q => (a.iff i l).mp q) a.go h

abbrev PR := Res → List Cell → Prop
/-- an expression: from the cells env it hands over r, leaving env', of which P holds; or an error of px -/
def wpE (W : Wo) (te : TE) (env : List Cell) (P : PR) (px : PX) : Prop := ∀ (σ : L2.St) (H0 H : Hp), Ok env σ H0 H → ErrOk W px env σ H0 H → ∀ Q : VK,
  (∀ v r env' H0' H', P r env' → Stp W.m env σ H0 H env' H0' H' → VAL H env' σ H0' H' v r → Q v H') → te σ H Q
/-- an operator on values, a one-place one, a call on values -/
def wpO (W : Wo) (f : R2) (x y : Res) (env : List Cell) (P : PR) (px : PX) : Prop := ∀ (σ : L2.St) (B H0 H : Hp), Ok env σ H0 H → ErrOk W px env σ H0 H → (∀ l, H l = none → B l = none) → ∀ v w, VAL B env σ H0 H v x → VAL B env σ H0 H w y → ∀ Q : VK,
  (∀ u r env' H0' H', P r env' → Stp W.m env σ H0 H env' H0' H' → VAL B env' σ H0' H' u r → Q u H') → f v w H Q
def wpU (W : Wo) (f : V → Hp → VK → Prop) (x : Res) (env : List Cell) (P : PR) (px : PX) : Prop := ∀ (σ : L2.St) (B H0 H : Hp), Ok env σ H0 H → ErrOk W px env σ H0 H → (∀ l, H l = none → B l = none) → ∀ v, VAL B env σ H0 H v x → ∀ Q : VK,
  (∀ u r env' H0' H', P r env' → Stp W.m env σ H0 H env' H0' H' → VAL B env' σ H0' H' u r → Q u H') → f v H Q
inductive VALs (B : Hp) (env : List Cell) (σ : L2.St) (H0 H : Hp) : List V → List Res → Prop
  | nil : VALs B env σ H0 H [] []
  | cons {v : V} {vs : List V} {r : Res} {rs : List Res} : VAL B env σ H0 H v r → VALs B env σ H0 H vs rs → VALs B env σ H0 H (v :: vs) (r :: rs)
theorem VALs.stp {m : Nat} {env env' : List Cell} {σ : L2.St} {H0 H H0' H' B : Hp} (a : Stp m env σ H0 H env' H0' H') : ∀ {vs : List V} {rs : List Res}, VALs B env σ H0 H vs rs → VALs B env' σ H0' H' vs rs
  | _, _, .nil => .nil
  | _, _, .cons h t => .cons (h.stp a) (t.stp a)
theorem VALs.base {env : List Cell} {σ : L2.St} {H0 H B B' : Hp} (a : ∀ l, B l = none → B' l = none) : ∀ {vs : List V} {rs : List Res}, VALs B env σ H0 H vs rs → VALs B' env σ H0 H vs rs
  | _, _, .nil => .nil
  | _, _, .cons h t => .cons (h.base a) (t.base a)
def wpA (W : Wo) (ta : TA) (env : List Cell) (P : List Res → List Cell → Prop) (px : PX) : Prop := ∀ (σ : L2.St) (H0 H : Hp), Ok env σ H0 H → ErrOk W px env σ H0 H → ∀ Q : List V → Hp → Prop,
  (∀ vs rs env' H0' H', P rs env' → Stp W.m env σ H0 H env' H0' H' → VALs H env' σ H0' H' vs rs → Q vs H') → ta σ H Q
def wpC (W : Wo) (f : List V → Hp → VK → Prop) (rs : List Res) (env : List Cell) (P : PR) (px : PX) : Prop := ∀ (σ : L2.St) (B H0 H : Hp), Ok env σ H0 H → ErrOk W px env σ H0 H → (∀ l, H l = none → B l = none) → ∀ vs, VALs B env σ H0 H vs rs → ∀ Q : VK,
  (∀ u r env' H0' H', P r env' → Stp W.m env σ H0 H env' H0' H' → VAL B env' σ H0' H' u r → Q u H') → f vs H Q
/-- a test -/
def wpT (W : Wo) (t : TT) (env : List Cell) (P : Bool → List Cell → Prop) (px : PX) : Prop := ∀ (σ : L2.St) (H0 H : Hp), Ok env σ H0 H → ErrOk W px env σ H0 H → ∀ Q : Bool → Hp → Prop,
  (∀ b env' H0' H', P b env' → Stp W.m env σ H0 H env' H0' H' → Q b H') → t σ H Q

/-! ### the rules of expressions -/
section
variable {W : Wo} {env : List Cell} {P : PR} {px : PX} {ta tb te : TE} {t u : TT}
theorem wpE.imp {P' : PR} (h : wpE W te env P px) (k : ∀ r env', P r env' → P' r env') : wpE W te env P' px :=
  fun σ H0 H O X Q q => h σ H0 H O X Q fun v r env' H0' H' p => q v r env' H0' H' (k r env' p)
theorem wpT.imp {P P' : Bool → List Cell → Prop} (h : wpT W t env P px) (k : ∀ r env', P r env' → P' r env') : wpT W t env P' px :=
  fun σ H0 H O X Q q => h σ H0 H O X Q fun r env' H0' H' p => q r env' H0' H' (k r env' p)
theorem wpA.imp {t : TA} {P P' : List Res → List Cell → Prop} (h : wpA W t env P px) (k : ∀ r env', P r env' → P' r env') : wpA W t env P' px :=
  fun σ H0 H O X Q q => h σ H0 H O X Q fun v r env' H0' H' p => q v r env' H0' H' (k r env' p)
theorem wp_var {i : Nat} {d : D} (h : env[i]? = some (.dat d)) (p : P (.dat d) env) : wpE W (tVar i) env P px := fun σ H0 H O _ Q q => by
  obtain ⟨v, q1, q2⟩ := O.slot i _ h
  exact ⟨v, q1, q v _ env H0 H p (.refl O) q2⟩
theorem wp_varO {i : Nat} {c : Cell} (h : env[i]? = some c) (hc : c.own = true) (p : P (.al i) env) : wpE W (tVar i) env P px := fun σ H0 H O _ Q q => by
  obtain ⟨l, o, q1, q2⟩ := (slot_own hc).mp (O.slot i _ h)
  exact ⟨.ref l, q1, q _ _ env H0 H p (.refl O) ⟨l, rfl, c, h, hc, q1⟩⟩
theorem wp_c {v : V} {d : D} (h : ∀ H, Dd H v d) (p : P (.dat d) env) : wpE W (tC v) env P px := fun σ H0 H O _ Q q => q v _ env H0 H p (.refl O) (h H0)
theorem wp_int {i : Int} (p : P (.dat (.int i)) env) : wpE W (tC (.int i)) env P px := wp_c (fun _ => .int i) p
theorem wp_bl {b : Bool} (p : P (.dat (.bl b)) env) : wpE W (tC (.bl b)) env P px := wp_c (fun _ => .bl b) p
theorem wp_non (p : P (.dat .non) env) : wpE W (tC .non) env P px := wp_c (fun _ => .non) p
theorem wp_str {s : Str} (p : P (.dat (.str s)) env) : wpE W (tC (.str s)) env P px := wp_c (fun _ => .str s) p
theorem wp_op {f : R2} (h : wpE W ta env (fun x env1 => wpE W tb env1 (fun y env2 => wpO W f x y env2 P px) px) px) : wpE W (tOp f ta tb) env P px := fun σ H0 H O X Q q =>
  h σ H0 H O X _ fun v x env1 A0 A h1 s1 v1 => h1 σ A0 A s1.ok (X.go s1.go) _ fun w y env2 B0 B h2 s2 v2 =>
    h2 σ H B0 B s2.ok (X.go (s1.trans s2).go) (fun l z => s1.back (s2.back z)) v w (v1.stp s2) (v2.base fun l z => s1.back z) Q fun u r env' C0 C p s3 v3 => q u r env' C0 C p ((s1.trans s2).trans s3) v3
theorem wp_un {f : V → Hp → VK → Prop} (h : wpE W ta env (fun x env1 => wpU W f x env1 P px) px) : wpE W (tUn f ta) env P px := fun σ H0 H O X Q q =>
  h σ H0 H O X _ fun v x env1 A0 A h1 s1 v1 => h1 σ H A0 A s1.ok (X.go s1.go) (fun l z => s1.back z) v v1 Q fun u r env' C0 C p s3 v3 => q u r env' C0 C p (s1.trans s3) v3
theorem wp_nil {P : List Res → List Cell → Prop} (p : P [] env) : wpA W tNil env P px := fun σ H0 H O X Q q => q [] [] env H0 H p (.refl O) .nil
/-- a list that is handed on is frozen -/
def fz : Res → Res
  | .own (.lst ds) => .dat (.lst ds)
  | r => r
theorem freeze {m : Nat} {A0 A H0 H : Hp} {env1 : List Cell} {σ : L2.St} {v : V} {r : Res} (S : Stp m env σ A0 A env1 H0 H) (h : VAL A env1 σ H0 H v r) : ∃ H0', Stp m env σ A0 A env1 H0' H ∧ VAL A env1 σ H0' H v (fz r) := by
  cases r with
  | dat d => exact ⟨H0, S, h⟩
  | al i => exact ⟨H0, S, h⟩
  | own c =>
    cases c with
    | non => exact ⟨H0, S, h⟩
    | dat d => exact ⟨H0, S, h⟩
    | dic d => exact ⟨H0, S, h⟩
    | dit d => exact ⟨H0, S, h⟩
    | lst ds =>
      obtain ⟨_, l, o, rfl, h0, h1, ⟨vs, rfl, h2⟩, h3, h4⟩ := h
      have O := S.ok
      have e0 : Same H0 (upd H0 l (.lst vs)) := fun b u e => by
        rw [upd_ne (ne_of_none e h0)]
        exact e
      have own_ : ∀ (i : Nat) (c : Cell), env1[i]? = some c → c.own = true → (∃ k o, σ[i]? = some (some (V.ref k)) ∧ H0 k = none ∧ H k = some o ∧ Own H0 c o) → ∃ k u, σ[i]? = some (some (V.ref k)) ∧ upd H0 l (.lst vs) k = none ∧ H k = some u ∧ Own (upd H0 l (.lst vs)) c u := fun i c e1 e2 ⟨k, u, q1, q2, q3, q4⟩ => by
        have hl : k ≠ l := fun z => h4 ⟨i, c, e1, e2, by rw [q1, z]⟩
        exact ⟨k, u, q1, by rw [upd_ne hl]; exact q2, q3, Own.mono e0 q4⟩
      refine ⟨upd H0 l (.lst vs), ⟨⟨O.len, fun b u e => ?_, fun i c e => ?_, O.apart⟩, ⟨S.go.k0.trans e0, fun a ha hn => ?_, S.go.keep, S.go.al, S.go.ow, S.go.fx⟩, S.iff⟩, .lst upd_same (h2.mono e0)⟩
      · by_cases hb : b = l
        · subst hb
          rw [upd_same] at e
          rw [h1]
          exact e
        · rw [upd_ne hb] at e
          exact O.same _ _ e
      · have q := O.slot i c e
        cases c with
        | non => trivial
        | dat d =>
          obtain ⟨v, q1, q2⟩ := q
          exact ⟨v, q1, q2.mono e0⟩
        | lst ds => exact own_ i _ e rfl q
        | dic ds => exact own_ i _ e rfl q
        | dit ds => exact own_ i _ e rfl q
      · rw [upd_ne (show a ≠ l from fun z => ha (by rw [z]; exact h3))]
        exact S.go.old a ha hn
theorem wpE.fz (h : wpE W te env (fun r e => P (fz r) e) px) : wpE W te env P px := fun σ H0 H O X Q q =>
  h σ H0 H O X Q fun v r env' A0 A p S w => by
    obtain ⟨A0', S', w'⟩ := freeze S w
    exact q v _ env' A0' A p S' w'
theorem wpa_cons {t : TA} {P : List Res → List Cell → Prop} (h : wpE W te env (fun r env1 => wpA W t env1 (fun rs env2 => P (Nw.fz r :: rs) env2) px) px) : wpA W (tCons te t) env P px := fun σ H0 H O X Q q =>
  (wpE.fz (P := fun r env1 => wpA W t env1 (fun rs env2 => P (r :: rs) env2) px) h) σ H0 H O X _ fun v r env1 A0 A h1 S w => h1 σ A0 A S.ok (X.go S.go) _ fun vs rs env2 B0 B p S2 w2 =>
    q (v :: vs) (r :: rs) env2 B0 B p (S.trans S2) (.cons (w.stp S2) (w2.base fun l z => S.back z))
/-- a new tuple -/
theorem Stp.laid {m : Nat} {env : List Cell} {σ : L2.St} {H0 H : Hp} (O : Ok env σ H0 H) {p : Addr} {o : HO} (hp : H p = none) : Stp m env σ H0 H env (upd H0 p o) (upd H p o) :=
  ⟨O.laid hp, .laid O hp, fun _ _ => Iff.rfl⟩
theorem Stp.tmp {m : Nat} {env : List Cell} {σ : L2.St} {H0 H : Hp} (O : Ok env σ H0 H) {p : Addr} {o : HO} (hp : H p = none) : Stp m env σ H0 H env H0 (upd H p o) :=
  ⟨O.tmp hp, .tmp O hp, fun _ _ => Iff.rfl⟩
theorem Stp.chg {m : Nat} {env : List Cell} {σ : L2.St} {H0 H : Hp} (O : Ok env σ H0 H) {i : Nat} {c c' : Cell} {l : Addr} {o : HO} (h1 : env[i]? = some c) (h2 : c.own = true) (h3 : σ[i]? = some (some (.ref l))) (h4 : c'.own = true) (h5 : Own H0 c' o) :
    Stp m env σ H0 H (env.set i c') H0 (upd H l o) := by
  refine ⟨O.change h1 h2 h3 h4 h5, .change O h1 h2 h3, fun j k => ⟨fun ⟨d, q1, q2, q3⟩ => ?_, fun ⟨d, q1, q2, q3⟩ => ?_⟩⟩
  · by_cases z : j = i
    · subst z
      have hi : j < env.length := (List.getElem?_eq_some_iff.mp h1).1
      exact ⟨c', List.getElem?_set_self hi, h4, q3⟩
    · exact ⟨d, by rw [List.getElem?_set_ne (Ne.symm z)]; exact q1, q2, q3⟩
  · by_cases z : j = i
    · subst z
      exact ⟨c, h1, h2, q3⟩
    · rw [List.getElem?_set_ne (Ne.symm z)] at q1
      exact ⟨d, q1, q2, q3⟩
def datAll : List Res → Option (List D)
  | [] => some []
  | .dat d :: rs => (datAll rs).map (d :: ·)
  | _ :: _ => none
theorem VALs.dats {B : Hp} {env : List Cell} {σ : L2.St} {H0 H : Hp} : ∀ {vs : List V} {ds : List D}, VALs B env σ H0 H vs (ds.map Res.dat) → DdAll H0 vs ds
  | _, [], h => by cases h; exact .nil
  | _, d :: ds, h => by
    cases h with
    | cons h1 h2 => exact .cons h1 h2.dats
theorem datAll_map : ∀ {rs : List Res} {ds : List D}, datAll rs = some ds → rs = ds.map Res.dat
  | [], _, h => by
    cases h
    rfl
  | .dat d :: rs, ds, h => by
    have h' : (datAll rs).map (d :: ·) = some ds := h
    cases e : datAll rs with
    | none => rw [e] at h'; cases h'
    | some es =>
      rw [e] at h'
      cases h'
      rw [datAll_map e]
      rfl
  | .own _ :: _, _, h => by cases h
  | .al _ :: _, _, h => by cases h
def alAll : List Res → Option (Nat × List D)
  | .al i :: rs => (datAll rs).map (i, ·)
  | _ => none
theorem alAll_map : ∀ {rs : List Res} {i : Nat} {ds : List D}, alAll rs = some (i, ds) → rs = .al i :: ds.map Res.dat
  | .al j :: rs, i, ds, h => by
    have h' : (datAll rs).map (j, ·) = some (i, ds) := h
    cases e : datAll rs with
    | none => rw [e] at h'; cases h'
    | some es =>
      rw [e] at h'
      cases h'
      rw [datAll_map e]
  | [], _, _, h => by cases h
  | .dat _ :: _, _, _, h => by cases h
  | .own _ :: _, _, _, h => by cases h
theorem wp_tup {t : TA} (h : wpA W t env (fun rs env1 => ∃ ds, datAll rs = some ds ∧ ds.length ≤ 100000 ∧ P (.dat (.tup ds)) env1) px) : wpE W (tTup t) env P px := fun σ H0 H O X Q q =>
  h σ H0 H O X _ fun vs rs env1 A0 A ⟨ds, er, hl, p⟩ S w => by
    have er := datAll_map er
    subst er
    have hd := w.dats
    have hlen := hd.len
    refine ⟨by rw [hlen]; exact Nat.le_trans hl (by decide), fun a ha => ?_⟩
    have e0 : Same A0 (upd A0 a (.tup vs)) := fun b u e => by
      rw [upd_ne (ne_of_none e (S.ok.same.free ha))]
      exact e
    exact q _ _ env1 _ _ p (S.trans (.laid S.ok ha)) (.tup upd_same (hd.mono e0))
theorem wp_lst {t : TA} (h : wpA W t env (fun rs env1 => ∃ ds, datAll rs = some ds ∧ ds.length ≤ 100000 ∧ P (.own (.lst ds)) env1) px) : wpE W (tLst t) env P px := fun σ H0 H O X Q q =>
  h σ H0 H O X _ fun vs rs env1 A0 A ⟨ds, er, hl, p⟩ S w => by
    have er := datAll_map er
    subst er
    have hd := w.dats
    have hlen := hd.len
    refine ⟨by rw [hlen]; exact Nat.le_trans hl (by decide), fun a ha => ?_⟩
    refine q _ _ env1 _ _ p (S.trans (.tmp S.ok ha)) ⟨rfl, a, _, rfl, S.ok.same.free ha, upd_same, ⟨vs, rfl, hd⟩, S.back ha, fun z => ?_⟩
    exact (S.ok.owned z).2 ha
end
end Nw

set_option Elab.async false
set_option linter.all false
set_option maxRecDepth 100000
set_option maxHeartbeats 1000000
namespace Nw
open PySem PySem.Spec PyProof.Rows L2

/-! ### operators -/
def D.sc : D → Option V
  | .non => some .non | .bl b => some (.bl b) | .int i => some (.int i) | .str s => some (.str s)
  | _ => none
theorem Dd.sc {H : Hp} {v x : V} {d : D} (h : Dd H v d) (e : d.sc = some x) : v = x := by
  cases h <;> first | (injection e with e) | cases e
theorem Dd.int_inv {H : Hp} {v : V} {i : Int} (h : Dd H v (.int i)) : v = .int i := by cases h; rfl
theorem Dd.bl_inv {H : Hp} {v : V} {i : Bool} (h : Dd H v (.bl i)) : v = .bl i := by cases h; rfl
theorem Dd.tup_inv {H : Hp} {v : V} {ds : List D} (h : Dd H v (.tup ds)) : ∃ a vs, v = .ref a ∧ H a = some (.tup vs) ∧ DdAll H vs ds := by
  cases h with
  | tup h a => exact ⟨_, _, rfl, h, a⟩
theorem Dd.lst_inv {H : Hp} {v : V} {ds : List D} (h : Dd H v (.lst ds)) : ∃ a vs, v = .ref a ∧ H a = some (.lst vs) ∧ DdAll H vs ds := by
  cases h with
  | lst h a => exact ⟨_, _, rfl, h, a⟩
/-- what stands as a row of items: a tuple, a list -/
inductive SeqR (env : List Cell) : Res → List D → Prop
  | tup (ds : List D) : SeqR env (.dat (.tup ds)) ds
  | lst (ds : List D) : SeqR env (.dat (.lst ds)) ds
  | own (ds : List D) : SeqR env (.own (.lst ds)) ds
  | al (i : Nat) (ds : List D) (h : env[i]? = some (.lst ds)) : SeqR env (.al i) ds
inductive LstR (env : List Cell) : Res → List D → Prop
  | lst (ds : List D) : LstR env (.dat (.lst ds)) ds
  | own (ds : List D) : LstR env (.own (.lst ds)) ds
  | al (i : Nat) (ds : List D) (h : env[i]? = some (.lst ds)) : LstR env (.al i) ds
section
variable {W : Wo} {env : List Cell} {P : PR} {px : PX} {ta tb tc te : TE} {t u : TT} {B H0 H : Hp} {σ : L2.St} {v : V} {r : Res} {ds es : List D}
theorem LstR.get (O : Ok env σ H0 H) (h : LstR env r ds) (w : VAL B env σ H0 H v r) : ∃ p vs, v = .ref p ∧ DdAll H0 vs ds ∧ H p = some (.lst vs) := by
  cases h with
  | lst =>
    obtain ⟨a, vs, rfl, q1, q2⟩ := Dd.lst_inv w
    exact ⟨a, vs, rfl, q2, O.same _ _ q1⟩
  | own =>
    obtain ⟨_, l, o, rfl, h0, h1, ⟨vs, rfl, h2⟩, _⟩ := w
    exact ⟨l, vs, rfl, h2, h1⟩
  | al i _ e =>
    obtain ⟨l, rfl, c, q1, q2, q3⟩ := w
    rw [e] at q1
    injection q1 with q1
    subst q1
    obtain ⟨k, o, z1, z2, z3, ⟨vs, rfl, z4⟩⟩ := O.slot i _ e
    rw [q3] at z1
    injection z1 with z1
    injection z1 with z1
    injection z1 with z1
    subst z1
    exact ⟨l, vs, rfl, z4, z3⟩
theorem SeqR.get (O : Ok env σ H0 H) (h : SeqR env r ds) (w : VAL B env σ H0 H v r) : ∃ p vs, v = .ref p ∧ DdAll H0 vs ds ∧ (H p = some (.lst vs) ∨ H p = some (.tup vs)) := by
  cases h with
  | tup =>
    obtain ⟨a, vs, rfl, q1, q2⟩ := Dd.tup_inv w
    exact ⟨a, vs, rfl, q2, .inr (O.same _ _ q1)⟩
  | lst =>
    obtain ⟨p, vs, e, h1, h2⟩ := LstR.get O (.lst ds) w
    exact ⟨p, vs, e, h1, .inl h2⟩
  | own =>
    obtain ⟨p, vs, e, h1, h2⟩ := LstR.get O (.own ds) w
    exact ⟨p, vs, e, h1, .inl h2⟩
  | al i _ q =>
    obtain ⟨p, vs, e, h1, h2⟩ := LstR.get O (.al i ds q) w
    exact ⟨p, vs, e, h1, .inl h2⟩
theorem wo_int {g : Int → Int → Int} {i j : Int} (p : P (.dat (.int (g i j))) env) : wpO W (rI0 fun i j => .int (g i j)) (.dat (.int i)) (.dat (.int j)) env P px := fun σ B H0 H O _ _ v w hv hw Q q => by
  cases hv; cases hw
  exact ⟨i, j, rfl, rfl, q _ _ env H0 H p (.refl O) (.int _)⟩
theorem wo_bl {g : Int → Int → Bool} {i j : Int} (p : P (.dat (.bl (g i j))) env) : wpO W (rI0 fun i j => .bl (g i j)) (.dat (.int i)) (.dat (.int j)) env P px := fun σ B H0 H O _ _ v w hv hw Q q => by
  cases hv; cases hw
  exact ⟨i, j, rfl, rfl, q _ _ env H0 H p (.refl O) (.bl _)⟩
theorem wo_intC {C : Int → Int → Prop} {g : Int → Int → Int} {i j : Int} (c : C i j) (p : P (.dat (.int (g i j))) env) : wpO W (rI C fun i j => .int (g i j)) (.dat (.int i)) (.dat (.int j)) env P px := fun σ B H0 H O _ _ v w hv hw Q q => by
  cases hv; cases hw
  exact ⟨i, j, rfl, rfl, c, q _ _ env H0 H p (.refl O) (.int _)⟩
theorem wo_eq {x y : V} {d e : D} (hd : d.sc = some x) (he : e.sc = some y) (hs : scal x y = true) (p : P (.dat (.bl (decide (x = y)))) env) : wpO W rEq (.dat d) (.dat e) env P px := fun σ B H0 H O _ _ v w hv hw Q q => by
  have hv : Dd H0 v d := hv
  have hw : Dd H0 w e := hw
  rw [hv.sc hd, hw.sc he]
  exact ⟨hs, q _ _ env H0 H p (.refl O) (.bl _)⟩
theorem wo_ne {x y : V} {d e : D} (hd : d.sc = some x) (he : e.sc = some y) (hs : scal x y = true) (p : P (.dat (.bl (!decide (x = y)))) env) : wpO W rNe (.dat d) (.dat e) env P px := fun σ B H0 H O _ _ v w hv hw Q q => by
  have hv : Dd H0 v d := hv
  have hw : Dd H0 w e := hw
  rw [hv.sc hd, hw.sc he]
  exact ⟨hs, q _ _ env H0 H p (.refl O) (.bl _)⟩
theorem dec_int (i j : Int) : decide (V.int i = V.int j) = decide (i = j) := by
  by_cases h : i = j
  · rw [decide_eq_true h, h, decide_eq_true rfl]
  · rw [decide_eq_false h, decide_eq_false fun e => h (V.int.inj e)]
theorem wo_eqI {i j : Int} (p : P (.dat (.bl (decide (i = j)))) env) : wpO W rEq (.dat (.int i)) (.dat (.int j)) env P px := wo_eq rfl rfl rfl (by rw [dec_int]; exact p)
theorem wo_neI {i j : Int} (p : P (.dat (.bl (!decide (i = j)))) env) : wpO W rNe (.dat (.int i)) (.dat (.int j)) env P px := wo_ne rfl rfl rfl (by rw [dec_int]; exact p)
theorem wo_eqB {i j : Bool} (p : P (.dat (.bl (i == j))) env) : wpO W rEq (.dat (.bl i)) (.dat (.bl j)) env P px := wo_eq rfl rfl rfl (by
  have e : decide (V.bl i = V.bl j) = (i == j) := by cases i <;> cases j <;> decide
  rw [e]
  exact p)
theorem ixN_lt {n : Nat} {i : Int} {k : Nat} (h : ixN n i = some k) : k < n := by
  unfold ixN at h
  split at h
  · split at h
    · injection h with h; omega
    · cases h
  · split at h
    · injection h with h; omega
    · cases h
theorem atI_of {vs : List V} {i : Int} {d : D} (h : DdAll H0 vs ds) (e : atI ds i = some d) : ∃ v, atI vs i = some v ∧ Dd H0 v d := by
  unfold atI at e ⊢
  rw [h.len]
  cases q : ixN ds.length i with
  | none => rw [q] at e; cases e
  | some k =>
    rw [q] at e
    exact h.got e
theorem wo_ixT {i : Int} {d : D} (e : atI ds i = some d) (p : P (.dat d) env) : wpO W (rIxT W.K) (.dat (.tup ds)) (.dat (.int i)) env P px := fun σ B H0 H O _ _ v w hv hw Q q => by
  cases hw
  obtain ⟨a, vs, rfl, q1, q2⟩ := Dd.tup_inv hv
  obtain ⟨u, z1, z2⟩ := atI_of q2 e
  exact ⟨a, vs, i, u, rfl, rfl, SqT.of (O.same _ _ q1), z1, q _ _ env H0 H p (.refl O) z2⟩
theorem wo_ixL {i : Int} {d : D} (l : LstR env r ds) (e : atI ds i = some d) (p : P (.dat d) env) : wpO W (rIxL W.K) r (.dat (.int i)) env P px := fun σ B H0 H O _ _ v w hv hw Q q => by
  cases hw
  obtain ⟨a, vs, rfl, q2, q1⟩ := l.get O hv
  obtain ⟨u, z1, z2⟩ := atI_of q2 e
  exact ⟨a, vs, i, u, rfl, rfl, SqL.of q1, z1, q _ _ env H0 H p (.refl O) z2⟩
theorem wo_ix {i : Int} {d : D} (l : SeqR env r ds) (e : atI ds i = some d) (p : P (.dat d) env) : wpO W (rIx W.K) r (.dat (.int i)) env P px := fun σ B H0 H O _ _ v w hv hw Q q => by
  cases hw
  obtain ⟨a, vs, rfl, q2, q1⟩ := l.get O hv
  obtain ⟨u, z1, z2⟩ := atI_of q2 e
  have z := q _ _ env H0 H p (.refl O) z2
  rcases q1 with q1 | q1
  · exact .inl ⟨a, vs, i, u, rfl, rfl, SqL.of q1, z1, z⟩
  · exact .inr (.inl ⟨a, vs, i, u, rfl, rfl, SqT.of q1, z1, z⟩)
theorem wo_catT (hl : ds.length + es.length ≤ 100000) (p : P (.dat (.tup (ds ++ es))) env) : wpO W (rCatA W.K) (.dat (.tup ds)) (.dat (.tup es)) env P px := fun σ B H0 H O _ _ v w hv hw Q q => by
  obtain ⟨a, vs, rfl, q1, q2⟩ := Dd.tup_inv hv
  obtain ⟨b, ws, rfl, z1, z2⟩ := Dd.tup_inv hw
  refine ⟨a, b, vs, ws, rfl, rfl, SqT.of (O.same _ _ q1), SqT.of (O.same _ _ z1), ?_, fun e => ?_, fun _ e => ?_, fun _ _ x hx => ?_⟩
  · rw [q2.len, z2.len]
    exact Nat.le_trans hl (by decide)
  · subst e
    cases q2
    exact q _ _ env H0 H p (.refl O) (.tup z1 z2)
  · subst e
    cases z2
    rw [List.append_nil] at p
    exact q _ _ env H0 H p (.refl O) (.tup q1 q2)
  · have e0 : Same H0 (upd H0 x (.tup (vs ++ ws))) := fun b u e => by
      rw [upd_ne (ne_of_none e (O.same.free hx))]
      exact e
    exact q _ _ env _ _ p (.laid O hx) (.tup upd_same ((q2.app z2).mono e0))
theorem wo_catL {r2 : Res} (l : LstR env r ds) (l2 : LstR env r2 es) (hl : ds.length + es.length ≤ 100000) (p : P (.own (.lst (ds ++ es))) env) : wpO W rCat r r2 env P px := fun σ B H0 H O _ hB v w hv hw Q q => by
  obtain ⟨a, vs, rfl, q2, q1⟩ := l.get O hv
  obtain ⟨b, ws, rfl, z2, z1⟩ := l2.get O hw
  refine ⟨a, b, vs, ws, rfl, rfl, q1, z1, ?_, fun x hx => ?_⟩
  · rw [q2.len, z2.len]
    exact Nat.le_trans hl (by decide)
  · exact q _ _ env _ _ p (.tmp O hx) ⟨rfl, x, _, rfl, O.same.free hx, upd_same, ⟨_, rfl, q2.app z2⟩, hB x hx, fun z => (O.owned z).2 hx⟩
/-- x in ns, all whole numbers -/
theorem inV_ints (i : Int) (ns : List Int) : inV (.int i) (ns.map V.int) = ns.contains i := by
  unfold inV
  induction ns with
  | nil => rfl
  | cons n ns ih =>
    rw [List.map_cons, List.any_cons, ih, List.contains_cons]
    have e : eqV (V.int n) (V.int i) = (i == n) := by
      by_cases h : n = i
      · subst h
        simp [eqV]
      · have h2 : ¬ i = n := fun z => h z.symm
        simp [eqV, h, h2]
        rw [beq_eq_false_iff_ne.mpr h, beq_eq_false_iff_ne.mpr h2]
    rw [e]
theorem wo_isN {d : D} {x : V} (hd : d.sc = some x) (p : P (.dat (.bl (decide (x = .non)))) env) : wpO W (fun x y H Q => y = .non ∧ Q (.bl (decide (x = .non))) H) (.dat d) (.dat .non) env P px := fun σ B H0 H O _ _ v w hv hw Q q => by
  have hv : Dd H0 v d := hv
  rw [hv.sc hd]
  cases hw
  exact ⟨rfl, q _ _ env H0 H p (.refl O) (.bl _)⟩

/-! ### calls of built-ins -/
theorem wp_cb {f : List V → Hp → VK → Prop} {t : TA} (h : wpA W t env (fun rs env1 => wpC W f rs env1 P px) px) : wpE W (tCB f t) env P px := fun σ H0 H O X Q q =>
  h σ H0 H O X _ fun vs rs env1 A0 A h1 s1 v1 => h1 σ H A0 A s1.ok (X.go s1.go) (fun l z => s1.back z) vs v1 Q fun u r env' C0 C p s3 v3 => q u r env' C0 C p (s1.trans s3) v3
theorem VALs.one {B : Hp} {vs : List V} (h : VALs B env σ H0 H vs [r]) : ∃ v, vs = [v] ∧ VAL B env σ H0 H v r := by
  cases h with
  | cons a b =>
    cases b
    exact ⟨_, rfl, a⟩
theorem VALs.two {B : Hp} {vs : List V} {r2 : Res} (h : VALs B env σ H0 H vs [r, r2]) : ∃ v w, vs = [v, w] ∧ VAL B env σ H0 H v r ∧ VAL B env σ H0 H w r2 := by
  cases h with
  | cons a b =>
    obtain ⟨w, rfl, b1⟩ := b.one
    exact ⟨_, w, rfl, a, b1⟩
theorem wc_len (l : SeqR env r ds) (p : P (.dat (.int ds.length)) env) : wpC W (fun xs H Q => ∃ p ys, xs = [.ref p] ∧ (SqL W.K H p ys ∨ SqT W.K H p ys) ∧ Q (.int ys.length) H) [r] env P px := fun σ B H0 H O _ _ vs hv Q q => by
  obtain ⟨v, rfl, hv1⟩ := hv.one
  obtain ⟨a, ws, rfl, q2, q1⟩ := l.get O hv1
  refine ⟨a, ws, rfl, ?_, ?_⟩
  · rcases q1 with q1 | q1
    · exact .inl (SqL.of q1)
    · exact .inr (SqT.of q1)
  · rw [q2.len]
    exact q _ _ env H0 H p (.refl O) (.int _)
theorem wc_int {i : Int} (p : P (.dat (.int i)) env) : wpC W (fun xs H Q => (∃ i, xs = [.int i] ∧ Q (.int i) H) ∨ ∃ k, xs = [.bl k] ∧ Q (.int (if k then 1 else 0)) H) [.dat (.int i)] env P px := fun σ B H0 H O _ _ vs hv Q q => by
  obtain ⟨v, rfl, hv1⟩ := hv.one
  cases hv1
  exact .inl ⟨i, rfl, q _ _ env H0 H p (.refl O) (.int _)⟩
theorem wc_intB {b : Bool} (p : P (.dat (.int (if b then 1 else 0))) env) : wpC W (fun xs H Q => (∃ i, xs = [.int i] ∧ Q (.int i) H) ∨ ∃ k, xs = [.bl k] ∧ Q (.int (if k then 1 else 0)) H) [.dat (.bl b)] env P px := fun σ B H0 H O _ _ vs hv Q q => by
  obtain ⟨v, rfl, hv1⟩ := hv.one
  cases hv1
  exact .inr ⟨b, rfl, q _ _ env H0 H p (.refl O) (.int _)⟩
theorem wc_abs {i : Int} (p : P (.dat (.int (if i < 0 then -i else i))) env) : wpC W (fun xs H Q => ∃ i, xs = [.int i] ∧ Q (.int (if i < 0 then -i else i)) H) [.dat (.int i)] env P px := fun σ B H0 H O _ _ vs hv Q q => by
  obtain ⟨v, rfl, hv1⟩ := hv.one
  cases hv1
  exact ⟨i, rfl, q _ _ env H0 H p (.refl O) (.int _)⟩
theorem wc_max2 {i j : Int} (p : P (.dat (.int (if j > i then j else i))) env) : wpC W (fun xs H Q => ∃ i j, xs = [.int i, .int j] ∧ Q (.int (if j > i then j else i)) H) [.dat (.int i), .dat (.int j)] env P px := fun σ B H0 H O _ _ vs hv Q q => by
  obtain ⟨v, w, rfl, hv1, hw1⟩ := hv.two
  cases hv1; cases hw1
  exact ⟨i, j, rfl, q _ _ env H0 H p (.refl O) (.int _)⟩
theorem wc_min2 {i j : Int} (p : P (.dat (.int (if j < i then j else i))) env) : wpC W (fun xs H Q => ∃ i j, xs = [.int i, .int j] ∧ Q (.int (if j < i then j else i)) H) [.dat (.int i), .dat (.int j)] env P px := fun σ B H0 H O _ _ vs hv Q q => by
  obtain ⟨v, w, rfl, hv1, hw1⟩ := hv.two
  cases hv1; cases hw1
  exact ⟨i, j, rfl, q _ _ env H0 H p (.refl O) (.int _)⟩
theorem laid_tup {m : Nat} {vs : List V} {a : Addr} (O : Ok env σ H0 H) (h : DdAll H0 vs ds) (ha : H a = none) : Stp m env σ H0 H env (upd H0 a (.tup vs)) (upd H a (.tup vs)) ∧ Dd (upd H0 a (.tup vs)) (.ref a) (.tup ds) := by
  have e0 : Same H0 (upd H0 a (.tup vs)) := fun b u e => by
    rw [upd_ne (ne_of_none e (O.same.free ha))]
    exact e
  exact ⟨.laid O ha, .tup upd_same (h.mono e0)⟩
theorem wc_tuple (l : SeqR env r ds) (p : P (.dat (.tup ds)) env) : wpC W (fun xs H Q => ∃ p ys, xs = [.ref p] ∧ ((SqL W.K H p ys ∧ ∀ l, H l = none → Q (.ref l) (upd H l (.tup ys))) ∨ (SqT W.K H p ys ∧ Q (.ref p) H))) [r] env P px := fun σ B H0 H O _ _ vs hv Q q => by
  obtain ⟨v, rfl, hv1⟩ := hv.one
  have new : ∀ (a : Addr) (ws : List V), v = .ref a → DdAll H0 ws ds → H a = some (.lst ws) → (∃ p ys, [v] = [V.ref p] ∧ ((SqL W.K H p ys ∧ ∀ l, H l = none → Q (.ref l) (upd H l (.tup ys))) ∨ (SqT W.K H p ys ∧ Q (.ref p) H))) := fun a ws e h1 h2 => by
    subst e
    refine ⟨a, ws, rfl, .inl ⟨SqL.of h2, fun x hx => ?_⟩⟩
    obtain ⟨S, d⟩ := laid_tup (m := W.m) O h1 hx
    exact q _ _ env _ _ p S d
  cases l with
  | tup =>
    obtain ⟨a, ws, rfl, q1, q2⟩ := Dd.tup_inv hv1
    exact ⟨a, ws, rfl, .inr ⟨SqT.of (O.same _ _ q1), q _ _ env H0 H p (.refl O) (.tup q1 q2)⟩⟩
  | lst =>
    obtain ⟨a, ws, e, h1, h2⟩ := LstR.get O (.lst ds) hv1
    exact new a ws e h1 h2
  | own =>
    obtain ⟨a, ws, e, h1, h2⟩ := LstR.get O (.own ds) hv1
    exact new a ws e h1 h2
  | al i _ z =>
    obtain ⟨a, ws, e, h1, h2⟩ := LstR.get O (.al i ds z) hv1
    exact new a ws e h1 h2
theorem wc_list (l : SeqR env r ds) (p : P (.own (.lst ds)) env) : wpC W (fun xs H Q => ∃ p ys, xs = [.ref p] ∧ (SqL W.K H p ys ∨ SqT W.K H p ys) ∧ ∀ l, H l = none → Q (.ref l) (upd H l (.lst ys))) [r] env P px := fun σ B H0 H O _ hB vs hv Q q => by
  obtain ⟨v, rfl, hv1⟩ := hv.one
  obtain ⟨a, ws, rfl, q2, q1⟩ := l.get O hv1
  refine ⟨a, ws, rfl, ?_, fun x hx => ?_⟩
  · rcases q1 with q1 | q1
    · exact .inl (SqL.of q1)
    · exact .inr (SqT.of q1)
  · exact q _ _ env _ _ p (.tmp O hx) ⟨rfl, x, _, rfl, O.same.free hx, upd_same, ⟨_, rfl, q2⟩, hB x hx, fun z => (O.owned z).2 hx⟩
theorem wc_all {bs : List Bool} (l : LstR env r (bs.map D.bl)) (p : P (.dat (.bl (bs.all id))) env) : wpC W (rAll W.K) [r] env P px := fun σ B H0 H O _ _ vs hv Q q => by
  obtain ⟨v, rfl, hv1⟩ := hv.one
  obtain ⟨a, ws, rfl, q2, q1⟩ := l.get O hv1
  have e := q2.bls
  subst e
  exact ⟨a, bs, rfl, SqL.of q1, q _ _ env H0 H p (.refl O) (.bl _)⟩
theorem wc_any {bs : List Bool} (l : LstR env r (bs.map D.bl)) (p : P (.dat (.bl (bs.any id))) env) : wpC W (rAny W.K) [r] env P px := fun σ B H0 H O _ _ vs hv Q q => by
  obtain ⟨v, rfl, hv1⟩ := hv.one
  obtain ⟨a, ws, rfl, q2, q1⟩ := l.get O hv1
  have e := q2.bls
  subst e
  exact ⟨a, bs, rfl, SqL.of q1, q _ _ env H0 H p (.refl O) (.bl _)⟩
/-- the built-in type of a thing -/
def D.tn : D → String
  | .non => "NoneType" | .bl _ => "bool" | .int _ => "int" | .str _ => "str" | .tup _ => "tuple" | .lst _ => "list"
  | _ => "type"
def D.pl : D → Bool
  | .ins _ _ => false | .ty _ => false | .cls _ => false | .exc _ _ _ _ => false
  | _ => true
end
end Nw

set_option Elab.async false
set_option linter.all false
set_option maxRecDepth 100000
set_option maxHeartbeats 1000000
namespace Nw
open PySem PySem.Spec PyProof.Rows L2
/-! ### isinstance -/
def D.isI : D → Bool | .int _ => true | .bl _ => true | _ => false
def D.isB : D → Bool | .bl _ => true | _ => false
def D.isT : D → Bool | .tup _ => true | _ => false
def D.isL : D → Bool | .lst _ => true | _ => false
def D.isS : D → Bool | .str _ => true | _ => false
theorem kb_int : ∀ d : D, d.pl = true → kitB d.tn "int" = some d.isI
  | .non, _ => (show kitB "NoneType" "int" = some false by decide +kernel)
  | .bl _, _ => (show kitB "bool" "int" = some true by decide +kernel)
  | .int _, _ => (show kitB "int" "int" = some true by decide +kernel)
  | .str _, _ => (show kitB "str" "int" = some false by decide +kernel)
  | .tup _, _ => (show kitB "tuple" "int" = some false by decide +kernel)
  | .lst _, _ => (show kitB "list" "int" = some false by decide +kernel)
  | .ins _ _, h => by cases h
  | .ty _, h => by cases h
  | .cls _, h => by cases h
  | .exc _ _ _ _, h => by cases h
theorem kb_bool : ∀ d : D, d.pl = true → kitB d.tn "bool" = some d.isB
  | .non, _ => (show kitB "NoneType" "bool" = some false by decide +kernel)
  | .bl _, _ => (show kitB "bool" "bool" = some true by decide +kernel)
  | .int _, _ => (show kitB "int" "bool" = some false by decide +kernel)
  | .str _, _ => (show kitB "str" "bool" = some false by decide +kernel)
  | .tup _, _ => (show kitB "tuple" "bool" = some false by decide +kernel)
  | .lst _, _ => (show kitB "list" "bool" = some false by decide +kernel)
  | .ins _ _, h => by cases h
  | .ty _, h => by cases h
  | .cls _, h => by cases h
  | .exc _ _ _ _, h => by cases h
theorem kb_tuple : ∀ d : D, d.pl = true → kitB d.tn "tuple" = some d.isT
  | .non, _ => (show kitB "NoneType" "tuple" = some false by decide +kernel)
  | .bl _, _ => (show kitB "bool" "tuple" = some false by decide +kernel)
  | .int _, _ => (show kitB "int" "tuple" = some false by decide +kernel)
  | .str _, _ => (show kitB "str" "tuple" = some false by decide +kernel)
  | .tup _, _ => (show kitB "tuple" "tuple" = some true by decide +kernel)
  | .lst _, _ => (show kitB "list" "tuple" = some false by decide +kernel)
  | .ins _ _, h => by cases h
  | .ty _, h => by cases h
  | .cls _, h => by cases h
  | .exc _ _ _ _, h => by cases h
theorem kb_list : ∀ d : D, d.pl = true → kitB d.tn "list" = some d.isL
  | .non, _ => (show kitB "NoneType" "list" = some false by decide +kernel)
  | .bl _, _ => (show kitB "bool" "list" = some false by decide +kernel)
  | .int _, _ => (show kitB "int" "list" = some false by decide +kernel)
  | .str _, _ => (show kitB "str" "list" = some false by decide +kernel)
  | .tup _, _ => (show kitB "tuple" "list" = some false by decide +kernel)
  | .lst _, _ => (show kitB "list" "list" = some true by decide +kernel)
  | .ins _ _, h => by cases h
  | .ty _, h => by cases h
  | .cls _, h => by cases h
  | .exc _ _ _ _, h => by cases h
theorem kb_str : ∀ d : D, d.pl = true → kitB d.tn "str" = some d.isS
  | .non, _ => (show kitB "NoneType" "str" = some false by decide +kernel)
  | .bl _, _ => (show kitB "bool" "str" = some false by decide +kernel)
  | .int _, _ => (show kitB "int" "str" = some false by decide +kernel)
  | .str _, _ => (show kitB "str" "str" = some true by decide +kernel)
  | .tup _, _ => (show kitB "tuple" "str" = some false by decide +kernel)
  | .lst _, _ => (show kitB "list" "str" = some false by decide +kernel)
  | .ins _ _, h => by cases h
  | .ty _, h => by cases h
  | .cls _, h => by cases h
  | .exc _ _ _ _, h => by cases h
theorem Dd.tyX {K : PySem.W.Frag} {H : Hp} {v : V} {d : D} (h : Dd H v d) (hp : d.pl = true) : TyX K H v (.type d.tn) := by
  cases h with
  | non => exact .base .non
  | bl b => exact .base (.bl b)
  | int i => exact .base (.int i)
  | str s => exact .base (.str s)
  | tup e _ => exact .base (.tup e)
  | lst e _ => exact .base (.lst e)
  | ins _ _ => cases hp
  | ty _ => cases hp
  | cls _ => cases hp
  | exc _ _ => cases hp
section
variable {W : Wo} {env : List Cell} {P : PR} {px : PX} {ta tb tc te : TE} {t u : TT} {B H0 H : Hp} {σ : L2.St} {v : V} {r : Res} {ds es : List D}
theorem wc_isi {d : D} {n : String} {b : Bool} (hp : d.pl = true) (hb : kitB d.tn n = some b) (p : P (.dat (.bl b)) env) : wpC W (rIsi W.K) [.dat d, .dat (.ty n)] env P px := fun σ B H0 H O _ _ vs hv Q q => by
  obtain ⟨v, w, rfl, h1, h2⟩ := hv.two
  cases h2
  have h1 : Dd H0 v d := h1
  exact ⟨v, _, _, _, b, rfl, .ty n, (h1.mono O.same).tyX hp, kit_ty hb, q _ _ env H0 H p (.refl O) (.bl _)⟩
theorem wc_isInt {d : D} (hp : d.pl = true) (p : P (.dat (.bl d.isI)) env) : wpC W (rIsi W.K) [.dat d, .dat (.ty "int")] env P px := wc_isi hp (kb_int d hp) p
theorem wc_isBool {d : D} (hp : d.pl = true) (p : P (.dat (.bl d.isB)) env) : wpC W (rIsi W.K) [.dat d, .dat (.ty "bool")] env P px := wc_isi hp (kb_bool d hp) p
theorem wc_isTuple {d : D} (hp : d.pl = true) (p : P (.dat (.bl d.isT)) env) : wpC W (rIsi W.K) [.dat d, .dat (.ty "tuple")] env P px := wc_isi hp (kb_tuple d hp) p
theorem wc_isStr {d : D} (hp : d.pl = true) (p : P (.dat (.bl d.isS)) env) : wpC W (rIsi W.K) [.dat d, .dat (.ty "str")] env P px := wc_isi hp (kb_str d hp) p
theorem wc_isList {d : D} (hp : d.pl = true) (p : P (.dat (.bl d.isL)) env) : wpC W (rIsi W.K) [.dat d, .dat (.ty "list")] env P px := wc_isi hp (kb_list d hp) p
/-- isinstance(value, (list, tuple)), (tuple, list) -/
theorem wc_isLT {d : D} (hp : d.pl = true) (p : P (.dat (.bl (d.isL || d.isT))) env) : wpC W (rIsiT W.K) [.dat d, .dat (.tup [.ty "list", .ty "tuple"])] env P px := fun σ B H0 H O _ _ vs hv Q q => by
  obtain ⟨v, w, rfl, h1, h2⟩ := hv.two
  obtain ⟨a, cs, rfl, q1, q2⟩ := Dd.tup_inv h2
  have h1 : Dd H0 v d := h1
  cases q2 with
  | cons c1 q2 =>
    cases q2 with
    | cons c2 q2 =>
      cases q2
      cases c1
      cases c2
      refine ⟨v, a, _, _, _, d.isL || d.isT, rfl, O.same _ _ q1, .cons (.ty _) (.cons (.ty _) .nil), (h1.mono O.same).tyX hp, ?_, q _ _ env H0 H p (.refl O) (.bl _)⟩
      refine kitAny_cons (kit_ty (kb_list d hp)) (fun e => ?_) (fun e => by rw [e]; rfl)
      rw [e, Bool.false_or]
      refine kitAny_cons (kit_ty (kb_tuple d hp)) (fun e2 => ?_) (fun e2 => e2)
      rw [e2]
      exact kitAny_nil
theorem wc_isTL {d : D} (hp : d.pl = true) (p : P (.dat (.bl (d.isT || d.isL))) env) : wpC W (rIsiT W.K) [.dat d, .dat (.tup [.ty "tuple", .ty "list"])] env P px := fun σ B H0 H O _ _ vs hv Q q => by
  obtain ⟨v, w, rfl, h1, h2⟩ := hv.two
  obtain ⟨a, cs, rfl, q1, q2⟩ := Dd.tup_inv h2
  have h1 : Dd H0 v d := h1
  cases q2 with
  | cons c1 q2 =>
    cases q2 with
    | cons c2 q2 =>
      cases q2
      cases c1
      cases c2
      refine ⟨v, a, _, _, _, d.isT || d.isL, rfl, O.same _ _ q1, .cons (.ty _) (.cons (.ty _) .nil), (h1.mono O.same).tyX hp, ?_, q _ _ env H0 H p (.refl O) (.bl _)⟩
      refine kitAny_cons (kit_ty (kb_tuple d hp)) (fun e => ?_) (fun e => by rw [e]; rfl)
      rw [e, Bool.false_or]
      refine kitAny_cons (kit_ty (kb_list d hp)) (fun e2 => ?_) (fun e2 => e2)
      rw [e2]
      exact kitAny_nil
theorem wp_ty {n : String} (p : P (.dat (.ty n)) env) : wpE W (tC (.ty n)) env P px := wp_c (fun _ => .ty n) p

/-! ### tests, choices -/
theorem wp_tB {P : Bool → List Cell → Prop} (h : wpE W te env (fun r env1 => ∃ b, r = .dat (.bl b) ∧ P b env1) px) : wpT W (tB te) env P px := fun σ H0 H O X Q q =>
  h σ H0 H O X _ fun v r env1 A0 A ⟨b, e, p⟩ S w => by
    subst e
    exact ⟨b, Dd.bl_inv w, q b env1 A0 A p S⟩
theorem wp_tTest {P : Bool → List Cell → Prop} (h : wpE W te env (fun r env1 => ∃ b, r = .dat (.bl b) ∧ P b env1) px) : wpT W (tTest te) env P px := wp_tB h
theorem wp_and {P : Bool → List Cell → Prop} (h : wpT W t env (fun b env1 => (b = true → wpT W u env1 P px) ∧ (b = false → P false env1)) px) : wpT W (tAnd t u) env P px := fun σ H0 H O X Q q =>
  h σ H0 H O X _ fun b env1 A0 A ⟨h1, h2⟩ S => by
    cases b with
    | true => exact h1 rfl σ A0 A S.ok (X.go S.go) Q fun c env2 B0 B p S2 => q c env2 B0 B p (S.trans S2)
    | false => exact q false env1 A0 A (h2 rfl) S
theorem wp_or {P : Bool → List Cell → Prop} (h : wpT W t env (fun b env1 => (b = true → P true env1) ∧ (b = false → wpT W u env1 P px)) px) : wpT W (tOr t u) env P px := fun σ H0 H O X Q q =>
  h σ H0 H O X _ fun b env1 A0 A ⟨h1, h2⟩ S => by
    cases b with
    | false => exact h2 rfl σ A0 A S.ok (X.go S.go) Q fun c env2 B0 B p S2 => q c env2 B0 B p (S.trans S2)
    | true => exact q true env1 A0 A (h1 rfl) S
theorem wp_not {P : Bool → List Cell → Prop} (h : wpT W t env (fun b env1 => P (!b) env1) px) : wpT W (tNot t) env P px := fun σ H0 H O X Q q =>
  h σ H0 H O X _ fun b env1 A0 A p S => q (!b) env1 A0 A p S
theorem wp_andV (h : wpE W ta env (fun r env1 => ∃ b, r = .dat (.bl b) ∧ (b = true → wpE W tb env1 P px) ∧ (b = false → P (.dat (.bl false)) env1)) px) : wpE W (tAndV ta tb) env P px := fun σ H0 H O X Q q =>
  h σ H0 H O X _ fun v r env1 A0 A ⟨b, e, h1, h2⟩ S w => by
    subst e
    refine ⟨b, Dd.bl_inv w, ?_⟩
    cases b with
    | true => exact h1 rfl σ A0 A S.ok (X.go S.go) Q fun v c env2 B0 B p S2 w => q v c env2 B0 B p (S.trans S2) (w.base fun l z => S.back z)
    | false => exact q _ _ env1 A0 A (h2 rfl) S (.bl _)
theorem wp_orV (h : wpE W ta env (fun r env1 => ∃ b, r = .dat (.bl b) ∧ (b = true → P (.dat (.bl true)) env1) ∧ (b = false → wpE W tb env1 P px)) px) : wpE W (tOrV ta tb) env P px := fun σ H0 H O X Q q =>
  h σ H0 H O X _ fun v r env1 A0 A ⟨b, e, h1, h2⟩ S w => by
    subst e
    refine ⟨b, Dd.bl_inv w, ?_⟩
    cases b with
    | false => exact h2 rfl σ A0 A S.ok (X.go S.go) Q fun v c env2 B0 B p S2 w => q v c env2 B0 B p (S.trans S2) (w.base fun l z => S.back z)
    | true => exact q _ _ env1 A0 A (h1 rfl) S (.bl _)
theorem wp_notV (h : wpE W ta env (fun r env1 => ∃ b, r = .dat (.bl b) ∧ P (.dat (.bl (!b))) env1) px) : wpE W (tNotV ta) env P px := fun σ H0 H O X Q q =>
  h σ H0 H O X _ fun v r env1 A0 A ⟨b, e, p⟩ S w => by
    subst e
    exact ⟨b, Dd.bl_inv w, q _ _ env1 A0 A p S (.bl _)⟩
theorem wp_ifE (h : wpT W t env (fun b env1 => (b = true → wpE W ta env1 P px) ∧ (b = false → wpE W tb env1 P px)) px) : wpE W (tIf t ta tb) env P px := fun σ H0 H O X Q q =>
  h σ H0 H O X _ fun b env1 A0 A ⟨h1, h2⟩ S => by
    cases b with
    | true => exact h1 rfl σ A0 A S.ok (X.go S.go) Q fun v c env2 B0 B p S2 w => q v c env2 B0 B p (S.trans S2) (w.base fun l z => S.back z)
    | false => exact h2 rfl σ A0 A S.ok (X.go S.go) Q fun v c env2 B0 B p S2 w => q v c env2 B0 B p (S.trans S2) (w.base fun l z => S.back z)
/-- a op b op2 c -/
theorem wp_chain {f g : R2} (h : wpE W ta env (fun x env1 => wpE W tb env1 (fun y env2 => wpO W f x y env2 (fun z env3 => ∃ b, z = .dat (.bl b) ∧ (b = true → wpE W tc env3 (fun w env4 => wpO W g y w env4 P px) px) ∧ (b = false → P (.dat (.bl false)) env3)) px) px) px) :
    wpE W (tChain f g ta tb tc) env P px := fun σ H0 H O X Q q =>
  h σ H0 H O X _ fun v x env1 A0 A h1 s1 v1 => h1 σ A0 A s1.ok (X.go s1.go) _ fun w y env2 B0 B h2 s2 v2 =>
    h2 σ H B0 B s2.ok (X.go (s1.trans s2).go) (fun l z => s1.back (s2.back z)) v w (v1.stp s2) (v2.base fun l z => s1.back z) _ fun z rz env3 C0 C ⟨b, e, k1, k2⟩ s3 v3 => by
      subst e
      refine ⟨b, Dd.bl_inv v3, ?_⟩
      have S3 := (s1.trans s2).trans s3
      cases b with
      | false => exact q _ _ env3 C0 C (k2 rfl) S3 (.bl _)
      | true =>
        exact k1 rfl σ C0 C S3.ok (X.go S3.go) _ fun v5 r5 env4 D0 D h4 s4 v4 => h4 σ H D0 D s4.ok (X.go (S3.trans s4).go) (fun l z => S3.back (s4.back z)) w v5 (((v2.base fun l z => s1.back z).stp s3).stp s4) (v4.base fun l z => S3.back z) Q
          fun u r env' E0 E p s6 v6 => q u r env' E0 E p ((S3.trans s4).trans s6) v6

/-! ### slices -/
def cutD (ds : List D) (lo hi : Option Int) : List D := (ds.drop (HT.sIx ds.length 0 lo)).take (HT.sIx ds.length ds.length hi - HT.sIx ds.length 0 lo)
theorem DdAll.cut {vs : List V} (h : DdAll H vs ds) (lo hi : Option Int) : DdAll H (cutV vs lo hi) (cutD ds lo hi) := by
  unfold cutV cutD
  rw [h.len]
  exact (h.drop _).take _
def wpP (W : Wo) (t : L2.TO) (env : List Cell) (P : Option Int → List Cell → Prop) (px : PX) : Prop := ∀ (σ : L2.St) (H0 H : Hp), Ok env σ H0 H → ErrOk W px env σ H0 H → ∀ Q : Option Int → Hp → Prop,
  (∀ o env' H0' H', P o env' → Stp W.m env σ H0 H env' H0' H' → Q o H') → t σ H Q
theorem wp_noPart {P : Option Int → List Cell → Prop} (p : P none env) : wpP W tNoPart env P px := fun σ H0 H O _ Q q => q none env H0 H p (.refl O)
theorem wp_part {P : Option Int → List Cell → Prop} (h : wpE W te env (fun r env1 => ∃ i, r = .dat (.int i) ∧ P (some i) env1) px) : wpP W (tPart te) env P px := fun σ H0 H O X Q q =>
  h σ H0 H O X _ fun v r env1 A0 A ⟨i, e, p⟩ S w => by
    subst e
    exact ⟨i, Dd.int_inv w, q _ env1 A0 A p S⟩
theorem wp_slT {tl th : L2.TO} (h : wpE W te env (fun r env1 => ∃ ds, r = .dat (.tup ds) ∧ wpP W tl env1 (fun lo env2 => wpP W th env2 (fun hi env3 => P (.dat (.tup (cutD ds lo hi))) env3) px) px) px) : wpE W (tSl (rSlA W.K) te tl th) env P px := fun σ H0 H O X Q q =>
  h σ H0 H O X _ fun v r env1 A0 A ⟨ds, e, h1⟩ S w => by
    subst e
    refine h1 σ A0 A S.ok (X.go S.go) _ fun lo env2 B0 B h2 S2 => h2 σ B0 B S2.ok (X.go (S.trans S2).go) _ fun hi env3 C0 C p S3 => ?_
    obtain ⟨a, vs, rfl, q1, q2⟩ := Dd.tup_inv ((w.stp S2).stp S3)
    refine ⟨a, vs, rfl, SqT.of (S3.ok.same _ _ q1), fun hw => ?_, fun _ x hx => ?_⟩
    · have e : cutD ds lo hi = ds := by
        unfold cutD
        rw [← q2.len, hw.1, hw.2, List.drop_zero, Nat.sub_zero, q2.len, List.take_length]
      have p' : P (.dat (.tup (cutD ds lo hi))) env3 := p
      rw [e] at p'
      exact q _ _ env3 C0 C p' ((S.trans S2).trans S3) (.tup q1 q2)
    · obtain ⟨S4, d⟩ := laid_tup (m := W.m) S3.ok (q2.cut lo hi) hx
      exact q _ _ env3 _ _ p (((S.trans S2).trans S3).trans S4) d
theorem wp_slL {tl th : L2.TO} (h : wpE W te env (fun r env1 => wpP W tl env1 (fun lo env2 => wpP W th env2 (fun hi env3 => ∃ ds, LstR env3 r ds ∧ P (.own (.lst (cutD ds lo hi))) env3) px) px) px) : wpE W (tSl (rSlL W.K) te tl th) env P px := fun σ H0 H O X Q q =>
  h σ H0 H O X _ fun v r env1 A0 A h1 S w => by
    refine h1 σ A0 A S.ok (X.go S.go) _ fun lo env2 B0 B h2 S2 => h2 σ B0 B S2.ok (X.go (S.trans S2).go) _ fun hi env3 C0 C ⟨ds, l, p⟩ S3 => ?_
    obtain ⟨a, vs, rfl, q2, q1⟩ := l.get S3.ok ((w.stp S2).stp S3)
    refine ⟨a, vs, rfl, SqL.of q1, fun x hx => ?_⟩
    have ST := (S.trans S2).trans S3
    exact q _ _ env3 _ _ p (ST.trans (.tmp S3.ok hx)) ⟨rfl, x, _, rfl, S3.ok.same.free hx, upd_same, ⟨_, rfl, q2.cut lo hi⟩, ST.back hx, fun z => (S3.ok.owned z).2 hx⟩
end

/-! ### statements -/
structure De where
  nx : List Cell → Prop
  rt : Res → List Cell → Prop
  bk : List Cell → Prop := fun _ => False
  ct : List Cell → Prop := fun _ => False
structure EndsOk (W : Wo) (d : De) (D : Ends) (env : List Cell) (σ : L2.St) (H0 H : Hp) : Prop where
  nx : ∀ env' σ' H0' H', d.nx env' → Ok env' σ' H0' H' → Go W.m env σ H0 H env' σ' H0' H' → D.nx σ' H'
  rt : ∀ v r env' σ' H0' H', d.rt r env' → Ok env' σ' H0' H' → Go W.m env σ H0 H env' σ' H0' H' → VAL H env' σ' H0' H' v r → D.rt v H'
  bk : ∀ env' σ' H0' H', d.bk env' → Ok env' σ' H0' H' → Go W.m env σ H0 H env' σ' H0' H' → D.bk σ' H'
  ct : ∀ env' σ' H0' H', d.ct env' → Ok env' σ' H0' H' → Go W.m env σ H0 H env' σ' H0' H' → D.ct σ' H'
theorem Go.back {m : Nat} {env env' : List Cell} {σ σ' : L2.St} {H0 H H0' H' : Hp} (g : Go m env σ H0 H env' σ' H0' H') {l : Addr} (h : H' l = none) : H l = none := Classical.byContradiction fun z => g.al l z h
theorem EndsOk.go {W : Wo} {d : De} {D : Ends} {env env' : List Cell} {σ σ' : L2.St} {H0 H H0' H' : Hp} (h : EndsOk W d D env σ H0 H) (g : Go W.m env σ H0 H env' σ' H0' H') : EndsOk W d D env' σ' H0' H' :=
  ⟨fun e s A0 A p o k => h.nx e s A0 A p o (g.trans k), fun v r e s A0 A p o k w => h.rt v r e s A0 A p o (g.trans k) (w.base fun l z => g.back z), fun e s A0 A p o k => h.bk e s A0 A p o (g.trans k), fun e s A0 A p o k => h.ct e s A0 A p o (g.trans k)⟩
def wpS (W : Wo) (t : TS) (env : List Cell) (d : De) (px : PX) : Prop := ∀ (σ : L2.St) (H0 H : Hp), Ok env σ H0 H → ErrOk W px env σ H0 H → ∀ D : Ends, EndsOk W d D env σ H0 H → t D σ H
section
variable {W : Wo} {env : List Cell} {px : PX} {ta tb tc te : TE} {c : TT} {t u : TS} {d : De} {ds es : List D}
theorem ws_seq (h : wpS W t env { d with nx := fun env1 => wpS W u env1 d px } px) : wpS W (tSeq t u) env d px := fun σ H0 H O X D e =>
  h σ H0 H O X _ ⟨fun env' σ' H0' H' p o g => p σ' H0' H' o (X.go g) D (e.go g), e.rt, e.bk, e.ct⟩
theorem ws_next (p : d.nx env) : wpS W tNext env d px := fun σ H0 H O X D e => e.nx env σ H0 H p O .refl
theorem ws_brk (p : d.bk env) : wpS W tBreak env d px := fun σ H0 H O X D e => e.bk env σ H0 H p O .refl
theorem ws_cont (p : d.ct env) : wpS W tCont env d px := fun σ H0 H O X D e => e.ct env σ H0 H p O .refl
theorem ws_ret (h : wpE W te env d.rt px) : wpS W (tRet te) env d px := fun σ H0 H O X D e =>
  h σ H0 H O X _ fun v r env' A0 A p S w => e.rt v r env' σ A0 A p S.ok S.go w
theorem ws_retN (p : d.rt (.dat .non) env) : wpS W tRetN env d px := fun σ H0 H O X D e => e.rt .non _ env σ H0 H p O .refl .non
theorem ws_if (h : wpT W c env (fun b env1 => (b = true → wpS W t env1 d px) ∧ (b = false → wpS W u env1 d px)) px) : wpS W (tIfS c t u) env d px := fun σ H0 H O X D e =>
  h σ H0 H O X _ fun b env1 A0 A ⟨h1, h2⟩ S => by
    cases b with
    | true => exact h1 rfl σ A0 A S.ok (X.go S.go) D (e.go S.go)
    | false => exact h2 rfl σ A0 A S.ok (X.go S.go) D (e.go S.go)
theorem ws_drop (h : wpE W te env (fun _ env1 => d.nx env1) px) : wpS W (tDrop te) env d px := fun σ H0 H O X D e =>
  h σ H0 H O X _ fun v r env' A0 A p S w => e.nx env' σ A0 A p S.ok S.go
/-- the cells behind a store of r in slot i -/
def putR (i : Nat) : Res → List Cell → List Cell
  | .dat d, env => env.set i (.dat d)
  | .own c, env => env.set i c
  | .al j, env => match env[j]? with
    | some c => (env.set j .non).set i c
    | none => env
theorem Ok.put {m : Nat} {σ : L2.St} {B H0 H : Hp} {v : V} {r : Res} {i : Nat} (O : Ok env σ H0 H) (w : VAL B env σ H0 H v r) (hi : i < env.length) (hm : m ≤ i) (hB : ∀ l, H l = none → B l = none) :
    Ok (putR i r env) (σ.set i (some v)) H0 H ∧ (∀ l, Owned (putR i r env) (σ.set i (some v)) l → Owned env σ l ∨ B l = none) ∧ ∀ k, k < m → (σ.set i (some v))[k]? = σ[k]? := by
  have hs : i < σ.length := by rw [O.len]; exact hi
  have fx : ∀ k, k < m → (σ.set i (some v))[k]? = σ[k]? := fun k hk => List.getElem?_set_ne (by omega)
  -- the shape: env' at i is c, elsewhere env or .non
  have main : ∀ (env1 : List Cell) (c : Cell), env1.length = env.length → (∀ k x, k ≠ i → env1[k]? = some x → x = .non ∨ env[k]? = some x) → SlotOk H0 H (some (some v)) c →
      (c.own = true → ∀ l, v = .ref l → ∀ k, k ≠ i → ¬ Owns env1 σ k l) → (c.own = true → ∀ l, v = .ref l → Owned env σ l ∨ B l = none) →
      Ok (env1.set i c) (σ.set i (some v)) H0 H ∧ (∀ l, Owned (env1.set i c) (σ.set i (some v)) l → Owned env σ l ∨ B l = none) ∧ ∀ k, k < m → (σ.set i (some v))[k]? = σ[k]? := by
    intro env1 c hl hk hc hap hown
    have hi1 : i < env1.length := by rw [hl]; exact hi
    have other : ∀ k l, k ≠ i → Owns (env1.set i c) (σ.set i (some v)) k l → Owns env1 σ k l := fun k l hn ⟨x, q1, q2, q3⟩ => by
      rw [List.getElem?_set_ne (Ne.symm hn)] at q1 q3
      exact ⟨x, q1, q2, q3⟩
    have other2 : ∀ k l, k ≠ i → Owns env1 σ k l → Owns env σ k l := fun k l hn ⟨x, q1, q2, q3⟩ => by
      rcases hk k x hn q1 with z | z
      · subst z
        cases q2
      · exact ⟨x, z, q2, q3⟩
    have atI_ : ∀ l, Owns (env1.set i c) (σ.set i (some v)) i l → c.own = true ∧ v = .ref l := fun l ⟨x, q1, q2, q3⟩ => by
      rw [List.getElem?_set_self hi1] at q1
      injection q1 with q1
      subst q1
      rw [List.getElem?_set_self hs] at q3
      injection q3 with q3
      injection q3 with q3
      exact ⟨q2, q3⟩
    refine ⟨⟨by rw [List.length_set, List.length_set, hl]; exact O.len, O.same, fun k x e => ?_, fun j k l h1 h2 => ?_⟩, fun l ⟨k, h⟩ => ?_, fx⟩
    · by_cases z : k = i
      · subst z
        rw [List.getElem?_set_self hi1] at e
        injection e with e
        subst e
        rw [List.getElem?_set_self hs]
        exact hc
      · rw [List.getElem?_set_ne (Ne.symm z)] at e ⊢
        rcases hk k x z e with q | q
        · subst q
          trivial
        · exact O.slot k x q
    · by_cases z1 : j = i
      · by_cases z2 : k = i
        · rw [z1, z2]
        · subst z1
          obtain ⟨a1, a2⟩ := atI_ l h1
          exact absurd (other k l z2 h2) (hap a1 l a2 k z2)
      · by_cases z2 : k = i
        · subst z2
          obtain ⟨a1, a2⟩ := atI_ l h2
          exact absurd (other j l z1 h1) (hap a1 l a2 j z1)
        · exact O.apart j k l (other2 j l z1 (other j l z1 h1)) (other2 k l z2 (other k l z2 h2))
    · by_cases z : k = i
      · subst z
        obtain ⟨a1, a2⟩ := atI_ l h
        exact hown a1 l a2
      · exact .inl ⟨k, other2 k l z (other k l z h)⟩
  cases r with
  | dat d =>
    exact main env (.dat d) rfl (fun k x _ e => .inr e) ⟨v, rfl, w⟩ (fun h => by cases h) (fun h => by cases h)
  | own c =>
    obtain ⟨hc, l, o, rfl, h0, h1, h2, h3, h4⟩ := w
    refine main env c rfl (fun k x _ e => .inr e) ((slot_own hc).mpr ⟨l, o, rfl, h0, h1, h2⟩) (fun _ l' e k _ z => ?_) (fun _ l' e => .inr ?_)
    · injection e with e
      subst e
      exact h4 ⟨k, z⟩
    · injection e with e
      subst e
      exact h3
  | al j =>
    obtain ⟨l, rfl, c, q1, q2, q3⟩ := w
    have e : putR i (.al j) env = (env.set j .non).set i c := by
      show (match env[j]? with
        | some c => (env.set j .non).set i c
        | none => env) = _
      rw [q1]
    rw [e]
    obtain ⟨l', o, z1, z2, z3, z4⟩ := (slot_own q2).mp (O.slot j c q1)
    rw [q3] at z1
    injection z1 with z1
    injection z1 with z1
    injection z1 with z1
    subst z1
    refine main (env.set j .non) c (by rw [List.length_set]) (fun k x _ e => ?_) ((slot_own q2).mpr ⟨l, o, rfl, z2, z3, z4⟩) (fun _ l' e k hk z => ?_) (fun _ l' e => .inl ?_)
    · by_cases z : k = j
      · subst z
        have hj : k < env.length := (List.getElem?_eq_some_iff.mp q1).1
        rw [List.getElem?_set_self hj] at e
        injection e with e
        exact .inl e.symm
      · rw [List.getElem?_set_ne (Ne.symm z)] at e
        exact .inr e
    · injection e with e
      subst e
      obtain ⟨x, y1, y2, y3⟩ := z
      by_cases zz : k = j
      · subst zz
        have hj : k < env.length := (List.getElem?_eq_some_iff.mp q1).1
        rw [List.getElem?_set_self hj] at y1
        injection y1 with y1
        subst y1
        cases y2
      · rw [List.getElem?_set_ne (Ne.symm zz)] at y1
        exact zz (O.apart k j l ⟨x, y1, y2, y3⟩ ⟨c, q1, q2, q3⟩)
    · injection e with e
      subst e
      exact ⟨j, c, q1, q2, q3⟩
theorem ws_asg {i : Nat} (hm : W.m ≤ i) (h : wpE W te env (fun r env1 => i < env1.length ∧ d.nx (putR i r env1)) px) : wpS W (tAsg te (gName i)) env d px := fun σ H0 H O X D e =>
  h σ H0 H O X _ fun v r env' A0 A ⟨hi, p⟩ S w => by
    obtain ⟨O2, ow, fx⟩ := S.ok.put w hi hm (fun l z => S.back z)
    refine e.nx _ _ A0 A p O2 ⟨S.go.k0, S.go.old, S.go.keep, S.go.al, fun l hl => ?_, fx⟩
    rcases ow l hl with q | q
    · exact S.go.ow l q
    · exact .inr q
end
end Nw

set_option Elab.async false
set_option linter.all false
set_option maxRecDepth 100000
set_option maxHeartbeats 1000000
namespace Nw
open PySem PySem.Spec PyProof.Rows L2
/-! ### targets -/
def wpG (W : Wo) (g : TG) (x : D) (env : List Cell) (P : List Cell → Prop) (px : PX) : Prop := ∀ (σ : L2.St) (H0 H : Hp) (v : V), Ok env σ H0 H → ErrOk W px env σ H0 H → Dd H0 v x → ∀ Q : L2.St → Hp → Prop,
  (∀ env' σ' H0' H', P env' → Ok env' σ' H0' H' → Go W.m env σ H0 H env' σ' H0' H' → Q σ' H') → g v σ H Q
def wpGs (W : Wo) (g : TGs) (xs : List D) (env : List Cell) (P : List Cell → Prop) (px : PX) : Prop := ∀ (σ : L2.St) (H0 H : Hp) (vs : List V), Ok env σ H0 H → ErrOk W px env σ H0 H → DdAll H0 vs xs → ∀ Q : L2.St → Hp → Prop,
  (∀ env' σ' H0' H', P env' → Ok env' σ' H0' H' → Go W.m env σ H0 H env' σ' H0' H' → Q σ' H') → g vs σ H Q
section
variable {W : Wo} {env : List Cell} {px : PX} {P : List Cell → Prop} {te to ti : TE} {ta : TA} {g : TG} {gs : TGs} {d : De} {t u tb : TS} {c : TT} {ds : List D} {x : D}
theorem wpG.imp {P' : List Cell → Prop} (h : wpG W g x env P px) (k : ∀ e, P e → P' e) : wpG W g x env P' px := fun σ H0 H v O X hv Q q => h σ H0 H v O X hv Q fun e s A0 A p => q e s A0 A (k e p)
theorem wg_name {i : Nat} (hm : W.m ≤ i) (hi : i < env.length) (p : P (env.set i (.dat x))) : wpG W (gName i) x env P px := fun σ H0 H v O X hv Q q => by
  obtain ⟨O2, ow, fx⟩ := Ok.put (B := H) (r := .dat x) O hv hi hm (fun l z => z)
  exact q _ _ H0 H p O2 ⟨Same.refl _, fun _ _ _ => rfl, fun _ _ h _ => h, fun _ h => h, ow, fx⟩
theorem wg_nil (p : P env) : wpGs W gNil [] env P px := fun σ H0 H vs O X hv Q q => by
  cases hv
  exact ⟨rfl, q env σ H0 H p O .refl⟩
theorem wg_cons (h : wpG W g x env (fun e => wpGs W gs ds e P px) px) : wpGs W (gCons g gs) (x :: ds) env P px := fun σ H0 H vs O X hv Q q => by
  cases hv with
  | cons h1 h2 => exact ⟨_, _, rfl, h σ H0 H _ O X h1 _ fun e s A0 A p O2 G => p s A0 A _ O2 (X.go G) (h2.mono G.k0) Q fun e2 s2 B0 B p2 O3 G2 => q e2 s2 B0 B p2 O3 (G.trans G2)⟩
theorem wg_tup {n : Nat} (hn : ds.length = n) (h : wpGs W gs ds env P px) : wpG W (gTup W.K n gs) (.tup ds) env P px := fun σ H0 H v O X hv Q q => by
  obtain ⟨a, vs, rfl, q1, q2⟩ := Dd.tup_inv hv
  exact ⟨a, vs, rfl, SqT.of (O.same _ _ q1), q2.len.trans hn, h σ H0 H vs O X q2 Q q⟩
/-- xs[i] = e -/
theorem wg_set (h : wpE W to env (fun ro env1 => ∃ k, ro = .al k ∧ wpE W ti env1 (fun ri env2 => ∃ (i : Int) (j : Nat) (ds : List D), ri = .dat (.int i) ∧ env2[k]? = some (.lst ds) ∧ ixN ds.length i = some j ∧ P (env2.set k (.lst (ds.set j x)))) px) px) :
    wpG W (gSub to ti rSetL) x env P px := fun σ H0 H v O X hv Q q =>
  h σ H0 H O X _ fun vo ro env1 A0 A ⟨k, e1, h1⟩ S w => by
    subst e1
    refine h1 σ A0 A S.ok (X.go S.go) _ fun vi ri env2 B0 B ⟨i, j, ds, e2, e3, e4, p⟩ S2 w2 => ?_
    subst e2
    obtain ⟨l, rfl, c, q1, q2, q3⟩ := w.stp S2
    rw [e3] at q1
    injection q1 with q1
    subst q1
    obtain ⟨l', o, z1, z2, z3, vs, rfl, z4⟩ := S2.ok.slot k _ e3
    rw [q3] at z1
    injection z1 with z1
    injection z1 with z1
    injection z1 with z1
    subst z1
    have ST := S.trans S2
    refine ⟨l, vs, i, j, rfl, Dd.int_inv w2, z3, by rw [z4.len]; exact e4, ?_⟩
    have S3 : Stp W.m env2 σ B0 B (env2.set k (.lst (ds.set j x))) B0 (upd B l (.lst (vs.set j v))) := .chg S2.ok e3 rfl q3 rfl ⟨_, rfl, z4.set (hv.mono ST.go.k0) j⟩
    exact q _ σ B0 _ p S3.ok (ST.trans S3).go
theorem ws_asgG (h : wpE W te env (fun r env1 => ∃ x, fz r = .dat x ∧ wpG W g x env1 d.nx px) px) : wpS W (tAsg te g) env d px := fun σ H0 H O X D e =>
  (wpE.fz (P := fun r env1 => ∃ x, r = .dat x ∧ wpG W g x env1 d.nx px) h) σ H0 H O X _ fun v r env1 A0 A ⟨x, ex, h1⟩ S w => by
    subst ex
    exact h1 σ A0 A v S.ok (X.go S.go) w _ fun e2 s2 B0 B p O2 G => e.nx e2 s2 B0 B p O2 (S.go.trans G)
/-- x = e, a list that never changes again -/
theorem ws_asgF {i : Nat} (hm : W.m ≤ i) (h : wpE W te env (fun r env1 => i < env1.length ∧ d.nx (putR i (fz r) env1)) px) : wpS W (tAsg te (gName i)) env d px :=
  ws_asg hm (wpE.fz (P := fun r env1 => i < env1.length ∧ d.nx (putR i r env1)) h)
theorem ws_aug {i : Nat} {f : Int → Int → Int} {a : Int} (hm : W.m ≤ i) (ha : env[i]? = some (.dat (.int a))) (h : wpE W te env (fun r env1 => ∃ b, r = .dat (.int b) ∧ i < env1.length ∧ d.nx (env1.set i (.dat (.int (f a b))))) px) :
    wpS W (tAug i te (ipI f)) env d px := fun σ H0 H O X D e => by
  obtain ⟨v, q1, q2⟩ := O.slot i _ ha
  cases q2
  refine ⟨_, q1, h σ H0 H O X _ fun w r env1 A0 A ⟨b, er, hi, p⟩ S wv => ?_⟩
  subst er
  have := Dd.int_inv wv
  subst this
  refine ⟨a, b, rfl, rfl, ?_⟩
  obtain ⟨O2, ow, fx⟩ := Ok.put (B := A) (r := .dat (.int (f a b))) S.ok (Dd.int (H := A0) (f a b)) hi hm (fun l z => z)
  exact e.nx _ _ A0 A p O2 (S.go.trans ⟨Same.refl _, fun _ _ _ => rfl, fun _ _ h _ => h, fun _ h => h, ow, fx⟩)

/-! ### loops -/
theorem Go.id (O : Ok env σ H0 H) : Go m env σ H0 H env σ H0 H := .refl
theorem ws_for_core {m : Nat} (I : Nat → List Cell → Prop) (n : Nat) (item : Nat → D) {A0 A : Hp} {σ : L2.St} {env1 : List Cell} (X : ErrOk W px env1 σ A0 A) (D : Ends) (e : EndsOk W d D env1 σ A0 A)
    (hs : ∀ i env', i < n → I i env' → wpG W g (item i) env' (fun env2 => wpS W tb env2 { nx := I (i + 1), rt := d.rt, bk := d.nx, ct := I (i + 1) } px) px)
    (i : Nat) (x : V) (σ' : L2.St) (H' : Hp) (hi : i < n) (p : ∃ env' H0', I i env' ∧ Ok env' σ' H0' H' ∧ Go W.m env1 σ A0 A env' σ' H0' H') (hx : ∀ H0', Same A0 H0' → Dd H0' x (item i)) :
    g x σ' H' fun σ2 H2 => tb { D with nx := fun σ3 H3 => ∃ env' H0', I (i + 1) env' ∧ Ok env' σ3 H0' H3 ∧ Go W.m env1 σ A0 A env' σ3 H0' H3, ct := fun σ3 H3 => ∃ env' H0', I (i + 1) env' ∧ Ok env' σ3 H0' H3 ∧ Go W.m env1 σ A0 A env' σ3 H0' H3, bk := D.nx } σ2 H2 := by
  obtain ⟨env', H0', pi, O', G⟩ := p
  refine hs i env' hi pi σ' H0' H' x O' (X.go G) (hx H0' G.k0) _ fun env2 σ2 B0 B p2 O2 G2 => ?_
  have GG := G.trans G2
  refine p2 σ2 B0 B O2 (X.go GG) _ ⟨fun env3 σ3 C0 C p3 O3 G3 => ⟨env3, C0, p3, O3, GG.trans G3⟩, fun v r env3 σ3 C0 C p3 O3 G3 w => ?_, fun env3 σ3 C0 C p3 O3 G3 => ?_, fun env3 σ3 C0 C p3 O3 G3 => ⟨env3, C0, p3, O3, GG.trans G3⟩⟩
  · exact e.rt v r env3 σ3 C0 C p3 O3 (GG.trans G3) (w.base fun l z => GG.back z)
  · exact e.nx env3 σ3 C0 C p3 O3 (GG.trans G3)
theorem ws_forR1 (h : wpA W ta env (fun rs env1 => ∃ (n : Int) (I : Nat → List Cell → Prop), rs = [.dat (.int n)] ∧ -(2 ^ 62) ≤ n ∧ n < 2 ^ 62 ∧ I 0 env1 ∧
      (∀ (i : Nat) env', (i : Int) < n → I i env' → wpG W g (.int i) env' (fun env2 => wpS W tb env2 { nx := I (i + 1), rt := d.rt, bk := d.nx, ct := I (i + 1) } px) px) ∧ (∀ env', I n.toNat env' → d.nx env')) px) :
    wpS W (tFor (iRng1 ta) g tb) env d px := fun σ H0 H O X D e =>
  h σ H0 H O X _ fun vs rs env1 A0 A ⟨n, I, er, l1, l2, i0, hs, hd⟩ S w => by
    subst er
    obtain ⟨v, rfl, w1⟩ := w.one
    have := Dd.int_inv w1
    subst this
    refine ⟨n, rfl, l1, l2, for_range (lo := 0) (n := n.toNat) (fun i σ' H' => ∃ env' H0', I i env' ∧ Ok env' σ' H0' H' ∧ Go W.m env1 σ A0 A env' σ' H0' H') ⟨env1, A0, i0, S.ok, .refl⟩ (fun i σ' H' hi p => ?_) (fun σ' H' ⟨env', H0', p, O', G⟩ => ?_)⟩
    · refine ws_for_core (m := 0) I n.toNat (fun i => .int (i : Int)) (X.go S.go) D (e.go S.go) (fun i env' hi p => hs i env' (by omega) p) i _ σ' H' hi p fun H0' _ => ?_
      rw [Int.zero_add]
      exact .int _
    · exact e.nx env' σ' H0' H' (hd env' p) O' (S.go.trans G)
theorem ws_forR2 (h : wpA W ta env (fun rs env1 => ∃ (lo n : Int) (I : Nat → List Cell → Prop), rs = [.dat (.int lo), .dat (.int n)] ∧ (-(2 ^ 62) ≤ lo ∧ lo < 2 ^ 62 ∧ -(2 ^ 62) ≤ n ∧ n < 2 ^ 62) ∧ I 0 env1 ∧
      (∀ (i : Nat) env', lo + (i : Int) < n → I i env' → wpG W g (.int (lo + i)) env' (fun env2 => wpS W tb env2 { nx := I (i + 1), rt := d.rt, bk := d.nx, ct := I (i + 1) } px) px) ∧ (∀ env', I (n - lo).toNat env' → d.nx env')) px) :
    wpS W (tFor (iRng2 ta) g tb) env d px := fun σ H0 H O X D e =>
  h σ H0 H O X _ fun vs rs env1 A0 A ⟨lo, n, I, er, l1, i0, hs, hd⟩ S w => by
    subst er
    obtain ⟨v, v2, rfl, w1, w2⟩ := w.two
    have := Dd.int_inv w1
    subst this
    have := Dd.int_inv w2
    subst this
    refine ⟨lo, n, rfl, l1, for_range (lo := lo) (n := (n - lo).toNat) (fun i σ' H' => ∃ env' H0', I i env' ∧ Ok env' σ' H0' H' ∧ Go W.m env1 σ A0 A env' σ' H0' H') ⟨env1, A0, i0, S.ok, .refl⟩ (fun i σ' H' hi p => ?_) (fun σ' H' ⟨env', H0', p, O', G⟩ => ?_)⟩
    · exact ws_for_core (m := 0) I (n - lo).toNat (fun i => .int (lo + (i : Int))) (X.go S.go) D (e.go S.go) (fun i env' hi p => hs i env' (by omega) p) i _ σ' H' hi p fun H0' _ => .int _
    · exact e.nx env' σ' H0' H' (hd env' p) O' (S.go.trans G)
theorem ws_forT (h : wpE W te env (fun r env1 => ∃ (ds : List D) (I : Nat → List Cell → Prop), r = .dat (.tup ds) ∧ I 0 env1 ∧
      (∀ (i : Nat) x env', ds[i]? = some x → I i env' → wpG W g x env' (fun env2 => wpS W tb env2 { nx := I (i + 1), rt := d.rt, bk := d.nx, ct := I (i + 1) } px) px) ∧ (∀ env', I ds.length env' → d.nx env')) px) :
    wpS W (tFor (iTup W.K te) g tb) env d px := fun σ H0 H O X D e =>
  h σ H0 H O X _ fun v r env1 A0 A ⟨ds, I, er, i0, hs, hd⟩ S w => by
    subst er
    obtain ⟨a, vs, rfl, q1, q2⟩ := Dd.tup_inv w
    refine ⟨a, rfl, ⟨vs, SqT.of (S.ok.same _ _ q1)⟩, for_tup (K := W.K) (a := a) (xs := vs) (fun i σ' H' => ∃ env' H0', I i env' ∧ Ok env' σ' H0' H' ∧ Go W.m env1 σ A0 A env' σ' H0' H') ⟨env1, A0, i0, S.ok, .refl⟩
      (fun i σ' H' _ ⟨env', H0', p, O', G⟩ => SqT.of (O'.same _ _ (G.k0 _ _ q1))) (fun i x σ' H' hx p => ?_) (fun σ' H' ⟨env', H0', p, O', G⟩ => ?_)⟩
    · have hi : i < ds.length := by
        rw [← q2.len]
        exact (List.getElem?_eq_some_iff.mp hx).1
      obtain ⟨y, z1, z2⟩ := q2.get hx
      refine ws_for_core (m := 0) I ds.length (fun i => ds.getD i .non) (X.go S.go) D (e.go S.go) (fun i env' hi p => hs i _ env' (by rw [List.getD_eq_getElem?_getD, List.getElem?_eq_getElem hi]; rfl) p) i x σ' H' hi p fun H0' k => ?_
      rw [List.getD_eq_getElem?_getD, z1]
      exact z2.mono k
    · rw [q2.len] at p
      exact e.nx env' σ' H0' H' (hd env' p) O' (S.go.trans G)
/-- over a list that stands still -/
theorem ws_forL (h : wpE W te env (fun r env1 => ∃ (ds : List D) (I : Nat → List Cell → Prop), fz r = .dat (.lst ds) ∧ I 0 env1 ∧
      (∀ (i : Nat) x env', ds[i]? = some x → I i env' → wpG W g x env' (fun env2 => wpS W tb env2 { nx := I (i + 1), rt := d.rt, bk := d.nx, ct := I (i + 1) } px) px) ∧ (∀ env', I ds.length env' → d.nx env')) px) :
    wpS W (tFor (iList W.K te) g tb) env d px := fun σ H0 H O X D e =>
  (wpE.fz (P := fun r env1 => ∃ (ds : List Nw.D) (I : Nat → List Cell → Prop), r = .dat (.lst ds) ∧ I 0 env1 ∧
      (∀ (i : Nat) x env', ds[i]? = some x → I i env' → wpG W g x env' (fun env2 => wpS W tb env2 { nx := I (i + 1), rt := d.rt, bk := d.nx, ct := I (i + 1) } px) px) ∧ (∀ env', I ds.length env' → d.nx env')) h) σ H0 H O X _ fun v r env1 A0 A ⟨ds, I, er, i0, hs, hd⟩ S w => by
    subst er
    obtain ⟨a, vs, rfl, q1, q2⟩ := Dd.lst_inv w
    refine ⟨a, rfl, ⟨vs, SqL.of (S.ok.same _ _ q1)⟩, for_list (K := W.K) (a := a) (xs := vs) (fun i σ' H' => ∃ env' H0', I i env' ∧ Ok env' σ' H0' H' ∧ Go W.m env1 σ A0 A env' σ' H0' H') ⟨env1, A0, i0, S.ok, .refl⟩
      (fun i σ' H' _ ⟨env', H0', p, O', G⟩ => SqL.of (O'.same _ _ (G.k0 _ _ q1))) (fun i x σ' H' hx p => ?_) (fun σ' H' ⟨env', H0', p, O', G⟩ => ?_)⟩
    · have hi : i < ds.length := by
        rw [← q2.len]
        exact (List.getElem?_eq_some_iff.mp hx).1
      obtain ⟨y, z1, z2⟩ := q2.get hx
      refine ws_for_core (m := 0) I ds.length (fun i => ds.getD i .non) (X.go S.go) D (e.go S.go) (fun i env' hi p => hs i _ env' (by rw [List.getD_eq_getElem?_getD, List.getElem?_eq_getElem hi]; rfl) p) i x σ' H' hi p fun H0' k => ?_
      rw [List.getD_eq_getElem?_getD, z1]
      exact z2.mono k
    · rw [q2.len] at p
      exact e.nx env' σ' H0' H' (hd env' p) O' (S.go.trans G)
theorem ws_while (I : Nat → List Cell → Prop) (m0 : Nat) (i0 : I m0 env) (hs : ∀ m env', I m env' → wpT W c env' (fun b env1 => (b = true → wpS W tb env1 { nx := fun e => ∃ m', m' < m ∧ I m' e, rt := d.rt, bk := d.nx, ct := fun e => ∃ m', m' < m ∧ I m' e } px) ∧ (b = false → d.nx env1)) px) :
    wpS W (tWhile c tb) env d px := fun σ H0 H O X D e => by
  refine ⟨fun m σ' H' => ∃ env' H0', I m env' ∧ Ok env' σ' H0' H' ∧ Go W.m env σ H0 H env' σ' H0' H', ⟨m0, env, H0, i0, O, .refl⟩, ?_⟩
  rintro m σ' H' ⟨env', H0', p, O', G⟩
  refine hs m env' p σ' H0' H' O' (X.go G) _ fun b env1 A0 A ⟨h1, h2⟩ S => ?_
  have GG := G.trans S.go
  cases b with
  | false =>
    show D.nx σ' A
    exact e.nx env1 σ' A0 A (h2 rfl) S.ok GG
  | true =>
    show ∃ N : L2.St → Hp → Prop, _
    refine ⟨fun σ2 H2 => ∃ env2 B0 m', m' < m ∧ I m' env2 ∧ Ok env2 σ2 B0 H2 ∧ Go W.m env σ H0 H env2 σ2 B0 H2, fun σ2 H2 ⟨env2, B0, m', l, q1, q2, q3⟩ => ⟨m', l, env2, B0, q1, q2, q3⟩, h1 rfl σ' A0 A S.ok (X.go GG) _
      ⟨fun env3 σ3 C0 C ⟨m', l, p3⟩ O3 G3 => ⟨env3, C0, m', l, p3, O3, GG.trans G3⟩, fun v r env3 σ3 C0 C p3 O3 G3 w => e.rt v r env3 σ3 C0 C p3 O3 (GG.trans G3) (w.base fun l z => GG.back z), fun env3 σ3 C0 C p3 O3 G3 => e.nx env3 σ3 C0 C p3 O3 (GG.trans G3),
        fun env3 σ3 C0 C ⟨m', l, p3⟩ O3 G3 => ⟨env3, C0, m', l, p3, O3, GG.trans G3⟩⟩⟩

/-! ### methods of lists -/
def wpM (W : Wo) (f : V → List V → Hp → VK → Prop) (x : Res) (rs : List Res) (env : List Cell) (P : PR) (px : PX) : Prop := ∀ (σ : L2.St) (B H0 H : Hp), Ok env σ H0 H → ErrOk W px env σ H0 H → (∀ l, H l = none → B l = none) → ∀ v vs, VAL B env σ H0 H v x → VALs B env σ H0 H vs rs → ∀ Q : VK,
  (∀ u r env' H0' H', P r env' → Stp W.m env σ H0 H env' H0' H' → VAL B env' σ H0' H' u r → Q u H') → f v vs H Q
theorem wp_bmL {f : V → List V → Hp → VK → Prop} {P : PR} (h : wpE W to env (fun x env1 => (∃ ds, LstR env1 x ds) ∧ wpA W ta env1 (fun rs env2 => wpM W f x rs env2 P px) px) px) : wpE W (tBM W.K "list" f to ta) env P px := fun σ H0 H O X Q q =>
  h σ H0 H O X _ fun v x env1 A0 A ⟨⟨ds, l⟩, h1⟩ S w => by
    obtain ⟨a, vs, rfl, _, q1⟩ := l.get S.ok w
    refine ⟨.inl ⟨rfl, vs, SqL.of q1⟩, h1 σ A0 A S.ok (X.go S.go) _ fun us rs env2 B0 B p S2 w2 => ?_⟩
    exact p σ H B0 B S2.ok (X.go (S.trans S2).go) (fun l z => S.back (S2.back z)) _ us (w.stp S2) (w2.base fun l z => S.back z) Q fun u r env' C0 C p3 S3 w3 => q u r env' C0 C p3 ((S.trans S2).trans S3) w3
theorem wp_bmL0 {f : V → List V → Hp → VK → Prop} {P : PR} (h : wpE W to env (fun x env1 => (∃ ds, LstR env1 x ds) ∧ wpM W f x [] env1 P px) px) : wpE W (tBM0 W.K "list" f to) env P px := fun σ H0 H O X Q q =>
  h σ H0 H O X _ fun v x env1 A0 A ⟨⟨ds, l⟩, h1⟩ S w => by
    obtain ⟨a, vs, rfl, _, q1⟩ := l.get S.ok w
    refine ⟨.inl ⟨rfl, vs, SqL.of q1⟩, ?_⟩
    exact h1 σ H A0 A S.ok (X.go S.go) (fun l z => S.back z) _ [] w .nil Q fun u r env' C0 C p3 S3 w3 => q u r env' C0 C p3 (S.trans S3) w3
/-- the own list behind an alias -/
theorem al_get {σ : L2.St} {B H0 H : Hp} {i : Nat} {v : V} (O : Ok env σ H0 H) (e : env[i]? = some (.lst ds)) (w : VAL B env σ H0 H v (.al i)) : ∃ l vs, v = .ref l ∧ σ[i]? = some (some (.ref l)) ∧ H l = some (.lst vs) ∧ DdAll H0 vs ds := by
  obtain ⟨l, rfl, c, q1, q2, q3⟩ := w
  obtain ⟨l', o, z1, z2, z3, vs, rfl, z4⟩ := O.slot i _ e
  rw [q3] at z1
  injection z1 with z1
  injection z1 with z1
  injection z1 with z1
  subst z1
  exact ⟨l, vs, rfl, q3, z3, z4⟩
theorem wm_append {i : Nat} {P : PR} (e : env[i]? = some (.lst ds)) (hl : ds.length < 100000) (p : P (.dat .non) (env.set i (.lst (ds ++ [x])))) : wpM W rAppend (.al i) [.dat x] env P px := fun σ B H0 H O _ _ v vs hv hw Q q => by
  obtain ⟨y, rfl, hy⟩ := hw.one
  obtain ⟨l, ws, rfl, s, h1, h2⟩ := al_get O e hv
  exact ⟨l, ws, y, rfl, rfl, h1, by rw [h2.len]; exact Nat.lt_of_lt_of_le hl (by decide), q _ _ _ H0 _ p (.chg O e rfl s rfl ⟨_, rfl, h2.app (.cons hy .nil)⟩) .non⟩
theorem wm_pop {i : Nat} {P : PR} (e : env[i]? = some (.lst ds)) (hx : ds[ds.length - 1]? = some x) (p : P (.dat x) (env.set i (.lst ds.dropLast))) : wpM W rPop (.al i) [] env P px := fun σ B H0 H O _ _ v vs hv hw Q q => by
  cases hw
  obtain ⟨l, ws, rfl, s, h1, h2⟩ := al_get O e hv
  rw [← h2.len] at hx
  obtain ⟨y, y1, y2⟩ := h2.got hx
  exact ⟨l, ws, y, rfl, rfl, h1, y1, q _ _ _ H0 _ p (.chg O e rfl s rfl ⟨_, rfl, h2.dropLast⟩) y2⟩
end
end Nw

set_option Elab.async false
set_option linter.all false
set_option maxRecDepth 100000
set_option maxHeartbeats 1000000
namespace Nw
open PySem PySem.Spec PyProof.Rows L2
/-! ### comprehensions -/
def Wo.inn (W : Wo) : Wo := ⟨W.K, 0, fun _ => E0⟩
section
variable {W : Wo} {env env2 : List Cell} {px : PX} {P : PR} {te to ti tl : TE} {ta : TA} {g : TG} {tt : TT} {ds : List D} {x : D} {σ : L2.St} {H0 H A0 A : Hp} {v : V} {j : Nat} {c0 : Cell}
theorem wipe1 (σ : L2.St) (j : Nat) (v : V) : (wipe σ [j]).set j (some v) = σ.set j (some v) := by
  show (σ.set j none).set j (some v) = σ.set j (some v)
  rw [List.set_set]
theorem Ok.inner (O : Ok env σ H0 H) (hj : env[j]? = some c0) (hc : c0.own = false) (hv : Dd H0 v x) : Ok (env.set j (.dat x)) (σ.set j (some v)) H0 H ∧ ∀ k l, Owns (env.set j (.dat x)) (σ.set j (some v)) k l ↔ Owns env σ k l := by
  have hi : j < env.length := (List.getElem?_eq_some_iff.mp hj).1
  have hs : j < σ.length := by rw [O.len]; exact hi
  have ow : ∀ k l, Owns (env.set j (.dat x)) (σ.set j (some v)) k l ↔ Owns env σ k l := fun k l => by
    by_cases z : k = j
    · subst z
      constructor
      · rintro ⟨c, q1, q2, q3⟩
        rw [List.getElem?_set_self hi] at q1
        injection q1 with q1
        subst q1
        cases q2
      · rintro ⟨c, q1, q2, q3⟩
        rw [hj] at q1
        injection q1 with q1
        subst q1
        rw [hc] at q2
        cases q2
    · constructor
      · rintro ⟨c, q1, q2, q3⟩
        rw [List.getElem?_set_ne (Ne.symm z)] at q1 q3
        exact ⟨c, q1, q2, q3⟩
      · rintro ⟨c, q1, q2, q3⟩
        exact ⟨c, by rw [List.getElem?_set_ne (Ne.symm z)]; exact q1, q2, by rw [List.getElem?_set_ne (Ne.symm z)]; exact q3⟩
  refine ⟨⟨by rw [List.length_set, List.length_set]; exact O.len, O.same, fun k c e => ?_, fun a b l h1 h2 => O.apart a b l ((ow _ _).mp h1) ((ow _ _).mp h2)⟩, ow⟩
  by_cases z : k = j
  · subst z
    rw [List.getElem?_set_self hi] at e
    injection e with e
    subst e
    rw [List.getElem?_set_self hs]
    exact ⟨v, rfl, hv⟩
  · rw [List.getElem?_set_ne (Ne.symm z)] at e ⊢
    exact O.slot k c e
theorem SlotOk.keep {H0' H' : Hp} {y : Option (Option V)} (k : Same H0 H0') : ∀ {c : Cell}, c.own = false → SlotOk H0 H y c → SlotOk H0' H' y c
  | .non, _, _ => trivial
  | .dat d, _, ⟨v, h1, h2⟩ => ⟨v, h1, h2.mono k⟩
  | .lst _, h, _ => by cases h
  | .dic _, h, _ => by cases h
  | .dit _, h, _ => by cases h
theorem Stp.outer {m m' : Nat} (O : Ok env σ H0 H) (hj : env[j]? = some c0) (hc : c0.own = false) (hv : Dd H0 v x) (S : Stp m' (env.set j (.dat x)) (σ.set j (some v)) H0 H env2 A0 A) : Stp m env σ H0 H (env2.set j c0) A0 A := by
  obtain ⟨O1, ow⟩ := O.inner hj hc hv
  have hi : j < env.length := (List.getElem?_eq_some_iff.mp hj).1
  have hl : env2.length = env.length := by
    have q := S.ok.len
    rw [List.length_set, O.len] at q
    exact q.symm
  have hi2 : j < env2.length := by rw [hl]; exact hi
  have nojv : ∀ l, ¬ Owns env2 (σ.set j (some v)) j l := fun l z => by
    obtain ⟨c, q1, q2, q3⟩ := (ow _ _).mp ((S.iff j l).mpr z)
    rw [hj] at q1
    injection q1 with q1
    subst q1
    rw [hc] at q2
    cases q2
  have ow2 : ∀ k l, Owns (env2.set j c0) σ k l ↔ Owns env2 (σ.set j (some v)) k l := fun k l => by
    by_cases z : k = j
    · subst z
      constructor
      · rintro ⟨c, q1, q2, q3⟩
        rw [List.getElem?_set_self hi2] at q1
        injection q1 with q1
        subst q1
        rw [hc] at q2
        cases q2
      · intro q
        exact absurd q (nojv l)
    · constructor
      · rintro ⟨c, q1, q2, q3⟩
        rw [List.getElem?_set_ne (Ne.symm z)] at q1
        exact ⟨c, q1, q2, by rw [List.getElem?_set_ne (Ne.symm z)]; exact q3⟩
      · rintro ⟨c, q1, q2, q3⟩
        rw [List.getElem?_set_ne (Ne.symm z)] at q3
        exact ⟨c, by rw [List.getElem?_set_ne (Ne.symm z)]; exact q1, q2, q3⟩
  have iff_ : ∀ k l, Owns env σ k l ↔ Owns (env2.set j c0) σ k l := fun k l => ((ow k l).symm.trans (S.iff k l)).trans (ow2 k l).symm
  have owd : ∀ l, Owned (env.set j (.dat x)) (σ.set j (some v)) l ↔ Owned env σ l := fun l => ⟨fun ⟨k, h⟩ => ⟨k, (ow k l).mp h⟩, fun ⟨k, h⟩ => ⟨k, (ow k l).mpr h⟩⟩
  refine ⟨⟨by rw [List.length_set, hl]; exact O.len, S.ok.same, fun k c e => ?_, fun a b l h1 h2 => O.apart a b l ((iff_ _ _).mpr h1) ((iff_ _ _).mpr h2)⟩, ⟨S.go.k0, fun a h n => S.go.old a h fun z => n ((owd a).mp z), fun a o h n => S.go.keep a o h fun z => n ((owd a).mp z), S.go.al, fun l ⟨k, h⟩ => .inl ⟨k, (iff_ k l).mpr h⟩, fun _ _ => rfl⟩, iff_⟩
  by_cases z : k = j
  · subst z
    rw [List.getElem?_set_self hi2] at e
    injection e with e
    subst e
    exact (O.slot k c0 hj).keep S.go.k0 hc
  · rw [List.getElem?_set_ne (Ne.symm z)] at e
    have q := S.ok.slot k c e
    rw [List.getElem?_set_ne (Ne.symm z)] at q
    exact q
/-- one turn of a comprehension -/
def LcTurn (W : Wo) (tt : TT) (te : TE) (j : Nat) (c0 : Cell) (I : List D → List Cell → Prop) (acc : List D) (x : D) (env2 : List Cell) : Prop :=
  wpT W.inn tt (env2.set j (.dat x)) (fun b env3 => (b = true → wpE W.inn te env3 (fun r env4 => ∃ d, fz r = .dat d ∧ I (acc ++ [d]) (env4.set j c0)) PX0) ∧ (b = false → I acc (env3.set j c0))) PX0
/-- the state between two turns: the list at l holds acc -/
def LcSt (m : Nat) (env1 : List Cell) (σ : L2.St) (A0 A : Hp) (l : Addr) (I : List D → List Cell → Prop) (B : Nat) (H' : Hp) : Prop :=
  ∃ acc env2 H0' vs, I acc env2 ∧ acc.length ≤ B ∧ Stp m env1 σ A0 A env2 H0' H' ∧ H' l = some (.lst vs) ∧ DdAll H0' vs acc ∧ H0' l = none
theorem Stp.tmpset {m : Nat} {env1 : List Cell} {l : Addr} {o : HO} {H0' H' : Hp} (S : Stp m env1 σ A0 A env2 H0' H') (hl : A l = none) (h0 : H0' l = none) (hn : ¬ Owned env2 σ l) : Stp m env1 σ A0 A env2 H0' (upd H' l o) := by
  refine ⟨⟨S.ok.len, fun b u e => ?_, fun k c e => ?_, S.ok.apart⟩, ⟨S.go.k0, S.go.old, fun a u h n => ?_, fun a h => ?_, S.go.ow, S.go.fx⟩, S.iff⟩
  · rw [upd_ne (ne_of_none e h0)]
    exact S.ok.same _ _ e
  · have q := S.ok.slot k c e
    have own_ : ∀ c : Cell, c.own = true → env2[k]? = some c → (∃ l o, σ[k]? = some (some (V.ref l)) ∧ H0' l = none ∧ H' l = some o ∧ Own H0' c o) → ∃ z u, σ[k]? = some (some (V.ref z)) ∧ H0' z = none ∧ upd H' l o z = some u ∧ Own H0' c u := fun c oc ec ⟨z, u, q1, q2, q3, q4⟩ =>
      ⟨z, u, q1, q2, by rw [upd_ne (show z ≠ l from fun y => hn ⟨k, c, ec, oc, by rw [q1, y]⟩)]; exact q3, q4⟩
    cases c with
    | non => trivial
    | dat d => exact q
    | lst ds => exact own_ _ rfl e q
    | dic ds => exact own_ _ rfl e q
    | dit ds => exact own_ _ rfl e q
  · rw [upd_ne (ne_of_none h hl)]
    exact S.go.keep a u h n
  · by_cases z : a = l
    · subst z
      rw [upd_same]
      exact fun z => by cases z
    · rw [upd_ne z]
      exact S.go.al a h
theorem lc_turn {m : Nat} {env1 : List Cell} {l : Addr} {I : List D → List Cell → Prop} {I' : List D → List Cell → Prop} {B : Nat} {H' : Hp} (O : Ok env1 σ A0 A) (hB : B < 100000) (hl : A l = none)
    (hI : ∀ acc env2, I acc env2 → env2[j]? = some c0) (hc : c0.own = false) (p : LcSt m env1 σ A0 A l I B H') (hx : ∀ H0', Same A0 H0' → Dd H0' v x) (ht : ∀ acc env2, I acc env2 → LcTurn W tt te j c0 I' acc x env2) :
    tt ((wipe σ [j]).set j (some v)) H' fun b H3 => if b = true then te ((wipe σ [j]).set j (some v)) H3 fun y H4 => ∃ acc, H4 l = some (.lst acc) ∧ acc.length < sizeLine ∧ LcSt m env1 σ A0 A l I' (B + 1) (upd H4 l (.lst (acc ++ [y]))) else LcSt m env1 σ A0 A l I' (B + 1) H3 := by
  obtain ⟨acc, env2, H0', vs, pi, hn, S, h1, h2, h3⟩ := p
  rw [wipe1]
  have hv := hx H0' S.go.k0
  have hj := hI acc env2 pi
  obtain ⟨O1, ow⟩ := S.ok.inner hj hc hv
  have nown : ∀ {env5 : List Cell} {B0 B5 : Hp}, Stp m env1 σ A0 A env5 B0 B5 → ¬ Owned env5 σ l := fun S5 ⟨k, z⟩ => (O.owned ⟨k, (S5.iff k l).mpr z⟩).2 hl
  have al : H' l ≠ none := fun z => by rw [h1] at z; cases z
  have nin : ¬ Owned (env2.set j (.dat x)) (σ.set j (some v)) l := fun ⟨k, z⟩ => nown S ⟨k, (ow k l).mp z⟩
  refine ht acc env2 pi (σ.set j (some v)) H0' H' O1 .none _ fun b env3 B0 B5 ⟨q1, q2⟩ S3 => ?_
  cases b with
  | false =>
    show LcSt m env1 σ A0 A l I' (B + 1) B5
    exact ⟨acc, _, B0, vs, q2 rfl, by omega, S.trans (S3.outer S.ok hj hc hv), S3.go.keep l _ h1 nin, h2.mono S3.go.k0, (S3.go.old l al nin).trans h3⟩
  | true =>
    show te (σ.set j (some v)) B5 fun y H4 => ∃ acc, H4 l = some (.lst acc) ∧ acc.length < sizeLine ∧ LcSt m env1 σ A0 A l I' (B + 1) (upd H4 l (.lst (acc ++ [y])))
    refine (wpE.fz (P := fun r env4 => ∃ d, r = .dat d ∧ I' (acc ++ [d]) (env4.set j c0)) (q1 rfl)) (σ.set j (some v)) B0 B5 S3.ok .none _ fun y r env4 C0 C ⟨d, er, pd⟩ S4 w => ?_
    subst er
    have Si := S3.trans S4
    have So := S.trans (Si.outer S.ok hj hc hv)
    have hC : C l = some (.lst vs) := Si.go.keep l _ h1 nin
    have h0 : C0 l = none := (Si.go.old l al nin).trans h3
    refine ⟨vs, hC, ?_, acc ++ [d], _, C0, vs ++ [y], pd, ?_, So.tmpset hl h0 (nown So), upd_same, (h2.mono Si.go.k0).app (.cons w .nil), h0⟩
    · rw [h2.len]
      exact Nat.lt_of_le_of_lt hn (Nat.lt_of_lt_of_le hB (by decide))
    · rw [List.length_append]
      show acc.length + 1 ≤ B + 1
      omega
theorem lc_start {m : Nat} {env1 : List Cell} {l : Addr} {I : List D → List Cell → Prop} (O : Ok env1 σ A0 A) (hl : A l = none) (i0 : I [] env1) : LcSt m env1 σ A0 A l I 0 (upd A l (.lst [])) :=
  ⟨[], env1, A0, [], i0, Nat.le_refl _, .tmp O hl, upd_same, .nil, O.same.free hl⟩
theorem lc_end {W : Wo} {env1 : List Cell} {l : Addr} {I : List D → List Cell → Prop} {B : Nat} {H' : Hp} {Q : VK} (O : Ok env1 σ A0 A) (S0 : Stp W.m env σ H0 H env1 A0 A) (hl : A l = none) (p : LcSt W.m env1 σ A0 A l I B H')
    (hd : ∀ acc env2, I acc env2 → acc.length ≤ B → P (.own (.lst acc)) env2) (q : ∀ v r env' H0' H', P r env' → Stp W.m env σ H0 H env' H0' H' → VAL H env' σ H0' H' v r → Q v H') : Q (.ref l) H' := by
  obtain ⟨acc, env2, H0', vs, pi, hn, S, h1, h2, h3⟩ := p
  exact q _ _ env2 H0' H' (hd acc env2 pi hn) (S0.trans S) ⟨rfl, l, _, rfl, h3, h1, ⟨vs, rfl, h2⟩, S0.back hl, fun ⟨k, z⟩ => (O.owned ⟨k, (S.iff k l).mpr z⟩).2 hl⟩
theorem wp_lcR1 (h : wpA W ta env (fun rs env1 => ∃ (n : Int) (c0 : Cell) (I : Nat → List D → List Cell → Prop), rs = [.dat (.int n)] ∧ -(2 ^ 62) ≤ n ∧ n < 100000 ∧ c0.own = false ∧ (∀ i acc e, I i acc e → e[j]? = some c0) ∧ I 0 [] env1 ∧
      (∀ (i : Nat) acc env2, (i : Int) < n → I i acc env2 → LcTurn W tt te j c0 (I (i + 1)) acc (.int i) env2) ∧ (∀ acc env2, I n.toNat acc env2 → acc.length ≤ n.toNat → P (.own (.lst acc)) env2)) px) :
    wpE W (tLc (iRng1 ta) (gName j) tt te [j]) env P px := fun σ H0 H O X Q q =>
  h σ H0 H O X _ fun vs rs env1 A0 A ⟨n, c0, I, er, l1, l2, hc, hI, i0, hs, hd⟩ S w => by
    subst er
    obtain ⟨v, rfl, w1⟩ := w.one
    have := Dd.int_inv w1
    subst this
    refine ⟨n, rfl, l1, by omega, fun l hl => lc_range (lo := 0) (n := n.toNat) (fun i H' => LcSt W.m env1 σ A0 A l (I i) i H') (lc_start S.ok hl i0) (fun i H' hi p => ⟨?_, ?_⟩) (fun H' p => lc_end S.ok S hl p hd q)⟩
    · show wipe ((wipe σ [j]).set j (some _)) [j] = wipe σ [j]
      show ((σ.set j none).set j (some _)).set j none = σ.set j none
      rw [List.set_set, List.set_set]
    · refine lc_turn S.ok (by omega) hl (hI i) hc p (x := .int (i : Int)) (fun _ _ => ?_) (fun acc env2 pi => hs i acc env2 (by omega) pi)
      rw [Int.zero_add]
      exact .int _
theorem wipe_again (σ : L2.St) (j : Nat) (v : V) : wipe ((wipe σ [j]).set j (some v)) [j] = wipe σ [j] := by
  show ((σ.set j none).set j (some v)).set j none = σ.set j none
  rw [List.set_set, List.set_set]
theorem wp_lcT (h : wpE W tl env (fun r env1 => ∃ (ds : List D) (c0 : Cell) (I : Nat → List D → List Cell → Prop), r = .dat (.tup ds) ∧ ds.length < 100000 ∧ c0.own = false ∧ (∀ i acc e, I i acc e → e[j]? = some c0) ∧ I 0 [] env1 ∧
      (∀ (i : Nat) x acc env2, ds[i]? = some x → I i acc env2 → LcTurn W tt te j c0 (I (i + 1)) acc x env2) ∧ (∀ acc env2, I ds.length acc env2 → acc.length ≤ ds.length → P (.own (.lst acc)) env2)) px) :
    wpE W (tLc (iTup W.K tl) (gName j) tt te [j]) env P px := fun σ H0 H O X Q q =>
  h σ H0 H O X _ fun v r env1 A0 A ⟨ds, c0, I, er, l1, hc, hI, i0, hs, hd⟩ S w => by
    subst er
    obtain ⟨a, vs, rfl, q1, q2⟩ := Dd.tup_inv w
    refine ⟨a, rfl, ⟨vs, SqT.of (S.ok.same _ _ q1)⟩, fun l hl => lc_tup (K := W.K) (a := a) (xs := vs) (fun i H' => LcSt W.m env1 σ A0 A l (I i) i H') (lc_start S.ok hl i0) (fun i H' hi ⟨acc, env2, H0', ws, pi, hn, S2, h1, h2, h3⟩ => SqT.of (S2.ok.same _ _ (S2.go.k0 _ _ q1)))
      (fun i x H' hi p => ⟨wipe_again σ j x, ?_⟩) (fun H' p => lc_end S.ok S hl p (by rw [q2.len]; exact hd) q)⟩
    obtain ⟨y, z1, z2⟩ := q2.get hi
    have hlt : i < ds.length := (List.getElem?_eq_some_iff.mp z1).1
    exact lc_turn S.ok (by omega) hl (hI i) hc p (x := y) (fun H0' k => z2.mono k) (fun acc env2 pi => hs i y acc env2 z1 pi)
theorem wp_lcL (h : wpE W tl env (fun r env1 => ∃ (ds : List D) (c0 : Cell) (I : Nat → List D → List Cell → Prop), fz r = .dat (.lst ds) ∧ ds.length < 100000 ∧ c0.own = false ∧ (∀ i acc e, I i acc e → e[j]? = some c0) ∧ I 0 [] env1 ∧
      (∀ (i : Nat) x acc env2, ds[i]? = some x → I i acc env2 → LcTurn W tt te j c0 (I (i + 1)) acc x env2) ∧ (∀ acc env2, I ds.length acc env2 → acc.length ≤ ds.length → P (.own (.lst acc)) env2)) px) :
    wpE W (tLc (iList W.K tl) (gName j) tt te [j]) env P px := fun σ H0 H O X Q q =>
  (wpE.fz (P := fun r env1 => ∃ (ds : List D) (c0 : Cell) (I : Nat → List D → List Cell → Prop), r = .dat (.lst ds) ∧ ds.length < 100000 ∧ c0.own = false ∧ (∀ i acc e, I i acc e → e[j]? = some c0) ∧ I 0 [] env1 ∧
      (∀ (i : Nat) x acc env2, ds[i]? = some x → I i acc env2 → LcTurn W tt te j c0 (I (i + 1)) acc x env2) ∧ (∀ acc env2, I ds.length acc env2 → acc.length ≤ ds.length → P (.own (.lst acc)) env2)) h) σ H0 H O X _ fun v r env1 A0 A ⟨ds, c0, I, er, l1, hc, hI, i0, hs, hd⟩ S w => by
    subst er
    obtain ⟨a, vs, rfl, q1, q2⟩ := Dd.lst_inv w
    refine ⟨a, rfl, ⟨vs, SqL.of (S.ok.same _ _ q1)⟩, fun l hl => lc_list (K := W.K) (a := a) (xs := vs) (fun i H' => LcSt W.m env1 σ A0 A l (I i) i H') (lc_start S.ok hl i0) (fun i H' hi ⟨acc, env2, H0', ws, pi, hn, S2, h1, h2, h3⟩ => SqL.of (S2.ok.same _ _ (S2.go.k0 _ _ q1)))
      (fun i x H' hi p => ⟨wipe_again σ j x, ?_⟩) (fun H' p => lc_end S.ok S hl p (by rw [q2.len]; exact hd) q)⟩
    obtain ⟨y, z1, z2⟩ := q2.get hi
    have hlt : i < ds.length := (List.getElem?_eq_some_iff.mp z1).1
    exact lc_turn S.ok (by omega) hl (hI i) hc p (x := y) (fun H0' k => z2.mono k) (fun acc env2 pi => hs i y acc env2 z1 pi)
theorem wt_yes {P : Bool → List Cell → Prop} (p : P true env) : wpT W tYes env P px := fun σ H0 H O _ Q q => q true env H0 H p (.refl O)
end

/-! ### functions -/
/-- what a def is, by cells: from its arguments, what is wanted of the end, what errors come -/
abbrev Spc := List Cell → PR → PX → Prop
def Res.nal : Res → Bool
  | .al _ => false
  | _ => true
def SPD (n : Nat) (pre : Spc) : Sp := fun vs H Q E => vs.length = n ∧ ∃ cs H0 post px, cs.length = n ∧ Ok cs (vs.map some) H0 H ∧ pre cs post px ∧
  (∀ v r cs' H0' H', r.nal = true → post r cs' → Stp 0 cs (vs.map some) H0 H cs' H0' H' → VAL H cs' (vs.map some) H0' H' v r → Q v H') ∧
  (∀ (C d : Addr) (ws : List (Str × V)) (fs : List (Str × D)) cs' H0' H', px C fs cs' → Stp 0 cs (vs.map some) H0 H cs' H0' H' → H0' d = some (.xd ws) → DdF H0' ws fs → E (.ref C) (some d) H')
def keptB : List Cell → List Cell → Bool
  | [], _ => true
  | c :: cs, [] => !c.own && keptB cs []
  | c :: cs, e :: es => (!c.own || e.own) && keptB cs es
def outCs : List Cell → List Cell → List Cell
  | [], _ => []
  | c :: cs, [] => c :: outCs cs []
  | c :: cs, e :: es => (if c.own = true then e else c) :: outCs cs es
def outR (r : Res) (env : List Cell) : Res := match r with
  | .al i => match env[i]? with
    | some c => .own c
    | none => .al i
  | r => r
def locR (m : Nat) : Res → Bool
  | .al i => decide (m ≤ i)
  | _ => true
/-- the arguments' owned things lie in the first m places -/
def firstB (m : Nat) : List Cell → Bool
  | [] => true
  | c :: cs => (!c.own || decide (0 < m)) && firstB (m - 1) cs
theorem keptB_at : ∀ {cs env : List Cell} {i : Nat} {c : Cell}, keptB cs env = true → cs[i]? = some c → c.own = true → ∃ e, env[i]? = some e ∧ e.own = true ∧ (outCs cs env)[i]? = some e
  | c :: cs, [], 0, _, h, e, o => by
    simp at e
    subst e
    simp [keptB, o] at h
  | c :: cs, e :: es, 0, _, h, q, o => by
    simp at q
    subst q
    simp [keptB, o] at h
    exact ⟨e, rfl, h.1, by simp [outCs, o]⟩
  | c :: cs, [], i + 1, d, h, q, o => by
    simp [keptB] at h
    obtain ⟨e, e1, _⟩ := keptB_at (i := i) (c := d) h.2 (by simpa using q) o
    simp at e1
  | c :: cs, e :: es, i + 1, d, h, q, o => by
    simp [keptB] at h
    obtain ⟨e2, e1, e3, e4⟩ := keptB_at (i := i) (c := d) h.2 (by simpa using q) o
    exact ⟨e2, by simpa using e1, e3, by simpa [outCs] using e4⟩
theorem outCs_no : ∀ {cs env : List Cell} {i : Nat} {c : Cell}, cs[i]? = some c → c.own = false → (outCs cs env)[i]? = some c
  | c :: cs, [], 0, _, e, o => by
    simp at e
    subst e
    simp [outCs]
  | c :: cs, e :: es, 0, _, q, o => by
    simp at q
    subst q
    simp [outCs, o]
  | c :: cs, [], i + 1, d, q, o => by
    have := outCs_no (cs := cs) (env := []) (i := i) (c := d) (by simpa using q) o
    simpa [outCs] using this
  | c :: cs, e :: es, i + 1, d, q, o => by
    have := outCs_no (cs := cs) (env := es) (i := i) (c := d) (by simpa using q) o
    simpa [outCs] using this
theorem outCs_len : ∀ {cs env : List Cell}, (outCs cs env).length = cs.length
  | [], _ => by simp [outCs]
  | c :: cs, [] => by simp [outCs, outCs_len]
  | c :: cs, e :: es => by simp [outCs, outCs_len]
theorem firstB_at : ∀ {m : Nat} {cs : List Cell} {i : Nat} {c : Cell}, firstB m cs = true → cs[i]? = some c → c.own = true → i < m
  | m, c :: cs, 0, _, h, e, o => by
    simp at e
    subst e
    simp [firstB, o] at h
    exact h.1
  | m, c :: cs, i + 1, d, h, q, o => by
    simp [firstB] at h
    have := firstB_at (m := m - 1) (i := i) (c := d) h.2 (by simpa using q) o
    omega
section
variable {m n k : Nat} {cs env' : List Cell} {vs : List V} {σ' : L2.St} {H0 H H0' H' : Hp}
theorem start_at {N : List Str} (hN : N.length = n + k) (hv : vs.length = n) {i : Nat} (hi : i < n) : (start N vs)[i]? = (vs.map some)[i]? := by
  unfold L2.start
  rw [List.getElem?_append_left (by rw [List.length_map, hv]; exact hi)]
theorem start_ok {N : List Str} (hN : N.length = n + k) (hv : vs.length = n) (hc : cs.length = n) (O : Ok cs (vs.map some) H0 H) : Ok (cs ++ List.replicate k .non) (start N vs) H0 H ∧ ∀ i l, Owns (cs ++ List.replicate k .non) (start N vs) i l ↔ Owns cs (vs.map some) i l := by
  have ow : ∀ i l, Owns (cs ++ List.replicate k .non) (start N vs) i l ↔ Owns cs (vs.map some) i l := fun i l => by
    by_cases hi : i < n
    · constructor
      · rintro ⟨c, q1, q2, q3⟩
        rw [List.getElem?_append_left (by omega)] at q1
        rw [start_at hN hv hi] at q3
        exact ⟨c, q1, q2, q3⟩
      · rintro ⟨c, q1, q2, q3⟩
        exact ⟨c, by rw [List.getElem?_append_left (by omega)]; exact q1, q2, by rw [start_at hN hv hi]; exact q3⟩
    · constructor
      · rintro ⟨c, q1, q2, q3⟩
        rw [List.getElem?_append_right (by omega)] at q1
        have := List.mem_of_getElem? q1
        rw [(List.mem_replicate.mp this).2] at q2
        cases q2
      · rintro ⟨c, q1, q2, q3⟩
        have := (List.getElem?_eq_some_iff.mp q1).1
        omega
  refine ⟨⟨?_, O.same, fun i c e => ?_, fun a b l h1 h2 => O.apart a b l ((ow _ _).mp h1) ((ow _ _).mp h2)⟩, ow⟩
  · unfold L2.start
    rw [List.length_append, List.length_append, List.length_map, List.length_replicate, List.length_replicate]
    omega
  · by_cases hi : i < n
    · rw [List.getElem?_append_left (by omega)] at e
      rw [start_at hN hv hi]
      exact O.slot i c e
    · rw [List.getElem?_append_right (by omega)] at e
      have := List.mem_of_getElem? e
      rw [(List.mem_replicate.mp this).2]
      trivial
/-- back at the caller: the arguments' cells -/
theorem leave {N : List Str} (hN : N.length = n + k) (hv : vs.length = n) (hc : cs.length = n) (O : Ok cs (vs.map some) H0 H) (hf : firstB m cs = true) (hk : keptB cs env' = true) (O' : Ok env' σ' H0' H') (G : Go m (cs ++ List.replicate k .non) (start N vs) H0 H env' σ' H0' H') :
    Stp 0 cs (vs.map some) H0 H (outCs cs env') H0' H' ∧ ∀ l i, Owns (outCs cs env') (vs.map some) i l → Owns env' σ' i l ∧ i < m := by
  obtain ⟨_, ow⟩ := start_ok hN hv hc O
  have owd : ∀ l, Owned (cs ++ List.replicate k .non) (start N vs) l ↔ Owned cs (vs.map some) l := fun l => ⟨fun ⟨i, h⟩ => ⟨i, (ow i l).mp h⟩, fun ⟨i, h⟩ => ⟨i, (ow i l).mpr h⟩⟩
  have same : ∀ (i : Nat) (c : Cell), cs[i]? = some c → c.own = true → σ'[i]? = (vs.map some)[i]? := fun i c e o => by
    have h1 := firstB_at hf e o
    have h2 := (List.getElem?_eq_some_iff.mp e).1
    rw [G.fx i h1, start_at hN hv (by omega)]
  have to : ∀ l i, Owns (outCs cs env') (vs.map some) i l → Owns env' σ' i l ∧ i < m ∧ Owns cs (vs.map some) i l := fun l i ⟨c, q1, q2, q3⟩ => by
    have hi : i < cs.length := by
      rw [← outCs_len (cs := cs) (env := env')]
      exact (List.getElem?_eq_some_iff.mp q1).1
    obtain ⟨c0, e0⟩ : ∃ c0, cs[i]? = some c0 := ⟨cs[i], List.getElem?_eq_getElem hi⟩
    cases o : c0.own with
    | false =>
      rw [outCs_no e0 o] at q1
      injection q1 with q1
      subst q1
      rw [o] at q2
      cases q2
    | true =>
      obtain ⟨e, e1, e2, e3⟩ := keptB_at hk e0 o
      exact ⟨⟨e, e1, e2, by rw [same i c0 e0 o]; exact q3⟩, firstB_at hf e0 o, c0, e0, o, q3⟩
  have iff_ : ∀ i l, Owns cs (vs.map some) i l ↔ Owns (outCs cs env') (vs.map some) i l := fun i l => ⟨fun ⟨c, q1, q2, q3⟩ => by
    obtain ⟨e, e1, e2, e3⟩ := keptB_at hk q1 q2
    exact ⟨e, e3, e2, q3⟩, fun h => (to l i h).2.2⟩
  refine ⟨⟨⟨?_, O'.same, fun i c e => ?_, fun a b l h1 h2 => O.apart a b l ((iff_ _ _).mpr h1) ((iff_ _ _).mpr h2)⟩,
    ⟨G.k0, fun a h n => G.old a h fun z => n ((owd a).mp z), fun a o h n => G.keep a o h fun z => n ((owd a).mp z), G.al, fun l ⟨i, h⟩ => .inl ⟨i, (iff_ i l).mpr h⟩, fun _ _ => rfl⟩, iff_⟩, fun l i h => ⟨(to l i h).1, (to l i h).2.1⟩⟩
  · rw [outCs_len, O.len]
  · have hi : i < cs.length := by
      rw [← outCs_len (cs := cs) (env := env')]
      exact (List.getElem?_eq_some_iff.mp e).1
    obtain ⟨c0, e0⟩ : ∃ c0, cs[i]? = some c0 := ⟨cs[i], List.getElem?_eq_getElem hi⟩
    cases o : c0.own with
    | false =>
      rw [outCs_no e0 o] at e
      injection e with e
      subst e
      exact (O.slot i c0 e0).keep G.k0 o
    | true =>
      obtain ⟨e', e1, e2, e3⟩ := keptB_at hk e0 o
      rw [e3] at e
      injection e with e
      subst e
      rw [← same i c0 e0 o]
      exact O'.slot i e' e1
/-- a def's body by the rules gives its promise -/
theorem body_of {K : PySem.W.Frag} {N : List Str} {t : TS} {pre : Spc} (hN : N.length = n + k) {vs : List V} {H : Hp} {Q : VK} {E : XK} (hs : SPD n pre vs H Q E)
    (h : ∀ cs post px, cs.length = n → pre cs post px → firstB m cs = true ∧ wpS ⟨K, m, fun _ => E⟩ t (cs ++ List.replicate k .non)
      { nx := fun env => keptB cs env = true ∧ post (.dat .non) (outCs cs env), rt := fun r env => keptB cs env = true ∧ locR m r = true ∧ post (outR r env) (outCs cs env) } (fun C fs env => keptB cs env = true ∧ px C fs (outCs cs env))) :
    t { nx := fun _ H' => Q .non H', rt := Q } (start N vs) H := by
  obtain ⟨hv, cs, H0, post, px, hc, O, pr, q, x⟩ := hs
  obtain ⟨hf, w⟩ := h cs post px hc pr
  obtain ⟨O1, ow⟩ := start_ok hN hv hc O
  refine w (start N vs) H0 H O1 (fun C d ws fs env' σ' H0' H' ⟨hk, p⟩ O' G e f => ?_) _ ⟨fun env' σ' H0' H' ⟨hk, p⟩ O' G => ?_, fun v r env' σ' H0' H' ⟨hk, hr, p⟩ O' G w => ?_, fun _ _ _ _ p => p.elim, fun _ _ _ _ p => p.elim⟩
  · exact x C d ws fs _ H0' H' p (leave hN hv hc O hf hk O' G).1 e f
  · exact q .non _ _ H0' H' rfl p (leave hN hv hc O hf hk O' G).1 .non
  · obtain ⟨S, to⟩ := leave hN hv hc O hf hk O' G
    cases r with
    | dat d => exact q v _ _ H0' H' rfl p S w
    | own c =>
      refine q v _ _ H0' H' rfl p S ?_
      obtain ⟨o, l, u, e, h0, h1, h2, h3, h4⟩ := w
      exact ⟨o, l, u, e, h0, h1, h2, h3, fun ⟨i, z⟩ => h4 ⟨i, (to l i z).1⟩⟩
    | al i =>
      obtain ⟨l, rfl, c, q1, q2, q3⟩ := w
      have hi : ¬ i < m := by
        have := of_decide_eq_true hr
        omega
      have e : outR (.al i) env' = .own c := by
        show (match env'[i]? with
          | some c => Res.own c
          | none => .al i) = _
        rw [q1]
      rw [e] at p
      refine q (.ref l) _ _ H0' H' rfl p S ?_
      obtain ⟨l', o, z1, z2, z3, z4⟩ := (slot_own q2).mp (O'.slot i c q1)
      rw [q3] at z1
      injection z1 with z1
      injection z1 with z1
      injection z1 with z1
      subst z1
      refine ⟨q2, l, o, rfl, z2, z3, z4, ?_, fun ⟨j, z⟩ => ?_⟩
      · rcases G.ow l ⟨i, c, q1, q2, q3⟩ with z | z
        · obtain ⟨j, z⟩ := z
          obtain ⟨cj, y1, y2, y3⟩ := (ow j l).mp z
          have hjm := firstB_at hf y1 y2
          have hjn := (List.getElem?_eq_some_iff.mp y1).1
          obtain ⟨e, e1, e2, e3⟩ := keptB_at hk y1 y2
          have ij := O'.apart i j l ⟨c, q1, q2, q3⟩ ⟨e, e1, e2, by rw [G.fx j hjm, start_at hN hv (by omega)]; exact y3⟩
          omega
        · exact z
      · obtain ⟨z1, z2⟩ := to l j z
        have ij := O'.apart i j l ⟨c, q1, q2, q3⟩ z1
        omega
end
end Nw

set_option Elab.async false
set_option linter.all false
set_option maxRecDepth 100000
set_option maxHeartbeats 1000000
namespace Nw
open PySem PySem.Spec PyProof.Rows L2
/-! ### calls of defs -/
section
variable {W : Wo} {env env2 : List Cell} {px : PX} {P : PR} {te to ti tl : TE} {t tk : TA} {ds : List D} {x : D} {σ : L2.St} {H0 H A0 A H0' H' : Hp} {v : V} {vs : List V}
theorem dats_slot : ∀ {vs : List V} {ds : List D} {i : Nat} {c : Cell}, DdAll H0 vs ds → (ds.map Cell.dat)[i]? = some c → c.own = false ∧ SlotOk H0 H ((vs.map some)[i]?) c := fun {vs ds i c} h e => by
  rw [List.getElem?_map] at e
  cases q : ds[i]? with
  | none => rw [q] at e; cases e
  | some d =>
    rw [q] at e
    injection e with e
    subst e
    obtain ⟨v, h1, h2⟩ := h.got q
    refine ⟨rfl, v, ?_, h2⟩
    rw [List.getElem?_map, h1]
    rfl
theorem dats_ok (O : Same H0 H) (h : DdAll H0 vs ds) : Ok (ds.map Cell.dat) (vs.map some) H0 H ∧ ∀ i l, ¬ Owns (ds.map Cell.dat) (vs.map some) i l := by
  have no : ∀ i l, ¬ Owns (ds.map Cell.dat) (vs.map some) i l := fun i l ⟨c, q1, q2, _⟩ => by
    have := (dats_slot (H := H) h q1).1
    rw [this] at q2
    cases q2
  exact ⟨⟨by rw [List.length_map, List.length_map]; exact h.len, O, fun i c e => (dats_slot h e).2, fun i _ l h1 _ => absurd h1 (no i l)⟩, no⟩
theorem own_all {env : List Cell} {m : Nat} (O : Ok env σ A0 A) (k0 : Same A0 H0') (sm : Same H0' H') (old : ∀ a, A a ≠ none → H0' a = A0 a) (keep : ∀ a o, A a = some o → H' a = some o) (al : ∀ a, A a ≠ none → H' a ≠ none) : Stp m env σ A0 A env H0' H' := by
  refine ⟨⟨O.len, sm, fun i c e => ?_, O.apart⟩, ⟨k0, fun a h _ => old a h, fun a o h _ => keep a o h, al, fun l h => .inl h, fun _ _ => rfl⟩, fun _ _ => Iff.rfl⟩
  cases o : c.own with
  | false => exact (O.slot i c e).keep k0 o
  | true =>
    obtain ⟨l, u, q1, q2, q3, q4⟩ := (slot_own o).mp (O.slot i c e)
    exact (slot_own o).mpr ⟨l, u, q1, (old l (fun z => by rw [q3] at z; cases z)).trans q2, keep l u q3, q4.mono k0⟩
/-- f(..) of data -/
theorem spd_dats {n m : Nat} {pre : Spc} {Q : VK} {E : XK} {env : List Cell} (O : Ok env σ A0 A) (h : DdAll A0 vs ds) (hn : ds.length = n) (hp : pre (ds.map Cell.dat) (fun r _ => P r env) (fun C fs _ => px C fs env))
    (q : ∀ u r H0' H', P r env → Stp m env σ A0 A env H0' H' → VAL A env σ H0' H' u r → Q u H')
    (x : ∀ (C d : Addr) (ws : List (Str × V)) (fs : List (Str × D)) H0' H', px C fs env → Stp m env σ A0 A env H0' H' → H0' d = some (.xd ws) → DdF H0' ws fs → E (.ref C) (some d) H') : SPD n pre vs A Q E := by
  obtain ⟨O1, no⟩ := dats_ok O.same h
  have nod : ∀ a, ¬ Owned (ds.map Cell.dat) (vs.map some) a := fun a ⟨i, z⟩ => no i a z
  have tos : ∀ {cs' H0' H'}, Stp 0 (ds.map Cell.dat) (vs.map some) A0 A cs' H0' H' → Stp m env σ A0 A env H0' H' := fun S =>
    own_all O S.go.k0 S.ok.same (fun a h => S.go.old a h (nod a)) (fun a o h => S.go.keep a o h (nod a)) S.go.al
  refine ⟨by rw [h.len]; exact hn, ds.map Cell.dat, A0, _, _, by rw [List.length_map]; exact hn, O1, hp, fun u r cs' H0' H' hr p S w => ?_, fun C d ws fs cs' H0' H' p S e f => x C d ws fs H0' H' p (tos S) e f⟩
  have ST := tos S
  refine q u r H0' H' p ST ?_
  cases r with
  | dat d => exact w
  | al i => cases hr
  | own c =>
    obtain ⟨o, l, u, e, h0, h1, h2, h3, h4⟩ := w
    exact ⟨o, l, u, e, h0, h1, h2, h3, fun z => (O.owned z).2 h3⟩
theorem wp_callD {n : Nat} {pre : Spc} {E : XK} (hE : W.E = fun _ => E) (h : wpA W t env (fun rs env1 => ∃ (ds : List Nw.D), datAll rs = some ds ∧ ds.length = n ∧ pre (ds.map Cell.dat) (fun r _ => P r env1) (fun C fs _ => px C fs env1)) px) :
    wpE W (tCall (SPD n pre) [] E t) env P px := fun σ H0 H O X Q q =>
  h σ H0 H O X _ fun vs rs env1 A0 A ⟨ds, er, hn, hp⟩ S w => by
    have er := datAll_map er
    subst er
    rw [List.append_nil]
    refine spd_dats (m := W.m) S.ok w.dats hn hp (fun u r H0' H' p S2 w2 => q u r env1 H0' H' p (S.trans S2) (w2.base fun l z => S.back z)) fun C d ws fs H0' H' p S2 e f => ?_
    have := X C d ws fs env1 σ H0' H' p S2.ok (S.trans S2).go e f
    rw [hE] at this
    exact this
theorem wp_callD0 {n : Nat} {pre : Spc} {E : XK} (h : wpA W t env (fun rs env1 => ∃ (ds : List Nw.D), datAll rs = some ds ∧ ds.length = n ∧ pre (ds.map Cell.dat) (fun r _ => P r env1) PX0) px) :
    wpE W (tCall (SPD n pre) [] E t) env P px := fun σ H0 H O X Q q =>
  h σ H0 H O X _ fun vs rs env1 A0 A ⟨ds, er, hn, hp⟩ S w => by
    have er := datAll_map er
    subst er
    rw [List.append_nil]
    exact spd_dats (m := W.m) (px := PX0) S.ok w.dats hn hp (fun u r H0' H' p S2 w2 => q u r env1 H0' H' p (S.trans S2) (w2.base fun l z => S.back z)) fun C d ws fs H0' H' p S2 e f => p.elim
/-- a try's body: the wish is told at the caller's slots -/
theorem wp_callS {n : Nat} {pre : Spc} (h : wpA W t env (fun rs env1 => ∃ (ds : List Nw.D), datAll rs = some ds ∧ ds.length = n ∧ pre (ds.map Cell.dat) (fun r _ => P r env1) (fun C fs _ => px C fs env1)) px) :
    wpE W (tCallS (SPD n pre) W.E t) env P px := fun σ H0 H O X Q q =>
  h σ H0 H O X _ fun vs rs env1 A0 A ⟨ds, er, hn, hp⟩ S w => by
    have er := datAll_map er
    subst er
    exact spd_dats (m := W.m) S.ok w.dats hn hp (fun u r H0' H' p S2 w2 => q u r env1 H0' H' p (S.trans S2) (w2.base fun l z => S.back z)) fun C d ws fs H0' H' p S2 e f =>
      X C d ws fs env1 σ H0' H' p S2.ok (S.trans S2).go e f
/-- f(b, ..), b an own list that f changes -/
theorem spd_own {n m i : Nat} {pre : Spc} {Q : VK} {E : XK} {env : List Cell} {b : List D} {v : V} (O : Ok env σ A0 A) (e : env[i]? = some (.lst b)) (hv : VAL H env σ A0 A v (.al i)) (h : DdAll A0 vs ds) (hn : ds.length + 1 = n)
    (hp : pre (.lst b :: ds.map Cell.dat) (fun r cs' => ∃ c, cs'[0]? = some c ∧ P r (env.set i c)) (fun C fs cs' => ∃ c, cs'[0]? = some c ∧ px C fs (env.set i c)))
    (q : ∀ u r env' H0' H', P r env' → Stp m env σ A0 A env' H0' H' → VAL A env' σ H0' H' u r → Q u H')
    (x : ∀ (C d : Addr) (ws : List (Str × V)) (fs : List (Str × D)) env' H0' H', px C fs env' → Stp m env σ A0 A env' H0' H' → H0' d = some (.xd ws) → DdF H0' ws fs → E (.ref C) (some d) H') : SPD n pre (v :: vs) A Q E := by
  obtain ⟨l, us, rfl, s, h1, h2⟩ := al_get O e hv
  have al : A l ≠ none := fun z => by rw [h1] at z; cases z
  have n0 : A0 l = none := (O.owned ⟨i, _, e, rfl, s⟩).1
  obtain ⟨O1, no⟩ := dats_ok O.same h
  have no' : ∀ k a, Owns (.lst b :: ds.map Cell.dat) ((V.ref l :: vs).map some) k a → k = 0 ∧ a = l := fun k a ⟨c, q1, q2, q3⟩ => by
    cases k with
    | zero =>
      simp at q3
      exact ⟨rfl, q3.symm⟩
    | succ k =>
      exact absurd ⟨c, by simpa using q1, q2, by simpa using q3⟩ (no k a)
  have yes : Owns (.lst b :: ds.map Cell.dat) ((V.ref l :: vs).map some) 0 l := ⟨.lst b, rfl, rfl, rfl⟩
  have O2 : Ok (.lst b :: ds.map Cell.dat) ((V.ref l :: vs).map some) A0 A := by
    refine ⟨?_, O.same, fun k c z => ?_, fun j k a z1 z2 => by rw [(no' j a z1).1, (no' k a z2).1]⟩
    · simp [h.len]
    · cases k with
      | zero =>
        simp at z
        subst z
        exact ⟨l, _, rfl, n0, h1, us, rfl, h2⟩
      | succ k =>
        have := O1.slot k c (by simpa using z)
        simpa using this
  have owd : ∀ a, Owned (.lst b :: ds.map Cell.dat) ((V.ref l :: vs).map some) a ↔ a = l := fun a => ⟨fun ⟨k, z⟩ => (no' k a z).2, fun z => ⟨0, by rw [z]; exact yes⟩⟩
  have tos : ∀ {cs' H0' H' c}, Stp 0 (.lst b :: ds.map Cell.dat) ((V.ref l :: vs).map some) A0 A cs' H0' H' → cs'[0]? = some c → Stp m env σ A0 A (env.set i c) H0' H' := fun {cs' H0' H' c} S ec => by
    have hi : i < env.length := (List.getElem?_eq_some_iff.mp e).1
    obtain ⟨c1, y1, y2, y3⟩ := (S.iff 0 l).mp yes
    rw [ec] at y1
    injection y1 with y1
    subst y1
    have sl := (slot_own y2).mp (S.ok.slot 0 c ec)
    have iff_ : ∀ k a, Owns env σ k a ↔ Owns (env.set i c) σ k a := fun k a => by
      by_cases z : k = i
      · subst z
        constructor
        · rintro ⟨c2, z1, z2, z3⟩
          exact ⟨c, List.getElem?_set_self hi, y2, z3⟩
        · rintro ⟨c2, z1, z2, z3⟩
          exact ⟨_, e, rfl, z3⟩
      · constructor
        · rintro ⟨c2, z1, z2, z3⟩
          exact ⟨c2, by rw [List.getElem?_set_ne (Ne.symm z)]; exact z1, z2, z3⟩
        · rintro ⟨c2, z1, z2, z3⟩
          rw [List.getElem?_set_ne (Ne.symm z)] at z1
          exact ⟨c2, z1, z2, z3⟩
    refine ⟨⟨by rw [List.length_set]; exact O.len, S.ok.same, fun k c2 z => ?_, fun j k a z1 z2 => O.apart j k a ((iff_ _ _).mpr z1) ((iff_ _ _).mpr z2)⟩,
      ⟨S.go.k0, fun a h z => S.go.old a h fun y => z ⟨i, _, e, rfl, by rw [(owd a).mp y]; exact s⟩, fun a o h z => S.go.keep a o h fun y => z ⟨i, _, e, rfl, by rw [(owd a).mp y]; exact s⟩, S.go.al, fun a ⟨k, z⟩ => .inl ⟨k, (iff_ k a).mpr z⟩, fun _ _ => rfl⟩, iff_⟩
    by_cases z' : k = i
    · subst z'
      rw [List.getElem?_set_self hi] at z
      injection z with z
      subst z
      obtain ⟨l', o, z1, z2, z3, z4⟩ := sl
      refine (slot_own y2).mpr ⟨l', o, ?_, z2, z3, z4⟩
      rw [s]
      exact z1
    · rw [List.getElem?_set_ne (Ne.symm z')] at z
      cases o : c2.own with
      | false => exact (O.slot k c2 z).keep S.go.k0 o
      | true =>
        obtain ⟨l', u, z1, z2, z3, z4⟩ := (slot_own o).mp (O.slot k c2 z)
        have hl : l' ≠ l := fun y => z' (O.apart k i l ⟨c2, z, o, by rw [z1, y]⟩ ⟨_, e, rfl, s⟩)
        have al' : A l' ≠ none := fun y => by rw [z3] at y; cases y
        exact (slot_own o).mpr ⟨l', u, z1, (S.go.old l' al' fun y => hl ((owd l').mp y)).trans z2, S.go.keep l' u z3 fun y => hl ((owd l').mp y), z4.mono S.go.k0⟩
  refine ⟨by rw [List.length_cons, h.len]; exact hn, .lst b :: ds.map Cell.dat, A0, _, _, by rw [List.length_cons, List.length_map]; exact hn, O2, hp, fun u r cs' H0' H' hr ⟨c, ec, p⟩ S w => ?_, fun C d ws fs cs' H0' H' ⟨c, ec, p⟩ S e f => x C d ws fs _ H0' H' p (tos S ec) e f⟩
  have ST := tos S ec
  refine q u r _ H0' H' p ST ?_
  cases r with
  | dat d => exact w
  | al i => cases hr
  | own c =>
    obtain ⟨o, l, u, e, h0, h1, h2, h3, h4⟩ := w
    refine ⟨o, l, u, e, h0, h1, h2, h3, fun ⟨k, z⟩ => ?_⟩
    exact (O.owned ⟨k, (ST.iff k l).mpr z⟩).2 h3
theorem wp_callB {n : Nat} {pre : Spc} {E : XK} (h : wpA W t env (fun rs env1 => ∃ (i : Nat) (ds b : List Nw.D), alAll rs = some (i, ds) ∧ env1[i]? = some (.lst b) ∧ ds.length + 1 = n ∧
      pre (.lst b :: ds.map Cell.dat) (fun r cs' => ∃ c, cs'[0]? = some c ∧ P r (env1.set i c)) PX0) px) : wpE W (tCall (SPD n pre) [] E t) env P px := fun σ H0 H O X Q q =>
  h σ H0 H O X _ fun vs rs env1 A0 A ⟨i, ds, b, er, e, hn, hp⟩ S w => by
    have er := alAll_map er
    subst er
    rw [List.append_nil]
    cases w with
    | cons w1 w2 =>
      refine spd_own (m := W.m) (px := PX0) S.ok e w1 w2.dats hn ?_ (fun u r env' H0' H' p S2 w2 => q u r env' H0' H' p (S.trans S2) (w2.base fun l z => S.back z)) fun C d ws fs env' H0' H' p S2 e f => p.elim
      have z : (fun (C : Addr) (fs : List (Str × D)) (cs' : List Cell) => ∃ c, cs'[0]? = some c ∧ PX0 C fs (env1.set i c)) = PX0 := by
        funext C fs cs'
        exact propext ⟨fun ⟨_, _, p⟩ => p.elim, fun p => p.elim⟩
      rw [z]
      exact hp
end

/-! ### calls by keywords alone -/
def perm {α : Type} (ix : List Nat) (xs : List α) : List α := ix.filterMap fun i => xs[i]?
theorem perm_dd {H : Hp} {vs : List V} {ds : List D} (h : DdAll H vs ds) : ∀ ix : List Nat, DdAll H (perm ix vs) (perm ix ds)
  | [] => .nil
  | i :: ix => by
    have ih := perm_dd h ix
    unfold perm at ih ⊢
    rw [List.filterMap_cons, List.filterMap_cons]
    cases e : vs[i]? with
    | none =>
      have : ds[i]? = none := by
        rw [List.getElem?_eq_none_iff] at e ⊢
        rw [← h.len]
        exact e
      rw [this]
      exact ih
    | some v =>
      obtain ⟨d, h1, h2⟩ := h.get e
      rw [h1]
      exact .cons h2 ih
theorem perm_vals {vs : List V} {us : List Value} (h : Vals vs us) : ∀ ix : List Nat, Vals (perm ix vs) (perm ix us)
  | [] => .nil
  | i :: ix => by
    have ih := perm_vals h ix
    unfold perm at ih ⊢
    rw [List.filterMap_cons, List.filterMap_cons]
    cases e : vs[i]? with
    | none =>
      rw [h.none_of e]
      exact ih
    | some v =>
      obtain ⟨u, h1, h2⟩ := h.get e
      rw [h1]
      exact .cons h2 ih
/-- how keywords alone bind -/
def KwBinds (K : PySem.W.Frag) (fd : FuncData) (ps ks : List Str) (ix : List Nat) : Prop := ∀ (s : Shared) (ws : List Value), K.In s.heap → ws.length = ks.length → BindsTo s fd ⟨[], ks.zip ws⟩ (ps.zip (perm ix ws))
def tCallP (n : Nat) (ix : List Nat) (sp : Sp) (E : XK) (tk : TA) : TE := fun σ H Q => tk σ H fun zs H1 => zs.length = n ∧ sp (perm ix zs) H1 Q E
section
variable {X : Cx} {CX : CXT} {k : Nat} {f : Addr} {fd : FuncData} {ps ks : List Str} {sp : Sp} {E : XK} {x : Str} {p pos : Pos} {kws : List Keyword} {tk : TA} {ix : List Nat}
theorem pe_callP (F : FnOk X.prog X.w X.K X.mg X.base CX k f fd ps sp) (hr : Room k X.A) (hg : Gl X x) (hm : X.mg x = some (.ref f)) (hk : PySem.W.keepIn X.K (.ref f) = true) (hb : KwBinds X.K fd ps ks ix) (hx : Passes CX X E)
    (hkw : PK X kws tk) (hall : (backToKw pos (keywordEach kws X.env)).all (·.1.isSome) = true := by rfl) (hks : (backToKw pos (keywordEach kws X.env)).filterMap (·.1) = ks := by rfl)
    (hdb : (x == ("__debug__" : Str)) = false := by decide) (hpl : ((backTo pos (starEach [] X.env)).any (·.1) || (backToKw pos (keywordEach kws X.env)).any (·.1.isNone)) = false := by rfl) :
    PE X (.Call (.Name x p) [] kws pos) (tCallP ks.length ix sp E tk) := by
  refine ⟨fun pins s σ H Q I h => ?_⟩
  refine wpAny_Call_Name_kw (ld_glob I hg hm ?_ hdb)
  refine PySem.W.callWith_KW0 (h₀ := X.base) I.ok.mod.kin hk hall ?_ hpl
  refine thn (hkw.run pos pins s σ H _ I h) fun ws s2 ⟨zs, H2, I2, rz, hl, q2⟩ => ⟨I2.kIn, ?_⟩
  rw [hks]
  have r2 := perm_vals rz ix
  refine wpAny_call (codeAny_mono (F.run X.A X.stack s2 H2 ⟨[], ks.zip ws⟩ (perm ix ws) (perm ix zs) Q E hr I2.env0 (hb s2 ws I2.kIn (rz.length.symm.trans hl)) r2 q2) fun r s' hq => ?_)
  cases r with
  | error e => exact hx pins σ H2 s2 e s' I2 hq
  | ok fl =>
    cases fl with
    | ret u => exact I2.after hq
    | next => exact False.elim hq
    | brk => exact False.elim hq
    | cont => exact False.elim hq
end
section
variable {W : Wo} {env : List Cell} {px : PX} {P : PR} {t : TA} {ds : List D}
theorem wp_callP0 {n l : Nat} {ix : List Nat} {pre : Spc} {E : XK} (h : wpA W t env (fun rs env1 => ∃ (ds : List Nw.D), datAll rs = some ds ∧ ds.length = l ∧ (perm ix ds).length = n ∧ pre ((perm ix ds).map Cell.dat) (fun r _ => P r env1) PX0) px) :
    wpE W (tCallP l ix (SPD n pre) E t) env P px := fun σ H0 H O X Q q =>
  h σ H0 H O X _ fun vs rs env1 A0 A ⟨ds, er, hl, hn, hp⟩ S w => by
    have er := datAll_map er
    subst er
    refine ⟨by rw [w.dats.len]; exact hl, ?_⟩
    exact spd_dats (m := W.m) (px := PX0) S.ok (perm_dd w.dats ix) hn hp (fun u r H0' H' p S2 w2 => q u r env1 H0' H' p (S.trans S2) (w2.base fun l z => S.back z)) fun C d ws fs H0' H' p S2 e f => p.elim
end
end Nw

set_option Elab.async false
set_option linter.all false
set_option maxRecDepth 100000
set_option maxHeartbeats 1000000
namespace L2
open PySem PySem.Spec PyProof.Rows
theorem Fun.kw {K : PySem.W.Frag} {x qual : Str} {st : Stmt} {f : Addr} {fd : FuncData} {ps ks : List Str} {ix : List Nat} (F : Fun K x qual st f fd)
    (h : ∀ (kV doc pm : Value) (an : Option Addr) (cdv ct : Value) (ws : List Value), ws.length = ks.length → bindArgs (PySem.W.fnOf x qual (defArgs st) (defBody st) (defScope st) .none kV doc pm an cdv ct) ⟨[], ks.zip ws⟩ = pure (ps.zip (Nw.perm ix ws))) : Nw.KwBinds K fd ps ks ix := by
  obtain ⟨oc, od, kV, doc, pm, an, cdv, ct, osl, rfl, lk, hcd⟩ := F.ex
  intro s ws _ hl
  exact .of_eq (h kV doc pm an cdv ct ws hl)
end L2
namespace Nw
open PySem PySem.Spec PyProof.Rows L2
/-- a word between two statements -/
theorem ws_cut {W : Wo} {env : List Cell} {px : PX} {t u : TS} {d : De} (M : List Cell → Prop) (h : wpS W t env { d with nx := M } px) (k : ∀ env1, M env1 → wpS W u env1 d px) : wpS W (tSeq t u) env d px := fun σ H0 H O X D e =>
  h σ H0 H O X _ ⟨fun env' σ' H0' H' p o g => k env' p σ' H0' H' o (X.go g) D (e.go g), e.rt, e.bk, e.ct⟩
theorem wu_neg {W : Wo} {env : List Cell} {P : PR} {px : PX} {i : Int} (p : P (.dat (.int (-i))) env) : wpU W (rU fun i => .int (-i)) (.dat (.int i)) env P px := fun σ B H0 H O _ _ v hv Q q => by
  cases hv
  exact ⟨i, rfl, q _ _ env H0 H p (.refl O) (.int _)⟩
/-! ### the law's box -/
def BoxD (ds : List D) : Prop := ∃ (ns : List Int) (a b e : Int), ds = [.lst (ns.map D.int), .int a, .int b, .int e] ∧ ns.length ≤ 63 ∧ 0 ≤ a ∧ 0 ≤ b ∧ 0 ≤ e
def preDraw : Spc := fun cs post _ => ∃ b n, cs = [.lst b, .dat (.int n)] ∧ BoxD b ∧ 0 < n ∧ n < 1073741824 ∧ ∀ b' r, BoxD b' → 0 ≤ r → r < n → post (.dat (.int r)) [.lst b', .dat (.int n)]
/-- _law_box(script) -/
def spBox (K : PySem.W.Frag) : Sp := fun vs H Q _ => ∃ (a : Addr) (ns : List Int), vs = [.ref a] ∧ SqL K H a (ns.map V.int) ∧ ns.length ≤ 63 ∧
  ∀ H' b c, Same H H' → H b = none → H c = none → b ≠ c → H' b = some (.lst [.ref c, .int 0, .int 0, .int 0]) → H' c = some (.lst (ns.map V.int)) → Q (.ref b) H'
theorem atI_int {ns : List Int} {i : Int} (h0 : 0 ≤ i) (h1 : i < ns.length) : ∃ x, atI (ns.map D.int) i = some (.int x) := by
  obtain ⟨k, rfl⟩ : ∃ k : Nat, i = k := ⟨i.toNat, by omega⟩
  have hk : k < ns.length := by omega
  refine ⟨ns[k], atI_nat ?_⟩
  rw [List.getElem?_map, List.getElem?_eq_getElem hk]
  rfl
theorem abs_nonneg (i : Int) : 0 ≤ (if i < 0 then -i else i) := by
  split <;> omega
end Nw

set_option Elab.async false
set_option linter.all false
set_option maxRecDepth 100000
set_option maxHeartbeats 1000000
namespace Nw
open PySem PySem.Spec PyProof.Rows L2
/-! ### plain data -/
mutual
def D.py : D → PyData
  | .non => .none | .bl b => .bool b | .int i => .int i | .str s => .str s
  | .tup ds => .tuple (D.pys ds) | .lst ds => .list (D.pys ds)
  | .ins _ _ => .none | .ty _ => .none | .cls _ => .none | .exc _ _ _ _ => .none
def D.pys : List D → List PyData
  | [] => []
  | d :: ds => D.py d :: D.pys ds
end
mutual
def D.pln : D → Bool
  | .non => true | .bl _ => true | .int _ => true | .str _ => true
  | .tup ds => D.plns ds | .lst ds => D.plns ds
  | .ins _ _ => false | .ty _ => false | .cls _ => false | .exc _ _ _ _ => false
def D.plns : List D → Bool
  | [] => true
  | d :: ds => D.pln d && D.plns ds
end
theorem D.pys_map : ∀ ds : List D, D.pys ds = ds.map D.py
  | [] => by simp [D.pys]
  | d :: ds => by simp [D.pys, D.pys_map ds]
theorem D.plns_all : ∀ ds : List D, D.plns ds = ds.all D.pln
  | [] => by simp [D.plns]
  | d :: ds => by simp [D.plns, D.plns_all ds]
mutual
theorem Dd.dp {K : PySem.W.Frag} {H : Hp} : ∀ (d : D) {v : V}, Dd H v d → d.pln = true → Dp K H v d.py
  | .non, _, .non, _ => by simp only [D.py]; exact .non
  | .bl _, _, .bl b, _ => by simp only [D.py]; exact .bl b
  | .int _, _, .int b, _ => by simp only [D.py]; exact .int b
  | .str _, _, .str b, _ => by simp only [D.py]; exact .str b
  | .tup ds, _, .tup h a, p => by
    simp only [D.py]
    simp only [D.pln] at p
    exact .tup (SqT.of h) (DdAll.dp ds a p)
  | .lst ds, _, .lst h a, p => by
    simp only [D.py]
    simp only [D.pln] at p
    exact .lst (SqL.of h) (DdAll.dp ds a p)
  | .ins _ _, _, _, p => by simp [D.pln] at p
  | .ty _, _, _, p => by simp [D.pln] at p
  | .cls _, _, _, p => by simp [D.pln] at p
  | .exc _ _ _ _, _, _, p => by simp [D.pln] at p
theorem DdAll.dp {K : PySem.W.Frag} {H : Hp} : ∀ (ds : List D) {vs : List V}, DdAll H vs ds → D.plns ds = true → DpAll K H vs (D.pys ds)
  | [], _, .nil, _ => by simp only [D.pys]; exact .nil
  | d :: ds, _, .cons h a, p => by
    simp only [D.plns, Bool.and_eq_true] at p
    simp only [D.pys]
    exact .cons (Dd.dp d h p.1) (DdAll.dp ds a p.2)
end
/-! ### the order of tuples -/
mutual
def ltP : PyData → PyData → Bool
  | .int i, .int j => decide (i < j)
  | .tuple xs, .tuple ys => ltPs xs ys
  | _, _ => false
def ltPs : List PyData → List PyData → Bool
  | [], [] => false
  | [], _ :: _ => true
  | _ :: _, [] => false
  | x :: xs, y :: ys => if PyData.eqv x y = true then ltPs xs ys else ltP x y
end
mutual
def okP : PyData → PyData → Bool
  | .int _, .int _ => true
  | .tuple xs, .tuple ys => okPs xs ys
  | _, _ => false
def okPs : List PyData → List PyData → Bool
  | x :: xs, y :: ys => okP x y && okPs xs ys
  | _, _ => true
end
theorem okPs_at : ∀ {xs ys : List PyData} {j : Nat} {x y : PyData}, okPs xs ys = true → xs[j]? = some x → ys[j]? = some y → okP x y = true
  | [], _, _, _, _, _, h, _ => by simp at h
  | _ :: _, [], _, _, _, _, _, h => by simp at h
  | x :: xs, y :: ys, 0, _, _, h, e, f => by
    simp at e f
    subst e
    subst f
    simp [okPs] at h
    exact h.1
  | x :: xs, y :: ys, j + 1, _, _, h, e, f => by
    simp [okPs] at h
    exact okPs_at (j := j) h.2 (by simpa using e) (by simpa using f)
theorem lexAt_shift {e r : Nat → Bool} {z : Bool} : ∀ (k i : Nat), Ob.lexAt e r z (i + 1) k = Ob.lexAt (fun j => e (j + 1)) (fun j => r (j + 1)) z i k
  | 0, _ => rfl
  | k + 1, i => by
    rw [Ob.lexAt_succ, Ob.lexAt_succ, lexAt_shift k (i + 1)]
theorem lexAt_ltPs : ∀ (xs ys : List PyData), Ob.lexAt (fun j => PyData.eqv (xs.getD j .none) (ys.getD j .none)) (fun j => ltP (xs.getD j .none) (ys.getD j .none)) (decide (xs.length < ys.length)) 0 (min xs.length ys.length) = ltPs xs ys
  | [], [] => by simp [ltPs, Ob.lexAt]
  | [], y :: ys => by simp [ltPs, Ob.lexAt]
  | x :: xs, [] => by simp [ltPs, Ob.lexAt]
  | x :: xs, y :: ys => by
    have ih := lexAt_ltPs xs ys
    have hm : min (x :: xs).length (y :: ys).length = min xs.length ys.length + 1 := by simp only [List.length_cons]; omega
    rw [hm, Ob.lexAt_succ, lexAt_shift]
    show (if PyData.eqv x y = true then Ob.lexAt (fun j => PyData.eqv (xs.getD j .none) (ys.getD j .none)) (fun j => ltP (xs.getD j .none) (ys.getD j .none)) (decide ((x :: xs).length < (y :: ys).length)) 0 (min xs.length ys.length) else ltP x y) = ltPs (x :: xs) (y :: ys)
    have hd : decide ((x :: xs).length < (y :: ys).length) = decide (xs.length < ys.length) := by
      simp only [List.length_cons]
      by_cases h : xs.length < ys.length
      · rw [decide_eq_true h, decide_eq_true (by omega)]
      · rw [decide_eq_false h, decide_eq_false (by omega)]
    rw [hd, ih]
    simp [ltPs]
theorem readsAll_at {h : Heap} : ∀ {us : List Value} {ds : List PyData} {as : List Addr} {j : Nat} {u : Value}, ReadsAll h us ds as → us[j]? = some u → ∃ d as', ds[j]? = some d ∧ Reads h u d as'
  | _, _, _, _, _, .nil, e => by simp at e
  | _, _, _, 0, _, .cons r _, e => by
    simp at e
    subst e
    exact ⟨_, _, rfl, r⟩
  | _, _, _, j + 1, u, .cons _ t, e => by
    obtain ⟨d, as', h1, h2⟩ := readsAll_at (j := j) (u := u) t (by simpa using e)
    exact ⟨d, as', by simpa using h1, h2⟩
theorem readsAll_len {h : Heap} : ∀ {us : List Value} {ds : List PyData} {as : List Addr}, ReadsAll h us ds as → us.length = ds.length
  | _, _, _, .nil => rfl
  | _, _, _, .cons _ t => congrArg Nat.succ (readsAll_len t)
theorem canLayAll_at : ∀ {xs : List PyData} {j : Nat} {x : PyData}, PyData.canLayAll0 xs = true → xs[j]? = some x → x.canLay0 = true
  | [], _, _, _, e => by simp at e
  | x :: xs, 0, _, h, e => by
    simp at e
    subst e
    simp [PyData.canLayAll0] at h
    exact h.1
  | x :: xs, j + 1, _, h, e => by
    simp [PyData.canLayAll0] at h
    exact canLayAll_at (j := j) h.2 (by simpa using e)
theorem depthAll_at : ∀ {xs : List PyData} {j : Nat} {x : PyData}, xs[j]? = some x → x.depth ≤ PyData.depthAll xs
  | [], _, _, e => by simp at e
  | x :: xs, 0, _, e => by
    simp at e
    subst e
    simp only [PyData.depthAll]
    omega
  | x :: xs, j + 1, _, e => by
    have := depthAll_at (xs := xs) (j := j) (by simpa using e)
    simp only [PyData.depthAll]
    omega
theorem lt_reads : ∀ (n : Nat) (da db : PyData) (A : Around) (s : Shared) (a b : Value) (as bs : List Addr), da.depth ≤ n → Reads s.heap a da as → Reads s.heap b db bs → da.canLay0 = true → db.canLay0 = true → okP da db = true → A.units + da.depth < cLine → Ob.RcOp .Lt A s a b (ltP da db) := by
  intro n
  induction n with
  | zero =>
    intro da db A s a b as bs hd ra rb ca cb ok hu
    cases ra with
    | int i t =>
      cases rb with
      | int j u =>
        simp only [ltP]
        exact Ob.RcOp.lt_int i j t u
      | _ => simp [okP] at ok
    | tuple _ _ _ _ =>
      simp [PyData.depth] at hd
    | _ => simp [okP] at ok
  | succ n ih =>
    intro da db A s a b as bs hd ra rb ca cb ok hu
    cases ra with
    | int i t =>
      cases rb with
      | int j u =>
        simp only [ltP]
        exact Ob.RcOp.lt_int i j t u
      | _ => simp [okP] at ok
    | @tuple p o vs k xs as' h1 h2 h3 h4 =>
      cases rb with
      | @tuple q o2 ws k2 ys bs' g1 g2 g3 g4 =>
        simp only [ltP]
        simp only [okP] at ok
        simp only [PyData.depth] at hd hu
        have ca' : PyData.canLayAll0 xs = true := by simpa [PyData.canLay0] using ca
        have cb' : PyData.canLayAll0 ys = true := by simpa [PyData.canLay0] using cb
        have l1 : vs.size = xs.length := by
          have := readsAll_len h4
          simpa using this
        have l2 : ws.size = ys.length := by
          have := readsAll_len g4
          simpa using this
        have R := Ob.RcOp.tuples_lt (A := A) (s := s) (l := p) (b := q) (items := vs) (items2 := ws) (e := fun j => PyData.eqv (xs.getD j .none) (ys.getD j .none)) (r := fun j => ltP (xs.getD j .none) (ys.getD j .none))
          ⟨o, h1, h2, k, h3⟩ ⟨o2, g1, g2, k2, g3⟩ (by omega) (fun j j1 j2 => ?_) (fun j j1 j2 _ => ?_)
        · rw [l1, l2, lexAt_ltPs] at R
          exact R
        · obtain ⟨d, as1, e1, r1⟩ := readsAll_at (j := j) (u := vs[j]) h4 (by rw [List.getElem?_eq_getElem (by simpa using j1)]; simp)
          obtain ⟨d2, as2, e2, r2⟩ := readsAll_at (j := j) (u := ws[j]) g4 (by rw [List.getElem?_eq_getElem (by simpa using j2)]; simp)
          have hdp := depthAll_at e1
          rw [List.getD_eq_getElem?_getD, List.getD_eq_getElem?_getD, e1, e2]
          exact SeqAt.eqAt_reads d d2 A.in1 s _ _ _ _ r1 r2 (canLayAll_at ca' e1) (canLayAll_at cb' e2) (by
            show A.units + 1 + min d.depth d2.depth < cLine
            have : min d.depth d2.depth ≤ d.depth := Nat.min_le_left _ _
            omega)
        · obtain ⟨d, as1, e1, r1⟩ := readsAll_at (j := j) (u := vs[j]) h4 (by rw [List.getElem?_eq_getElem (by simpa using j1)]; simp)
          obtain ⟨d2, as2, e2, r2⟩ := readsAll_at (j := j) (u := ws[j]) g4 (by rw [List.getElem?_eq_getElem (by simpa using j2)]; simp)
          have hdp := depthAll_at e1
          rw [List.getD_eq_getElem?_getD, List.getD_eq_getElem?_getD, e1, e2]
          exact ih d d2 A.in1 s _ _ _ _ (by omega) r1 r2 (canLayAll_at ca' e1) (canLayAll_at cb' e2) (okPs_at ok e1 e2) (by
            show A.units + 1 + d.depth < cLine
            omega)
      | _ => simp [okP] at ok
    | _ => simp [okP] at ok
def rLtD (K : PySem.W.Frag) : R2 := fun x y H Q => ∃ d e, Dp K H x d ∧ Dp K H y e ∧ SeqAt.shaped d = true ∧ SeqAt.shaped e = true ∧ okP d e = true ∧ Q (.bl (ltP d e)) H
theorem op_ltD {X : Cx} (hu : X.A.units + 64 < cLine) : OpR X (compareOp .Lt) (rLtD X.K) := by
  intro pins s σ H x y v u Q I rx ry h
  obtain ⟨d, e, hd, he, sd, se, ok, q⟩ := h
  obtain ⟨as, r1⟩ := Dp.reads I d x v hd rx
  obtain ⟨bs, r2⟩ := Dp.reads I e y u he ry
  have dd := SeqAt.depth_of_shaped sd
  exact lt_reads d.depth d e X.A s v u as bs (Nat.le_refl _) r1 r2 (SeqAt.canLay_of_shaped sd) (SeqAt.canLay_of_shaped se) ok (by omega) X.prog X.w X.xe _ ⟨.bl _, H, I, rfl, q⟩
/-! ### repr of plain data -/
def rReprD (K : PySem.W.Frag) : List V → Hp → VK → Prop := fun xs H Q => ∃ x d, xs = [x] ∧ Dp K H x d ∧ d.showable = true ∧ d.depth ≤ 60 ∧ d.shown.length ≤ sizeLine ∧ Q (.str d.shown) H
end Nw

set_option Elab.async false
set_option linter.all false
set_option maxRecDepth 100000
set_option maxHeartbeats 1000000
namespace Nw
open PySem PySem.Spec PyProof.Rows L2
/-! ### promises that hold where no repr is under way: so repr can be told -/
structure FnG (P : Program) (w : World) (K : PySem.W.Frag) (mg : Str → Option Value) (base : Heap) (CX : CXT) (k : Nat) (f : Addr) (fd : FuncData) (ps : List Str) (sp : Sp) : Prop where
  len : ∀ vs H Q E, sp vs H Q E → vs.length = ps.length
  run : ∀ (A : Around) (outer : List Env) (s : Shared) (H : Hp) (args : Args) (us : List Value) (vs : List V) (Q : VK) (E : XK), A.guards = some [] → Room k A → Env0 P w K mg base A outer s H →
    BindsTo s fd args (ps.zip us) → Vals vs us → sp vs H Q E → codeAny (model P w) A (.call (.ref f) args) (CR CX outer P w H s Q E) s
section
variable {P : Program} {w : World} {K : PySem.W.Frag} {mg : Str → Option Value} {base : Heap} {CX : CXT}
theorem FnG.of {k : Nat} {f : Addr} {fd : FuncData} {ps : List Str} {sp : Sp} (F : FnOk P w K mg base CX k f fd ps sp) : FnG P w K mg base CX k f fd ps sp :=
  ⟨F.len, fun A outer s H args us vs Q E _ hr he hb hv hs => F.run A outer s H args us vs Q E hr he hb hv hs⟩
/-- a def by its body -/
theorem fnG_of {k : Nat} {x qual : Str} {st : Stmt} {f : Addr} {fd : FuncData} {N ps : List Str} {sp : Sp} (F : Fun K x qual st f fd) (S : FnScope N ps (defScope st)) (len : ∀ vs H Q E, sp vs H Q E → vs.length = ps.length)
    (body : ∀ (cdv : Value) (A : Around) (outer : List Env) (s : Shared) (H : Hp) (vs : List V) (Q : VK) (E : XK), A.guards = some [] → Room k (A.deeper (envOfC qual (defScope st) s.heap.objs.size f cdv)) → sp vs H Q E →
      ∃ t, PSs (cxOf CX P w K mg base N qual (defScope st) f cdv A outer s H E) (defBody st) t ∧ t { nx := fun _ H' => Q .non H', rt := Q } (L2.start N vs) H) : FnG P w K mg base CX (k + 1) f fd ps sp := by
  obtain ⟨oc, od, kV, doc, pm, an, cdv, ct, osl, rfl, lk, hcd⟩ := F.ex
  refine ⟨len, fun A outer s H args us vs Q E hg room env binds vals want => ?_⟩
  have inK : K.In s.heap := env.mod.kin.keeps fun b o e => (env.bs b o e).1
  have kinds : ∀ y ∈ ps.zip us, (defScope st).names.lookup y.1 = some .local ∨ ((defScope st).names.lookup y.1 = some .cell ∧ ((cellsFrom (s.heap.objs.size + 1) (defScope st).names []).lookup y.1).isSome = true) := by
    rintro ⟨a, b⟩ hy
    cases S.par a (List.of_mem_zip hy).1 with
    | inl q => exact .inl q
    | inr q => exact .inr ⟨q, PySem.W.cellsFrom_some _ _ _ (.inl q)⟩
  apply codeAny_call_function room.depth (inK _ _ lk) rfl S.co S.gen rfl (PySem.W.codeRec_of inK hcd)
  apply binds
  refine wpAny_newFunctionEnv_cells S.kind kinds fun env' he s1 y => ?_
  cases he
  refine ⟨(env.mod.nolimit.keeps fun b o e => (env.bs b o e).1).keeps y.toInCall.keep, codeAny_func ?_⟩
  obtain ⟨t, ht, hq⟩ := body cdv A outer s H vs Q E hg (room.deeper _) want
  have J : L2.Inv (cxOf CX P w K mg base N qual (defScope st) f cdv A outer s H E) [] (L2.start N vs) H s1 := inv_start S room.hd env (len _ _ _ _ want) vals y
  refine wpAny_mono (ht.run [] s1 (L2.start N vs) H _ J hq) (fun fl s' h => ?_) fun e s' h => h
  cases fl with
  | ret u =>
    obtain ⟨v, σ', H', I, r, q⟩ := h
    exact ⟨v, H', I.os, I.bare, I.base, I.hok, r, q⟩
  | next =>
    obtain ⟨σ', H', I, q⟩ := h
    exact ⟨V.non, H', I.os, I.bare, I.base, I.hok, rfl, q⟩
  | brk =>
    obtain ⟨_, _, _, z⟩ := h
    exact z.elim
  | cont =>
    obtain ⟨_, _, _, z⟩ := h
    exact z.elim
theorem okG {x qual : Str} {st : Stmt} {f : Addr} {fd : FuncData} {N ps : List Str} {k : Nat} {sp : Sp} (F : Fun K x qual st f fd) (S : FnScope N ps (defScope st)) (len : ∀ vs H Q E, sp vs H Q E → vs.length = ps.length)
    (body : ∀ (cdv : Value) (A : Around) (outer : List Env) (s : Shared) (H : Hp) (vs : List V) (Q : VK) (E : XK), A.guards = some [] → Room k (A.deeper (envOfC qual (defScope st) s.heap.objs.size f cdv)) → sp vs H Q E →
      ∃ t, PSs (cxOf CX0 P w K mg base N qual (defScope st) f cdv A outer s H E).nox (defBody st) t ∧ t { nx := fun _ H' => Q .non H', rt := Q } (L2.start N vs) H) : FnG P w K mg base CX0 (k + 1) f fd ps sp :=
  fnG_of F S len fun cdv A outer s H vs Q E hg hr h => by
    obtain ⟨t, h1, h2⟩ := body cdv A outer s H vs Q E hg hr h
    exact ⟨t, h1.nox, h2⟩
end
mutual
theorem noDict {K : PySem.W.Frag} {H : Hp} : ∀ {d : PyData} {v : V}, Dp K H v d → d.hasDict = false
  | _, _, .non => by simp only [PyData.hasDict]
  | _, _, .bl _ => by simp only [PyData.hasDict]
  | _, _, .int _ => by simp only [PyData.hasDict]
  | _, _, .str _ => by simp only [PyData.hasDict]
  | _, _, .lst _ h => by
    simp only [PyData.hasDict]
    exact noDicts h
  | _, _, .tup _ h => by
    simp only [PyData.hasDict]
    exact noDicts h
theorem noDicts {K : PySem.W.Frag} {H : Hp} : ∀ {ds : List PyData} {vs : List V}, DpAll K H vs ds → PyData.hasDictAll ds = false
  | _, _, .nil => by simp only [PyData.hasDictAll]
  | _, _, .cons h t => by
    simp only [PyData.hasDictAll, noDict h, noDicts t, Bool.or_self]
end
section
variable {X : Cx} {CX : CXT} {k : Nat} {f : Addr} {fd : FuncData} {ps ks : List Str} {sp : Sp} {E : XK} {x : Str} {p pos : Pos} {e : Expr} {es : List Expr} {kws : List Keyword} {t tk : TA} {ix : List Nat}
/-- the callee's end is the call's -/
theorem callG {pins : List (Addr × Obj)} {σ : L2.St} {H : Hp} {s : Shared} {Q : VK} {us : List Value} {vs : List V} {args : Args} (F : FnG X.prog X.w X.K X.mg X.base CX k f fd ps sp) (hG : X.A.guards = some []) (hr : Room k X.A) (hb : BindsTo s fd args (ps.zip us))
    (hx : ∀ e s', CX X.stack H s E e s' → X.xe e s') (I : L2.Inv X pins σ H s) (r : Vals vs us) (h : sp vs H Q E) : codeAny (model X.prog X.w) X.A (.call (.ref f) args) (fun r s' => match r with
      | .ok (.ret u) => EP X pins σ Q u s'
      | .ok _ => False
      | .error e => X.xe e s') s := by
  refine codeAny_mono (F.run X.A X.stack s H args us vs Q E hG hr I.env0 hb r h) fun r s' q => ?_
  match r, q with
  | .error e, q => exact hx e s' q
  | .ok (.ret u), q => exact I.after q
theorem pe_callG (F : FnG X.prog X.w X.K X.mg X.base CX k f fd ps sp) (hG : X.A.guards = some []) (hr : Room k X.A) (hg : Gl X x) (hm : X.mg x = some (.ref f)) (hk : PySem.W.keepIn X.K (.ref f) = true) (hb : Binds X.K fd ps [])
    (hx : Passes CX X E) (ha : PA X (e :: es) t) (hdb : (x == ("__debug__" : Str)) = false := by decide) (he : starEach (e :: es) X.env = (false, eval e X.env) :: starEach es X.env := by rfl) (hpl : (backTo pos (starEach es X.env)).any (·.1) = false := by rfl) :
    PE X (.Call (.Name x p) (e :: es) [] pos) (tCall sp [] E t) := by
  constructor
  intro pins s σ H Q I h
  apply wpAny_Call_Name_kw
  refine ld_glob I hg hm ?_ hdb
  refine PySem.W.callWith_K (h₀ := X.base) I.ok.mod.kin hk ?_ he hpl
  refine thn (ha.run pos pins s σ H _ I h) fun us s1 ⟨vs, H1, J, r, q⟩ => ⟨J.kIn, ?_⟩
  have q1 : sp (vs ++ []) H1 Q E := q
  rw [List.append_nil] at q1
  have hl : us.length = ps.length := r.length.symm.trans (F.len _ _ _ _ q1)
  have b := hb s1 us J.kIn (by rw [List.append_nil]; exact hl)
  rw [List.append_nil] at b
  exact wpAny_call (callG F hG hr b (fun e s' z => hx pins σ H1 s1 e s' J z) J r q1)
theorem pe_callG0 (F : FnG X.prog X.w X.K X.mg X.base CX k f fd ps sp) (hG : X.A.guards = some []) (hr : Room k X.A) (hg : Gl X x) (hm : X.mg x = some (.ref f)) (hk : PySem.W.keepIn X.K (.ref f) = true) (hb : Binds X.K fd ps [])
    (hx : Passes CX X E) (hdb : (x == ("__debug__" : Str)) = false := by decide) : PE X (.Call (.Name x p) [] [] pos) (tCall sp [] E tNil) := by
  constructor
  intro pins s σ H Q I h
  apply wpAny_Call_Name_kw
  refine ld_glob I hg hm ?_ hdb
  have q : sp [] H Q E := h
  have b := hb s [] I.kIn (by have := F.len _ _ _ _ q; simpa using this)
  exact PySem.W.callWith_K0 I.kIn hk (wpAny_call (callG F hG hr b (fun e s' z => hx pins σ H s e s' I z) I .nil q))
theorem pe_callPG (F : FnG X.prog X.w X.K X.mg X.base CX k f fd ps sp) (hG : X.A.guards = some []) (hr : Room k X.A) (hg : Gl X x) (hm : X.mg x = some (.ref f)) (hk : PySem.W.keepIn X.K (.ref f) = true) (hb : KwBinds X.K fd ps ks ix) (hx : Passes CX X E)
    (hkw : PK X kws tk) (hall : (backToKw pos (keywordEach kws X.env)).all (·.1.isSome) = true := by rfl) (hks : (backToKw pos (keywordEach kws X.env)).filterMap (·.1) = ks := by rfl)
    (hdb : (x == ("__debug__" : Str)) = false := by decide) (hpl : ((backTo pos (starEach [] X.env)).any (·.1) || (backToKw pos (keywordEach kws X.env)).any (·.1.isNone)) = false := by rfl) :
    PE X (.Call (.Name x p) [] kws pos) (tCallP ks.length ix sp E tk) := by
  constructor
  intro pins s σ H Q I h
  apply wpAny_Call_Name_kw
  refine ld_glob I hg hm ?_ hdb
  refine PySem.W.callWith_KW0 (h₀ := X.base) I.ok.mod.kin hk hall ?_ hpl
  refine thn (hkw.run pos pins s σ H _ I h) fun ws s2 ⟨zs, H2, J, r, hl, q⟩ => ⟨J.kIn, ?_⟩
  rw [hks]
  exact wpAny_call (callG F hG hr (hb s2 ws J.kIn (r.length.symm.trans hl)) (fun e s' z => hx pins σ H2 s2 e s' J z) J (perm_vals r ix) q)
/-- in a try's body -/
theorem pe_callSG {E : L2.St → XK} (F : FnG X.prog X.w X.K X.mg X.base CX k f fd ps sp) (hG : X.A.guards = some []) (hr : Room k X.A) (hg : Gl X x) (hm : X.mg x = some (.ref f)) (hk : PySem.W.keepIn X.K (.ref f) = true) (hb : Binds X.K fd ps [])
    (hx : ∀ σ, PassesAt CX X σ (E σ)) (ha : PA X (e :: es) t) (hdb : (x == ("__debug__" : Str)) = false := by decide) (he : starEach (e :: es) X.env = (false, eval e X.env) :: starEach es X.env := by rfl) (hpl : (backTo pos (starEach es X.env)).any (·.1) = false := by rfl) :
    PE X (.Call (.Name x p) (e :: es) [] pos) (tCallS sp E t) := by
  constructor
  intro pins s σ H Q I h
  apply wpAny_Call_Name_kw
  refine ld_glob I hg hm ?_ hdb
  refine PySem.W.callWith_K (h₀ := X.base) I.ok.mod.kin hk ?_ he hpl
  refine thn (ha.run pos pins s σ H _ I h) fun us s1 ⟨vs, H1, J, r, q⟩ => ⟨J.kIn, ?_⟩
  have hl : us.length = ps.length := r.length.symm.trans (F.len _ _ _ _ q)
  have b := hb s1 us J.kIn (by rw [List.append_nil]; exact hl)
  rw [List.append_nil] at b
  exact wpAny_call (callG F hG hr b (fun e s' z => hx σ pins H1 s1 e s' J z) J r q)
/-- repr of plain data -/
theorem call_reprU (hG : X.A.guards = some []) (hu : X.A.units + 200 < cLine) : CallR X (.builtin "repr") (rReprD X.K) := by
  intro pins s σ H xs us Q I r h
  obtain ⟨x, d, rfl, hd, hs, hdp, hl, q⟩ := h
  obtain ⟨u, rfl, rx⟩ := vals1 r
  obtain ⟨as, rd⟩ := Dp.reads I d x u hd rx
  have main : ∀ a : Addr, u = .ref a → d.hasDict = false → wpAny (model X.prog X.w) X.A (call (.builtin "repr") [u]) (EP X pins σ Q) X.xe s := fun a e nd => by
    subst e
    refine repr_of_reads' rd hs (fun z => by rw [nd] at z; cases z) hG (by omega) (fun _ _ z => z) (fun h' tk ts keep => ?_) hl
    exact ⟨.str _, H, I.kept (t' := ts) keep, ⟨tk, rfl⟩, q⟩
  cases hd with
  | non =>
    cases rx
    exact PySem.P.repr_of_none ⟨.str _, H, I.tok _, ⟨_, rfl⟩, (by simpa [PyData.shown] using q)⟩
  | bl b =>
    cases rx
    exact PySem.P.repr_of_bool ⟨.str _, H, I.tok _, ⟨_, rfl⟩, (by simpa [PyData.shown] using q)⟩
  | int i =>
    obtain ⟨t, rfl⟩ := rx
    exact PySem.P.repr_of_int (by simpa [PyData.showable] using hs) ⟨.str _, H, I.tok _, ⟨_, rfl⟩, (by simpa [PyData.shown] using q)⟩
  | str z =>
    obtain ⟨t, rfl⟩ := rx
    exact PySem.P.repr_of_str ⟨.str _, H, I.tok _, ⟨_, rfl⟩, (by simpa [PyData.shown] using q)⟩ (by simpa [PyData.shown] using hl)
  | lst h1 h2 =>
    cases rx
    exact main _ rfl (noDict (.lst h1 h2))
  | tup h1 h2 =>
    cases rx
    exact main _ rfl (noDict (.tup h1 h2))
theorem call_reprD (hG : X.A.guards = some []) (hr : Room k X.A) : CallR X (.builtin "repr") (rReprD X.K) := call_reprU hG (by have := hr.un; omega)
end
end Nw

set_option Elab.async false
set_option linter.all false
set_option maxRecDepth 100000
set_option maxHeartbeats 1000000
namespace Nw
open PySem PySem.Spec PyProof.Rows L2
section
variable {W : Wo} {env : List Cell} {P : PR} {px : PX} {d e : D}
theorem wo_ltD (pd : d.pln = true) (pe : e.pln = true) (sd : SeqAt.shaped d.py = true) (se : SeqAt.shaped e.py = true) (ok : okP d.py e.py = true) (p : P (.dat (.bl (ltP d.py e.py))) env) : wpO W (rLtD W.K) (.dat d) (.dat e) env P px := fun σ B H0 H O _ _ v w hv hw Q q =>
  ⟨d.py, e.py, Dd.dp d (Dd.mono O.same hv) pd, Dd.dp e (Dd.mono O.same hw) pe, sd, se, ok, q _ _ env H0 H p (.refl O) (.bl _)⟩
theorem wo_eqD (pd : d.pln = true) (pe : e.pln = true) (sd : SeqAt.shaped d.py = true) (se : SeqAt.shaped e.py = true) (p : P (.dat (.bl (PyData.eqv d.py e.py))) env) : wpO W (rEqD W.K) (.dat d) (.dat e) env P px := fun σ B H0 H O _ _ v w hv hw Q q =>
  ⟨d.py, e.py, Dd.dp d (Dd.mono O.same hv) pd, Dd.dp e (Dd.mono O.same hw) pe, sd, se, q _ _ env H0 H p (.refl O) (.bl _)⟩
theorem wo_neD (pd : d.pln = true) (pe : e.pln = true) (sd : SeqAt.shaped d.py = true) (se : SeqAt.shaped e.py = true) (p : P (.dat (.bl (!PyData.eqv d.py e.py))) env) : wpO W (rNeD W.K) (.dat d) (.dat e) env P px := fun σ B H0 H O _ _ v w hv hw Q q =>
  ⟨d.py, e.py, Dd.dp d (Dd.mono O.same hv) pd, Dd.dp e (Dd.mono O.same hw) pe, sd, se, q _ _ env H0 H p (.refl O) (.bl _)⟩
theorem wc_repr (pd : d.pln = true) (hs : d.py.showable = true) (hd : d.py.depth ≤ 60) (hl : d.py.shown.length ≤ sizeLine) (p : P (.dat (.str d.py.shown)) env) : wpC W (rReprD W.K) [.dat d] env P px := fun σ B H0 H O _ _ vs hv Q q => by
  obtain ⟨v, rfl, h1⟩ := hv.one
  exact ⟨v, d.py, rfl, Dd.dp d (Dd.mono O.same h1) pd, hs, hd, hl, q _ _ env H0 H p (.refl O) (.str _)⟩
end
/-! ### words -/
def tw (w : List Int) : D := .tup (w.map D.int)
theorem pys_ints : ∀ w : List Int, D.pys (w.map D.int) = w.map PyData.int
  | [] => by simp [D.pys]
  | x :: w => by simp [D.pys, D.py, pys_ints w]
theorem tw_py (w : List Int) : (tw w).py = .tuple (w.map PyData.int) := by
  show D.py (.tup (w.map D.int)) = _
  simp only [D.py, pys_ints]
theorem plns_ints : ∀ w : List Int, D.plns (w.map D.int) = true
  | [] => by simp [D.plns]
  | x :: w => by simp [D.plns, D.pln, plns_ints w]
theorem tw_pln (w : List Int) : (tw w).pln = true := by
  show D.pln (.tup (w.map D.int)) = true
  simp only [D.pln, plns_ints]
theorem canLay_ints : ∀ w : List Int, PyData.canLayAll0 (w.map PyData.int) = true
  | [] => by simp [PyData.canLayAll0]
  | x :: w => by simp [PyData.canLayAll0, PyData.canLay0, canLay_ints w]
theorem depth_ints : ∀ w : List Int, PyData.depthAll (w.map PyData.int) = 0
  | [] => by simp [PyData.depthAll]
  | x :: w => by simp [PyData.depthAll, PyData.depth, depth_ints w]
theorem tw_shaped (w : List Int) : SeqAt.shaped (tw w).py = true := by
  rw [tw_py]
  unfold SeqAt.shaped
  simp only [PyData.canLay0, PyData.depth, canLay_ints, depth_ints]
  rfl
theorem eqv_ints : ∀ u v : List Int, PyData.eqvAll (u.map PyData.int) (v.map PyData.int) = decide (u = v)
  | [], [] => by simp [PyData.eqvAll]
  | [], y :: v => by simp [PyData.eqvAll]
  | x :: u, [] => by simp [PyData.eqvAll]
  | x :: u, y :: v => by
    simp only [List.map_cons, PyData.eqvAll, PyData.eqv, eqv_ints u v, List.cons.injEq]
    by_cases h : x = y
    · by_cases k : u = v
      · simp [h, k]
      · simp [h, k]
    · simp [h]
theorem tw_eqv (u v : List Int) : PyData.eqv (tw u).py (tw v).py = decide (u = v) := by
  rw [tw_py, tw_py]
  simp only [PyData.eqv, eqv_ints]
theorem ltPs_ints : ∀ u v : List Int, ltPs (u.map PyData.int) (v.map PyData.int) = HT.lexLt u v
  | [], [] => by simp [ltPs, HT.lexLt]
  | [], y :: v => by simp [ltPs, HT.lexLt]
  | x :: u, [] => by simp [ltPs, HT.lexLt]
  | x :: u, y :: v => by
    simp only [List.map_cons, ltPs, PyData.eqv, ltP, HT.lexLt_cons, ltPs_ints u v, beq_iff_eq]
theorem okPs_ints : ∀ u v : List Int, okPs (u.map PyData.int) (v.map PyData.int) = true
  | [], _ => by simp [okPs]
  | x :: u, [] => by simp [okPs]
  | x :: u, y :: v => by simp [okPs, okP, okPs_ints u v]
/-- one word is the first of both -/
def ahead (u v : List Int) : Bool := if u.length = v.length then HT.lexLt u v else decide (u.length < v.length)
/-- the pair of a word's length and the word -/
def lw (w : List Int) : D := .tup [.int (w.length : Int), tw w]
theorem lw_py (w : List Int) : (lw w).py = .tuple [.int (w.length : Int), .tuple (w.map PyData.int)] := by
  show D.py (.tup [.int (w.length : Int), tw w]) = _
  simp only [D.py, D.pys, tw_py]
theorem lw_pln (w : List Int) : (lw w).pln = true := by
  show D.pln (.tup [.int (w.length : Int), tw w]) = true
  simp only [D.pln, D.plns, tw_pln, Bool.and_true]
theorem lw_shaped (w : List Int) : SeqAt.shaped (lw w).py = true := by
  rw [lw_py]
  unfold SeqAt.shaped
  simp only [PyData.canLay0, PyData.canLayAll0, PyData.depth, PyData.depthAll, canLay_ints, depth_ints]
  rfl
theorem lw_ok (u v : List Int) : okP (lw u).py (lw v).py = true := by
  rw [lw_py, lw_py]
  simp only [okP, okPs, okPs_ints, Bool.and_true]
theorem lw_lt (u v : List Int) : ltP (lw u).py (lw v).py = ahead u v := by
  rw [lw_py, lw_py]
  simp only [ltP, ltPs, PyData.eqv, ltPs_ints, eqv_ints]
  unfold ahead
  by_cases h : u.length = v.length
  · simp only [h, beq_self_eq_true, if_true]
    by_cases k : u = v
    · subst k
      have irr : ∀ w : List Int, HT.lexLt w w = false := fun w => by
        induction w with
        | nil => rfl
        | cons x w ih => rw [HT.lexLt_cons, if_pos rfl, ih]
      simp [irr]
    · simp [k]
  · have h2 : ¬ ((u.length : Int) = (v.length : Int)) := fun e => h (by omega)
    have h3 : ((u.length : Int) == (v.length : Int)) = false := beq_eq_false_iff_ne.mpr h2
    simp only [h3, Bool.false_eq_true, if_false, h]
    by_cases l : u.length < v.length
    · rw [decide_eq_true l, decide_eq_true (by omega)]
    · rw [decide_eq_false l, decide_eq_false (by omega)]
/-- from place n on both are compared -/
theorem lexLt_step {u v : List Int} {n : Nat} {x y : Int} (hx : u[n]? = some x) (hy : v[n]? = some y) : HT.lexLt (u.drop n) (v.drop n) = if x = y then HT.lexLt (u.drop (n + 1)) (v.drop (n + 1)) else decide (x < y) := by
  obtain ⟨h1, e1⟩ := List.getElem?_eq_some_iff.mp hx
  obtain ⟨h2, e2⟩ := List.getElem?_eq_some_iff.mp hy
  rw [List.drop_eq_getElem_cons h1, List.drop_eq_getElem_cons h2, e1, e2, HT.lexLt_cons]

theorem cutD_take (ds : List D) (n : Nat) : cutD ds none (some (n : Int)) = ds.take n := by
  unfold cutD
  rw [HT.sIx_none, HT.sIx_nat, List.drop_zero, Nat.sub_zero]
  by_cases h : n ≤ ds.length
  · rw [Nat.min_eq_left h]
  · rw [Nat.min_eq_right (by omega), List.take_length, List.take_of_length_le (by omega)]
theorem cutD_drop (ds : List D) (n : Nat) : cutD ds (some (n : Int)) none = ds.drop n := by
  unfold cutD
  rw [HT.sIx_none, HT.sIx_nat]
  by_cases h : n ≤ ds.length
  · rw [Nat.min_eq_left h, List.take_of_length_le (by rw [List.length_drop]; omega)]
  · rw [Nat.min_eq_right (by omega), Nat.sub_self, List.take_zero, List.drop_eq_nil_of_le (by omega)]
theorem tup_take (w : List Int) (n : Nat) : D.tup (cutD (w.map D.int) none (some (n : Int))) = tw (w.take n) := by
  rw [cutD_take, ← List.map_take]
  rfl
theorem tup_drop (w : List Int) (n : Nat) : D.tup (cutD (w.map D.int) (some (n : Int)) none) = tw (w.drop n) := by
  rw [cutD_drop, ← List.map_drop]
  rfl
section
variable {W : Wo} {env : List Cell} {P : PR} {px : PX}
theorem wo_catW {u v : List Int} (hl : u.length + v.length ≤ 100000) (p : P (.dat (tw (u ++ v))) env) : wpO W (rCatA W.K) (.dat (tw u)) (.dat (tw v)) env P px := by
  refine wo_catT (by rw [List.length_map, List.length_map]; exact hl) ?_
  rw [← List.map_append]
  exact p
end
/-! ### the law's helpers -/
def preWord : Spc := fun cs post _ => ∃ (b : List D) (k m : Int), cs = [.lst b, .dat (.int k), .dat (.int m)] ∧ BoxD b ∧ 0 < k ∧ k < 1073741824 ∧ 0 ≤ m ∧ m < 1000 ∧
  ∀ b' w, BoxD b' → (w.length : Int) ≤ m → (∀ x ∈ w, 0 ≤ x ∧ x < k) → post (.dat (tw w)) [.lst b', .dat (.int k), .dat (.int m)]
section
variable {W : Wo} {env : List Cell} {P : PR} {px : PX} {t : TA} {E : XK}
theorem wp_draw (h : wpA W t env (fun rs env1 => ∃ (i : Nat) (n : Int), rs = [.al i, .dat (.int n)] ∧ ∃ b, env1[i]? = some (.lst b) ∧ BoxD b ∧ 0 < n ∧ n < 1073741824 ∧
    ∀ b' r, BoxD b' → 0 ≤ r → r < n → P (.dat (.int r)) (env1.set i (.lst b'))) px) : wpE W (tCall (SPD 2 preDraw) [] E t) env P px :=
  wp_callB (wpA.imp h fun rs env1 ⟨i, n, e, b, e1, hb, n0, n1, q⟩ => ⟨i, [.int n], b, by rw [e]; rfl, e1, rfl, b, n, rfl, hb, n0, n1, fun b' r hb' r0 r1 => ⟨_, rfl, q b' r hb' r0 r1⟩⟩)
theorem wp_word (h : wpA W t env (fun rs env1 => ∃ (i : Nat) (k m : Int), rs = [.al i, .dat (.int k), .dat (.int m)] ∧ ∃ b, env1[i]? = some (.lst b) ∧ BoxD b ∧ 0 < k ∧ k < 1073741824 ∧ 0 ≤ m ∧ m < 1000 ∧
    ∀ b' w, BoxD b' → (w.length : Int) ≤ m → (∀ x ∈ w, 0 ≤ x ∧ x < k) → P (.dat (tw w)) (env1.set i (.lst b'))) px) : wpE W (tCall (SPD 3 preWord) [] E t) env P px :=
  wp_callB (wpA.imp h fun rs env1 ⟨i, k, m, e, b, e1, hb, k0, k9, m0, m9, q⟩ => ⟨i, [.int k, .int m], b, by rw [e]; rfl, e1, rfl, b, k, m, rfl, hb, k0, k9, m0, m9, fun b' w hb' h1 h2 => ⟨_, rfl, q b' w hb' h1 h2⟩⟩)
end
theorem map_snoc (ns : List Int) (r : Int) : ns.map D.int ++ [D.int r] = (ns ++ [r]).map D.int := by rw [List.map_append]; rfl
theorem cut_ints (w : List Int) (lo hi : Option Int) : cutD (w.map D.int) lo hi = ((w.drop (HT.sIx w.length 0 lo)).take (HT.sIx w.length w.length hi - HT.sIx w.length 0 lo)).map D.int := by
  unfold cutD
  rw [List.length_map, ← List.map_drop, ← List.map_take]
theorem cut_len (ds : List D) (lo hi : Option Int) : (cutD ds lo hi).length ≤ ds.length := by
  unfold cutD
  rw [List.length_take, List.length_drop]
  omega
/-- t[:n] is of at most n -/
theorem cut_to (ds : List D) (n : Nat) : (cutD ds none (some (n : Int))).length ≤ n := by
  unfold cutD
  rw [List.length_take, List.length_drop, HT.sIx_nat, HT.sIx_none]
  omega
end Nw

set_option Elab.async false
set_option linter.all false
set_option maxRecDepth 100000
set_option maxHeartbeats 1000000
namespace Nw
open PySem PySem.Spec PyProof.Rows L2
/-! ### the law's own frame -/
theorem same_new {H : Hp} {p : Addr} {o : HO} (h : H p = none) : Same H (upd H p o) := fun b u e => by
  rw [upd_ne (ne_of_none e h)]
  exact e
def spAll (K : PySem.W.Frag) : Sp := fun vs H Q _ => ∃ (a : Addr) (ns : List Int), vs = [.ref a] ∧ SqL K H a (ns.map V.int) ∧ ns.length ≤ 63 ∧ ∀ H', Q (.bl true) H'
theorem run_all {K : PySem.W.Frag} {m n : Nat} {t : TS} {H' : Hp} {ns : List Int} {a b c : Addr} (hl : ns.length ≤ 63) (hbc : b ≠ c) (hb : H' b = some (.lst [.ref c, .int 0, .int 0, .int 0])) (hc : H' c = some (.lst (ns.map V.int)))
    (h : ∀ bx, BoxD bx → wpS ⟨K, m, fun _ => E0⟩ t (.non :: .lst bx :: List.replicate n .non) { nx := fun _ => False, rt := fun r _ => r = .dat (.bl true) } PX0) (D : Ends) (hD : ∀ H2, D.rt (.bl true) H2) :
    t D (some (.ref a) :: some (.ref b) :: List.replicate n none) H' := by
  have own1 : ∀ i l, Owns (.non :: .lst [.lst (ns.map Nw.D.int), .int 0, .int 0, .int 0] :: List.replicate n .non) (some (.ref a) :: some (.ref b) :: List.replicate n none) i l → i = 1 := fun i l ⟨x, q1, q2, q3⟩ => by
    match i with
    | 0 =>
      simp at q1
      subst q1
      cases q2
    | 1 => rfl
    | i + 2 =>
      have : x ∈ List.replicate n Cell.non := List.mem_of_getElem? (by simpa using q1)
      rw [(List.mem_replicate.mp this).2] at q2
      cases q2
  have hd0 : Dd (upd (fun _ => none) c (.lst (ns.map V.int))) (.ref c) (.lst (ns.map Nw.D.int)) := .lst upd_same DdAll.of_ints
  have O : Ok (.non :: .lst [.lst (ns.map Nw.D.int), .int 0, .int 0, .int 0] :: List.replicate n .non) (some (.ref a) :: some (.ref b) :: List.replicate n none) (upd (fun _ => none) c (.lst (ns.map V.int))) H' := by
    refine ⟨by simp, fun x o e => ?_, fun i x e => ?_, fun i j l h1 h2 => by rw [own1 i l h1, own1 j l h2]⟩
    · by_cases z : x = c
      · subst z
        rw [upd_same] at e
        rw [hc]
        exact e
      · rw [upd_ne z] at e
        cases e
    · match i with
      | 0 =>
        simp at e
        subst e
        trivial
      | 1 =>
        simp at e
        subst e
        exact ⟨b, _, rfl, upd_ne hbc, hb, _, rfl, .cons hd0 (.cons (.int 0) (.cons (.int 0) (.cons (.int 0) .nil)))⟩
      | i + 2 =>
        have : x ∈ List.replicate n Cell.non := List.mem_of_getElem? (by simpa using e)
        rw [(List.mem_replicate.mp this).2]
        trivial
  refine h _ ⟨ns, 0, 0, 0, rfl, hl, by decide, by decide, by decide⟩ _ _ _ O .none D ⟨fun _ _ _ _ p => p.elim, fun v r env' σ' H0' H2 p _ _ w => ?_, fun _ _ _ _ p => p.elim, fun _ _ _ _ p => p.elim⟩
  subst p
  rw [Dd.bl_inv w]
  exact hD H2

/-- [[int(cell) for cell in script], 0, 0, 0] -/
theorem box_read {K : PySem.W.Frag} {H : Hp} {Q : VK} {a : Addr} {ns : List Int} {D : Ends} (hS : SqL K H a (ns.map V.int)) (hl : ns.length ≤ 63)
    (q : ∀ H' b c, Same H H' → H b = none → H c = none → b ≠ c → H' b = some (.lst [.ref c, .int 0, .int 0, .int 0]) → H' c = some (.lst (ns.map V.int)) → Q (.ref b) H') (hD : D.rt = Q) :
    tRet (tLst (tCons (tLc (iList K (tVar 0)) (gName 1) tYes (tCB (fun xs H Q => (∃ i, xs = [.int i] ∧ Q (.int i) H) ∨ ∃ k, xs = [.bl k] ∧ Q (.int (if k then 1 else 0)) H) (tCons (tVar 1) tNil)) [1])
      (tCons (tC (.int 0)) (tCons (tC (.int 0)) (tCons (tC (.int 0)) tNil))))) D [some (.ref a), none] H := by
  refine ⟨.ref a, rfl, a, rfl, ⟨_, hS⟩, fun c hc => lc_list (K := K) (a := a) (xs := ns.map V.int) (fun i H' => Same H H' ∧ H' c = some (.lst ((ns.take i).map V.int))) ⟨same_new hc, upd_same⟩ (fun i H' _ p => p.1.seq hS) (fun i x H' hi ⟨p1, p2⟩ => ?_) (fun H' ⟨p1, p2⟩ => ?_)⟩
  · obtain ⟨z, hz, rfl⟩ : ∃ z, ns[i]? = some z ∧ x = V.int z := by
      rw [List.getElem?_map] at hi
      cases e : ns[i]? with
      | none => rw [e] at hi; cases hi
      | some z =>
        rw [e] at hi
        exact ⟨z, rfl, (Option.some.inj hi).symm⟩
    have hlt : i < ns.length := (List.getElem?_eq_some_iff.mp hz).1
    refine ⟨rfl, .int z, rfl, .inl ⟨z, rfl, _, p2, ?_, fun b o e => ?_, ?_⟩⟩
    · rw [List.length_map, List.length_take]
      exact Nat.lt_of_le_of_lt (Nat.min_le_left _ _) (small1000 (by omega))
    · rw [upd_ne (ne_of_none e hc)]
      exact p1 b o e
    · rw [upd_same, List.take_add_one, hz, List.map_append]
      rfl
  · rw [List.length_map, List.take_length] at p2
    refine ⟨by show 4 ≤ sizeLine; decide, fun b hb => ?_⟩
    rw [hD]
    refine q _ b c (fun x o e => ?_) (p1.free hb) hc (fun z => by rw [z, p2] at hb; cases hb) upd_same ?_
    · rw [upd_ne (ne_of_none (p1 x o e) hb)]
      exact p1 x o e
    · rw [upd_ne (show c ≠ b from fun z => by rw [← z, p2] at hb; cases hb)]
      exact p2
theorem seq_box {K : PySem.W.Frag} {m n : Nat} {t : TS} {H : Hp} {ns : List Int} {a : Addr} {Q : VK} (hS : SqL K H a (ns.map V.int)) (hl : ns.length ≤ 63)
    (h : ∀ bx, BoxD bx → wpS ⟨K, m, fun _ => E0⟩ t (.non :: .lst bx :: List.replicate n .non) { nx := fun _ => False, rt := fun r _ => r = .dat (.bl true) } PX0) (q : ∀ H', Q (.bl true) H') :
    tSeq (tAsg (tCall (spBox K) [] E0 (tCons (tVar 0) tNil)) (gName 1)) t { nx := fun _ H' => Q .non H', rt := Q } (some (.ref a) :: List.replicate (n + 1) none) H := by
  refine ⟨.ref a, rfl, a, ns, rfl, hS, hl, fun H' b c sm hb hc hbc eb ec => ?_⟩
  exact run_all (t := t) hl hbc eb ec h { nx := fun _ H' => Q .non H', rt := Q } q
/-! ### the head: the law's promise at the heap behind the top -/
section
variable {P : Program} {w : World} {K : PySem.W.Frag} {mg mb : Str → Option Value} {k : Nat} {fa a : Addr} {fd : FuncData} {x : Str} {s₁ : Shared} {vs : List Value} {ns : List Int}
theorem head_at {H : Hp} {CX : CXT} {sp : Sp} (hns : s₁.heap.Ns mainGlobals mg) (KX : K.In s₁.heap) (hb : s₁.heap.Ns builtinsNs mb) (hbb : ∀ x : Str, x ≠ "__name__" → mb x = bootBuiltins x) (lim : s₁.heap.NoLimit) (hg : s₁.gens = #[])
    (ha : s₁.heap.get? a = some { cls := .type "list", data := .seq vs.toArray }) (hr : Room k callerA) (F : ∀ base : Heap, K.In base → base.Ns mainGlobals mg → FnG P w K mg base CX k fa fd [x] sp)
    (bind : ∀ (s : Shared) (u : Value), BindsTo s fd ⟨[u], []⟩ [(x, u)]) (only : Only H) (ok : HOk P w H s₁.heap) (at_ : ∀ b, H b ≠ none → b = a) (hK : H a ≠ none → K.lookup a = none)
    (want : sp [.ref a] H (fun v _ => v = .bl true) fun _ _ _ => False) (hCX : ∀ e s', CX [] H s₁ (fun _ _ _ => False) e s' → False) :
    codeAny (model P w) callerA (.call (.ref fa) ⟨[.ref a], []⟩) (fun r s' => r = .ok (.ret (.bool true)) ∧ OldK s₁.heap s'.heap ∧ s'.os = s₁.os ∧ AllBare s'.gens) s₁ := by
  -- what is tracked is hidden from the base
  have free : ∀ {b : Addr} {o : Obj}, s₁.heap.get? b = some o → (∀ es ep, o.data = .dict es ep → H b = none) := fun {b o} e es ep d => by
    apply Classical.byContradiction
    intro z
    have := at_ b z
    subst this
    rw [ha] at e
    cases e
    cases d
  have keepNs : ∀ {b : Addr} {m : Str → Option Value}, s₁.heap.Ns b m → (hidT s₁.heap H).Ns b m := by
    rintro b m ⟨o, es, ep, e, d, r⟩
    exact ⟨o, es, ep, hidT_get e (free e es ep d), d, r⟩
  have inK : K.In (hidT s₁.heap H) := fun b o e => hidT_get (KX b o e) (Classical.byContradiction fun z => by
    have q := at_ b z
    subst q
    rw [hK z] at e
    cases e)
  obtain ⟨mc, l1, l2⟩ := lim
  have M : Mod K mg (hidT s₁.heap H) := ⟨inK, keepNs hns, ⟨mb, keepNs hb, hbb⟩, ⟨mc, keepNs l1, l2⟩⟩
  have env : Env0 P w K mg (hidT s₁.heap H) callerA [] s₁ H := { frames := rfl, mod := M, bs := fun b o e => of_hidT e, bsz := Nat.le_of_eq (hidT_size _ _), funs := trivial, frf := fun b z => absurd z List.not_mem_nil, hok := ok, bare := .of_eq hg }
  have run := (F _ inK (keepNs hns)).run callerA [] s₁ H ⟨[.ref a], []⟩ [.ref a] [.ref a] _ _ rfl hr env (bind s₁ (.ref a)) (.cons rfl .nil) want
  refine codeAny_mono run fun r s' h => ?_
  match r, h with
  | .error e, h => exact (hCX e s' h).elim
  | .ok (.ret u), h =>
    obtain ⟨v, H', os, bare, un, ok2, rv, q⟩ := h
    cases (show v = .bl true from q)
    cases (show u = Value.bool true from rv)
    refine ⟨rfl, OldK.of_keep fun b o e => ?_, os, bare⟩
    rcases only b with z | ⟨ob, xs, z⟩
    · exact un.keep b o e z List.not_mem_nil List.not_mem_nil
    · have e1 := (ok b _ z).1
      have e2 := (ok2 b _ (un.frzs b ob _ z)).1
      rw [e1] at e
      cases e
      exact e2
theorem head_call {CX : CXT} {sp : Sp} (KX : K.In s₁.heap) (hns : s₁.heap.Ns mainGlobals mg) (hb : s₁.heap.Ns builtinsNs mb) (hbb : ∀ x : Str, x ≠ "__name__" → mb x = bootBuiltins x) (lim : s₁.heap.NoLimit) (hg : s₁.gens = #[])
    (ha : s₁.heap.get? a = some { cls := .type "list", data := .seq vs.toArray }) (hi : IntsAre vs ns) (hl : ns.length ≤ sizeLine) (hr : Room k callerA) (F : ∀ base : Heap, K.In base → base.Ns mainGlobals mg → FnG P w K mg base CX k fa fd [x] sp)
    (bind : ∀ (s : Shared) (u : Value), BindsTo s fd ⟨[u], []⟩ [(x, u)]) (want : ∀ H : Hp, Only H → SqL K H a (ns.map V.int) → sp [.ref a] H (fun v _ => v = .bl true) fun _ _ _ => False) (hCX : ∀ H e s', CX [] H s₁ (fun _ _ _ => False) e s' → False) :
    codeAny (model P w) callerA (.call (.ref fa) ⟨[.ref a], []⟩) (fun r s' => r = .ok (.ret (.bool true)) ∧ OldK s₁.heap s'.heap ∧ s'.os = s₁.os ∧ AllBare s'.gens) s₁ := by
  have rv := vals_ints hi
  have lv := hi.length
  by_cases hk : K.lookup a = none
  · have at_ : ∀ b : Addr, (fun b => if b = a then some (HO.frz { cls := .type "list", data := .seq vs.toArray } (.lst (ns.map V.int))) else none) b ≠ none → b = a := fun b z => Classical.byContradiction fun q => z (if_neg q)
    refine head_at (H := fun b => if b = a then some (.frz { cls := .type "list", data := .seq vs.toArray } (.lst (ns.map V.int))) else none) hns KX hb hbb lim hg ha hr F bind (fun b => ?_) (fun b u z => ?_) at_ (fun _ => hk) (want _ (fun b => ?_) (.inl (.inr ⟨_, if_pos rfl⟩))) (hCX _)
    · by_cases q : b = a
      · exact .inr ⟨_, _, if_pos q⟩
      · exact .inl (if_neg q)
    · have q : b = a := at_ b fun y => by rw [y] at z; cases z
      subst q
      have z' := (if_pos rfl).symm.trans z
      cases z'
      exact ⟨ha, by rw [List.length_map]; exact hl, vs, _, rv, ha⟩
    · by_cases q : b = a
      · exact .inr ⟨_, _, if_pos q⟩
      · exact .inl (if_neg q)
  · cases e : K.lookup a with
    | none => exact absurd e hk
    | some o =>
      have e2 := KX a o e
      rw [ha] at e2
      cases e2
      refine head_at (H := fun _ => none) hns KX hb hbb lim hg ha hr F bind (fun _ => .inl rfl) (fun b u z => by cases (show (none : Option HO) = some u from z)) (fun b z => absurd rfl z) (fun z => absurd rfl z)
        (want _ (fun _ => .inl rfl) (.inr ⟨_, vs.toArray, _, e, rfl, rfl, rfl, ?_, ?_⟩)) (hCX _)
      · rw [List.size_toArray, lv]
        exact hl
      · simpa using rv
end
theorem walkG {l : PySem.W.OpenLaw} {n k : Nat} {q : Program} {loose : List Str} {XP : (Str → Option Value) → Heap → Prop} {YP : World → Heap → Prop} {d : DefRec} {K : Params → PySem.W.Frag} {CX : World → CXT} {sp : World → Sp} {x : Str}
    (hn : l.most = some n) (hn2 : n ≤ sizeLine) (hdf : d.params.defaults = []) (hr : Room k callerA) (hY : ∀ (w : World) (h : Heap), YP w h → (K w.params).In h)
    (F : ∀ (w : World) (mg : Str → Option Value) (fa : Addr) (h : Heap), (K w.params).In h → h.Ns mainGlobals mg → mg d.name = some (.ref fa) →
      ∃ fd : FuncData, (∀ (s : Shared) (u : Value), BindsTo s fd ⟨[u], []⟩ [(x, u)]) ∧ ∀ base : Heap, (K w.params).In base → base.Ns mainGlobals mg → FnG l.prog w (K w.params) mg base (CX w) k fa fd [x] (sp w))
    (want : ∀ (w : World) (H : Hp) (a : Addr) (ns : List Int), ns.length ≤ n → Only H → SqL (K w.params) H a (ns.map V.int) → sp w [.ref a] H (fun v _ => v = .bl true) fun _ _ _ => False)
    (hCX : ∀ (w : World) (H : Hp) (s : Shared) (e : Value) (s' : Shared), CX w [] H s (fun _ _ _ => False) e s' → False) : PySem.W.WalkO q loose XP YP l.row.toRowW d [] (fun f vs => PySem.call f vs) := by
  refine Att.attach_call hn hdf fun w s₀ s₁ mg mb fa o pm cd doc a vs ns G Y ho hd hcd hmg hobj hints hlen hg => ?_
  obtain ⟨fd, hb, hF⟩ := F w mg fa _ (hY w _ Y) G.T.g hmg
  exact head_call (hY w _ Y) G.T.g G.T.b G.T.builtins G.T.nolimit hg hobj hints (Nat.le_trans hlen hn2) hr hF hb (fun H hO hS => want w H a ns hlen hO hS) fun H e s' => hCX w H s₁ e s'
end Nw

set_option Elab.async false
set_option linter.all false
set_option maxRecDepth 100000
set_option maxHeartbeats 1000000
namespace Nw
open PySem PySem.Spec PyProof.Rows L2
/-! ### t[::-1] -/
section
variable {prog : Program} {w : World} {A : Around} {E : Value → Shared → Prop} {s : Shared}
theorem rev_places (n : Nat) : Builtin.Slice.sliceAdjust none none (-1) (n : Int) = ((n : Int) - 1, -1) := by
  unfold Builtin.Slice.sliceAdjust
  have h1 : ((-1 : Int) < 0) := by decide
  simp only [h1, if_true]
theorem rev_count (n : Nat) : Builtin.Slice.slicePlaces ((n : Int) - 1) (-1) (-1) = n := by
  unfold Builtin.Slice.slicePlaces
  have h1 : ¬ ((-1 : Int) > 0) := by decide
  simp only [h1, if_false]
  split
  · rw [show (-(-1) : Int) = 1 by decide, Int.ediv_one]
    omega
  · omega
theorem rev_pick (xs : Array Value) : ((List.range xs.size).filterMap fun (m : Nat) => xs[(((xs.size : Int) - 1) + (m : Int) * (-1)).toNat]?).toArray = xs.toList.reverse.toArray := by
  rw [← PySem.W.krv_all xs, ← List.filterMap_reverse, ← PySem.W.krv_range, List.filterMap_map]
  congr 1
  have key : ∀ l : List Nat, (∀ m ∈ l, m < xs.size) → l.filterMap (fun (m : Nat) => xs[(((xs.size : Int) - 1) + (m : Int) * (-1)).toNat]?) = l.filterMap ((fun x => xs[x]?) ∘ fun k => xs.size - 1 - k) := by
    intro l hl
    induction l with
    | nil => rfl
    | cons m l ih =>
      have hm := hl m (List.mem_cons_self ..)
      rw [List.filterMap_cons, List.filterMap_cons, ih fun k hk => hl k (List.mem_cons_of_mem _ hk)]
      have e : (((xs.size : Int) - 1) + (m : Int) * (-1)).toNat = xs.size - 1 - m := by omega
      rw [e]
      rfl
  exact key _ fun m hm => List.mem_range.mp hm
theorem sliceApplied_rev {sl : Addr} {vl vu vs : Value} {n : Nat} {Q : Int × Int × Nat → Shared → Prop} (hs : s.heap.IsSliceOf sl vl vu vs) (pl : IsPart vl none) (pu : IsPart vu none) (ps : IsPart vs (some (-1)))
    (h : Q (((n : Int) - 1), -1, n) s) : wpAny (model prog w) A (Builtin.Slice.sliceApplied (.ref sl) (pure (n : Int))) Q E s := by
  obtain ⟨os, hos, hcs, hds⟩ := id hs
  unfold Builtin.Slice.sliceApplied Builtin.Slice.sliceFields
  refine wpAny_bind (wpAny_bind (wpAny_field hos hds (x := vl) rfl (wpAny_bind (wpAny_field hos hds (x := vu) rfl (wpAny_bind (wpAny_field hos hds (x := vs) rfl (wpAny_pure ?_)))))))
  refine wpAny_bind (HT.slicePart_ ps ?_)
  show wpAny _ _ (if ((-1 : Int) == 0) = true then _ else _) _ _ s
  rw [if_neg (by decide)]
  refine wpAny_bind (HT.slicePart_ pl (wpAny_bind (HT.slicePart_ pu (wpAny_bind (wpAny_pure ?_)))))
  show wpAny _ _ (match Builtin.Slice.sliceAdjust none none (-1) (n : Int) with | (lo, hi) => pure (lo, (-1 : Int), Builtin.Slice.slicePlaces lo hi (-1))) _ _ s
  rw [rev_places n]
  show wpAny _ _ (pure (((n : Int) - 1), (-1 : Int), Builtin.Slice.slicePlaces ((n : Int) - 1) (-1) (-1))) _ _ s
  rw [rev_count]
  exact wpAny_pure h
theorem getItem_tuple_rev {t sl : Addr} {items : Array Value} {vl vu vs : Value} {Q : Value → Shared → Prop} (ht : IsTup s.heap t items) (hs : s.heap.IsSliceOf sl vl vu vs) (pl : IsPart vl none) (pu : IsPart vu none) (ps : IsPart vs (some (-1)))
    (h : Q (.ref s.heap.objs.size) { s with heap := s.heap.push { cls := .type "tuple", data := .seq items.toList.reverse.toArray } })
    (hsz : items.size ≤ sizeLine) : wpAny (model prog w) A (getItem (.ref t) (.ref sl)) Q E s := by
  have htake : sizeOk (.seq items.toList.reverse.toArray) := by
    show items.toList.reverse.toArray.size ≤ sizeLine
    rw [List.size_toArray, List.length_reverse, Array.length_toList]
    exact hsz
  obtain ⟨os, hos, hcs, hds⟩ := id hs
  have hTs : s.TypeIs (.ref sl) "slice" := ⟨os, hos, hcs⟩
  unfold getItem
  try with_reducible refine wpAny_holding ?_
  first | refine wpAny_bind (wpAny_pure ?_) | skip
  refine wpAny_bind (wpAny_sequenceKey ht.typeIs (by decide) ?_)
  refine wpAny_bind (wpAny_callSpecial?_slot (name := Str.ofString "__getitem__") ht.typeIs PyProof.Rows.slot_tuple_getitem
    (wpAny_call_entry PyProof.Rows.slot_tuple_getitem ht.typeIs entry_tuple_getitem ?_ (args_tuple_getitem _ _)))
  show wpAny _ _ (Builtin.Tuple.tupleItemsOf (.ref t) >>= _) _ _ s
  refine wpAny_bind (tupleItemsOf_ ht ?_)
  refine wpAny_bind (wpAny_typeOf hTs ?_)
  rw [if_pos (by decide)]
  refine wpAny_bind (sliceApplied_rev hs pl pu ps ?_)
  have hno : ¬ ((((items.size : Int) - 1) == 0 && (-1 : Int) == 1 && items.size == items.size) = true) := by
    intro q
    rw [Bool.and_eq_true, Bool.and_eq_true] at q
    exact absurd q.1.2 (by decide)
  show wpAny _ _ (if (((items.size : Int) - 1) == 0 && (-1 : Int) == 1 && items.size == items.size) = true then _ else _) _ _ s
  rw [if_neg hno, rev_pick]
  first
    | exact wpAny_bind (m := Builtin.Tuple.tupleExact _) (wpAny_newObj_type (wpAny_pure ⟨_, rfl, wpAny_pure h⟩) htake)
    | exact wpAny_bind (m := Builtin.Tuple.tupleExact _) (wpAny_newObj_type (wpAny_bind (wpAny_pure (wpAny_pure ⟨_, rfl, wpAny_pure h⟩))) htake)
    | exact wpAny_bind (wpAny_bind (m := Builtin.Tuple.tupleExact _) (wpAny_newObj_type (wpAny_pure (wpAny_pure ⟨_, rfl, wpAny_pure h⟩)) htake))
    | exact wpAny_bind (wpAny_bind (m := Builtin.Tuple.tupleExact _) (wpAny_newObj_type (wpAny_pure ⟨_, rfl, wpAny_pure h⟩) htake))
end
def tRevT (K : PySem.W.Frag) (te : TE) : TE := fun σ H Q => te σ H fun x H1 => ∃ a xs, x = .ref a ∧ SqT K H1 a xs ∧ ∀ p, H1 p = none → Q (.ref p) (upd H1 p (.tup xs.reverse))
theorem pe_revT {X : Cx} {e : Expr} {te : TE} {k : Nat} {p1 p2 p3 pos : Pos} (he : PE X e te) : PE X (.Subscript e (.Slice none none (some (.UnaryOp .USub (.Constant (.int 1) k p1) p2)) p3) pos) (tRevT X.K te) := by
  constructor
  intro pins s σ H Q I h
  refine Subscript_ (thn (he.run pins s σ H _ I h) fun v s1 ⟨x, H1, I1, r1, q1⟩ => ?_)
  obtain ⟨a, xs, ex, hx, q⟩ := q1
  subst ex
  cases r1
  have hst : PO X (some (.UnaryOp .USub (.Constant (.int 1) k p1) p2)) (tPart (tUn (rU fun i => .int (-i)) (tC (.int 1)))) := po_some (pe_un un_neg pe_int)
  refine wpAny_Slice (thn (po_none.run pins s1 σ H1 (fun o H2 => o = none ∧ H2 = H1) I1 ⟨rfl, rfl⟩) fun vl s2 ⟨l, H2, I2, pl, el, e2⟩ => ?_)
  subst el e2
  refine thn (po_none.run pins s2 σ H2 (fun o H3 => o = none ∧ H3 = H2) I2 ⟨rfl, rfl⟩) fun vu s3 ⟨u, H3, I3, pu, eu, e3⟩ => ?_
  subst eu e3
  refine thn (hst.run pins s3 σ H3 (fun o H4 => o = some (-1) ∧ H4 = H3) I3 ⟨1, rfl, -1, rfl, rfl, rfl⟩) fun vs s4 ⟨o, H4, I4, ps, eo, e4⟩ => ?_
  subst eo e4
  have I5 : Inv X pins σ H4 { s4 with heap := s4.heap.push { cls := .type "slice", data := .fields #[vl, vu, vs] } } := I4.kept (t' := s4.toks) fun b ob q => Heap.get?_push_of_some _ q
  obtain ⟨its, r, ht, hz⟩ := I5.tuple hx
  have hlen := r.length
  show wpAny (model X.prog X.w) X.A (subscriptTail e (.Slice none none (some (.UnaryOp .USub (.Constant (.int 1) k p1) p2)) p3) (.ref a) (.ref s4.heap.objs.size)) (EP X pins σ Q) X.xe { s4 with heap := s4.heap.push { cls := .type "slice", data := .fields #[vl, vu, vs] } }
  refine tail_any (ops := [.ref a, .ref s4.heap.objs.size]) ht.typeIs (PyProof.Rows.slot_tuple_getitem.lookup) ?_ (by with_unfolding_all rfl)
  refine getItem_tuple_rev ht (Heap.IsSliceOf.new _ vl vu vs) pl pu ps ?_ (by rw [List.size_toArray]; omega)
  refine ⟨.ref _, _, I5.laid (t' := s4.toks) (o := .tup xs.reverse) (fun b ob q => Heap.get?_push_of_some _ q) (Nat.le_refl _) ?_, rfl, q _ (I5.hok.fresh (Nat.le_refl _))⟩
  exact ⟨by rw [List.length_reverse]; exact hz, _, r.reverse, IsTup.new _ _⟩
theorem wp_revT {W : Wo} {env : List Cell} {P : PR} {px : PX} {te : TE} (h : wpE W te env (fun r env1 => ∃ ds, r = .dat (.tup ds) ∧ P (.dat (.tup ds.reverse)) env1) px) : wpE W (tRevT W.K te) env P px := fun σ H0 H O X Q q =>
  h σ H0 H O X _ fun v r env1 A0 A ⟨ds, e, p⟩ S w => by
    subst e
    obtain ⟨a, vs, rfl, q1, q2⟩ := Dd.tup_inv w
    refine ⟨a, vs, rfl, SqT.of (S.ok.same _ _ q1), fun x hx => ?_⟩
    obtain ⟨S4, d⟩ := laid_tup (m := W.m) S.ok q2.reverse hx
    exact q _ _ env1 _ _ p (S.trans S4) d
end Nw

set_option Elab.async false
set_option linter.all false
set_option maxRecDepth 100000
set_option maxHeartbeats 1000000
namespace Nw
open PySem PySem.Spec PyProof.Rows L2
/-! ### enumerate of a tuple or a list -/
set_option maxHeartbeats 2000000 in
theorem meets_enumB {v : Value} {o : Obj} {H : Heap → Prop} (B : Begins v o H) :
    Meets (Builtin.«enumerate.__new__» ⟨[.type "enumerate", v], []⟩) (fun _ R s => H s.heap ∧
      R (.ok (.ret (.ref (s.heap.push o).objs.size))) { s with heap := (s.heap.push o).push { cls := .type "enumerate", data := .fields #[.none, .bool false, .ref s.heap.objs.size, rawInt 0, .none, .none] } }) :=
  .of_wp fun prog w A R s h => by
    obtain ⟨hp, g, d, tk, os⟩ := s; obtain ⟨h1, h⟩ := h
    have hsub := sub_enumerate
    have q1 : ∀ {A' : Around} {E : Value → Shared → Prop} {Q : Value → Shared → Prop}, Q (.ref hp.objs.size) ⟨hp.push o, g, d, tk, os⟩ → wpAny (model prog w) A' (pyIter v) Q E ⟨hp, g, d, tk, os⟩ :=
      fun q => B.iter prog w _ _ ⟨hp, g, d, tk, os⟩ _ h1 q
    wp_walk using q1
    refine wpAny_stack_any fun st => wpAny_pure ?_
    split
    · rename_i c _ _ _ _ _
      cases (c == Value.type "enumerate")
      · wp_walk using q1
        exact ⟨_, rfl, h⟩
      · wp_walk using q1
        exact ⟨_, rfl, h⟩
    · wp_walk using q1
      exact ⟨_, rfl, h⟩
section
variable {prog : Program} {w : World} {A : Around} {E : Value → Shared → Prop} {s : Shared}
theorem enum_beginsB {v : Value} {o : Obj} {H : Heap → Prop} {Q : Value → Shared → Prop} (B : Begins v o H) (h1 : H s.heap)
    (h : ∀ h', IsEnum h' (s.heap.objs.size + 1) s.heap.objs.size 0 .none → h'.get? s.heap.objs.size = some o → h'.objs.size = s.heap.objs.size + 2 →
      (∀ b o, s.heap.get? b = some o → h'.get? b = some o) → Q (.ref (s.heap.objs.size + 1)) { s with heap := h' }) :
    wpAny (model prog w) A (call (.type "enumerate") [v]) Q E s := by
  refine callType_new F.called_enumerate (by decide) (F.typeCall_enumerate_1 _) (F.newCall_enumerate_1 _) (fun obj => F.args_object_init_2 obj _) F.entry_enumerate_new (meets_enumB B) ⟨h1, ?_⟩
  have hz : (s.heap.push o).objs.size = s.heap.objs.size + 1 := Heap.size_push ..
  show _ ∧ _
  rw [hz]
  have he : IsEnum ((s.heap.push o).push { cls := .type "enumerate", data := .fields #[.none, .bool false, .ref s.heap.objs.size, rawInt 0, .none, .none] }) (s.heap.objs.size + 1) s.heap.objs.size 0 .none := by
    have := Heap.get?_push_size (s.heap.push o) (o := { cls := .type "enumerate", data := .fields #[.none, .bool false, .ref s.heap.objs.size, rawInt 0, .none, .none] }) rfl
    rw [hz] at this; exact this
  refine ⟨⟨_, he, rfl⟩, h _ he (Heap.get?_push_of_some _ (Heap.get?_push_size _ B.free)) (by rw [Heap.size_push, hz]) fun b o x => Heap.get?_push_of_some _ (Heap.get?_push_of_some _ x)⟩
end
def IteT (K : PySem.W.Frag) (a : Addr) : It :=
  ⟨fun i H => ∃ (xs : List V) (x : V), SqT K H a xs ∧ xs[i]? = some x, fun i H v H' => ∃ T x, v = .ref T ∧ H T = none ∧ H' = upd H T (.tup [.int (i : Nat), x]) ∧ ∀ xs, SqT K H a xs → xs[i]? = some x, fun i H => ∃ xs : List V, SqT K H a xs ∧ xs.length ≤ i⟩
theorem turn_enumT {P : Program} {w : World} {K : PySem.W.Frag} {elts : List Expr} {kk : Nat} {tpos : Pos} (a e it : Addr) :
    Turn P w K (.Tuple elts kk tpos) (IteT K a) [e, it] e (fun i h => (∃ old, IsEnum h e it ((i : Nat) : Int) old) ∧ h.IsTupleIter it a i ∧ e ≠ it) where
  mem := by simp
  obj := fun i h st b hb => by
    obtain ⟨⟨old, he⟩, ⟨o, ho, hc, hd⟩, _⟩ := st
    have e' : b = e ∨ b = it := by simpa using hb
    rcases e' with z | z
    · rw [z]; exact ⟨_, he, fun v q => nomatch q⟩
    · rw [z]; exact ⟨o, ho, fun v q => by rw [hd] at q; cases q⟩
  keep := fun i h h' st k => let ⟨⟨old, he⟩, hi, hne⟩ := st; ⟨⟨old, k e (by simp) _ he⟩, hi.at fun o q => k it (by simp) o q, hne⟩
  item := by
    intro X hP hw hK hc i pins s σ H E I hf st hg
    subst hP hw hK
    obtain ⟨⟨old, he⟩, hit, hne⟩ := st
    obtain ⟨xs, x, hq, hx⟩ := hg
    obtain ⟨its, rv, p, hz⟩ := I.tuple hq
    obtain ⟨u, hu, ru⟩ := rv.get hx
    have hel : e < s.heap.objs.size := Heap.lt_size he
    have hil : it < s.heap.objs.size := by obtain ⟨_, q, _⟩ := hit; exact Heap.lt_size q
    have hai : a ≠ it := fun z => by
      obtain ⟨o1, q1, c1, _⟩ := hit
      obtain ⟨o2, q2, c2, _⟩ := p
      rw [z, q1] at q2
      cases q2
      rw [c1] at c2
      exact absurd c2 (by decide)
    have hea : e ≠ a := fun z => by
      obtain ⟨o2, q2, c2, _⟩ := p
      have he' : s.heap.get? e = some _ := he
      rw [z, q2] at he'
      cases he'
      have c3 : Value.type "enumerate" = Value.type "tuple" := c2
      injection c3 with c3
      exact absurd c3 (by decide)
    have hiu : i < its.toArray.size := by
      have := (List.getElem?_eq_some_iff.mp hu).1
      simpa using this
    refine wpAny_pyNext_enum_itemD (Draws.tuple (A := X.A.in1) (I.ok.hd hc) it a hai its.toArray) he ⟨hit, p⟩ hiu hne (by simp [hne, hea]) fun y h' tk hy ho hst' hT hsz hk => ?_
    obtain ⟨hit', _⟩ := hst'
    have hyu : y = u := by
      have : its.toArray[i]? = some u := by simpa using hu
      rw [this] at hy
      exact (Option.some.inj hy).symm
    subst hyu
    refine ⟨_, rfl, wpAny_letOwnedTupleGo_enum (s := { s with heap := h', toks := tk + 1 }) ho fun h'' he' sb => ?_⟩
    have hT2 : h''.get? s.heap.objs.size = some { cls := .type "tuple", data := .seq #[.int i tk, y] } := (sb.2 _ (Nat.ne_of_gt hel)).trans hT
    have new : ObjOk X.prog X.w (upd H s.heap.objs.size (.tup [.int (i : Nat), x])) h'' s.heap.objs.size (.tup [.int (i : Nat), x]) :=
      ⟨by show 2 ≤ sizeLine; decide, [.int i tk, y], .cons ⟨_, rfl⟩ (.cons ru .nil), ⟨_, hT2, rfl, _, rfl⟩⟩
    have I1 : Inv X pins σ (upd H s.heap.objs.size (.tup [.int (i : Nat), x])) { s with heap := h'', toks := tk + 1 } :=
      I.turnedNew (ch := [e, it]) (fun b ob hb q => (sb.2 b (fun z => hb (by simp [z]))).trans (hk b ob (fun z => hb (by simp [z])) (fun z => hb (by simp [z])) q)) hf (Nat.le_refl _) new
    refine ⟨.ref s.heap.objs.size, _, I1, rfl, ⟨_, x, rfl, I.hok.fresh (Nat.le_refl _), rfl, fun ys hy => by rw [I.tuple_inj hy hq]; exact hx⟩, ⟨⟨y, ?_⟩, hit'.at fun o q => (sb.2 it (Ne.symm hne)).trans q, hne⟩, fun b hb => ?_⟩
    · have e1 : ((i + 1 : Nat) : Int) = (i : Int) + 1 := by omega
      rw [e1]; exact he'
    · have hb' : b < s.heap.objs.size := by
        have e' : b = e ∨ b = it := by simpa using hb
        rcases e' with z | z
        · rw [z]; exact hel
        · rw [z]; exact hil
      rw [upd_ne (Nat.ne_of_lt hb')]
      exact (hf b hb).1
  done := by
    intro X hP hw hK hc i pins s σ H E I hf st hg
    subst hP hw hK
    obtain ⟨⟨old, he⟩, hit, hne⟩ := st
    obtain ⟨xs, hq, hx⟩ := hg
    obtain ⟨its, rv, p, hz⟩ := I.tuple hq
    obtain ⟨f0, f1, f2, f3, f4, f5⟩ := hf it (by simp)
    have hl := rv.length
    have hT : s.TypeIs (.ref e) "enumerate" := ⟨_, he, rfl⟩
    unfold pyNext
    refine wpAny_bind (wpAny_attempt (wpAny_callSpecial?_slot (name := Str.ofString "__next__") hT F.slot_enumerate_next
      (wpAny_call_entry F.slot_enumerate_next hT F.entry_enumerate_next ?_ (F.args_enumerate_next_1 _))))
    show wpAny _ _ (field (.ref e) 2 >>= _) _ _ _
    refine wpAny_bind (wpAny_field he rfl (x := .ref it) rfl ?_)
    refine wpAny_bind (wpAny_nextOf_tuple_end (I.ok.hd hc) hit p (by simp; omega) fun h' x he' hx' => ?_)
    obtain ⟨o, ho, hcx⟩ := hx'
    refine wpAny_bind (wpAny_isInstance (T := "StopIteration") (b := true) ⟨o, ho, hcx⟩ isSubtype_stop ?_)
    exact wpAny_pure ⟨rfl, I.turned (t' := s.toks) (fun b o hb q => he' b o hb q) f0 f1 f3 f4 f5⟩
  self := fun A i s Q E st h => let ⟨⟨_, he⟩, _⟩ := st; wpAny_pyIter_enum he h
def iEnumA (K : PySem.W.Frag) (ta : TA) : TI := fun σ H R => ta σ H fun vs H1 => ∃ a xs, vs = [.ref a] ∧ ((SqL K H1 a xs ∧ R (Ite K a) H1) ∨ (SqT K H1 a xs ∧ R (IteT K a) H1))
theorem pi_enumA {X : Cx} {e : Expr} {ta : TA} {p pos tpos : Pos} {elts : List Expr} {kk : Nat} (hg : Gl X "enumerate") (hm : X.mg "enumerate" = none) (ha : PA X [e] ta) (hs : starEach [e] X.env = [(false, eval e X.env)] := by rfl) :
    PI X (.Tuple elts kk tpos) (.Call (.Name "enumerate" p) [e] [] pos) (iEnumA X.K ta) := by
  constructor
  intro pins s σ H R I h
  refine Call_ (ld_blt I hg hm boot_enumerate (PyProof.Rows.callWith_type1 (thn (ha.run pos pins s σ H _ I h) fun us s1 ⟨vs, H1, I1, r1, q1⟩ => ?_) hs rfl))
  obtain ⟨a, xs, ex, hq⟩ := q1
  subst ex
  cases r1 with
  | cons r rr =>
    cases rr
    cases r
    have fp : ∀ b ∈ [s1.heap.objs.size + 1, s1.heap.objs.size], FpOk X pins H1 b := fun b hb => by
      have e' : b = s1.heap.objs.size + 1 ∨ b = s1.heap.objs.size := by simpa using hb
      have hle : s1.heap.objs.size ≤ b := by
        rcases e' with z | z
        · rw [z]; exact Nat.le_add_right _ _
        · rw [z]; exact Nat.le_refl _
      exact I1.fpOk hle (I1.hok.fresh hle)
    rcases hq with ⟨hq, q⟩ | ⟨hq, q⟩
    · obtain ⟨its, rv, p', hz⟩ := I1.list hq
      refine call_enumerate_list p'.isList fun h' he hit hsz hk => wpAny_pyIter_enum he ?_
      have I2 : Inv X pins σ H1 { s1 with heap := h' } := I1.kept (t' := s1.toks) hk
      exact ⟨s1.heap.objs.size + 1, [s1.heap.objs.size + 1, s1.heap.objs.size], _, _, H1, rfl, I2, turn_enum a (s1.heap.objs.size + 1) s1.heap.objs.size, ⟨⟨.none, he⟩, hit, Nat.succ_ne_self _⟩, fp, q⟩
    · obtain ⟨its, rv, p', hz⟩ := I1.tuple hq
      refine enum_beginsB (begins_tuple a its.toArray) p' fun h' he hit hsz hk => wpAny_pyIter_enum he ?_
      have I2 : Inv X pins σ H1 { s1 with heap := h' } := I1.kept (t' := s1.toks) hk
      exact ⟨s1.heap.objs.size + 1, [s1.heap.objs.size + 1, s1.heap.objs.size], _, _, H1, rfl, I2, turn_enumT a (s1.heap.objs.size + 1) s1.heap.objs.size, ⟨⟨.none, he⟩, ⟨_, hit, rfl, rfl⟩, Nat.succ_ne_self _⟩, fp, q⟩
theorem walk_enumT {K : PySem.W.Frag} {a : Addr} {xs : List V} : Walk (IteT K a) xs.length (fun H => SqT K H a xs) (YPair (fun i => some (.int (i : Nat))) (fun i => xs[i]?)) := by
  refine ⟨fun i _ hi q => ⟨xs, xs[i], q, by simp [hi]⟩, fun _ q => ⟨xs, q, Nat.le_refl _⟩, fun i H v H' _ q y => ?_⟩
  obtain ⟨T, x, h1, h2, h3, h4⟩ := y
  exact ⟨T, .int (i : Nat), x, h1, h2, h3, rfl, h4 xs q⟩
end Nw

set_option Elab.async false
set_option linter.all false
set_option maxRecDepth 100000
set_option maxHeartbeats 1000000
namespace Nw
open PySem PySem.Spec PyProof.Rows L2
section
variable {W : Wo} {env env1 env2 : List Cell} {px : PX} {P : PR} {te to ti tl : TE} {ta : TA} {g : TG} {tt : TT} {tb : TS} {d : De} {ds es : List Nw.D} {x y : Nw.D} {σ : L2.St} {H0 H A0 A : Hp} {v w : V} {i j : Nat} {ci cj : Cell}
/-! ### pairs that an iterator yields -/
/-- at each turn below n a new pair of fx k, fy k -/
structure Pairs (m : Nat) (env1 : List Cell) (σ : L2.St) (A0 A : Hp) (J : It) (n : Nat) (fx fy : Nat → Nw.D) : Prop where
  goes : ∀ k {env2 σ2 H0' H'}, k < n → Go m env1 σ A0 A env2 σ2 H0' H' → Ok env2 σ2 H0' H' → J.go k H'
  stops : ∀ {env2 σ2 H0' H'}, Go m env1 σ A0 A env2 σ2 H0' H' → Ok env2 σ2 H0' H' → J.stop n H'
  yields : ∀ k v H'' {env2 σ2 H0' H'}, k < n → Go m env1 σ A0 A env2 σ2 H0' H' → Ok env2 σ2 H0' H' → J.yld k H' v H'' → ∃ T x y, v = .ref T ∧ H' T = none ∧ H'' = upd H' T (.tup [x, y]) ∧ Dd H0' x (fx k) ∧ Dd H0' y (fy k)
theorem Pairs.of {m n : Nat} {J : It} {G : Hp → Prop} {xs ys : Nat → Option V} {fx fy : Nat → Nw.D} (w : Walk J n G (YPair xs ys)) (hG : ∀ {env2 σ2 H0' H'}, Go m env1 σ A0 A env2 σ2 H0' H' → Ok env2 σ2 H0' H' → G H')
    (hd : ∀ k x y, k < n → xs k = some x → ys k = some y → Dd A0 x (fx k) ∧ Dd A0 y (fy k)) : Pairs m env1 σ A0 A J n fx fy := by
  refine ⟨fun k _ _ _ _ hk g o => w.goes k _ hk (hG g o), fun g o => w.stops _ (hG g o), fun k v H'' _ _ _ _ hk g o y => ?_⟩
  obtain ⟨T, a, b, h1, h2, h3, h4, h5⟩ := w.yields k _ v H'' hk (hG g o) y
  obtain ⟨q1, q2⟩ := hd k a b hk h4 h5
  exact ⟨T, a, b, h1, h2, h3, q1.mono g.k0, q2.mono g.k0⟩
/-- one turn of a comprehension with two targets -/
def LcTurn2 (W : Wo) (tt : TT) (te : TE) (i j : Nat) (ci cj : Cell) (I : List Nw.D → List Cell → Prop) (acc : List Nw.D) (x y : Nw.D) (env2 : List Cell) : Prop :=
  wpT W.inn tt ((env2.set i (.dat x)).set j (.dat y)) (fun b env3 => (b = true → wpE W.inn te env3 (fun r env4 => ∃ d, fz r = .dat d ∧ I (acc ++ [d]) ((env4.set j cj).set i ci)) PX0) ∧ (b = false → I acc ((env3.set j cj).set i ci))) PX0
theorem lc_pairs {J : It} {n : Nat} {fx fy : Nat → Nw.D} {l : Addr} {Q : VK} (S : Stp W.m env σ H0 H env1 A0 A) (R : Pairs W.m env1 σ A0 A J n fx fy) (hij : i ≠ j) (hn : n < 100000) (hl : A l = none) (I : Nat → List Nw.D → List Cell → Prop)
    (hI : ∀ k acc e, I k acc e → e[i]? = some ci ∧ e[j]? = some cj) (hci : ci.own = false) (hcj : cj.own = false) (i0 : I 0 [] env1)
    (hs : ∀ k acc env2, k < n → I k acc env2 → LcTurn2 W tt te i j ci cj (I (k + 1)) acc (fx k) (fy k) env2) (hdn : ∀ acc env2, I n acc env2 → acc.length ≤ n → P (.own (.lst acc)) env2)
    (q : ∀ v r env' H0' H', P r env' → Stp W.m env σ H0 H env' H0' H' → VAL H env' σ H0' H' v r → Q v H') :
    ∃ Z : Nat → Nat → Hp → Prop, (∃ m, Z 0 m (upd A l (.lst []))) ∧ ∀ k m H, Z k m H →
      (J.stop k H ∧ Q (.ref l) H) ∨ (J.go k H ∧ ∃ Nx : Hp → Prop, (∀ H', Nx H' → ∃ m', m' < m ∧ Z (k + 1) m' H') ∧ ∀ x H', J.yld k H x H' → gTup W.K 2 (gCons (gName i) (gCons (gName j) gNil)) x (wipe σ [i, j]) H' fun σ2 H2 => wipe σ2 [i, j] = wipe σ [i, j] ∧ tt σ2 H2 fun b H3 =>
        if b = true then te σ2 H3 fun y H4 => ∃ acc, H4 l = some (.lst acc) ∧ acc.length < sizeLine ∧ Nx (upd H4 l (.lst (acc ++ [y]))) else Nx H3) := by
  have nown : ∀ {env5 : List Cell} {B0 B5 : Hp}, Stp W.m env1 σ A0 A env5 B0 B5 → ¬ Owned env5 σ l := fun S5 ⟨k, z⟩ => (S.ok.owned ⟨k, (S5.iff k l).mpr z⟩).2 hl
  refine ⟨fun k m H => m = n - k ∧ k ≤ n ∧ LcSt W.m env1 σ A0 A l (I k) k H, ⟨n, by simp, Nat.zero_le _, lc_start S.ok hl i0⟩, ?_⟩
  rintro k _ H1 ⟨rfl, hk, p⟩
  by_cases hlt : k < n
  · refine .inr ⟨?_, LcSt W.m env1 σ A0 A l (I (k + 1)) (k + 1), fun H' p' => ⟨n - (k + 1), by omega, rfl, hlt, p'⟩, fun v H'' y => ?_⟩
    · obtain ⟨acc, env2, H0', vs, pi, ha, S2, h1, h2, h3⟩ := p
      exact R.goes k hlt S2.go S2.ok
    obtain ⟨acc, env2, H0', vs, pi, ha, S2, h1, h2, h3⟩ := p
    obtain ⟨T, a, b, rfl, hT, rfl, da, db⟩ := R.yields k v H'' hlt S2.go S2.ok y
    have S3 : Stp W.m env2 σ H0' H1 env2 (upd H0' T (.tup [a, b])) (upd H1 T (.tup [a, b])) := .laid S2.ok hT
    have da := da.mono S3.go.k0
    have db := db.mono S3.go.k0
    have h2 := h2.mono S3.go.k0
    have hTl : l ≠ T := fun z => by rw [z, hT] at h1; cases h1
    have h1 : (upd H1 T (.tup [a, b])) l = some (.lst vs) := by rw [upd_ne hTl]; exact h1
    have h3 : (upd H0' T (.tup [a, b])) l = none := by rw [upd_ne hTl]; exact h3
    obtain ⟨hi, hj⟩ := hI k acc env2 pi
    have S2' := S2.trans S3
    have hj' : (env2.set i (.dat (fx k)))[j]? = some cj := by rw [List.getElem?_set_ne hij]; exact hj
    obtain ⟨O1, ow1⟩ := S3.ok.inner hi hci da
    obtain ⟨O2, ow2⟩ := O1.inner hj' hcj db
    have es : ((wipe σ [i, j]).set i (some a)).set j (some b) = (σ.set i (some a)).set j (some b) := by
      show (((σ.set j none).set i none).set i (some a)).set j (some b) = (σ.set i (some a)).set j (some b)
      rw [List.set_set, List.set_comm _ _ hij, List.set_set, List.set_comm _ _ (Ne.symm hij)]
    refine ⟨T, [a, b], rfl, SqT.of (by rw [upd_same]), rfl, a, [b], rfl, b, [], rfl, rfl, ?_, ?_⟩
    · rw [es]
      show (((σ.set i (some a)).set j (some b)).set j none).set i none = (σ.set j none).set i none
      rw [List.set_set, List.set_comm _ _ hij, List.set_set]
    rw [es]
    have nin : ¬ Owned ((env2.set i (.dat (fx k))).set j (.dat (fy k))) ((σ.set i (some a)).set j (some b)) l := fun ⟨z, e⟩ => nown S2' ⟨z, (ow1 z l).mp ((ow2 z l).mp e)⟩
    have al : (upd H1 T (.tup [a, b])) l ≠ none := fun z => by rw [h1] at z; cases z
    refine hs k acc env2 hlt pi _ _ _ O2 .none _ fun b' env3 B0 B5 ⟨q1, q2⟩ S4 => ?_
    have So : ∀ {env5 C0 C}, Stp W.inn.m ((env2.set i (.dat (fx k))).set j (.dat (fy k))) ((σ.set i (some a)).set j (some b)) (upd H0' T (.tup [a, b])) (upd H1 T (.tup [a, b])) env5 C0 C → Stp W.m env1 σ A0 A ((env5.set j cj).set i ci) C0 C := fun S5 =>
      S2'.trans ((S5.outer (m := 0) O1 hj' hcj db).outer S3.ok hi hci da)
    cases b' with
    | false =>
      show LcSt W.m env1 σ A0 A l (I (k + 1)) (k + 1) B5
      exact ⟨acc, _, B0, vs, q2 rfl, by omega, So S4, S4.go.keep l _ h1 nin, h2.mono S4.go.k0, (S4.go.old l al nin).trans h3⟩
    | true =>
      show te ((σ.set i (some a)).set j (some b)) B5 fun y H4 => ∃ acc, H4 l = some (.lst acc) ∧ acc.length < sizeLine ∧ LcSt W.m env1 σ A0 A l (I (k + 1)) (k + 1) (upd H4 l (.lst (acc ++ [y])))
      refine (wpE.fz (P := fun r env4 => ∃ d, r = .dat d ∧ I (k + 1) (acc ++ [d]) ((env4.set j cj).set i ci)) (q1 rfl)) _ B0 B5 S4.ok .none _ fun y r env4 C0 C ⟨d, er, pd⟩ S5 w => ?_
      subst er
      have Si := S4.trans S5
      have hC : C l = some (.lst vs) := Si.go.keep l _ h1 nin
      have h0 : C0 l = none := (Si.go.old l al nin).trans h3
      refine ⟨vs, hC, ?_, acc ++ [d], _, C0, vs ++ [y], pd, ?_, (So Si).tmpset hl h0 (nown (So Si)), upd_same, (h2.mono Si.go.k0).app (.cons w .nil), h0⟩
      · rw [h2.len]
        exact Nat.lt_of_le_of_lt ha (Nat.lt_of_lt_of_le (show k < 100000 by omega) (by decide))
      · rw [List.length_append]
        show acc.length + 1 ≤ k + 1
        omega
  · have e : k = n := by omega
    subst e
    obtain ⟨acc, env2, H0', vs, pi, ha, S2, h1, h2, h3⟩ := id p
    exact .inl ⟨R.stops S2.go S2.ok, lc_end S.ok S hl p hdn q⟩
def dAt (ds : List Nw.D) (k : Nat) : Nw.D := ds.getD k .non
theorem dAt_get {k : Nat} (h : ds[k]? = some x) : dAt ds k = x := by
  unfold dAt
  rw [List.getD_eq_getElem?_getD, h]
  rfl
theorem pairs_enum {m : Nat} {r : Res} (O : Ok env1 σ A0 A) (hr : r = .dat (.tup ds) ∨ r = .dat (.lst ds)) (hv : VAL H env1 σ A0 A v r) : ∃ a xs, v = .ref a ∧ ((SqL W.K A a xs ∧ Pairs m env1 σ A0 A (Ite W.K a) ds.length (fun k => .int (k : Nat)) (dAt ds)) ∨ (SqT W.K A a xs ∧ Pairs m env1 σ A0 A (IteT W.K a) ds.length (fun k => .int (k : Nat)) (dAt ds))) := by
  have hd : ∀ {xs : List V}, DdAll A0 xs ds → ∀ k x y, k < ds.length → (fun i : Nat => some (V.int (i : Nat))) k = some x → (fun i => xs[i]?) k = some y → Dd A0 x (.int (k : Nat)) ∧ Dd A0 y (dAt ds k) := fun hq k x y hk hx hy => by
    cases hx
    obtain ⟨z, z1, z2⟩ := hq.get hy
    rw [dAt_get z1]
    exact ⟨.int _, z2⟩
  rcases hr with rfl | rfl
  · obtain ⟨a, xs, rfl, q1, q2⟩ := Dd.tup_inv hv
    refine ⟨a, xs, rfl, .inr ⟨SqT.of (O.same _ _ q1), ?_⟩⟩
    rw [← q2.len]
    exact .of walk_enumT (fun g o => SqT.of (o.same _ _ (g.k0 _ _ q1))) (by rw [q2.len]; exact hd q2)
  · obtain ⟨a, xs, rfl, q1, q2⟩ := Dd.lst_inv hv
    refine ⟨a, xs, rfl, .inl ⟨SqL.of (O.same _ _ q1), ?_⟩⟩
    rw [← q2.len]
    exact .of walk_enum (fun g o => SqL.of (o.same _ _ (g.k0 _ _ q1))) (by rw [q2.len]; exact hd q2)
/-- [.. for i, x in enumerate(row)] -/
theorem wp_lcE (hij : i ≠ j) (h : wpA W ta env (fun rs env1 => ∃ (ds : List Nw.D) (ci cj : Cell) (I : Nat → List Nw.D → List Cell → Prop), (rs = [.dat (.tup ds)] ∨ rs = [.dat (.lst ds)]) ∧ ds.length < 100000 ∧ ci.own = false ∧ cj.own = false ∧
      (∀ k acc e, I k acc e → e[i]? = some ci ∧ e[j]? = some cj) ∧ I 0 [] env1 ∧ (∀ (k : Nat) x acc env2, ds[k]? = some x → I k acc env2 → LcTurn2 W tt te i j ci cj (I (k + 1)) acc (.int (k : Nat)) x env2) ∧
      (∀ acc env2, I ds.length acc env2 → acc.length ≤ ds.length → P (.own (.lst acc)) env2)) px) :
    wpE W (tLc (iEnumA W.K ta) (gTup W.K 2 (gCons (gName i) (gCons (gName j) gNil))) tt te [i, j]) env P px := fun σ H0 H O X Q q =>
  h σ H0 H O X _ fun vs rs env1 A0 A ⟨ds, ci, cj, I, er, l1, hci, hcj, hI, i0, hs, hd⟩ S w => by
    have hs' : ∀ k acc env2, k < ds.length → I k acc env2 → LcTurn2 W tt te i j ci cj (I (k + 1)) acc (.int (k : Nat)) (dAt ds k) env2 := fun k acc env2 hk pi => by
      rw [dAt_get (List.getElem?_eq_getElem hk)]
      exact hs k _ acc env2 (List.getElem?_eq_getElem hk) pi
    have fin : ∀ v r, VAL H env1 σ A0 A v r → (r = .dat (.tup ds) ∨ r = .dat (.lst ds)) → vs = [v] → iEnumA W.K (fun _ H Q => Q vs H) σ A fun J H1 => ∀ D, H1 D = none → ∃ W' : Nat → Nat → Hp → Prop, (∃ m, W' 0 m (upd H1 D (.lst []))) ∧ ∀ k m H, W' k m H →
        (J.stop k H ∧ Q (.ref D) H) ∨ (J.go k H ∧ ∃ Nx : Hp → Prop, (∀ H', Nx H' → ∃ m', m' < m ∧ W' (k + 1) m' H') ∧ ∀ x H', J.yld k H x H' → gTup W.K 2 (gCons (gName i) (gCons (gName j) gNil)) x (wipe σ [i, j]) H' fun σ2 H2 => wipe σ2 [i, j] = wipe σ [i, j] ∧ tt σ2 H2 fun b H3 =>
          if b = true then te σ2 H3 fun y H4 => ∃ acc, H4 D = some (.lst acc) ∧ acc.length < sizeLine ∧ Nx (upd H4 D (.lst (acc ++ [y]))) else Nx H3) := fun v r hv hr ev => by
      subst ev
      obtain ⟨a, xs, rfl, z⟩ := pairs_enum (W := W) (m := W.m) S.ok hr hv
      refine ⟨a, xs, rfl, ?_⟩
      rcases z with ⟨z1, z2⟩ | ⟨z1, z2⟩
      · exact .inl ⟨z1, fun l hl => lc_pairs S z2 hij l1 hl I hI hci hcj i0 hs' hd q⟩
      · exact .inr ⟨z1, fun l hl => lc_pairs S z2 hij l1 hl I hI hci hcj i0 hs' hd q⟩
    rcases er with er | er
    · subst er
      obtain ⟨v, ev, hv⟩ := w.one
      exact fin v _ hv (.inl rfl) ev
    · subst er
      obtain ⟨v, ev, hv⟩ := w.one
      exact fin v _ hv (.inr rfl) ev
end
end Nw

set_option Elab.async false
set_option linter.all false
set_option maxRecDepth 100000
set_option maxHeartbeats 1000000
namespace Nw
open PySem PySem.Spec PyProof.Rows L2
theorem DdAll.strs {H : Hp} : ∀ {vs : List V} {ns : List Str}, DdAll H vs (ns.map D.str) → vs = ns.map V.str
  | _, [], h => by cases h; rfl
  | _, n :: ns, h => by
    cases h with
    | cons h1 h2 =>
      cases h1
      rw [DdAll.strs h2]
      rfl
theorem inV_bls (b : Bool) (bs : List Bool) : inV (.bl b) (bs.map V.bl) = bs.contains b := by
  unfold inV
  induction bs with
  | nil => rfl
  | cons n ns ih =>
    rw [List.map_cons, List.any_cons, ih, List.contains_cons]
    have e : eqV (V.bl n) (V.bl b) = (b == n) := by cases b <;> cases n <;> rfl
    rw [e]
theorem flat_bls (bs : List Bool) : (bs.map V.bl).all flatV = true := by
  induction bs with
  | nil => rfl
  | cons b bs ih => rw [List.map_cons, List.all_cons, ih]; rfl
theorem flat_ints (bs : List Int) : (bs.map V.int).all flatV = true := by
  induction bs with
  | nil => rfl
  | cons b bs ih => rw [List.map_cons, List.all_cons, ih]; rfl
section
variable {W : Wo} {env env1 env2 : List Cell} {px : PX} {P : PR} {te to ti tl : TE} {ta : TA} {g : TG} {tt : TT} {tb : TS} {d : De} {ds es : List Nw.D} {x y : Nw.D} {σ : L2.St} {H0 H A0 A : Hp} {v w : V} {i j : Nat} {ci cj : Cell} {r : Res}
theorem wo_inB {neg : Bool} {b : Bool} {bs : List Bool} (l : SeqR env r (bs.map D.bl)) (p : P (.dat (.bl (if neg then !bs.contains b else bs.contains b))) env) : wpO W (rIn W.K neg) (.dat (.bl b)) r env P px := fun σ B H0 H O _ _ v w hv hw Q q => by
  cases hv
  obtain ⟨a, vs, rfl, q2, q1⟩ := l.get O hw
  have e := q2.bls
  subst e
  refine ⟨a, _, rfl, ?_, rfl, flat_bls bs, ?_⟩
  · rcases q1 with q1 | q1
    · exact .inl (SqL.of q1)
    · exact .inr (SqT.of q1)
  · rw [inV_bls]
    exact q _ _ env H0 H p (.refl O) (.bl _)
theorem wo_inI {neg : Bool} {b : Int} {bs : List Int} (l : SeqR env r (bs.map D.int)) (p : P (.dat (.bl (if neg then !bs.contains b else bs.contains b))) env) : wpO W (rIn W.K neg) (.dat (.int b)) r env P px := fun σ B H0 H O _ _ v w hv hw Q q => by
  cases hv
  obtain ⟨a, vs, rfl, q2, q1⟩ := l.get O hw
  have e := q2.ints
  subst e
  refine ⟨a, _, rfl, ?_, rfl, flat_ints bs, ?_⟩
  · rcases q1 with q1 | q1
    · exact .inl (SqL.of q1)
    · exact .inr (SqT.of q1)
  · rw [inV_ints]
    exact q _ _ env H0 H p (.refl O) (.bl _)
theorem wc_str {i : Int} (hi : i.natAbs.log2 < 1920) (p : P (.dat (.str (toString i))) env) : wpC W (fun xs H Q => ∃ i : Int, xs = [.int i] ∧ i.natAbs.log2 < 1920 ∧ Q (.str (toString i)) H) [.dat (.int i)] env P px := fun σ B H0 H O _ _ vs hv Q q => by
  obtain ⟨v, rfl, hv1⟩ := hv.one
  cases hv1
  exact ⟨i, rfl, hi, q _ _ env H0 H p (.refl O) (.str _)⟩
/-- a text's method -/
theorem wp_bmS {f : V → List V → Hp → VK → Prop} (h : wpE W to env (fun x env1 => (∃ s, x = .dat (.str s)) ∧ wpA W ta env1 (fun rs env2 => wpM W f x rs env2 P px) px) px) : wpE W (tBM W.K "str" f to ta) env P px := fun σ H0 H O X Q q =>
  h σ H0 H O X _ fun v x env1 A0 A ⟨⟨s, l⟩, h1⟩ S w => by
    subst l
    have w' : Dd A0 v (.str s) := w
    cases w'
    refine ⟨rfl, h1 σ A0 A S.ok (X.go S.go) _ fun us rs env2 B0 B p S2 w2 => ?_⟩
    exact p σ H B0 B S2.ok (X.go (S.trans S2).go) (fun l z => S.back (S2.back z)) _ us (w.stp S2) (w2.base fun l z => S.back z) Q fun u r env' C0 C p3 S3 w3 => q u r env' C0 C p3 ((S.trans S2).trans S3) w3
theorem wm_join {a : Str} {ys : List Str} (l : SeqR env r (ys.map D.str)) (hz : (ys.map (·.length)).sum + ys.length * a.length ≤ 16777216) (p : P (.dat (.str (Txt.join a ys))) env) :
    wpM W (fun x xs H Q => ∃ a p, ∃ ys : List Str, x = .str a ∧ xs = [.ref p] ∧ (SqL W.K H p (ys.map V.str) ∨ SqT W.K H p (ys.map V.str)) ∧
    (ys.map (·.length)).sum + ys.length * a.length ≤ 16777216 ∧ Q (.str (Txt.join a ys)) H) (.dat (.str a)) [r] env P px := fun σ B H0 H O _ _ v vs hv hw Q q => by
  cases hv
  obtain ⟨w, rfl, hw1⟩ := hw.one
  obtain ⟨b, us, rfl, q2, q1⟩ := l.get O hw1
  have e := q2.strs
  subst e
  refine ⟨a, b, ys, rfl, rfl, ?_, hz, q _ _ env H0 H p (.refl O) (.str _)⟩
  rcases q1 with q1 | q1
  · exact .inl (SqL.of q1)
  · exact .inr (SqT.of q1)
end
/-! ### plain values -/
/-- a value of the law: plain, of few parts -/
def Pl (d : D) : Prop := d.pln = true ∧ ∀ ds, d = .tup ds → ds.length ≤ 1000
theorem D.pl_of_pln : ∀ {d : D}, d.pln = true → d.pl = true
  | .non, _ => rfl
  | .bl _, _ => rfl
  | .int _, _ => rfl
  | .str _, _ => rfl
  | .tup _, _ => rfl
  | .lst _, _ => rfl
  | .ins _ _, h => by simp [D.pln] at h
  | .ty _, h => by simp [D.pln] at h
  | .cls _, h => by simp [D.pln] at h
  | .exc _ _ _ _, h => by simp [D.pln] at h
theorem Pl.pl {d : D} (h : Pl d) : d.pl = true := D.pl_of_pln h.1
theorem pln_at {ds : List D} {x : D} {i : Nat} (h : D.plns ds = true) (e : ds[i]? = some x) : x.pln = true := by
  rw [D.plns_all, List.all_eq_true] at h
  exact h x (List.mem_of_getElem? e)
theorem plns_tup {ds : List D} (h : (D.tup ds).pln = true) : D.plns ds = true := by simpa [D.pln] using h
/-! ### words over letters -/
def D.isN (n : Int) : D → Bool
  | .int i => decide (0 ≤ i) && decide (i < n)
  | _ => false
/-- is_word -/
def isWordD (d : D) (n : Int) : Bool := match d with
  | .tup ds => ds.all (D.isN n)
  | _ => false
theorem isWordD_tw {w : List Int} {n : Int} (h : ∀ x ∈ w, 0 ≤ x ∧ x < n) : isWordD (tw w) n = true := by
  show (w.map D.int).all (D.isN n) = true
  rw [List.all_map, List.all_eq_true]
  intro x hx
  have := h x hx
  show (decide (0 ≤ x) && decide (x < n)) = true
  rw [decide_eq_true this.1, decide_eq_true this.2]
  rfl
/-- a word of letters is a tuple of whole numbers -/
theorem isN_ints {n : Int} : ∀ {ds : List D}, ds.all (D.isN n) = true → ∃ w : List Int, ds = w.map D.int ∧ ∀ x ∈ w, 0 ≤ x ∧ x < n
  | [], _ => ⟨[], rfl, fun x hx => by cases hx⟩
  | d :: ds, h => by
    rw [List.all_cons, Bool.and_eq_true] at h
    obtain ⟨w, rfl, hw⟩ := isN_ints h.2
    cases d with
    | int i =>
      have h1 : (decide (0 ≤ i) && decide (i < n)) = true := h.1
      rw [Bool.and_eq_true] at h1
      refine ⟨i :: w, rfl, fun x hx => ?_⟩
      rcases List.mem_cons.mp hx with rfl | hx
      · exact ⟨of_decide_eq_true h1.1, of_decide_eq_true h1.2⟩
      · exact hw x hx
    | _ => exact absurd h.1 (by intro z; cases z)
theorem isWordD_ints {d : D} {n : Int} (h : isWordD d n = true) : ∃ w : List Int, d = tw w ∧ ∀ x ∈ w, 0 ≤ x ∧ x < n := by
  cases d with
  | tup ds =>
    obtain ⟨w, rfl, hw⟩ := isN_ints h
    exact ⟨w, rfl, hw⟩
  | _ => exact absurd h (by intro z; cases z)
end Nw

set_option Elab.async false
set_option linter.all false
set_option maxRecDepth 100000
set_option maxHeartbeats 1000000
namespace Nw
open PySem PySem.Spec PyProof.Rows L2
/-! ### data that can be shown and held beside each other -/
mutual
/-- plain, of depth at most k, whole numbers of at most 30 digits -/
def D.okk (k : Nat) : D → Bool
  | .non => true | .bl _ => true
  | .int i => decide (i.natAbs < 10 ^ 30)
  | .str s => s.cps.all (· < 0x110000)
  | .tup ds => match k with | 0 => false | k + 1 => D.okks k ds
  | .lst ds => match k with | 0 => false | k + 1 => D.okks k ds
  | .ins _ _ => false | .ty _ => false | .cls _ => false | .exc _ _ _ _ => false
def D.okks (k : Nat) : List D → Bool
  | [] => true
  | d :: ds => D.okk k d && D.okks k ds
end
mutual
def D.wt : D → Nat
  | .int _ => 100
  | .str s => s.cps.size
  | .tup ds => D.wts ds
  | .lst ds => D.wts ds
  | _ => 0
def D.wts : List D → Nat
  | [] => 0
  | d :: ds => D.wt d + 1 + D.wts ds
end
mutual
theorem okk_pln : ∀ {k : Nat} (d : D), d.okk k = true → d.pln = true
  | _, .non, _ => by simp [D.pln]
  | _, .bl _, _ => by simp [D.pln]
  | _, .int _, _ => by simp [D.pln]
  | _, .str _, _ => by simp [D.pln]
  | 0, .tup ds, h => by simp [D.okk] at h
  | k + 1, .tup ds, h => by
    simp only [D.okk] at h
    simp only [D.pln]
    exact okks_plns ds h
  | 0, .lst ds, h => by simp [D.okk] at h
  | k + 1, .lst ds, h => by
    simp only [D.okk] at h
    simp only [D.pln]
    exact okks_plns ds h
  | _, .ins _ _, h => by simp [D.okk] at h
  | _, .ty _, h => by simp [D.okk] at h
  | _, .cls _, h => by simp [D.okk] at h
  | _, .exc _ _ _ _, h => by simp [D.okk] at h
theorem okks_plns : ∀ {k : Nat} (ds : List D), D.okks k ds = true → D.plns ds = true
  | _, [], _ => by simp [D.plns]
  | _, d :: ds, h => by
    simp only [D.okks, Bool.and_eq_true] at h
    simp only [D.plns, Bool.and_eq_true]
    exact ⟨okk_pln d h.1, okks_plns ds h.2⟩
end
theorem log_lt {i : Int} (h : i.natAbs < 10 ^ 30) : i.natAbs.log2 < 100 := by
  by_cases z : i.natAbs = 0
  · rw [z]; decide
  · rw [Nat.log2_lt z]
    exact Nat.lt_of_lt_of_le h (by decide)
mutual
theorem okk_py : ∀ {k : Nat} (d : D), d.okk k = true → d.py.canLay0 = true ∧ d.py.showable = true ∧ d.py.leavesShort 31 = true ∧ d.py.depth ≤ k ∧ d.py.weight ≤ d.wt
  | _, .non, _ => by simp [D.py, PyData.canLay0, PyData.showable, PyData.leavesShort, PyData.depth, PyData.weight]
  | _, .bl _, _ => by simp [D.py, PyData.canLay0, PyData.showable, PyData.leavesShort, PyData.depth, PyData.weight]
  | _, .int i, h => by
    simp only [D.okk, decide_eq_true_eq] at h
    have h1 := log_lt h
    have h2 := int_text_length_le10 (a := i) (k := 30) (by decide) h
    refine ⟨by simp [D.py, PyData.canLay0], ?_, ?_, by simp [D.py, PyData.depth], ?_⟩
    · simp only [D.py, PyData.showable, decide_eq_true_eq]; omega
    · simp only [D.py, PyData.leavesShort, PyData.shown]
      refine decide_eq_true ?_
      show (Str.ofString (toString i)).length ≤ 31
      rw [PySem.ofString_length]
      omega
    · simp only [D.py, PyData.weight, D.wt]
      split <;> omega
  | _, .str s, h => by
    simp only [D.okk] at h
    have c : (PyData.str s).canLay0 = true := by
      simp only [PyData.canLay0]
      exact h
    have z := PyData.leavesShort_of_canLay0 31 (.str s) c (by simp [PyData.intsShort])
    simp only [D.py, D.wt]
    exact ⟨c, by simp [PyData.showable], z, by simp [PyData.depth], by simp [PyData.weight]⟩
  | 0, .tup ds, h => by simp [D.okk] at h
  | k + 1, .tup ds, h => by
    simp only [D.okk] at h
    obtain ⟨h1, h2, h3, h4, h5⟩ := okks_py ds h
    simp only [D.py, PyData.canLay0, PyData.showable, PyData.leavesShort, PyData.depth, PyData.weight, D.wt]
    exact ⟨h1, h2, h3, by omega, h5⟩
  | 0, .lst ds, h => by simp [D.okk] at h
  | k + 1, .lst ds, h => by
    simp only [D.okk] at h
    obtain ⟨h1, h2, h3, h4, h5⟩ := okks_py ds h
    simp only [D.py, PyData.canLay0, PyData.showable, PyData.leavesShort, PyData.depth, PyData.weight, D.wt]
    exact ⟨h1, h2, h3, by omega, h5⟩
  | _, .ins _ _, h => by simp [D.okk] at h
  | _, .ty _, h => by simp [D.okk] at h
  | _, .cls _, h => by simp [D.okk] at h
  | _, .exc _ _ _ _, h => by simp [D.okk] at h
theorem okks_py : ∀ {k : Nat} (ds : List D), D.okks k ds = true → PyData.canLayAll0 (D.pys ds) = true ∧ PyData.showableAll (D.pys ds) = true ∧ PyData.leavesShortAll 31 (D.pys ds) = true ∧ PyData.depthAll (D.pys ds) ≤ k ∧ PyData.weightAll (D.pys ds) ≤ D.wts ds
  | _, [], _ => by simp [D.pys, PyData.canLayAll0, PyData.showableAll, PyData.leavesShortAll, PyData.depthAll, PyData.weightAll]
  | k, d :: ds, h => by
    simp only [D.okks, Bool.and_eq_true] at h
    obtain ⟨a1, a2, a3, a4, a5⟩ := okk_py d h.1
    obtain ⟨h1, h2, h3, h4, h5⟩ := okks_py ds h.2
    simp only [D.pys, PyData.canLayAll0, PyData.showableAll, PyData.leavesShortAll, PyData.depthAll, PyData.weightAll, D.wts, Bool.and_eq_true]
    exact ⟨⟨a1, h1⟩, ⟨a2, h2⟩, ⟨a3, h3⟩, by omega, by omega⟩
end
/-- good data -/
def Gd (d : D) : Prop := d.okk 20 = true ∧ d.wt ≤ 400000
theorem Gd.pln {d : D} (h : Gd d) : d.pln = true := okk_pln d h.1
theorem Gd.pl {d : D} (h : Gd d) : d.pl = true := D.pl_of_pln h.pln
theorem Gd.shaped {d : D} (h : Gd d) : SeqAt.shaped d.py = true := by
  obtain ⟨h1, h2, h3, h4, h5⟩ := okk_py d h.1
  unfold SeqAt.shaped
  rw [h1, decide_eq_true (by omega)]
  rfl
theorem Gd.showable {d : D} (h : Gd d) : d.py.showable = true := (okk_py d h.1).2.1
theorem Gd.depth {d : D} (h : Gd d) : d.py.depth ≤ 60 := Nat.le_trans (okk_py d h.1).2.2.2.1 (by decide)
theorem Gd.short {d : D} (h : Gd d) : d.py.shown.length ≤ sizeLine := by
  obtain ⟨h1, h2, h3, h4, h5⟩ := okk_py d h.1
  have q := PyData.shown_le 31 (by decide) _ h3
  have h6 := h.2
  have e : sizeLine = 16777216 := by decide
  rw [e]
  have : (31 + 2) * d.py.weight ≤ 33 * 400000 := Nat.mul_le_mul (by decide) (by omega)
  omega
theorem wts_len : ∀ ds : List D, ds.length ≤ D.wts ds
  | [] => by simp
  | d :: ds => by
    have := wts_len ds
    simp only [List.length_cons, D.wts]
    omega
theorem Gd.len {ds : List D} (h : Gd (.tup ds)) : ds.length ≤ 400000 := by
  have := h.2
  simp only [D.wt] at this
  exact Nat.le_trans (wts_len ds) this
theorem okks_ints : ∀ {w : List Int}, (∀ x ∈ w, x.natAbs < 10 ^ 30) → D.okks 19 (w.map D.int) = true
  | [], _ => by simp [D.okks]
  | x :: w, h => by
    simp only [List.map_cons, D.okks, D.okk, Bool.and_eq_true, decide_eq_true_eq]
    exact ⟨h x (List.mem_cons_self ..), okks_ints fun y hy => h y (List.mem_cons_of_mem _ hy)⟩
theorem wts_ints : ∀ w : List Int, D.wts (w.map D.int) = 101 * w.length
  | [] => by simp [D.wts]
  | x :: w => by
    simp only [List.map_cons, D.wts, D.wt, wts_ints w, List.length_cons]
    omega
theorem Gd.word {w : List Int} (hl : w.length ≤ 3900) (h : ∀ x ∈ w, x.natAbs < 10 ^ 30) : Gd (tw w) := by
  refine ⟨?_, ?_⟩
  · show D.okk 20 (.tup (w.map D.int)) = true
    simp only [D.okk]
    exact okks_ints h
  · show D.wt (.tup (w.map D.int)) ≤ 400000
    simp only [D.wt, wts_ints]
    omega
theorem small30 {n : Int} (hn : n ≤ 1000000) {x : Int} (h : 0 ≤ x ∧ x < n) : x.natAbs < 10 ^ 30 := Nat.lt_of_lt_of_le (show x.natAbs < 1000000 by omega) (by decide)
section
variable {W : Wo} {env : List Cell} {P : PR} {px : PX} {d e : D}
theorem wc_reprG (h : Gd d) (p : P (.dat (.str d.py.shown)) env) : wpC W (rReprD W.K) [.dat d] env P px := wc_repr h.pln h.showable h.depth h.short p
theorem wo_eqG (hd : Gd d) (he : Gd e) (p : P (.dat (.bl (PyData.eqv d.py e.py))) env) : wpO W (rEqD W.K) (.dat d) (.dat e) env P px := wo_eqD hd.pln he.pln hd.shaped he.shaped p
theorem wo_neG (hd : Gd d) (he : Gd e) (p : P (.dat (.bl (!PyData.eqv d.py e.py))) env) : wpO W (rNeD W.K) (.dat d) (.dat e) env P px := wo_neD hd.pln he.pln hd.shaped he.shaped p
/-- two texts -/
theorem wo_eqS {s t : Str} (p : P (.dat (.bl (decide (s = t)))) env) : wpO W rEq (.dat (.str s)) (.dat (.str t)) env P px := wo_eq rfl rfl rfl (by
  have e : decide (V.str s = V.str t) = decide (s = t) := by
    by_cases h : s = t
    · rw [decide_eq_true h, h, decide_eq_true rfl]
    · rw [decide_eq_false h, decide_eq_false fun e => h (V.str.inj e)]
  rw [e]
  exact p)
theorem wo_neS {s t : Str} (p : P (.dat (.bl (!decide (s = t)))) env) : wpO W rNe (.dat (.str s)) (.dat (.str t)) env P px := wo_ne rfl rfl rfl (by
  have e : decide (V.str s = V.str t) = decide (s = t) := by
    by_cases h : s = t
    · rw [decide_eq_true h, h, decide_eq_true rfl]
    · rw [decide_eq_false h, decide_eq_false fun e => h (V.str.inj e)]
  rw [e]
  exact p)
end
end Nw

set_option Elab.async false
set_option linter.all false
set_option maxRecDepth 100000
set_option maxHeartbeats 1000000
namespace Nw
open PySem PySem.Spec PyProof.Rows L2
/-! ### undos and words: the plain law -/
structure Undo (u : List Int) : Prop where
  pos : 1 ≤ u.length
  rng : ∀ (k : Nat) (x : Int), u[k]? = some x → 0 ≤ x ∧ x < u.length
  inv : ∀ (k : Nat) (x : Int), u[k]? = some x → u[x.toNat]? = some (k : Int)
/-- the undo of one letter -/
def un (u : List Int) (x : Int) : Int := u.getD x.toNat 0
theorem un_get {u : List Int} {k : Nat} {x : Int} (h : u[k]? = some x) : un u k = x := by
  unfold un
  rw [Int.toNat_natCast, List.getD_eq_getElem?_getD, h]
  rfl
theorem un_at {u : List Int} {x : Int} (h0 : 0 ≤ x) (h1 : x < u.length) : u[x.toNat]? = some (un u x) := by
  have hk : x.toNat < u.length := by omega
  unfold un
  rw [List.getD_eq_getElem?_getD, List.getElem?_eq_getElem hk]
  rfl
theorem un_atI {u : List Int} {x : Int} (h0 : 0 ≤ x) (h1 : x < u.length) : atI (u.map D.int) x = some (.int (un u x)) := by
  have e : x = ((x.toNat : Nat) : Int) := by omega
  rw [e]
  refine atI_nat ?_
  rw [List.getElem?_map, un_at h0 h1]
  rw [← e]
  rfl
theorem Undo.un_rng {u : List Int} (U : Undo u) {x : Int} (h0 : 0 ≤ x) (h1 : x < u.length) : 0 ≤ un u x ∧ un u x < u.length := U.rng _ _ (un_at h0 h1)
theorem Undo.un_un {u : List Int} (U : Undo u) {x : Int} (h0 : 0 ≤ x) (h1 : x < u.length) : un u (un u x) = x := by
  have h := U.inv _ _ (un_at h0 h1)
  obtain ⟨a, b⟩ := U.un_rng h0 h1
  have h2 := un_at a b
  rw [h] at h2
  have := Option.some.inj h2
  omega
theorem Undo.id {n : Nat} (h : 1 ≤ n) : Undo ((List.range n).map fun (k : Nat) => (k : Int)) := by
  have at_ : ∀ {k : Nat} {x : Int}, ((List.range n).map fun (k : Nat) => (k : Int))[k]? = some x → k < n ∧ x = k := fun {k x} e => by
    rw [List.getElem?_map] at e
    cases q : (List.range n)[k]? with
    | none => rw [q] at e; cases e
    | some z =>
      rw [q] at e
      have hk : k < n := by
        have := (List.getElem?_eq_some_iff.mp q).1
        simpa using this
      rw [List.getElem?_range hk] at q
      cases q
      exact ⟨hk, (Option.some.inj e).symm⟩
  refine ⟨by simpa using h, fun k x e => ?_, fun k x e => ?_⟩
  · obtain ⟨a, rfl⟩ := at_ e
    simp
    omega
  · obtain ⟨a, rfl⟩ := at_ e
    rw [Int.toNat_natCast]
    exact e
theorem Undo.pair {u : List Int} (U : Undo u) {a b : Nat} (ha : u[a]? = some (a : Int)) (hb : u[b]? = some (b : Int)) : Undo ((u.set a (b : Int)).set b (a : Int)) := by
  have la := (List.getElem?_eq_some_iff.mp ha).1
  have lb := (List.getElem?_eq_some_iff.mp hb).1
  have len : ((u.set a (b : Int)).set b (a : Int)).length = u.length := by rw [List.length_set, List.length_set]
  have gb : ((u.set a (b : Int)).set b (a : Int))[b]? = some (a : Int) := List.getElem?_set_self (by rw [List.length_set]; exact lb)
  have ga : a ≠ b → ((u.set a (b : Int)).set b (a : Int))[a]? = some (b : Int) := fun n => by rw [List.getElem?_set_ne (Ne.symm n), List.getElem?_set_self la]
  have go : ∀ k, k ≠ a → k ≠ b → ((u.set a (b : Int)).set b (a : Int))[k]? = u[k]? := fun k n1 n2 => by rw [List.getElem?_set_ne (Ne.symm n2), List.getElem?_set_ne (Ne.symm n1)]
  have cases_ : ∀ (k : Nat) (x : Int), ((u.set a (b : Int)).set b (a : Int))[k]? = some x → (k = b ∧ x = a) ∨ (k = a ∧ a ≠ b ∧ x = b) ∨ (k ≠ a ∧ k ≠ b ∧ u[k]? = some x) := fun k x e => by
    by_cases h1 : k = b
    · subst h1
      rw [gb] at e
      exact .inl ⟨rfl, (Option.some.inj e).symm⟩
    · by_cases h2 : k = a
      · subst h2
        rw [ga h1] at e
        exact .inr (.inl ⟨rfl, h1, (Option.some.inj e).symm⟩)
      · rw [go k h2 h1] at e
        exact .inr (.inr ⟨h2, h1, e⟩)
  refine ⟨by rw [len]; exact U.pos, fun k x e => ?_, fun k x e => ?_⟩
  · rw [len]
    rcases cases_ k x e with ⟨_, rfl⟩ | ⟨_, _, rfl⟩ | ⟨_, _, h⟩
    · omega
    · omega
    · exact U.rng k x h
  · rcases cases_ k x e with ⟨rfl, rfl⟩ | ⟨rfl, n, rfl⟩ | ⟨n1, n2, h⟩
    · rw [Int.toNat_natCast]
      by_cases z : a = k
      · subst z
        exact gb
      · exact ga z
    · rw [Int.toNat_natCast]
      exact gb
    · obtain ⟨r0, r1⟩ := U.rng k x h
      have i := U.inv k x h
      rw [go _ (fun z => ?_) (fun z => ?_)]
      · exact i
      · rw [z, ha] at i
        exact n1 (by have := Option.some.inj i; omega)
      · rw [z, hb] at i
        exact n2 (by have := Option.some.inj i; omega)
/-- undone -/
def backW (u w : List Int) : List Int := w.reverse.map (un u)
theorem backW_len (u w : List Int) : (backW u w).length = w.length := by
  unfold backW
  rw [List.length_map, List.length_reverse]
theorem backW_rng {u w : List Int} (U : Undo u) (h : ∀ x ∈ w, 0 ≤ x ∧ x < u.length) : ∀ x ∈ backW u w, 0 ≤ x ∧ x < u.length := fun x hx => by
  obtain ⟨y, hy, rfl⟩ := List.mem_map.mp hx
  have := h y (List.mem_reverse.mp hy)
  exact U.un_rng this.1 this.2
theorem backW_back {u w : List Int} (U : Undo u) (h : ∀ x ∈ w, 0 ≤ x ∧ x < u.length) : backW u (backW u w) = w := by
  unfold backW
  rw [← List.map_reverse, List.reverse_reverse, List.map_map]
  conv => rhs; rw [← List.map_id w]
  refine List.map_congr_left fun x hx => ?_
  exact U.un_un (h x hx).1 (h x hx).2
theorem backW_at {u w : List Int} {i : Nat} {x : Int} (h : w[w.length - 1 - i]? = some x) (hi : i < w.length) : (backW u w)[i]? = some (un u x) := by
  unfold backW
  rw [List.getElem?_map, List.getElem?_reverse hi, h]
  rfl
/-- one step of taking out -/
def redStep (u left : List Int) (x : Int) : List Int := match left.getLast? with
  | some y => if un u y = x then left.dropLast else left ++ [x]
  | none => [x]
def freeW (u w : List Int) : List Int := w.foldl (redStep u) []
theorem redStep_nil (u : List Int) (x : Int) : redStep u [] x = [x] := rfl
theorem redStep_snoc (u l : List Int) (y x : Int) : redStep u (l ++ [y]) x = if un u y = x then l else l ++ [y] ++ [x] := by
  unfold redStep
  rw [List.getLast?_append]
  show (if un u y = x then (l ++ [y]).dropLast else l ++ [y] ++ [x]) = _
  rw [List.dropLast_concat]
theorem snoc_of {α : Type} : ∀ {l : List α}, l ≠ [] → ∃ m y, l = m ++ [y] := fun {l} h => ⟨l.dropLast, l.getLast h, (List.dropLast_concat_getLast h).symm⟩
theorem redStep_mem {u left : List Int} {x z : Int} (h : z ∈ redStep u left x) : z ∈ left ∨ z = x := by
  by_cases e : left = []
  · subst e
    exact .inr (List.mem_singleton.mp h)
  · obtain ⟨m, y, rfl⟩ := snoc_of e
    rw [redStep_snoc] at h
    split at h
    · exact .inl (List.mem_append_left _ h)
    · rcases List.mem_append.mp h with h | h
      · exact .inl h
      · exact .inr (List.mem_singleton.mp h)
theorem redStep_len (u left : List Int) (x : Int) : (redStep u left x).length ≤ left.length + 1 := by
  by_cases e : left = []
  · subst e
    exact Nat.le_refl _
  · obtain ⟨m, y, rfl⟩ := snoc_of e
    rw [redStep_snoc]
    split
    · rw [List.length_append]; omega
    · rw [List.length_append]; exact Nat.le_refl _
theorem atI_last (m : List Int) (y : Int) : atI ((m ++ [y]).map D.int) (-1) = some (.int y) := by
  unfold atI
  have e : ixN ((m ++ [y]).map D.int).length (-1) = some m.length := by
    unfold ixN
    rw [List.length_map, List.length_append]
    simp
    omega
  rw [e]
  simp
theorem freeW_take {u w : List Int} {i : Nat} {x : Int} (h : w[i]? = some x) : freeW u (w.take (i + 1)) = redStep u (freeW u (w.take i)) x := by
  unfold freeW
  rw [List.take_add_one, h, List.foldl_append]
  rfl
theorem freeW_mem {u w : List Int} {P : Int → Prop} (h : ∀ x ∈ w, P x) : ∀ x ∈ freeW u w, P x := by
  have key : ∀ (w left : List Int), (∀ x ∈ w, P x) → (∀ x ∈ left, P x) → ∀ x ∈ w.foldl (redStep u) left, P x := by
    intro w
    induction w with
    | nil => exact fun left _ h => h
    | cons a w ih =>
      intro left h1 h2
      refine ih _ (fun x hx => h1 x (List.mem_cons_of_mem _ hx)) fun x hx => ?_
      rcases redStep_mem hx with q | rfl
      · exact h2 x q
      · exact h1 _ (List.mem_cons_self ..)
  exact key w [] h fun x hx => by cases hx
theorem freeW_len (u w : List Int) : (freeW u w).length ≤ w.length := by
  have key : ∀ (w left : List Int), (w.foldl (redStep u) left).length ≤ left.length + w.length := by
    intro w
    induction w with
    | nil => exact fun left => Nat.le_refl _
    | cons a w ih =>
      intro left
      have h1 := ih (redStep u left a)
      have h2 := redStep_len u left a
      show (w.foldl (redStep u) (redStep u left a)).length ≤ left.length + (w.length + 1)
      omega
  have := key w []
  rw [List.length_nil, Nat.zero_add] at this
  exact this
/-! ### is_undo -/
def D.toI : D → Int | .int i => i | _ => 0
def invAt (ds : List D) (k : Nat) : Bool := decide ((dAt ds ((dAt ds k).toI.toNat)).toI = (k : Int))
def invD (ds : List D) : Bool := (List.range ds.length).all (invAt ds)
def isUndoD (d : D) : Bool := match d with
  | .tup ds => decide (1 ≤ ds.length) && decide (ds.length ≤ 6) && ds.all (D.isN ds.length) && invD ds
  | _ => false
theorem dAt_ints {w : List Int} {k : Nat} {x : Int} (h : w[k]? = some x) : dAt (w.map D.int) k = .int x := dAt_get (by rw [List.getElem?_map, h]; rfl)
theorem invAt_ints {w : List Int} (hw : ∀ x ∈ w, 0 ≤ x ∧ x < (w.length : Int)) {k : Nat} {x : Int} (h : w[k]? = some x) : invAt (w.map D.int) k = decide (un w x = (k : Int)) := by
  have hx := hw x (List.mem_of_getElem? h)
  unfold invAt
  rw [dAt_ints h]
  show decide ((dAt (w.map D.int) x.toNat).toI = (k : Int)) = _
  rw [dAt_ints (un_at hx.1 hx.2)]
  rfl
theorem Undo.isUndo {u : List Int} (U : Undo u) (h : u.length ≤ 6) : isUndoD (tw u) = true := by
  have hw : ∀ x ∈ u, 0 ≤ x ∧ x < (u.length : Int) := fun x hx => by
    obtain ⟨k, hk⟩ := List.getElem?_of_mem hx
    exact U.rng k x hk
  have h1 := isWordD_tw (w := u) (n := u.length) hw
  show (decide (1 ≤ (u.map D.int).length) && decide ((u.map D.int).length ≤ 6) && (u.map D.int).all (D.isN (u.map D.int).length) && invD (u.map D.int)) = true
  rw [List.length_map, decide_eq_true U.pos, decide_eq_true h]
  have h2 : (u.map D.int).all (D.isN u.length) = true := h1
  rw [h2]
  show invD (u.map D.int) = true
  unfold invD
  rw [List.all_eq_true]
  intro k hk
  rw [List.length_map] at hk
  have hk := List.mem_range.mp hk
  rw [invAt_ints hw (List.getElem?_eq_getElem hk)]
  have := U.inv k _ (List.getElem?_eq_getElem hk)
  have hr := U.rng k _ (List.getElem?_eq_getElem hk)
  have := un_at hr.1 hr.2
  rw [U.inv k _ (List.getElem?_eq_getElem hk)] at this
  exact decide_eq_true (Option.some.inj this).symm
end Nw

set_option Elab.async false
set_option linter.all false
set_option maxRecDepth 100000
set_option maxHeartbeats 1000000
namespace Nw
open PySem PySem.Spec PyProof.Rows L2
/-! ### a statement that is never reached -/
def tNo : TS := fun _ _ _ => False
theorem ps_no {X : Cx} {st : Stmt} : PS X st tNo := ⟨fun pins s σ H D I h => h.elim⟩
theorem ws_no {W : Wo} {env : List Cell} {d : De} {px : PX} (h : False) : wpS W tNo env d px := h.elim
theorem pe_globI {X : Cx} {x : Str} {i : Int} {p : Pos} (hg : Gl X x) (h : ∃ t, X.mg x = some (.int i t)) (hdb : (x == ("__debug__" : Str)) = false := by decide) : PE X (.Name x p) (tC (.int i)) := by
  obtain ⟨t, e⟩ := h
  exact pe_glob (v := .int i) hg e ⟨t, rfl⟩ hdb
theorem all_not {α : Type} (f : α → Bool) : ∀ ds : List α, ds.all f = !((ds.map f).contains false)
  | [] => rfl
  | a :: as => by
    rw [List.all_cons, List.map_cons, List.contains_cons, all_not f as]
    cases f a <;> simp
theorem atI_mem {ds : List D} {r : Int} (h0 : 0 ≤ r) (h1 : r < (ds.length : Int)) : ∃ d, atI ds r = some d ∧ d ∈ ds := by
  obtain ⟨k, rfl⟩ : ∃ k : Nat, r = k := ⟨r.toNat, by omega⟩
  have hk : k < ds.length := by omega
  exact ⟨ds[k], atI_nat (List.getElem?_eq_getElem hk), List.getElem_mem hk⟩
def gdB (d : D) : Bool := d.okk 18 && decide (d.wt ≤ 1000)
theorem gd_of18 {d : D} (h : gdB d = true) : d.okk 18 = true ∧ d.wt ≤ 1000 := by
  unfold gdB at h
  rw [Bool.and_eq_true] at h
  exact ⟨h.1, of_decide_eq_true h.2⟩
/-! ### what the common defs keep -/
def D.isW : D → Bool | .int _ => true | _ => false
def D.isNat : D → Bool | .int i => decide (0 ≤ i) | _ => false
theorem isW_eq (d : D) : (d.isI && !d.isB) = d.isW := by cases d <;> rfl
def preInt : Spc := fun cs post _ => ∃ d : D, cs = [.dat d] ∧ d.pl = true ∧ post (.dat (.bl d.isW)) cs
def preNum : Spc := fun cs post _ => ∃ d : D, cs = [.dat d] ∧ d.pl = true ∧ post (.dat (.bl d.isNat)) cs
def preIsWord : Spc := fun cs post _ => ∃ (d : D) (n : Int), cs = [.dat d, .dat (.int n)] ∧ Gd d ∧ (∀ ds, d = .tup ds → ds.length < 100000) ∧ post (.dat (.bl (isWordD d n))) cs
def preIsUndo : Spc := fun cs post _ => ∃ (d : D), cs = [.dat d] ∧ Gd d ∧ (∀ ds, d = .tup ds → ds.length < 100000) ∧ post (.dat (.bl (isUndoD d))) cs
def Word (u w : List Int) (m : Nat) : Prop := w.length ≤ m ∧ ∀ x ∈ w, 0 ≤ x ∧ x < (u.length : Int)
def preBack : Spc := fun cs post _ => ∃ u w : List Int, cs = [.dat (tw u), .dat (tw w)] ∧ Word u w 3000 ∧ u.length ≤ 3000 ∧ post (.dat (tw (backW u w))) cs
def preFree : Spc := fun cs post _ => ∃ u w : List Int, cs = [.dat (tw u), .dat (tw w)] ∧ Word u w 3000 ∧ u.length ≤ 3000 ∧ Undo u ∧ post (.dat (tw (freeW u w))) cs
def preCheck : Spc := fun cs post _ => ∃ (w : List Int) (n : Int), cs = [.dat (tw w), .dat (.int n)] ∧ w.length ≤ 3000 ∧ n ≤ 1000000 ∧ (∀ x ∈ w, 0 ≤ x ∧ x < n) ∧ post (.dat .non) cs
def preMkUndo : Spc := fun cs post _ => ∃ (b : List D) (m : Int), cs = [.lst b, .dat (.int m)] ∧ BoxD b ∧ 0 < m ∧ m ≤ 100 ∧
  ∀ b' u, BoxD b' → Undo u → (u.length : Int) ≤ m → post (.dat (tw u)) [.lst b', .dat (.int m)]
/-- a good value of not too many parts -/
def Val (d : D) : Prop := Gd d ∧ ∀ ds, d = .tup ds → ds.length < 100000
def preThing : Spc := fun cs post _ => ∃ (b : List D), cs = [.lst b] ∧ BoxD b ∧ ∀ b' d, BoxD b' → Gd d → d.wt ≤ 1000 → post (.dat d) [.lst b']
def preSpoilt : Spc := fun cs post _ => ∃ (b : List D) (w : List Int) (n : Int), cs = [.lst b, .dat (tw w), .dat (.int n)] ∧ BoxD b ∧ w.length ≤ 100 ∧ (∀ x ∈ w, 0 ≤ x ∧ x < 64) ∧ 0 ≤ n ∧ n ≤ 64 ∧
  ∀ b' d, BoxD b' → Gd d → d.wt ≤ 50000 → post (.dat d) [.lst b', .dat (tw w), .dat (.int n)]
def preTold : Spc := fun cs post _ => ∃ a d : Bool, cs = [.dat (.bl a), .dat (.bl d)] ∧ post (.dat (.bl (a == d))) cs
theorem len_of_wt {d : D} {n : Nat} (h : d.wt ≤ n) : ∀ ds, d = .tup ds → ds.length ≤ n := fun ds e => by
  subst e
  simp only [D.wt] at h
  exact Nat.le_trans (wts_len ds) h
theorem Val.of {d : D} (h : Gd d) (hw : d.wt ≤ 50000) : Val d := ⟨h, fun ds e => Nat.lt_of_le_of_lt (len_of_wt hw ds e) (by decide)⟩
theorem okks_app : ∀ {k : Nat} {ds es : List D}, D.okks k ds = true → D.okks k es = true → D.okks k (ds ++ es) = true
  | _, [], _, _, h => h
  | _, d :: ds, es, h, g => by
    simp only [D.okks, Bool.and_eq_true] at h
    simp only [List.cons_append, D.okks, Bool.and_eq_true]
    exact ⟨h.1, okks_app h.2 g⟩
theorem wts_app : ∀ (ds es : List D), D.wts (ds ++ es) = D.wts ds + D.wts es
  | [], es => by simp [D.wts]
  | d :: ds, es => by
    simp only [List.cons_append, D.wts, wts_app ds es]
    omega
theorem okk_mono : ∀ {d : D} {k n : Nat}, k ≤ n → d.okk k = true → d.okk n = true := fun {d k n} h => by
  have key : ∀ (k : Nat), (∀ d : D, d.okk k = true → d.okk (k + 1) = true) := by
    intro k
    induction k with
    | zero =>
      intro d hd
      cases d with
      | tup ds => simp [D.okk] at hd
      | lst ds => simp [D.okk] at hd
      | _ => simpa [D.okk] using hd
    | succ k ih =>
      have lists : ∀ ds : List D, D.okks k ds = true → D.okks (k + 1) ds = true := by
        intro ds
        induction ds with
        | nil => simp [D.okks]
        | cons d ds ih2 =>
          intro h
          simp only [D.okks, Bool.and_eq_true] at h ⊢
          exact ⟨ih d h.1, ih2 h.2⟩
      intro d hd
      cases d with
      | tup ds =>
        simp only [D.okk] at hd ⊢
        exact lists ds hd
      | lst ds =>
        simp only [D.okk] at hd ⊢
        exact lists ds hd
      | _ => simpa [D.okk] using hd
  intro hd
  induction h with
  | refl => exact hd
  | step _ ih => exact key _ d ih
theorem okks_take : ∀ {k : Nat} {ds : List D} (n : Nat), D.okks k ds = true → D.okks k (ds.take n) = true
  | _, _, 0, _ => by simp [D.okks]
  | _, [], _ + 1, _ => by simp [D.okks]
  | _, d :: ds, n + 1, h => by
    simp only [D.okks, Bool.and_eq_true] at h
    simp only [List.take_succ_cons, D.okks, Bool.and_eq_true]
    exact ⟨h.1, okks_take n h.2⟩
theorem gd_mid {a c : List Int} {x : D} (ha : ∀ y ∈ a, 0 ≤ y ∧ y < 64) (hc : ∀ y ∈ c, 0 ≤ y ∧ y < 64) (la : a.length ≤ 200) (lc : c.length ≤ 200) (hx : x.okk 18 = true) (wx : x.wt ≤ 1000) :
    Gd (.tup (a.map D.int ++ [x] ++ c.map D.int)) ∧ (D.tup (a.map D.int ++ [x] ++ c.map D.int)).wt ≤ 50000 := by
  have h30 : ∀ {w : List Int}, (∀ y ∈ w, 0 ≤ y ∧ y < 64) → ∀ y ∈ w, y.natAbs < 10 ^ 30 := fun h y hy => small30 (n := 64) (by decide) (h y hy)
  have hw : (D.tup (a.map D.int ++ [x] ++ c.map D.int)).wt ≤ 50000 := by
    simp only [D.wt, wts_app, wts_ints, D.wts]
    omega
  refine ⟨⟨?_, Nat.le_trans hw (by decide)⟩, hw⟩
  simp only [D.okk]
  refine okks_app (okks_app (okks_ints (h30 ha)) ?_) (okks_ints (h30 hc))
  simp only [D.okks, Bool.and_true]
  exact okk_mono (by decide) hx
theorem gd_of {d : D} (h : gdB d = true) : Gd d ∧ d.wt ≤ 1000 := ⟨⟨okk_mono (by decide) (gd_of18 h).1, Nat.le_trans (gd_of18 h).2 (by decide)⟩, (gd_of18 h).2⟩
section
variable {W : Wo} {env : List Cell} {P : PR} {px : PX} {t : TA} {E : XK}
theorem wp_thing (h : wpA W t env (fun rs env1 => ∃ (i : Nat), rs = [.al i] ∧ ∃ b, env1[i]? = some (.lst b) ∧ BoxD b ∧
    ∀ b' d, BoxD b' → Gd d → d.wt ≤ 1000 → P (.dat d) (env1.set i (.lst b'))) px) : wpE W (tCall (SPD 1 preThing) [] E t) env P px :=
  wp_callB (wpA.imp h fun rs env1 ⟨i, e, b, e1, hb, q⟩ => ⟨i, [], b, by rw [e]; rfl, e1, rfl, b, rfl, hb, fun b' d hb' h1 h2 => ⟨_, rfl, q b' d hb' h1 h2⟩⟩)
theorem wp_mkUndo (h : wpA W t env (fun rs env1 => ∃ (i : Nat) (m : Int), rs = [.al i, .dat (.int m)] ∧ ∃ b, env1[i]? = some (.lst b) ∧ BoxD b ∧ 0 < m ∧ m ≤ 100 ∧
    ∀ b' u, BoxD b' → Undo u → (u.length : Int) ≤ m → P (.dat (tw u)) (env1.set i (.lst b'))) px) : wpE W (tCall (SPD 2 preMkUndo) [] E t) env P px :=
  wp_callB (wpA.imp h fun rs env1 ⟨i, m, e, b, e1, hb, m0, m9, q⟩ => ⟨i, [.int m], b, by rw [e]; rfl, e1, rfl, b, m, rfl, hb, m0, m9, fun b' u hb' h1 h2 => ⟨_, rfl, q b' u hb' h1 h2⟩⟩)
theorem wp_spoilt (h : wpA W t env (fun rs env1 => ∃ (i : Nat) (w : List Int) (n : Int), rs = [.al i, .dat (tw w), .dat (.int n)] ∧ ∃ b, env1[i]? = some (.lst b) ∧ BoxD b ∧ w.length ≤ 100 ∧ (∀ x ∈ w, 0 ≤ x ∧ x < 64) ∧ 0 ≤ n ∧ n ≤ 64 ∧
    ∀ b' d, BoxD b' → Gd d → d.wt ≤ 50000 → P (.dat d) (env1.set i (.lst b'))) px) : wpE W (tCall (SPD 3 preSpoilt) [] E t) env P px :=
  wp_callB (wpA.imp h fun rs env1 ⟨i, w, n, e, b, e1, hb, h1, h2, h3, h4, q⟩ => ⟨i, [tw w, .int n], b, by rw [e]; rfl, e1, rfl, b, w, n, rfl, hb, h1, h2, h3, h4, fun b' d hb' g1 g2 => ⟨_, rfl, q b' d hb' g1 g2⟩⟩)
end
end Nw

set_option Elab.async false
set_option linter.all false
set_option maxRecDepth 100000
set_option maxHeartbeats 1000000
namespace Nw
open PySem PySem.Spec PyProof.Rows L2 TL
/-! ### texts of small numbers, joined -/
theorem char_lt (c : Char) : c.toNat < 0x110000 := by
  have h := c.valid
  show c.val.toNat < 0x110000
  rcases h with h | h
  · exact Nat.lt_trans h (by decide)
  · exact h.2
theorem str_cps (s : String) : ∀ c ∈ tl (Str.ofString s), c < 0x110000 := by
  rw [Str.ofString_eq_toList]
  intro c hc
  have hc : c ∈ (s.toList.map Char.toNat).toArray.toList := hc
  rw [List.toList_toArray] at hc
  obtain ⟨d, _, rfl⟩ := List.mem_map.mp hc
  exact char_lt d
theorem joinL_ok : ∀ {parts : List (List Nat)}, (∀ p ∈ parts, (∀ c ∈ p, c < 0x110000) ∧ p.length ≤ 3) → (∀ c ∈ joinL [] parts, c < 0x110000) ∧ (joinL [] parts).length ≤ 3 * parts.length
  | [], _ => ⟨(fun c hc => by cases hc), Nat.zero_le _⟩
  | [p], h => by
    have := h p (List.mem_cons_self ..)
    refine ⟨this.1, ?_⟩
    show p.length ≤ 3 * 1
    omega
  | p :: q :: r, h => by
    have h1 := h p (List.mem_cons_self ..)
    have h2 := joinL_ok (parts := q :: r) fun x hx => h x (List.mem_cons_of_mem _ hx)
    refine ⟨fun c hc => ?_, ?_⟩
    · have hc : c ∈ p ++ ([] ++ joinL [] (q :: r)) := hc
      rcases List.mem_append.mp hc with z | z
      · exact h1.1 c z
      · exact h2.1 c z
    · show (p ++ ([] ++ joinL [] (q :: r))).length ≤ 3 * ((q :: r).length + 1)
      rw [List.length_append, List.nil_append]
      omega
theorem str_small {x : Int} (h : 0 ≤ x ∧ x < 64) : (Str.ofString (toString x)).length ≤ 2 := toString_length_le h.1 (by decide) (Int.lt_trans h.2 (by decide))
theorem join_small {w : List Int} (h : ∀ x ∈ w, 0 ≤ x ∧ x < 64) : ((w.map fun x => Str.ofString (toString x)).map (·.length)).sum ≤ 2 * w.length := by
  induction w with
  | nil => exact Nat.le_refl _
  | cons a w ih =>
    have h1 := str_small (h a (List.mem_cons_self ..))
    have h2 := ih fun x hx => h x (List.mem_cons_of_mem _ hx)
    simp only [List.map_cons, List.sum_cons, List.length_cons]
    omega
theorem join_gd {w : List Int} (h : ∀ x ∈ w, 0 ≤ x ∧ x < 64) (hl : w.length ≤ 100) : Gd (.str (Txt.join "" (w.map fun x => Str.ofString (toString x)))) ∧ (D.str (Txt.join "" (w.map fun x => Str.ofString (toString x)))).wt ≤ 1000 := by
  rw [join_eq]
  have e := tl_join "" (w.map fun x => Str.ofString (toString x))
  have e0 : tl (Str.ofString "") = [] := by rw [Str.ofString_eq_toList]; rfl
  rw [e0] at e
  have k := joinL_ok (parts := (w.map fun x => Str.ofString (toString x)).map tl) fun p hp => by
    obtain ⟨q, hq, rfl⟩ := List.mem_map.mp hp
    obtain ⟨x, hx, rfl⟩ := List.mem_map.mp hq
    refine ⟨str_cps _, ?_⟩
    rw [← len_tl]
    exact Nat.le_trans (str_small (h x hx)) (by decide)
  rw [← e] at k
  rw [List.length_map, List.length_map] at k
  have sz : (Str.join "" (w.map fun x => Str.ofString (toString x))).cps.size ≤ 1000 := by
    have : (Str.join "" (w.map fun x => Str.ofString (toString x))).cps.size = (tl (Str.join "" (w.map fun x => Str.ofString (toString x)))).length := by simp [tl]
    rw [this]
    omega
  refine ⟨⟨?_, ?_⟩, ?_⟩
  · simp only [D.okk]
    rw [Array.all_eq_true_iff_forall_mem]
    intro c hc
    exact decide_eq_true (k.1 c (Array.mem_toList_iff.mpr hc))
  · simp only [D.wt]
    omega
  · simp only [D.wt]
    exact sz
theorem take_mem {w : List Int} {n : Nat} {P : Int → Prop} (h : ∀ x ∈ w, P x) : ∀ x ∈ w.take n, P x := fun x hx => h x (List.mem_of_mem_take hx)
theorem drop_mem {w : List Int} {n : Nat} {P : Int → Prop} (h : ∀ x ∈ w, P x) : ∀ x ∈ w.drop n, P x := fun x hx => h x (List.mem_of_mem_drop hx)
theorem gdB_int {n : Int} (h0 : -1000000 ≤ n) (h1 : n ≤ 1000000) : gdB (.int n) = true := by
  unfold gdB
  simp only [D.okk, D.wt, Bool.and_eq_true, decide_eq_true_eq]
  exact ⟨Nat.lt_of_lt_of_le (show n.natAbs < 1000001 by omega) (by decide), rfl⟩
theorem others_gd {n : Int} (h0 : 0 ≤ n) (h1 : n ≤ 64) : ∀ d ∈ [D.int n, .int (-1), .bl true, .bl false, .non, .str "0", .tup [.int 0], .lst [.int 0], .int (10 ^ (20 : Int).toNat), .int (n + 1), .int (n - 1)], gdB d = true := by
  intro d hd
  simp only [List.mem_cons, List.not_mem_nil, or_false] at hd
  rcases hd with rfl | rfl | rfl | rfl | rfl | rfl | rfl | rfl | rfl | rfl | rfl
  · exact gdB_int (by omega) (by omega)
  · exact gdB_int (by omega) (by omega)
  · decide +kernel
  · decide +kernel
  · decide +kernel
  · decide +kernel
  · decide +kernel
  · decide +kernel
  · decide +kernel
  · exact gdB_int (by omega) (by omega)
  · exact gdB_int (by omega) (by omega)
end Nw

set_option Elab.async false
set_option linter.all false
set_option maxRecDepth 100000
set_option maxHeartbeats 1000000
namespace Nw
open PySem PySem.Spec PyProof.Rows L2
theorem set_back {env : List Cell} {k : Nat} {c0 : Cell} {x : Cell} (h : env[k]? = some c0) : (env.set k x).set k c0 = env := by
  rw [List.set_set]
  obtain ⟨hk, e⟩ := List.getElem?_eq_some_iff.mp h
  rw [← e]
  exact List.set_getElem_self hk
abbrev rTup1 (K : PySem.W.Frag) : List V → Hp → VK → Prop := fun xs H Q => ∃ p ys, xs = [.ref p] ∧ ((SqL K H p ys ∧ ∀ l, H l = none → Q (.ref l) (upd H l (.tup ys))) ∨ (SqT K H p ys ∧ Q (.ref p) H))
abbrev rLen1 (K : PySem.W.Frag) : List V → Hp → VK → Prop := fun xs H Q => ∃ p ys, xs = [.ref p] ∧ (SqL K H p ys ∨ SqT K H p ys) ∧ Q (.int ys.length) H
section
variable {W : Wo} {env : List Cell} {P : PR} {px : PX} {c0 : Cell}
/-- tuple([undo[word[len(word) - 1 - k]] for k in range(len(word))]) -/
theorem wp_backC {iu iw ik : Nat} {u w : List Int} (hu : env[iu]? = some (.dat (tw u))) (hw : env[iw]? = some (.dat (tw w))) (hk : env[ik]? = some c0) (hc : c0.own = false) (n1 : ik ≠ iu) (n2 : ik ≠ iw)
    (rng : ∀ x ∈ w, 0 ≤ x ∧ x < (u.length : Int)) (hl : w.length ≤ 3000) (p : P (.own (.lst ((backW u w).map D.int))) env) :
    wpE W (tLc (iRng1 (tCons (tCB (rLen1 W.K) (tCons (tVar iw) tNil)) tNil)) (gName ik) tYes
      (tOp (rIxT W.K) (tVar iu) (tOp (rIxT W.K) (tVar iw) (tOp (rI0 fun i j => V.int (i - j)) (tOp (rI0 fun i j => V.int (i - j)) (tCB (rLen1 W.K) (tCons (tVar iw) tNil)) (tC (V.int 1))) (tVar ik)))) [ik]) env P px := by
  refine wp_lcR1 (wpa_cons (wp_cb (wpa_cons (wp_var hw (wp_nil (wc_len (.tup _) (wp_nil ?_)))))))
  refine ⟨_, c0, fun i acc e => acc = ((backW u w).take i).map D.int ∧ e = env, rfl, by omega, by rw [List.length_map]; omega, hc, ?_, ⟨rfl, rfl⟩, ?_, ?_⟩
  · rintro i acc e ⟨_, rfl⟩
    exact hk
  · rintro i acc e hi ⟨rfl, rfl⟩
    rw [List.length_map] at hi
    have hi : i < w.length := by omega
    have gu : (e.set ik (.dat (.int (i : Nat))))[iu]? = some (.dat (tw u)) := by rw [List.getElem?_set_ne n1]; exact hu
    have gw : (e.set ik (.dat (.int (i : Nat))))[iw]? = some (.dat (tw w)) := by rw [List.getElem?_set_ne n2]; exact hw
    have gk : (e.set ik (.dat (.int (i : Nat))))[ik]? = some (.dat (.int (i : Nat))) := List.getElem?_set_self (List.getElem?_eq_some_iff.mp hk).1
    have hy : w[w.length - 1 - i]? = some (w[w.length - 1 - i]'(by omega)) := List.getElem?_eq_getElem _
    have hm := rng _ (List.getElem_mem (show w.length - 1 - i < w.length by omega))
    have ai : atI (w.map D.int) (((w.map D.int).length : Int) - 1 - i) = some (.int (w[w.length - 1 - i]'(by omega))) := by
      rw [List.length_map, show ((w.length : Int) - 1 - i) = ((w.length - 1 - i : Nat) : Int) by omega]
      exact atI_nat (by rw [List.getElem?_map, hy]; rfl)
    refine wt_yes ⟨fun _ => ?_, fun z => by cases z⟩
    refine wp_op (wp_var gu (wp_op (wp_var gw (wp_op (wp_op (wp_cb (wpa_cons (wp_var gw (wp_nil (wc_len (.tup _) (wp_int (wo_int ?_))))))))))))
    refine wp_var gk (wo_int (wo_ixT ai (wo_ixT (un_atI hm.1 hm.2) ⟨_, rfl, ?_, set_back hk⟩)))
    rw [List.take_add_one, backW_at hy hi, List.map_append]
    rfl
  · rintro acc e ⟨rfl, rfl⟩ _
    rw [List.length_map, Int.toNat_natCast, ← backW_len u w, List.take_length]
    exact p
theorem wo_neS0 {s : Str} (p : P (.dat (.bl false)) env) : wpO W rNe (.dat (.str s)) (.dat (.str s)) env P px := wo_neS (by rw [decide_eq_true rfl]; exact p)
theorem wo_eqS0 {s : Str} (p : P (.dat (.bl true)) env) : wpO W rEq (.dat (.str s)) (.dat (.str s)) env P px := wo_eqS (by rw [decide_eq_true rfl]; exact p)
end
end Nw

set_option Elab.async false
set_option linter.all false
set_option maxRecDepth 100000
set_option maxHeartbeats 1000000
namespace Nw
open PySem PySem.Spec PyProof.Rows L2
/-! ### own exceptions with fields -/
/-- a reading that may be told at its weakest -/
def tUp (ta : TA) : TA := fun σ H Q => ∃ R : List V → Hp → Prop, ta σ H R ∧ ∀ vs H', R vs H' → Q vs H'
theorem pa_up {X : Cx} {es : List Expr} {ta : TA} (ha : PA X es ta) : PA X es (tUp ta) := by
  constructor
  rintro pos pins s σ H Q I ⟨R, h, k⟩
  exact thn (ha.run pos pins s σ H R I h) fun us s1 ⟨vs, H1, J, r, q⟩ => ⟨vs, H1, J, r, k vs H1 q⟩
theorem ps_mono {X : Cx} {st : Stmt} {t t' : TS} (h : PS X st t) (k : ∀ D σ H, t' D σ H → t D σ H) : PS X st t' :=
  ⟨fun pins s σ H D I q => h.run pins s σ H D I (k D σ H q)⟩
/-- what the text says of the class x, fs its fields in the order of __init__ -/
structure ExC (K : PySem.W.Frag) (mg : Str → Option Value) (x : Str) (fs : List Str) (C fI : Addr) : Prop where
  gC : mg x = some (.ref C)
  T : OexC K C
  X : XfC K C
  no : ∀ f ∈ fs, PySem.W.findIn K (.ref C) f = some none
  iC : PySem.W.findIn K (.ref C) "__init__" = some (some (.ref fI))
  tI : PySem.W.typeIn K (.ref fI) = some (.type "function")
/-- __init__(self, ..): it stores its arguments -/
def spIn (C : Addr) (fs : List Str) : Sp := fun vs H Q _ => ∃ (a : Addr) (ws : List V), vs = .ref a :: ws ∧ ws.length = fs.length ∧ H a = some (exo a C none) ∧
  ∀ d H2, H d = none → d ≠ a → H2 a = some (exo a C (some d)) → H2 d = some (exd d (fs.zip ws).reverse) → (∀ b, b ≠ a → b ≠ d → H2 b = H b) → Q .non H2
/-- raise C(e, ..) -/
def tRz (C : Addr) (fs : List Str) (W : WX) (ta : TA) : TS := fun _ σ H => ta σ H fun vs H1 => vs.length = fs.length ∧ ∀ d, H1 d = none → W (.ref C) (some d) σ (upd H1 d (.xd (fs.zip vs).reverse))
section
variable {X : Cx} {W : WX} {x : Str} {fs ps : List Str} {C fI : Addr} {k : Nat} {fd : FuncData} {e : Expr} {es : List Expr} {ta : TA} {p pos pos2 : Pos}
theorem ps_rz (hc : X.calm = true) (tk : Takes X W) (E : ExC X.K X.mg x fs C fI) (F1 : FnOk X.prog X.w X.K X.mg X.base CX0 k fI fd ps (spIn C fs)) (hn : fs.length ≤ 100) (hr : Room (k + 1) X.A) (hb : Binds X.K fd ps []) (hg : Gl X x) (ha : PA X (e :: es) ta)
    (hdb : (x == ("__debug__" : Str)) = false := by decide) (he : starEach (e :: es) X.env = (false, eval e X.env) :: starEach es X.env := by rfl) (hpl : (backTo pos (starEach es X.env)).any (·.1) = false := by rfl) :
    PS X (.Raise (some (.Call (.Name x p) (e :: es) [] pos)) none pos2) (tRz C fs W ta) := by
  refine ps_mono (ps_raise hc tk (pmk_oex (dvs := []) E.T E.iC E.tI F1 hr hb .nil (fun _ _ _ _ _ _ _ h => h.elim) hg E.gC (pa_up ha) hdb he hpl)) fun D σ H h => ?_
  refine ⟨_, h, fun vs H1 ⟨hl, q⟩ => ⟨by omega, fun a ha => ?_⟩⟩
  rw [List.append_nil]
  refine ⟨a, vs, rfl, hl, upd_same, fun d H2 hd hda e1 e2 e3 => ⟨rfl, d, _, e1, e2, ?_, ?_⟩⟩
  · rw [upd_ne hda] at hd
    exact hd
  · rw [upd_ne hda] at hd
    have eH : upd (del H2 a) d (.xd (fs.zip vs).reverse) = upd H1 d (.xd (fs.zip vs).reverse) := by
      funext b
      by_cases z : b = d
      · subst z
        rw [upd_same, upd_same]
      · rw [upd_ne z, upd_ne z]
        by_cases y : b = a
        · subst y
          rw [del_same, ha]
        · rw [del_ne y, e3 b y z, upd_ne y]
    rw [eH]
    exact q d hd
end
/-- self.f = v, the one field -/
theorem init1 {K : PySem.W.Frag} {C : Addr} {f : Str} {vs : List V} {H : Hp} {Q : VK} {E : XK} (T : OexC K C) (hno : PySem.W.findIn K (.ref C) f = some none) (h : spIn C [f] vs H Q E) (N : List Str) (hN : N.length = 2) :
    tOst K f (tVar 0) (tVar 1) { nx := fun _ H' => Q .non H', rt := Q } (L2.start N vs) H := by
  obtain ⟨a, ws, rfl, hl, ha, q⟩ := h
  match ws, hl with
  | [v], _ =>
    refine ⟨v, rfl, .ref a, rfl, a, C, rfl, T, hno, .inl ⟨ha, fun d hd hda => ?_⟩⟩
    refine q d _ hd hda upd_same ?_ fun b h1 h2 => ?_
    · rw [upd_ne hda, upd_same]
      rfl
    · rw [upd_ne h1, upd_ne h2]
/-- two fields -/
theorem init2 {K : PySem.W.Frag} {C : Addr} {f g : Str} {vs : List V} {H : Hp} {Q : VK} {E : XK} (T : OexC K C) (hno : PySem.W.findIn K (.ref C) f = some none) (hno2 : PySem.W.findIn K (.ref C) g = some none) (h : spIn C [f, g] vs H Q E) (N : List Str) (hN : N.length = 3) :
    tSeq (tOst K f (tVar 0) (tVar 1)) (tOst K g (tVar 0) (tVar 2)) { nx := fun _ H' => Q .non H', rt := Q } (L2.start N vs) H := by
  obtain ⟨a, ws, rfl, hl, ha, q⟩ := h
  match ws, hl with
  | [v, u], _ =>
    refine ⟨v, rfl, .ref a, rfl, a, C, rfl, T, hno, .inl ⟨ha, fun d hd hda => ?_⟩⟩
    refine ⟨u, rfl, .ref a, rfl, a, C, rfl, T, hno2, .inr ⟨d, [(f, v)], upd_same, ?_, (by show 1 ≤ 900; decide), ?_⟩⟩
    · rw [upd_ne hda, upd_same]
    refine q d _ hd hda ?_ upd_same fun b h1 h2 => ?_
    · rw [upd_ne (Ne.symm hda), upd_same]
    · rw [upd_ne h2, upd_ne h1, upd_ne h2]
theorem ddf_zip {H : Hp} : ∀ {fs : List Str} {vs : List V} {ds : List D}, DdAll H vs ds → DdF H (fs.zip vs) (fs.zip ds)
  | [], _, _, _ => by rw [List.zip_nil_left, List.zip_nil_left]; exact .nil
  | _ :: _, _, _, .nil => .nil
  | _ :: _, _, _, .cons h a => .cons h (ddf_zip a)
theorem DdF.app {H : Hp} : ∀ {vs us : List (Str × V)} {ds es : List (Str × D)}, DdF H vs ds → DdF H us es → DdF H (vs ++ us) (ds ++ es)
  | _, _, _, _, .nil, h => h
  | _, _, _, _, .cons h a, g => .cons h (a.app g)
theorem DdF.rev {H : Hp} : ∀ {vs : List (Str × V)} {ds : List (Str × D)}, DdF H vs ds → DdF H vs.reverse ds.reverse
  | _, _, .nil => .nil
  | _, _, .cons h a => by
    rw [List.reverse_cons, List.reverse_cons]
    exact a.rev.app (.cons h .nil)
theorem DdF.find {H : Hp} {f : Str} {d : D} : ∀ {vs : List (Str × V)} {ds : List (Str × D)}, DdF H vs ds → ds.lookup f = some d → ∃ v, vs.lookup f = some v ∧ Dd H v d
  | _, _, .nil, h => by cases h
  | _, _, .cons (f := g) h a, e => by
    rw [List.lookup_cons] at e
    rw [List.lookup_cons]
    cases z : f == g with
    | true =>
      rw [z] at e
      cases e
      exact ⟨_, rfl, h⟩
    | false =>
      rw [z] at e
      exact a.find e
section
variable {W : Wo} {env : List Cell} {P : PR} {px pxB : PX} {te : TE} {ta : TA} {d : De} {C : Addr} {fs : List Str}
/-- raise -/
theorem ws_rz (h : wpA W ta env (fun rs env1 => ∃ ds, datAll rs = some ds ∧ ds.length = fs.length ∧ px C (fs.zip ds).reverse env1) px) : wpS W (tRz C fs (fun cls x σ H => W.E σ cls x H) ta) env d px := fun σ H0 H O X D e =>
  h σ H0 H O X _ fun vs rs env1 A0 A ⟨ds, er, hl, p⟩ S w => by
    have er := datAll_map er
    subst er
    have wd := w.dats
    refine ⟨by rw [wd.len]; exact hl, fun x hx => ?_⟩
    have S2 : Stp W.m env1 σ A0 A env1 (upd A0 x (.xd (fs.zip vs).reverse)) (upd A x (.xd (fs.zip vs).reverse)) := .laid S.ok hx
    exact X C x _ _ env1 σ _ _ p S2.ok (S.trans S2).go upd_same ((ddf_zip (wd.mono S2.go.k0)).rev)
/-- e.f, e the exception that an except clause holds -/
theorem wp_xf {a : Addr} {dd : Addr} {f : Str} (h : wpE W te env (fun r env1 => ∃ (fs : List (Str × Nw.D)) (x : Nw.D), r = .dat (.exc a C dd fs) ∧ fs.lookup f = some x ∧ P (.dat x) env1) px) : wpE W (tXf a (.ref C) (some dd) C f te) env P px := fun σ H0 H O X Q q =>
  h σ H0 H O X _ fun v r env1 A0 A ⟨fs, x, er, ef, p⟩ S w => by
    subst er
    have w : Dd A0 v (.exc a C dd fs) := w
    cases w with
    | exc h1 h2 =>
      obtain ⟨u, u1, u2⟩ := h2.find ef
      exact ⟨rfl, rfl, dd, _, u, rfl, S.ok.same _ _ h1, u1, q u _ env1 A0 A p S u2⟩
/-- the name of an except clause goes -/
theorem Ok.clear {σ : L2.St} {H0 H : Hp} {i m : Nat} (O : Ok env σ H0 H) (hi : i < env.length) (hm : m ≤ i) : Ok (env.set i .non) (σ.set i none) H0 H ∧ Go m env σ H0 H (env.set i .non) (σ.set i none) H0 H := by
  have ow : ∀ k l, Owns (env.set i .non) (σ.set i none) k l → Owns env σ k l := fun k l ⟨c, q1, q2, q3⟩ => by
    by_cases z : k = i
    · subst z
      rw [List.getElem?_set_self hi] at q1
      injection q1 with q1
      subst q1
      cases q2
    · rw [List.getElem?_set_ne (Ne.symm z)] at q1 q3
      exact ⟨c, q1, q2, q3⟩
  refine ⟨⟨by rw [List.length_set, List.length_set]; exact O.len, O.same, fun k c e => ?_, fun a b l h1 h2 => O.apart a b l (ow _ _ h1) (ow _ _ h2)⟩, ⟨Same.refl _, fun _ _ _ => rfl, fun _ _ h _ => h, fun _ h => h, fun l ⟨k, h⟩ => .inl ⟨k, ow k l h⟩, fun k hk => List.getElem?_set_ne (by omega)⟩⟩
  by_cases z : k = i
  · subst z
    rw [List.getElem?_set_self hi] at e
    injection e with e
    subst e
    trivial
  · rw [List.getElem?_set_ne (Ne.symm z)] at e ⊢
    exact O.slot k c e
/-- try: body / except x as n: suite -/
def tTryAs (K : PySem.W.Frag) (c : Value) (i : Nat) (ts : Addr → Value → Option Addr → TS) (Wout : WX) (tb : WX → TS) : TS := fun D σ H => tb (wAs K c i ts Wout D) D σ H
theorem ws_try {c : Value} {i : Nat} {ts : Addr → Value → Option Addr → TS} {Wout : WX} {tb : WX → TS} (hm : W.m ≤ i) (hW : ∀ σ cls x H, W.E σ cls x H → Wout cls x σ H)
    (hb : ∀ Wx : WX, wpS ⟨W.K, W.m, fun σ cls x H => Wx cls x σ H⟩ (tb Wx) env d pxB)
    (hs : ∀ C fs env', pxB C fs env' → i < env'.length ∧ ∃ b, PySem.W.exmOne W.K (.ref C) c = some b ∧ (b = true → ∀ a dd, wpS W (ts a (.ref C) (some dd)) (env'.set i (.dat (.exc a C dd fs))) { nx := fun e => i < e.length ∧ d.nx (e.set i .non), rt := d.rt, bk := fun e => i < e.length ∧ d.bk (e.set i .non), ct := fun e => i < e.length ∧ d.ct (e.set i .non) } px) ∧ (b = false → px C fs env')) :
    wpS W (tTryAs W.K c i ts Wout tb) env d px := fun σ H0 H O X D e =>
  hb (wAs W.K c i ts Wout D) σ H0 H O (fun C dd vs fs env' σ' H0' H' p O' G hd hf => by
    obtain ⟨hi, b, eb, h1, h2⟩ := hs C fs env' p
    refine ⟨b, eb, fun bt a ha => ?_, fun bf => hW _ _ _ _ (X C dd vs fs env' σ' H0' H' (h2 bf) O' G hd hf)⟩
    obtain ⟨O2, ow, fx⟩ := Ok.put (B := H') (r := .dat (.exc a C dd fs)) O' (Dd.exc hd hf) hi hm (fun l z => z)
    have G2 : Go W.m env' σ' H0' H' (env'.set i (.dat (.exc a C dd fs))) (σ'.set i (some (.ref a))) H0' H' := ⟨Same.refl _, fun _ _ _ => rfl, fun _ _ h _ => h, fun _ h => h, ow, fx⟩
    have GG := G.trans G2
    refine h1 bt a dd _ H0' H' O2 (X.go GG) _ ⟨fun e2 σ2 B0 B ⟨hi2, p2⟩ O3 G3 => ?_, fun v r e2 σ2 B0 B p2 O3 G3 w => e.rt v r e2 σ2 B0 B p2 O3 (GG.trans G3) (w.base fun l z => GG.back z), fun e2 σ2 B0 B ⟨hi2, p2⟩ O3 G3 => ?_, fun e2 σ2 B0 B ⟨hi2, p2⟩ O3 G3 => ?_⟩
    · obtain ⟨O4, G4⟩ := O3.clear hi2 hm
      exact e.nx _ _ B0 B p2 O4 ((GG.trans G3).trans G4)
    · obtain ⟨O4, G4⟩ := O3.clear hi2 hm
      exact e.bk _ _ B0 B p2 O4 ((GG.trans G3).trans G4)
    · obtain ⟨O4, G4⟩ := O3.clear hi2 hm
      exact e.ct _ _ B0 B p2 O4 ((GG.trans G3).trans G4)) D ⟨e.nx, e.rt, e.bk, e.ct⟩
end
/-- an error of the class at S is what «except S» names -/
theorem exm_own {K : PySem.W.Frag} {S : Addr} (h1 : PySem.W.subIn K (.ref S) (.type "BaseException") = some true) (h2 : PySem.W.isClsIn K S = true) (h3 : PySem.W.typeIn K (.ref S) = some (.type "type")) {c : Addr} {b : Bool} (h4 : PySem.W.subIn K (.ref S) (.ref c) = some b)
    (g1 : PySem.W.subIn K (.ref c) (.type "BaseException") = some true) (g2 : PySem.W.isClsIn K c = true) (g3 : PySem.W.typeIn K (.ref c) = some (.type "type")) : PySem.W.exmOne K (.ref S) (.ref c) = some b := by
  have e1 : (PySem.W.subIn K (.ref c) (.type "BaseException") == some true) = true := by rw [g1] <;> rfl
  have e2 : ((PySem.W.clsIn K c).isSome && PySem.W.typeIn K (.ref c) == some (.type "type")) = true := by
    have h2' : (PySem.W.clsIn K c).isSome = true := g2
    rw [h2', g3] <;> rfl
  show (if (PySem.W.subIn K (.ref c) (.type "BaseException") == some true) = true then (if ((PySem.W.clsIn K c).isSome && PySem.W.typeIn K (.ref c) == some (.type "type")) = true then PySem.W.subIn K (.ref S) (.ref c) else none) else none) = some b
  rw [if_pos e1, if_pos e2]
  exact h4
end Nw

set_option Elab.async false
set_option linter.all false
set_option maxRecDepth 100000
set_option maxHeartbeats 1000000
namespace Nw
open PySem PySem.Spec PyProof.Rows L2
/-- what is called never raises here -/
theorem passL {X : Cx} : Passes (L2.CX X.prog X.w) X E0 := fun _ _ _ _ _ _ _ h => by
  obtain ⟨_, _, _, _, _, _, _, _, _, _, _, _, z⟩ := h
  exact z.elim
section
variable {X : Cx} {CX : CXT} {k k2 : Nat} {f g : Addr} {fd gd : FuncData} {ps qs ks : List Str} {sp sq : Sp} {E : L2.St → XK} {x : Str} {p pos : Pos} {e fe : Expr} {es : List Expr} {t tf tk : TA} {te : TE} {kws : List Keyword} {ix : List Nat}
/-- a call by keywords alone, in a try's body -/
def tCallPS (n : Nat) (ix : List Nat) (sp : Sp) (E : L2.St → XK) (tk : TA) : TE := fun σ H Q => tk σ H fun zs H1 => zs.length = n ∧ sp (perm ix zs) H1 Q (E σ)
theorem pe_callPSG (F : FnG X.prog X.w X.K X.mg X.base CX k f fd ps sp) (hG : X.A.guards = some []) (hr : Room k X.A) (hg : Gl X x) (hm : X.mg x = some (.ref f)) (hk : PySem.W.keepIn X.K (.ref f) = true) (hb : KwBinds X.K fd ps ks ix)
    (hx : ∀ σ, PassesAt CX X σ (E σ)) (hkw : PK X kws tk) (hall : (backToKw pos (keywordEach kws X.env)).all (·.1.isSome) = true := by rfl) (hks : (backToKw pos (keywordEach kws X.env)).filterMap (·.1) = ks := by rfl)
    (hdb : (x == ("__debug__" : Str)) = false := by decide) (hpl : ((backTo pos (starEach [] X.env)).any (·.1) || (backToKw pos (keywordEach kws X.env)).any (·.1.isNone)) = false := by rfl) :
    PE X (.Call (.Name x p) [] kws pos) (tCallPS ks.length ix sp E tk) := by
  constructor
  intro pins s σ H Q I h
  apply wpAny_Call_Name_kw
  refine ld_glob I hg hm ?_ hdb
  refine PySem.W.callWith_KW0 (h₀ := X.base) I.ok.mod.kin hk hall ?_ hpl
  refine thn (hkw.run pos pins s σ H _ I h) fun ws s2 ⟨zs, H2, J, r, hl, q⟩ => ⟨J.kIn, ?_⟩
  rw [hks]
  exact wpAny_call (callG F hG hr (hb s2 ws J.kIn (r.length.symm.trans hl)) (fun e s' z => hx σ pins H2 s2 e s' J z) J (perm_vals r ix) q)
/-- v(e, ..), v one of two defs -/
def tCallV (f g : Addr) (sp sq : Sp) (E : L2.St → XK) (te : TE) (t : TA) : TE := fun σ H Q => te σ H fun z H1 => (z = .ref f ∧ t σ H1 fun vs H2 => sp vs H2 Q (E σ)) ∨ (z = .ref g ∧ t σ H1 fun vs H2 => sq vs H2 Q (E σ))
theorem pe_callV (F : FnG X.prog X.w X.K X.mg X.base CX k f fd ps sp) (G : FnG X.prog X.w X.K X.mg X.base CX k2 g gd qs sq) (hG : X.A.guards = some []) (hr : Room k X.A) (hr2 : Room k2 X.A) (hk : PySem.W.keepIn X.K (.ref f) = true) (hk2 : PySem.W.keepIn X.K (.ref g) = true)
    (hb : Binds X.K fd ps []) (hb2 : Binds X.K gd qs []) (hx : ∀ σ, PassesAt CX X σ (E σ)) (hfe : PE X fe te) (ha : PA X (e :: es) t)
    (hc : eval (.Call fe (e :: es) [] pos) X.env = (do callWith pos (← eval fe X.env) [] (backTo pos (starEach (e :: es) X.env)) (backToKw pos (keywordEach [] X.env))) := by rfl)
    (he : starEach (e :: es) X.env = (false, eval e X.env) :: starEach es X.env := by rfl) (hpl : (backTo pos (starEach es X.env)).any (·.1) = false := by rfl) :
    PE X (.Call fe (e :: es) [] pos) (tCallV f g sp sq E te t) := by
  constructor
  intro pins s σ H Q I h
  refine Call_ (thn (hfe.run pins s σ H _ I h) fun fv s0 ⟨z, H1, J, rz, q⟩ => ?_) hc
  have key : ∀ (k : Nat) (f : Addr) (fd : FuncData) (ps : List Str) (sp : Sp), FnG X.prog X.w X.K X.mg X.base CX k f fd ps sp → Room k X.A → PySem.W.keepIn X.K (.ref f) = true → Binds X.K fd ps [] → z = .ref f → (t σ H1 fun vs H2 => sp vs H2 Q (E σ)) →
      wpAny (model X.prog X.w) X.A (callWith pos fv [] (backTo pos (starEach (e :: es) X.env)) []) (EP X pins σ Q) X.xe s0 := fun k f fd ps sp F hr hk hb ez qq => by
    subst ez
    cases rz
    refine PySem.W.callWith_K (h₀ := X.base) I.ok.mod.kin hk ?_ he hpl
    refine thn (ha.run pos pins s0 σ H1 _ J qq) fun us s1 ⟨vs, H2, J2, r, q2⟩ => ⟨J2.kIn, ?_⟩
    have hl : us.length = ps.length := r.length.symm.trans (F.len _ _ _ _ q2)
    have b := hb s1 us J2.kIn (by rw [List.append_nil]; exact hl)
    rw [List.append_nil] at b
    exact wpAny_call (callG F hG hr b (fun e s' y => hx σ pins H2 s1 e s' J2 y) J2 r q2)
  rcases q with ⟨ez, q⟩ | ⟨ez, q⟩
  · exact key _ _ _ _ _ F hr hk hb ez q
  · exact key _ _ _ _ _ G hr2 hk2 hb2 ez q
/-- .. by keywords alone -/
def tCallPV (n : Nat) (ix : List Nat) (f g : Addr) (sp sq : Sp) (E : L2.St → XK) (te : TE) (t : TA) : TE := fun σ H Q => te σ H fun z H1 =>
  (z = .ref f ∧ t σ H1 fun zs H2 => zs.length = n ∧ sp (perm ix zs) H2 Q (E σ)) ∨ (z = .ref g ∧ t σ H1 fun zs H2 => zs.length = n ∧ sq (perm ix zs) H2 Q (E σ))
theorem pe_callPV (F : FnG X.prog X.w X.K X.mg X.base CX k f fd ps sp) (G : FnG X.prog X.w X.K X.mg X.base CX k2 g gd qs sq) (hG : X.A.guards = some []) (hr : Room k X.A) (hr2 : Room k2 X.A) (hk : PySem.W.keepIn X.K (.ref f) = true) (hk2 : PySem.W.keepIn X.K (.ref g) = true)
    (hb : KwBinds X.K fd ps ks ix) (hb2 : KwBinds X.K gd qs ks ix) (hx : ∀ σ, PassesAt CX X σ (E σ)) (hfe : PE X fe te) (hkw : PK X kws tk)
    (hc : eval (.Call fe [] kws pos) X.env = (do callWith pos (← eval fe X.env) [] (backTo pos (starEach [] X.env)) (backToKw pos (keywordEach kws X.env))) := by rfl)
    (hall : (backToKw pos (keywordEach kws X.env)).all (·.1.isSome) = true := by rfl) (hks : (backToKw pos (keywordEach kws X.env)).filterMap (·.1) = ks := by rfl)
    (hpl : ((backTo pos (starEach [] X.env)).any (·.1) || (backToKw pos (keywordEach kws X.env)).any (·.1.isNone)) = false := by rfl) :
    PE X (.Call fe [] kws pos) (tCallPV ks.length ix f g sp sq E te tk) := by
  constructor
  intro pins s σ H Q I h
  rw [hc]
  refine wpAny_bind (thn (hfe.run pins s σ H _ I h) fun fv s0 ⟨z, H1, J, rz, q⟩ => ?_)
  have key : ∀ (k : Nat) (f : Addr) (fd : FuncData) (ps : List Str) (sp : Sp), FnG X.prog X.w X.K X.mg X.base CX k f fd ps sp → Room k X.A → PySem.W.keepIn X.K (.ref f) = true → KwBinds X.K fd ps ks ix → z = .ref f → (tk σ H1 fun zs H2 => zs.length = ks.length ∧ sp (perm ix zs) H2 Q (E σ)) →
      wpAny (model X.prog X.w) X.A (callWith pos fv [] (backTo pos (starEach [] X.env)) (backToKw pos (keywordEach kws X.env))) (EP X pins σ Q) X.xe s0 := fun k f fd ps sp F hr hk hb ez qq => by
    subst ez
    cases rz
    refine PySem.W.callWith_KW0 (h₀ := X.base) I.ok.mod.kin hk hall ?_ hpl
    refine thn (hkw.run pos pins s0 σ H1 _ J qq) fun ws s2 ⟨zs, H2, J2, r, hl, q2⟩ => ⟨J2.kIn, ?_⟩
    rw [hks]
    exact wpAny_call (callG F hG hr (hb s2 ws J2.kIn (r.length.symm.trans hl)) (fun e s' y => hx σ pins H2 s2 e s' J2 y) J2 (perm_vals r ix) q2)
  rcases q with ⟨ez, q⟩ | ⟨ez, q⟩
  · exact key _ _ _ _ _ F hr hk hb ez q
  · exact key _ _ _ _ _ G hr2 hk2 hb2 ez q
end
section
variable {W : Wo} {env : List Cell} {px : PX} {P : PR} {t : TA} {te : TE} {f g : Addr} {n : Nat} {pre prf : Spc}
theorem wp_callPS {l : Nat} {ix : List Nat} (h : wpA W t env (fun rs env1 => ∃ (ds : List Nw.D), datAll rs = some ds ∧ ds.length = l ∧ (perm ix ds).length = n ∧ pre ((perm ix ds).map Cell.dat) (fun r _ => P r env1) (fun C fs _ => px C fs env1)) px) :
    wpE W (tCallPS l ix (SPD n pre) W.E t) env P px := fun σ H0 H O X Q q =>
  h σ H0 H O X _ fun vs rs env1 A0 A ⟨ds, er, hl, hn, hp⟩ S w => by
    have er := datAll_map er
    subst er
    refine ⟨by rw [w.dats.len]; exact hl, ?_⟩
    exact spd_dats (m := W.m) S.ok (perm_dd w.dats ix) hn hp (fun u r H0' H' p S2 w2 => q u r env1 H0' H' p (S.trans S2) (w2.base fun l z => S.back z)) fun C d ws fs H0' H' p S2 e f =>
      X C d ws fs env1 σ H0' H' p S2.ok (S.trans S2).go e f
theorem wp_callV (h : wpE W te env (fun z env1 => (z = .dat (.cls f) ∧ wpE W (tCallS (SPD n pre) W.E t) env1 P px) ∨ (z = .dat (.cls g) ∧ wpE W (tCallS (SPD n prf) W.E t) env1 P px)) px) : wpE W (tCallV f g (SPD n pre) (SPD n prf) W.E te t) env P px := fun σ H0 H O X Q q =>
  h σ H0 H O X _ fun v z env1 A0 A hz S w => by
    rcases hz with ⟨ez, h1⟩ | ⟨ez, h1⟩
    · subst ez
      have w : Dd A0 v (.cls f) := w
      cases w
      exact .inl ⟨rfl, h1 σ A0 A S.ok (X.go S.go) Q fun u r env' H0' H' p S2 w2 => q u r env' H0' H' p (S.trans S2) (w2.base fun l y => S.back y)⟩
    · subst ez
      have w : Dd A0 v (.cls g) := w
      cases w
      exact .inr ⟨rfl, h1 σ A0 A S.ok (X.go S.go) Q fun u r env' H0' H' p S2 w2 => q u r env' H0' H' p (S.trans S2) (w2.base fun l y => S.back y)⟩
theorem wp_callPV {l : Nat} {ix : List Nat} (h : wpE W te env (fun z env1 => (z = .dat (.cls f) ∧ wpE W (tCallPS l ix (SPD n pre) W.E t) env1 P px) ∨ (z = .dat (.cls g) ∧ wpE W (tCallPS l ix (SPD n prf) W.E t) env1 P px)) px) : wpE W (tCallPV l ix f g (SPD n pre) (SPD n prf) W.E te t) env P px := fun σ H0 H O X Q q =>
  h σ H0 H O X _ fun v z env1 A0 A hz S w => by
    rcases hz with ⟨ez, h1⟩ | ⟨ez, h1⟩
    · subst ez
      have w : Dd A0 v (.cls f) := w
      cases w
      exact .inl ⟨rfl, h1 σ A0 A S.ok (X.go S.go) Q fun u r env' H0' H' p S2 w2 => q u r env' H0' H' p (S.trans S2) (w2.base fun l y => S.back y)⟩
    · subst ez
      have w : Dd A0 v (.cls g) := w
      cases w
      exact .inr ⟨rfl, h1 σ A0 A S.ok (X.go S.go) Q fun u r env' H0' H' p S2 w2 => q u r env' H0' H' p (S.trans S2) (w2.base fun l y => S.back y)⟩
theorem wp_cls {a : Addr} (p : P (.dat (.cls a)) env) : wpE W (tC (.ref a)) env P px := wp_c (fun _ => .cls a) p
end
theorem room_un {k : Nat} {A : Around} (hr : Room k A) : A.units + 200 < cLine := by
  have := hr.un
  omega
theorem ps_tryAs {X : Cx} {x n : Str} {c : Value} {i : Nat} {body suite : List Stmt} {b₀ : Stmt} {np pos pos' : Pos} {tb : WX → TS} {ts : Addr → Value → Option Addr → TS} (Wout : WX) (hs : X.stack = X.env :: X.outer) (hf : X.env.frame = some X.env.locals) (hN : X.N.Nodup) (hi : X.N[i]? = some n) (hln : X.env.kindOf n = some .local) (hc : Names X x c) (tk : Takes X Wout)
    (hb : ∀ (W : WX) (pn : List (Addr × Obj)) (xe : Value → Shared → Prop), Takes (X.tr pn xe) W → PassesOwn (model X.prog X.w) X.A X.env xe → PSs (X.tr pn xe) body (tb W))
    (hsu : ∀ (a : Addr) (oe : Obj) (cls : Value) (d : Option Addr) (pn : List (Addr × Obj)), Zc cls d oe → (∃ vs, oe.data = .fields vs) → PSs (X.suite a ((a, oe) :: pn)) (b₀ :: suite) (ts a cls d)) :
    PS X (.Try body [.ExceptHandler (some (.Name x np)) (some n) (b₀ :: suite) pos'] [] [] pos) (tTryAs X.K c i ts Wout tb) := ps_try_as hs hf hN hi hln hc tk hb hsu
end Nw

set_option Elab.async false
set_option linter.all false
set_option maxRecDepth 100000
set_option maxHeartbeats 1000000
namespace Nw
open PySem PySem.Spec PyProof.Rows L2
theorem room_unS {k : Nat} {A : Around} {v : Option Value} (hr : Room k A) : (A.mark v).units + 200 < cLine := by
  have := hr.un
  show A.units + 200 < cLine
  omega
section
variable {W : Wo} {env : List Cell} {P : PR} {px pxB : PX} {te : TE} {ta : TA} {d : De} {C : Addr} {fs : List Str}
/-- .. where every error is caught -/
theorem ws_try0 {c : Value} {i : Nat} {ts : Addr → Value → Option Addr → TS} {Wout : WX} {tb : WX → TS} (hm : W.m ≤ i)
    (hb : ∀ Wx : WX, wpS ⟨W.K, W.m, fun σ cls x H => Wx cls x σ H⟩ (tb Wx) env d pxB)
    (hs : ∀ C fs env', pxB C fs env' → i < env'.length ∧ PySem.W.exmOne W.K (.ref C) c = some true ∧ (∀ a dd, wpS W (ts a (.ref C) (some dd)) (env'.set i (.dat (.exc a C dd fs))) { nx := fun e => i < e.length ∧ d.nx (e.set i .non), rt := d.rt, bk := fun e => i < e.length ∧ d.bk (e.set i .non), ct := fun e => i < e.length ∧ d.ct (e.set i .non) } px)) :
    wpS W (tTryAs W.K c i ts Wout tb) env d px := fun σ H0 H O X D e =>
  hb (wAs W.K c i ts Wout D) σ H0 H O (fun C dd vs fs env' σ' H0' H' p O' G hd hf => by
    obtain ⟨hi, eb, h1⟩ := hs C fs env' p
    refine ⟨true, eb, fun bt a ha => ?_, fun bf => by cases bf⟩
    obtain ⟨O2, ow, fx⟩ := Ok.put (B := H') (r := .dat (.exc a C dd fs)) O' (Dd.exc hd hf) hi hm (fun l z => z)
    have G2 : Go W.m env' σ' H0' H' (env'.set i (.dat (.exc a C dd fs))) (σ'.set i (some (.ref a))) H0' H' := ⟨Same.refl _, fun _ _ _ => rfl, fun _ _ h _ => h, fun _ h => h, ow, fx⟩
    have GG := G.trans G2
    refine h1 a dd _ H0' H' O2 (X.go GG) _ ⟨fun e2 σ2 B0 B ⟨hi2, p2⟩ O3 G3 => ?_, fun v r e2 σ2 B0 B p2 O3 G3 w => e.rt v r e2 σ2 B0 B p2 O3 (GG.trans G3) (w.base fun l z => GG.back z), fun e2 σ2 B0 B ⟨hi2, p2⟩ O3 G3 => ?_, fun e2 σ2 B0 B ⟨hi2, p2⟩ O3 G3 => ?_⟩
    · obtain ⟨O4, G4⟩ := O3.clear hi2 hm
      exact e.nx _ _ B0 B p2 O4 ((GG.trans G3).trans G4)
    · obtain ⟨O4, G4⟩ := O3.clear hi2 hm
      exact e.bk _ _ B0 B p2 O4 ((GG.trans G3).trans G4)
    · obtain ⟨O4, G4⟩ := O3.clear hi2 hm
      exact e.ct _ _ B0 B p2 O4 ((GG.trans G3).trans G4)) D ⟨e.nx, e.rt, e.bk, e.ct⟩
end
/-! ### the common defs that refuse -/
def preCheckX (C : Addr) : Spc := fun cs post px => ∃ (d : D) (n : Int), cs = [.dat d, .dat (.int n)] ∧ Gd d ∧ (∀ ds, d = .tup ds → ds.length ≤ 60000) ∧ (isWordD d n = true → post (.dat .non) cs) ∧ (isWordD d n = false → px C [("value", d)] cs)
def preBackX (C : Addr) : Spc := fun cs post px => ∃ (u : List Int) (d : D), cs = [.dat (tw u), .dat d] ∧ u.length ≤ 3000 ∧ Gd d ∧ (∀ ds, d = .tup ds → ds.length ≤ 60000) ∧
  (∀ w, d = tw w → (∀ x ∈ w, 0 ≤ x ∧ x < (u.length : Int)) → post (.dat (tw (backW u w))) cs) ∧ (isWordD d u.length = false → px C [("value", d)] cs)
def preFreeX (C : Addr) : Spc := fun cs post px => ∃ (u : List Int) (d : D), cs = [.dat (tw u), .dat d] ∧ u.length ≤ 3000 ∧ Undo u ∧ Gd d ∧ (∀ ds, d = .tup ds → ds.length ≤ 60000) ∧
  (∀ w, d = tw w → (∀ x ∈ w, 0 ≤ x ∧ x < (u.length : Int)) → post (.dat (tw (freeW u w))) cs) ∧ (isWordD d u.length = false → px C [("value", d)] cs)
end Nw

set_option Elab.async false
set_option linter.all false
set_option maxRecDepth 100000
set_option maxHeartbeats 1000000
namespace Nw.K03
open PySem PySem.Spec PyProof.Rows L2 Nw

def topS (i : Nat) : Stmt := PySem.Challenge.pw_normalwords_k03_faults_of_words.main.body.getD i (.Pass ⟨0, 0, 0, 0⟩)
abbrev s_is_integer : Stmt := topS 4
theorem sc_is_integer : FnScope ["value"] ["value"] (defScope s_is_integer) := ⟨rfl, rfl, rfl, by decide +kernel, rfl, by decide +kernel, by decide +kernel⟩
abbrev s_is_number : Stmt := topS 5
theorem sc_is_number : FnScope ["value"] ["value"] (defScope s_is_number) := ⟨rfl, rfl, rfl, by decide +kernel, rfl, by decide +kernel, by decide +kernel⟩
abbrev s_is_word : Stmt := topS 6
theorem sc_is_word : FnScope ["value", "letters", "letter"] ["value", "letters"] (defScope s_is_word) := ⟨rfl, rfl, rfl, by decide +kernel, rfl, by decide +kernel, by decide +kernel⟩
abbrev s_check_word : Stmt := topS 7
theorem sc_check_word : FnScope ["word", "letters"] ["word", "letters"] (defScope s_check_word) := ⟨rfl, rfl, rfl, by decide +kernel, rfl, by decide +kernel, by decide +kernel⟩
abbrev s_undone : Stmt := topS 8
theorem sc_undone : FnScope ["undo", "word", "letter"] ["undo", "word"] (defScope s_undone) := ⟨rfl, rfl, rfl, by decide +kernel, rfl, by decide +kernel, by decide +kernel⟩
abbrev s_freely_reduced : Stmt := topS 9
theorem sc_freely_reduced : FnScope ["undo", "word", "left", "letter"] ["undo", "word"] (defScope s_freely_reduced) := ⟨rfl, rfl, rfl, by decide +kernel, rfl, by decide +kernel, by decide +kernel⟩
abbrev s_law_box : Stmt := topS 11
theorem sc_law_box : FnScope ["script", "cell"] ["script"] (defScope s_law_box) := ⟨rfl, rfl, rfl, by decide +kernel, rfl, by decide +kernel, by decide +kernel⟩
abbrev s_law_draw : Stmt := topS 12
theorem sc_law_draw : FnScope ["box", "limit", "cells", "k", "digit", "cell", "mixed"] ["box", "limit"] (defScope s_law_draw) := ⟨rfl, rfl, rfl, by decide +kernel, rfl, by decide +kernel, by decide +kernel⟩
abbrev s_law_number : Stmt := topS 13
theorem sc_law_number : FnScope ["value"] ["value"] (defScope s_law_number) := ⟨rfl, rfl, rfl, by decide +kernel, rfl, by decide +kernel, by decide +kernel⟩
abbrev s_law_undo : Stmt := topS 14
theorem sc_law_undo : FnScope ["box", "most", "size", "undo", "k", "a", "b"] ["box", "most"] (defScope s_law_undo) := ⟨rfl, rfl, rfl, by decide +kernel, rfl, by decide +kernel, by decide +kernel⟩
abbrev s_law_word : Stmt := topS 15
theorem sc_law_word : FnScope ["box", "letters", "most", "k"] ["box", "letters", "most"] (defScope s_law_word) := ⟨rfl, rfl, rfl, by decide +kernel, rfl, by decide +kernel, by decide +kernel⟩
abbrev s_law_is_word : Stmt := topS 16
theorem sc_law_is_word : FnScope ["value", "letters", "x"] ["value", "letters"] (defScope s_law_is_word) := ⟨rfl, rfl, rfl, by decide +kernel, rfl, by decide +kernel, by decide +kernel⟩
abbrev s_law_thing : Stmt := topS 17
theorem sc_law_thing : FnScope ["box", "things"] ["box"] (defScope s_law_thing) := ⟨rfl, rfl, rfl, by decide +kernel, rfl, by decide +kernel, by decide +kernel⟩
abbrev s_law_spoilt : Stmt := topS 18
theorem sc_law_spoilt : FnScope ["box", "word", "letters", "at", "others", "shape", "x"] ["box", "word", "letters"] (defScope s_law_spoilt) := ⟨rfl, rfl, rfl, by decide +kernel, rfl, by decide +kernel, by decide +kernel⟩
abbrev s_law_asked : Stmt := topS 19
theorem sc_law_asked : FnScope ["undo", "value", "due", "kept", "k", "told", "e"] ["undo", "value"] (defScope s_law_asked) := ⟨rfl, rfl, rfl, by decide +kernel, rfl, by decide +kernel, by decide +kernel⟩
abbrev s_law_all : Stmt := topS 20
theorem sc_law_all : FnScope ["script", "box", "k", "undo", "word", "value"] ["script"] (defScope s_law_all) := ⟨rfl, rfl, rfl, by decide +kernel, rfl, by decide +kernel, by decide +kernel⟩
abbrev s_law : Stmt := topS 21
theorem sc_law : FnScope ["script"] ["script"] (defScope s_law) := ⟨rfl, rfl, rfl, by decide +kernel, rfl, by decide +kernel, by decide +kernel⟩
abbrev s_init_InvalidWord : Stmt := inClass (topS 2) 0
theorem sc_init_InvalidWord : FnScope ["self", "value"] ["self", "value"] (defScope s_init_InvalidWord) := ⟨rfl, rfl, rfl, by decide +kernel, rfl, by decide +kernel, by decide +kernel⟩
structure Txt (K : PySem.W.Frag) (mg : Str → Option Value) where
  f_is_integer : Addr
  d_is_integer : FuncData
  F_is_integer : Fun K "is_integer" "is_integer" s_is_integer f_is_integer d_is_integer
  b_is_integer : Binds K d_is_integer ["value"] []
  g_is_integer : mg "is_integer" = some (.ref f_is_integer)
  f_is_number : Addr
  d_is_number : FuncData
  F_is_number : Fun K "is_number" "is_number" s_is_number f_is_number d_is_number
  b_is_number : Binds K d_is_number ["value"] []
  g_is_number : mg "is_number" = some (.ref f_is_number)
  f_is_word : Addr
  d_is_word : FuncData
  F_is_word : Fun K "is_word" "is_word" s_is_word f_is_word d_is_word
  b_is_word : Binds K d_is_word ["value", "letters"] []
  g_is_word : mg "is_word" = some (.ref f_is_word)
  f_check_word : Addr
  d_check_word : FuncData
  F_check_word : Fun K "check_word" "check_word" s_check_word f_check_word d_check_word
  b_check_word : Binds K d_check_word ["word", "letters"] []
  g_check_word : mg "check_word" = some (.ref f_check_word)
  f_undone : Addr
  d_undone : FuncData
  F_undone : Fun K "undone" "undone" s_undone f_undone d_undone
  b_undone : Binds K d_undone ["undo", "word"] []
  g_undone : mg "undone" = some (.ref f_undone)
  f_freely_reduced : Addr
  d_freely_reduced : FuncData
  F_freely_reduced : Fun K "freely_reduced" "freely_reduced" s_freely_reduced f_freely_reduced d_freely_reduced
  b_freely_reduced : Binds K d_freely_reduced ["undo", "word"] []
  g_freely_reduced : mg "freely_reduced" = some (.ref f_freely_reduced)
  f_law_box : Addr
  d_law_box : FuncData
  F_law_box : Fun K "_law_box" "_law_box" s_law_box f_law_box d_law_box
  b_law_box : Binds K d_law_box ["script"] []
  g_law_box : mg "_law_box" = some (.ref f_law_box)
  f_law_draw : Addr
  d_law_draw : FuncData
  F_law_draw : Fun K "_law_draw" "_law_draw" s_law_draw f_law_draw d_law_draw
  b_law_draw : Binds K d_law_draw ["box", "limit"] []
  g_law_draw : mg "_law_draw" = some (.ref f_law_draw)
  f_law_number : Addr
  d_law_number : FuncData
  F_law_number : Fun K "_law_number" "_law_number" s_law_number f_law_number d_law_number
  b_law_number : Binds K d_law_number ["value"] []
  g_law_number : mg "_law_number" = some (.ref f_law_number)
  f_law_undo : Addr
  d_law_undo : FuncData
  F_law_undo : Fun K "_law_undo" "_law_undo" s_law_undo f_law_undo d_law_undo
  b_law_undo : Binds K d_law_undo ["box", "most"] []
  g_law_undo : mg "_law_undo" = some (.ref f_law_undo)
  f_law_word : Addr
  d_law_word : FuncData
  F_law_word : Fun K "_law_word" "_law_word" s_law_word f_law_word d_law_word
  b_law_word : Binds K d_law_word ["box", "letters", "most"] []
  g_law_word : mg "_law_word" = some (.ref f_law_word)
  f_law_is_word : Addr
  d_law_is_word : FuncData
  F_law_is_word : Fun K "_law_is_word" "_law_is_word" s_law_is_word f_law_is_word d_law_is_word
  b_law_is_word : Binds K d_law_is_word ["value", "letters"] []
  g_law_is_word : mg "_law_is_word" = some (.ref f_law_is_word)
  f_law_thing : Addr
  d_law_thing : FuncData
  F_law_thing : Fun K "_law_thing" "_law_thing" s_law_thing f_law_thing d_law_thing
  b_law_thing : Binds K d_law_thing ["box"] []
  g_law_thing : mg "_law_thing" = some (.ref f_law_thing)
  f_law_spoilt : Addr
  d_law_spoilt : FuncData
  F_law_spoilt : Fun K "_law_spoilt" "_law_spoilt" s_law_spoilt f_law_spoilt d_law_spoilt
  b_law_spoilt : Binds K d_law_spoilt ["box", "word", "letters"] []
  g_law_spoilt : mg "_law_spoilt" = some (.ref f_law_spoilt)
  f_law_asked : Addr
  d_law_asked : FuncData
  F_law_asked : Fun K "_law_asked" "_law_asked" s_law_asked f_law_asked d_law_asked
  b_law_asked : Binds K d_law_asked ["undo", "value"] []
  g_law_asked : mg "_law_asked" = some (.ref f_law_asked)
  f_law_all : Addr
  d_law_all : FuncData
  F_law_all : Fun K "_law_all" "_law_all" s_law_all f_law_all d_law_all
  b_law_all : Binds K d_law_all ["script"] []
  g_law_all : mg "_law_all" = some (.ref f_law_all)
  f_law : Addr
  d_law : FuncData
  F_law : Fun K "law" "law" s_law f_law d_law
  b_law : Binds K d_law ["script"] []
  g_law : mg "law" = some (.ref f_law)
  z_abs : mg "abs" = none
  z_all : mg "all" = none
  z_bool : mg "bool" = none
  z_int : mg "int" = none
  z_isinstance : mg "isinstance" = none
  z_len : mg "len" = none
  z_list : mg "list" = none
  z_range : mg "range" = none
  z_repr : mg "repr" = none
  z_str : mg "str" = none
  z_tuple : mg "tuple" = none
  a_InvalidWord : Addr
  i_InvalidWord : Addr
  di_InvalidWord : FuncData
  x_InvalidWord : ExC K mg "InvalidWord" ["value"] a_InvalidWord i_InvalidWord
  Fi_InvalidWord : Fun K "__init__" "InvalidWord.__init__" s_init_InvalidWord i_InvalidWord di_InvalidWord
  bi_InvalidWord : Binds K di_InvalidWord ["self", "value"] []
  te_InvalidWord_InvalidWord : PySem.W.exmOne K (.ref a_InvalidWord) (.ref a_InvalidWord) = some true
local macro_rules
  | `(tactic| walk_at "nz") => `(tactic| try dsimp only [cxOf, Cx.nox, Cx.wish, Wo.inn, putR, List.set, List.length, List.replicate, List.cons_append, List.nil_append, List.append, List.map, Nat.reduceAdd, Nat.reduceLT, Nat.reduceSub, Int.reduceToNat, LcTurn])
local macro_rules
  | `(tactic| walk_at "nws") => `(tactic| ((repeat' (first
    | ((with_reducible show wpS _ _ _ _ _); first
      | ((with_reducible show wpS _ (tSeq (tAsg _ _) _) _ _ _); refine ws_seq ?_)
      | ((with_reducible show wpS _ (tSeq (tIfS _ (tRet _) tNext) _) _ _ _); refine ws_seq ?_)
      | ((with_reducible show wpS _ (tSeq (tDrop _) _) _ _ _); refine ws_seq ?_)
      | ((with_reducible show wpS _ (tSeq (tAug _ _ _) _) _ _ _); refine ws_seq ?_)
      | ((with_reducible show wpS _ tNext _ _ _); refine ws_next ?_)
      | ((with_reducible show wpS _ tBreak _ _ _); refine ws_brk ?_)
      | ((with_reducible show wpS _ tCont _ _ _); refine ws_cont ?_)
      | ((with_reducible show wpS _ (tRet _) _ _ _); refine ws_ret ?_)
      | ((with_reducible show wpS _ (tAsg _ (gName _)) _ _ _); refine ws_asg (Nat.le_of_ble_eq_true rfl) ?_)
      | ((with_reducible show wpS _ (tAsg _ _) _ _ _); refine ws_asgG ?_)
      | ((with_reducible show wpS _ (tIfS _ _ _) _ _ _); refine ws_if ?_)
      | ((with_reducible show wpS _ (tDrop _) _ _ _); refine ws_drop ?_)
      | fail)
    | ((with_reducible show wpE _ _ _ _ _); first
      | ((with_reducible show wpE _ (tVar _) _ _ _); first | refine wp_var rfl ?_ | refine wp_varO rfl rfl ?_ | fail)
      | ((with_reducible show wpE _ (tC _) _ _ _); first | refine wp_int ?_ | refine wp_bl ?_ | refine wp_non ?_ | refine wp_str ?_ | refine wp_ty ?_ | refine wp_cls ?_ | fail)
      | ((with_reducible show wpE _ (tOp _ _ _) _ _ _); refine wp_op ?_)
      | ((with_reducible show wpE _ (tUn _ _) _ _ _); refine wp_un ?_)
      | ((with_reducible show wpE _ (tCB _ _) _ _ _); refine wp_cb ?_)
      | ((with_reducible show wpE _ (tChain _ _ _ _ _) _ _ _); refine wp_chain ?_)
      | ((with_reducible show wpE _ (tAndV _ _) _ _ _); refine wp_andV ?_)
      | ((with_reducible show wpE _ (tOrV _ _) _ _ _); refine wp_orV ?_)
      | ((with_reducible show wpE _ (tNotV _) _ _ _); refine wp_notV ?_)
      | ((with_reducible show wpE _ (tIf _ _ _) _ _ _); refine wp_ifE ?_)
      | ((with_reducible show wpE _ (tTup _) _ _ _); refine wp_tup ?_)
      | ((with_reducible show wpE _ (tLst _) _ _ _); refine wp_lst ?_)
      | ((with_reducible show wpE _ (tSl (rSlA _) _ _ _) _ _ _); refine wp_slT ?_)
      | ((with_reducible show wpE _ (tSl (rSlL _) _ _ _) _ _ _); refine wp_slL ?_)
      | fail)
    | ((with_reducible show wpO _ _ _ _ _ _ _); first
      | refine wo_int ?_
      | refine wo_bl ?_
      | refine wo_eqI ?_
      | refine wo_neI ?_
      | refine wo_eqB ?_
      | refine wo_ixL (.al _ _ rfl) rfl ?_
      | refine wo_ixL (.lst _) rfl ?_
      | refine wo_ixL (.own _) rfl ?_
      | refine wo_ixT rfl ?_
      | fail)
    | ((with_reducible show wpU _ _ _ _ _ _); first | refine wu_neg ?_ | fail)
    | ((with_reducible show wpC _ _ _ _ _ _); first
      | refine wc_len (.tup _) ?_
      | refine wc_len (.lst _) ?_
      | refine wc_len (.al _ _ rfl) ?_
      | refine wc_int ?_
      | refine wc_abs ?_
      | refine wc_isBool rfl ?_
      | refine wc_tuple (.lst _) ?_
      | fail)
    | ((with_reducible show wpA _ _ _ _ _); first | refine wpa_cons ?_ | refine wp_nil ?_ | fail)
    | ((with_reducible show wpT _ _ _ _ _); first
      | ((with_reducible show wpT _ (tTest _) _ _ _); refine wp_tTest ?_)
      | ((with_reducible show wpT _ (tB _) _ _ _); refine wp_tB ?_)
      | ((with_reducible show wpT _ (tNot _) _ _ _); refine wp_not ?_)
      | ((with_reducible show wpT _ (tAnd _ _) _ _ _); refine wp_and ?_)
      | ((with_reducible show wpT _ (tOr _ _) _ _ _); refine wp_or ?_)
      | ((with_reducible show wpT _ tYes _ _ _); refine wt_yes ?_)
      | fail)
    | ((with_reducible show wpG _ _ _ _ _ _); first
      | refine wg_name (Nat.le_of_ble_eq_true rfl) (Nat.le_of_ble_eq_true rfl) ?_
      | refine wg_set ?_
      | refine wg_tup rfl ?_
      | fail)
    | ((with_reducible show wpGs _ _ _ _ _ _); first | refine wg_cons ?_ | refine wg_nil ?_ | fail)
    | ((with_reducible show wpP _ _ _ _ _); first | refine wp_noPart ?_ | refine wp_part ?_ | fail)
    | ((with_reducible show ∃ _, @Eq Res _ _ ∧ _); refine ⟨_, rfl, ?_⟩)
    | ((with_reducible show ∃ _, @Eq (Option (List D)) _ _ ∧ _ ≤ _ ∧ _); refine ⟨_, rfl, Nat.le_of_ble_eq_true rfl, ?_⟩)
    | ((with_reducible show ∃ _ _ _, @Eq Res _ _ ∧ _ = _ ∧ _ = _ ∧ _); refine ⟨_, _, _, rfl, rfl, rfl, ?_⟩)
    | ((with_reducible show @LT.lt Nat _ _ _ ∧ wpS _ _ _ _ _); refine ⟨Nat.le_of_ble_eq_true rfl, ?_⟩)
    | ((with_reducible show _ < List.length _ ∧ _); refine ⟨Nat.le_of_ble_eq_true rfl, ?_⟩)
    | fail)) <;> try dsimp only [cxOf, Cx.nox, Cx.wish, Wo.inn, putR, List.set, List.length, List.replicate, List.cons_append, List.nil_append, List.append, List.map, Nat.reduceAdd, Nat.reduceLT, Nat.reduceSub, Int.reduceToNat]))
local macro_rules
  | `(tactic| walk_at "nwb") => `(tactic| (walk_at "nws"; (repeat ((first
    | ((with_reducible show (true = true → _) ∧ (true = false → _)); refine ⟨fun _ => ?_, (fun z => by cases z)⟩)
    | ((with_reducible show (false = true → _) ∧ (false = false → _)); refine ⟨(fun z => by cases z), fun _ => ?_⟩)
    | ((with_reducible show ((!true) = true → _) ∧ ((!true) = false → _)); refine ⟨(fun z => by cases z), fun _ => ?_⟩)
    | ((with_reducible show ((!false) = true → _) ∧ ((!false) = false → _)); refine ⟨fun _ => ?_, (fun z => by cases z)⟩)); walk_at "nws"))))

section
variable {P : Program} {w : World} {K : PySem.W.Frag} {mg : Str → Option Value} {base : Heap}

theorem ok_init_InvalidWord (T : Txt K mg) : FnOk P w K mg base CX0 1 T.i_InvalidWord T.di_InvalidWord ["self", "value"] (spIn T.a_InvalidWord ["value"]) := by
  refine Fun.ok T.Fi_InvalidWord sc_init_InvalidWord (fun vs H Q E h => ?_) (fun cdv A outer s H vs Q E hr h => ⟨_, pss_one (ps_ost (pv 0) (pv 1)), init1 T.x_InvalidWord.T (T.x_InvalidWord.no _ (by simp)) h _ rfl⟩)
  obtain ⟨a, ws, rfl, hl, _⟩ := h
  rw [List.length_cons, hl]
  rfl

theorem ok_law_draw (T : Txt K mg) : FnG P w K mg base CX0 1 T.f_law_draw T.d_law_draw ["box", "limit"] (SPD 2 preDraw) := by
  refine okG T.F_law_draw sc_law_draw (fun vs H Q E h => h.1) (fun cdv A outer s H vs Q E hG hr h => ?_)
  have nd := sc_law_draw.nd
  refine ⟨_, (pss_cons (ps_set (i := 2) nd rfl (.inl rfl) (pe_ix ix_list (pv 0) pe_int (fun _ _ => rfl)))
      (pss_cons (ps_asg (pe_op op_add (pe_ix ix_list (pv 0) pe_int (fun _ _ => rfl)) pe_int) (pg_sub (pv 0) pe_int set_list))
      (pss_cons (ps_for PassesOwn.never rfl (pi_range1 (by rfl) T.z_range (pa_cons (pe_callB call_len_seq (by rfl) T.z_len (by decide +kernel) (pa_cons (pv 2) pa_nil)) pa_nil)) (pg_name (i := 3) nd rfl (.inl rfl)) (pss_one (ps_if (PW.pt (pw_and (pt_cmpR op_eq (pe_ix ix_list (pv 0) pe_int (fun _ _ => rfl)) pe_int (nomark _)) (pw_and1 (pt_cmpR op_lt (pe_ix ix_list (pv 0) pe_int (fun _ _ => rfl)) (pe_callB call_len_seq (by rfl) T.z_len (by decide +kernel) (pa_cons (pv 2) pa_nil)) (nomark _))))) (pss_cons (ps_if (pt_cmpR op_ge (pe_callB call_abs (by rfl) T.z_abs (by decide +kernel) (pa_cons (pe_ix ix_list (pv 2) (pe_ix ix_list (pv 0) pe_int (fun _ _ => rfl)) (fun _ _ => rfl)) pa_nil)) (pe_op op_pow pe_int pe_int) (nomark _)) (pss_one (ps_asg (pe_callB call_abs (by rfl) T.z_abs (by decide +kernel) (pa_cons (pe_ix ix_list (pv 2) (pe_ix ix_list (pv 0) pe_int (fun _ _ => rfl)) (fun _ _ => rfl)) pa_nil)) (pg_sub (pv 0) pe_int set_list))) pss_nil)
      (pss_one (ps_asg (pe_op op_add (pe_ix ix_list (pv 0) pe_int (fun _ _ => rfl)) pe_int) (pg_sub (pv 0) pe_int set_list)))) (pss_one ps_break))))
      (pss_cons (ps_if (pt_cmpR op_gt (pe_ix ix_list (pv 0) pe_int (fun _ _ => rfl)) pe_int (nomark _)) (pss_cons (ps_set (i := 4) nd rfl (.inl rfl) (pe_op op_mod (pe_callTy call_int1 (by rfl) T.z_int (by decide +kernel) (pa_cons (pe_ix ix_list (pv 0) pe_int (fun _ _ => rfl)) pa_nil)) (pv 1)))
      (pss_cons (ps_asg (pe_op op_fdiv (pe_ix ix_list (pv 0) pe_int (fun _ _ => rfl)) (pv 1)) (pg_sub (pv 0) pe_int set_list))
      (pss_one (ps_ret (pv 4))))) pss_nil)
      (pss_cons (ps_set (i := 5) nd rfl (.inl rfl) pe_int)
      (pss_cons (ps_if (pt_cmpR op_gt (pe_callB call_len_seq (by rfl) T.z_len (by decide +kernel) (pa_cons (pv 2) pa_nil)) pe_int (nomark _)) (pss_one (ps_set (i := 5) nd rfl (.inl rfl) (pe_callB call_abs (by rfl) T.z_abs (by decide +kernel) (pa_cons (pe_ix ix_list (pv 2) (pe_op op_mod (pe_callTy call_int1 (by rfl) T.z_int (by decide +kernel) (pa_cons (pe_ix ix_list (pv 0) pe_int (fun _ _ => rfl)) pa_nil)) (pe_callB call_len_seq (by rfl) T.z_len (by decide +kernel) (pa_cons (pv 2) pa_nil))) (fun _ _ => rfl)) pa_nil)))) pss_nil)
      (pss_cons (ps_set (i := 6) nd rfl (.inl rfl) (pe_op op_mod (pe_callTy call_int1 (by rfl) T.z_int (by decide +kernel) (pa_cons (pe_op op_add (pe_op op_add (pe_op op_mul (pv 5) pe_int) (pe_op op_mul (pe_ix ix_list (pv 0) pe_int (fun _ _ => rfl)) pe_int)) pe_int) pa_nil)) pe_int))
      (pss_cons (ps_set (i := 6) nd rfl (.inl rfl) (pe_op op_mod (pe_callTy call_int1 (by rfl) T.z_int (by decide +kernel) (pa_cons (pe_op op_add (pe_op op_add (pe_op op_mul (pv 6) (pv 6)) (pe_op op_mul (pe_ix ix_list (pv 0) pe_int (fun _ _ => rfl)) pe_int)) (pv 5)) pa_nil)) pe_int))
      (pss_cons (ps_set (i := 6) nd rfl (.inl rfl) (pe_op op_mod (pe_callTy call_int1 (by rfl) T.z_int (by decide +kernel) (pa_cons (pe_op op_add (pe_op op_add (pe_op op_mul (pe_op op_mul (pv 6) (pv 6)) pe_int) (pe_op op_fdiv (pv 5) pe_int)) pe_int) pa_nil)) pe_int))
      (pss_one (ps_ret (pe_op op_mod (pe_callTy call_int1 (by rfl) T.z_int (by decide +kernel) (pa_cons (pe_op op_fdiv (pv 6) pe_int) pa_nil)) (pv 1))))))))))))), body_of (n := 2) (k := 5) (m := 1) (K := K) rfl h fun cs post px hc pre => ?_⟩
  clear h
  obtain ⟨b, n, rfl, ⟨ns, a, c, e, rfl, hl, ha, hb, he⟩, n0, n1, q⟩ := pre
  refine ⟨rfl, ?_⟩
  walk_at "nz"
  walk_at "nws"
  -- for k in range(len(cells))
  walk_at "nz"
  refine ws_cut (fun env => ∃ c e ck, env = [.lst [.lst (ns.map D.int), .int (a + 1), .int c, .int e], .dat (.int n), .dat (.lst (ns.map D.int)), ck, .non, .non, .non] ∧ 0 ≤ c ∧ 0 ≤ e) ?_ ?_
  · refine ws_forR1 ?_
    walk_at "nws"
    refine ⟨_, fun _ env => ∃ c e ck, env = [.lst [.lst (ns.map D.int), .int (a + 1), .int c, .int e], .dat (.int n), .dat (.lst (ns.map D.int)), ck, .non, .non, .non] ∧ 0 ≤ c ∧ 0 ≤ e, rfl, by omega, ?_, ⟨c, e, .non, rfl, hb, he⟩, ?_, fun env h => h⟩
    · rw [List.length_map]
      omega
    · rintro i env hi ⟨c, e, ck, rfl, hb, he⟩
      walk_at "nws"
      refine ⟨fun h1 => ?_, fun h1 => ⟨fun h2 => (by cases h2), fun _ => ?_⟩⟩
      · walk_at "nz"
        walk_at "nws"
        refine ⟨fun h2 => ?_, fun h2 => ?_⟩
        · have h3 := of_decide_eq_true h2
          obtain ⟨x, hx⟩ := atI_int (ns := ns) he (by rw [List.length_map] at h3; exact h3)
          refine ws_cut (fun env => ∃ c, env = [.lst [.lst (ns.map D.int), .int (a + 1), .int c, .int e], .dat (.int n), .dat (.lst (ns.map D.int)), .dat (.int i), .non, .non, .non] ∧ 0 ≤ c) ?_ ?_
          · walk_at "nws"
            refine wo_ixL (.lst _) hx ?_
            walk_at "nws"
            refine wo_intC ⟨by decide, by decide, by decide⟩ ?_
            walk_at "nws"
            refine ⟨fun h4 => ?_, fun h4 => ?_⟩
            · walk_at "nws"
              refine wo_ixL (.lst _) hx ?_
              walk_at "nws"
              exact ⟨_, rfl, abs_nonneg x⟩
            · walk_at "nws"
              exact ⟨_, rfl, hb⟩
          · rintro env ⟨c, rfl, hb⟩
            walk_at "nws"
            exact ⟨_, _, _, rfl, hb, by omega⟩
        · walk_at "nws"
          exact ⟨_, _, _, rfl, hb, he⟩
      · walk_at "nws"
        exact ⟨_, _, _, rfl, hb, he⟩
  · rintro env ⟨c, e, ck, rfl, hb, he⟩
    refine ws_seq ?_
    walk_at "nws"
    refine ⟨fun h1 => ?_, fun h1 => ?_⟩
    · walk_at "nws"
      refine wo_intC n0 ?_
      walk_at "nws"
      refine wo_intC ⟨n0, n1⟩ ?_
      walk_at "nws"
      exact ⟨rfl, rfl, q _ _ ⟨ns, _, _, _, rfl, hl, by omega, Int.ediv_nonneg hb (by omega), he⟩ (Int.emod_nonneg _ (by omega)) (Int.emod_lt_of_pos _ n0)⟩
    · walk_at "nws"
      refine ws_cut (fun env => ∃ y, env = [.lst [.lst (ns.map D.int), .int (a + 1), .int c, .int e], .dat (.int n), .dat (.lst (ns.map D.int)), ck, .non, .dat (.int y), .non]) ?_ ?_
      · walk_at "nws"
        refine ⟨fun h2 => ?_, fun h2 => ?_⟩
        · walk_at "nws"
          have h3 := of_decide_eq_true h2
          refine wo_intC h3 ?_
          rw [List.length_map] at h3
          obtain ⟨x, hx⟩ := atI_int (ns := ns) (i := (a + 1) % ((ns.map D.int).length : Int)) (Int.emod_nonneg _ (by rw [List.length_map]; omega)) (by rw [List.length_map]; exact Int.emod_lt_of_pos _ h3)
          refine wo_ixL (.lst _) hx ?_
          walk_at "nws"
          exact ⟨_, rfl⟩
        · walk_at "nws"
          exact ⟨_, rfl⟩
      · rintro env ⟨y, rfl⟩
        walk_at "nws"
        have c1 : CMul y 48271 := .inr ⟨by decide, by decide⟩
        refine wo_intC c1 ?_
        walk_at "nws"
        refine wo_intC (.inr ⟨by decide, by decide⟩) ?_
        walk_at "nws"
        refine wo_intC (show (0 : Int) < 2147483647 by decide) ?_
        walk_at "nws"
        generalize hm : (y * 48271 + (a + 1) * 69621 + 7) % 2147483647 = m1
        have m0 : 0 ≤ m1 := by rw [← hm]; exact Int.emod_nonneg _ (by decide)
        have m9 : m1 < 2147483647 := by rw [← hm]; exact Int.emod_lt_of_pos _ (by decide)
        refine wo_intC (.inl ⟨by omega, by omega⟩) ?_
        walk_at "nws"
        refine wo_intC (.inr ⟨by decide, by decide⟩) ?_
        walk_at "nws"
        refine wo_intC (show (0 : Int) < 1000003 by decide) ?_
        walk_at "nws"
        generalize hk : (m1 * m1 + (a + 1) * 7919 + y) % 1000003 = m2
        have k0 : 0 ≤ m2 := by rw [← hk]; exact Int.emod_nonneg _ (by decide)
        have k9 : m2 < 1000003 := by rw [← hk]; exact Int.emod_lt_of_pos _ (by decide)
        refine wo_intC (.inl ⟨by omega, by omega⟩) ?_
        walk_at "nws"
        refine wo_intC (.inr ⟨by decide, by decide⟩) ?_
        walk_at "nws"
        refine wo_intC ⟨by decide, by decide⟩ ?_
        walk_at "nws"
        refine wo_intC (show (0 : Int) < 998244353 by decide) ?_
        walk_at "nws"
        refine wo_intC ⟨by decide, by decide⟩ ?_
        walk_at "nws"
        refine wo_intC n0 ?_
        exact ⟨rfl, rfl, q _ _ ⟨ns, _, _, _, rfl, hl, by omega, hb, he⟩ (Int.emod_nonneg _ (by omega)) (Int.emod_lt_of_pos _ n0)⟩


theorem ok_law_word (T : Txt K mg) : FnG P w K mg base CX0 2 T.f_law_word T.d_law_word ["box", "letters", "most"] (SPD 3 preWord) := by
  refine okG T.F_law_word sc_law_word (fun vs H Q E h => h.1) (fun cdv A outer s H vs Q E hG hr h => ?_)
  have nd := sc_law_word.nd
  refine ⟨_, (pss_one (ps_ret (pe_callTy call_tuple_of (by rfl) T.z_tuple (by decide +kernel) (pa_cons (pe_lc (own := [("k", 3)]) (g := gName 3) (tt := tYes) rfl nd (pi_range1 (by rfl) T.z_range (pa_cons (pe_callG (ok_law_draw T) hG (hr.mono (by decide)) (by rfl) T.g_law_draw T.F_law_draw.kp T.b_law_draw pass0 (pa_cons (pv 0) (pa_cons (pe_op op_add (pv 2) pe_int) pa_nil))) pa_nil)) (blkOk_by (N := ["box", "letters", "most", "k"]) (sc := defScope s_law_word) (by decide +kernel)) (fun _ _ _ _ _ => pg_name (i := 3) nd rfl (Or.inl rfl)) (fun _ _ _ _ _ => pts_nil) (fun _ _ _ _ _ => (pe_callG (ok_law_draw T) hG (hr.mono (by decide)) (by rfl) T.g_law_draw T.F_law_draw.kp T.b_law_draw pass0 (pa_cons (pv 0) (pa_cons (pv 1) pa_nil))))) pa_nil)))), body_of (n := 3) (k := 1) (m := 1) (K := K) rfl h fun cs post px hc pre => ?_⟩
  clear h
  obtain ⟨b, k, m, rfl, hb, k0, k9, m0, m9, q⟩ := pre
  refine ⟨rfl, ?_⟩
  walk_at "nz"
  walk_at "nws"
  refine wp_lcR1 ?_
  walk_at "nws"
  refine wp_draw ?_
  walk_at "nws"
  refine ⟨_, _, rfl, _, rfl, hb, by omega, by omega, fun b1 r1 hb1 h0 h1 => ?_⟩
  walk_at "nws"
  refine ⟨_, .non, fun i acc env => ∃ b ns, acc = ns.map D.int ∧ (∀ x ∈ ns, 0 ≤ x ∧ x < k) ∧ BoxD b ∧ env = [.lst b, .dat (.int k), .dat (.int m), .non], rfl, by omega, by omega, rfl, ?_, ⟨b1, [], rfl, fun x hx => by simp at hx, hb1, rfl⟩, ?_, ?_⟩
  · rintro i acc env ⟨b, ns, rfl, _, _, rfl⟩
    rfl
  · rintro i acc env hi ⟨b, ns, rfl, hn, hb, rfl⟩
    walk_at "nz"
    walk_at "nws"
    refine ⟨fun _ => ?_, fun z => by cases z⟩
    refine wp_draw ?_
    walk_at "nws"
    refine ⟨_, _, rfl, _, rfl, hb, k0, k9, fun b2 r2 hb2 h2 h3 => ?_⟩
    refine ⟨_, rfl, b2, ns ++ [r2], (map_snoc ns r2), fun x hx => ?_, hb2, rfl⟩
    rcases List.mem_append.mp hx with z | z
    · exact hn x z
    · rw [List.mem_singleton.mp z]
      exact ⟨h2, h3⟩
  · rintro acc env ⟨b, ns, rfl, hn, hb, rfl⟩ hl
    walk_at "nws"
    rw [List.length_map] at hl
    exact ⟨rfl, rfl, q b ns hb (by omega) hn⟩


theorem ok_is_integer (T : Txt K mg) : FnG P w K mg base CX0 1 T.f_is_integer T.d_is_integer ["value"] (SPD 1 preInt) := by
  refine okG T.F_is_integer sc_is_integer (fun vs H Q E h => h.1) (fun cdv A outer s H vs Q E hG hr h => ?_)
  have nd := sc_is_integer.nd
  refine ⟨_, (pss_one (ps_ret (pe_and (pe_callB call_isi (by rfl) T.z_isinstance (by decide +kernel) (pa_cons (pv 0) (pa_cons (pe_bltn (v := .ty "int") (by rfl) T.z_int (by decide +kernel) rfl) pa_nil))) (pe_one (pe_not (pe_callB call_isi (by rfl) T.z_isinstance (by decide +kernel) (pa_cons (pv 0) (pa_cons (pe_bltn (v := .ty "bool") (by rfl) T.z_bool (by decide +kernel) rfl) pa_nil)))))))), body_of (n := 1) (k := 0) (m := 0) (K := K) rfl h fun cs post px hc pre => ?_⟩
  clear h
  obtain ⟨d, rfl, hd, q⟩ := pre
  refine ⟨rfl, ?_⟩
  walk_at "nz"
  walk_at "nws"
  refine wc_isInt hd ?_
  refine ⟨_, rfl, fun h => ?_, fun h => ?_⟩
  · walk_at "nws"
    refine wc_isBool hd ?_
    refine ⟨_, rfl, ?_⟩
    rw [← isW_eq, h, Bool.true_and] at q
    exact ⟨rfl, rfl, q⟩
  · rw [← isW_eq, h, Bool.false_and] at q
    exact ⟨rfl, rfl, q⟩


theorem ok_is_number (T : Txt K mg) : FnG P w K mg base CX0 2 T.f_is_number T.d_is_number ["value"] (SPD 1 preNum) := by
  refine okG T.F_is_number sc_is_number (fun vs H Q E h => h.1) (fun cdv A outer s H vs Q E hG hr h => ?_)
  have nd := sc_is_number.nd
  refine ⟨_, (pss_one (ps_ret (pe_and (pe_callG (ok_is_integer T) hG (hr.mono (by decide)) (by rfl) T.g_is_integer T.F_is_integer.kp T.b_is_integer pass0 (pa_cons (pv 0) pa_nil)) (pe_one (pe_cmpR op_ge (pv 0) pe_int (nomark _)))))), body_of (n := 1) (k := 0) (m := 0) (K := K) rfl h fun cs post px hc pre => ?_⟩
  clear h
  obtain ⟨d, rfl, hd, q⟩ := pre
  refine ⟨rfl, ?_⟩
  walk_at "nz"
  walk_at "nws"
  refine wp_callD0 ?_
  walk_at "nws"
  refine ⟨_, rfl, rfl, d, rfl, hd, ?_⟩
  refine ⟨_, rfl, fun h => ?_, fun h => ?_⟩
  · cases d with
    | int i =>
      walk_at "nws"
      exact ⟨rfl, rfl, q⟩
    | _ => cases h
  · have e : d.isNat = false := by cases d <;> first | rfl | cases h
    rw [e] at q
    exact ⟨rfl, rfl, q⟩


theorem ok_is_word (T : Txt K mg) : FnG P w K mg base CX0 3 T.f_is_word T.d_is_word ["value", "letters"] (SPD 2 preIsWord) := by
  refine okG T.F_is_word sc_is_word (fun vs H Q E h => h.1) (fun cdv A outer s H vs Q E hG hr h => ?_)
  have nd := sc_is_word.nd
  refine ⟨_, (pss_cons (ps_if (pt_not (pt_val (pe_callB call_isi (by rfl) T.z_isinstance (by decide +kernel) (pa_cons (pv 0) (pa_cons (pe_bltn (v := .ty "tuple") (by rfl) T.z_tuple (by decide +kernel) rfl) pa_nil))))) (pss_one (ps_ret pe_bl)) pss_nil)
      (pss_one (ps_ret (pe_callB (cr_all rfl) (by rfl) T.z_all (by decide +kernel) (pa_cons (pe_lc (own := [("letter", 2)]) (g := gName 2) (tt := tYes) rfl nd (pi_tup (pv 0)) (blkOk_by (N := ["value", "letters", "letter"]) (sc := defScope s_is_word) (by decide +kernel)) (fun _ _ _ _ _ => pg_name (i := 2) nd rfl (Or.inl rfl)) (fun _ _ _ _ _ => pts_nil) (fun _ _ _ _ _ => (pe_and (pe_callG (ok_is_number T) hG (hr.mono (by decide)) (by rfl) T.g_is_number T.F_is_number.kp T.b_is_number pass0 (pa_cons (pv 2) pa_nil)) (pe_one (pe_cmpR op_lt (pv 2) (pv 1) (nomark _)))))) pa_nil))))), body_of (n := 2) (k := 1) (m := 0) (K := K) rfl h fun cs post px hc pre => ?_⟩
  clear h
  obtain ⟨d, n, rfl, gd, hl, q⟩ := pre
  refine ⟨rfl, ?_⟩
  walk_at "nz"
  walk_at "nws"
  refine wc_isTuple gd.pl ?_
  walk_at "nws"
  refine ⟨fun h => ?_, fun h => ?_⟩
  · walk_at "nws"
    have e : isWordD d n = false := by cases d <;> first | rfl | cases h
    rw [e] at q
    exact ⟨rfl, rfl, q⟩
  · cases d with
    | tup ds =>
      walk_at "nws"
      refine wp_lcT ?_
      walk_at "nws"
      have pln := plns_tup gd.pln
      refine ⟨ds, .non, fun i acc env => acc = (ds.take i).map (fun x => D.bl (x.isN n)) ∧ env = [.dat (.tup ds), .dat (.int n), .non], rfl, hl ds rfl, rfl, ?_, ⟨rfl, rfl⟩, ?_, ?_⟩
      · rintro i acc e ⟨_, rfl⟩
        rfl
      · rintro i x acc env hx ⟨rfl, rfl⟩
        have hp := D.pl_of_pln (pln_at pln hx)
        walk_at "nz"
        walk_at "nws"
        refine ⟨fun _ => ?_, fun z => by cases z⟩
        have fin : ∀ b : Bool, b = x.isN n → (ds.take i).map (fun x => D.bl (x.isN n)) ++ [D.bl b] = (ds.take (i + 1)).map (fun x => D.bl (x.isN n)) ∧ [Cell.dat (.tup ds), .dat (.int n), .non] = [Cell.dat (.tup ds), .dat (.int n), .non] := fun b hb => by
          subst hb
          refine ⟨?_, rfl⟩
          rw [List.take_add_one, hx, List.map_append]
          rfl
        walk_at "nws"
        refine wp_callD0 ?_
        walk_at "nws"
        refine ⟨_, rfl, rfl, x, rfl, hp, ?_⟩
        refine ⟨_, rfl, fun h => ?_, fun h => ?_⟩
        · cases x with
          | int j =>
            walk_at "nws"
            refine fin _ ?_
            have h' : decide (0 ≤ j) = true := h
            show decide (j < n) = (decide (0 ≤ j) && decide (j < n))
            rw [h', Bool.true_and]
          | _ => cases h
        · refine ⟨_, rfl, fin _ ?_⟩
          cases x with
          | int j =>
            have h' : decide (0 ≤ j) = false := h
            show false = (decide (0 ≤ j) && decide (j < n))
            rw [h', Bool.false_and]
          | _ => rfl
      · rintro acc env ⟨rfl, rfl⟩ _
        rw [List.take_length]
        walk_at "nws"
        refine wc_all (bs := ds.map (D.isN n)) (by rw [List.map_map]; exact .lst _) ?_
        rw [List.all_map]
        exact ⟨rfl, rfl, q⟩
    | _ => cases h


theorem ok_check_word (T : Txt K mg) : FnG P w K mg base (L2.CX P w) 4 T.f_check_word T.d_check_word ["word", "letters"] (SPD 2 (preCheckX T.a_InvalidWord)) := by
  refine fnG_of T.F_check_word sc_check_word (fun vs H Q E h => h.1) (fun cdv A outer s H vs Q E hG hr h => ?_)
  have nd := sc_check_word.nd
  refine ⟨_, (pss_one (ps_if (pt_not (pt_val (pe_callG (ok_is_word T) hG (hr.mono (by decide)) (by rfl) T.g_is_word T.F_is_word.kp T.b_is_word pass0 (pa_cons (pv 0) (pa_cons (pv 1) pa_nil))))) (pss_one (ps_rz rfl (takes_of rfl rfl rfl rfl) T.x_InvalidWord (ok_init_InvalidWord T) (by decide) (hr.mono (by decide)) T.bi_InvalidWord (by rfl) (pa_cons (pv 0) pa_nil))) pss_nil)), body_of (n := 2) (k := 0) (m := 0) (K := K) rfl h fun cs post px hc pre => ?_⟩
  clear h
  obtain ⟨d, n, rfl, gd, hl, q1, q2⟩ := pre
  refine ⟨rfl, ?_⟩
  walk_at "nz"
  walk_at "nws"
  refine wp_callD0 ?_
  walk_at "nws"
  refine ⟨_, rfl, rfl, d, n, rfl, gd, fun ds e => Nat.lt_of_le_of_lt (hl ds e) (by decide), ?_⟩
  walk_at "nws"
  cases h : isWordD d n with
  | true =>
    walk_at "nwb"
    exact ⟨rfl, q1 h⟩
  | false =>
    walk_at "nwb"
    refine ws_rz ?_
    walk_at "nws"
    refine ⟨_, rfl, rfl, ?_⟩
    exact ⟨rfl, q2 h⟩


theorem ok_undone (T : Txt K mg) : FnG P w K mg base (L2.CX P w) 5 T.f_undone T.d_undone ["undo", "word"] (SPD 2 (preBackX T.a_InvalidWord)) := by
  refine fnG_of T.F_undone sc_undone (fun vs H Q E h => h.1) (fun cdv A outer s H vs Q E hG hr h => ?_)
  have nd := sc_undone.nd
  refine ⟨_, (pss_cons (ps_expr (pe_callG (ok_check_word T) hG (hr.mono (by decide)) (by rfl) T.g_check_word T.F_check_word.kp T.b_check_word (passes_call (takes_of rfl rfl rfl rfl) (fun _ _ _ _ h => h)) (pa_cons (pv 1) (pa_cons (pe_callB call_len_seq (by rfl) T.z_len (by decide +kernel) (pa_cons (pv 0) pa_nil)) pa_nil))))
      (pss_one (ps_ret (pe_callTy call_tuple_of (by rfl) T.z_tuple (by decide +kernel) (pa_cons (pe_lc (own := [("letter", 2)]) (g := gName 2) (tt := tYes) rfl nd (pi_tup (pe_revT (pv 1))) (blkOk_by (N := ["undo", "word", "letter"]) (sc := defScope s_undone) (by decide +kernel)) (fun _ _ _ _ _ => pg_name (i := 2) nd rfl (Or.inl rfl)) (fun _ _ _ _ _ => pts_nil) (fun _ _ _ _ _ => (pe_ix (r := rIxT K) ix_tup (pv 0) (pv 2) (fun _ _ => rfl)))) pa_nil))))), body_of (n := 2) (k := 1) (m := 0) (K := K) rfl h fun cs post px hc pre => ?_⟩
  clear h
  obtain ⟨u, d, rfl, hu, gd, hl, q1, q2⟩ := pre
  refine ⟨rfl, ?_⟩
  walk_at "nz"
  walk_at "nws"
  refine wp_callD rfl ?_
  walk_at "nws"
  refine ⟨_, rfl, rfl, d, _, rfl, gd, hl, fun h => ?_, fun h => ?_⟩
  rotate_left
  · rw [List.length_map] at h
    exact ⟨rfl, q2 h⟩
  rw [List.length_map] at h
  obtain ⟨w, rfl, hw⟩ := isWordD_ints h
  have hl : w.length ≤ 60000 := by
    have := hl _ rfl
    rw [List.length_map] at this
    exact this
  have q := q1 w rfl hw
  walk_at "nws"
  refine wp_lcT ?_
  refine wp_revT ?_
  walk_at "nws"
  refine ⟨_, .non, fun i acc env => acc = ((backW u w).take i).map D.int ∧ env = [.dat (tw u), .dat (tw w), .non], rfl, ?_, rfl, ?_, ⟨rfl, rfl⟩, ?_, ?_⟩
  · rw [List.length_reverse, List.length_map]; omega
  · rintro i acc e ⟨_, rfl⟩
    rfl
  · rintro i x acc env hx ⟨rfl, rfl⟩
    rw [← List.map_reverse, List.getElem?_map] at hx
    obtain ⟨y, hy, rfl⟩ : ∃ y, w.reverse[i]? = some y ∧ x = .int y := by
      cases e : w.reverse[i]? with
      | none => rw [e] at hx; cases hx
      | some y => rw [e] at hx; exact ⟨y, rfl, (Option.some.inj hx).symm⟩
    have hm := hw y (List.mem_reverse.mp (List.mem_of_getElem? hy))
    walk_at "nz"
    walk_at "nws"
    refine ⟨fun _ => ?_, fun z => by cases z⟩
    walk_at "nws"
    refine wo_ixT (un_atI hm.1 hm.2) ?_
    refine ⟨_, rfl, ?_, rfl⟩
    rw [List.take_add_one]
    have e : (backW u w)[i]? = some (un u y) := by
      unfold backW
      rw [List.getElem?_map, hy]
      rfl
    rw [e, List.map_append]
    rfl
  · rintro acc env ⟨rfl, rfl⟩ _
    rw [List.length_reverse, List.length_map, ← backW_len u w, List.take_length]
    walk_at "nws"
    exact ⟨rfl, rfl, q⟩


theorem ok_freely_reduced (T : Txt K mg) : FnG P w K mg base (L2.CX P w) 5 T.f_freely_reduced T.d_freely_reduced ["undo", "word"] (SPD 2 (preFreeX T.a_InvalidWord)) := by
  refine fnG_of T.F_freely_reduced sc_freely_reduced (fun vs H Q E h => h.1) (fun cdv A outer s H vs Q E hG hr h => ?_)
  have nd := sc_freely_reduced.nd
  refine ⟨_, (pss_cons (ps_expr (pe_callG (ok_check_word T) hG (hr.mono (by decide)) (by rfl) T.g_check_word T.F_check_word.kp T.b_check_word (passes_call (takes_of rfl rfl rfl rfl) (fun _ _ _ _ h => h)) (pa_cons (pv 1) (pa_cons (pe_callB call_len_seq (by rfl) T.z_len (by decide +kernel) (pa_cons (pv 0) pa_nil)) pa_nil))))
      (pss_cons (ps_set (i := 2) nd rfl (.inl rfl) (pe_lst pa_nil))
      (pss_cons (ps_for (passes_of rfl) rfl (pi_tup (pv 1)) (pg_name (i := 3) nd rfl (.inl rfl)) (pss_one (ps_if (PW.pt (pw_and (pt_cmpR op_gt (pe_callB call_len_seq (by rfl) T.z_len (by decide +kernel) (pa_cons (pv 2) pa_nil)) pe_int (nomark _)) (pw_and1 (pt_cmpR op_eq (pe_ix ix_tup (pv 0) (pe_ix ix_list (pv 2) (pe_un un_neg pe_int) (fun _ _ => rfl)) (fun _ _ => rfl)) (pv 3) (nomark _))))) (pss_one (ps_expr (pe_bm0 PySem.F.plainAttrs_list PySem.F.slot_list_pop PySem.F.type_list_pop mt_pop (pv 2)))) (pss_one (ps_expr (pe_bm PySem.F.plainAttrs_list PySem.F.slot_list_append PySem.F.type_list_append mt_append (pv 2) (pa_cons (pv 3) pa_nil)))))))
      (pss_one (ps_ret (pe_callTy call_tuple_of (by rfl) T.z_tuple (by decide +kernel) (pa_cons (pv 2) pa_nil))))))), body_of (n := 2) (k := 2) (m := 0) (K := K) rfl h fun cs post px hc pre => ?_⟩
  clear h
  obtain ⟨u, d, rfl, hu, U, gd, hl, q1, q2⟩ := pre
  refine ⟨rfl, ?_⟩
  walk_at "nz"
  walk_at "nws"
  refine wp_callD rfl ?_
  walk_at "nws"
  refine ⟨_, rfl, rfl, d, _, rfl, gd, hl, fun h => ?_, fun h => ?_⟩
  rotate_left
  · rw [List.length_map] at h
    exact ⟨rfl, q2 h⟩
  rw [List.length_map] at h
  obtain ⟨w, rfl, hw⟩ := isWordD_ints h
  have hl : w.length ≤ 60000 := by
    have := hl _ rfl
    rw [List.length_map] at this
    exact this
  have q := q1 w rfl hw
  walk_at "nws"
  refine ws_seq ?_
  refine ws_forT ?_
  walk_at "nws"
  refine ⟨_, fun i env => ∃ c, env = [.dat (tw u), .dat (tw w), .lst ((freeW u (w.take i)).map D.int), c], rfl, ⟨.non, rfl⟩, ?_, ?_⟩
  · rintro i x env hx ⟨c, rfl⟩
    rw [List.getElem?_map] at hx
    obtain ⟨y, hy, rfl⟩ : ∃ y, w[i]? = some y ∧ x = .int y := by
      cases e : w[i]? with
      | none => rw [e] at hx; cases hx
      | some y => rw [e] at hx; exact ⟨y, rfl, (Option.some.inj hx).symm⟩
    have hm := hw y (List.mem_of_getElem? hy)
    have st := freeW_take (u := u) hy
    have hlen := freeW_len u (w.take i)
    have hlt : (w.take i).length ≤ w.length := by rw [List.length_take]; omega
    have rng := freeW_mem (u := u) (w := w.take i) (P := fun x => 0 ≤ x ∧ x < u.length) fun x hx => hw x (List.mem_of_mem_take hx)
    revert st hlen rng
    generalize freeW u (w.take i) = left
    intro st hlen rng
    walk_at "nws"
    by_cases hn : left = []
    · subst hn
      refine ⟨fun h => ?_, fun h => ?_⟩
      · exact absurd h (by decide)
      · walk_at "nws"
        refine ⟨(fun z => by cases z), fun _ => ?_⟩
        walk_at "nws"
        refine wp_bmL ?_
        walk_at "nws"
        refine ⟨⟨_, .al _ _ rfl⟩, ?_⟩
        walk_at "nws"
        refine wm_append rfl (by decide) ?_
        exact ⟨.dat (.int y), by rw [st, redStep_nil] <;> rfl⟩
    · obtain ⟨m, z, rfl⟩ := snoc_of hn
      have hz := rng z (List.mem_append_right _ (List.mem_singleton.mpr rfl))
      refine ⟨fun _ => ?_, fun h => ?_⟩
      · walk_at "nws"
        refine wo_ixL (.al _ _ rfl) (atI_last m z) ?_
        walk_at "nws"
        refine wo_ixT (un_atI hz.1 hz.2) ?_
        walk_at "nws"
        rw [redStep_snoc] at st
        refine ⟨fun h => ?_, fun h => ?_⟩
        · rw [if_pos (of_decide_eq_true h)] at st
          walk_at "nws"
          refine wp_bmL0 ?_
          walk_at "nws"
          refine ⟨⟨_, .al _ _ rfl⟩, ?_⟩
          refine wm_pop (x := .int z) rfl ?_ ?_
          · simp
          · refine ⟨.dat (.int y), ?_⟩
            rw [st]
            show [_, _, Cell.lst (((m ++ [z]).map D.int).dropLast), _] = _
            rw [List.map_append]
            show [_, _, Cell.lst ((m.map D.int ++ [D.int z]).dropLast), _] = _
            rw [List.dropLast_concat]
        · rw [if_neg (of_decide_eq_false h)] at st
          walk_at "nws"
          refine wp_bmL ?_
          walk_at "nws"
          refine ⟨⟨_, .al _ _ rfl⟩, ?_⟩
          walk_at "nws"
          refine wm_append rfl (by rw [List.length_map]; omega) ?_
          exact ⟨.dat (.int y), by rw [st, List.map_append (l₁ := m ++ [z])] <;> rfl⟩
      · exfalso
        have := of_decide_eq_false h
        rw [List.length_map, List.length_append] at this
        simp at this <;> omega
  · rintro env ⟨c, rfl⟩
    rw [List.length_map, List.take_length]
    walk_at "nws"
    refine wc_tuple (.al _ _ rfl) ?_
    exact ⟨rfl, rfl, q⟩


theorem ok_law_number (T : Txt K mg) : FnG P w K mg base CX0 1 T.f_law_number T.d_law_number ["value"] (SPD 1 preInt) := by
  refine okG T.F_law_number sc_law_number (fun vs H Q E h => h.1) (fun cdv A outer s H vs Q E hG hr h => ?_)
  have nd := sc_law_number.nd
  refine ⟨_, (pss_one (ps_ret (pe_and (pe_callB call_isi (by rfl) T.z_isinstance (by decide +kernel) (pa_cons (pv 0) (pa_cons (pe_bltn (v := .ty "int") (by rfl) T.z_int (by decide +kernel) rfl) pa_nil))) (pe_one (pe_not (pe_callB call_isi (by rfl) T.z_isinstance (by decide +kernel) (pa_cons (pv 0) (pa_cons (pe_bltn (v := .ty "bool") (by rfl) T.z_bool (by decide +kernel) rfl) pa_nil)))))))), body_of (n := 1) (k := 0) (m := 0) (K := K) rfl h fun cs post px hc pre => ?_⟩
  clear h
  obtain ⟨d, rfl, hd, q⟩ := pre
  refine ⟨rfl, ?_⟩
  walk_at "nz"
  walk_at "nws"
  refine wc_isInt hd ?_
  refine ⟨_, rfl, fun h => ?_, fun h => ?_⟩
  · walk_at "nws"
    refine wc_isBool hd ?_
    refine ⟨_, rfl, ?_⟩
    rw [← isW_eq, h, Bool.true_and] at q
    exact ⟨rfl, rfl, q⟩
  · rw [← isW_eq, h, Bool.false_and] at q
    exact ⟨rfl, rfl, q⟩


theorem ok_law_undo (T : Txt K mg) : FnG P w K mg base CX0 2 T.f_law_undo T.d_law_undo ["box", "most"] (SPD 2 preMkUndo) := by
  refine okG T.F_law_undo sc_law_undo (fun vs H Q E h => h.1) (fun cdv A outer s H vs Q E hG hr h => ?_)
  have nd := sc_law_undo.nd
  refine ⟨_, (pss_cons (ps_set (i := 2) nd rfl (.inl rfl) (pe_op op_add pe_int (pe_callG (ok_law_draw T) hG (hr.mono (by decide)) (by rfl) T.g_law_draw T.F_law_draw.kp T.b_law_draw pass0 (pa_cons (pv 0) (pa_cons (pv 1) pa_nil)))))
      (pss_cons (ps_setLc (i := 3) (own := [("k", 4)]) (g := gName 4) (tt := tYes) rfl nd rfl rfl (sw_true rfl rfl rfl (by decide +kernel)) (pi_range1 (by rfl) T.z_range (pa_cons (pv 2) pa_nil)) (blkOk_by (N := ["box", "most", "size", "undo", "k", "a", "b"]) (sc := defScope s_law_undo) (by decide +kernel)) (fun _ _ _ _ _ => pg_name (i := 4) nd rfl (Or.inl rfl)) (fun _ _ _ _ _ => pts_nil) (fun _ _ _ _ _ => (pv 4)))
      (pss_cons (ps_for PassesOwn.never rfl (pi_range1 (by rfl) T.z_range (pa_cons (pe_callG (ok_law_draw T) hG (hr.mono (by decide)) (by rfl) T.g_law_draw T.F_law_draw.kp T.b_law_draw pass0 (pa_cons (pv 0) (pa_cons pe_int pa_nil))) pa_nil)) (pg_name (i := 4) nd rfl (.inl rfl)) (pss_cons (ps_set (i := 5) nd rfl (.inl rfl) (pe_callG (ok_law_draw T) hG (hr.mono (by decide)) (by rfl) T.g_law_draw T.F_law_draw.kp T.b_law_draw pass0 (pa_cons (pv 0) (pa_cons (pv 2) pa_nil))))
      (pss_cons (ps_set (i := 6) nd rfl (.inl rfl) (pe_callG (ok_law_draw T) hG (hr.mono (by decide)) (by rfl) T.g_law_draw T.F_law_draw.kp T.b_law_draw pass0 (pa_cons (pv 0) (pa_cons (pv 2) pa_nil))))
      (pss_one (ps_if (PW.pt (pw_and (pt_cmpR op_eq (pe_ix ix_list (pv 3) (pv 5) (fun _ _ => rfl)) (pv 5) (nomark _)) (pw_and1 (pt_cmpR op_eq (pe_ix ix_list (pv 3) (pv 6) (fun _ _ => rfl)) (pv 6) (nomark _))))) (pss_cons (ps_asg (pv 6) (pg_sub (pv 3) (pv 5) set_list))
      (pss_one (ps_asg (pv 5) (pg_sub (pv 3) (pv 6) set_list)))) pss_nil)))))
      (pss_one (ps_ret (pe_callTy call_tuple_of (by rfl) T.z_tuple (by decide +kernel) (pa_cons (pv 3) pa_nil))))))), body_of (n := 2) (k := 5) (m := 1) (K := K) rfl h fun cs post px hc pre => ?_⟩
  clear h
  obtain ⟨b, m, rfl, hb, m0, m9, q⟩ := pre
  refine ⟨rfl, ?_⟩
  walk_at "nz"
  walk_at "nws"
  refine wp_draw ?_
  walk_at "nws"
  refine ⟨_, _, rfl, _, rfl, hb, by omega, by omega, fun b1 r1 hb1 h0 h1 => ?_⟩
  walk_at "nws"
  obtain ⟨n, rfl⟩ : ∃ n : Nat, r1 = n := ⟨r1.toNat, by omega⟩
  refine wp_lcR1 ?_
  walk_at "nws"
  have e1 : (1 + (n : Int)).toNat = n + 1 := by omega
  refine ⟨_, .non, fun i acc env => acc = (((List.range i).map fun (k : Nat) => (k : Int)).map D.int) ∧ env = [.lst b1, .dat (.int m), .dat (.int (1 + (n : Int))), .non, .non, .non, .non], rfl, by omega, by omega, rfl, ?_, ⟨rfl, rfl⟩, ?_, ?_⟩
  · rintro i acc e ⟨_, rfl⟩
    rfl
  · rintro i acc env hi ⟨rfl, rfl⟩
    walk_at "nz"
    walk_at "nws"
    refine ⟨fun _ => ?_, fun z => by cases z⟩
    walk_at "nws"
    refine ⟨?_, rfl⟩
    rw [List.range_succ, List.map_append, List.map_append]
    rfl
  · rintro acc env ⟨rfl, rfl⟩ _
    rw [e1]
    walk_at "nws"
    refine ws_seq ?_
    refine ws_forR1 ?_
    walk_at "nws"
    refine wp_draw ?_
    walk_at "nws"
    refine ⟨_, _, rfl, _, rfl, hb1, by decide, by decide, fun b2 r2 hb2 g0 g1 => ?_⟩
    walk_at "nws"
    refine ⟨_, fun _ env => ∃ b u c4 c5 c6, BoxD b ∧ Undo u ∧ u.length = n + 1 ∧ env = [.lst b, .dat (.int m), .dat (.int (1 + (n : Int))), .lst (u.map D.int), c4, c5, c6], rfl, by omega, by omega, ⟨b2, _, _, _, _, hb2, .id (n := n + 1) (by omega), by simp, rfl⟩, ?_, ?_⟩
    · rintro i env hi ⟨b, u, c4, c5, c6, hb, U, lu, rfl⟩
      walk_at "nws"
      refine wp_draw ?_
      walk_at "nws"
      refine ⟨_, _, rfl, _, rfl, hb, by omega, by omega, fun b3 x hb3 x0 x1 => ?_⟩
      walk_at "nws"
      refine wp_draw ?_
      walk_at "nws"
      refine ⟨_, _, rfl, _, rfl, hb3, by omega, by omega, fun b4 y hb4 y0 y1 => ?_⟩
      walk_at "nws"
      have ux := un_atI (u := u) x0 (by rw [lu]; omega)
      have uy := un_atI (u := u) y0 (by rw [lu]; omega)
      have gx := un_at (u := u) x0 (by rw [lu]; omega)
      have gy := un_at (u := u) y0 (by rw [lu]; omega)
      refine wo_ixL (.al _ _ rfl) ux ?_
      walk_at "nws"
      refine ⟨fun h1 => ?_, fun _ => ?_⟩
      · walk_at "nws"
        refine wo_ixL (.al _ _ rfl) uy ?_
        walk_at "nws"
        refine ⟨fun h2 => ?_, fun _ => ?_⟩
        · have h1 := of_decide_eq_true h1
          have h2 := of_decide_eq_true h2
          rw [h1] at gx
          rw [h2] at gy
          have ix : ixN (u.map D.int).length x = some x.toNat := by
            unfold ixN
            rw [if_pos x0, if_pos (by rw [List.length_map, lu]; omega)]
          have iy : ixN ((u.map D.int).set x.toNat (D.int y)).length y = some y.toNat := by
            unfold ixN
            rw [if_pos y0, if_pos (by rw [List.length_set, List.length_map, lu]; omega)]
          walk_at "nws"
          refine ⟨_, _, _, rfl, rfl, ix, ?_⟩
          walk_at "nws"
          refine ⟨_, _, _, rfl, rfl, iy, ?_⟩
          have P := Undo.pair U (a := x.toNat) (b := y.toNat) (by rw [gx]; congr 1; omega) (by rw [gy]; congr 1; omega)
          rw [show ((y.toNat : Nat) : Int) = y by omega, show ((x.toNat : Nat) : Int) = x by omega] at P
          refine ⟨b4, _, .dat (.int i), .dat (.int x), .dat (.int y), hb4, P, by rw [List.length_set, List.length_set]; exact lu, ?_⟩
          rw [List.map_set, List.map_set] <;> rfl
        · walk_at "nws"
          exact ⟨b4, u, _, _, _, hb4, U, lu, rfl⟩
      · walk_at "nws"
        refine ⟨(fun z => by cases z), fun _ => ?_⟩
        walk_at "nws"
        exact ⟨b4, u, _, _, _, hb4, U, lu, rfl⟩
    · rintro env ⟨b, u, c4, c5, c6, hb, U, lu, rfl⟩
      walk_at "nws"
      refine wc_tuple (.al _ _ rfl) ?_
      exact ⟨rfl, rfl, q b u hb U (by rw [lu]; omega)⟩


theorem ok_law_is_word (T : Txt K mg) : FnG P w K mg base CX0 2 T.f_law_is_word T.d_law_is_word ["value", "letters"] (SPD 2 preIsWord) := by
  refine okG T.F_law_is_word sc_law_is_word (fun vs H Q E h => h.1) (fun cdv A outer s H vs Q E hG hr h => ?_)
  have nd := sc_law_is_word.nd
  refine ⟨_, (pss_cons (ps_if (pt_not (pt_val (pe_callB call_isi (by rfl) T.z_isinstance (by decide +kernel) (pa_cons (pv 0) (pa_cons (pe_bltn (v := .ty "tuple") (by rfl) T.z_tuple (by decide +kernel) rfl) pa_nil))))) (pss_one (ps_ret pe_bl)) pss_nil)
      (pss_one (ps_ret (pe_cmpR op_notIn_seq pe_bl (pe_lc (own := [("x", 2)]) (g := gName 2) (tt := tYes) rfl nd (pi_tup (pv 0)) (blkOk_by (N := ["value", "letters", "x"]) (sc := defScope s_law_is_word) (by decide +kernel)) (fun _ _ _ _ _ => pg_name (i := 2) nd rfl (Or.inl rfl)) (fun _ _ _ _ _ => pts_nil) (fun _ _ _ _ _ => (pe_and (pe_callG (ok_law_number T) hG (hr.mono (by decide)) (by rfl) T.g_law_number T.F_law_number.kp T.b_law_number pass0 (pa_cons (pv 2) pa_nil)) (pe_one (pe_chain op_le op_lt pe_int (pv 2) (pv 1)))))) (by with_unfolding_all rfl))))), body_of (n := 2) (k := 1) (m := 0) (K := K) rfl h fun cs post px hc pre => ?_⟩
  clear h
  obtain ⟨d, n, rfl, gd, hl, q⟩ := pre
  refine ⟨rfl, ?_⟩
  walk_at "nz"
  walk_at "nws"
  refine wc_isTuple gd.pl ?_
  walk_at "nws"
  refine ⟨fun h => ?_, fun h => ?_⟩
  · walk_at "nws"
    have e : isWordD d n = false := by cases d <;> first | rfl | cases h
    rw [e] at q
    exact ⟨rfl, rfl, q⟩
  · cases d with
    | tup ds =>
      walk_at "nws"
      refine wp_lcT ?_
      walk_at "nws"
      have pln := plns_tup gd.pln
      refine ⟨ds, .non, fun i acc env => acc = (ds.take i).map (fun x => D.bl (x.isN n)) ∧ env = [.dat (.tup ds), .dat (.int n), .non], rfl, hl ds rfl, rfl, ?_, ⟨rfl, rfl⟩, ?_, ?_⟩
      · rintro i acc e ⟨_, rfl⟩
        rfl
      · rintro i x acc env hx ⟨rfl, rfl⟩
        have hp := D.pl_of_pln (pln_at pln hx)
        walk_at "nz"
        walk_at "nws"
        refine ⟨fun _ => ?_, fun z => by cases z⟩
        have fin : ∀ b : Bool, b = x.isN n → (ds.take i).map (fun x => D.bl (x.isN n)) ++ [D.bl b] = (ds.take (i + 1)).map (fun x => D.bl (x.isN n)) ∧ [Cell.dat (.tup ds), .dat (.int n), .non] = [Cell.dat (.tup ds), .dat (.int n), .non] := fun b hb => by
          subst hb
          refine ⟨?_, rfl⟩
          rw [List.take_add_one, hx, List.map_append]
          rfl
        walk_at "nws"
        refine wp_callD0 ?_
        walk_at "nws"
        refine ⟨_, rfl, rfl, x, rfl, hp, ?_⟩
        refine ⟨_, rfl, fun h => ?_, fun h => ?_⟩
        · cases x with
          | int j =>
            walk_at "nws"
            refine ⟨fun h1 => ?_, fun h1 => ?_⟩
            · walk_at "nws"
              refine fin _ ?_
              show decide (j < n) = (decide (0 ≤ j) && decide (j < n))
              rw [h1, Bool.true_and]
            · refine ⟨_, rfl, fin _ ?_⟩
              show false = (decide (0 ≤ j) && decide (j < n))
              rw [h1, Bool.false_and]
          | _ => cases h
        · refine ⟨_, rfl, fin _ ?_⟩
          cases x with
          | int j => cases h
          | _ => rfl
      · rintro acc env ⟨rfl, rfl⟩ _
        rw [List.take_length]
        walk_at "nws"
        refine wo_inB (bs := ds.map (D.isN n)) (by rw [List.map_map]; exact .own _) ?_
        have e : isWordD (.tup ds) n = !((ds.map (D.isN n)).contains false) := all_not (D.isN n) ds
        show keptB _ _ = true ∧ locR 0 (Res.dat (D.bl (!((ds.map (D.isN n)).contains false)))) = true ∧ _
        rw [e] at q
        exact ⟨rfl, rfl, q⟩
    | _ => cases h


theorem ok_law_thing (T : Txt K mg) : FnG P w K mg base CX0 2 T.f_law_thing T.d_law_thing ["box"] (SPD 1 preThing) := by
  refine okG T.F_law_thing sc_law_thing (fun vs H Q E h => h.1) (fun cdv A outer s H vs Q E hG hr h => ?_)
  have nd := sc_law_thing.nd
  refine ⟨_, (pss_cons (ps_set (i := 1) nd rfl (.inl rfl) (pe_lst (pa_cons pe_non (pa_cons pe_bl (pa_cons pe_bl (pa_cons pe_int (pa_cons pe_int (pa_cons (pe_un un_neg pe_int) (pa_cons (pe_op op_pow pe_int pe_int) (pa_cons pe_str (pa_cons pe_str (pa_cons (pe_tup pa_nil) (pa_cons (pe_lst pa_nil) (pa_cons (pe_lst (pa_cons pe_int pa_nil)) (pa_cons (pe_tup (pa_cons pe_bl pa_nil)) (pa_cons (pe_tup (pa_cons pe_bl (pa_cons pe_int pa_nil))) (pa_cons (pe_tup (pa_cons (pe_tup (pa_cons pe_int pa_nil)) pa_nil)) (pa_cons (pe_tup (pa_cons pe_non pa_nil)) (pa_cons (pe_tup (pa_cons pe_str pa_nil)) (pa_cons (pe_lst (pa_cons (pe_lst pa_nil) pa_nil)) pa_nil))))))))))))))))))))
      (pss_one (ps_ret (pe_ix ix_list (pv 1) (pe_callG (ok_law_draw T) hG (hr.mono (by decide)) (by rfl) T.g_law_draw T.F_law_draw.kp T.b_law_draw pass0 (pa_cons (pv 0) (pa_cons pe_int pa_nil))) (fun _ _ => rfl))))), body_of (n := 1) (k := 1) (m := 1) (K := K) rfl h fun cs post px hc pre => ?_⟩
  clear h
  obtain ⟨b, rfl, hb, q⟩ := pre
  refine ⟨rfl, ?_⟩
  walk_at "nz"
  walk_at "nws"
  refine wo_intC (by unfold CPow; exact ⟨by decide, by decide, by decide⟩) ?_
  walk_at "nws"
  refine wp_draw ?_
  walk_at "nws"
  refine ⟨_, _, rfl, _, rfl, hb, by decide, by decide, fun b1 r1 hb1 h0 h1 => ?_⟩
  obtain ⟨d, hd, hm⟩ := atI_mem (ds := [D.non, .bl true, .bl false, .int 0, .int 1, .int (-1), .int (10 ^ (20 : Int).toNat), .str "", .str "0", .tup [], .lst [], .lst [.int 0], .tup [.bl true], .tup [.bl false, .int 0], .tup [.tup [.int 0]], .tup [.non], .tup [.str "0"], .lst [.lst []]]) h0 h1
  have g := gd_of (List.all_eq_true.mp (show ([D.non, .bl true, .bl false, .int 0, .int 1, .int (-1), .int (10 ^ (20 : Int).toNat), .str "", .str "0", .tup [], .lst [], .lst [.int 0], .tup [.bl true], .tup [.bl false, .int 0], .tup [.tup [.int 0]], .tup [.non], .tup [.str "0"], .lst [.lst []]]).all gdB = true by decide +kernel) d hm)
  refine wo_ixL (.al _ _ rfl) hd ?_
  exact ⟨rfl, rfl, q b1 d hb1 g.1 g.2⟩


theorem ok_law_spoilt (T : Txt K mg) : FnG P w K mg base CX0 3 T.f_law_spoilt T.d_law_spoilt ["box", "word", "letters"] (SPD 3 preSpoilt) := by
  refine okG T.F_law_spoilt sc_law_spoilt (fun vs H Q E h => h.1) (fun cdv A outer s H vs Q E hG hr h => ?_)
  have nd := sc_law_spoilt.nd
  refine ⟨_, (pss_cons (ps_set (i := 3) nd rfl (.inl rfl) (pe_callG (ok_law_draw T) hG (hr.mono (by decide)) (by rfl) T.g_law_draw T.F_law_draw.kp T.b_law_draw pass0 (pa_cons (pv 0) (pa_cons (pe_op op_add (pe_callB call_len_seq (by rfl) T.z_len (by decide +kernel) (pa_cons (pv 1) pa_nil)) pe_int) pa_nil))))
      (pss_cons (ps_set (i := 4) nd rfl (.inl rfl) (pe_lst (pa_cons (pv 2) (pa_cons (pe_un un_neg pe_int) (pa_cons pe_bl (pa_cons pe_bl (pa_cons pe_non (pa_cons pe_str (pa_cons (pe_tup (pa_cons pe_int pa_nil)) (pa_cons (pe_lst (pa_cons pe_int pa_nil)) (pa_cons (pe_op op_pow pe_int pe_int) (pa_cons (pe_op op_add (pv 2) pe_int) (pa_cons (pe_op op_sub (pv 2) pe_int) pa_nil)))))))))))))
      (pss_cons (ps_set (i := 5) nd rfl (.inl rfl) (pe_callG (ok_law_draw T) hG (hr.mono (by decide)) (by rfl) T.g_law_draw T.F_law_draw.kp T.b_law_draw pass0 (pa_cons (pv 0) (pa_cons pe_int pa_nil))))
      (pss_cons (ps_if (pt_cmpR op_eq (pv 5) pe_int (nomark _)) (pss_one (ps_ret (pe_ix ix_list (pe_lst (pa_cons (pe_callTy call_list_of (by rfl) T.z_list (by decide +kernel) (pa_cons (pv 1) pa_nil)) (pa_cons (pe_tup (pa_cons (pv 1) pa_nil)) (pa_cons (pe_callG (ok_law_thing T) hG (hr.mono (by decide)) (by rfl) T.g_law_thing T.F_law_thing.kp T.b_law_thing pass0 (pa_cons (pv 0) pa_nil)) (pa_cons (pe_bm PySem.F.plainAttrs_str PySem.F.slot_str_join PySem.F.type_str_join mt_join pe_str (pa_cons (pe_lc (own := [("x", 6)]) (g := gName 6) (tt := tYes) rfl nd (pi_tup (pv 1)) (blkOk_by (N := ["box", "word", "letters", "at", "others", "shape", "x"]) (sc := defScope s_law_spoilt) (by decide +kernel)) (fun _ _ _ _ _ => pg_name (i := 6) nd rfl (Or.inl rfl)) (fun _ _ _ _ _ => pts_nil) (fun _ _ _ _ _ => (pe_callTy call_str_int (by rfl) T.z_str (by decide +kernel) (pa_cons (pv 6) pa_nil)))) pa_nil)) pa_nil))))) (pe_callG (ok_law_draw T) hG (hr.mono (by decide)) (by rfl) T.g_law_draw T.F_law_draw.kp T.b_law_draw pass0 (pa_cons (pv 0) (pa_cons pe_int pa_nil))) (fun _ _ => rfl)))) pss_nil)
      (pss_cons (ps_if (pt_cmpR op_eq (pv 5) pe_int (nomark _)) (pss_one (ps_ret (pe_op op_catA (pe_op op_catA (pe_slice sl_tupA (pv 1) po_none (po_some (pv 3))) (pe_tup (pa_cons (pe_ix ix_list (pv 4) (pe_callG (ok_law_draw T) hG (hr.mono (by decide)) (by rfl) T.g_law_draw T.F_law_draw.kp T.b_law_draw pass0 (pa_cons (pv 0) (pa_cons pe_int pa_nil))) (fun _ _ => rfl)) pa_nil))) (pe_slice sl_tupA (pv 1) (po_some (pv 3)) po_none)))) pss_nil)
      (pss_one (ps_ret (pe_op op_catA (pe_op op_catA (pe_slice sl_tupA (pv 1) po_none (po_some (pv 3))) (pe_tup (pa_cons (pe_ix ix_list (pv 4) (pe_callG (ok_law_draw T) hG (hr.mono (by decide)) (by rfl) T.g_law_draw T.F_law_draw.kp T.b_law_draw pass0 (pa_cons (pv 0) (pa_cons pe_int pa_nil))) (fun _ _ => rfl)) pa_nil))) (pe_slice sl_tupA (pv 1) (po_some (pe_op op_add (pv 3) pe_int)) po_none))))))))), body_of (n := 3) (k := 4) (m := 1) (K := K) rfl h fun cs post px hc pre => ?_⟩
  clear h
  obtain ⟨b, w, n, rfl, hb, hl, hw, n0, n9, q⟩ := pre
  refine ⟨rfl, ?_⟩
  walk_at "nz"
  walk_at "nws"
  refine wp_draw ?_
  walk_at "nws"
  rw [List.length_map]
  refine ⟨_, _, rfl, _, rfl, hb, by omega, by omega, fun b1 r1 hb1 h0 h1 => ?_⟩
  walk_at "nws"
  refine wo_intC (by unfold CPow; exact ⟨by decide, by decide, by decide⟩) ?_
  walk_at "nws"
  refine wp_draw ?_
  walk_at "nws"
  refine ⟨_, _, rfl, _, rfl, hb1, by decide, by decide, fun b2 r2 hb2 g0 g1 => ?_⟩
  obtain ⟨a, rfl⟩ : ∃ a : Nat, r1 = a := ⟨r1.toNat, by omega⟩
  walk_at "nws"
  refine ⟨fun _ => ?_, fun _ => ?_⟩
  · walk_at "nws"
    refine wc_list (.tup _) ?_
    walk_at "nws"
    refine wp_thing ?_
    walk_at "nws"
    refine ⟨_, rfl, _, rfl, hb2, fun b3 d hb3 gd wd => ?_⟩
    walk_at "nws"
    refine wp_bmS ?_
    walk_at "nws"
    refine ⟨⟨_, rfl⟩, ?_⟩
    walk_at "nws"
    refine wp_lcT ?_
    walk_at "nws"
    refine ⟨_, .non, fun i acc env => acc = ((w.take i).map fun x => D.str (Str.ofString (toString x))) ∧ env = [.lst b3, .dat (tw w), .dat (.int n), .dat (.int a), .lst [.int n, .int (-1), .bl true, .bl false, .non, .str "0", .tup [.int 0], .lst [.int 0], .int (10 ^ (20 : Int).toNat), .int (n + 1), .int (n - 1)], .dat (.int r2), .non], rfl, ?_, rfl, ?_, ⟨rfl, rfl⟩, ?_, ?_⟩
    · rw [List.length_map]; omega
    · rintro i acc e ⟨_, rfl⟩
      rfl
    · rintro i x acc env hx ⟨rfl, rfl⟩
      rw [List.getElem?_map] at hx
      obtain ⟨y, hy, rfl⟩ : ∃ y, w[i]? = some y ∧ x = .int y := by
        cases e : w[i]? with
        | none => rw [e] at hx; cases hx
        | some y => rw [e] at hx; exact ⟨y, rfl, (Option.some.inj hx).symm⟩
      have hm := hw y (List.mem_of_getElem? hy)
      walk_at "nz"
      walk_at "nws"
      refine ⟨fun _ => ?_, fun z => by cases z⟩
      walk_at "nws"
      refine wc_str (Nat.lt_of_lt_of_le (log_lt (small30 (n := 64) (by decide) hm)) (by decide)) ?_
      walk_at "nws"
      refine ⟨?_, rfl⟩
      rw [List.take_add_one, hy, List.map_append]
      rfl
    · rintro acc env ⟨rfl, rfl⟩ _
      rw [List.length_map, List.take_length]
      walk_at "nws"
      refine wm_join (ys := w.map fun x => Str.ofString (toString x)) (by rw [List.map_map]; exact .lst _) ?_ ?_
      · have := join_small hw
        have e : (Str.ofString "").length = 0 := by rw [Str.ofString_eq_toList]; rfl
        rw [e, Nat.mul_zero]
        omega
      walk_at "nws"
      refine wp_draw ?_
      walk_at "nws"
      refine ⟨_, _, rfl, _, rfl, hb3, by decide, by decide, fun b4 r4 hb4 k0 k1 => ?_⟩
      have gw : Gd (tw w) := Gd.word (by omega) fun x hx => small30 (n := 64) (by decide) (hw x hx)
      have ww : (tw w).wt ≤ 50000 := by
        show D.wt (.tup (w.map D.int)) ≤ 50000
        simp only [D.wt, wts_ints]
        omega
      have gj := join_gd hw hl
      obtain ⟨e, he, g, gw⟩ : ∃ e, atI [D.lst (w.map D.int), .tup [tw w], d, .str (Txt.join "" (w.map fun x => Str.ofString (toString x)))] r4 = some e ∧ Gd e ∧ e.wt ≤ 50000 := by
        have : r4 = 0 ∨ r4 = 1 ∨ r4 = 2 ∨ r4 = 3 := by omega
        rcases this with rfl | rfl | rfl | rfl
        · refine ⟨_, rfl, ⟨?_, ?_⟩, ?_⟩
          · have := gw.1
            exact this
          · have := gw.2
            exact this
          · exact ww
        · refine ⟨_, rfl, ⟨?_, ?_⟩, ?_⟩
          · simp only [D.okk, D.okks, Bool.and_true]
            show D.okk 19 (.tup (w.map D.int)) = true
            simp only [D.okk]
            have := okks_ints (w := w) fun x hx => small30 (n := 64) (by decide) (hw x hx)
            have k : ∀ w : List Int, (∀ x ∈ w, x.natAbs < 10 ^ 30) → D.okks 18 (w.map D.int) = true := by
              intro w h
              induction w with
              | nil => simp [D.okks]
              | cons x w ih =>
                simp only [List.map_cons, D.okks, D.okk, Bool.and_eq_true, decide_eq_true_eq]
                exact ⟨h x (List.mem_cons_self ..), ih fun y hy => h y (List.mem_cons_of_mem _ hy)⟩
            exact k w fun x hx => small30 (n := 64) (by decide) (hw x hx)
          · simp only [D.wt, D.wts]
            omega
          · simp only [D.wt, D.wts]
            show D.wt (.tup (w.map D.int)) + 1 + 0 ≤ 50000
            simp only [D.wt, wts_ints]
            omega
        · exact ⟨_, rfl, gd, by omega⟩
        · exact ⟨_, rfl, gj.1, by have := gj.2; omega⟩
      refine wo_ixL (.own _) he ?_
      exact ⟨rfl, rfl, q b4 e hb4 g gw⟩
  · have rest : ∀ {o : List D} {r : Int}, 0 ≤ r → r < 11 → o = [D.int n, .int (-1), .bl true, .bl false, .non, .str "0", .tup [.int 0], .lst [.int 0], .int (10 ^ (20 : Int).toNat), .int (n + 1), .int (n - 1)] → ∃ e, atI o r = some e ∧ e.okk 18 = true ∧ e.wt ≤ 1000 := fun {o r} r0 r1 eo => by
      subst eo
      obtain ⟨e, he, hm⟩ := atI_mem (ds := [D.int n, .int (-1), .bl true, .bl false, .non, .str "0", .tup [.int 0], .lst [.int 0], .int (10 ^ (20 : Int).toNat), .int (n + 1), .int (n - 1)]) r0 r1
      exact ⟨e, he, gd_of18 (others_gd n0 n9 e hm)⟩
    walk_at "nws"
    refine ⟨fun _ => ?_, fun _ => ?_⟩
    · walk_at "nws"
      refine wp_draw ?_
      walk_at "nws"
      refine ⟨_, _, rfl, _, rfl, hb2, by decide, by decide, fun b3 r3 hb3 k0 k1 => ?_⟩
      obtain ⟨e, he, h8, hwt⟩ := rest k0 k1 rfl
      refine wo_ixL (.al _ _ rfl) he ?_
      walk_at "nws"
      rw [tup_take]
      have g := gd_mid (a := w.take a) (c := w.drop a) (x := e) (take_mem hw) (drop_mem hw) (by rw [List.length_take]; omega) (by rw [List.length_drop]; omega) h8 hwt
      refine wo_catT (by rw [List.length_map, List.length_take]; show _ + 1 ≤ 100000; omega) ?_
      walk_at "nws"
      rw [tup_drop]
      refine wo_catT (by rw [List.length_append, List.length_map, List.length_take, List.length_map, List.length_drop]; show _ + 1 + _ ≤ 100000; omega) ?_
      exact ⟨rfl, rfl, q b3 _ hb3 g.1 g.2⟩
    · walk_at "nws"
      refine wp_draw ?_
      walk_at "nws"
      refine ⟨_, _, rfl, _, rfl, hb2, by decide, by decide, fun b3 r3 hb3 k0 k1 => ?_⟩
      obtain ⟨e, he, h8, hwt⟩ := rest k0 k1 rfl
      refine wo_ixL (.al _ _ rfl) he ?_
      walk_at "nws"
      rw [tup_take]
      have g := gd_mid (a := w.take a) (c := w.drop (a + 1)) (x := e) (take_mem hw) (drop_mem hw) (by rw [List.length_take]; omega) (by rw [List.length_drop]; omega) h8 hwt
      refine wo_catT (by rw [List.length_map, List.length_take]; show _ + 1 ≤ 100000; omega) ?_
      walk_at "nws"
      rw [show ((a : Int) + 1) = ((a + 1 : Nat) : Int) by omega, tup_drop]
      refine wo_catT (by rw [List.length_append, List.length_map, List.length_take, List.length_map, List.length_drop]; show _ + 1 + _ ≤ 100000; omega) ?_
      exact ⟨rfl, rfl, q b3 _ hb3 g.1 g.2⟩


def preAsked : Spc := fun cs post _ => ∃ (u : List Int) (d : D), cs = [.dat (tw u), .dat d] ∧ Undo u ∧ u.length ≤ 100 ∧ Gd d ∧ (∀ ds, d = .tup ds → ds.length ≤ 60000) ∧ post (.dat (.bl true)) cs

theorem ok_law_asked (T : Txt K mg) : FnG P w K mg base CX0 6 T.f_law_asked T.d_law_asked ["undo", "value"] (SPD 2 preAsked) := by
  refine okG T.F_law_asked sc_law_asked (fun vs H Q E h => h.1) (fun cdv A outer s H vs Q E hG hr h => ?_)
  have nd := sc_law_asked.nd
  refine ⟨_, (pss_cons (ps_set (i := 2) nd rfl (.inl rfl) (pe_callG (ok_law_is_word T) hG (hr.mono (by decide)) (by rfl) T.g_law_is_word T.F_law_is_word.kp T.b_law_is_word pass0 (pa_cons (pv 1) (pa_cons (pe_callB call_len_seq (by rfl) T.z_len (by decide +kernel) (pa_cons (pv 0) pa_nil)) pa_nil))))
      (pss_cons (ps_set (i := 3) nd rfl (.inl rfl) (pe_callB (call_reprD hG hr) (by rfl) T.z_repr (by decide +kernel) (pa_cons (pv 1) pa_nil)))
      (pss_cons (ps_for PassesOwn.never rfl (pi_range1 (by rfl) T.z_range (pa_cons pe_int pa_nil)) (pg_name (i := 4) nd rfl (.inl rfl)) (pss_cons (ps_tryAs (i := 6) (fun _ _ _ _ => False) rfl rfl nd rfl rfl ⟨by rfl, by decide, Or.inl T.x_InvalidWord.gC⟩ takes0 (fun W pn xe tk hpo => (pss_cons (ps_set (i := 5) nd rfl (.inl rfl) (pe_callV (E := WE W) (ok_undone T) (ok_freely_reduced T) hG (hr.mono (by decide)) (hr.mono (by decide)) T.F_undone.kp T.F_freely_reduced.kp T.b_undone T.b_freely_reduced (fun σ => passAt tk σ) (pe_ix (r := rIxL K) ix_list (pe_lst (pa_cons (pe_glob (v := .ref T.f_undone) (by rfl) T.g_undone rfl) (pa_cons (pe_glob (v := .ref T.f_freely_reduced) (by rfl) T.g_freely_reduced rfl) pa_nil))) (pe_op op_mod (pe_callTy call_int1 (by rfl) T.z_int (by decide +kernel) (pa_cons (pv 4) pa_nil)) pe_int) (fun _ _ => rfl)) (pa_cons (pv 0) (pa_cons (pv 1) pa_nil))))
      (pss_one (ps_if (pt_cmpR op_gt (pv 4) pe_int (nomark _)) (pss_one (ps_set (i := 5) nd rfl (.inl rfl) (pe_callPV (E := WE W) (ok_undone T) (ok_freely_reduced T) hG (hr.mono (by decide)) (hr.mono (by decide)) T.F_undone.kp T.F_freely_reduced.kp (T.F_undone.kw (ks := ["word", "undo"]) (ix := [1, 0]) fun _ _ _ _ _ _ ws hl => match ws, hl with | [_, _], _ => rfl) (T.F_freely_reduced.kw (ks := ["word", "undo"]) (ix := [1, 0]) fun _ _ _ _ _ _ ws hl => match ws, hl with | [_, _], _ => rfl) (fun σ => passAt tk σ) (pe_ix (r := rIxL K) ix_list (pe_lst (pa_cons (pe_glob (v := .ref T.f_undone) (by rfl) T.g_undone rfl) (pa_cons (pe_glob (v := .ref T.f_freely_reduced) (by rfl) T.g_freely_reduced rfl) pa_nil))) (pe_op op_mod (pe_callTy call_int1 (by rfl) T.z_int (by decide +kernel) (pa_cons (pv 4) pa_nil)) pe_int) (fun _ _ => rfl)) (pk_cons (pv 1) (pk_cons (pv 0) pk_nil))))) pss_nil)))) (fun a oe cls d pn hz hf => (pss_cons (ps_if (PW.pt (pw_or (pt_val (pv 2)) (pw_or (pt_cmpR op_ne (pe_callB (r := rReprD K) (call_reprU hG (room_unS hr)) (by rfl) T.z_repr (by decide +kernel) (pa_cons (pe_xf T.x_InvalidWord.X (T.x_InvalidWord.no _ (by simp)) hz hf (pv 6)) pa_nil)) (pv 3) (nomark _)) (pw_or1 (pt_cmpR op_ne (pe_callB (r := rReprD K) (call_reprU hG (room_unS hr)) (by rfl) T.z_repr (by decide +kernel) (pa_cons (pv 1) pa_nil)) (pv 3) (nomark _)))))) (pss_one (ps_ret pe_bl)) pss_nil)
      (pss_one ps_continue))))
      (pss_one (ps_if (PW.pt (pw_or (pt_not (pt_val (pv 2))) (pw_or (pt_not (pt_val (pe_callB call_isi (by rfl) T.z_isinstance (by decide +kernel) (pa_cons (pv 5) (pa_cons (pe_bltn (v := .ty "tuple") (by rfl) T.z_tuple (by decide +kernel) rfl) pa_nil))))) (pw_or1 (pt_cmpR op_ne (pe_callB (call_reprD hG hr) (by rfl) T.z_repr (by decide +kernel) (pa_cons (pv 1) pa_nil)) (pv 3) (nomark _)))))) (pss_one (ps_ret pe_bl)) pss_nil))))
      (pss_one (ps_ret pe_bl))))), body_of (n := 2) (k := 5) (m := 0) (K := K) rfl h fun cs post px hc pre => ?_⟩
  clear h
  obtain ⟨u, d, rfl, U, hu, gd, hl, q⟩ := pre
  refine ⟨rfl, ?_⟩
  walk_at "nz"
  walk_at "nws"
  refine wp_callD0 ?_
  walk_at "nws"
  refine ⟨_, rfl, rfl, d, _, rfl, gd, fun ds e => Nat.lt_of_le_of_lt (hl ds e) (by decide), ?_⟩
  rw [List.length_map]
  walk_at "nws"
  refine wc_reprG gd ?_
  walk_at "nws"
  refine ws_seq ?_
  refine ws_forR1 ?_
  walk_at "nws"
  refine ⟨_, fun _ env => ∃ c4 c5 c6, env = [.dat (tw u), .dat d, .dat (.bl (isWordD d u.length)), .dat (.str d.py.shown), c4, c5, c6], rfl, by decide, by decide, ⟨_, _, _, rfl⟩, ?_, ?_⟩
  · rintro i env hi ⟨c4, c5, c6, rfl⟩
    walk_at "nws"
    refine ws_seq ?_
    refine ws_try0 (pxB := fun C fs env => C = T.a_InvalidWord ∧ fs = [(("value" : Str), d)] ∧ isWordD d u.length = false ∧ ∃ c5, env = [.dat (tw u), .dat d, .dat (.bl (isWordD d u.length)), .dat (.str d.py.shown), .dat (.int i), c5, c6]) (Nat.le_of_ble_eq_true rfl) (fun Wx => ?_) ?_
    · have two : ∀ {P : PR} {env : List Cell}, env[0]? = some (.dat (tw u)) → env[1]? = some (.dat d) →
          (∀ w', isWordD d u.length = true → P (.dat (.tup w')) env) → ∀ {px : PX}, (isWordD d u.length = false → px T.a_InvalidWord [(("value" : Str), d)] env) →
          wpE ⟨K, 0, fun σ cls x H => Wx cls x σ H⟩ (tCallS (SPD 2 (preBackX T.a_InvalidWord)) (WE Wx) (tCons (tVar 0) (tCons (tVar 1) tNil))) env P px ∧ wpE ⟨K, 0, fun σ cls x H => Wx cls x σ H⟩ (tCallS (SPD 2 (preFreeX T.a_InvalidWord)) (WE Wx) (tCons (tVar 0) (tCons (tVar 1) tNil))) env P px ∧
          wpE ⟨K, 0, fun σ cls x H => Wx cls x σ H⟩ (tCallPS 2 [1, 0] (SPD 2 (preBackX T.a_InvalidWord)) (WE Wx) (tCons (tVar 1) (tCons (tVar 0) tNil))) env P px ∧ wpE ⟨K, 0, fun σ cls x H => Wx cls x σ H⟩ (tCallPS 2 [1, 0] (SPD 2 (preFreeX T.a_InvalidWord)) (WE Wx) (tCons (tVar 1) (tCons (tVar 0) tNil))) env P px := by
        intro P env e0 e1 hp px hx
        refine ⟨?_, ?_, ?_, ?_⟩
        · exact wp_callS (wpa_cons (wp_var e0 (wpa_cons (wp_var e1 (wp_nil ⟨_, rfl, rfl, u, d, rfl, by omega, gd, hl, fun w ew hw => hp _ (by rw [ew]; exact isWordD_tw hw), fun h => hx h⟩)))))
        · exact wp_callS (wpa_cons (wp_var e0 (wpa_cons (wp_var e1 (wp_nil ⟨_, rfl, rfl, u, d, rfl, by omega, U, gd, hl, fun w ew hw => hp _ (by rw [ew]; exact isWordD_tw hw), fun h => hx h⟩)))))
        · exact wp_callPS (wpa_cons (wp_var e1 (wpa_cons (wp_var e0 (wp_nil ⟨_, rfl, rfl, rfl, u, d, rfl, by omega, gd, hl, fun w ew hw => hp _ (by rw [ew]; exact isWordD_tw hw), fun h => hx h⟩)))))
        · exact wp_callPS (wpa_cons (wp_var e1 (wpa_cons (wp_var e0 (wp_nil ⟨_, rfl, rfl, rfl, u, d, rfl, by omega, U, gd, hl, fun w ew hw => hp _ (by rw [ew]; exact isWordD_tw hw), fun h => hx h⟩)))))
      have par : ∃ v, (v = T.f_undone ∨ v = T.f_freely_reduced) ∧ atI [D.cls T.f_undone, D.cls T.f_freely_reduced] ((i : Int) % 2) = some (.cls v) := by
        have : (i : Int) % 2 = 0 ∨ (i : Int) % 2 = 1 := by omega
        rcases this with e | e
        · rw [e]; exact ⟨_, .inl rfl, rfl⟩
        · rw [e]; exact ⟨_, .inr rfl, rfl⟩
      obtain ⟨v, hv, ev⟩ := par
      walk_at "nws"
      refine wp_callV ?_
      walk_at "nws"
      refine wo_intC (by decide) ?_
      refine wo_ixL (.own _) ev ?_
      rcases hv with rfl | rfl
      all_goals first
        | refine .inl ⟨rfl, (two rfl rfl (fun w' hw => ⟨Nat.le_of_ble_eq_true rfl, ?_⟩) (fun h => ⟨rfl, rfl, h, _, rfl⟩)).1⟩
        | refine .inr ⟨rfl, (two rfl rfl (fun w' hw => ⟨Nat.le_of_ble_eq_true rfl, ?_⟩) (fun h => ⟨rfl, rfl, h, _, rfl⟩)).2.1⟩
      all_goals
        walk_at "nws"
        refine ⟨fun _ => ?_, fun _ => ?_⟩
      all_goals try
        walk_at "nws"
        refine wp_callPV ?_
        walk_at "nws"
        refine wo_intC (by decide) ?_
        refine wo_ixL (.own _) ev ?_
        first
          | refine .inl ⟨rfl, (two rfl rfl (fun w' hw => ⟨Nat.le_of_ble_eq_true rfl, ?_⟩) (fun h => ⟨rfl, rfl, h, _, rfl⟩)).2.2.1⟩
          | refine .inr ⟨rfl, (two rfl rfl (fun w' hw => ⟨Nat.le_of_ble_eq_true rfl, ?_⟩) (fun h => ⟨rfl, rfl, h, _, rfl⟩)).2.2.2⟩
      all_goals
        rw [hw]
        walk_at "nwb"
        refine wc_isTuple rfl ?_
        simp only [D.isT]
        walk_at "nwb"
        refine wc_reprG gd ?_
        walk_at "nws"
        refine wo_neS0 ?_
        walk_at "nwb"
        exact ⟨_, _, _, rfl⟩
    · rintro C fs env ⟨rfl, rfl, hw, c5, rfl⟩
      refine ⟨Nat.le_of_ble_eq_true rfl, T.te_InvalidWord_InvalidWord, fun a dd => ?_⟩
      rw [hw]
      walk_at "nz"
      walk_at "nwb"
      refine wp_xf ?_
      walk_at "nws"
      refine ⟨_, d, rfl, rfl, ?_⟩
      walk_at "nws"
      refine wc_reprG gd ?_
      walk_at "nws"
      refine wo_neS0 ?_
      walk_at "nwb"
      refine wc_reprG gd ?_
      walk_at "nws"
      refine wo_neS0 ?_
      walk_at "nwb"
      exact ⟨_, _, _, rfl⟩
  · rintro env ⟨c4, c5, c6, rfl⟩
    walk_at "nws"
    exact ⟨rfl, rfl, q⟩


theorem ok_law_box (T : Txt K mg) : FnG P w K mg base CX0 1 T.f_law_box T.d_law_box ["script"] (spBox K) := by
  refine okG T.F_law_box sc_law_box (fun vs H Q E h => ?_) (fun cdv A outer s H vs Q E hG hr h => ?_)
  · obtain ⟨a, ns, rfl, _⟩ := h
    rfl
  have nd := sc_law_box.nd
  obtain ⟨a, ns, rfl, hS, hl, q⟩ := h
  refine ⟨_, (pss_one (ps_ret (pe_lst (pa_cons (pe_lc (own := [("cell", 1)]) (g := gName 1) (tt := tYes) rfl nd (pi_list (pv 0)) (blkOk_by (N := ["script", "cell"]) (sc := defScope s_law_box) (by decide +kernel)) (fun _ _ _ _ _ => pg_name (i := 1) nd rfl (Or.inl rfl)) (fun _ _ _ _ _ => pts_nil) (fun _ _ _ _ _ => (pe_callTy call_int1 (by rfl) T.z_int (by decide +kernel) (pa_cons (pv 1) pa_nil)))) (pa_cons pe_int (pa_cons pe_int (pa_cons pe_int pa_nil))))))), ?_⟩
  exact box_read hS hl q rfl

theorem ok_law_all (T : Txt K mg) : FnG P w K mg base CX0 7 T.f_law_all T.d_law_all ["script"] (spAll K) := by
  refine okG T.F_law_all sc_law_all (fun vs H Q E h => ?_) (fun cdv A outer s H vs Q E hG hr h => ?_)
  · obtain ⟨a, ns, rfl, _⟩ := h
    rfl
  have nd := sc_law_all.nd
  obtain ⟨a, ns, rfl, hS, hl, q⟩ := h
  refine ⟨_, (pss_cons (ps_set (i := 1) nd rfl (.inl rfl) (pe_callG (ok_law_box T) hG (hr.mono (by decide)) (by rfl) T.g_law_box T.F_law_box.kp T.b_law_box pass0 (pa_cons (pv 0) pa_nil)))
      (pss_cons (ps_for PassesOwn.never rfl (pi_range1 (by rfl) T.z_range (pa_cons pe_int pa_nil)) (pg_name (i := 2) nd rfl (.inl rfl)) (pss_cons (ps_set (i := 3) nd rfl (.inl rfl) (pe_callG (ok_law_undo T) hG (hr.mono (by decide)) (by rfl) T.g_law_undo T.F_law_undo.kp T.b_law_undo pass0 (pa_cons (pv 1) (pa_cons pe_int pa_nil))))
      (pss_cons (ps_set (i := 4) nd rfl (.inl rfl) (pe_callG (ok_law_word T) hG (hr.mono (by decide)) (by rfl) T.g_law_word T.F_law_word.kp T.b_law_word pass0 (pa_cons (pv 1) (pa_cons (pe_callB call_len_seq (by rfl) T.z_len (by decide +kernel) (pa_cons (pv 3) pa_nil)) (pa_cons pe_int pa_nil)))))
      (pss_one (ps_if (PW.pt (pw_or (pt_not (pt_val (pe_callG (ok_law_asked T) hG (hr.mono (by decide)) (by rfl) T.g_law_asked T.F_law_asked.kp T.b_law_asked pass0 (pa_cons (pv 3) (pa_cons (pv 4) pa_nil))))) (pw_or1 (pt_not (pt_val (pe_callG (ok_law_asked T) hG (hr.mono (by decide)) (by rfl) T.g_law_asked T.F_law_asked.kp T.b_law_asked pass0 (pa_cons (pv 3) (pa_cons (pe_callG (ok_law_spoilt T) hG (hr.mono (by decide)) (by rfl) T.g_law_spoilt T.F_law_spoilt.kp T.b_law_spoilt pass0 (pa_cons (pv 1) (pa_cons (pv 4) (pa_cons (pe_callB call_len_seq (by rfl) T.z_len (by decide +kernel) (pa_cons (pv 3) pa_nil)) pa_nil)))) pa_nil)))))))) (pss_one (ps_ret pe_bl)) pss_nil)))))
      (pss_cons (ps_for PassesOwn.never rfl (pi_list (pe_lst (pa_cons (pe_tup (pa_cons pe_int pa_nil)) (pa_cons (pe_tup (pa_cons pe_int (pa_cons (pe_un un_neg pe_int) pa_nil))) (pa_cons (pe_lst (pa_cons pe_int pa_nil)) (pa_cons pe_non (pa_cons pe_str (pa_cons (pe_tup (pa_cons pe_bl pa_nil)) (pa_cons (pe_tup (pa_cons pe_int (pa_cons pe_int (pa_cons pe_int pa_nil)))) (pa_cons (pe_tup (pa_cons (pe_tup pa_nil) pa_nil)) (pa_cons pe_int pa_nil))))))))))) (pg_name (i := 5) nd rfl (.inl rfl)) (pss_one (ps_if (pt_not (pt_val (pe_callG (ok_law_asked T) hG (hr.mono (by decide)) (by rfl) T.g_law_asked T.F_law_asked.kp T.b_law_asked pass0 (pa_cons (pe_tup (pa_cons pe_int (pa_cons pe_int (pa_cons pe_int (pa_cons pe_int pa_nil))))) (pa_cons (pv 5) pa_nil))))) (pss_one (ps_ret pe_bl)) pss_nil)))
      (pss_one (ps_ret pe_bl))))), ?_⟩
  refine seq_box (m := 1) (n := 4) hS hl (fun bx hbx => ?_) q
  clear q
  walk_at "nz"
  refine ws_seq ?_
  refine ws_forR1 ?_
  walk_at "nws"
  refine ⟨_, fun _ env => ∃ b c2 c3 c4 c5, BoxD b ∧ env = [.non, .lst b, c2, c3, c4, c5], rfl, by decide, by decide, ⟨bx, _, _, _, _, hbx, rfl⟩, ?_, ?_⟩
  · rintro i env hi ⟨b, c2, c3, c4, c5, hb, rfl⟩
    walk_at "nws"
    refine wp_mkUndo ?_
    walk_at "nws"
    refine ⟨_, _, rfl, _, rfl, hb, by decide, by decide, fun b1 u hb1 U lu => ?_⟩
    have up := U.pos
    walk_at "nws"
    refine wp_word ?_
    walk_at "nws"
    rw [List.length_map]
    refine ⟨_, _, _, rfl, _, rfl, hb1, by omega, by omega, by decide, by decide, fun b2 w hb2 lw hw => ?_⟩
    have gw : Gd (tw w) := Gd.word (by omega) fun x hx => small30 (n := u.length) (by omega) (hw x hx)
    walk_at "nws"
    refine wp_callD0 ?_
    walk_at "nws"
    refine ⟨_, rfl, rfl, u, tw w, rfl, U, by omega, gw, fun ds e => by cases e; rw [List.length_map]; omega, ?_⟩
    walk_at "nwb"
    refine wp_callD0 ?_
    walk_at "nws"
    refine wp_spoilt ?_
    walk_at "nws"
    rw [List.length_map]
    refine ⟨_, w, _, rfl, _, rfl, hb2, by omega, fun x hx => ⟨(hw x hx).1, by have := (hw x hx).2; omega⟩, by omega, by omega, fun b3 d hb3 gd wd => ?_⟩
    walk_at "nws"
    refine ⟨_, rfl, rfl, u, d, rfl, U, by omega, gd, fun ds e => Nat.le_trans (len_of_wt wd ds e) (by decide), ?_⟩
    walk_at "nwb"
    exact ⟨b3, _, _, _, _, hb3, rfl⟩
  · rintro env ⟨b, c2, c3, c4, c5, hb, rfl⟩
    have U4 : Undo [0, 1, 2, 3] := Undo.id (n := 4) (by decide)
    walk_at "nws"
    refine ws_seq ?_
    refine ws_forL ?_
    walk_at "nws"
    refine ⟨_, fun _ env => ∃ c2 c3 c4 c5, env = [.non, .lst b, c2, c3, c4, c5], rfl, ⟨_, _, _, _, rfl⟩, ?_, ?_⟩
    · rintro n x env hx ⟨c2, c3, c4, c5, rfl⟩
      have hmem := List.mem_of_getElem? hx
      simp only [List.mem_cons, List.not_mem_nil, or_false] at hmem
      obtain ⟨gd, hld⟩ : Gd x ∧ ∀ ds, x = .tup ds → ds.length ≤ 60000 := by
        rcases hmem with rfl | rfl | rfl | rfl | rfl | rfl | rfl | rfl | rfl
        all_goals exact ⟨(gd_of (by decide +kernel)).1, fun ds e => by cases e <;> decide⟩
      walk_at "nws"
      refine wp_callD0 ?_
      walk_at "nws"
      refine ⟨_, rfl, rfl, [0, 1, 2, 3], x, rfl, U4, by decide, gd, hld, ?_⟩
      walk_at "nwb"
      exact ⟨_, _, _, _, rfl⟩
    · rintro env ⟨c2, c3, c4, c5, rfl⟩
      walk_at "nws"


theorem ok_law (T : Txt K mg) : FnG P w K mg base CX0 8 T.f_law T.d_law ["script"] (spAll K) := by
  refine okG T.F_law sc_law (fun vs H Q E h => ?_) (fun cdv A outer s H vs Q E hG hr h => ?_)
  · obtain ⟨a, ns, rfl, _⟩ := h
    rfl
  obtain ⟨a, ns, rfl, hS, hl, q⟩ := h
  refine ⟨_, pss_one (ps_try_thru0 (pss_one (ps_ret (pe_callG (ok_law_all T) hG (hr.mono (by decide)) (by rfl) T.g_law_all T.F_law_all.kp T.b_law_all pass0 (pa_cons (pv 0) pa_nil))))), ?_⟩
  exact ⟨.ref a, rfl, a, ns, rfl, hS, hl, q⟩
end
theorem all_mk {l : PySem.W.OpenLaw} {w : World} {K : PySem.W.Frag} {h : Heap} {mg : Str → Option Value} {fa : Addr} (X : K.In h) (G : h.Ns mainGlobals mg) (hfa : mg "law" = some (.ref fa))
    {x0 : Addr} {od0 an0 : Option Addr} {sl0 : Array (Option Value)} {oc0 kV0 dc0 pm0 cd0 ct0 : Value}
    {x1 : Addr} {od1 an1 : Option Addr} {sl1 : Array (Option Value)} {oc1 kV1 dc1 pm1 cd1 ct1 : Value}
    {x2 : Addr} {od2 an2 : Option Addr} {sl2 : Array (Option Value)} {oc2 kV2 dc2 pm2 cd2 ct2 : Value}
    {x3 : Addr} {od3 an3 : Option Addr} {sl3 : Array (Option Value)} {oc3 kV3 dc3 pm3 cd3 ct3 : Value}
    {x4 : Addr} {od4 an4 : Option Addr} {sl4 : Array (Option Value)} {oc4 kV4 dc4 pm4 cd4 ct4 : Value}
    {x5 : Addr} {od5 an5 : Option Addr} {sl5 : Array (Option Value)} {oc5 kV5 dc5 pm5 cd5 ct5 : Value}
    {x6 : Addr} {od6 an6 : Option Addr} {sl6 : Array (Option Value)} {oc6 kV6 dc6 pm6 cd6 ct6 : Value}
    {x7 : Addr} {od7 an7 : Option Addr} {sl7 : Array (Option Value)} {oc7 kV7 dc7 pm7 cd7 ct7 : Value}
    {x8 : Addr} {od8 an8 : Option Addr} {sl8 : Array (Option Value)} {oc8 kV8 dc8 pm8 cd8 ct8 : Value}
    {x9 : Addr} {od9 an9 : Option Addr} {sl9 : Array (Option Value)} {oc9 kV9 dc9 pm9 cd9 ct9 : Value}
    {x10 : Addr} {od10 an10 : Option Addr} {sl10 : Array (Option Value)} {oc10 kV10 dc10 pm10 cd10 ct10 : Value}
    {x11 : Addr} {od11 an11 : Option Addr} {sl11 : Array (Option Value)} {oc11 kV11 dc11 pm11 cd11 ct11 : Value}
    {x12 : Addr} {od12 an12 : Option Addr} {sl12 : Array (Option Value)} {oc12 kV12 dc12 pm12 cd12 ct12 : Value}
    {x13 : Addr} {od13 an13 : Option Addr} {sl13 : Array (Option Value)} {oc13 kV13 dc13 pm13 cd13 ct13 : Value}
    {x14 : Addr} {od14 an14 : Option Addr} {sl14 : Array (Option Value)} {oc14 kV14 dc14 pm14 cd14 ct14 : Value}
    {x15 : Addr} {od15 an15 : Option Addr} {sl15 : Array (Option Value)} {oc15 kV15 dc15 pm15 cd15 ct15 : Value}
    {x16 : Addr} {od16 an16 : Option Addr} {sl16 : Array (Option Value)} {oc16 kV16 dc16 pm16 cd16 ct16 : Value}
    {C_e0 fI_e0 B0_e0 N_e0 : Addr} {nm_e0 q_e0 : Str} {bs_e0 : List Value} {sn_e0 : List Str} {sub_e0 : List Value} {ab_e0 : Bool} {col_e0 : Option Bool} {dd_e0 : Option Addr} {m0_e0 m1_e0 m2_e0 m3_e0 m5_e0 : Option Value}
    {od_e0 an_e0 : Option Addr} {sl_e0 : Array (Option Value)} {oc_e0 kV_e0 dc_e0 pm_e0 cd_e0 ct_e0 : Value}
    (a0 : PySem.W.nsIn K mainGlobals "is_integer" = some (some (.ref x0)))
    (l0 : K.lookup x0 = some ⟨oc0, od0, .func (PySem.W.fnOf "is_integer" "is_integer" (defArgs s_is_integer) (defBody s_is_integer) (defScope s_is_integer) .none kV0 dc0 pm0 an0 cd0 ct0), sl0⟩)
    (c0 : PySem.W.codeIn K cd0 "is_integer" = true) (k0 : PySem.W.keepIn K (.ref x0) = true)
    (a1 : PySem.W.nsIn K mainGlobals "is_number" = some (some (.ref x1)))
    (l1 : K.lookup x1 = some ⟨oc1, od1, .func (PySem.W.fnOf "is_number" "is_number" (defArgs s_is_number) (defBody s_is_number) (defScope s_is_number) .none kV1 dc1 pm1 an1 cd1 ct1), sl1⟩)
    (c1 : PySem.W.codeIn K cd1 "is_number" = true) (k1 : PySem.W.keepIn K (.ref x1) = true)
    (a2 : PySem.W.nsIn K mainGlobals "is_word" = some (some (.ref x2)))
    (l2 : K.lookup x2 = some ⟨oc2, od2, .func (PySem.W.fnOf "is_word" "is_word" (defArgs s_is_word) (defBody s_is_word) (defScope s_is_word) .none kV2 dc2 pm2 an2 cd2 ct2), sl2⟩)
    (c2 : PySem.W.codeIn K cd2 "is_word" = true) (k2 : PySem.W.keepIn K (.ref x2) = true)
    (a3 : PySem.W.nsIn K mainGlobals "check_word" = some (some (.ref x3)))
    (l3 : K.lookup x3 = some ⟨oc3, od3, .func (PySem.W.fnOf "check_word" "check_word" (defArgs s_check_word) (defBody s_check_word) (defScope s_check_word) .none kV3 dc3 pm3 an3 cd3 ct3), sl3⟩)
    (c3 : PySem.W.codeIn K cd3 "check_word" = true) (k3 : PySem.W.keepIn K (.ref x3) = true)
    (a4 : PySem.W.nsIn K mainGlobals "undone" = some (some (.ref x4)))
    (l4 : K.lookup x4 = some ⟨oc4, od4, .func (PySem.W.fnOf "undone" "undone" (defArgs s_undone) (defBody s_undone) (defScope s_undone) .none kV4 dc4 pm4 an4 cd4 ct4), sl4⟩)
    (c4 : PySem.W.codeIn K cd4 "undone" = true) (k4 : PySem.W.keepIn K (.ref x4) = true)
    (a5 : PySem.W.nsIn K mainGlobals "freely_reduced" = some (some (.ref x5)))
    (l5 : K.lookup x5 = some ⟨oc5, od5, .func (PySem.W.fnOf "freely_reduced" "freely_reduced" (defArgs s_freely_reduced) (defBody s_freely_reduced) (defScope s_freely_reduced) .none kV5 dc5 pm5 an5 cd5 ct5), sl5⟩)
    (c5 : PySem.W.codeIn K cd5 "freely_reduced" = true) (k5 : PySem.W.keepIn K (.ref x5) = true)
    (a6 : PySem.W.nsIn K mainGlobals "_law_box" = some (some (.ref x6)))
    (l6 : K.lookup x6 = some ⟨oc6, od6, .func (PySem.W.fnOf "_law_box" "_law_box" (defArgs s_law_box) (defBody s_law_box) (defScope s_law_box) .none kV6 dc6 pm6 an6 cd6 ct6), sl6⟩)
    (c6 : PySem.W.codeIn K cd6 "_law_box" = true) (k6 : PySem.W.keepIn K (.ref x6) = true)
    (a7 : PySem.W.nsIn K mainGlobals "_law_draw" = some (some (.ref x7)))
    (l7 : K.lookup x7 = some ⟨oc7, od7, .func (PySem.W.fnOf "_law_draw" "_law_draw" (defArgs s_law_draw) (defBody s_law_draw) (defScope s_law_draw) .none kV7 dc7 pm7 an7 cd7 ct7), sl7⟩)
    (c7 : PySem.W.codeIn K cd7 "_law_draw" = true) (k7 : PySem.W.keepIn K (.ref x7) = true)
    (a8 : PySem.W.nsIn K mainGlobals "_law_number" = some (some (.ref x8)))
    (l8 : K.lookup x8 = some ⟨oc8, od8, .func (PySem.W.fnOf "_law_number" "_law_number" (defArgs s_law_number) (defBody s_law_number) (defScope s_law_number) .none kV8 dc8 pm8 an8 cd8 ct8), sl8⟩)
    (c8 : PySem.W.codeIn K cd8 "_law_number" = true) (k8 : PySem.W.keepIn K (.ref x8) = true)
    (a9 : PySem.W.nsIn K mainGlobals "_law_undo" = some (some (.ref x9)))
    (l9 : K.lookup x9 = some ⟨oc9, od9, .func (PySem.W.fnOf "_law_undo" "_law_undo" (defArgs s_law_undo) (defBody s_law_undo) (defScope s_law_undo) .none kV9 dc9 pm9 an9 cd9 ct9), sl9⟩)
    (c9 : PySem.W.codeIn K cd9 "_law_undo" = true) (k9 : PySem.W.keepIn K (.ref x9) = true)
    (a10 : PySem.W.nsIn K mainGlobals "_law_word" = some (some (.ref x10)))
    (l10 : K.lookup x10 = some ⟨oc10, od10, .func (PySem.W.fnOf "_law_word" "_law_word" (defArgs s_law_word) (defBody s_law_word) (defScope s_law_word) .none kV10 dc10 pm10 an10 cd10 ct10), sl10⟩)
    (c10 : PySem.W.codeIn K cd10 "_law_word" = true) (k10 : PySem.W.keepIn K (.ref x10) = true)
    (a11 : PySem.W.nsIn K mainGlobals "_law_is_word" = some (some (.ref x11)))
    (l11 : K.lookup x11 = some ⟨oc11, od11, .func (PySem.W.fnOf "_law_is_word" "_law_is_word" (defArgs s_law_is_word) (defBody s_law_is_word) (defScope s_law_is_word) .none kV11 dc11 pm11 an11 cd11 ct11), sl11⟩)
    (c11 : PySem.W.codeIn K cd11 "_law_is_word" = true) (k11 : PySem.W.keepIn K (.ref x11) = true)
    (a12 : PySem.W.nsIn K mainGlobals "_law_thing" = some (some (.ref x12)))
    (l12 : K.lookup x12 = some ⟨oc12, od12, .func (PySem.W.fnOf "_law_thing" "_law_thing" (defArgs s_law_thing) (defBody s_law_thing) (defScope s_law_thing) .none kV12 dc12 pm12 an12 cd12 ct12), sl12⟩)
    (c12 : PySem.W.codeIn K cd12 "_law_thing" = true) (k12 : PySem.W.keepIn K (.ref x12) = true)
    (a13 : PySem.W.nsIn K mainGlobals "_law_spoilt" = some (some (.ref x13)))
    (l13 : K.lookup x13 = some ⟨oc13, od13, .func (PySem.W.fnOf "_law_spoilt" "_law_spoilt" (defArgs s_law_spoilt) (defBody s_law_spoilt) (defScope s_law_spoilt) .none kV13 dc13 pm13 an13 cd13 ct13), sl13⟩)
    (c13 : PySem.W.codeIn K cd13 "_law_spoilt" = true) (k13 : PySem.W.keepIn K (.ref x13) = true)
    (a14 : PySem.W.nsIn K mainGlobals "_law_asked" = some (some (.ref x14)))
    (l14 : K.lookup x14 = some ⟨oc14, od14, .func (PySem.W.fnOf "_law_asked" "_law_asked" (defArgs s_law_asked) (defBody s_law_asked) (defScope s_law_asked) .none kV14 dc14 pm14 an14 cd14 ct14), sl14⟩)
    (c14 : PySem.W.codeIn K cd14 "_law_asked" = true) (k14 : PySem.W.keepIn K (.ref x14) = true)
    (a15 : PySem.W.nsIn K mainGlobals "_law_all" = some (some (.ref x15)))
    (l15 : K.lookup x15 = some ⟨oc15, od15, .func (PySem.W.fnOf "_law_all" "_law_all" (defArgs s_law_all) (defBody s_law_all) (defScope s_law_all) .none kV15 dc15 pm15 an15 cd15 ct15), sl15⟩)
    (c15 : PySem.W.codeIn K cd15 "_law_all" = true) (k15 : PySem.W.keepIn K (.ref x15) = true)
    (a16 : PySem.W.nsIn K mainGlobals "law" = some (some (.ref x16)))
    (l16 : K.lookup x16 = some ⟨oc16, od16, .func (PySem.W.fnOf "law" "law" (defArgs s_law) (defBody s_law) (defScope s_law) .none kV16 dc16 pm16 an16 cd16 ct16), sl16⟩)
    (c16 : PySem.W.codeIn K cd16 "law" = true) (k16 : PySem.W.keepIn K (.ref x16) = true)
    (z_abs : PySem.W.nsIn K mainGlobals "abs" = some none)
    (z_all : PySem.W.nsIn K mainGlobals "all" = some none)
    (z_bool : PySem.W.nsIn K mainGlobals "bool" = some none)
    (z_int : PySem.W.nsIn K mainGlobals "int" = some none)
    (z_isinstance : PySem.W.nsIn K mainGlobals "isinstance" = some none)
    (z_len : PySem.W.nsIn K mainGlobals "len" = some none)
    (z_list : PySem.W.nsIn K mainGlobals "list" = some none)
    (z_range : PySem.W.nsIn K mainGlobals "range" = some none)
    (z_repr : PySem.W.nsIn K mainGlobals "repr" = some none)
    (z_str : PySem.W.nsIn K mainGlobals "str" = some none)
    (z_tuple : PySem.W.nsIn K mainGlobals "tuple" = some none)
    (aC_e0 : PySem.W.nsIn K mainGlobals "InvalidWord" = some (some (.ref C_e0)))
    (xL_e0 : K.lookup C_e0 = some (excClassObj nm_e0 q_e0 C_e0 N_e0 bs_e0 [.ref B0_e0, .type "ValueError", .type "Exception", .type "BaseException", .type "object"] true sn_e0 sub_e0 ab_e0 col_e0 dd_e0 m0_e0 m1_e0 m2_e0 m3_e0 m5_e0 "ValueError.__new__"))
    (sa_e0 : PySem.W.findIn K (.ref C_e0) "__setattr__" = some (some (.builtin "object.__setattr__")))
    (ga_e0 : PySem.W.findIn K (.ref C_e0) "__getattribute__" = some (some (.builtin "BaseException.__getattribute__")))
    (gg_e0 : PySem.W.findIn K (.ref C_e0) "__getattr__" = some none)
    (n0_e0 : PySem.W.findIn K (.ref C_e0) "value" = some none)
    (iC_e0 : PySem.W.findIn K (.ref C_e0) "__init__" = some (some (.ref fI_e0)))
    (tI_e0 : PySem.W.typeIn K (.ref fI_e0) = some (.type "function"))
    (lI_e0 : K.lookup fI_e0 = some ⟨oc_e0, od_e0, .func (PySem.W.fnOf "__init__" "InvalidWord.__init__" (defArgs s_init_InvalidWord) (defBody s_init_InvalidWord) (defScope s_init_InvalidWord) .none kV_e0 dc_e0 pm_e0 an_e0 cd_e0 ct_e0), sl_e0⟩)
    (cI_e0 : PySem.W.codeIn K cd_e0 "InvalidWord.__init__" = true)
    (kI_e0 : PySem.W.keepIn K (.ref fI_e0) = true)
    (kC_e0 : PySem.W.keepIn K (.ref C_e0) = true)
    (eC_e0 : PySem.W.subIn K (.ref C_e0) (.type "BaseException") = some true)
    (tC_e0 : PySem.W.typeIn K (.ref C_e0) = some (.type "type"))
    (hC_e0 : PySem.W.hasDictIn K C_e0 = true)
    (iS_e0 : PySem.W.isClsIn K C_e0 = true)
    (sC_InvalidWord_InvalidWord : PySem.W.subIn K (.ref C_e0) (.ref C_e0) = some true) :
    ∃ fd : FuncData, (∀ (s : Shared) (v : Value), BindsTo s fd ⟨[v], []⟩ [("script", v)]) ∧ ∀ base : Heap, K.In base → base.Ns mainGlobals mg → FnG l.prog w K mg base CX0 8 fa fd ["script"] (spAll K) := by
  have e := hfa.symm.trans (PySem.W.mg_of X G a16)
  cases e
  let T : Txt K mg := {
    f_is_integer := x0, d_is_integer := _, F_is_integer := fun_mk (st := s_is_integer) l0 c0 k0, b_is_integer := (fun_mk (st := s_is_integer) l0 c0 k0).binds (ps := ["value"]) fun _ _ _ _ _ _ us hl => (match us, hl with | [_], _ => rfl), g_is_integer := PySem.W.mg_of X G a0,
    f_is_number := x1, d_is_number := _, F_is_number := fun_mk (st := s_is_number) l1 c1 k1, b_is_number := (fun_mk (st := s_is_number) l1 c1 k1).binds (ps := ["value"]) fun _ _ _ _ _ _ us hl => (match us, hl with | [_], _ => rfl), g_is_number := PySem.W.mg_of X G a1,
    f_is_word := x2, d_is_word := _, F_is_word := fun_mk (st := s_is_word) l2 c2 k2, b_is_word := (fun_mk (st := s_is_word) l2 c2 k2).binds (ps := ["value", "letters"]) fun _ _ _ _ _ _ us hl => (match us, hl with | [_, _], _ => rfl), g_is_word := PySem.W.mg_of X G a2,
    f_check_word := x3, d_check_word := _, F_check_word := fun_mk (st := s_check_word) l3 c3 k3, b_check_word := (fun_mk (st := s_check_word) l3 c3 k3).binds (ps := ["word", "letters"]) fun _ _ _ _ _ _ us hl => (match us, hl with | [_, _], _ => rfl), g_check_word := PySem.W.mg_of X G a3,
    f_undone := x4, d_undone := _, F_undone := fun_mk (st := s_undone) l4 c4 k4, b_undone := (fun_mk (st := s_undone) l4 c4 k4).binds (ps := ["undo", "word"]) fun _ _ _ _ _ _ us hl => (match us, hl with | [_, _], _ => rfl), g_undone := PySem.W.mg_of X G a4,
    f_freely_reduced := x5, d_freely_reduced := _, F_freely_reduced := fun_mk (st := s_freely_reduced) l5 c5 k5, b_freely_reduced := (fun_mk (st := s_freely_reduced) l5 c5 k5).binds (ps := ["undo", "word"]) fun _ _ _ _ _ _ us hl => (match us, hl with | [_, _], _ => rfl), g_freely_reduced := PySem.W.mg_of X G a5,
    f_law_box := x6, d_law_box := _, F_law_box := fun_mk (st := s_law_box) l6 c6 k6, b_law_box := (fun_mk (st := s_law_box) l6 c6 k6).binds (ps := ["script"]) fun _ _ _ _ _ _ us hl => (match us, hl with | [_], _ => rfl), g_law_box := PySem.W.mg_of X G a6,
    f_law_draw := x7, d_law_draw := _, F_law_draw := fun_mk (st := s_law_draw) l7 c7 k7, b_law_draw := (fun_mk (st := s_law_draw) l7 c7 k7).binds (ps := ["box", "limit"]) fun _ _ _ _ _ _ us hl => (match us, hl with | [_, _], _ => rfl), g_law_draw := PySem.W.mg_of X G a7,
    f_law_number := x8, d_law_number := _, F_law_number := fun_mk (st := s_law_number) l8 c8 k8, b_law_number := (fun_mk (st := s_law_number) l8 c8 k8).binds (ps := ["value"]) fun _ _ _ _ _ _ us hl => (match us, hl with | [_], _ => rfl), g_law_number := PySem.W.mg_of X G a8,
    f_law_undo := x9, d_law_undo := _, F_law_undo := fun_mk (st := s_law_undo) l9 c9 k9, b_law_undo := (fun_mk (st := s_law_undo) l9 c9 k9).binds (ps := ["box", "most"]) fun _ _ _ _ _ _ us hl => (match us, hl with | [_, _], _ => rfl), g_law_undo := PySem.W.mg_of X G a9,
    f_law_word := x10, d_law_word := _, F_law_word := fun_mk (st := s_law_word) l10 c10 k10, b_law_word := (fun_mk (st := s_law_word) l10 c10 k10).binds (ps := ["box", "letters", "most"]) fun _ _ _ _ _ _ us hl => (match us, hl with | [_, _, _], _ => rfl), g_law_word := PySem.W.mg_of X G a10,
    f_law_is_word := x11, d_law_is_word := _, F_law_is_word := fun_mk (st := s_law_is_word) l11 c11 k11, b_law_is_word := (fun_mk (st := s_law_is_word) l11 c11 k11).binds (ps := ["value", "letters"]) fun _ _ _ _ _ _ us hl => (match us, hl with | [_, _], _ => rfl), g_law_is_word := PySem.W.mg_of X G a11,
    f_law_thing := x12, d_law_thing := _, F_law_thing := fun_mk (st := s_law_thing) l12 c12 k12, b_law_thing := (fun_mk (st := s_law_thing) l12 c12 k12).binds (ps := ["box"]) fun _ _ _ _ _ _ us hl => (match us, hl with | [_], _ => rfl), g_law_thing := PySem.W.mg_of X G a12,
    f_law_spoilt := x13, d_law_spoilt := _, F_law_spoilt := fun_mk (st := s_law_spoilt) l13 c13 k13, b_law_spoilt := (fun_mk (st := s_law_spoilt) l13 c13 k13).binds (ps := ["box", "word", "letters"]) fun _ _ _ _ _ _ us hl => (match us, hl with | [_, _, _], _ => rfl), g_law_spoilt := PySem.W.mg_of X G a13,
    f_law_asked := x14, d_law_asked := _, F_law_asked := fun_mk (st := s_law_asked) l14 c14 k14, b_law_asked := (fun_mk (st := s_law_asked) l14 c14 k14).binds (ps := ["undo", "value"]) fun _ _ _ _ _ _ us hl => (match us, hl with | [_, _], _ => rfl), g_law_asked := PySem.W.mg_of X G a14,
    f_law_all := x15, d_law_all := _, F_law_all := fun_mk (st := s_law_all) l15 c15 k15, b_law_all := (fun_mk (st := s_law_all) l15 c15 k15).binds (ps := ["script"]) fun _ _ _ _ _ _ us hl => (match us, hl with | [_], _ => rfl), g_law_all := PySem.W.mg_of X G a15,
    f_law := fa, d_law := _, F_law := fun_mk (st := s_law) l16 c16 k16, b_law := (fun_mk (st := s_law) l16 c16 k16).binds (ps := ["script"]) fun _ _ _ _ _ _ us hl => (match us, hl with | [_], _ => rfl), g_law := PySem.W.mg_of X G a16,
    z_abs := PySem.W.mg_none_of X G z_abs,
    z_all := PySem.W.mg_none_of X G z_all,
    z_bool := PySem.W.mg_none_of X G z_bool,
    z_int := PySem.W.mg_none_of X G z_int,
    z_isinstance := PySem.W.mg_none_of X G z_isinstance,
    z_len := PySem.W.mg_none_of X G z_len,
    z_list := PySem.W.mg_none_of X G z_list,
    z_range := PySem.W.mg_none_of X G z_range,
    z_repr := PySem.W.mg_none_of X G z_repr,
    z_str := PySem.W.mg_none_of X G z_str,
    z_tuple := PySem.W.mg_none_of X G z_tuple,
    a_InvalidWord := C_e0, i_InvalidWord := fI_e0, di_InvalidWord := _, x_InvalidWord := { gC := PySem.W.mg_of X G aC_e0, T := { cls := ⟨nm_e0, q_e0, N_e0, bs_e0, _, sn_e0, sub_e0, ab_e0, col_e0, dd_e0, m0_e0, m1_e0, m2_e0, m3_e0, m5_e0, xL_e0, (show PySem.HandSPX.refsVE [.type "ValueError", .type "Exception", .type "BaseException", .type "object"] = true from by decide +kernel)⟩, sa := sa_e0, exC := eC_e0, tyC := tC_e0, kC := kC_e0 }, X := { ga := ga_e0, gg := gg_e0, exC := eC_e0, hdC := hC_e0 }, no := (fun f hf => by simp only [List.mem_cons, List.not_mem_nil, or_false] at hf; subst hf; exact n0_e0), iC := iC_e0, tI := tI_e0 },
    Fi_InvalidWord := fun_mk (st := s_init_InvalidWord) lI_e0 cI_e0 kI_e0, bi_InvalidWord := (fun_mk (st := s_init_InvalidWord) lI_e0 cI_e0 kI_e0).binds (ps := ["self", "value"]) fun _ _ _ _ _ _ us hl => (match us, hl with | [_, _], _ => rfl),
    te_InvalidWord_InvalidWord := exm_own eC_e0 iS_e0 tC_e0 sC_InvalidWord_InvalidWord eC_e0 iS_e0 tC_e0 }
  exact ⟨_, fun s v => .of_eq rfl, fun base _ _ => ok_law T⟩
end Nw.K03
open PySem PySem.W PyProof.Rows
set_option maxHeartbeats 0 in
theorem PySem.Challenge.cw_normalwords_k03_faults_of_words_holds : PySem.Challenge.rw_normalwords_k03_faults_of_words.Holds := by
  w_on; o_law; k_head; (case hw => w_witness2)
  k_fill
  refine Nw.walkG (l := PySem.Challenge.rw_normalwords_k03_faults_of_words) (n := 63) (k := 8) (x := "script") (CX := fun _ => L2.CX0) (sp := fun w => Nw.spAll _) rfl (by decide) rfl ⟨rfl, by decide, by decide⟩ (fun w h Y => PySem.W.kIn_of Y) ?F (fun _ _ a ns hl _ hS => ⟨a, ns, rfl, hS, hl, fun _ => rfl⟩) (fun _ _ _ _ _ h => h)
  case F =>
    intro w mg fa h KX G hmg
    refine' Nw.K03.all_mk KX G hmg ?a0 ?l0 ?c0 ?k0 ?a1 ?l1 ?c1 ?k1 ?a2 ?l2 ?c2 ?k2 ?a3 ?l3 ?c3 ?k3 ?a4 ?l4 ?c4 ?k4 ?a5 ?l5 ?c5 ?k5 ?a6 ?l6 ?c6 ?k6 ?a7 ?l7 ?c7 ?k7 ?a8 ?l8 ?c8 ?k8 ?a9 ?l9 ?c9 ?k9 ?a10 ?l10 ?c10 ?k10 ?a11 ?l11 ?c11 ?k11 ?a12 ?l12 ?c12 ?k12 ?a13 ?l13 ?c13 ?k13 ?a14 ?l14 ?c14 ?k14 ?a15 ?l15 ?c15 ?k15 ?a16 ?l16 ?c16 ?k16 ?z_abs ?z_all ?z_bool ?z_int ?z_isinstance ?z_len ?z_list ?z_range ?z_repr ?z_str ?z_tuple ?aC_e0 ?xL_e0 ?sa_e0 ?ga_e0 ?gg_e0 ?n0_e0 ?iC_e0 ?tI_e0 ?lI_e0 ?cI_e0 ?kI_e0 ?kC_e0 ?eC_e0 ?tC_e0 ?hC_e0 ?iS_e0 ?sC_InvalidWord_InvalidWord
    (case a0 => k_is)
    (case l0 => k_is)
    (case c0 => k_is)
    (case k0 => k_is)
    (case a1 => k_is)
    (case l1 => k_is)
    (case c1 => k_is)
    (case k1 => k_is)
    (case a2 => k_is)
    (case l2 => k_is)
    (case c2 => k_is)
    (case k2 => k_is)
    (case a3 => k_is)
    (case l3 => k_is)
    (case c3 => k_is)
    (case k3 => k_is)
    (case a4 => k_is)
    (case l4 => k_is)
    (case c4 => k_is)
    (case k4 => k_is)
    (case a5 => k_is)
    (case l5 => k_is)
    (case c5 => k_is)
    (case k5 => k_is)
    (case a6 => k_is)
    (case l6 => k_is)
    (case c6 => k_is)
    (case k6 => k_is)
    (case a7 => k_is)
    (case l7 => k_is)
    (case c7 => k_is)
    (case k7 => k_is)
    (case a8 => k_is)
    (case l8 => k_is)
    (case c8 => k_is)
    (case k8 => k_is)
    (case a9 => k_is)
    (case l9 => k_is)
    (case c9 => k_is)
    (case k9 => k_is)
    (case a10 => k_is)
    (case l10 => k_is)
    (case c10 => k_is)
    (case k10 => k_is)
    (case a11 => k_is)
    (case l11 => k_is)
    (case c11 => k_is)
    (case k11 => k_is)
    (case a12 => k_is)
    (case l12 => k_is)
    (case c12 => k_is)
    (case k12 => k_is)
    (case a13 => k_is)
    (case l13 => k_is)
    (case c13 => k_is)
    (case k13 => k_is)
    (case a14 => k_is)
    (case l14 => k_is)
    (case c14 => k_is)
    (case k14 => k_is)
    (case a15 => k_is)
    (case l15 => k_is)
    (case c15 => k_is)
    (case k15 => k_is)
    (case a16 => k_is)
    (case l16 => k_is)
    (case c16 => k_is)
    (case k16 => k_is)
    (case z_abs => k_is)
    (case z_all => k_is)
    (case z_bool => k_is)
    (case z_int => k_is)
    (case z_isinstance => k_is)
    (case z_len => k_is)
    (case z_list => k_is)
    (case z_range => k_is)
    (case z_repr => k_is)
    (case z_str => k_is)
    (case z_tuple => k_is)
    (case aC_e0 => k_is)
    (case xL_e0 => k_is)
    (case sa_e0 => k_is)
    (case ga_e0 => k_is)
    (case gg_e0 => k_is)
    (case n0_e0 => k_is)
    (case iC_e0 => k_is)
    (case tI_e0 => k_is)
    (case lI_e0 => k_is)
    (case cI_e0 => k_is)
    (case kI_e0 => k_is)
    (case kC_e0 => k_is)
    (case eC_e0 => k_is)
    (case tC_e0 => k_is)
    (case hC_e0 => k_is)
    (case iS_e0 => k_is)
    (case sC_InvalidWord_InvalidWord => k_is)
