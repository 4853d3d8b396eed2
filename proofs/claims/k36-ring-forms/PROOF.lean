import PyProof.Rows.All
import Wide.All
import OpenK.AllK
import Wide.FinOn
import HandS.ForMost
import HandS.ForExc
import HandS.NoneIn
import HandS.SetKeys
import HandS.TupLen
import KE.KDictKeyed
import KE.KDictDisplayH
import HandS.TupAny
import HandS.TupLe
import HandS.Dict
import HandS.Comp
import HandS.List
import HandS.Text
import HandS.TupMul
import PyProof.ReprRoads
import KE.GoesEnum
import KE.KRevSl
import HandS.Style
import HandS.IsInst
import HandS.Walk
import HandS.ExcInit
import HandS.ExcField
import HandS.ExcOwn
import HandS.TryMany
import HandS.Deep
import HandS.More
import HandS.Zip
import HandS.Iter
import PyProof.ReprLen
import PyProof.FitsInt
import HandS.DictComp
import HandS.Codes
import HandS.Conv
import HandS.SortInts
import PyProof.Rows.StrJoinMade
import KE.KSortTupG
import HandS.Sort
import KE.DatumOrd
import PySem.Challenge.RW_normalwords_k36_ring_forms
set_option Elab.async false
set_option linter.all false
set_option maxRecDepth 100000
set_option maxHeartbeats 1000000
namespace MN
open PySem PySem.Spec PyProof.Rows L2
abbrev NK := PySem.NestedKey
mutual
/-- the value v is the key k -/
inductive NV (H : Hp) : V → NK → Prop
  | non : NV H .non .none
  | int (i : Int) : NV H (.int i) (.num i)
  | str (s : Str) : NV H (.str s) (.text s)
  | tup {b : Addr} {vs : List V} {ks : List NK} : H b = some (.tup vs) → NVs H vs ks → NV H (.ref b) (.tup ks)
inductive NVs (H : Hp) : List V → List NK → Prop
  | nil : NVs H [] []
  | cons {v : V} {vs : List V} {k : NK} {ks : List NK} : NV H v k → NVs H vs ks → NVs H (v :: vs) (k :: ks)
end
section
variable {H H' : Hp}
mutual
theorem NV.mono (e : ∀ b ys, H b = some (.tup ys) → H' b = some (.tup ys)) : ∀ {v : V} {k : NK}, NV H v k → NV H' v k
  | _, _, .non => .non
  | _, _, .int i => .int i
  | _, _, .str s => .str s
  | _, _, .tup h a => .tup (e _ _ h) (NVs.mono e a)
theorem NVs.mono (e : ∀ b ys, H b = some (.tup ys) → H' b = some (.tup ys)) : ∀ {vs : List V} {ks : List NK}, NVs H vs ks → NVs H' vs ks
  | _, _, .nil => .nil
  | _, _, .cons h a => .cons (NV.mono e h) (NVs.mono e a)
end
variable {P : Program} {w : World} {h : Heap}
mutual
theorem NV.is (ok : HOk P w H h) : ∀ {v : V} {k : NK} {u : Value}, NV H v k → RelV v u → NestedIs h k u
  | _, _, _, .non, r => by cases r; exact .none
  | _, _, _, .int i, r => by obtain ⟨t, rfl⟩ := r; exact .int _ _
  | _, _, _, .str s, r => by obtain ⟨t, rfl⟩ := r; exact .text _ _
  | _, _, _, .tup (b := b) (vs := vs) hb a, r => by
    cases r
    obtain ⟨_, its, rv, o, h1, h2, n, h3⟩ := (show ObjOk P w H h b (.tup vs) from ok b _ hb)
    exact .tup h1 h2 h3 (by simpa using NVs.is ok a rv)
theorem NVs.is (ok : HOk P w H h) : ∀ {vs : List V} {ks : List NK} {us : List Value}, NVs H vs ks → Vals vs us → NestedAll h ks us
  | _, _, _, .nil, r => by cases r; exact .nil
  | _, _, _, .cons x a, r => by
    cases r with
    | cons r1 r2 => exact .cons (NV.is ok x r1) (NVs.is ok a r2)
end
end
/-- one entry: key, where it stands, value -/
abbrev NE := NK × Addr × V
abbrev KN (ws : List NE) (xs : List (NK × Addr × Value)) : Prop := Paired (fun (p : NE) (q : NK × Addr × Value) => p.1 = q.1 ∧ p.2.1 = q.2.1 ∧ RelV p.2.2 q.2.2) ws xs
def ndRaw (P : Program) (w : World) (a : Addr) (ws : List NE) (h : Heap) : Prop := ws.length ≤ sizeLine ∧ (a == sysModules) = false ∧ ∃ xs, KN ws xs ∧ ∃ o es ep, h.get? a = some o ∧ o.ExactDict ∧ o.data = .dict es ep ∧ es.toList = xs.map (entryOfKey (nestedKind P w)) ∧ (xs.map (·.1)).Nodup
/-- a dict whose keys are nested tuples -/
def ndO (P : Program) (w : World) (a : Addr) (ws : List NE) : HO := .ext (ndRaw P w a ws)
def okN (H : Hp) (ws : List NE) : Prop := ∀ x ∈ ws, NV H (.ref x.2.1) x.1 ∧ x.1.depth ≤ 8
theorem okN.mono {H H' : Hp} {ws : List NE} (e : ∀ b ys, H b = some (.tup ys) → H' b = some (.tup ys)) (h : okN H ws) : okN H' ws := fun x hx => ⟨(h x hx).1.mono e, (h x hx).2⟩
def pvN (ws : List NE) : List (NK × V) := ws.map fun x => (x.1, x.2.2)
def putN (ws : List NE) (k : NK) (b : Addr) (v : V) : List NE := if (valV (pvN ws) k).isSome = true then ws.map (fun x => if x.1 = k then (x.1, x.2.1, v) else x) else ws ++ [(k, b, v)]
section
variable {P : Program} {w : World} {H : Hp} {h : Heap} {a : Addr} {ws : List NE} {xs : List (NK × Addr × Value)}
theorem KN.len (r : KN ws xs) : ws.length = xs.length := Paired.length r
theorem KN.val (r : KN ws xs) (k : NK) : RelO (valV (pvN ws) k) ((atKey xs k).map (·.2)) := by
  unfold KN at r
  induction r with
  | nil => exact True.intro
  | @cons p q ps qs h t ih =>
    obtain ⟨h1, h2, h3⟩ := h
    by_cases e : p.1 = k
    · have e' : q.1 = k := h1.symm.trans e
      have b : atKey (q :: qs) k = some q.2 := by simp [atKey, List.find?_cons, e']
      have c : valV (pvN (p :: ps)) k = some p.2.2 := valV_pos (p := (p.1, p.2.2)) e
      rw [c, b]; exact h3
    · have e' : ¬ q.1 = k := fun z => e (h1.trans z)
      have b : atKey (q :: qs) k = atKey qs k := by simp [atKey, List.find?_cons, e']
      have c : valV (pvN (p :: ps)) k = valV (pvN ps) k := valV_neg (p := (p.1, p.2.2)) e
      rw [c, b]; exact ih
theorem KN.put (r : KN ws xs) (k : NK) {b : Addr} {y : V} {u : Value} (ry : RelV y u) : KN (putN ws k b y) (storedH xs k b u) := by
  have e : (valV (pvN ws) k).isSome = (atKey xs k).isSome := by rw [(r.val k).isSome_eq, Option.isSome_map]
  unfold putN storedH
  rw [e]
  by_cases q : (atKey xs k).isSome = true
  · rw [if_pos q, if_pos q]
    clear e q
    unfold KN at r ⊢
    induction r with
    | nil => exact .nil
    | @cons p q ps qs h t ih =>
      rw [List.map_cons, List.map_cons]
      refine .cons ?_ ih
      obtain ⟨h1, h2, h3⟩ := h
      unfold putAt
      by_cases e : p.1 = k
      · rw [if_pos e, if_pos (h1.symm.trans e)]; exact ⟨h1, h2, ry⟩
      · rw [if_neg e, if_neg (fun z => e (h1.trans z))]; exact ⟨h1, h2, h3⟩
  · rw [if_neg q, if_neg q]; exact Paired.snoc r ⟨rfl, rfl, ry⟩
theorem putN_len (k : NK) (b : Addr) (v : V) : (putN ws k b v).length ≤ ws.length + 1 := by
  unfold putN
  split
  · rw [List.length_map]; omega
  · rw [List.length_append]; simp
theorem okN.put (h : okN H ws) {k : NK} {b : Addr} {v : V} (hb : NV H (.ref b) k) (hd : k.depth ≤ 8) : okN H (putN ws k b v) := fun x hx => by
  unfold putN at hx
  split at hx
  · obtain ⟨y, hy, rfl⟩ := List.mem_map.mp hx
    split
    · exact h y hy
    · exact h y hy
  · rcases List.mem_append.mp hx with hx | hx
    · exact h x hx
    · rw [List.mem_singleton.mp hx]; exact ⟨hb, hd⟩
theorem pv_put (k : NK) (b : Addr) (v : V) : pvN (putN ws k b v) = putK (pvN ws) k v := by
  unfold putN putK
  rw [valV_any]
  split
  · unfold pvN
    rw [List.map_map, List.map_map]
    refine List.map_congr_left fun x _ => ?_
    show (_, _) = _
    by_cases e : x.1 = k
    · simp [e]
    · simp [e]
  · unfold pvN
    rw [List.map_append]
    rfl
theorem nd_obj (ws : List NE) (e : ndRaw P w a ws h) : ObjOk P w H h a (ndO P w a ws) := by
  have q := e
  obtain ⟨z, y, xs, r, o, es, ep, h1, h2, h3, h4, h5⟩ := e
  exact ⟨q, ⟨o, h1⟩, fun h1' h2' p k => by
    obtain ⟨z, y, xs, r, o, es, ep, g1, g2, g3, g4, g5⟩ := p
    exact ⟨z, y, xs, r, o, es, ep, k o g1, g2, g3, g4, g5⟩⟩
theorem nd_raw (ok : HOk P w H h) (e : Rd H a (ndO P w a ws)) : ndRaw P w a ws h := (show ObjOk P w H h a (.ext (ndRaw P w a ws)) from rd_of ok e).1
theorem nd_rd (ok : HOk P w H h) (e : Rd H a (ndO P w a ws)) (n : okN H ws) : ws.length ≤ sizeLine ∧ (a == sysModules) = false ∧ ∃ xs, KN ws xs ∧ h.DictOfH (nestedKind P w) a xs := by
  obtain ⟨z, y, xs, r, o, es, ep, h1, h2, h3, h4, h5⟩ := nd_raw ok e
  refine ⟨z, y, xs, r, o, es, ep, h1, h2, h3, h4, fun x hx => ?_, h5⟩
  have all : ∀ {l : List NE} {m : List (NK × Addr × Value)}, KN l m → (∀ x ∈ l, NV H (.ref x.2.1) x.1 ∧ x.1.depth ≤ 8) → ∀ x ∈ m, (nestedKind P w).is h x.1 x.2.1 := by
    intro l m q
    unfold KN at q
    induction q with
    | nil => intro _ x hx; exact nomatch hx
    | @cons p q ps qs hq t ih =>
      intro n x hx
      rcases List.mem_cons.mp hx with e | hx
      · subst e
        obtain ⟨n1, n2⟩ := n p (List.mem_cons_self ..)
        obtain ⟨e1, e2, _⟩ := hq
        rw [← e1, ← e2]
        exact ⟨n1.is ok rfl, n2⟩
      · exact ih (fun y hy => n y (List.mem_cons_of_mem _ hy)) x hx
  exact all r n x hx
theorem key_nd {k : NK} {b : Addr} (nv : NV H (.ref b) k) (ok : HOk P w H h) (hd : k.depth ≤ 8) : (nestedKind P w).is h k b := ⟨nv.is ok rfl, hd⟩
end
/-- the dict at a, of nested keys, at the key y -/
def NGet (P : Program) (w : World) (H : Hp) (a : Addr) (y : V) (r : Option V) : Prop := ∃ ws k b, Rd H a (ndO P w a ws) ∧ okN H ws ∧ y = .ref b ∧ NV H y k ∧ k.depth ≤ 8 ∧ r = valV (pvN ws) k
/-- what a dict holds at y -/
def DGm (P : Program) (w : World) (H : Hp) (a : Addr) (y : V) (r : Option V) : Prop := DGet H a y r ∨ (∃ kvs, Rd H a (.dK kvs) ∧ y = .non ∧ r = none) ∨ NGet P w H a y r
def DPm (P : Program) (w : World) (H : Hp) (a : Addr) (y v : V) (H' : Hp) : Prop := DPut H a y v H' ∨
  ∃ ws k b, H a = some (ndO P w a ws) ∧ okN H ws ∧ y = .ref b ∧ NV H y k ∧ k.depth ≤ 8 ∧ ws.length < sizeLine ∧ H' = upd H a (ndO P w a (putN ws k b v))
def IsDm (P : Program) (w : World) (H : Hp) (a : Addr) : Prop := IsD H a ∨ ∃ ws, Rd H a (ndO P w a ws)
section
variable {X : Cx} {pins : List (Addr × Obj)} {σ : L2.St} {H : Hp} {s : Shared} {a : Addr} {y v d : V} {u r : Value} {o : Option V} {A : Around} {E : Value → Shared → Prop}
theorem ndm_get {Q : Value → Shared → Prop} (hu : A.units + 20 < cLine) (I : L2.Inv X pins σ H s) (g : DGm X.prog X.w H a y (some v)) (ry : RelV y u) (h : ∀ w' s', L2.Inv X pins σ H s' → RelV v w' → Q w' s') :
    wpAny (model X.prog X.w) A (getItem (.ref a) u) Q E s := by
  rcases g with g | ⟨kvs, _, _, z⟩ | ⟨ws, k, b, e, n, ey, nv, hd, l⟩
  · exact d_getItem (by omega) I g ry h
  · cases z
  · subst ey
    cases (show u = Value.ref b from ry)
    obtain ⟨z, hd', xs, rel, dd⟩ := nd_rd I.hok e n
    obtain ⟨w', hw, rw'⟩ := RelO.some_of (v := v) (o := (atKey xs k).map (·.2)) (by rw [l]; exact rel.val k)
    obtain ⟨p, hp, hp2⟩ := Option.map_eq_some_iff.mp hw
    refine wpAny_getItem_heap (show A.in1.units + 8 < cLine by rw [Around.in1_units]; omega) (key_nd nv I.hok hd) dd hp ?_
    rw [hp2]
    exact h w' _ (I.tok _) rw'
theorem ndm_notIn {Q : Value → Shared → Prop} (hu : A.units + 20 < cLine) (I : L2.Inv X pins σ H s) (g : DGm X.prog X.w H a y o) (ry : RelV y u) (h : ∀ s', L2.Inv X pins σ H s' → Q (.bool (!o.isSome)) s') :
    wpAny (model X.prog X.w) A (compareOp .NotIn u (.ref a)) Q E s := by
  rcases g with g | ⟨kvs, e, ey, z⟩ | ⟨ws, k, b, e, n, ey, nv, hd, l⟩
  · exact d_notIn (by omega) I g ry h
  · subst z ey
    obtain rfl : u = Value.none := ry
    exact d_notInNone I e h
  · subst ey
    cases (show u = Value.ref b from ry)
    obtain ⟨z, hd', xs, rel, dd⟩ := nd_rd I.hok e n
    refine wpAny_notIn_heap (show A.in1.units + 8 < cLine by rw [Around.in1_units]; omega) (key_nd nv I.hok hd) hd' dd ?_
    have q := (rel.val k).isSome_eq
    rw [Option.isSome_map] at q
    rw [← q, ← l]
    exact h _ (I.tok _)
theorem ndm_set {H' : Hp} {Q : Unit → Shared → Prop} (hu : A.units + 20 < cLine) (I : L2.Inv X pins σ H s) (g : DPm X.prog X.w H a y v H') (ry : RelV y u) (rv : RelV v r) (h : ∀ s', L2.Inv X pins σ H' s' → Q () s') :
    wpAny (model X.prog X.w) A (setItem (.ref a) u r) Q E s := by
  rcases g with g | ⟨ws, k, b, e, n, ey, nv, hd, l, eH⟩
  · exact d_setItem (by omega) I g ry rv h
  · subst ey eH
    cases (show u = Value.ref b from ry)
    obtain ⟨z, hd', xs, rel, dd⟩ := nd_rd I.hok (.inl e) n
    have hz : xs.length ≤ sizeLine := by rw [← rel.len]; exact z
    have hl : (putN ws k b v).length ≤ sizeLine := by have := putN_len (ws := ws) k b v; omega
    refine wpAny_setItem_heap (hsz := hz) (show A.in1.units + 8 < cLine by rw [Around.in1_units]; omega) (key_nd nv I.hok hd) dd fun h' dd' hs => h _ ?_
    obtain ⟨q, es, ep, hq, h2, h3, h4, _, h5⟩ := dd'
    exact d_write I (by rw [e]; exact True.intro) hs ⟨q, hq⟩ (nd_obj _ ⟨hl, hd', _, rel.put k rv, q, es, ep, hq, h2, h3, h4, h5⟩)
theorem ndm_isD (I : L2.Inv X pins σ H s) (g : IsDm X.prog X.w H a) : s.TypeIs (.ref a) "dict" ∧ (∀ b, Value.ref a = .ref b → ∃ ob, s.heap.get? b = some ob ∧ ob.dict = none) ∧ (a == sysModules) = false := by
  rcases g with g | ⟨ws, e⟩
  · exact isD_at I g
  · obtain ⟨_, hd, xs, _, ob, es, ep, h1, h2, h3, _⟩ := nd_raw I.hok e
    refine ⟨⟨ob, h1, h2.1⟩, fun b q => ?_, hd⟩
    cases q
    exact ⟨ob, h1, h2.2.1⟩
theorem DGm.isD (g : DGm X.prog X.w H a y o) : IsDm X.prog X.w H a := by
  rcases g with g | ⟨kvs, e, ey, z⟩ | ⟨ws, k, b, e, n, ey, nv, hd, l⟩
  · rcases g with ⟨kvs, k, e, _, _⟩ | ⟨kvs, k, b, e, _, _, _⟩
    · exact .inl (.inl ⟨kvs, e⟩)
    · exact .inl (.inr ⟨kvs, e⟩)
  · exact .inl (.inl ⟨kvs, e⟩)
  · exact .inr ⟨ws, e⟩
end
section
variable {X : Cx} {o i e f value : Expr} {pos pos' tpos apos cpos : Pos} {td ty tv tx : TE}
def tNGet (P : Program) (w : World) (td ty : TE) : TE := fun σ H Q => td σ H fun x H1 => ty σ H1 fun y H2 => ∃ a v, x = .ref a ∧ DGm P w H2 a y (some v) ∧ Q v H2
def tNNotIn (P : Program) (w : World) (ty td : TE) : TE := fun σ H Q => ty σ H fun y H1 => td σ H1 fun x H2 => ∃ a o, x = .ref a ∧ DGm P w H2 a y o ∧ Q (.bl (!o.isSome)) H2
def sNPut (P : Program) (w : World) (td ty tv : TE) : TS := fun D σ H => tv σ H fun v H1 => td σ H1 fun x H2 => ty σ H2 fun y H3 => ∃ a H4, x = .ref a ∧ DPm P w H3 a y v H4 ∧ D.nx σ H4
theorem pe_nget (hu : X.A.units + 20 < cLine) (ho : PE X o td) (hi : PE X i ty) (hs : NoSl i) : PE X (.Subscript o i pos) (tNGet X.prog X.w td ty) := by
  refine ⟨fun pins s σ H Q I h => ?_⟩
  refine subD_of PySem.F.slot_dict_getitem.lookup hs (thn (ho.run pins s σ H _ I h) fun u s1 ⟨x, H1, I1, rx, q1⟩ => thn (hi.run pins s1 σ H1 _ I1 q1) fun iv s2 ⟨y, H2, I2, ry, a, v, ex, g, q2⟩ => ?_)
  subst ex
  obtain rfl : u = Value.ref a := rx
  exact ⟨(ndm_isD I2 g.isD).1, ndm_get hu I2 g ry fun w' s3 I3 rw' => ⟨v, H2, I3, rw', q2⟩⟩
theorem pc_nnotin (hu : X.A.units + 20 < cLine) (hi : PE X i ty) (ho : PE X o td) : PC X .NotIn i o (tNNotIn X.prog X.w ty td) := by
  refine ⟨fun pins s σ H Q I h => ?_⟩
  refine thn (hi.run pins s σ H _ I h) fun iv s1 ⟨y, H1, I1, ry, q1⟩ => thn (ho.run pins s1 σ H1 _ I1 q1) fun u s2 ⟨x, H2, I2, rx, a, ov, ex, g, q2⟩ => ?_
  subst ex
  obtain rfl : u = Value.ref a := rx
  exact ndm_notIn hu I2 g ry fun s3 I3 => ⟨.bl (!ov.isSome), H2, I3, rfl, q2⟩
theorem ps_nput (hu : X.A.units + 20 < cLine) (ho : PE X o td) (hi : PE X i ty) (hv : PE X value tv) (hs : swapsWith value (some (.Subscript o i pos')) pos.line X.env = pure false) :
    PS X (.Assign [.Subscript o i pos'] value pos) (sNPut X.prog X.w td ty tv) := by
  refine ⟨fun pins s σ H D I h => ?_⟩
  refine wpAny_Assign_Subscript (thn (hv.run pins s σ H _ I h) fun r s1 ⟨v, H1, I1, rv, q1⟩ => thn (ho.run pins s1 σ H1 _ I1 q1) fun u s2 ⟨x, H2, I2, rx, q2⟩ => thn (hi.run pins s2 σ H2 _ I2 q2) fun iv s3 ⟨y, H3, I3, ry, a, H4, ex, g, q3⟩ => ?_) hs
  subst ex
  obtain rfl : u = Value.ref a := rx
  exact ndm_set hu I3 g ry rv fun s4 I4 => ⟨σ, H4, I4, q3⟩
/-- len -/
theorem nd_len {pins : List (Addr × Obj)} {σ : L2.St} {H : Hp} {s : Shared} {a : Addr} {ws : List NE} {A : Around} {E : Value → Shared → Prop} {Q : Value → Shared → Prop} (I : L2.Inv X pins σ H s) (e : Rd H a (ndO X.prog X.w a ws)) (n : okN H ws) (h : ∀ t s', L2.Inv X pins σ H s' → Q (.int ws.length t) s') :
    wpAny (model X.prog X.w) A (call (.builtin "len") [.ref a]) Q E s := by
  obtain ⟨z, hd, xs, rel, dd⟩ := nd_rd I.hok e n
  refine call_len_dictH hd dd (by rw [← rel.len]; rw [sizeLine_eq] at z; omega) ?_
  rw [← rel.len]
  exact h _ _ (I.tok _)
end
end MN
set_option Elab.async false
set_option linter.all false
set_option maxRecDepth 100000
set_option maxHeartbeats 1000000
namespace M
open PySem PySem.Spec PyProof.Rows L2
def nmTab : List Str := [Str.ofString "group", Str.ofString "held", Str.ofString "past", Str.ofString "ahead", Str.ofString "machine", Str.ofString "states", Str.ofString "behind", Str.ofString "value", Str.ofString "part", Str.ofString "place", Str.ofString "text", Str.ofString "at", Str.ofString "command", Str.ofString "what", Str.ofString "word", Str.ofString "letters", Str.ofString "machines", Str.ofString "words", Str.ofString "normal", Str.ofString "tables", Str.ofString "telling", Str.ofString "numbers", Str.ofString "known", Str.ofString "table", Str.ofString "ends", Str.ofString "one", Str.ofString "other", Str.ofString "ending", Str.ofString "wanted", Str.ofString "least", Str.ofString "length", Str.ofString "undo", Str.ofString "exchanges", Str.ofString "radius", Str.ofString "waiting", Str.ofString "step", Str.ofString "sought", Str.ofString "steps", Str.ofString "rows", Str.ofString "number", Str.ofString "first"]
def nmS (n : Nat) : Str := match nmTab[n]? with
  | some s => s
  | none => ⟨Array.replicate (n + 100) 0⟩
theorem nmS_inj (a b : Nat) (h : nmS a = nmS b) : a = b := by
  have long : ∀ (n : Nat) (s : Str), nmTab[n]? = some s → s.cps.size < 50 := fun n s e => by
    have := List.mem_of_getElem? e
    have k : ∀ s ∈ nmTab, s.cps.size < 50 := by decide +kernel
    exact k s this
  unfold nmS at h
  cases x : nmTab[a]? with
  | none =>
    rw [x] at h
    cases y : nmTab[b]? with
    | none =>
      rw [y] at h
      have h2 := congrArg (fun s : Str => s.cps.size) h
      simp only [Array.size_replicate] at h2
      omega
    | some t =>
      rw [y] at h
      have h2 := congrArg (fun s : Str => s.cps.size) h
      simp only [Array.size_replicate] at h2
      have := long b t y
      omega
  | some s =>
    rw [x] at h
    cases y : nmTab[b]? with
    | none =>
      rw [y] at h
      have h2 := congrArg (fun s : Str => s.cps.size) h
      simp only [Array.size_replicate] at h2
      have := long a s x
      omega
    | some t =>
      rw [y] at h
      have h : s = t := h
      subst h
      have la := (List.getElem?_eq_some_iff.mp x).1
      have lb := (List.getElem?_eq_some_iff.mp y).1
      have k : ∀ a < 41, ∀ b < 41, nmTab[a]? = nmTab[b]? → a = b := by decide +kernel
      exact k a (by simpa [nmTab] using la) b (by simpa [nmTab] using lb) (x.trans y.symm)
def fldTab : List (Nat × Nat) := [(0, 0), (0, 1), (0, 2), (0, 3), (1, 4), (1, 5), (1, 3), (1, 6), (3, 7), (4, 7), (5, 8), (5, 9), (6, 8), (6, 9), (7, 7), (8, 7), (9, 9), (10, 10), (10, 11), (11, 12), (11, 11), (12, 13), (13, 14), (14, 15), (14, 16), (14, 17), (14, 18), (14, 19), (15, 20), (16, 20), (17, 15), (17, 21), (17, 22), (17, 23), (17, 24), (18, 15), (18, 23), (18, 24), (19, 25), (19, 26), (19, 15), (19, 27), (20, 4), (20, 15), (20, 14), (20, 28), (20, 29), (20, 30), (21, 31), (21, 32), (21, 17), (21, 33), (21, 5), (21, 34), (21, 23), (22, 4), (22, 15), (22, 35), (22, 36), (23, 20), (23, 22), (24, 31), (24, 17), (24, 37), (24, 15), (25, 10), (25, 38), (25, 39), (25, 11), (26, 40), (26, 15), (26, 25), (26, 26)]
/-- errors: which class stands under which -/
def excSub (c h : Nat) : Bool := decide (c = h) || decide (h = 2)
def excTag (c : Nat) : Bool := decide (2 ≤ c) && decide (c ≤ 13)
def fldOk (c f : Nat) : Bool := !excTag c && fldTab.contains (c, f)
inductive Kd where
  | a (k : Key) | t (ks : List Key)
  deriving DecidableEq
/-- data that never change -/
inductive D where
  | non | bl (b : Bool) | int (i : Int) | str (s : Str)
  | tup (ds : List D) | lst (ds : List D) | src (ds : List D)
  | dic (t : Bool) (kvs : List (Kd × D))
  | ndc (kvs : List (MN.NK × D))
  | ins (c : Nat) (fs : List (Nat × D))
  | ty (n : String) | cls (c : Nat) | fn (f : Nat)
  deriving Inhabited
/-- what a slot holds: data, or a thing of one's own that may change -/
inductive C where
  | non
  | dat (d : D)
  | lst (cs : List C)
  | tup (cs : List C)
  | dic (t : Bool) (kvs : List (Kd × C))
  | ndc (kvs : List (MN.NK × D))
  | obj (c : Nat) (fs : List (Nat × C))
  deriving Inhabited
abbrev Env := List C
inductive Pst where
  | ix (n : Nat) | fld (f : Nat) | key (k : Kd)
  deriving DecidableEq
inductive R where
  | dat (d : D) | own (c : C) | al (i : Nat) (p : List Pst)
inductive Out (α : Type) where
  | ok (a : α) (e : Env) | ex (c : Nat) (fs : List (Nat × D)) (e : Env) | bad
abbrev ME := Env → Out R
abbrev MT := Env → Out Bool
abbrev MA := Env → Out (List R)
namespace Out
def bind {α β : Type} : Out α → (α → Env → Out β) → Out β
  | ok a e, f => f a e
  | ex c fs e, _ => ex c fs e
  | bad, _ => bad
def wp {α : Type} (P : α → Env → Prop) (px : Nat → List (Nat × D) → Env → Prop) : Out α → Prop
  | ok a e => P a e
  | ex c fs e => px c fs e
  | bad => False
variable {α β : Type} {P : α → Env → Prop} {Q : β → Env → Prop} {px : Nat → List (Nat × D) → Env → Prop}
@[simp] theorem bind_ok (a : α) (e : Env) (f : α → Env → Out β) : bind (ok a e) f = f a e := rfl
@[simp] theorem bind_ex (c : Nat) (fs) (e : Env) (f : α → Env → Out β) : bind (ex c fs e) f = ex c fs e := rfl
@[simp] theorem bind_bad (f : α → Env → Out β) : bind bad f = bad := rfl
@[simp] theorem wp_ok (a : α) (e : Env) : wp P px (ok a e) = P a e := rfl
@[simp] theorem wp_ex (c : Nat) (fs) (e : Env) : wp P px (ex c fs e : Out α) = px c fs e := rfl
@[simp] theorem wp_bad : wp P px (bad : Out α) = False := rfl
theorem wp_bind {o : Out α} {f : α → Env → Out β} : wp Q px (bind o f) = wp (fun a e => wp Q px (f a e)) px o := by cases o <;> rfl
theorem wp_imp {P' : α → Env → Prop} {o : Out α} (h : wp P px o) (k : ∀ a e, P a e → P' a e) : wp P' px o := by
  cases o with
  | ok a e => exact k _ _ h
  | ex => exact h
  | bad => exact h
end Out
def Kd.isT : Kd → Bool | .a _ => false | .t _ => true
def D.at : D → Pst → Option D
  | .tup ds, .ix n => ds[n]?
  | .lst ds, .ix n => ds[n]?
  | .dic _ kvs, .key k => kvs.lookup k
  | .ins _ fs, .fld f => fs.lookup f
  | _, _ => none
def C.at : C → Pst → Option C
  | .dat d, s => (d.at s).map .dat
  | .lst cs, .ix n => cs[n]?
  | .tup cs, .ix n => cs[n]?
  | .dic _ kvs, .key k => kvs.lookup k
  | .obj _ fs, .fld f => fs.lookup f
  | _, _ => none
/-- the value at a key goes -/
def setK {κ α : Type} [DecidableEq κ] (k : κ) (x : α) : List (κ × α) → List (κ × α)
  | [] => []
  | (j, y) :: r => if j = k then (j, x) :: r else (j, y) :: setK k x r
def C.setAt : C → Pst → C → C
  | .lst cs, .ix n, x => .lst (cs.set n x)
  | .tup cs, .ix n, x => .tup (cs.set n x)
  | .dic t kvs, .key k, x => .dic t (setK k x kvs)
  | .obj c fs, .fld f, x => .obj c (setK f x fs)
  | c, _, _ => c
def getC : C → List Pst → Option C
  | c, [] => some c
  | c, s :: p => (c.at s).bind fun x => getC x p
def setC : C → List Pst → C → C
  | _, [], x => x
  | c, s :: p, x => match c.at s with
    | some y => c.setAt s (setC y p x)
    | none => c
def getE (env : Env) (i : Nat) (p : List Pst) : Option C := env[i]?.bind fun c => getC c p
def setE (env : Env) (i : Nat) (p : List Pst) (x : C) : Env := match env[i]? with
  | some c => env.set i (setC c p x)
  | none => env
mutual
/-- the data that stand there now -/
def fz : C → D
  | .non => .non
  | .dat d => d
  | .lst cs => .lst (fzs cs)
  | .tup cs => .tup (fzs cs)
  | .dic t kvs => .dic t (fzk kvs)
  | .ndc kvs => .ndc kvs
  | .obj c fs => .ins c (fzf fs)
def fzs : List C → List D
  | [] => []
  | c :: cs => fz c :: fzs cs
def fzk : List (Kd × C) → List (Kd × D)
  | [] => []
  | (k, c) :: cs => (k, fz c) :: fzk cs
def fzf : List (Nat × C) → List (Nat × D)
  | [] => []
  | (k, c) :: cs => (k, fz c) :: fzf cs
end
@[simp] theorem fzs_dat (ds : List D) : fzs (ds.map C.dat) = ds := by
  induction ds with
  | nil => simp [fzs]
  | cons d ds ih => simp [fzs, fz, ih]
theorem fzs_map (cs : List C) : fzs cs = cs.map fz := by
  induction cs with
  | nil => simp [fzs]
  | cons d ds ih => simp [fzs, ih]
theorem fzk_map (cs : List (Kd × C)) : fzk cs = cs.map fun p => (p.1, fz p.2) := by
  induction cs with
  | nil => simp [fzk]
  | cons d ds ih => obtain ⟨k, c⟩ := d; simp [fzk, ih]
theorem fzf_map (cs : List (Nat × C)) : fzf cs = cs.map fun p => (p.1, fz p.2) := by
  induction cs with
  | nil => simp [fzf]
  | cons d ds ih => obtain ⟨k, c⟩ := d; simp [fzf, ih]
def C.own : C → Bool | .non => false | .dat _ => false | _ => true
def dats : List C → Option (List D)
  | [] => some []
  | .dat d :: cs => (dats cs).map (d :: ·)
  | _ :: _ => none
@[simp] theorem dats_dat (ds : List D) : dats (ds.map C.dat) = some ds := by
  induction ds with
  | nil => rfl
  | cons d ds ih => simp [dats, ih]
theorem dats_eq : ∀ {cs : List C} {ds : List D}, dats cs = some ds → cs = ds.map C.dat
  | [], ds, h => by simp [dats] at h; subst h; rfl
  | .dat d :: cs, ds, h => by
    simp only [dats, Option.map_eq_some_iff] at h
    obtain ⟨es, h1, rfl⟩ := h
    rw [dats_eq h1]
    rfl
  | .non :: _, _, h => by simp [dats] at h
  | .lst _ :: _, _, h => by simp [dats] at h
  | .tup _ :: _, _, h => by simp [dats] at h
  | .dic _ _ :: _, _, h => by simp [dats] at h
  | .ndc _ :: _, _, h => by simp [dats] at h
  | .obj _ _ :: _, _, h => by simp [dats] at h
/-- a look at what stands there, its parts being data -/
def snap : C → Option D
  | .dat d => some d
  | .lst cs => (dats cs).map .lst
  | .dic t kvs => (dats (kvs.map (·.2))).map fun ds => .dic t ((kvs.map (·.1)).zip ds)
  | .ndc kvs => some (.ndc kvs)
  | _ => none
/-- what stands behind a result; a part of a thing must be one's own -/
def vw (env : Env) : R → Option C
  | .dat d => some (.dat d)
  | .own c => some c
  | .al i [] => match env[i]? with
    | some .non => none
    | x => x
  | .al i (s :: p) => match getE env i (s :: p) with
    | some c => if c.own = true then some c else none
    | none => none
def snapR (r : R) (env : Env) : Option D := (vw env r).bind snap
/-- from here on it never changes -/
def fzR (r : R) (env : Env) : Option (D × Env) := match r with
  | .dat d => some (d, env)
  | .own c => some (fz c, env)
  | .al i p => match vw env (.al i p) with
    | some (.dat d) => some (d, env)
    | some c => some (fz c, setE env i p (.dat (fz c)))
    | none => none
/-- it may wait while other things change -/
def R.sh : R → Bool
  | .al _ [] => true
  | .al _ [.fld _] => true
  | .al _ _ => false
  | _ => true
end M
set_option Elab.async false
set_option linter.all false
set_option maxRecDepth 100000
set_option maxHeartbeats 1000000
namespace M
open PySem PySem.Spec PyProof.Rows L2
/-- what a law's text knows: classes, defs, names of attributes -/
structure Tb where
  K : PySem.W.Frag
  P : Program
  w : World
  cl : Nat → Option Addr
  fn : Nat → Option Addr
  /-- a class has one number -/
  cinj : ∀ a b A, cl a = some A → cl b = some A → a = b
  hs : List Nat
  ex : ∀ c h A B, cl c = some A → cl h = some B → excTag c = true → h ∈ hs → PySem.W.exmOne K (.ref A) (.ref B) = some (excSub c h)
  fo : ∀ c A f, cl c = some A → fldOk c f = true → Cls K A ∧ NoAttr K A (nmS f)
def cr : HO → HO
  | .frz _ (.dK k) => .dK k
  | .frz _ (.dT k) => .dT k
  | .frz _ (.ext k) => .ext k
  | u => u
def Dic : HO → Bool | .dK _ => true | .dT _ => true | .ext _ => true | _ => false
theorem cr_eq {u v : HO} (h : cr v = cr u) (n : Dic (cr u) = false) : v = u := by
  have e : ∀ u : HO, Dic (cr u) = false → cr u = u := fun u n => by
    unfold cr at n ⊢
    split at n
    · cases n
    · cases n
    · cases n
    · rfl
  rw [e u n] at h
  rw [e v (by rw [h]; rw [e u n] at n; exact n)] at h
  exact h
/-- what stood stands, but for a lock -/
def Sm (H H' : Hp) : Prop := ∀ a u, H a = some u → ∃ u', H' a = some u' ∧ cr u' = cr u ∧ ∀ o v, u = .frz o v → u' = u
theorem Sm.refl (H : Hp) : Sm H H := fun _ u h => ⟨u, h, rfl, fun _ _ _ => rfl⟩
theorem Sm.trans {A B C : Hp} (h : Sm A B) (k : Sm B C) : Sm A C := fun a u e => by
  obtain ⟨v, e1, e2, e5⟩ := h a u e
  obtain ⟨w, e3, e4, e6⟩ := k a v e1
  exact ⟨w, e3, e4.trans e2, fun o x z => by
    have := e5 o x z
    rw [this] at e6
    exact e6 o x z⟩
/-- a locked thing stays as it is -/
theorem Sm.frz {H H' : Hp} (h : Sm H H') {a : Addr} {o : Obj} {v : HO} (e : H a = some (.frz o v)) : H' a = some (.frz o v) := by
  obtain ⟨u', e1, _, e2⟩ := h a _ e
  rw [e2 o v rfl] at e1
  exact e1
theorem Sm.free {H H' : Hp} (h : Sm H H') {a : Addr} (e : H' a = none) : H a = none := by
  cases z : H a with
  | none => rfl
  | some u => obtain ⟨v, e1, _⟩ := h a u z; rw [e] at e1; cases e1
theorem Sm.al {H H' : Hp} (h : Sm H H') {a : Addr} (e : H a ≠ none) : H' a ≠ none := fun z => e (h.free z)
theorem Sm.at_ {H H' : Hp} (h : Sm H H') {a : Addr} {u : HO} (e : H a = some u) (n : Dic (cr u) = false) : H' a = some u := by
  obtain ⟨v, e1, e2, _⟩ := h a u e
  rw [cr_eq e2 n] at e1
  exact e1
theorem Sm.of {H H' : Hp} (h : Same H H') : Sm H H' := fun a u e => ⟨u, h a u e, rfl, fun _ _ _ => rfl⟩
theorem Sm.sqL {K : PySem.W.Frag} {H H' : Hp} (h : Sm H H') {a : Addr} {xs : List V} (e : SqL K H a xs) : SqL K H' a xs := by
  rcases e with (e | ⟨o, e⟩) | e
  · exact .inl (.inl (h.at_ e rfl))
  · exact .inl (.inr ⟨o, h.at_ e rfl⟩)
  · exact .inr e
variable {T : Tb}
mutual
inductive Dd (T : Tb) (H : Hp) : V → D → Prop
  | non : Dd T H .non .non
  | bl (b : Bool) : Dd T H (.bl b) (.bl b)
  | int (i : Int) : Dd T H (.int i) (.int i)
  | str (s : Str) : Dd T H (.str s) (.str s)
  | tup {a : Addr} {xs : List V} {ds : List D} : H a = some (.tup xs) → DdAll T H xs ds → Dd T H (.ref a) (.tup ds)
  | lst {a : Addr} {xs : List V} {ds : List D} : H a = some (.lst xs) → DdAll T H xs ds → Dd T H (.ref a) (.lst ds)
  | src {a : Addr} {xs : List V} {ds : List D} : SqL T.K H a xs → DdAll T H xs ds → Dd T H (.ref a) (.src ds)
  | dik {a : Addr} {u : HO} {ws : List (Key × V)} {kvs : List (Kd × D)} : H a = some u → cr u = .dK ws → kvs.map (·.1) = ws.map (fun w => Kd.a w.1) → DdAll T H (ws.map (·.2)) (kvs.map (·.2)) → Dd T H (.ref a) (.dic false kvs)
  | dit {a : Addr} {u : HO} {ws : List (List Key × V)} {kvs : List (Kd × D)} : H a = some u → cr u = .dT ws → kvs.map (·.1) = ws.map (fun w => Kd.t w.1) → DdAll T H (ws.map (·.2)) (kvs.map (·.2)) → Dd T H (.ref a) (.dic true kvs)
  | ndc {a : Addr} {u : HO} {ws : List MN.NE} {kvs : List (MN.NK × D)} : H a = some u → cr u = MN.ndO T.P T.w a ws → MN.okN H ws → kvs.map (·.1) = ws.map (·.1) → DdAll T H (ws.map (·.2.2)) (kvs.map (·.2)) → Dd T H (.ref a) (.ndc kvs)
  | ins {a A dx : Addr} {c : Nat} {ws : List (Str × V)} {fs : List (Nat × D)} : H a = some (.ins A dx ws) → T.cl c = some A → fs.map (fun f => nmS f.1) = ws.map (·.1) → DdAll T H (ws.map (·.2)) (fs.map (·.2)) → Dd T H (.ref a) (.ins c fs)
  | ty (n : String) : Dd T H (.ty n) (.ty n)
  | cls {c : Nat} {A : Addr} : T.cl c = some A → Dd T H (.ref A) (.cls c)
  | fn {f : Nat} {A : Addr} : T.fn f = some A → Dd T H (.ref A) (.fn f)
inductive DdAll (T : Tb) (H : Hp) : List V → List D → Prop
  | nil : DdAll T H [] []
  | cons {v : V} {vs : List V} {d : D} {ds : List D} : Dd T H v d → DdAll T H vs ds → DdAll T H (v :: vs) (d :: ds)
end
section
variable {H H' : Hp}
mutual
theorem Dd.mono (e : Sm H H') : ∀ {v : V} {d : D}, Dd T H v d → Dd T H' v d
  | _, _, .non => .non
  | _, _, .bl b => .bl b
  | _, _, .int i => .int i
  | _, _, .str s => .str s
  | _, _, .tup h a => .tup (e.at_ h rfl) (DdAll.mono e a)
  | _, _, .lst h a => .lst (e.at_ h rfl) (DdAll.mono e a)
  | _, _, .src h a => .src (e.sqL h) (DdAll.mono e a)
  | _, _, .dik h c k a => by
    obtain ⟨u', h1, h2, _⟩ := e _ _ h
    exact .dik h1 (h2.trans c) k (DdAll.mono e a)
  | _, _, .dit h c k a => by
    obtain ⟨u', h1, h2, _⟩ := e _ _ h
    exact .dit h1 (h2.trans c) k (DdAll.mono e a)
  | _, _, .ndc h c n k a => by
    obtain ⟨u', h1, h2, _⟩ := e _ _ h
    exact .ndc h1 (h2.trans c) (n.mono fun b ys q => e.at_ q rfl) k (DdAll.mono e a)
  | _, _, .ins h c k a => .ins (e.at_ h rfl) c k (DdAll.mono e a)
  | _, _, .ty n => .ty n
  | _, _, .cls c => .cls c
  | _, _, .fn c => .fn c
theorem DdAll.mono (e : Sm H H') : ∀ {vs : List V} {ds : List D}, DdAll T H vs ds → DdAll T H' vs ds
  | _, _, .nil => .nil
  | _, _, .cons h a => .cons (Dd.mono e h) (DdAll.mono e a)
end
theorem DdAll.len : ∀ {vs : List V} {ds : List D}, DdAll T H vs ds → vs.length = ds.length
  | _, _, .nil => rfl
  | _, _, .cons _ a => congrArg Nat.succ a.len
theorem DdAll.got : ∀ {vs : List V} {ds : List D} {i : Nat} {d : D}, DdAll T H vs ds → ds[i]? = some d → ∃ v, vs[i]? = some v ∧ Dd T H v d
  | _, _, _, _, .nil, e => by simp at e
  | _, _, 0, _, .cons h _, e => by
    simp at e
    subst e
    exact ⟨_, rfl, h⟩
  | _, _, i + 1, d, .cons _ a, e => by
    obtain ⟨v, h1, h2⟩ := DdAll.got (i := i) (d := d) a (by simpa using e)
    exact ⟨v, by simpa using h1, h2⟩
theorem DdAll.app : ∀ {vs ws : List V} {ds es : List D}, DdAll T H vs ds → DdAll T H ws es → DdAll T H (vs ++ ws) (ds ++ es)
  | _, _, _, _, .nil, b => b
  | _, _, _, _, .cons h a, b => .cons h (a.app b)
theorem DdAll.take : ∀ {vs : List V} {ds : List D} (n : Nat), DdAll T H vs ds → DdAll T H (vs.take n) (ds.take n)
  | _, _, 0, _ => .nil
  | _, _, _ + 1, .nil => .nil
  | _, _, n + 1, .cons h a => .cons h (a.take n)
theorem DdAll.drop : ∀ {vs : List V} {ds : List D} (n : Nat), DdAll T H vs ds → DdAll T H (vs.drop n) (ds.drop n)
  | _, _, 0, h => h
  | _, _, _ + 1, .nil => .nil
  | _, _, n + 1, .cons _ a => a.drop n
theorem DdAll.reverse : ∀ {vs : List V} {ds : List D}, DdAll T H vs ds → DdAll T H vs.reverse ds.reverse
  | _, _, .nil => .nil
  | _, _, .cons h a => by
    rw [List.reverse_cons, List.reverse_cons]
    exact a.reverse.app (.cons h .nil)
theorem DdAll.ints : ∀ {vs : List V} {ns : List Int}, DdAll T H vs (ns.map D.int) → vs = ns.map V.int
  | _, [], h => by cases h; rfl
  | _, n :: ns, h => by
    cases h with
    | cons h1 h2 => cases h1; rw [DdAll.ints h2]; rfl
theorem DdAll.of_ints : ∀ {ns : List Int}, DdAll T H (ns.map V.int) (ns.map D.int)
  | [] => .nil
  | n :: ns => .cons (.int n) DdAll.of_ints
theorem DdAll.bls : ∀ {vs : List V} {ns : List Bool}, DdAll T H vs (ns.map D.bl) → vs = ns.map V.bl
  | _, [], h => by cases h; rfl
  | _, n :: ns, h => by
    cases h with
    | cons h1 h2 => cases h1; rw [DdAll.bls h2]; rfl
end
mutual
inductive Rep (T : Tb) (H0 H : Hp) : C → V → List Addr → Prop
  | dat {d : D} {v : V} : Dd T H0 v d → Rep T H0 H (.dat d) v []
  | lst {a : Addr} {vs : List V} {cs : List C} {F : List Addr} : H a = some (.lst vs) → Reps T H0 H cs vs F → Rep T H0 H (.lst cs) (.ref a) (a :: F)
  | tup {a : Addr} {vs : List V} {cs : List C} {F : List Addr} : H a = some (.tup vs) → Reps T H0 H cs vs F → Rep T H0 H (.tup cs) (.ref a) (a :: F)
  | dik {a : Addr} {ws : List (Key × V)} {kvs : List (Kd × C)} {F : List Addr} : H a = some (.dK ws) → kvs.map (·.1) = ws.map (fun w => Kd.a w.1) → (kvs.map (·.1)).Nodup → Reps T H0 H (kvs.map (·.2)) (ws.map (·.2)) F → Rep T H0 H (.dic false kvs) (.ref a) (a :: F)
  | dit {a : Addr} {ws : List (List Key × V)} {kvs : List (Kd × C)} {F : List Addr} : H a = some (.dT ws) → kvs.map (·.1) = ws.map (fun w => Kd.t w.1) → (kvs.map (·.1)).Nodup → Reps T H0 H (kvs.map (·.2)) (ws.map (·.2)) F → Rep T H0 H (.dic true kvs) (.ref a) (a :: F)
  | ndc {a : Addr} {ws : List MN.NE} {kvs : List (MN.NK × D)} : H a = some (MN.ndO T.P T.w a ws) → MN.okN H0 ws → kvs.map (·.1) = ws.map (·.1) → (kvs.map (·.1)).Nodup → DdAll T H0 (ws.map (·.2.2)) (kvs.map (·.2)) → Rep T H0 H (.ndc kvs) (.ref a) [a]
  | obj {a A dx : Addr} {c : Nat} {ws : List (Str × V)} {fs : List (Nat × C)} {F : List Addr} : H a = some (.ins A dx ws) → H dx = some (.own a) → T.cl c = some A → fs.map (fun f => nmS f.1) = ws.map (·.1) → Reps T H0 H (fs.map (·.2)) (ws.map (·.2)) F → Rep T H0 H (.obj c fs) (.ref a) (a :: dx :: F)
inductive Reps (T : Tb) (H0 H : Hp) : List C → List V → List Addr → Prop
  | nil : Reps T H0 H [] [] []
  | cons {c : C} {v : V} {cs : List C} {vs : List V} {F1 F2 : List Addr} : Rep T H0 H c v F1 → Reps T H0 H cs vs F2 → Reps T H0 H (c :: cs) (v :: vs) (F1 ++ F2)
end
section
variable {H0 H H0' H' : Hp}
mutual
theorem Rep.mono (e : Sm H0 H0') : ∀ {c : C} {v : V} {F : List Addr}, Rep T H0 H c v F → (∀ a ∈ F, H' a = H a) → Rep T H0' H' c v F
  | _, _, _, .dat h, _ => .dat (h.mono e)
  | _, _, _, .lst h r, k => .lst ((k _ (List.mem_cons_self ..)).trans h) (r.mono e fun a ha => k a (List.mem_cons_of_mem _ ha))
  | _, _, _, .tup h r, k => .tup ((k _ (List.mem_cons_self ..)).trans h) (r.mono e fun a ha => k a (List.mem_cons_of_mem _ ha))
  | _, _, _, .dik h q n r, k => .dik ((k _ (List.mem_cons_self ..)).trans h) q n (r.mono e fun a ha => k a (List.mem_cons_of_mem _ ha))
  | _, _, _, .dit h q n r, k => .dit ((k _ (List.mem_cons_self ..)).trans h) q n (r.mono e fun a ha => k a (List.mem_cons_of_mem _ ha))
  | _, _, _, .ndc h n q d a, k => .ndc ((k _ (List.mem_cons_self ..)).trans h) (n.mono fun b ys q => e.at_ q rfl) q d (a.mono e)
  | _, _, _, .obj h g q n r, k => .obj ((k _ (List.mem_cons_self ..)).trans h) ((k _ (List.mem_cons_of_mem _ (List.mem_cons_self ..))).trans g) q n (r.mono e fun a ha => k a (List.mem_cons_of_mem _ (List.mem_cons_of_mem _ ha)))
theorem Reps.mono (e : Sm H0 H0') : ∀ {c : List C} {v : List V} {F : List Addr}, Reps T H0 H c v F → (∀ a ∈ F, H' a = H a) → Reps T H0' H' c v F
  | _, _, _, .nil, _ => .nil
  | _, _, _, .cons h r, k => .cons (h.mono e fun a ha => k a (List.mem_append_left _ ha)) (r.mono e fun a ha => k a (List.mem_append_right _ ha))
end
mutual
theorem Rep.al : ∀ {c : C} {v : V} {F : List Addr}, Rep T H0 H c v F → ∀ a ∈ F, H a ≠ none
  | _, _, _, .dat _, a, ha => by cases ha
  | _, _, _, .lst h r, a, ha => by
    rcases List.mem_cons.mp ha with rfl | ha
    · rw [h]; exact fun z => by cases z
    · exact r.al a ha
  | _, _, _, .tup h r, a, ha => by
    rcases List.mem_cons.mp ha with rfl | ha
    · rw [h]; exact fun z => by cases z
    · exact r.al a ha
  | _, _, _, .dik h _ _ r, a, ha => by
    rcases List.mem_cons.mp ha with rfl | ha
    · rw [h]; exact fun z => by cases z
    · exact r.al a ha
  | _, _, _, .dit h _ _ r, a, ha => by
    rcases List.mem_cons.mp ha with rfl | ha
    · rw [h]; exact fun z => by cases z
    · exact r.al a ha
  | _, _, _, .ndc h _ _ _ _, a, ha => by
    rcases List.mem_cons.mp ha with rfl | ha
    · rw [h]; exact fun z => by cases z
    · cases ha
  | _, _, _, .obj h g _ _ r, a, ha => by
    rcases List.mem_cons.mp ha with rfl | ha
    · rw [h]; exact fun z => by cases z
    · rcases List.mem_cons.mp ha with rfl | ha
      · rw [g]; exact fun z => by cases z
      · exact r.al a ha
theorem Reps.al : ∀ {c : List C} {v : List V} {F : List Addr}, Reps T H0 H c v F → ∀ a ∈ F, H a ≠ none
  | _, _, _, .nil, a, ha => by cases ha
  | _, _, _, .cons h r, a, ha => by
    rcases List.mem_append.mp ha with ha | ha
    · exact h.al a ha
    · exact r.al a ha
end
theorem Reps.len : ∀ {c : List C} {v : List V} {F : List Addr}, Reps T H0 H c v F → c.length = v.length
  | _, _, _, .nil => rfl
  | _, _, _, .cons _ r => congrArg Nat.succ r.len
theorem Reps.dats : ∀ {ds : List D} {v : List V} {F : List Addr}, Reps T H0 H (ds.map C.dat) v F → F = [] ∧ DdAll T H0 v ds
  | [], _, _, h => by cases h; exact ⟨rfl, .nil⟩
  | d :: ds, _, _, h => by
    cases h with
    | cons h1 h2 =>
      cases h1 with
      | dat h1 =>
        obtain ⟨rfl, h3⟩ := Reps.dats h2
        exact ⟨rfl, .cons h1 h3⟩
theorem Reps.of_dats : ∀ {ds : List D} {v : List V}, DdAll T H0 v ds → Reps T H0 H (ds.map C.dat) v []
  | [], _, h => by cases h; exact .nil
  | d :: ds, _, h => by
    cases h with
    | cons h1 h2 => exact .cons (F1 := []) (.dat h1) (Reps.of_dats h2)
theorem Reps.app : ∀ {c e : List C} {v w : List V} {F G : List Addr}, Reps T H0 H c v F → Reps T H0 H e w G → Reps T H0 H (c ++ e) (v ++ w) (F ++ G)
  | _, _, _, _, _, _, .nil, h => h
  | _, _, _, _, _, _, .cons h r, k => by
    rw [List.append_assoc]
    exact .cons h (r.app k)
/-- one part of many, and how another one is put in its place -/
theorem Reps.focus : ∀ {cs : List C} {vs : List V} {F : List Addr} {n : Nat} {c : C}, Reps T H0 H cs vs F → cs[n]? = some c → ∃ v F1 G, vs[n]? = some v ∧ Rep T H0 H c v F1 ∧ F.Perm (F1 ++ G) ∧
    ∀ {H0' H' : Hp} {c' : C} {v' : V} {F1' : List Addr}, Sm H0 H0' → (∀ a ∈ G, H' a = H a) → Rep T H0' H' c' v' F1' → ∃ F', Reps T H0' H' (cs.set n c') (vs.set n v') F' ∧ F'.Perm (F1' ++ G)
  | _, _, _, _, _, .nil, e => by simp at e
  | _, _, _, 0, _, .cons (F1 := F1) (F2 := F2) h r, e => by
    simp at e
    subst e
    exact ⟨_, F1, F2, rfl, h, .refl _, fun s k q => ⟨_, .cons q (r.mono s k), .refl _⟩⟩
  | _, _, _, n + 1, _, .cons (F1 := F1) (F2 := F2) h r, e => by
    obtain ⟨v, F3, G, e1, e2, e3, e4⟩ := r.focus (n := n) (by simpa using e)
    refine ⟨v, F3, F1 ++ G, by simpa using e1, e2, ?_, fun s k q => ?_⟩
    · refine (e3.append_left F1).trans ?_
      rw [← List.append_assoc, ← List.append_assoc]
      exact List.perm_append_comm.append_right G
    · obtain ⟨F', q1, q2⟩ := e4 s (fun a ha => k a (List.mem_append_right _ ha)) q
      refine ⟨F1 ++ F', .cons (h.mono s fun a ha => k a (List.mem_append_left _ ha)) q1, ?_⟩
      refine (q2.append_left F1).trans ?_
      rw [← List.append_assoc, ← List.append_assoc]
      exact List.perm_append_comm.append_right G
end
end M
set_option Elab.async false
set_option linter.all false
set_option maxRecDepth 100000
set_option maxHeartbeats 1000000
namespace M
open PySem PySem.Spec PyProof.Rows L2
variable {T : Tb}
section
variable {κ α : Type} [DecidableEq κ]
theorem lookup_ix {k : κ} {x : α} : ∀ {l : List (κ × α)}, l.lookup k = some x → ∃ n : Nat, (l.map (·.2))[n]? = some x ∧ (l.map (·.1))[n]? = some k ∧ ∀ j < n, (l.map (·.1))[j]? ≠ some k
  | [], h => by cases h
  | (j, y) :: l, h => by
    by_cases e : k = j
    · subst e
      rw [List.lookup_cons_self] at h
      exact ⟨0, by simpa using h, rfl, fun j hj => by omega⟩
    · rw [List.lookup_cons, beq_false_of_ne e] at h
      obtain ⟨n, h1, h2, h3⟩ := lookup_ix (l := l) h
      refine ⟨n + 1, by simpa using h1, by simpa using h2, fun i hi => ?_⟩
      cases i with
      | zero => simpa using fun z => e z.symm
      | succ i => simpa using h3 i (by omega)
theorem lookup_of {k : κ} {x : α} : ∀ {l : List (κ × α)} {n : Nat}, (l.map (·.2))[n]? = some x → (l.map (·.1))[n]? = some k → (∀ j < n, (l.map (·.1))[j]? ≠ some k) → l.lookup k = some x
  | [], n, h, _, _ => by simp at h
  | (j, y) :: l, 0, h, g, _ => by
    simp at h g
    subst h g
    rw [List.lookup_cons_self]
  | (j, y) :: l, n + 1, h, g, m => by
    have e : k ≠ j := fun z => m 0 (by omega) (by rw [z]; rfl)
    rw [List.lookup_cons, beq_false_of_ne e]
    exact lookup_of (n := n) (by simpa using h) (by simpa using g) fun i hi => by simpa using m (i + 1) (by omega)
theorem lookup_none {k : κ} : ∀ {l : List (κ × α)}, l.lookup k = none ↔ k ∉ l.map (·.1)
  | [] => by simp
  | (j, y) :: l => by
    by_cases e : k = j
    · subst e
      simp
    · rw [List.lookup_cons, beq_false_of_ne e]
      simp [e, lookup_none (l := l)]
theorem setK_map {k : κ} {x : α} : ∀ {l : List (κ × α)} {n : Nat}, (l.map (·.1))[n]? = some k → (∀ j < n, (l.map (·.1))[j]? ≠ some k) → (setK k x l).map (·.1) = l.map (·.1) ∧ (setK k x l).map (·.2) = (l.map (·.2)).set n x
  | [], n, h, _ => by simp at h
  | (j, y) :: l, 0, h, _ => by
    simp at h
    subst h
    simp [setK]
  | (j, y) :: l, n + 1, h, m => by
    have e : j ≠ k := fun z => m 0 (by omega) (by rw [← z]; rfl)
    obtain ⟨h1, h2⟩ := setK_map (x := x) (l := l) (n := n) (by simpa using h) fun i hi => by simpa using m (i + 1) (by omega)
    simp [setK, e, h1, h2]
theorem valV_of {ws : List (κ × V)} {k : κ} {v : V} {n : Nat} : (ws.map (·.2))[n]? = some v → (ws.map (·.1))[n]? = some k → (∀ j < n, (ws.map (·.1))[j]? ≠ some k) → valV ws k = some v := by
  induction ws generalizing n with
  | nil => intro h; simp at h
  | cons w l ih =>
    obtain ⟨j, y⟩ := w
    intro h g m
    cases n with
    | zero =>
      simp at h g
      subst h g
      simp [valV]
    | succ n =>
      have e : j ≠ k := fun z => m 0 (by omega) (by rw [← z]; rfl)
      have := ih (n := n) (by simpa using h) (by simpa using g) fun i hi => by simpa using m (i + 1) (by omega)
      simpa [valV, e] using this
theorem valV_none {ws : List (κ × V)} {k : κ} : k ∉ ws.map (·.1) → valV ws k = none := by
  intro h
  induction ws with
  | nil => rfl
  | cons w l ih =>
    simp only [List.map_cons, List.mem_cons, not_or] at h
    have := ih h.2
    simp only [valV, List.find?_cons] at this ⊢
    rw [decide_eq_false (fun z => h.1 z.symm)]
    exact this
end
theorem set_self {α : Type} {l : List α} {n : Nat} {x : α} (h : l[n]? = some x) : l.set n x = l := by
  apply List.ext_getElem?
  intro i
  by_cases e : n = i
  · subst e
    obtain ⟨h1, h2⟩ := List.getElem?_eq_some_iff.mp h
    rw [List.getElem?_set_self h1, h]
  · rw [List.getElem?_set_ne e]
theorem ix_of_map {α β : Type} {g : α → β} (hg : ∀ a b, g a = g b → a = b) {ks : List β} {ls : List α} {n : Nat} {k : α} (e : ks = ls.map g) (h : ks[n]? = some (g k)) (m : ∀ j < n, ks[j]? ≠ some (g k)) : ls[n]? = some k ∧ ∀ j < n, ls[j]? ≠ some k := by
  subst e
  refine ⟨?_, fun j hj z => m j hj (by rw [List.getElem?_map, z]; rfl)⟩
  rw [List.getElem?_map] at h
  cases z : ls[n]? with
  | none => rw [z] at h; cases h
  | some x => rw [z] at h; simp at h; rw [hg _ _ h]
/-- one step in the heap -/
def Nav1 (T : Tb) (H : Hp) (v : V) : Pst → V → Prop
  | .ix n, w => ∃ a vs, v = .ref a ∧ (H a = some (.lst vs) ∨ H a = some (.tup vs)) ∧ vs[n]? = some w
  | .fld f, w => ∃ a A dx ws, v = .ref a ∧ H a = some (.ins A dx ws) ∧ ws.lookup (nmS f) = some w
  | .key (.a k), w => ∃ a ws, v = .ref a ∧ H a = some (.dK ws) ∧ valV ws k = some w
  | .key (.t k), w => ∃ a ws, v = .ref a ∧ H a = some (.dT ws) ∧ valV ws k = some w
def Nav (T : Tb) (H : Hp) : V → List Pst → V → Prop
  | v, [], w => v = w
  | v, s :: p, w => ∃ u, Nav1 T H v s u ∧ Nav T H u p w
theorem Nav1.uniq {H : Hp} {v u w : V} : ∀ {s : Pst}, Nav1 T H v s u → Nav1 T H v s w → u = w
  | .ix n, ⟨a, vs, e, h, g⟩, ⟨b, ws, e', h', g'⟩ => by
    subst e
    injection e' with e'
    subst e'
    have : vs = ws := by
      rcases h with h | h <;> rcases h' with h' | h' <;> rw [h] at h' <;> cases h' <;> rfl
    subst this
    rw [g] at g'
    injection g'
  | .fld f, ⟨a, A, dx, vs, e, h, g⟩, ⟨b, B, dy, ws, e', h', g'⟩ => by
    subst e
    injection e' with e'
    subst e'
    rw [h] at h'
    injection h' with h'
    injection h' with h1 h2 h3
    subst h3
    rw [g] at g'
    injection g'
  | .key (.a k), ⟨a, vs, e, h, g⟩, ⟨b, ws, e', h', g'⟩ => by
    subst e
    injection e' with e'
    subst e'
    rw [h] at h'
    injection h' with h'
    injection h' with h'
    subst h'
    rw [g] at g'
    injection g'
  | .key (.t k), ⟨a, vs, e, h, g⟩, ⟨b, ws, e', h', g'⟩ => by
    subst e
    injection e' with e'
    subst e'
    rw [h] at h'
    injection h' with h'
    injection h' with h'
    subst h'
    rw [g] at g'
    injection g'
theorem Nav.uniq {H : Hp} : ∀ {p : List Pst} {v u w : V}, Nav T H v p u → Nav T H v p w → u = w
  | [], _, _, _, rfl, rfl => rfl
  | s :: p, _, _, _, ⟨x, h1, h2⟩, ⟨y, g1, g2⟩ => by
    rw [h1.uniq g1] at h2
    exact Nav.uniq h2 g2
/-- all that stood stands: the same way -/
theorem Nav1.root {H H' : Hp} {v w : V} (e : ∀ a, v = .ref a → H' a = H a) : ∀ {s : Pst}, Nav1 T H v s w → Nav1 T H' v s w
  | .ix n, ⟨a, vs, h, g, k⟩ => ⟨a, vs, h, by rw [e a h]; exact g, k⟩
  | .fld f, ⟨a, A, dx, ws, h, g, k⟩ => ⟨a, A, dx, ws, h, by rw [e a h]; exact g, k⟩
  | .key (.a k), ⟨a, ws, h, g, q⟩ => ⟨a, ws, h, by rw [e a h]; exact g, q⟩
  | .key (.t k), ⟨a, ws, h, g, q⟩ => ⟨a, ws, h, by rw [e a h]; exact g, q⟩
theorem Nav1.same {H H' : Hp} (e : Same H H') {v w : V} : ∀ {s : Pst}, Nav1 T H v s w → Nav1 T H' v s w
  | .ix n, ⟨a, vs, h, g, k⟩ => ⟨a, vs, h, g.imp (e _ _) (e _ _), k⟩
  | .fld f, ⟨a, A, dx, ws, h, g, k⟩ => ⟨a, A, dx, ws, h, e _ _ g, k⟩
  | .key (.a k), ⟨a, ws, h, g, q⟩ => ⟨a, ws, h, e _ _ g, q⟩
  | .key (.t k), ⟨a, ws, h, g, q⟩ => ⟨a, ws, h, e _ _ g, q⟩
theorem Nav.same {H H' : Hp} (e : Same H H') : ∀ {p : List Pst} {v w : V}, Nav T H v p w → Nav T H' v p w
  | [], _, _, h => h
  | _ :: _, _, _, ⟨u, h, g⟩ => ⟨u, h.same e, g.same e⟩
section
variable {H0 H H0' H' : Hp}
theorem kd_a (a b : Key) (h : Kd.a a = Kd.a b) : a = b := by injection h
theorem kd_t (a b : List Key) (h : Kd.t a = Kd.t b) : a = b := by injection h
/-- one part, and how another one is put in its place -/
theorem Rep.step {c x : C} {v : V} {F : List Addr} {s : Pst} (h : Rep T H0 H c v F) (e : c.at s = some x) (o : x.own = true) : ∃ v1 F1 G, Nav1 T H v s v1 ∧ Rep T H0 H x v1 F1 ∧ F.Perm (F1 ++ G) ∧
    ∀ {H0' H' : Hp} {x' : C} {F1' : List Addr}, Sm H0 H0' → (∀ a ∈ G, H' a = H a) → Rep T H0' H' x' v1 F1' → (∀ q w, Nav1 T H v q w → Nav1 T H' v q w) ∧ ∃ F', Rep T H0' H' (c.setAt s x') v F' ∧ F'.Perm (F1' ++ G) := by
  have nr : ∀ {a : Addr} {H' : Hp}, H' a = H a → ∀ q w, Nav1 T H (.ref a) q w → Nav1 T H' (.ref a) q w := fun k1 q w n => n.root fun b e => by injection e with e; subst e; exact k1
  have mid : ∀ {a : Addr} {F F1 G : List Addr}, F.Perm (F1 ++ G) → (a :: F).Perm (F1 ++ (a :: G)) := fun {a F F1 G} q => by
    refine (q.cons a).trans ?_
    exact (List.perm_middle (a := a) (l₁ := F1) (l₂ := G)).symm
  have gm : ∀ {a : Addr} {G : List Addr} {H' : Hp}, (∀ b ∈ a :: G, H' b = H b) → H' a = H a ∧ ∀ b ∈ G, H' b = H b := fun k => ⟨k _ (List.mem_cons_self ..), fun b hb => k b (List.mem_cons_of_mem _ hb)⟩
  cases h with
  | dat h =>
    simp only [C.at, Option.map_eq_some_iff] at e
    obtain ⟨d, _, rfl⟩ := e
    cases o
  | @lst a vs cs F h r =>
    cases s with
    | ix n =>
      obtain ⟨v1, F1, G, e1, e2, e3, e4⟩ := r.focus (n := n) e
      refine ⟨v1, F1, a :: G, ⟨a, vs, rfl, .inl h, e1⟩, e2, mid e3, fun s k q => ?_⟩
      obtain ⟨k1, k2⟩ := gm k
      obtain ⟨F', q1, q2⟩ := e4 s k2 q
      rw [set_self e1] at q1
      exact ⟨nr k1, _, .lst (k1.trans h) q1, mid q2⟩
    | fld f => simp [C.at] at e
    | key k => simp [C.at] at e
  | @tup a vs cs F h r =>
    cases s with
    | ix n =>
      obtain ⟨v1, F1, G, e1, e2, e3, e4⟩ := r.focus (n := n) e
      refine ⟨v1, F1, a :: G, ⟨a, vs, rfl, .inr h, e1⟩, e2, mid e3, fun s k q => ?_⟩
      obtain ⟨k1, k2⟩ := gm k
      obtain ⟨F', q1, q2⟩ := e4 s k2 q
      rw [set_self e1] at q1
      exact ⟨nr k1, _, .tup (k1.trans h) q1, mid q2⟩
    | fld f => simp [C.at] at e
    | key k => simp [C.at] at e
  | @dik a ws kvs F h m nn r =>
    cases s with
    | key k =>
      obtain ⟨n, l1, l2, l3⟩ := lookup_ix (l := kvs) e
      obtain ⟨v1, F1, G, e1, e2, e3, e4⟩ := r.focus (n := n) l1
      obtain ⟨j, rfl⟩ : ∃ j, k = .a j := by
        rw [m, List.getElem?_map, Option.map_eq_some_iff] at l2
        obtain ⟨w, _, e⟩ := l2
        exact ⟨_, e.symm⟩
      have m' : kvs.map (·.1) = (ws.map (·.1)).map Kd.a := by rw [m, List.map_map]; rfl
      obtain ⟨z1, z2⟩ := ix_of_map kd_a m' l2 l3
      have nv := valV_of e1 z1 z2
      refine ⟨v1, F1, a :: G, ⟨a, ws, rfl, h, nv⟩, e2, mid e3, fun {_ _ x' _} s k q => ?_⟩
      obtain ⟨k1, k2⟩ := gm k
      obtain ⟨F', q1, q2⟩ := e4 s k2 q
      rw [set_self e1] at q1
      obtain ⟨w1, w2⟩ := setK_map (x := x') l2 l3
      refine ⟨nr k1, _, .dik (k1.trans h) (w1.trans m) (by rw [w1]; exact nn) (by rw [w2]; exact q1), mid q2⟩
    | fld f => simp [C.at] at e
    | ix k => simp [C.at] at e
  | @dit a ws kvs F h m nn r =>
    cases s with
    | key k =>
      obtain ⟨n, l1, l2, l3⟩ := lookup_ix (l := kvs) e
      obtain ⟨v1, F1, G, e1, e2, e3, e4⟩ := r.focus (n := n) l1
      obtain ⟨j, rfl⟩ : ∃ j, k = .t j := by
        rw [m, List.getElem?_map, Option.map_eq_some_iff] at l2
        obtain ⟨w, _, e⟩ := l2
        exact ⟨_, e.symm⟩
      have m' : kvs.map (·.1) = (ws.map (·.1)).map Kd.t := by rw [m, List.map_map]; rfl
      obtain ⟨z1, z2⟩ := ix_of_map kd_t m' l2 l3
      have nv := valV_of e1 z1 z2
      refine ⟨v1, F1, a :: G, ⟨a, ws, rfl, h, nv⟩, e2, mid e3, fun {_ _ x' _} s k q => ?_⟩
      obtain ⟨k1, k2⟩ := gm k
      obtain ⟨F', q1, q2⟩ := e4 s k2 q
      rw [set_self e1] at q1
      obtain ⟨w1, w2⟩ := setK_map (x := x') l2 l3
      refine ⟨nr k1, _, .dit (k1.trans h) (w1.trans m) (by rw [w1]; exact nn) (by rw [w2]; exact q1), mid q2⟩
    | fld f => simp [C.at] at e
    | ix k => simp [C.at] at e
  | ndc h n m nn r => cases s <;> simp [C.at] at e
  | @obj a A dx c ws fs F h g t m r =>
    cases s with
    | fld f =>
      obtain ⟨n, l1, l2, l3⟩ := lookup_ix (l := fs) e
      obtain ⟨v1, F1, G, e1, e2, e3, e4⟩ := r.focus (n := n) l1
      have m' : ws.map (·.1) = (fs.map (·.1)).map nmS := by rw [← m, List.map_map]; rfl
      have z1 : (ws.map (·.1))[n]? = some (nmS f) := by rw [m', List.getElem?_map, l2]; rfl
      have z2 : ∀ j < n, (ws.map (·.1))[j]? ≠ some (nmS f) := fun j hj z => by
        rw [m', List.getElem?_map, Option.map_eq_some_iff] at z
        obtain ⟨i, i1, i2⟩ := z
        exact l3 j hj (by rw [i1, nmS_inj _ _ i2])
      have nv : ws.lookup (nmS f) = some v1 := lookup_of e1 z1 z2
      refine ⟨v1, F1, a :: dx :: G, ⟨a, A, dx, ws, rfl, h, nv⟩, e2, mid (mid e3), fun {_ _ x' _} s k q => ?_⟩
      obtain ⟨k1, k2⟩ := gm k
      obtain ⟨k3, k4⟩ := gm k2
      obtain ⟨F', q1, q2⟩ := e4 s k4 q
      rw [set_self e1] at q1
      obtain ⟨w1, w2⟩ := setK_map (x := x') l2 l3
      have w1' : (setK f x' fs).map (fun f => nmS f.1) = ws.map (·.1) := by
        have : ∀ l : List (Nat × C), l.map (fun f => nmS f.1) = (l.map (·.1)).map nmS := fun l => by rw [List.map_map]; rfl
        rw [this, w1, ← this, m]
      exact ⟨nr k1, _, .obj (k1.trans h) (k3.trans g) t w1' (by rw [w2]; exact q1), mid (mid q2)⟩
    | ix f => simp [C.at] at e
    | key k => simp [C.at] at e
/-- a part at a path -/
theorem Rep.path : ∀ {p : List Pst} {c x : C} {v : V} {F : List Addr}, Rep T H0 H c v F → getC c p = some x → x.own = true → ∃ v1 F1 G, Nav T H v p v1 ∧ Rep T H0 H x v1 F1 ∧ F.Perm (F1 ++ G) ∧
    ∀ {H0' H' : Hp} {x' : C} {F1' : List Addr}, Sm H0 H0' → (∀ a ∈ G, H' a = H a) → Rep T H0' H' x' v1 F1' → Nav T H' v p v1 ∧ (p ≠ [] → ∀ q w, Nav1 T H v q w → Nav1 T H' v q w) ∧ ∃ F', Rep T H0' H' (setC c p x') v F' ∧ F'.Perm (F1' ++ G)
  | [], c, x, v, F, h, e, o => by
    injection e with e
    subst e
    exact ⟨v, F, [], rfl, h, by rw [List.append_nil], fun s k q => ⟨rfl, fun z => absurd rfl z, _, q, by rw [List.append_nil]⟩⟩
  | s :: p, c, x, v, F, h, e, o => by
    simp only [getC, Option.bind_eq_some_iff] at e
    obtain ⟨y, e1, e2⟩ := e
    have oy : y.own = true := by
      cases y with
      | non => cases p with
        | nil => simp [getC] at e2; subst e2; exact o
        | cons s p => simp [getC, C.at] at e2
      | dat d =>
        exfalso
        have : ∀ (p : List Pst) (d : D), getC (.dat d) p = some x → False := fun p => by
          induction p with
          | nil => intro d e; simp [getC] at e; subst e; cases o
          | cons s p ih =>
            intro d e
            simp only [getC, C.at, Option.bind_eq_some_iff, Option.map_eq_some_iff] at e
            obtain ⟨z, ⟨d', _, rfl⟩, e⟩ := e
            exact ih _ e
        exact this p d e2
      | _ => rfl
    obtain ⟨v1, F1, G, n1, r1, p1, k1⟩ := h.step e1 oy
    obtain ⟨v2, F2, G2, n2, r2, p2, k2⟩ := r1.path (p := p) e2 o
    refine ⟨v2, F2, G2 ++ G, ⟨v1, n1, n2⟩, r2, ?_, fun {H0' H' x' F2'} s k q => ?_⟩
    · rw [← List.append_assoc]
      exact p1.trans (p2.append_right G)
    · obtain ⟨n3, _, F3, r3, p3⟩ := k2 s (fun a ha => k a (List.mem_append_left _ ha)) q
      obtain ⟨n4, F4, r4, p4⟩ := k1 s (fun a ha => k a (List.mem_append_right _ ha)) r3
      refine ⟨⟨v1, n4 _ _ n1, n3⟩, fun _ => n4, F4, ?_, ?_⟩
      · simp only [setC, e1]
        exact r4
      · rw [← List.append_assoc]
        exact p4.trans (p3.append_right G)
mutual
theorem Rep.fz {H1 : Hp} (s : Sm H0 H1) : ∀ {c : C} {v : V} {F : List Addr}, Rep T H0 H c v F → (∀ a ∈ F, H1 a = H a) → Dd T H1 v (M.fz c)
  | _, _, _, .dat h, _ => by simp only [M.fz]; exact h.mono s
  | _, _, _, .lst h r, k => by simp only [M.fz]; exact .lst ((k _ (List.mem_cons_self ..)).trans h) (r.fz s fun a ha => k a (List.mem_cons_of_mem _ ha))
  | _, _, _, .tup h r, k => by simp only [M.fz]; exact .tup ((k _ (List.mem_cons_self ..)).trans h) (r.fz s fun a ha => k a (List.mem_cons_of_mem _ ha))
  | _, _, _, .dik h m _ r, k => by
    simp only [M.fz, fzk_map]
    refine .dik ((k _ (List.mem_cons_self ..)).trans h) rfl (by rw [List.map_map]; exact m) ?_
    have := r.fz s fun a ha => k a (List.mem_cons_of_mem _ ha)
    rw [fzs_map, List.map_map] at this
    rw [List.map_map]
    exact this
  | _, _, _, .dit h m _ r, k => by
    simp only [M.fz, fzk_map]
    refine .dit ((k _ (List.mem_cons_self ..)).trans h) rfl (by rw [List.map_map]; exact m) ?_
    have := r.fz s fun a ha => k a (List.mem_cons_of_mem _ ha)
    rw [fzs_map, List.map_map] at this
    rw [List.map_map]
    exact this
  | _, _, _, .ndc h n m _ r, k => by
    simp only [M.fz]
    exact .ndc ((k _ (List.mem_cons_self ..)).trans h) rfl (n.mono fun b ys q => s.at_ q rfl) m (r.mono s)
  | _, _, _, .obj h g t m r, k => by
    simp only [M.fz, fzf_map]
    refine .ins ((k _ (List.mem_cons_self ..)).trans h) t (by rw [List.map_map]; exact m) ?_
    have := r.fz s fun a ha => k a (List.mem_cons_of_mem _ (List.mem_cons_of_mem _ ha))
    rw [fzs_map, List.map_map] at this
    rw [List.map_map]
    exact this
theorem Reps.fz {H1 : Hp} (s : Sm H0 H1) : ∀ {c : List C} {v : List V} {F : List Addr}, Reps T H0 H c v F → (∀ a ∈ F, H1 a = H a) → DdAll T H1 v (fzs c)
  | _, _, _, .nil, _ => by simp only [fzs]; exact .nil
  | _, _, _, .cons h r, k => by simp only [fzs]; exact .cons (h.fz s fun a ha => k a (List.mem_append_left _ ha)) (r.fz s fun a ha => k a (List.mem_append_right _ ha))
end
inductive Slots (T : Tb) (H0 H : Hp) : Env → L2.St → List Addr → Prop
  | nil : Slots T H0 H [] [] []
  | non {x : Option V} {env : Env} {σ : L2.St} {F : List Addr} : Slots T H0 H env σ F → Slots T H0 H (.non :: env) (x :: σ) F
  | cons {c : C} {v : V} {env : Env} {σ : L2.St} {F1 F2 : List Addr} : Rep T H0 H c v F1 → Slots T H0 H env σ F2 → Slots T H0 H (c :: env) (some v :: σ) (F1 ++ F2)
theorem Slots.len {env : Env} {σ : L2.St} {F : List Addr} (h : Slots T H0 H env σ F) : env.length = σ.length := by
  induction h with
  | nil => rfl
  | non _ ih => simpa using ih
  | cons _ _ ih => simpa using ih
theorem Slots.mono (e : Sm H0 H0') {env : Env} {σ : L2.St} {F : List Addr} (h : Slots T H0 H env σ F) (k : ∀ a ∈ F, H' a = H a) : Slots T H0' H' env σ F := by
  induction h with
  | nil => exact .nil
  | non _ ih => exact .non (ih k)
  | cons r _ ih => exact .cons (r.mono e fun a ha => k a (List.mem_append_left _ ha)) (ih fun a ha => k a (List.mem_append_right _ ha))
theorem Slots.al {env : Env} {σ : L2.St} {F : List Addr} (h : Slots T H0 H env σ F) : ∀ a ∈ F, H a ≠ none := by
  induction h with
  | nil => exact fun a ha => by cases ha
  | non _ ih => exact ih
  | cons r _ ih => exact fun a ha => (List.mem_append.mp ha).elim (r.al a) (ih a)
theorem Rep.root {c : C} {v : V} {F : List Addr} (h : Rep T H0 H c v F) (o : c.own = true) : ∃ a, v = .ref a ∧ a ∈ F := by
  cases h with
  | dat => cases o
  | lst => exact ⟨_, rfl, List.mem_cons_self ..⟩
  | tup => exact ⟨_, rfl, List.mem_cons_self ..⟩
  | dik => exact ⟨_, rfl, List.mem_cons_self ..⟩
  | dit => exact ⟨_, rfl, List.mem_cons_self ..⟩
  | ndc => exact ⟨_, rfl, List.mem_cons_self ..⟩
  | obj => exact ⟨_, rfl, List.mem_cons_self ..⟩
theorem Slots.root {env : Env} {σ : L2.St} {F : List Addr} (h : Slots T H0 H env σ F) : ∀ {j : Nat} {c : C}, env[j]? = some c → c.own = true → ∃ a, σ[j]? = some (some (.ref a)) ∧ a ∈ F := by
  induction h with
  | nil => intro j c e; simp at e
  | non h ih =>
    intro j c e o
    cases j with
    | zero => simp at e; subst e; cases o
    | succ j => simpa using ih (j := j) (by simpa using e) o
  | cons r h ih =>
    intro j c e o
    cases j with
    | zero =>
      simp at e
      subst e
      obtain ⟨a, rfl, ha⟩ := r.root o
      exact ⟨a, rfl, List.mem_append_left _ ha⟩
    | succ j =>
      obtain ⟨a, h1, h2⟩ := ih (j := j) (by simpa using e) o
      exact ⟨a, by simpa using h1, List.mem_append_right _ h2⟩
/-- a slot -/
theorem Slots.focus {env : Env} {σ : L2.St} {F : List Addr} (h : Slots T H0 H env σ F) : ∀ {i : Nat} {c : C}, env[i]? = some c → c ≠ .non → ∃ v F1 G, σ[i]? = some (some v) ∧ Rep T H0 H c v F1 ∧ F.Perm (F1 ++ G) ∧
    (∀ {H0' H' : Hp} {c' : C} {v' : V} {F1' : List Addr}, Sm H0 H0' → (∀ a ∈ G, H' a = H a) → Rep T H0' H' c' v' F1' → ∃ F', Slots T H0' H' (env.set i c') (σ.set i (some v')) F' ∧ F'.Perm (F1' ++ G)) ∧
    (∀ {H0' H' : Hp} (x : Option V), Sm H0 H0' → (∀ a ∈ G, H' a = H a) → ∃ F', Slots T H0' H' (env.set i .non) (σ.set i x) F' ∧ F'.Perm G) ∧
    (∀ (j : Nat) (c' : C), j ≠ i → env[j]? = some c' → c'.own = true → ∃ a, σ[j]? = some (some (.ref a)) ∧ a ∈ G) := by
  induction h with
  | nil => intro i c e; simp at e
  | @non x env σ F h ih =>
    intro i c e n
    cases i with
    | zero => simp at e; exact absurd e.symm n
    | succ i =>
      obtain ⟨v, F1, G, e1, e2, e3, e4, e5, e6⟩ := ih (i := i) (by simpa using e) n
      refine ⟨v, F1, G, by simpa using e1, e2, e3, fun s k q => ?_, fun x s k => ?_, fun j c' ij ej o => ?_⟩
      · obtain ⟨F', q1, q2⟩ := e4 s k q
        exact ⟨F', .non q1, q2⟩
      · obtain ⟨F', q1, q2⟩ := e5 x s k
        exact ⟨F', .non q1, q2⟩
      · cases j with
        | zero => simp at ej; subst ej; cases o
        | succ j => simpa using e6 j c' (by omega) (by simpa using ej) o
  | @cons c v env σ F1 F2 r h ih =>
    intro i c' e n
    cases i with
    | zero =>
      simp at e
      subst e
      refine ⟨v, F1, F2, rfl, r, .refl _, fun s k q => ⟨_, .cons q (h.mono s k), .refl _⟩, fun x s k => ⟨_, .non (h.mono s k), .refl _⟩, fun j c' ij ej o => ?_⟩
      cases j with
      | zero => exact absurd rfl ij
      | succ j => simpa using h.root (j := j) (by simpa using ej) o
    | succ i =>
      obtain ⟨v', F3, G, e1, e2, e3, e4, e5, e6⟩ := ih (i := i) (by simpa using e) n
      refine ⟨v', F3, F1 ++ G, by simpa using e1, e2, ?_, fun s k q => ?_, fun x s k => ?_, fun j c' ij ej o => ?_⟩
      · refine (e3.append_left F1).trans ?_
        rw [← List.append_assoc, ← List.append_assoc]
        exact List.perm_append_comm.append_right G
      · obtain ⟨F', q1, q2⟩ := e4 s (fun a ha => k a (List.mem_append_right _ ha)) q
        refine ⟨F1 ++ F', .cons (r.mono s fun a ha => k a (List.mem_append_left _ ha)) q1, ?_⟩
        refine (q2.append_left F1).trans ?_
        rw [← List.append_assoc, ← List.append_assoc]
        exact List.perm_append_comm.append_right G
      · obtain ⟨F', q1, q2⟩ := e5 x s (fun a ha => k a (List.mem_append_right _ ha))
        exact ⟨F1 ++ F', .cons (r.mono s fun a ha => k a (List.mem_append_left _ ha)) q1, q2.append_left F1⟩
      · cases j with
        | zero =>
          simp at ej
          subst ej
          obtain ⟨a, rfl, ha⟩ := r.root o
          exact ⟨a, rfl, List.mem_append_left _ ha⟩
        | succ j =>
          obtain ⟨a, h1, h2⟩ := e6 j c' (by omega) (by simpa using ej) o
          exact ⟨a, by simpa using h1, List.mem_append_right _ h2⟩
/-- a slot of nothing gets a thing -/
theorem Slots.fill (e : Sm H0 H0') {env : Env} {σ : L2.St} {F : List Addr} (h : Slots T H0 H env σ F) (k : ∀ a ∈ F, H' a = H a) : ∀ {i : Nat}, env[i]? = some .non → (∀ x, ∃ F', Slots T H0' H' env (σ.set i x) F' ∧ F'.Perm F) ∧
    ∀ {c' : C} {v' : V} {F1' : List Addr}, Rep T H0' H' c' v' F1' → ∃ F', Slots T H0' H' (env.set i c') (σ.set i (some v')) F' ∧ F'.Perm (F1' ++ F) := by
  induction h with
  | nil => intro i e; simp at e
  | @non x env σ F h ih =>
    intro i e'
    cases i with
    | zero => exact ⟨fun x => ⟨F, .non (h.mono e k), .refl _⟩, fun q => ⟨_, .cons q (h.mono e k), .refl _⟩⟩
    | succ i =>
      obtain ⟨e1, e2⟩ := ih k (i := i) (by simpa using e')
      refine ⟨fun x => ?_, fun q => ?_⟩
      · obtain ⟨F', q1, q2⟩ := e1 x
        exact ⟨F', .non q1, q2⟩
      · obtain ⟨F', q1, q2⟩ := e2 q
        exact ⟨F', .non q1, q2⟩
  | @cons c v env σ F1 F2 r h ih =>
    intro i e'
    cases i with
    | zero =>
      simp at e'
      subst e'
      cases r
    | succ i =>
      obtain ⟨e1, e2⟩ := ih (fun a ha => k a (List.mem_append_right _ ha)) (i := i) (by simpa using e')
      have rm := r.mono e fun a ha => k a (List.mem_append_left _ ha)
      refine ⟨fun x => ?_, fun q => ?_⟩
      · obtain ⟨F', q1, q2⟩ := e1 x
        exact ⟨F1 ++ F', .cons rm q1, q2.append_left F1⟩
      · obtain ⟨F', q1, q2⟩ := e2 q
        refine ⟨F1 ++ F', .cons rm q1, ?_⟩
        refine (q2.append_left F1).trans ?_
        rw [← List.append_assoc, ← List.append_assoc]
        exact List.perm_append_comm.append_right F2
end
end M
set_option Elab.async false
set_option linter.all false
set_option maxRecDepth 100000
set_option maxHeartbeats 1000000
namespace M
open PySem PySem.Spec PyProof.Rows L2
/-- the fields of an error -/
def XdOk (T : Tb) (H0 : Hp) (d : Addr) (fs : List (Nat × D)) : Prop := ∃ ws : List (Str × V), H0 d = some (.xd ws) ∧ fs.map (fun f => nmS f.1) = ws.map (·.1) ∧ DdAll T H0 (ws.map (·.2)) (fs.map (·.2))
structure Cur where
  i : Nat
  a : Addr
  d : Addr
  c : Nat
  fs : List (Nat × D)
/-- where one stands -/
structure Wo where
  T : Tb
  fx : Nat → Bool
  E : L2.St → XK
  cur : Option Cur := none
  cfx : ∀ c, cur = some c → fx c.i = true := by intro c h; cases h
variable {W : Wo}
def CurOk (W : Wo) (σ : L2.St) (H0 : Hp) : Prop := ∀ c, W.cur = some c → σ[c.i]? = some (some (.ref c.a)) ∧ XdOk W.T H0 c.d c.fs
theorem XdOk.mono {T : Tb} {H0 H0' : Hp} {d : Addr} {fs : List (Nat × D)} (s : Sm H0 H0') (h : XdOk T H0 d fs) : XdOk T H0' d fs := by
  obtain ⟨ws, h1, h2, h3⟩ := h
  exact ⟨ws, s.at_ h1 rfl, h2, h3.mono s⟩
structure Ok (W : Wo) (env : Env) (σ : L2.St) (H0 H : Hp) (F : List Addr) : Prop where
  sl : Slots W.T H0 H env σ F
  nd : F.Nodup
  h0 : ∀ a ∈ F, H0 a = none
  sm : Same H0 H
  cu : CurOk W σ H0
/-- how the heap goes on, F being one's own -/
structure Hg (H0 H : Hp) (F : List Addr) (H0' H' : Hp) (F' : List Addr) : Prop where
  k0 : Sm H0 H0'
  keep : ∀ a, a ∉ F → H a ≠ none → H0 a = none → H' a = H a ∧ H0' a = none
  al : ∀ a, H a ≠ none → H' a ≠ none
  ow : ∀ a ∈ F', a ∈ F ∨ H a = none
section
variable {H0 H H0' H' A0 A : Hp} {F F' F2 : List Addr}
theorem Hg.refl : Hg H0 H F H0 H F := ⟨.refl _, fun _ _ _ h => ⟨rfl, h⟩, fun _ h => h, fun _ h => .inl h⟩
theorem Hg.trans (a : Hg H0 H F H0' H' F') (b : Hg H0' H' F' A0 A F2) : Hg H0 H F A0 A F2 where
  k0 := a.k0.trans b.k0
  keep x n al h0 := by
    obtain ⟨h1, h2⟩ := a.keep x n al h0
    have n' : x ∉ F' := fun z => (a.ow x z).elim n fun q => al q
    obtain ⟨h3, h4⟩ := b.keep x n' (by rw [h1]; exact al) h2
    exact ⟨h3.trans h1, h4⟩
  al x h := b.al x (a.al x h)
  ow x h := by
    rcases b.ow x h with q | q
    · exact a.ow x q
    · exact .inr (Classical.byContradiction fun z => a.al x z q)
theorem Hg.back (g : Hg H0 H F H0' H' F') {l : Addr} (h : H' l = none) : H l = none := Classical.byContradiction fun z => g.al l z h
end
def ownP (env : Env) (i : Nat) (p : List Pst) : Prop := ∃ c, getE env i p = some c ∧ c.own = true
/-- the attributes of the things in the slots S stand where they stood -/
structure Fst (T : Tb) (S : Nat → Prop) (env : Env) (σ : L2.St) (H : Hp) (env' : Env) (H' : Hp) : Prop where
  pr : ∀ i f, S i → getE env i [.fld f] ≠ none → getE env' i [.fld f] ≠ none
  st : ∀ i f, S i → getE env i [.fld f] ≠ none → ownP env' i [.fld f] → ownP env i [.fld f] ∧ ∀ v0 v, σ[i]? = some (some v0) → Nav1 T H v0 (.fld f) v → Nav1 T H' v0 (.fld f) v
theorem Fst.refl {T : Tb} {S : Nat → Prop} {env : Env} {σ : L2.St} {H : Hp} : Fst T S env σ H env H := ⟨fun _ _ _ h => h, fun _ _ _ _ h => ⟨h, fun _ _ _ h => h⟩⟩
theorem Fst.trans {T : Tb} {S : Nat → Prop} {env env' env2 : Env} {σ σ' : L2.St} {H H' A : Hp} (h : Fst T S env σ H env' H') (k : Fst T S env' σ' H' env2 A) (e : ∀ i, S i → σ'[i]? = σ[i]?) : Fst T S env σ H env2 A where
  pr i f s p := k.pr i f s (h.pr i f s p)
  st i f s p o := by
    obtain ⟨o1, q1⟩ := k.st i f s (h.pr i f s p) o
    obtain ⟨o2, q2⟩ := h.st i f s p o1
    exact ⟨o2, fun v0 v e0 n => q1 v0 v (by rw [e i s]; exact e0) (q2 v0 v e0 n)⟩
theorem Fst.less {T : Tb} {S S' : Nat → Prop} {env env' : Env} {σ : L2.St} {H H' : Hp} (h : Fst T S env σ H env' H') (k : ∀ i, S' i → S i) : Fst T S' env σ H env' H' :=
  ⟨fun i f s => h.pr i f (k i s), fun i f s => h.st i f (k i s)⟩
/-- a step of an expression -/
structure Stp (W : Wo) (pu : Bool) (env : Env) (σ : L2.St) (H0 H : Hp) (F : List Addr) (env' : Env) (H0' H' : Hp) (F' : List Addr) : Prop where
  ok : Ok W env' σ H0' H' F'
  hg : Hg H0 H F H0' H' F'
  fs : Fst W.T (fun _ => True) env σ H env' H'
  pu : pu = true → Same H H' ∧ ∀ i p, ownP env' i p → ownP env i p
/-- a step of statements -/
structure Chg (W : Wo) (env : Env) (σ : L2.St) (H0 H : Hp) (F : List Addr) (env' : Env) (σ' : L2.St) (H0' H' : Hp) (F' : List Addr) : Prop where
  ok : Ok W env' σ' H0' H' F'
  hg : Hg H0 H F H0' H' F'
  fx : ∀ i, W.fx i = true → σ'[i]? = σ[i]?
  fs : Fst W.T (fun i => W.fx i = true) env σ H env' H'
  ln : σ'.length = σ.length
section
variable {pu : Bool} {env env' env2 : Env} {σ σ' σ2 : L2.St} {H0 H H0' H' A0 A B B' : Hp} {F F' F2 : List Addr} {v : V} {Z Z' : Addr → Prop}
theorem Stp.refl (O : Ok W env σ H0 H F) : Stp W pu env σ H0 H F env H0 H F := ⟨O, .refl, .refl, fun _ => ⟨Same.refl _, fun _ _ h => h⟩⟩
theorem Stp.trans (a : Stp W pu env σ H0 H F env' H0' H' F') (b : Stp W pu env' σ H0' H' F' env2 A0 A F2) : Stp W pu env σ H0 H F env2 A0 A F2 :=
  ⟨b.ok, a.hg.trans b.hg, a.fs.trans b.fs fun _ _ => rfl, fun h => ⟨(a.pu h).1.trans (b.pu h).1, fun i p q => (a.pu h).2 i p ((b.pu h).2 i p q)⟩⟩
theorem Stp.back (a : Stp W pu env σ H0 H F env' H0' H' F') {l : Addr} (h : H' l = none) : H l = none := a.hg.back h
theorem Stp.chg (a : Stp W pu env σ H0 H F env' H0' H' F') : Chg W env σ H0 H F env' σ H0' H' F' := ⟨a.ok, a.hg, fun _ _ => rfl, a.fs.less fun _ _ => trivial, rfl⟩
theorem Chg.refl (O : Ok W env σ H0 H F) : Chg W env σ H0 H F env σ H0 H F := ⟨O, .refl, fun _ _ => rfl, .refl, rfl⟩
theorem Chg.trans (a : Chg W env σ H0 H F env' σ' H0' H' F') (b : Chg W env' σ' H0' H' F' env2 σ2 A0 A F2) : Chg W env σ H0 H F env2 σ2 A0 A F2 :=
  ⟨b.ok, a.hg.trans b.hg, fun i h => (b.fx i h).trans (a.fx i h), a.fs.trans b.fs a.fx, b.ln.trans a.ln⟩
/-- what may be taken: new things, and one's own -/
def Fre (H : Hp) (F : List Addr) (a : Addr) : Prop := H a = none ∨ a ∈ F
theorem Hg.fre (g : Hg H0 H F H0' H' F') {a : Addr} (h : Fre H' F' a) : Fre H F a := h.elim (fun z => .inl (g.back z)) fun z => (g.ow a z).elim .inr .inl
/-- v is what r says; B: where it began -/
def VAL (W : Wo) (Z : Addr → Prop) (env : Env) (σ : L2.St) (H0 H : Hp) (F : List Addr) (v : V) : R → Prop
  | .dat d => Dd W.T H0 v d
  | .own c => c.own = true ∧ ∃ Fc, Rep W.T H0 H c v Fc ∧ Fc.Nodup ∧ ∀ a ∈ Fc, H0 a = none ∧ a ∉ F ∧ Z a
  | .al i [] => σ[i]? = some (some v)
  | .al i (s :: p) => (∀ f, s :: p = [.fld f] → getE env i [.fld f] ≠ none) ∧ ∃ v0, σ[i]? = some (some v0) ∧ (ownP env i (s :: p) → Nav W.T H v0 (s :: p) v)
theorem VAL.base (h : ∀ l, Z l → Z' l) : ∀ {r : R}, VAL W Z env σ H0 H F v r → VAL W Z' env σ H0 H F v r
  | .dat _, q => q
  | .own _, ⟨o, Fc, h1, h2, h3⟩ => ⟨o, Fc, h1, h2, fun a ha => ⟨(h3 a ha).1, (h3 a ha).2.1, h a (h3 a ha).2.2⟩⟩
  | .al _ [], q => q
  | .al _ (_ :: _), q => q
theorem getE_nil (env : Env) (i : Nat) : getE env i [] = env[i]? := by
  unfold getE
  cases env[i]? <;> rfl
theorem VAL.stp (S : Stp W pu env σ H0 H F env' H0' H' F') : ∀ {r : R}, (pu = true ∨ r.sh = true) → VAL W Z env σ H0 H F v r → VAL W Z env' σ H0' H' F' v r
  | .dat d, _, h => Dd.mono S.hg.k0 h
  | .own c, _, ⟨o, Fc, h1, h2, h3⟩ => by
    have ne := h1.al
    refine ⟨o, Fc, h1.mono S.hg.k0 fun a ha => (S.hg.keep a (h3 a ha).2.1 (ne a ha) (h3 a ha).1).1, h2, fun a ha => ?_⟩
    obtain ⟨e1, e2, e3⟩ := h3 a ha
    refine ⟨(S.hg.keep a e2 (ne a ha) e1).2, fun z => (S.hg.ow a z).elim e2 (ne a ha), e3⟩
  | .al i [], _, h => h
  | .al i (s :: p), k, ⟨h1, v0, h2, h3⟩ => by
    refine ⟨fun f e => S.fs.pr i f trivial (h1 f e), v0, h2, fun o => ?_⟩
    rcases k with k | k
    · obtain ⟨e, q⟩ := S.pu k
      exact (h3 (q _ _ o)).same e
    · cases p with
      | cons => simp [R.sh] at k
      | nil =>
        cases s with
        | ix => simp [R.sh] at k
        | key => simp [R.sh] at k
        | fld f =>
          obtain ⟨o1, q⟩ := S.fs.st i f trivial (h1 f rfl) o
          obtain ⟨u, n1, n2⟩ := h3 o1
          exact ⟨u, q v0 u h2 n1, n2⟩
inductive VALs (W : Wo) (Z : Addr → Prop) (env : Env) (σ : L2.St) (H0 H : Hp) (F : List Addr) : List V → List R → Prop
  | nil : VALs W Z env σ H0 H F [] []
  | cons {v : V} {vs : List V} {r : R} {rs : List R} : VAL W Z env σ H0 H F v r → VALs W Z env σ H0 H F vs rs → VALs W Z env σ H0 H F (v :: vs) (r :: rs)
/-- what errors are wished -/
def ErrOk (W : Wo) (px : Nat → List (Nat × D) → Env → Prop) (env : Env) (σ : L2.St) (H0 H : Hp) (F : List Addr) : Prop := ∀ (c : Nat) (A d : Addr) (fs : List (Nat × D)) (env' : Env) (σ' : L2.St) (H0' H' : Hp) (F' : List Addr),
  px c fs env' → Chg W env σ H0 H F env' σ' H0' H' F' → W.T.cl c = some A → XdOk W.T H0' d fs → W.E σ' (.ref A) (some d) H'
theorem ErrOk.chg {px : Nat → List (Nat × D) → Env → Prop} (h : ErrOk W px env σ H0 H F) (g : Chg W env σ H0 H F env' σ' H0' H' F') : ErrOk W px env' σ' H0' H' F' :=
  fun c A d fs env2 σ2 A0 A' F2 p g2 e f => h c A d fs env2 σ2 A0 A' F2 p (g.trans g2) e f
abbrev PX := Nat → List (Nat × D) → Env → Prop
def wpE (W : Wo) (pu : Bool) (t : TE) (env : Env) (P : R → Env → Prop) (px : PX) : Prop := ∀ (σ : L2.St) (H0 H : Hp) (F : List Addr), Ok W env σ H0 H F → ErrOk W px env σ H0 H F → ∀ Q : VK,
  (∀ v r env' H0' H' F', P r env' → Stp W pu env σ H0 H F env' H0' H' F' → VAL W (Fre H F) env' σ H0' H' F' v r → Q v H') → t σ H Q
def wpT (W : Wo) (pu : Bool) (t : TT) (env : Env) (P : Bool → Env → Prop) (px : PX) : Prop := ∀ (σ : L2.St) (H0 H : Hp) (F : List Addr), Ok W env σ H0 H F → ErrOk W px env σ H0 H F → ∀ Q : Bool → Hp → Prop,
  (∀ b env' H0' H' F', P b env' → Stp W pu env σ H0 H F env' H0' H' F' → Q b H') → t σ H Q
def wpA (W : Wo) (pu : Bool) (t : TA) (env : Env) (P : List R → Env → Prop) (px : PX) : Prop := ∀ (σ : L2.St) (H0 H : Hp) (F : List Addr), Ok W env σ H0 H F → ErrOk W px env σ H0 H F → ∀ Q : List V → Hp → Prop,
  (∀ vs rs env' H0' H' F', P rs env' → Stp W pu env σ H0 H F env' H0' H' F' → VALs W (Fre H F) env' σ H0' H' F' vs rs → Q vs H') → t σ H Q
/-- the reading does what the mirror does -/
def RfE (W : Wo) (pu : Bool) (t : TE) (m : ME) : Prop := ∀ env P px, Out.wp P px (m env) → wpE W pu t env P px
def RfT (W : Wo) (pu : Bool) (t : TT) (m : MT) : Prop := ∀ env P px, Out.wp P px (m env) → wpT W pu t env P px
def RfA (W : Wo) (pu : Bool) (t : TA) (m : MA) : Prop := ∀ env P px, Out.wp P px (m env) → wpA W pu t env P px
theorem VALs.stp (S : Stp W pu env σ H0 H F env' H0' H' F') : ∀ {vs : List V} {rs : List R}, (pu = true ∨ rs.all R.sh = true) → VALs W Z env σ H0 H F vs rs → VALs W Z env' σ H0' H' F' vs rs
  | _, _, _, .nil => .nil
  | _, _, k, .cons h t => by
    rcases k with k | k
    · exact .cons (h.stp S (.inl k)) (t.stp S (.inl k))
    · rw [List.all_cons, Bool.and_eq_true] at k
      exact .cons (h.stp S (.inr k.1)) (t.stp S (.inr k.2))
theorem VALs.base (a : ∀ l, Z l → Z' l) : ∀ {vs : List V} {rs : List R}, VALs W Z env σ H0 H F vs rs → VALs W Z' env σ H0 H F vs rs
  | _, _, .nil => .nil
  | _, _, .cons h t => .cons (h.base a) (t.base a)
/-- the part at a path from a slot -/
theorem Slots.path {T : Tb} {i : Nat} {p : List Pst} {c : C} (h : Slots T H0 H env σ F) (e : getE env i p = some c) (o : c.own = true ∨ (p = [] ∧ c ≠ .non)) : ∃ v0 v1 F1 G, σ[i]? = some (some v0) ∧ Nav T H v0 p v1 ∧ Rep T H0 H c v1 F1 ∧ F.Perm (F1 ++ G) ∧
    ∀ {H0' H' : Hp} {c' : C} {F1' : List Addr}, Sm H0 H0' → (∀ a ∈ G, H' a = H a) → Rep T H0' H' c' v1 F1' → Nav T H' v0 p v1 ∧ (p ≠ [] → ∀ q w, Nav1 T H v0 q w → Nav1 T H' v0 q w) ∧ (∀ (j : Nat) (cj : C), j ≠ i → env[j]? = some cj → cj.own = true → ∀ vj, σ[j]? = some (some vj) → ∀ q w, Nav1 T H vj q w → Nav1 T H' vj q w) ∧ ∃ F', Slots T H0' H' (setE env i p c') σ F' ∧ F'.Perm (F1' ++ G) := by
  simp only [getE, Option.bind_eq_some_iff] at e
  obtain ⟨c0, e1, e2⟩ := e
  have n0 : c0 ≠ .non := fun z => by
    subst z
    cases p with
    | nil =>
      simp [getC] at e2
      subst e2
      rcases o with o | o
      · cases o
      · exact o.2 rfl
    | cons s p => simp [getC, C.at] at e2
  obtain ⟨v0, F1, G, q1, q2, q3, q4, _, q6⟩ := h.focus e1 n0
  have oth : ∀ {H' : Hp}, (∀ a ∈ G, H' a = H a) → ∀ (j : Nat) (cj : C), j ≠ i → env[j]? = some cj → cj.own = true → ∀ vj, σ[j]? = some (some vj) → ∀ q w, Nav1 T H vj q w → Nav1 T H' vj q w := fun k j cj ij ej oj vj sj q w n => by
    obtain ⟨a, z1, z2⟩ := q6 j cj ij ej oj
    rw [sj] at z1
    injection z1 with z1
    injection z1 with z1
    subst z1
    exact n.root fun b e => by injection e with e; subst e; exact k _ z2
  rcases o with o | ⟨rfl, o⟩
  · obtain ⟨v1, F2, G2, n1, r1, p1, k1⟩ := q2.path e2 o
    refine ⟨v0, v1, F2, G2 ++ G, q1, n1, r1, ?_, fun {H0' H' c' F1'} s k q => ?_⟩
    · rw [← List.append_assoc]
      exact q3.trans (p1.append_right G)
    · obtain ⟨n2, n3, F3, r3, p3⟩ := k1 s (fun a ha => k a (List.mem_append_left _ ha)) q
      obtain ⟨F4, r4, p4⟩ := q4 s (fun a ha => k a (List.mem_append_right _ ha)) r3
      refine ⟨n2, n3, oth fun a ha => k a (List.mem_append_right _ ha), F4, ?_, ?_⟩
      · simp only [setE, e1]
        rw [set_self q1] at r4
        exact r4
      · rw [← List.append_assoc]
        exact p4.trans (p3.append_right G)
  · simp [getC] at e2
    subst e2
    refine ⟨v0, v0, F1, G, q1, rfl, q2, q3, fun {H0' H' c' F1'} s k q => ⟨rfl, fun z => absurd rfl z, oth k, ?_⟩⟩
    obtain ⟨F4, r4, p4⟩ := q4 s k q
    refine ⟨F4, ?_, p4⟩
    simp only [setE, e1, setC]
    rw [set_self q1] at r4
    exact r4
theorem vw_al {i : Nat} {p : List Pst} {c : C} (e : vw env (.al i p) = some c) : getE env i p = some c ∧ (c.own = true ∨ (p = [] ∧ c ≠ .non)) := by
  cases p with
  | nil =>
    simp only [vw] at e
    rw [getE_nil]
    split at e
    · cases e
    · rename_i h
      exact ⟨e, .inr ⟨rfl, fun z => by rw [z] at e; exact h e⟩⟩
  | cons s p =>
    simp only [vw] at e
    split at e
    · rename_i c' h
      split at e
      · rename_i o
        injection e with e
        subst e
        exact ⟨h, .inl o⟩
      · cases e
    · cases e
theorem VAL.nav {i : Nat} {p : List Pst} {c : C} (e : vw env (.al i p) = some c) (h : VAL W Z env σ H0 H F v (.al i p)) : ∃ v0, σ[i]? = some (some v0) ∧ Nav W.T H v0 p v := by
  cases p with
  | nil => exact ⟨v, h, rfl⟩
  | cons s p =>
    obtain ⟨_, v0, h2, h3⟩ := h
    obtain ⟨e1, e2⟩ := vw_al e
    refine ⟨v0, h2, h3 ⟨c, e1, ?_⟩⟩
    rcases e2 with e2 | e2
    · exact e2
    · cases e2.1
/-- what a result is -/
theorem VAL.vw {r : R} {c : C} (O : Ok W env σ H0 H F) (e : vw env r = some c) (h : VAL W Z env σ H0 H F v r) : ∃ F1, Rep W.T H0 H c v F1 := by
  cases r with
  | dat d =>
    simp [M.vw] at e
    subst e
    exact ⟨[], .dat h⟩
  | own c' =>
    simp [M.vw] at e
    subst e
    obtain ⟨_, Fc, h1, _⟩ := h
    exact ⟨Fc, h1⟩
  | al i p =>
    obtain ⟨e1, e2⟩ := vw_al e
    obtain ⟨v0, v1, F1, G, q1, q2, q3, _⟩ := O.sl.path e1 e2
    obtain ⟨u0, u1, u2⟩ := h.nav e
    rw [q1] at u1
    injection u1 with u1
    injection u1 with u1
    subst u1
    rw [q2.uniq u2] at q3
    exact ⟨F1, q3⟩
/-- data to be read: the thing itself may be one's own, its parts are not -/
inductive Dv (T : Tb) (H0 H : Hp) : V → D → Prop
  | dd {v : V} {d : D} : Dd T H0 v d → Dv T H0 H v d
  | lst {a : Addr} {xs : List V} {ds : List D} : H a = some (.lst xs) → DdAll T H0 xs ds → Dv T H0 H (.ref a) (.lst ds)
  | dik {a : Addr} {ws : List (Key × V)} {kvs : List (Kd × D)} : H a = some (.dK ws) → kvs.map (·.1) = ws.map (fun w => Kd.a w.1) → DdAll T H0 (ws.map (·.2)) (kvs.map (·.2)) → Dv T H0 H (.ref a) (.dic false kvs)
  | dit {a : Addr} {ws : List (List Key × V)} {kvs : List (Kd × D)} : H a = some (.dT ws) → kvs.map (·.1) = ws.map (fun w => Kd.t w.1) → DdAll T H0 (ws.map (·.2)) (kvs.map (·.2)) → Dv T H0 H (.ref a) (.dic true kvs)
  | ndc {a : Addr} {ws : List MN.NE} {kvs : List (MN.NK × D)} : H a = some (MN.ndO T.P T.w a ws) → MN.okN H0 ws → kvs.map (·.1) = ws.map (·.1) → DdAll T H0 (ws.map (·.2.2)) (kvs.map (·.2)) → Dv T H0 H (.ref a) (.ndc kvs)
theorem Rep.snap {T : Tb} {c : C} {d : D} (h : Rep T H0 H c v F) (e : snap c = some d) : Dv T H0 H v d := by
  have zp : ∀ (kvs : List (Kd × C)) (ds : List D), kvs.map (·.2) = ds.map C.dat → ((kvs.map (·.1)).zip ds).map (·.1) = kvs.map (·.1) ∧ ((kvs.map (·.1)).zip ds).map (·.2) = ds := fun kvs ds e => by
    have l : (kvs.map (·.1)).length = ds.length := by
      have := congrArg List.length e
      simpa using this
    exact ⟨List.map_fst_zip (by omega), List.map_snd_zip (by omega)⟩
  cases h with
  | dat h =>
    simp [M.snap] at e
    subst e
    exact .dd h
  | lst h r =>
    simp only [M.snap, Option.map_eq_some_iff] at e
    obtain ⟨ds, e1, rfl⟩ := e
    rw [dats_eq e1] at r
    exact .lst h r.dats.2
  | tup h r => simp [M.snap] at e
  | @dik a ws kvs F h m _ r =>
    simp only [M.snap, Option.map_eq_some_iff] at e
    obtain ⟨ds, e1, rfl⟩ := e
    have e2 := dats_eq e1
    obtain ⟨z1, z2⟩ := zp kvs ds e2
    rw [e2] at r
    exact .dik h (by rw [z1]; exact m) (by rw [z2]; exact r.dats.2)
  | @dit a ws kvs F h m _ r =>
    simp only [M.snap, Option.map_eq_some_iff] at e
    obtain ⟨ds, e1, rfl⟩ := e
    have e2 := dats_eq e1
    obtain ⟨z1, z2⟩ := zp kvs ds e2
    rw [e2] at r
    exact .dit h (by rw [z1]; exact m) (by rw [z2]; exact r.dats.2)
  | ndc h n m _ r =>
    simp [M.snap] at e
    subst e
    exact .ndc h n m r
  | obj => simp [M.snap] at e
theorem VAL.snap {r : R} {d : D} (O : Ok W env σ H0 H F) (e : snapR r env = some d) (h : VAL W Z env σ H0 H F v r) : Dv W.T H0 H v d := by
  simp only [snapR, Option.bind_eq_some_iff] at e
  obtain ⟨c, e1, e2⟩ := e
  obtain ⟨F1, h1⟩ := VAL.vw O e1 h
  exact h1.snap e2
end
end M
set_option Elab.async false
set_option linter.all false
set_option maxRecDepth 100000
set_option maxHeartbeats 1000000
namespace M
open PySem PySem.Spec PyProof.Rows L2
variable {W : Wo}
def C.isDat : C → Bool | .dat _ => true | _ => false
theorem setK_lookup {κ α : Type} [DecidableEq κ] {k j : κ} {x y : α} : ∀ {l : List (κ × α)}, l.lookup k = some y → (setK k x l).lookup j = if j = k then some x else l.lookup j
  | [], h => by cases h
  | (i, z) :: l, h => by
    by_cases e : i = k
    · subst e
      simp only [setK, if_pos rfl, List.lookup_cons]
      by_cases e2 : j = i
      · subst e2; simp
      · simp only [beq_false_of_ne e2, if_neg e2, if_true, List.lookup_cons]
    · have h' : l.lookup k = some y := by
        rw [List.lookup_cons, beq_false_of_ne (Ne.symm e)] at h
        exact h
      simp only [setK, if_neg e, List.lookup_cons, setK_lookup (j := j) (x := x) h']
      by_cases e2 : j = i
      · subst e2; simp [e]
      · simp [beq_false_of_ne e2]
theorem C.at_set {c y x : C} {s q : Pst} (d : c.isDat = false) (h : c.at s = some y) : (c.setAt s x).at q = if q = s then some x else c.at q := by
  cases c with
  | non => simp [C.at] at h
  | dat => cases d
  | lst cs =>
    cases s with
    | ix n =>
      have hn : n < cs.length := (List.getElem?_eq_some_iff.mp h).1
      cases q with
      | ix m =>
        by_cases e : m = n
        · subst e; simp [C.setAt, C.at, hn]
        · have : Pst.ix m ≠ Pst.ix n := fun z => e (by injection z)
          simp [C.setAt, C.at, this, List.getElem?_set_ne (Ne.symm e)]
      | fld f => simp [C.setAt, C.at]
      | key f => simp [C.setAt, C.at]
    | fld f => simp [C.at] at h
    | key f => simp [C.at] at h
  | tup cs =>
    cases s with
    | ix n =>
      have hn : n < cs.length := (List.getElem?_eq_some_iff.mp h).1
      cases q with
      | ix m =>
        by_cases e : m = n
        · subst e; simp [C.setAt, C.at, hn]
        · have : Pst.ix m ≠ Pst.ix n := fun z => e (by injection z)
          simp [C.setAt, C.at, this, List.getElem?_set_ne (Ne.symm e)]
      | fld f => simp [C.setAt, C.at]
      | key f => simp [C.setAt, C.at]
    | fld f => simp [C.at] at h
    | key f => simp [C.at] at h
  | ndc kvs => cases s <;> simp [C.at] at h
  | dic t kvs =>
    cases s with
    | key k =>
      cases q with
      | key j =>
        have := setK_lookup (j := j) (x := x) (l := kvs) h
        simp only [C.setAt, C.at, this]
        by_cases e : j = k
        · subst e; simp
        · have : Pst.key j ≠ Pst.key k := fun z => e (by injection z)
          simp [e, this]
      | fld f => simp [C.setAt, C.at]
      | ix f => simp [C.setAt, C.at]
    | fld f => simp [C.at] at h
    | ix f => simp [C.at] at h
  | obj c kvs =>
    cases s with
    | fld k =>
      cases q with
      | fld j =>
        have := setK_lookup (j := j) (x := x) (l := kvs) h
        simp only [C.setAt, C.at, this]
        by_cases e : j = k
        · subst e; simp
        · have : Pst.fld j ≠ Pst.fld k := fun z => e (by injection z)
          simp [e, this]
      | key f => simp [C.setAt, C.at]
      | ix f => simp [C.setAt, C.at]
    | key f => simp [C.at] at h
    | ix f => simp [C.at] at h
theorem C.set_dat {d : D} {s : Pst} {x : C} : (C.dat d).setAt s x = .dat d := by cases s <;> rfl
theorem dat_path {x : C} : ∀ {p : List Pst} {d : D}, getC (.dat d) p = some x → ∃ e, x = .dat e
  | [], d, h => by simp [getC] at h; exact ⟨d, h.symm⟩
  | s :: p, d, h => by
    simp only [getC, C.at, Option.bind_eq_some_iff, Option.map_eq_some_iff] at h
    obtain ⟨z, ⟨d', _, rfl⟩, h⟩ := h
    exact dat_path h
/-- where something data is put, nothing new is owned -/
theorem own_setC {d : D} {z : C} : ∀ {p : List Pst} {c y : C} {q : List Pst}, getC c p = some y → getC (setC c p (.dat d)) q = some z → z.own = true → ∃ z', getC c q = some z' ∧ z'.own = true
  | [], c, y, q, _, h, o => by
    simp only [setC] at h
    obtain ⟨e, rfl⟩ := dat_path h
    cases o
  | s :: p, c, y, q, e, h, o => by
    simp only [getC, Option.bind_eq_some_iff] at e
    obtain ⟨x, e1, e2⟩ := e
    simp only [setC, e1] at h
    cases hd : c.isDat with
    | true =>
      obtain ⟨d', rfl⟩ : ∃ d', c = .dat d' := by cases c <;> simp [C.isDat] at hd; exact ⟨_, rfl⟩
      rw [C.set_dat] at h
      exact ⟨z, h, o⟩
    | false =>
      cases q with
      | nil =>
        refine ⟨c, rfl, ?_⟩
        simp only [getC] at h
        injection h with h
        subst h
        cases c <;> cases s <;> simp [C.setAt, C.own, C.at, C.isDat] at *
      | cons s' q =>
        simp only [getC, C.at_set hd e1, Option.bind_eq_some_iff] at h
        obtain ⟨w, h1, h2⟩ := h
        split at h1
        · rename_i es
          subst es
          injection h1 with h1
          subst h1
          obtain ⟨z', k1, k2⟩ := own_setC (q := q) e2 h2 o
          exact ⟨z', by simp only [getC, e1, Option.bind_some]; exact k1, k2⟩
        · exact ⟨z, by simp only [getC, h1, Option.bind_some]; exact h2, o⟩
theorem own_setE {env : Env} {d : D} {i j : Nat} {p q : List Pst} {y : C} (e : getE env i p = some y) (o : ownP (setE env i p (.dat d)) j q) : ownP env j q := by
  obtain ⟨z, h, o⟩ := o
  simp only [getE, Option.bind_eq_some_iff] at e
  obtain ⟨c, e1, e2⟩ := e
  simp only [setE, e1, getE, Option.bind_eq_some_iff] at h
  obtain ⟨w, h1, h2⟩ := h
  by_cases ij : j = i
  · subst ij
    rw [List.getElem?_set_self (List.getElem?_eq_some_iff.mp e1).1] at h1
    injection h1 with h1
    subst h1
    obtain ⟨z', k1, k2⟩ := own_setC e2 h2 o
    exact ⟨z', by simp only [getE, e1, Option.bind_some]; exact k1, k2⟩
  · rw [List.getElem?_set_ne (Ne.symm ij)] at h1
    exact ⟨z, by simp only [getE, h1, Option.bind_some]; exact h2, o⟩
theorem fld_fz {c : C} {f : Nat} (h : c.at (.fld f) ≠ none) : (C.dat (fz c)).at (.fld f) ≠ none := by
  cases c with
  | obj c fs =>
    simp only [C.at] at h
    simp only [fz, fzf_map, C.at, D.at]
    intro z
    rw [Option.map_eq_none_iff] at z
    rw [lookup_none, List.map_map] at z
    exact h (lookup_none.mpr z)
  | dat d => exact h
  | _ => exact absurd rfl h
/-- attributes that are there go on being there -/
theorem fld_setC {c y x : C} {p : List Pst} {f : Nat} (e : getC c p = some y) (hx : p = [] → y.at (.fld f) ≠ none → x.at (.fld f) ≠ none) (h : c.at (.fld f) ≠ none) : (setC c p x).at (.fld f) ≠ none := by
  cases p with
  | nil =>
    simp only [getC] at e
    injection e with e
    subst e
    exact hx rfl h
  | cons s p =>
    simp only [getC, Option.bind_eq_some_iff] at e
    obtain ⟨w, e1, e2⟩ := e
    simp only [setC, e1]
    cases hd : c.isDat with
    | true =>
      obtain ⟨d', rfl⟩ : ∃ d', c = .dat d' := by cases c <;> simp [C.isDat] at hd; exact ⟨_, rfl⟩
      rw [C.set_dat]
      exact h
    | false =>
      rw [C.at_set hd e1]
      split
      · exact fun z => by cases z
      · exact h
theorem getE_fld {env : Env} {i f : Nat} : getE env i [.fld f] = env[i]?.bind fun c => c.at (.fld f) := by
  unfold getE
  cases env[i]? with
  | none => rfl
  | some c =>
    simp only [Option.bind_some, getC]
    cases c.at (.fld f) <;> rfl
theorem fld_setE {env : Env} {i j f : Nat} {p : List Pst} {y x : C} (e : getE env i p = some y) (hx : p = [] → y.at (.fld f) ≠ none → x.at (.fld f) ≠ none) (h : getE env j [.fld f] ≠ none) : getE (setE env i p x) j [.fld f] ≠ none := by
  rw [getE_fld] at h ⊢
  simp only [getE, Option.bind_eq_some_iff] at e
  obtain ⟨c, e1, e2⟩ := e
  simp only [setE, e1]
  by_cases ij : j = i
  · subst ij
    rw [e1, Option.bind_some] at h
    rw [List.getElem?_set_self (List.getElem?_eq_some_iff.mp e1).1, Option.bind_some]
    exact fld_setC e2 hx h
  · rw [List.getElem?_set_ne (Ne.symm ij)]
    exact h
section
variable {pu : Bool} {env0 env env' env2 : Env} {σ σ' σ2 : L2.St} {H0 H H0' H' A0 A B B' : Hp} {F FA F' F2 : List Addr} {v : V} {r : R} {d : D}
/-- a part of the heap becomes data -/
def addH (H0 H : Hp) (F : List Addr) : Hp := fun a => if a ∈ F then H a else H0 a
theorem addH_sm {F : List Addr} (h : ∀ a ∈ F, H0 a = none) : Sm H0 (addH H0 H F) := fun a u e => by
  refine ⟨u, ?_, rfl, fun _ _ _ => rfl⟩
  unfold addH
  rw [if_neg fun z => by rw [h a z] at e; cases e]
  exact e
theorem addH_same {F : List Addr} (s : Same H0 H) : Same (addH H0 H F) H := fun a u e => by
  unfold addH at e
  split at e
  · exact e
  · exact s a u e
theorem Nodup.of_perm {l m : List Addr} (h : l.Perm m) (n : l.Nodup) : m.Nodup := h.nodup_iff.mp n
theorem CurOk.mono {H0' : Hp} (s : Sm H0 H0') (h : CurOk W σ H0) : CurOk W σ H0' := fun c e => ⟨(h c e).1, (h c e).2.mono s⟩
/-- what is handed on is frozen -/
theorem freeze_core {Z : Addr → Prop} (O : Ok W env σ H0 H F) (h : VAL W Z env σ H0 H F v r) (e : fzR r env = some (d, env')) : ∃ H0' F', Ok W env' σ H0' H F' ∧ Dd W.T H0' v d ∧ Sm H0 H0' ∧ (∀ a ∈ F', a ∈ F) ∧ (∀ a, H0 a = none → H0' a ≠ none → Z a ∨ a ∈ F) ∧
    (∀ j f, getE env j [.fld f] ≠ none → getE env' j [.fld f] ≠ none) ∧ ∀ j q, ownP env' j q → ownP env j q := by
  cases r with
  | dat d' =>
    simp [fzR] at e
    obtain ⟨rfl, rfl⟩ := e
    exact ⟨H0, F, O, h, .refl _, fun _ z => z, fun a z1 z2 => absurd z1 z2, fun _ _ z => z, fun _ _ z => z⟩
  | own c =>
    simp [fzR] at e
    obtain ⟨rfl, rfl⟩ := e
    obtain ⟨_, Fc, h1, h2, h3⟩ := h
    have sm : Sm H0 (addH H0 H Fc) := addH_sm fun a ha => (h3 a ha).1
    have rep := h1.fz (H1 := addH H0 H Fc) sm fun a ha => by unfold addH; rw [if_pos ha]
    have nf : ∀ a ∈ F, addH H0 H Fc a = none := fun a ha => by
      unfold addH
      rw [if_neg fun z => (h3 a z).2.1 ha]
      exact O.h0 a ha
    refine ⟨addH H0 H Fc, F, ⟨O.sl.mono sm fun _ _ => rfl, O.nd, nf, addH_same O.sm, O.cu.mono sm⟩, rep, sm, fun _ z => z, fun a z1 z2 => ?_, fun _ _ z => z, fun _ _ z => z⟩
    unfold addH at z2
    split at z2
    · rename_i k
      exact .inl (h3 a k).2.2
    · exact absurd z1 z2
  | al i p =>
    simp only [fzR] at e
    split at e
    · rename_i d' q
      injection e with e
      injection e with e1 e2
      subst e1 e2
      obtain ⟨F1, r1⟩ := h.vw O q
      cases r1 with
      | dat r1 => exact ⟨H0, F, O, r1, .refl _, fun _ z => z, fun a z1 z2 => absurd z1 z2, fun _ _ z => z, fun _ _ z => z⟩
    · rename_i c nd q
      injection e with e
      injection e with e1 e2
      subst e1 e2
      obtain ⟨e1, e2⟩ := vw_al q
      obtain ⟨v0, v1, F1, G, q1, q2, q3, q4, q5⟩ := O.sl.path e1 e2
      obtain ⟨u0, u1, u2⟩ := h.nav q
      rw [q1] at u1
      injection u1 with u1
      injection u1 with u1
      subst u1
      have := q2.uniq u2
      subst this
      have hF : ∀ a ∈ F1, a ∈ F := fun a ha => q4.mem_iff.mpr (List.mem_append_left _ ha)
      have hG : ∀ a ∈ G, a ∈ F := fun a ha => q4.mem_iff.mpr (List.mem_append_right _ ha)
      have nd2 := Nodup.of_perm q4 O.nd
      have sm : Sm H0 (addH H0 H F1) := addH_sm fun a ha => O.h0 a (hF a ha)
      have rep := q3.fz (H1 := addH H0 H F1) sm fun a ha => by unfold addH; rw [if_pos ha]
      obtain ⟨_, _, _, F', r', p'⟩ := q5 (H' := H) sm (fun _ _ => rfl) (.dat rep)
      have inG : ∀ a ∈ F', a ∈ G := fun a ha => by simpa using p'.mem_iff.mp ha
      refine ⟨addH H0 H F1, F', ⟨r', ?_, fun a ha => ?_, addH_same O.sm, O.cu.mono sm⟩, rep, sm, fun a ha => hG a (inG a ha), fun a z1 z2 => ?_, fun j f k => fld_setE e1 (fun _ hx => fld_fz hx) k, fun j q o => own_setE e1 o⟩
      · exact Nodup.of_perm p'.symm (by simpa using (List.nodup_append.mp nd2).2.1)
      · unfold addH
        rw [if_neg fun z => ?_]
        · exact O.h0 a (hG a (inG a ha))
        · exact (List.nodup_append.mp nd2).2.2 a z a (inG a ha) rfl
      · unfold addH at z2
        split at z2
        · rename_i k
          exact .inr (hF a k)
        · exact absurd z1 z2
    · cases e
theorem freeze_hg {H0' : Hp} {F' : List Addr} (g : Hg A0 A FA H0 H F) (sm : Sm H0 H0') (i : ∀ a ∈ F', a ∈ F) (z : ∀ a, H0 a = none → H0' a ≠ none → Fre A FA a ∨ a ∈ F) : Hg A0 A FA H0' H F' := by
  refine ⟨g.k0.trans sm, fun a n al h0 => ?_, g.al, fun a ha => g.ow a (i a ha)⟩
  obtain ⟨q1, q2⟩ := g.keep a n al h0
  refine ⟨q1, Classical.byContradiction fun w => ?_⟩
  rcases z a q2 w with y | y
  · exact y.elim al n
  · exact (g.ow a y).elim n al
theorem freeze (S : Stp W pu env0 σ A0 A FA env H0 H F) (h : VAL W (Fre A FA) env σ H0 H F v r) (e : fzR r env = some (d, env')) : ∃ H0' F', Stp W pu env0 σ A0 A FA env' H0' H F' ∧ Dd W.T H0' v d := by
  obtain ⟨H0', F', O, dd, sm, i, z, p1, p2⟩ := freeze_core S.ok h e
  exact ⟨H0', F', ⟨O, freeze_hg S.hg sm i z, ⟨fun j f t k => p1 j f (S.fs.pr j f t k), fun j f t k o => S.fs.st j f t k (p2 j _ o)⟩, fun hp => ⟨(S.pu hp).1, fun j q o => (S.pu hp).2 j q (p2 j q o)⟩⟩, dd⟩
theorem freezeC {σ0 : L2.St} (S : Chg W env0 σ0 A0 A FA env σ H0 H F) (h : VAL W (Fre A FA) env σ H0 H F v r) (e : fzR r env = some (d, env')) : ∃ H0' F', Chg W env0 σ0 A0 A FA env' σ H0' H F' ∧ Dd W.T H0' v d := by
  obtain ⟨H0', F', O, dd, sm, i, z, p1, p2⟩ := freeze_core S.ok h e
  exact ⟨H0', F', ⟨O, freeze_hg S.hg sm i z, S.fx, ⟨fun j f t k => p1 j f (S.fs.pr j f t k), fun j f t k o => S.fs.st j f t k (p2 j _ o)⟩, S.ln⟩, dd⟩
end
end M
set_option Elab.async false
set_option linter.all false
set_option maxRecDepth 100000
set_option maxHeartbeats 1000000
namespace M
open PySem PySem.Spec PyProof.Rows L2
variable {W : Wo}
def ofO (o : Option R) (e : Env) : Out R := match o with
  | some r => .ok r e
  | none => .bad
@[simp] theorem ofO_some (r : R) (e : Env) : ofO (some r) e = .ok r e := rfl
@[simp] theorem ofO_none (e : Env) : ofO none e = .bad := rfl
def mVar (i : Nat) : ME := fun env => match env[i]? with
  | some (.dat d) => .ok (.dat d) env
  | some .non => .bad
  | some _ => .ok (.al i []) env
  | none => .bad
def mC (d : D) : ME := fun env => .ok (.dat d) env
def fzO (r : R) (e : Env) : Out R := match fzR r e with
  | some (d, e') => .ok (.dat d) e'
  | none => .bad
@[simp] theorem fzO_dat (d : D) (e : Env) : fzO (.dat d) e = .ok (.dat d) e := rfl
@[simp] theorem fzO_own (c : C) (e : Env) : fzO (.own c) e = .ok (.dat (fz c)) e := rfl
def mFz (m : ME) : ME := fun env => (m env).bind fzO
def op2 (o : D → D → Option R) (x y : R) (e : Env) : Out R := match snapR x e, snapR y e with
  | some d, some d' => ofO (o d d') e
  | _, _ => .bad
def grd {α : Type} (b : Bool) (o : Out α) : Out α := if b = true then o else .bad
@[simp] theorem grd_true {α : Type} (o : Out α) : grd true o = o := rfl
def mOp (o : D → D → Option R) (a b : ME) : ME := fun env => (a env).bind fun x e1 => grd x.sh ((b e1).bind fun y e2 => op2 o x y e2)
def op1 (o : D → Option R) (x : R) (e : Env) : Out R := match snapR x e with
  | some d => ofO (o d) e
  | none => .bad
def mUn (o : D → Option R) (a : ME) : ME := fun env => (a env).bind fun x e => op1 o x e
def asB (r : R) (e : Env) : Out Bool := match r with
  | .dat (.bl b) => .ok b e
  | _ => .bad
@[simp] theorem asB_bl (b : Bool) (e : Env) : asB (.dat (.bl b)) e = .ok b e := rfl
def mB (a : ME) : MT := fun env => (a env).bind asB
def mAndV (a b : ME) : ME := fun env => (mB a env).bind fun k e => if k = true then b e else .ok (.dat (.bl false)) e
def mOrV (a b : ME) : ME := fun env => (mB a env).bind fun k e => if k = true then .ok (.dat (.bl true)) e else b e
def mNotV (a : ME) : ME := fun env => (mB a env).bind fun k e => .ok (.dat (.bl (!k))) e
def mIfE (t : MT) (a b : ME) : ME := fun env => (t env).bind fun k e => if k = true then a e else b e
def mAnd (a b : MT) : MT := fun env => (a env).bind fun k e => if k = true then b e else .ok false e
def mOr (a b : MT) : MT := fun env => (a env).bind fun k e => if k = true then .ok true e else b e
def mNot (a : MT) : MT := fun env => (a env).bind fun k e => .ok (!k) e
def mYes : MT := fun env => .ok true env
/-- a op b op2 c -/
def mChain (o o2 : D → D → Option R) (a b c : ME) : ME := fun env => (a env).bind fun x e1 => grd x.sh ((b e1).bind fun y e2 => grd y.sh ((op2 o x y e2).bind fun z e3 => (asB z e3).bind fun k e3 => if k = true then (c e3).bind fun w e4 => op2 o2 y w e4 else .ok (.dat (.bl false)) e3))
def mNil : MA := fun env => .ok [] env
def mCons (a : ME) (b : MA) : MA := fun env => (a env).bind fun x e1 => grd x.sh ((b e1).bind fun xs e2 => .ok (x :: xs) e2)
def datR : List R → Option (List D)
  | [] => some []
  | .dat d :: rs => (datR rs).map (d :: ·)
  | _ :: _ => none
@[simp] theorem datR_map (ds : List D) : datR (ds.map R.dat) = some ds := by
  induction ds with
  | nil => rfl
  | cons d ds ih => simp [datR, ih]
@[simp] theorem datR_nil : datR [] = some [] := rfl
@[simp] theorem datR_cons (d : D) (rs : List R) : datR (.dat d :: rs) = (datR rs).map (d :: ·) := rfl
theorem datR_eq : ∀ {rs : List R} {ds : List D}, datR rs = some ds → rs = ds.map R.dat
  | [], ds, h => by simp [datR] at h; subst h; rfl
  | .dat d :: rs, ds, h => by
    simp only [datR, Option.map_eq_some_iff] at h
    obtain ⟨es, h1, rfl⟩ := h
    rw [datR_eq h1]
    rfl
  | .own _ :: _, _, h => by simp [datR] at h
  | .al _ _ :: _, _, h => by simp [datR] at h
def LIM : Nat := 1000000
def tupO (rs : List R) (e : Env) : Out R := match datR rs with
  | some ds => if ds.length ≤ LIM then .ok (.dat (.tup ds)) e else .bad
  | none => .bad
def lstO (rs : List R) (e : Env) : Out R := match datR rs with
  | some ds => if ds.length ≤ LIM then .ok (.own (.lst (ds.map .dat))) e else .bad
  | none => .bad
def mTup (a : MA) : ME := fun env => (a env).bind tupO
def mLst (a : MA) : ME := fun env => (a env).bind lstO
def snaps : List R → Env → Option (List D)
  | [], _ => some []
  | r :: rs, e => match snapR r e, snaps rs e with
    | some d, some ds => some (d :: ds)
    | _, _ => none
/-- a built-in of data -/
def cbO (o : List D → Option R) (rs : List R) (e : Env) : Out R := match snaps rs e with
  | some ds => ofO (o ds) e
  | none => .bad
def mCB (o : List D → Option R) (a : MA) : ME := fun env => (a env).bind fun rs e => cbO o rs e
structure Gr (H0 H H0' H' : Hp) : Prop where
  sh : Same H H'
  s0 : Sm H0 H0'
  sm : Same H0' H'
  old : ∀ a, H a ≠ none → H0' a = H0 a
def VALn (T : Tb) (H0 H B : Hp) (v : V) : R → Prop
  | .dat d => Dd T H0 v d
  | .own c => c.own = true ∧ ∃ Fc, Rep T H0 H c v Fc ∧ Fc.Nodup ∧ ∀ a ∈ Fc, H0 a = none ∧ B a = none
  | .al _ _ => False
section
variable {pu : Bool} {env0 env env' env2 : Env} {σ σ' σ2 : L2.St} {H0 H H0' H' A0 A B B' : Hp} {F FA F' F2 : List Addr} {v : V} {r : R} {d : D} {Z : Addr → Prop}
theorem Gr.refl (h : Same H0 H) : Gr H0 H H0 H := ⟨Same.refl _, .refl _, h, fun _ _ => rfl⟩
theorem Gr.trans (a : Gr H0 H H0' H') (b : Gr H0' H' A0 A) : Gr H0 H A0 A := ⟨a.sh.trans b.sh, a.s0.trans b.s0, b.sm, fun x h => (b.old x fun z => h (by
  cases q : H x with
  | none => rfl
  | some u => rw [a.sh x u q] at z; cases z)).trans (a.old x h)⟩
theorem Stp.gr (S : Stp W pu env0 σ A0 A FA env H0 H F) (g : Gr H0 H H0' H') : Stp W pu env0 σ A0 A FA env H0' H' F := by
  have eq : ∀ a, H a ≠ none → H' a = H a := fun a h => by
    cases z : H a with
    | none => exact absurd z h
    | some u => exact g.sh a u z
  refine ⟨⟨S.ok.sl.mono g.s0 fun a ha => eq a (S.ok.sl.al a ha), S.ok.nd, fun a ha => (g.old a (S.ok.sl.al a ha)).trans (S.ok.h0 a ha), g.sm, S.ok.cu.mono g.s0⟩, ⟨S.hg.k0.trans g.s0, fun a n al h0 => ?_, fun a h z => ?_, S.hg.ow⟩, ⟨S.fs.pr, fun i f t p o => ?_⟩, fun hp => ⟨(S.pu hp).1.trans g.sh, (S.pu hp).2⟩⟩
  · obtain ⟨q1, q2⟩ := S.hg.keep a n al h0
    have na : H a ≠ none := by rw [q1]; exact al
    exact ⟨(eq a na).trans q1, (g.old a na).trans q2⟩
  · have na := S.hg.al a h
    rw [eq a na] at z
    exact na z
  · obtain ⟨q1, q2⟩ := S.fs.st i f t p o
    exact ⟨q1, fun v0 v e n => (q2 v0 v e n).same g.sh⟩
theorem VALn.val (O : Ok W env σ H0 H F) (g : Gr H0 H H0' H') (hz : ∀ a, H a = none → Z a) : ∀ {r : R}, VALn W.T H0' H' H v r → VAL W Z env σ H0' H' F v r
  | .dat _, h => h
  | .own _, ⟨o, Fc, h1, h2, h3⟩ => ⟨o, Fc, h1, h2, fun a ha => ⟨(h3 a ha).1, fun z => O.sl.al a z (h3 a ha).2, hz a (h3 a ha).2⟩⟩
  | .al _ _, h => h.elim
/-- a new tuple, a new list -/
theorem Gr.data (s : Same H0 H) {p : Addr} (hp : H p = none) (o : HO) : Gr H0 H (upd H0 p o) (upd H p o) := by
  have n0 : H0 p = none := by
    cases z : H0 p with
    | none => rfl
    | some u => rw [s p u z] at hp; cases hp
  refine ⟨fun a u e => ?_, .of fun a u e => ?_, fun a u e => ?_, fun a e => ?_⟩
  · rw [upd_ne (ne_of_none e hp)]; exact e
  · rw [upd_ne (ne_of_none e n0)]; exact e
  · by_cases h : a = p
    · subst h; rw [upd_same] at e ⊢; exact e
    · rw [upd_ne h] at e ⊢; exact s a u e
  · exact upd_ne fun z => e (by rw [z]; exact hp)
theorem Gr.own (s : Same H0 H) {p : Addr} (hp : H p = none) (o : HO) : Gr H0 H H0 (upd H p o) := by
  refine ⟨fun a u e => ?_, .refl _, fun a u e => ?_, fun a e => rfl⟩
  · rw [upd_ne (ne_of_none e hp)]; exact e
  · rw [upd_ne (ne_of_none (s a u e) hp)]; exact s a u e
theorem laid_tup (s : Same H0 H) {p : Addr} {T : Tb} (hp : H p = none) {vs : List V} {ds : List D} (h : DdAll T H0 vs ds) : VALn T (upd H0 p (.tup vs)) (upd H p (.tup vs)) H (.ref p) (.dat (.tup ds)) :=
  .tup upd_same (h.mono (Gr.data s hp _).s0)
theorem laid_lst (s : Same H0 H) {p : Addr} {T : Tb} (hp : H p = none) {vs : List V} {ds : List D} (h : DdAll T H0 vs ds) : VALn T H0 (upd H p (.lst vs)) H (.ref p) (.own (.lst (ds.map .dat))) := by
  refine ⟨rfl, [p], .lst upd_same (Reps.of_dats h), by simp, fun a ha => ?_⟩
  rw [List.mem_singleton] at ha
  subst ha
  refine ⟨?_, hp⟩
  cases z : H0 a with
  | none => rfl
  | some u => rw [s a u z] at hp; cases hp
def RdO (T : Tb) (r : R2) (o : D → D → Option R) : Prop := ∀ (H0 H : Hp) (x y : V) (d e : D) (res : R), Same H0 H → Dv T H0 H x d → Dv T H0 H y e → o d e = some res → ∀ Q : VK, (∀ u H0' H', Gr H0 H H0' H' → VALn T H0' H' H u res → Q u H') → r x y H Q
def RdU (T : Tb) (r : V → Hp → VK → Prop) (o : D → Option R) : Prop := ∀ (H0 H : Hp) (x : V) (d : D) (res : R), Same H0 H → Dv T H0 H x d → o d = some res → ∀ Q : VK, (∀ u H0' H', Gr H0 H H0' H' → VALn T H0' H' H u res → Q u H') → r x H Q
inductive Dvs (T : Tb) (H0 H : Hp) : List V → List D → Prop
  | nil : Dvs T H0 H [] []
  | cons {v : V} {vs : List V} {d : D} {ds : List D} : Dv T H0 H v d → Dvs T H0 H vs ds → Dvs T H0 H (v :: vs) (d :: ds)
def RdC (T : Tb) (r : List V → Hp → VK → Prop) (o : List D → Option R) : Prop := ∀ (H0 H : Hp) (xs : List V) (ds : List D) (res : R), Same H0 H → Dvs T H0 H xs ds → o ds = some res → ∀ Q : VK, (∀ u H0' H', Gr H0 H H0' H' → VALn T H0' H' H u res → Q u H') → r xs H Q
theorem op2_wp {o : D → D → Option R} {x y : R} {P : R → Env → Prop} {px : PX} (h : Out.wp P px (op2 o x y env)) : ∃ d e res, snapR x env = some d ∧ snapR y env = some e ∧ o d e = some res ∧ P res env := by
  unfold op2 at h
  split at h
  · rename_i d e h1 h2
    cases z : o d e with
    | none => rw [z] at h; cases h
    | some res => rw [z] at h; exact ⟨d, e, res, h1, h2, z, h⟩
  · cases h
theorem op1_wp {o : D → Option R} {x : R} {P : R → Env → Prop} {px : PX} (h : Out.wp P px (op1 o x env)) : ∃ d res, snapR x env = some d ∧ o d = some res ∧ P res env := by
  unfold op1 at h
  split at h
  · rename_i d h1
    cases z : o d with
    | none => rw [z] at h; cases h
    | some res => rw [z] at h; exact ⟨d, res, h1, z, h⟩
  · cases h
theorem grd_wp {α : Type} {b : Bool} {o : Out α} {P : α → Env → Prop} {px : PX} (h : Out.wp P px (grd b o)) : b = true ∧ Out.wp P px o := by
  cases b with
  | false => cases h
  | true => exact ⟨rfl, h⟩
theorem wpE.imp {t : TE} {P P' : R → Env → Prop} {px : PX} (h : wpE W pu t env P px) (k : ∀ r env', P r env' → P' r env') : wpE W pu t env P' px := fun σ H0 H F O X Q q =>
  h σ H0 H F O X Q fun v r env' H0' H' F' p S w => q v r env' H0' H' F' (k _ _ p) S w
/-- an operator's two sides -/
theorem wp_two {ta tb : TE} {ma mb : ME} (ha : RfE W pu ta ma) (hb : RfE W pu tb mb) {k : R → R → Env → Out R} {P : R → Env → Prop} {px : PX} (p : Out.wp P px ((ma env).bind fun x e1 => grd x.sh ((mb e1).bind fun y e2 => k x y e2)))
    {σ : L2.St} {H0 H : Hp} {F : List Addr} (O : Ok W env σ H0 H F) (X : ErrOk W px env σ H0 H F) (Q : V → V → Hp → Prop)
    (q : ∀ v w x y env' H0' H' F', Out.wp P px (k x y env') → Stp W pu env σ H0 H F env' H0' H' F' → VAL W (Fre H F) env' σ H0' H' F' v x → VAL W (Fre H F) env' σ H0' H' F' w y → Q v w H') : ta σ H fun v H1 => tb σ H1 fun w H2 => Q v w H2 := by
  rw [Out.wp_bind] at p
  refine ha env _ px p σ H0 H F O X _ fun v x env1 A0 A FA p1 S w => ?_
  obtain ⟨sh, p2⟩ := grd_wp p1
  rw [Out.wp_bind] at p2
  refine hb env1 _ px p2 σ A0 A FA S.ok (X.chg S.chg) _ fun v2 y env2 B0 B FB p3 S2 w2 => ?_
  exact q v v2 x y env2 B0 B FB p3 (S.trans S2) (w.stp S2 (.inr sh)) (w2.base fun l z => S.hg.fre z)
theorem rf_op {r : R2} {o : D → D → Option R} {ta tb : TE} {ma mb : ME} (h : RdO W.T r o) (ha : RfE W pu ta ma) (hb : RfE W pu tb mb) : RfE W pu (tOp r ta tb) (mOp o ma mb) := fun env P px p σ H0 H F O X Q q => by
  refine wp_two ha hb p O X (fun v w H2 => r v w H2 Q) fun v w x y env' H0' H' F' p S w1 w2 => ?_
  obtain ⟨d, e, res, h1, h2, h3, p⟩ := op2_wp p
  exact h H0' H' v w d e res S.ok.sm (w1.snap S.ok h1) (w2.snap S.ok h2) h3 Q fun u B0 B g n => q u res env' B0 B F' p (S.gr g) (n.val S.ok g fun a z => .inl (S.back z))
theorem rf_un {r : V → Hp → VK → Prop} {o : D → Option R} {ta : TE} {ma : ME} (h : RdU W.T r o) (ha : RfE W pu ta ma) : RfE W pu (tUn r ta) (mUn o ma) := fun env P px p σ H0 H F O X Q q => by
  simp only [mUn, Out.wp_bind] at p
  refine ha env _ px p σ H0 H F O X _ fun v x env1 A0 A FA p1 S w => ?_
  obtain ⟨d, res, h1, h3, p⟩ := op1_wp p1
  exact h A0 A v d res S.ok.sm (w.snap S.ok h1) h3 Q fun u B0 B g n => q u res env1 B0 B FA p (S.gr g) (n.val S.ok g fun a z => .inl (S.back z))
theorem rf_var {i : Nat} : RfE W pu (tVar i) (mVar i) := fun env P px p σ H0 H F O X Q q => by
  unfold mVar at p
  split at p
  · rename_i d h
    obtain ⟨v, F1, G, e1, e2, _⟩ := O.sl.focus h (by intro z; cases z)
    cases e2 with
    | dat e2 => exact ⟨v, e1, q v _ env H0 H F p (.refl O) e2⟩
  · cases p
  · rename_i c n1 n2 h
    obtain ⟨v, F1, G, e1, _⟩ := O.sl.focus h (fun z => n2 (by rw [z]))
    exact ⟨v, e1, q v _ env H0 H F p (.refl O) e1⟩
  · cases p
theorem rf_c {v : V} {d : D} (h : ∀ H, Dd W.T H v d) : RfE W pu (tC v) (mC d) := fun env P px p σ H0 H F O X Q q => q v _ env H0 H F p (.refl O) (h H0)
theorem rf_fz {t : TE} {m : ME} (h : RfE W pu t m) : RfE W pu t (mFz m) := fun env P px p σ H0 H F O X Q q => by
  simp only [mFz, Out.wp_bind] at p
  refine h env _ px p σ H0 H F O X _ fun v r env1 A0 A FA p1 S w => ?_
  unfold fzO at p1
  split at p1
  · rename_i d e' z
    obtain ⟨B0, FB, S', dd⟩ := freeze S w z
    exact q v _ e' B0 A FB p1 S' dd
  · cases p1
theorem asB_wp {r : R} {P : Bool → Env → Prop} {px : PX} (h : Out.wp P px (asB r env)) : ∃ b, r = .dat (.bl b) ∧ P b env := by
  unfold asB at h
  split at h
  · exact ⟨_, rfl, h⟩
  · cases h
theorem Dd.bl_inv {T : Tb} {H : Hp} {b : Bool} (h : Dd T H v (.bl b)) : v = .bl b := by cases h; rfl
theorem Dd.int_inv {T : Tb} {H : Hp} {b : Int} (h : Dd T H v (.int b)) : v = .int b := by cases h; rfl
theorem rf_tB {t : TE} {m : ME} (h : RfE W pu t m) : RfT W pu (tB t) (mB m) := fun env P px p σ H0 H F O X Q q => by
  simp only [mB, Out.wp_bind] at p
  refine h env _ px p σ H0 H F O X _ fun v r env1 A0 A FA p1 S w => ?_
  obtain ⟨b, rfl, p2⟩ := asB_wp p1
  have := Dd.bl_inv w
  subst this
  exact ⟨b, rfl, q b env1 A0 A FA p2 S⟩
theorem rf_tTest {t : TE} {m : ME} (h : RfE W pu t m) : RfT W pu (tTest t) (mB m) := rf_tB h
theorem rf_and {t u : TT} {m n : MT} (h : RfT W pu t m) (k : RfT W pu u n) : RfT W pu (tAnd t u) (mAnd m n) := fun env P px p σ H0 H F O X Q q => by
  simp only [mAnd, Out.wp_bind] at p
  refine h env _ px p σ H0 H F O X _ fun b env1 A0 A FA p1 S => ?_
  cases b with
  | true => exact k env1 P px p1 σ A0 A FA S.ok (X.chg S.chg) Q fun b env2 B0 B FB p2 S2 => q b env2 B0 B FB p2 (S.trans S2)
  | false => exact q false env1 A0 A FA p1 S
theorem rf_or {t u : TT} {m n : MT} (h : RfT W pu t m) (k : RfT W pu u n) : RfT W pu (tOr t u) (mOr m n) := fun env P px p σ H0 H F O X Q q => by
  simp only [mOr, Out.wp_bind] at p
  refine h env _ px p σ H0 H F O X _ fun b env1 A0 A FA p1 S => ?_
  cases b with
  | false => exact k env1 P px p1 σ A0 A FA S.ok (X.chg S.chg) Q fun b env2 B0 B FB p2 S2 => q b env2 B0 B FB p2 (S.trans S2)
  | true => exact q true env1 A0 A FA p1 S
theorem rf_not {t : TT} {m : MT} (h : RfT W pu t m) : RfT W pu (tNot t) (mNot m) := fun env P px p σ H0 H F O X Q q => by
  simp only [mNot, Out.wp_bind] at p
  exact h env _ px p σ H0 H F O X _ fun b env1 A0 A FA p1 S => q (!b) env1 A0 A FA p1 S
theorem rf_yes : RfT W pu tYes mYes := fun env P px p σ H0 H F O X Q q => q true env H0 H F p (.refl O)
theorem rf_andV {t u : TE} {m n : ME} (h : RfE W pu t m) (k : RfE W pu u n) : RfE W pu (tAndV t u) (mAndV m n) := fun env P px p σ H0 H F O X Q q => by
  simp only [mAndV, Out.wp_bind] at p
  refine rf_tB h env _ px p σ H0 H F O X _ fun b env1 A0 A FA p1 S => ?_
  cases b with
  | true => exact k env1 P px p1 σ A0 A FA S.ok (X.chg S.chg) Q fun v b env2 B0 B FB p2 S2 w => q v b env2 B0 B FB p2 (S.trans S2) (w.base fun l z => S.hg.fre z)
  | false => exact q _ _ env1 A0 A FA p1 S (.bl false)
theorem rf_notV {t : TE} {m : ME} (h : RfE W pu t m) : RfE W pu (tNotV t) (mNotV m) := fun env P px p σ H0 H F O X Q q => by
  simp only [mNotV, Out.wp_bind] at p
  exact rf_tB h env _ px p σ H0 H F O X _ fun b env1 A0 A FA p1 S => q _ _ env1 A0 A FA p1 S (.bl _)
theorem rf_ifE {t : TT} {u w : TE} {m : MT} {n k : ME} (h : RfT W pu t m) (hu : RfE W pu u n) (hw : RfE W pu w k) : RfE W pu (tIf t u w) (mIfE m n k) := fun env P px p σ H0 H F O X Q q => by
  simp only [mIfE, Out.wp_bind] at p
  refine h env _ px p σ H0 H F O X _ fun b env1 A0 A FA p1 S => ?_
  cases b with
  | true => exact hu env1 P px p1 σ A0 A FA S.ok (X.chg S.chg) Q fun v b env2 B0 B FB p2 S2 w => q v b env2 B0 B FB p2 (S.trans S2) (w.base fun l z => S.hg.fre z)
  | false => exact hw env1 P px p1 σ A0 A FA S.ok (X.chg S.chg) Q fun v b env2 B0 B FB p2 S2 w => q v b env2 B0 B FB p2 (S.trans S2) (w.base fun l z => S.hg.fre z)
theorem rf_chain {r r2 : R2} {o o2 : D → D → Option R} {ta tb tc : TE} {ma mb mc : ME} (h : RdO W.T r o) (h2 : RdO W.T r2 o2) (ha : RfE W pu ta ma) (hb : RfE W pu tb mb) (hc : RfE W pu tc mc) : RfE W pu (tChain r r2 ta tb tc) (mChain o o2 ma mb mc) := fun env P px p σ H0 H F O X Q q => by
  refine wp_two ha hb (k := fun x y e2 => grd y.sh ((op2 o x y e2).bind fun z e3 => (asB z e3).bind fun k e3 => if k = true then (mc e3).bind fun w e4 => op2 o2 y w e4 else .ok (.dat (.bl false)) e3)) p O X (fun v w H2 => r v w H2 _) fun v w x y env' H0' H' F' p S w1 w2 => ?_
  obtain ⟨sh, p⟩ := grd_wp p
  rw [Out.wp_bind] at p
  obtain ⟨d, e, res, h3, h4, h5, p⟩ := op2_wp p
  rw [Out.wp_bind] at p
  obtain ⟨b, rfl, p⟩ := asB_wp p
  refine h H0' H' v w d e _ S.ok.sm (w1.snap S.ok h3) (w2.snap S.ok h4) h5 _ fun u B0 B g n => ?_
  have := Dd.bl_inv n
  subst this
  refine ⟨b, rfl, ?_⟩
  have S1 : Stp W pu env' σ H0' H' F' env' B0 B F' := (Stp.refl S.ok).gr g
  cases b with
  | false => exact q _ _ env' B0 B F' p (S.trans S1) (.bl false)
  | true =>
    change Out.wp P px ((mc env').bind fun w e4 => op2 o2 y w e4) at p
    rw [Out.wp_bind] at p
    refine hc env' _ px p σ B0 B F' S1.ok (X.chg (S.trans S1).chg) _ fun v3 z env3 C0 C FC p3 S3 w3 => ?_
    have ST := (S.trans S1).trans S3
    obtain ⟨d, e, res, h6, h7, h8, p⟩ := op2_wp p3
    exact h2 C0 C w v3 d e res S3.ok.sm (((w2.stp S1 (.inr sh)).stp S3 (.inr sh)).snap S3.ok h6) (w3.snap S3.ok h7) h8 Q fun u D0 D g2 n2 => q u res env3 D0 D FC p (ST.gr g2) (n2.val S3.ok g2 fun a z => .inl (ST.back z))
theorem rf_nil : RfA W pu tNil mNil := fun env P px p σ H0 H F O X Q q => q [] [] env H0 H F p (.refl O) .nil
theorem rf_cons {ta : TE} {ts : TA} {m : ME} {ms : MA} (h : RfE W pu ta m) (k : RfA W pu ts ms) : RfA W pu (tCons ta ts) (mCons m ms) := fun env P px p σ H0 H F O X Q q => by
  simp only [mCons, Out.wp_bind] at p
  refine h env _ px p σ H0 H F O X _ fun v x env1 A0 A FA p1 S w => ?_
  obtain ⟨sh, p2⟩ := grd_wp p1
  rw [Out.wp_bind] at p2
  refine k env1 _ px p2 σ A0 A FA S.ok (X.chg S.chg) _ fun vs xs env2 B0 B FB p3 S2 w2 => ?_
  exact q (v :: vs) (x :: xs) env2 B0 B FB p3 (S.trans S2) (.cons (w.stp S2 (.inr sh)) (w2.base fun l z => S.hg.fre z))
theorem VALs.dats : ∀ {vs : List V} {ds : List D}, VALs W Z env σ H0 H F vs (ds.map R.dat) → DdAll W.T H0 vs ds
  | _, [], h => by cases h; exact .nil
  | _, d :: ds, h => by
    cases h with
    | cons h1 h2 => exact .cons h1 h2.dats
theorem rf_tup {ta : TA} {ma : MA} (h : RfA W pu ta ma) : RfE W pu (tTup ta) (mTup ma) := fun env P px p σ H0 H F O X Q q => by
  simp only [mTup, Out.wp_bind] at p
  refine h env _ px p σ H0 H F O X _ fun vs rs env1 A0 A FA p1 S w => ?_
  unfold tupO at p1
  split at p1
  · rename_i ds e
    split at p1
    · rename_i l
      rw [datR_eq e] at w
      have dd := w.dats
      refine ⟨by rw [dd.len]; exact Nat.le_trans l (by decide), fun a ha => ?_⟩
      exact q _ _ env1 _ _ FA p1 (S.gr (Gr.data S.ok.sm ha _)) ((laid_tup S.ok.sm ha dd).val S.ok (Gr.data S.ok.sm ha _) fun a z => .inl (S.back z))
    · cases p1
  · cases p1
theorem rf_lst {ta : TA} {ma : MA} (h : RfA W pu ta ma) : RfE W pu (tLst ta) (mLst ma) := fun env P px p σ H0 H F O X Q q => by
  simp only [mLst, Out.wp_bind] at p
  refine h env _ px p σ H0 H F O X _ fun vs rs env1 A0 A FA p1 S w => ?_
  unfold lstO at p1
  split at p1
  · rename_i ds e
    split at p1
    · rename_i l
      rw [datR_eq e] at w
      have dd := w.dats
      refine ⟨by rw [dd.len]; exact Nat.le_trans l (by decide), fun a ha => ?_⟩
      exact q _ _ env1 _ _ FA p1 (S.gr (Gr.own S.ok.sm ha _)) ((laid_lst S.ok.sm ha dd).val S.ok (Gr.own S.ok.sm ha _) fun a z => .inl (S.back z))
    · cases p1
  · cases p1
theorem VALs.snaps (O : Ok W env σ H0 H F) : ∀ {vs : List V} {rs : List R} {ds : List D}, VALs W Z env σ H0 H F vs rs → snaps rs env = some ds → Dvs W.T H0 H vs ds
  | _, _, _, .nil, e => by simp [M.snaps] at e; subst e; exact .nil
  | _, _, _, .cons (r := r) (rs := rs) h t, e => by
    simp only [M.snaps] at e
    split at e
    · rename_i d ds h1 h2
      injection e with e
      subst e
      exact .cons (h.snap O h1) (t.snaps O h2)
    · cases e
theorem rf_cb {r : List V → Hp → VK → Prop} {o : List D → Option R} {ta : TA} {ma : MA} (h : RdC W.T r o) (ha : RfA W pu ta ma) : RfE W pu (tCB r ta) (mCB o ma) := fun env P px p σ H0 H F O X Q q => by
  simp only [mCB, Out.wp_bind] at p
  refine ha env _ px p σ H0 H F O X _ fun vs rs env1 A0 A FA p1 S w => ?_
  unfold cbO at p1
  split at p1
  · rename_i ds e
    cases z : o ds with
    | none => rw [z] at p1; cases p1
    | some res =>
      rw [z] at p1
      exact h A0 A vs ds res S.ok.sm (w.snaps S.ok e) z Q fun u B0 B g n => q u res env1 B0 B FA p1 (S.gr g) (n.val S.ok g fun a z => .inl (S.back z))
  · cases p1
end
end M
set_option Elab.async false
set_option linter.all false
set_option maxRecDepth 100000
set_option maxHeartbeats 1000000
namespace M
open PySem PySem.Spec PyProof.Rows L2
variable {W : Wo}
theorem path_own : ∀ {p : List Pst} {y c : C}, getC y p = some c → c.own = true → y.own = true
  | [], y, c, e, o => by simp only [getC] at e; injection e with e; rw [e]; exact o
  | s :: p, y, c, e, o => by
    cases y with
    | non => simp [getC, C.at] at e
    | dat d =>
      obtain ⟨e', rfl⟩ := dat_path e
      cases o
    | _ => rfl
theorem own_setE2 {env : Env} {i j f : Nat} {p : List Pst} {c c' : C} (e : getE env i p = some c) (o : c.own = true) (h : ownP (setE env i p c') j [.fld f]) : (p = [] ∧ j = i ∧ ∃ x', c'.at (.fld f) = some x' ∧ x'.own = true) ∨ (ownP env j [.fld f] ∧ (j = i → p ≠ [])) := by
  obtain ⟨x', h, ox⟩ := h
  rw [getE_fld] at h
  simp only [getE, Option.bind_eq_some_iff] at e
  obtain ⟨c0, e1, e2⟩ := e
  simp only [setE, e1] at h
  by_cases ij : j = i
  · subst ij
    rw [List.getElem?_set_self (List.getElem?_eq_some_iff.mp e1).1, Option.bind_some] at h
    cases p with
    | nil => exact .inl ⟨rfl, rfl, x', h, ox⟩
    | cons s p =>
      refine .inr ⟨?_, fun _ => by intro z; cases z⟩
      simp only [getC, Option.bind_eq_some_iff] at e2
      obtain ⟨y, e3, e4⟩ := e2
      simp only [setC, e3] at h
      have hd : c0.isDat = false := by
        cases hd : c0.isDat with
        | false => rfl
        | true =>
          obtain ⟨d', rfl⟩ : ∃ d', c0 = .dat d' := by cases c0 <;> simp [C.isDat] at hd; exact ⟨_, rfl⟩
          simp only [C.at, Option.map_eq_some_iff] at e3
          obtain ⟨d2, _, rfl⟩ := e3
          obtain ⟨d3, rfl⟩ := dat_path e4
          cases o
      rw [C.at_set hd e3] at h
      split at h
      · rename_i es
        exact ⟨y, by rw [getE_fld, e1, Option.bind_some, es]; exact e3, path_own e4 o⟩
      · exact ⟨x', by rw [getE_fld, e1, Option.bind_some]; exact h, ox⟩
  · rw [List.getElem?_set_ne (Ne.symm ij)] at h
    exact .inr ⟨⟨x', by rw [getE_fld]; exact h, ox⟩, fun z => absurd z ij⟩
section
variable {pu : Bool} {env0 env env' env2 : Env} {σ σ' σ2 : L2.St} {H0 H H0' H' A0 A B B' : Hp} {F FA F' F2 : List Addr} {v : V} {r : R} {d : D} {Z : Addr → Prop}
theorem VAL.focus {i : Nat} {p : List Pst} {c : C} (O : Ok W env σ H0 H F) (e : M.vw env (.al i p) = some c) (nv : VAL W Z env σ H0 H F v (.al i p)) : ∃ v0 F1 G, σ[i]? = some (some v0) ∧ Nav W.T H v0 p v ∧ Rep W.T H0 H c v F1 ∧ F.Perm (F1 ++ G) ∧
    ∀ {H0' H' : Hp} {c' : C} {F1' : List Addr}, Sm H0 H0' → (∀ a ∈ G, H' a = H a) → Rep W.T H0' H' c' v F1' → Nav W.T H' v0 p v ∧ (p ≠ [] → ∀ q w, Nav1 W.T H v0 q w → Nav1 W.T H' v0 q w) ∧ (∀ (j : Nat) (cj : C), j ≠ i → env[j]? = some cj → cj.own = true → ∀ vj, σ[j]? = some (some vj) → ∀ q w, Nav1 W.T H vj q w → Nav1 W.T H' vj q w) ∧ ∃ F', Slots W.T H0' H' (setE env i p c') σ F' ∧ F'.Perm (F1' ++ G) := by
  obtain ⟨e1, e2⟩ := vw_al e
  obtain ⟨v0, v1, F1, G, q1, q2, q3, q4, q5⟩ := O.sl.path e1 e2
  obtain ⟨u0, u1, u2⟩ := nv.nav e
  rw [q1] at u1
  injection u1 with u1
  injection u1 with u1
  subst u1
  have := q2.uniq u2
  subst this
  exact ⟨v0, F1, G, q1, q2, q3, q4, q5⟩
/-- a thing of one's own changes -/
theorem Stp.modify (S : Stp W pu env0 σ A0 A FA env H0 H F) {i : Nat} {p : List Pst} {c c' : C} {l : Addr} {o' : HO} (e : vw env (.al i p) = some c) (oc : c.own = true) (nv : VAL W Z env σ H0 H F (.ref l) (.al i p))
    (mk : ∀ F1, Rep W.T H0 H c (.ref l) F1 → F1.Nodup → (∀ a ∈ F1, a ∈ F) → ∃ F1', Rep W.T H0 (upd H l o') c' (.ref l) F1' ∧ F1'.Nodup ∧ ∀ a ∈ F1', a ∈ F1 ∨ (a ∉ F ∧ H0 a = none ∧ Fre A FA a))
    (hp : p = [] → ∀ f, c.at (.fld f) ≠ none → c'.at (.fld f) ≠ none)
    (hq : p = [] → ∀ f x', c.at (.fld f) ≠ none → c'.at (.fld f) = some x' → x'.own = true → (∃ x, c.at (.fld f) = some x ∧ x.own = true) ∧ ∀ w, Nav1 W.T H (.ref l) (.fld f) w → Nav1 W.T (upd H l o') (.ref l) (.fld f) w) :
    ∃ F', Stp W false env0 σ A0 A FA (setE env i p c') H0 (upd H l o') F' := by
  have O := S.ok
  obtain ⟨v0, F1, G, q1, q2, q3, q4, q5⟩ := VAL.focus O e nv
  obtain ⟨e1, _⟩ := vw_al e
  have hF : ∀ a ∈ F1, a ∈ F := fun a ha => q4.mem_iff.mpr (List.mem_append_left _ ha)
  have hG : ∀ a ∈ G, a ∈ F := fun a ha => q4.mem_iff.mpr (List.mem_append_right _ ha)
  have nd2 := Nodup.of_perm q4 O.nd
  obtain ⟨n1, n2, n3⟩ := List.nodup_append.mp nd2
  obtain ⟨a, ea, la⟩ := q3.root oc
  injection ea with ea
  subst ea
  obtain ⟨F1', m1, m2, m3⟩ := mk F1 q3 n1 hF
  have kG : ∀ a ∈ G, upd H l o' a = H a := fun a ha => upd_ne fun z => n3 l la a ha z.symm
  obtain ⟨w1, w2, w3, F', w4, w5⟩ := q5 (Sm.refl H0) kG m1
  have h0l : H0 l = none := O.h0 l (hF l la)
  have inF : ∀ a ∈ F', a ∈ F ∨ (a ∉ F ∧ H0 a = none ∧ Fre A FA a) := fun a ha => by
    rcases List.mem_append.mp (w5.mem_iff.mp ha) with z | z
    · rcases m3 a z with z | z
      · exact .inl (hF a z)
      · exact .inr z
    · exact .inl (hG a z)
  refine ⟨F', ⟨w4, ?_, fun a ha => ?_, fun a u z => ?_, O.cu⟩, ⟨S.hg.k0, fun a n al h0 => ?_, fun a h => ?_, fun a ha => ?_⟩, ⟨fun j f t k => ?_, fun j f t k o => ?_⟩, fun z => by cases z⟩
  · refine Nodup.of_perm w5.symm (List.nodup_append.mpr ⟨m2, n2, fun a ha b hb z => ?_⟩)
    subst z
    rcases m3 a ha with z | z
    · exact n3 a z a hb rfl
    · exact z.1 (hG a hb)
  · rcases inF a ha with z | z
    · exact O.h0 a z
    · exact z.2.1
  · rw [upd_ne fun y => by rw [y, h0l] at z; cases z]
    exact O.sm a u z
  · obtain ⟨z1, z2⟩ := S.hg.keep a n al h0
    refine ⟨?_, z2⟩
    rw [upd_ne fun y => ?_]
    · exact z1
    · subst y
      exact (S.hg.ow a (hF a la)).elim n al
  · by_cases y : a = l
    · subst y; rw [upd_same]; exact fun z => by cases z
    · rw [upd_ne y]; exact S.hg.al a h
  · rcases inF a ha with z | z
    · exact S.hg.ow a z
    · exact z.2.2.symm
  · exact fld_setE e1 (fun h => hp h f) (S.fs.pr j f t k)
  · have pr := S.fs.pr j f t k
    rcases own_setE2 e1 oc o with ⟨rfl, rfl, x', h1, h2⟩ | ⟨o1, ne⟩
    · have pc : c.at (.fld f) ≠ none := by
        rw [getE_fld] at pr
        rw [getE_nil] at e1
        rw [e1, Option.bind_some] at pr
        exact pr
      obtain ⟨⟨x, y1, y2⟩, y3⟩ := hq rfl f x' pc h1 h2
      have o2 : ownP env j [.fld f] := ⟨x, by rw [getE_fld]; rw [getE_nil] at e1; rw [e1, Option.bind_some]; exact y1, y2⟩
      obtain ⟨s1, s2⟩ := S.fs.st j f t k o2
      refine ⟨s1, fun u0 u eu nu => ?_⟩
      have := s2 u0 u eu nu
      rw [q1] at eu
      injection eu with eu
      injection eu with eu
      subst eu
      have q2' : v0 = .ref l := q2
      subst q2'
      exact y3 u this
    · obtain ⟨s1, s2⟩ := S.fs.st j f t k o1
      refine ⟨s1, fun u0 u eu nu => ?_⟩
      have nu := s2 u0 u eu nu
      by_cases ij : j = i
      · subst ij
        rw [q1] at eu
        injection eu with eu
        injection eu with eu
        subst eu
        exact w2 (ne rfl) _ _ nu
      · obtain ⟨x, x1, x2⟩ := o1
        rw [getE_fld, Option.bind_eq_some_iff] at x1
        obtain ⟨cj, x3, x4⟩ := x1
        have oj : cj.own = true := by
          have : getC cj [.fld f] = some x := by simp only [getC, x4, Option.bind_some]
          exact path_own this x2
        exact w3 j cj ij x3 oj u0 eu _ _ nu
end
end M
set_option Elab.async false
set_option linter.all false
set_option maxRecDepth 100000
set_option maxHeartbeats 1000000
namespace M
open PySem PySem.Spec PyProof.Rows L2
variable {W : Wo}
def stepR (x : R) (s : Pst) (c : C) : Option R := match c with
  | .dat d => some (.dat d)
  | .non => none
  | _ => match x with
    | .al i p => some (.al i (p ++ [s]))
    | _ => none
def chO (x : R) (cs : List C) (i : Int) (e : Env) : Out R := match ixN cs.length i with
  | some n => match cs[n]? with
    | some c => ofO (stepR x (.ix n) c) e
    | none => .bad
  | none => .bad
def ixD (d : D) (i : Int) : Option R := match d with
  | .tup ds => (atI ds i).map .dat
  | .lst ds => (atI ds i).map .dat
  | .src ds => (atI ds i).map .dat
  | .str z => if z.length ≤ sizeLine then (atI z.cps.toList i).map fun c => .dat (.str ⟨#[c]⟩) else none
  | _ => none
def ixO (x y : R) (e : Env) : Out R := match snapR y e with
  | some (.int i) => match vw e x with
    | some (.dat d) => ofO (ixD d i) e
    | some (.lst cs) => chO x cs i e
    | some (.tup cs) => chO x cs i e
    | _ => .bad
  | _ => .bad
@[simp] theorem snapR_dat (d : D) (e : Env) : snapR (.dat d) e = some d := rfl
@[simp] theorem vw_dat (d : D) (e : Env) : vw e (.dat d) = some (.dat d) := rfl
def keysOf : List D → Option (List Key)
  | [] => some []
  | .int i :: ds => (keysOf ds).map (Sum.inl i :: ·)
  | .str s :: ds => (keysOf ds).map (Sum.inr s :: ·)
  | _ :: _ => none
def kdOf : D → Option Kd
  | .int i => some (.a (.inl i))
  | .str s => some (.a (.inr s))
  | .tup ds => (keysOf ds).map .t
  | _ => none
mutual
/-- nested keys -/
def nkOf : D → Option MN.NK
  | .non => some .none
  | .int i => some (.num i)
  | .str s => some (.text s)
  | .tup ds => (nkOfs ds).map .tup
  | _ => none
def nkOfs : List D → Option (List MN.NK)
  | [] => some []
  | d :: ds => match nkOf d, nkOfs ds with
    | some k, some ks => some (k :: ks)
    | _, _ => none
end
def nkT (d : D) : Option MN.NK := match d with
  | .tup ds => (nkOfs ds).bind fun ks => if (PySem.NestedKey.depthAll ks) ≤ 7 then some (.tup ks) else none
  | _ => none
def isNon : D → Bool | .non => true | _ => false
def kd0 : Kd := .a (.inl 0)
/-- what a dict, at the key y, has -/
def dgO (x y : R) (e : Env) : Option (Option C × Kd) := match snapR y e with
  | some d => match vw e x with
    | some (.dat (.dic t kvs)) => (match kdOf d with
      | some k => if k.isT = t then some ((kvs.lookup k).map .dat, k) else none
      | none => if (isNon d && !t) = true then some (none, kd0) else none)
    | some (.dic t kvs) => (match kdOf d with
      | some k => if k.isT = t then some (kvs.lookup k, k) else none
      | none => if (isNon d && !t) = true then some (none, kd0) else none)
    | some (.dat (.ndc kvs)) => (match nkT d with
      | some k => some ((kvs.lookup k).map .dat, kd0)
      | none => none)
    | some (.ndc kvs) => (match nkT d with
      | some k => some ((kvs.lookup k).map .dat, kd0)
      | none => none)
    | _ => none
  | none => none
def dixO (x y : R) (e : Env) : Out R := match dgO x y e with
  | some (some c, k) => ofO (stepR x (.key k) c) e
  | _ => .bad
def isDic : Option C → Bool
  | some (.dat (.dic _ _)) => true
  | some (.dic _ _) => true
  | some (.dat (.ndc _)) => true
  | some (.ndc _) => true
  | _ => false
def mTwo (g : Bool) (a b : ME) (k : R → R → Env → Out R) : ME := fun env => (a env).bind fun x e1 => grd (g || x.sh) ((b e1).bind fun y e2 => k x y e2)
def mIx (g : Bool) (a b : ME) : ME := mTwo g a b fun x y e => if isDic (vw e x) = true then dixO x y e else ixO x y e
def mIn (neg : Bool) (a b : ME) : ME := mTwo false a b fun y x e => match dgO x y e with
  | some (o, _) => .ok (.dat (.bl (if neg = true then !o.isSome else o.isSome))) e
  | none => .bad
def fldC (x : R) (f : Nat) : C → Option R
  | .dat (.ins c fs) => if fldOk c f = true then (fs.lookup f).map .dat else none
  | .obj c fs => if fldOk c f = true then (fs.lookup f).bind (stepR x (.fld f)) else none
  | _ => none
def fldO (f : Nat) (x : R) (e : Env) : Out R := match vw e x with
  | some c => ofO (fldC x f c) e
  | none => .bad
def mFld (f : Nat) (a : ME) : ME := fun env => (a env).bind (fldO f)
section
variable {pu pb : Bool} {env0 env env' env2 : Env} {σ σ' σ2 : L2.St} {H0 H H0' H' A0 A B B' : Hp} {F FA F' F2 : List Addr} {v : V} {r : R} {d : D} {Z : Addr → Prop}
theorem Stp.to (h : pu = true → pb = true) (S : Stp W pb env σ H0 H F env' H0' H' F') : Stp W pu env σ H0 H F env' H0' H' F' := ⟨S.ok, S.hg, S.fs, fun z => S.pu (h z)⟩
theorem rf_two {ta tb : TE} {ma mb : ME} {g : Bool} (ha : RfE W pu ta ma) (hb : RfE W pb tb mb) (h1 : pu = true → pb = true) (hg : g = true → pb = true) {k : R → R → Env → Out R} {P : R → Env → Prop} {px : PX} (p : Out.wp P px (mTwo g ma mb k env))
    (O : Ok W env σ H0 H F) (X : ErrOk W px env σ H0 H F) (Q : V → V → Hp → Prop)
    (q : ∀ v w x y env' H0' H' F', Out.wp P px (k x y env') → Stp W pu env σ H0 H F env' H0' H' F' → VAL W (Fre H F) env' σ H0' H' F' v x → VAL W (Fre H F) env' σ H0' H' F' w y → Q v w H') : ta σ H fun v H1 => tb σ H1 fun w H2 => Q v w H2 := by
  unfold mTwo at p
  rw [Out.wp_bind] at p
  refine ha env _ px p σ H0 H F O X _ fun v x env1 A0 A FA p1 S w => ?_
  obtain ⟨sh, p2⟩ := grd_wp p1
  rw [Out.wp_bind] at p2
  refine hb env1 _ px p2 σ A0 A FA S.ok (X.chg S.chg) _ fun v2 y env2 B0 B FB p3 S2 w2 => ?_
  have k2 : pb = true ∨ x.sh = true := by
    cases g with
    | true => exact .inl (hg rfl)
    | false => exact .inr (by simpa using sh)
  exact q v v2 x y env2 B0 B FB p3 (S.trans (S2.to h1)) (w.stp S2 k2) (w2.base fun l z => S.hg.fre z)
theorem DdAll.atI {T : Tb} {vs : List V} {ds : List D} {i : Int} {d : D} (h : DdAll T H vs ds) (e : L2.atI ds i = some d) : ∃ v, L2.atI vs i = some v ∧ Dd T H v d := by
  unfold L2.atI at e ⊢
  rw [h.len]
  cases z : ixN ds.length i with
  | none => rw [z] at e; cases e
  | some n =>
    rw [z] at e
    exact h.got (by simpa using e)
theorem stepR_wp {x res : R} {s : Pst} {c : C} (h : stepR x s c = some res) : (∃ d, c = .dat d ∧ res = .dat d) ∨ (c.own = true ∧ ∃ i p, x = .al i p ∧ res = .al i (p ++ [s])) := by
  cases c with
  | dat d => simp [stepR] at h; exact .inl ⟨d, rfl, h.symm⟩
  | non => cases h
  | _ =>
    cases x with
    | al i p => simp only [stepR] at h; injection h with h; exact .inr ⟨rfl, i, p, rfl, h.symm⟩
    | _ => cases h
theorem getC_snoc {c x y : C} {s : Pst} : ∀ {p : List Pst}, getC c p = some x → x.at s = some y → getC c (p ++ [s]) = some y := by
  intro p
  induction p generalizing c with
  | nil =>
    intro h k
    simp only [getC] at h
    injection h with h
    subst h
    simp only [List.nil_append, getC, k, Option.bind_some]
  | cons s' p ih =>
    intro h k
    simp only [getC, Option.bind_eq_some_iff] at h
    obtain ⟨z, h1, h2⟩ := h
    simp only [List.cons_append, getC, h1, Option.bind_some]
    exact ih h2 k
theorem getE_snoc {i : Nat} {p : List Pst} {x y : C} {s : Pst} (h : getE env i p = some x) (k : x.at s = some y) : getE env i (p ++ [s]) = some y := by
  simp only [getE, Option.bind_eq_some_iff] at h ⊢
  obtain ⟨c, h1, h2⟩ := h
  exact ⟨c, h1, getC_snoc h2 k⟩
theorem nav_snoc {T : Tb} {s : Pst} : ∀ {p : List Pst} {v u w : V}, Nav T H v p u → Nav1 T H u s w → Nav T H v (p ++ [s]) w
  | [], _, _, _, rfl, n => ⟨_, n, rfl⟩
  | _ :: _, _, _, _, ⟨u, h, g⟩, n => ⟨u, h, nav_snoc g n⟩
theorem val_al {i : Nat} {p : List Pst} {c : C} {v0 : V} (e : getE env i p = some c) (h : σ[i]? = some (some v0)) (n : Nav W.T H v0 p v) : VAL W Z env σ H0 H F v (.al i p) := by
  cases p with
  | nil => have n : v0 = v := n; subst n; exact h
  | cons s p => exact ⟨fun f z => (by rw [← z, e]; exact fun y => (by cases y)), v0, h, fun _ => n⟩
/-- a part of what stands there -/
theorem VAL.child {x res : R} {s : Pst} {c y : C} {v u : V} {F2 : List Addr} (O : Ok W env σ H0 H F) (e : M.vw env x = some c) (w : VAL W Z env σ H0 H F v x) (r : Rep W.T H0 H y u F2) (ey : c.at s = some y) (hr : stepR x s y = some res) (n : Nav1 W.T H v s u) : VAL W Z env σ H0 H F u res := by
  rcases stepR_wp hr with ⟨d, rfl, rfl⟩ | ⟨oy, i, p, rfl, rfl⟩
  · cases r with
    | dat r => exact r
  · obtain ⟨e1, e2⟩ := vw_al e
    obtain ⟨v0, h1, h2⟩ := w.nav e
    exact val_al (getE_snoc e1 ey) h1 (nav_snoc h2 n)
theorem Reps.at_ {T : Tb} {cs : List C} {vs : List V} {F : List Addr} {n : Nat} {c : C} (h : Reps T H0 H cs vs F) (e : cs[n]? = some c) : ∃ v F1, vs[n]? = some v ∧ Rep T H0 H c v F1 := by
  obtain ⟨v, F1, G, h1, h2, _⟩ := h.focus e
  exact ⟨v, F1, h1, h2⟩
theorem rf_ixS {K : PySem.W.Frag} (hK : W.T.K = K) {ta tb : TE} {ma mb : ME} {g : Bool} (ha : RfE W pu ta ma) (hb : RfE W pb tb mb) (h1 : pu = true → pb = true) (hg : g = true → pb = true) : RfE W pu (tOp (rIx K) ta tb) (mTwo g ma mb ixO) := fun env P px p σ H0 H F O X Q q => by
  subst hK
  refine rf_two ha hb h1 hg p O X (fun v w H2 => rIx W.T.K v w H2 Q) fun v w x y env' H0' H' F' p S w1 w2 => ?_
  unfold ixO at p
  split at p
  · rename_i i ey
    have vi := w2.snap S.ok ey
    have : w = .int i := by
      cases vi with
      | dd h => exact Dd.int_inv h
    subst this
    have fin : ∀ {cs : List C} {vs : List V} {s : Nat → Pst}, (∀ n c u F2, cs[n]? = some c → vs[n]? = some u → Rep W.T H0' H' c u F2 → ∀ res, stepR x (.ix n) c = some res → P res env' → Q u H') → (∃ F2, Reps W.T H0' H' cs vs F2) → Out.wp P px (chO x cs i env') → ∃ u, L2.atI vs i = some u ∧ Q u H' := fun {cs vs _} k r p => by
      obtain ⟨F2, r⟩ := r
      unfold chO at p
      split at p
      · rename_i n en
        split at p
        · rename_i c ec
          obtain ⟨u, F3, eu, ru⟩ := r.at_ ec
          cases z : stepR x (.ix n) c with
          | none => rw [z] at p; cases p
          | some res =>
            rw [z] at p
            refine ⟨u, ?_, k n c u F3 ec eu ru res z p⟩
            unfold L2.atI
            rw [← r.len, en]
            exact eu
        · cases p
      · cases p
    split at p
    · rename_i d ex
      obtain ⟨F1, r1⟩ := VAL.vw S.ok ex w1
      cases r1 with
      | dat r1 =>
        cases z : ixD d i with
        | none => rw [z] at p; cases p
        | some res =>
          rw [z] at p
          cases d with
          | tup ds =>
            simp only [ixD, Option.map_eq_some_iff] at z
            obtain ⟨d', z1, rfl⟩ := z
            cases r1 with
            | tup e1 e2 =>
              obtain ⟨u, u1, u2⟩ := e2.atI z1
              exact .inr (.inl ⟨_, _, i, u, rfl, rfl, SqT.of (S.ok.sm _ _ e1), u1, q u _ env' _ _ F' p S u2⟩)
          | lst ds =>
            simp only [ixD, Option.map_eq_some_iff] at z
            obtain ⟨d', z1, rfl⟩ := z
            cases r1 with
            | lst e1 e2 =>
              obtain ⟨u, u1, u2⟩ := e2.atI z1
              exact .inl ⟨_, _, i, u, rfl, rfl, SqL.of (S.ok.sm _ _ e1), u1, q u _ env' _ _ F' p S u2⟩
          | src ds =>
            simp only [ixD, Option.map_eq_some_iff] at z
            obtain ⟨d', z1, rfl⟩ := z
            cases r1 with
            | src e1 e2 =>
              obtain ⟨u, u1, u2⟩ := e2.atI z1
              exact .inl ⟨_, _, i, u, rfl, rfl, (Sm.of S.ok.sm).sqL e1, u1, q u _ env' _ _ F' p S u2⟩
          | str s =>
            simp only [ixD] at z
            split at z
            · rename_i hl
              simp only [Option.map_eq_some_iff] at z
              obtain ⟨c, z1, rfl⟩ := z
              cases r1 with
              | str => exact .inr (.inr ⟨_, i, c, rfl, rfl, hl, z1, q _ _ env' _ _ F' p S (.str _)⟩)
            · cases z
          | _ => cases z
    · rename_i cs ex
      obtain ⟨F1, r1⟩ := VAL.vw S.ok ex w1
      cases r1 with
      | @lst a vs _ G e1 e2 =>
        obtain ⟨u, u1, u2⟩ := fin (s := Pst.ix) (fun n c u F2 ec eu ru res zr pr => q u res env' _ _ F' pr S (w1.child S.ok ex ru ec zr ⟨a, vs, rfl, .inl e1, eu⟩)) ⟨_, e2⟩ p
        exact .inl ⟨_, _, i, u, rfl, rfl, SqL.of e1, u1, u2⟩
    · rename_i cs ex
      obtain ⟨F1, r1⟩ := VAL.vw S.ok ex w1
      cases r1 with
      | @tup a vs _ G e1 e2 =>
        obtain ⟨u, u1, u2⟩ := fin (s := Pst.ix) (fun n c u F2 ec eu ru res zr pr => q u res env' _ _ F' pr S (w1.child S.ok ex ru ec zr ⟨a, vs, rfl, .inr e1, eu⟩)) ⟨_, e2⟩ p
        exact .inr (.inl ⟨_, _, i, u, rfl, rfl, SqT.of e1, u1, u2⟩)
    · cases p
  · cases p
theorem keysOf_eq {T : Tb} : ∀ {ds : List D} {ks : List Key} {vs : List V}, keysOf ds = some ks → DdAll T H vs ds → vs = ks.map kV
  | [], ks, vs, e, h => by simp [keysOf] at e; subst e; cases h; rfl
  | .int i :: ds, ks, _, e, .cons h t => by
    simp only [keysOf, Option.map_eq_some_iff] at e
    obtain ⟨r, e1, rfl⟩ := e
    cases h
    rw [keysOf_eq e1 t]
    rfl
  | .str i :: ds, ks, _, e, .cons h t => by
    simp only [keysOf, Option.map_eq_some_iff] at e
    obtain ⟨r, e1, rfl⟩ := e
    cases h
    rw [keysOf_eq e1 t]
    rfl
  | .non :: _, _, _, e, _ => by cases e
  | .bl _ :: _, _, _, e, _ => by cases e
  | .tup _ :: _, _, _, e, _ => by cases e
  | .lst _ :: _, _, _, e, _ => by cases e
  | .src _ :: _, _, _, e, _ => by cases e
  | .dic _ _ :: _, _, _, e, _ => by cases e
  | .ndc _ :: _, _, _, e, _ => by cases e
  | .ins _ _ :: _, _, _, e, _ => by cases e
  | .ty _ :: _, _, _, e, _ => by cases e
  | .cls _ :: _, _, _, e, _ => by cases e
  | .fn _ :: _, _, _, e, _ => by cases e
/-- the key as a value -/
def KeyV (H : Hp) (y : V) : Kd → Prop
  | .a k => y = kV k
  | .t k => ∃ b, y = .ref b ∧ H b = some (.tup (k.map kV))
theorem kdOf_eq {T : Tb} {k : Kd} {y : V} (s : Same H0 H) (e : kdOf d = some k) (h : Dv T H0 H y d) : KeyV H y k := by
  cases d with
  | int i => simp [kdOf] at e; subst e; cases h with | dd h => cases h; rfl
  | str i => simp [kdOf] at e; subst e; cases h with | dd h => cases h; rfl
  | tup ds =>
    simp only [kdOf, Option.map_eq_some_iff] at e
    obtain ⟨ks, e1, rfl⟩ := e
    cases h with
    | dd h => cases h with | tup h1 h2 => rw [keysOf_eq e1 h2] at h1; exact ⟨_, rfl, s _ _ h1⟩
  | _ => cases e
theorem look_a {α : Type} {g : α → V → Prop} {ws : List (Key × V)} {kvs : List (Kd × α)} (m : kvs.map (·.1) = ws.map (fun w => Kd.a w.1)) (k : Key) : (kvs.lookup (.a k) = none → valV ws k = none) ∧ ∀ x, kvs.lookup (.a k) = some x → ∃ n : Nat, (kvs.map (·.2))[n]? = some x ∧ ∀ u, (ws.map (·.2))[n]? = some u → valV ws k = some u := by
  have m' : kvs.map (·.1) = (ws.map (·.1)).map Kd.a := by rw [m, List.map_map]; rfl
  refine ⟨fun z => ?_, fun x h => ?_⟩
  · rw [lookup_none, m'] at z
    exact valV_none fun y => z (List.mem_map_of_mem y)
  · obtain ⟨n, l1, l2, l3⟩ := lookup_ix h
    obtain ⟨z1, z2⟩ := ix_of_map kd_a m' l2 l3
    exact ⟨n, l1, fun u e => valV_of e z1 z2⟩
theorem look_t {α : Type} {g : α → V → Prop} {ws : List (List Key × V)} {kvs : List (Kd × α)} (m : kvs.map (·.1) = ws.map (fun w => Kd.t w.1)) (k : List Key) : (kvs.lookup (.t k) = none → valV ws k = none) ∧ ∀ x, kvs.lookup (.t k) = some x → ∃ n : Nat, (kvs.map (·.2))[n]? = some x ∧ ∀ u, (ws.map (·.2))[n]? = some u → valV ws k = some u := by
  have m' : kvs.map (·.1) = (ws.map (·.1)).map Kd.t := by rw [m, List.map_map]; rfl
  refine ⟨fun z => ?_, fun x h => ?_⟩
  · rw [lookup_none, m'] at z
    exact valV_none fun y => z (List.mem_map_of_mem y)
  · obtain ⟨n, l1, l2, l3⟩ := lookup_ix h
    obtain ⟨z1, z2⟩ := ix_of_map kd_t m' l2 l3
    exact ⟨n, l1, fun u e => valV_of e z1 z2⟩
theorem cr_dK {u : HO} {ws : List (Key × V)} (h : cr u = .dK ws) (s : Same H0 H) {a : Addr} (e : H0 a = some u) : Rd H a (.dK ws) := by
  unfold cr at h
  split at h
  · injection h with h; subst h; exact .inr ⟨_, s _ _ e⟩
  · cases h
  · cases h
  · subst h; exact .inl (s _ _ e)
theorem cr_dT {u : HO} {ws : List (List Key × V)} (h : cr u = .dT ws) (s : Same H0 H) {a : Addr} (e : H0 a = some u) : Rd H a (.dT ws) := by
  unfold cr at h
  split at h
  · cases h
  · injection h with h; subst h; exact .inr ⟨_, s _ _ e⟩
  · cases h
  · subst h; exact .inl (s _ _ e)
theorem cr_ndO {u : HO} {P : Program} {w : World} {l : Addr} {ws : List MN.NE} (h : cr u = MN.ndO P w l ws) (s : Same H0 H) {a : Addr} (e : H0 a = some u) : Rd H a (MN.ndO P w l ws) := by
  unfold cr at h
  split at h
  · cases h
  · cases h
  · rw [← h]; exact .inr ⟨_, s _ _ e⟩
  · subst h; exact .inl (s _ _ e)
mutual
theorem nkOf_nv {T : Tb} : ∀ {d : D} {k : MN.NK} {y : V}, nkOf d = some k → Dd T H y d → MN.NV H y k
  | .non, k, y, e, h => by simp [nkOf] at e; subst e; cases h; exact .non
  | .int i, k, y, e, h => by simp [nkOf] at e; subst e; cases h; exact .int _
  | .str i, k, y, e, h => by simp [nkOf] at e; subst e; cases h; exact .str _
  | .tup ds, k, y, e, h => by
    simp only [nkOf, Option.map_eq_some_iff] at e
    obtain ⟨ks, e1, rfl⟩ := e
    cases h with
    | tup h1 h2 => exact .tup h1 (nkOfs_nv e1 h2)
  | .bl _, k, y, e, h => by simp [nkOf] at e
  | .lst _, k, y, e, h => by simp [nkOf] at e
  | .src _, k, y, e, h => by simp [nkOf] at e
  | .dic _ _, k, y, e, h => by simp [nkOf] at e
  | .ndc _, k, y, e, h => by simp [nkOf] at e
  | .ins _ _, k, y, e, h => by simp [nkOf] at e
  | .ty _, k, y, e, h => by simp [nkOf] at e
  | .cls _, k, y, e, h => by simp [nkOf] at e
  | .fn _, k, y, e, h => by simp [nkOf] at e
theorem nkOfs_nv {T : Tb} : ∀ {ds : List D} {ks : List MN.NK} {ys : List V}, nkOfs ds = some ks → DdAll T H ys ds → MN.NVs H ys ks
  | [], ks, ys, e, h => by simp [nkOfs] at e; subst e; cases h; exact .nil
  | d :: ds, ks, ys, e, h => by
    simp only [nkOfs] at e
    split at e
    · rename_i k ks' e1 e2
      injection e with e
      subst e
      cases h with
      | cons h1 h2 => exact .cons (nkOf_nv e1 h1) (nkOfs_nv e2 h2)
    · cases e
end
theorem nkT_nv {T : Tb} {d : D} {k : MN.NK} {y : V} (s : Same H0 H) (e : nkT d = some k) (h : Dv T H0 H y d) : ∃ b, y = .ref b ∧ MN.NV H0 y k ∧ k.depth ≤ 8 := by
  unfold nkT at e
  split at e
  · rw [Option.bind_eq_some_iff] at e
    obtain ⟨ks, e1, e2⟩ := e
    split at e2
    · rename_i hd
      injection e2 with e2
      subst e2
      cases h with
      | dd h =>
        cases h with
        | tup h1 h2 => exact ⟨_, rfl, .tup h1 (nkOfs_nv e1 h2), by simp only [PySem.NestedKey.depth]; omega⟩
    · cases e2
  · cases e
theorem look_n {α : Type} {ws : List MN.NE} {kvs : List (MN.NK × α)} (m : kvs.map (·.1) = ws.map (·.1)) (k : MN.NK) : (kvs.lookup k = none → valV (MN.pvN ws) k = none) ∧ ∀ x, kvs.lookup k = some x → ∃ n : Nat, (kvs.map (·.2))[n]? = some x ∧ ∀ u, (ws.map (·.2.2))[n]? = some u → valV (MN.pvN ws) k = some u := by
  have m1 : (MN.pvN ws).map (·.1) = ws.map (·.1) := by unfold MN.pvN; rw [List.map_map]; rfl
  have m2 : (MN.pvN ws).map (·.2) = ws.map (·.2.2) := by unfold MN.pvN; rw [List.map_map]; rfl
  refine ⟨fun z => ?_, fun x h => ?_⟩
  · rw [lookup_none, m] at z
    exact valV_none fun y => z (by rw [m1] at y; exact y)
  · obtain ⟨n, l1, l2, l3⟩ := lookup_ix h
    exact ⟨n, l1, fun u e => valV_of (by rw [m2]; exact e) (by rw [m1, ← m]; exact l2) (by rw [m1, ← m]; exact l3)⟩
/-- what a dict has at a key -/
theorem dgO_wp {x y : R} {o : Option C} {k : Kd} {vy : V} (O : Ok W env σ H0 H F) (e : dgO x y env = some (o, k)) (wx : VAL W Z env σ H0 H F v x) (wy : VAL W Z env σ H0 H F vy y) : ∃ a ov, v = .ref a ∧ MN.DGm W.T.P W.T.w H a vy ov ∧ (o = none → ov = none) ∧ ∀ c, o = some c → ∃ u F1 cx, ov = some u ∧ Rep W.T H0 H c u F1 ∧ (c.own = true → M.vw env x = some cx ∧ cx.at (.key k) = some c ∧ Nav1 W.T H v (.key k) u) := by
  unfold dgO at e
  split at e
  · rename_i d ed
    have hy := wy.snap O ed
    split at e
    · rename_i t kvs ex
      obtain ⟨F1, r⟩ := VAL.vw O ex wx
      split at e
      · rename_i k' ek
        have kv := kdOf_eq O.sm ek hy
        split at e
        · rename_i ht
          injection e with e
          injection e with e1 e2
          subst e2
          cases r with
          | dat r =>
            cases r with
            | @dik a u ws _ h1 h2 h3 h4 =>
              cases k' with
              | t => simp [Kd.isT] at ht
              | a k =>
                obtain ⟨l1, l2⟩ := look_a (g := fun _ _ => True) h3 k
                refine ⟨a, valV ws k, rfl, .inl (.inl ⟨ws, k, cr_dK h2 O.sm h1, kv, rfl⟩), fun z => l1 ?_, fun c z => ?_⟩
                · rw [← e1, Option.map_eq_none_iff] at z; exact z
                · rw [← e1, Option.map_eq_some_iff] at z
                  obtain ⟨d', z, rfl⟩ := z
                  obtain ⟨n, n1, n2⟩ := l2 d' z
                  obtain ⟨u', m1, m2⟩ := h4.got n1
                  exact ⟨u', [], .non, n2 u' m1, .dat m2, fun z => by cases z⟩
            | @dit a u ws _ h1 h2 h3 h4 =>
              cases k' with
              | a => simp [Kd.isT] at ht
              | t k =>
                obtain ⟨b, b1, b2⟩ := kv
                obtain ⟨l1, l2⟩ := look_t (g := fun _ _ => True) h3 k
                refine ⟨a, valV ws k, rfl, .inl (.inr ⟨ws, k, b, cr_dT h2 O.sm h1, b1, b2, rfl⟩), fun z => l1 ?_, fun c z => ?_⟩
                · rw [← e1, Option.map_eq_none_iff] at z; exact z
                · rw [← e1, Option.map_eq_some_iff] at z
                  obtain ⟨d', z, rfl⟩ := z
                  obtain ⟨n, n1, n2⟩ := l2 d' z
                  obtain ⟨u', m1, m2⟩ := h4.got n1
                  exact ⟨u', [], .non, n2 u' m1, .dat m2, fun z => by cases z⟩
        · cases e
      · split at e
        · rename_i hz
          injection e with e
          injection e with e1 e2
          subst e1
          rw [Bool.and_eq_true] at hz
          obtain ⟨z1, z2⟩ := hz
          cases d <;> simp [isNon] at z1
          cases t <;> simp at z2
          cases r with
          | dat r =>
            cases r with
            | @dik a u ws _ h1 h2 h3 h4 => exact ⟨a, none, rfl, .inr (.inl ⟨ws, cr_dK h2 O.sm h1, by cases hy with | dd h => cases h; rfl, rfl⟩), fun _ => rfl, fun c z => by cases z⟩
        · cases e
    · rename_i t kvs ex
      obtain ⟨F1, r⟩ := VAL.vw O ex wx
      split at e
      · rename_i k' ek
        have kv := kdOf_eq O.sm ek hy
        split at e
        · rename_i ht
          injection e with e
          injection e with e1 e2
          subst e2
          cases r with
          | @dik a ws _ G h1 h3 _ h4 =>
            cases k' with
            | t => simp [Kd.isT] at ht
            | a k =>
              obtain ⟨l1, l2⟩ := look_a (g := fun _ _ => True) h3 k
              refine ⟨a, valV ws k, rfl, .inl (.inl ⟨ws, k, .inl h1, kv, rfl⟩), fun z => l1 (e1.trans z), fun c z => ?_⟩
              obtain ⟨n, n1, n2⟩ := l2 c (e1.trans z)
              obtain ⟨u', F2, m1, m2⟩ := h4.at_ n1
              exact ⟨u', F2, _, n2 u' m1, m2, fun _ => ⟨ex, e1.trans z, a, ws, rfl, h1, n2 u' m1⟩⟩
          | @dit a ws _ G h1 h3 _ h4 =>
            cases k' with
            | a => simp [Kd.isT] at ht
            | t k =>
              obtain ⟨b, b1, b2⟩ := kv
              obtain ⟨l1, l2⟩ := look_t (g := fun _ _ => True) h3 k
              refine ⟨a, valV ws k, rfl, .inl (.inr ⟨ws, k, b, .inl h1, b1, b2, rfl⟩), fun z => l1 (e1.trans z), fun c z => ?_⟩
              obtain ⟨n, n1, n2⟩ := l2 c (e1.trans z)
              obtain ⟨u', F2, m1, m2⟩ := h4.at_ n1
              exact ⟨u', F2, _, n2 u' m1, m2, fun _ => ⟨ex, e1.trans z, a, ws, rfl, h1, n2 u' m1⟩⟩
        · cases e
      · split at e
        · rename_i hz
          injection e with e
          injection e with e1 e2
          subst e1
          rw [Bool.and_eq_true] at hz
          obtain ⟨z1, z2⟩ := hz
          cases d <;> simp [isNon] at z1
          cases t <;> simp at z2
          cases r with
          | @dik a ws _ G h1 h3 _ h4 => exact ⟨a, none, rfl, .inr (.inl ⟨ws, .inl h1, by cases hy with | dd h => cases h; rfl, rfl⟩), fun _ => rfl, fun c z => by cases z⟩
        · cases e
    · rename_i kvs ex
      obtain ⟨F1, r⟩ := VAL.vw O ex wx
      split at e
      · rename_i k' ek
        injection e with e
        injection e with e1 e2
        obtain ⟨b, rfl, nv, hd⟩ := nkT_nv O.sm ek hy
        cases r with
        | dat r =>
          cases r with
          | @ndc a u ws _ h1 h2 h3 h4 h5 =>
            obtain ⟨l1, l2⟩ := look_n h4 k'
            have up : ∀ b ys, H0 b = some (.tup ys) → H b = some (.tup ys) := fun b ys q => O.sm _ _ q
            refine ⟨a, valV (MN.pvN ws) k', rfl, .inr (.inr ⟨ws, k', b, cr_ndO h2 O.sm h1, h3.mono up, rfl, nv.mono up, hd, rfl⟩), fun z => l1 ?_, fun c z => ?_⟩
            · rw [← e1, Option.map_eq_none_iff] at z; exact z
            · rw [← e1, Option.map_eq_some_iff] at z
              obtain ⟨d', z, rfl⟩ := z
              obtain ⟨n, n1, n2⟩ := l2 d' z
              obtain ⟨u', m1, m2⟩ := h5.got n1
              exact ⟨u', [], .non, n2 u' m1, .dat m2, fun z => by cases z⟩
      · cases e
    · rename_i kvs ex
      obtain ⟨F1, r⟩ := VAL.vw O ex wx
      split at e
      · rename_i k' ek
        injection e with e
        injection e with e1 e2
        obtain ⟨b, rfl, nv, hd⟩ := nkT_nv O.sm ek hy
        cases r with
        | @ndc a ws _ h1 h3 h4 _ h5 =>
          obtain ⟨l1, l2⟩ := look_n h4 k'
          have up : ∀ b ys, H0 b = some (.tup ys) → H b = some (.tup ys) := fun b ys q => O.sm _ _ q
          refine ⟨a, valV (MN.pvN ws) k', rfl, .inr (.inr ⟨ws, k', b, .inl h1, h3.mono up, rfl, nv.mono up, hd, rfl⟩), fun z => l1 ?_, fun c z => ?_⟩
          · rw [← e1, Option.map_eq_none_iff] at z; exact z
          · rw [← e1, Option.map_eq_some_iff] at z
            obtain ⟨d', z, rfl⟩ := z
            obtain ⟨n, n1, n2⟩ := l2 d' z
            obtain ⟨u', m1, m2⟩ := h5.got n1
            exact ⟨u', [], .non, n2 u' m1, .dat m2, fun z => by cases z⟩
      · cases e
    · cases e
  · cases e
theorem rf_dix {P : Program} {w : World} (hP : W.T.P = P) (hw : W.T.w = w) {ta tb : TE} {ma mb : ME} {g : Bool} (ha : RfE W pu ta ma) (hb : RfE W pb tb mb) (h1 : pu = true → pb = true) (hg : g = true → pb = true) : RfE W pu (MN.tNGet P w ta tb) (mTwo g ma mb dixO) := by
  subst hP hw
  intro env P px p σ H0 H F O X Q q
  refine rf_two ha hb h1 hg p O X (fun v w H2 => ∃ a u, v = .ref a ∧ MN.DGm W.T.P W.T.w H2 a w (some u) ∧ Q u H2) fun v w x y env' H0' H' F' p S w1 w2 => ?_
  unfold dixO at p
  split at p
  · rename_i c k e
    obtain ⟨a, ov, rfl, g1, _, g2⟩ := dgO_wp S.ok e w1 w2
    obtain ⟨u, F1, cx, rfl, r, n⟩ := g2 c rfl
    cases z : stepR x (.key k) c with
    | none => rw [z] at p; cases p
    | some res =>
      rw [z] at p
      refine ⟨a, u, rfl, g1, q u res env' _ _ F' p S ?_⟩
      rcases stepR_wp z with ⟨d, rfl, rfl⟩ | ⟨oy, _⟩
      · cases r with | dat r => exact r
      · obtain ⟨n1, n2, n3⟩ := n oy
        exact w1.child S.ok n1 r n2 z n3
  · cases p
theorem rf_orE {t1 t2 : TE} {m m1 m2 : ME} (h1 : RfE W pu t1 m1) (h2 : RfE W pu t2 m2) (h : ∀ env, m env = m1 env ∨ m env = m2 env) : RfE W pu (fun σ H Q => t1 σ H Q ∨ t2 σ H Q) m := fun env P px p σ H0 H F O X Q q => by
  rcases h env with e | e
  · rw [e] at p; exact .inl (h1 env P px p σ H0 H F O X Q q)
  · rw [e] at p; exact .inr (h2 env P px p σ H0 H F O X Q q)
theorem mTwo_or {g : Bool} {a b : ME} {k k1 k2 : R → R → Env → Out R} (h : ∀ x y e, k x y e = k1 x y e ∨ k x y e = k2 x y e) (env : Env) : mTwo g a b k env = mTwo g a b k1 env ∨ mTwo g a b k env = mTwo g a b k2 env := by
  unfold mTwo
  cases a env with
  | bad => exact .inl rfl
  | ex => exact .inl rfl
  | ok x e1 =>
    simp only [Out.bind_ok]
    cases (g || x.sh) with
    | false => exact .inl rfl
    | true =>
      simp only [grd_true]
      cases b e1 with
      | bad => exact .inl rfl
      | ex => exact .inl rfl
      | ok y e2 => exact h x y e2
theorem rf_ix {K : PySem.W.Frag} {P : Program} {w : World} (hK : W.T.K = K) (hP : W.T.P = P) (hw : W.T.w = w) {ta tb : TE} {ma mb : ME} {g : Bool} (ha : RfE W pu ta ma) (hb : RfE W pb tb mb) (h1 : pu = true → pb = true) (hg : g = true → pb = true) : RfE W pu (fun σ H Q => tOp (rIx K) ta tb σ H Q ∨ MN.tNGet P w ta tb σ H Q) (mIx g ma mb) :=
  rf_orE (rf_ixS hK ha hb h1 hg) (rf_dix hP hw ha hb h1 hg) fun env => mTwo_or (fun x y e => by
    by_cases h : isDic (vw e x) = true
    · exact .inr (if_pos h)
    · exact .inl (if_neg h)) env
theorem rf_dnotin {P : Program} {w : World} (hP : W.T.P = P) (hw : W.T.w = w) {ta tb : TE} {ma mb : ME} (ha : RfE W pu ta ma) (hb : RfE W pu tb mb) : RfE W pu (MN.tNNotIn P w ta tb) (mIn true ma mb) := by
  subst hP hw
  intro env P px p σ H0 H F O X Q q
  refine rf_two (g := false) ha hb id (fun z => by cases z) p O X (fun v w H2 => ∃ a o, w = .ref a ∧ MN.DGm W.T.P W.T.w H2 a v o ∧ Q (.bl (!o.isSome)) H2) fun v w x y env' H0' H' F' p S w1 w2 => ?_
  split at p
  · rename_i o k e
    obtain ⟨a, ov, rfl, g1, g3, g2⟩ := dgO_wp S.ok e w2 w1
    have : ov.isSome = o.isSome := by
      cases o with
      | none => rw [g3 rfl]; rfl
      | some c => obtain ⟨u, F1, cx, rfl, _⟩ := g2 c rfl; rfl
    refine ⟨a, ov, rfl, g1, ?_⟩
    rw [this]
    exact q _ _ env' _ _ F' p S (.bl _)
  · cases p
end
end M
set_option Elab.async false
set_option linter.all false
set_option maxRecDepth 100000
set_option maxHeartbeats 1000000
namespace M
open PySem PySem.Spec PyProof.Rows L2
variable {W : Wo}
inductive SO where
  | nx (e : Env) | rt (r : R) (e : Env) | bk (e : Env) | ct (e : Env) | ex (c : Nat) (fs : List (Nat × D)) (e : Env) | bad
abbrev MS := Env → SO
structure De where
  nx : Env → Prop
  rt : R → Env → Prop
  bk : Env → Prop := fun _ => False
  ct : Env → Prop := fun _ => False
namespace SO
def wp (d : De) (px : PX) : SO → Prop
  | nx e => d.nx e
  | rt r e => d.rt r e
  | bk e => d.bk e
  | ct e => d.ct e
  | ex c fs e => px c fs e
  | bad => False
@[simp] theorem wp_nx (d : De) (px : PX) (e : Env) : wp d px (nx e) = d.nx e := rfl
@[simp] theorem wp_rt (d : De) (px : PX) (r : R) (e : Env) : wp d px (rt r e) = d.rt r e := rfl
@[simp] theorem wp_bk (d : De) (px : PX) (e : Env) : wp d px (bk e) = d.bk e := rfl
@[simp] theorem wp_ct (d : De) (px : PX) (e : Env) : wp d px (ct e) = d.ct e := rfl
@[simp] theorem wp_ex (d : De) (px : PX) (c : Nat) (fs) (e : Env) : wp d px (ex c fs e) = px c fs e := rfl
@[simp] theorem wp_bad (d : De) (px : PX) : wp d px bad = False := rfl
theorem wp_imp {d d' : De} {px : PX} {o : SO} (h : wp d px o) (k1 : ∀ e, d.nx e → d'.nx e) (k2 : ∀ r e, d.rt r e → d'.rt r e) (k3 : ∀ e, d.bk e → d'.bk e) (k4 : ∀ e, d.ct e → d'.ct e) : wp d' px o := by
  cases o with
  | nx e => exact k1 _ h
  | rt r e => exact k2 _ _ h
  | bk e => exact k3 _ h
  | ct e => exact k4 _ h
  | ex => exact h
  | bad => exact h
end SO
def Out.bindS {α : Type} : Out α → (α → Env → SO) → SO
  | .ok a e, f => f a e
  | .ex c fs e, _ => .ex c fs e
  | .bad, _ => .bad
@[simp] theorem bindS_ok {α : Type} (a : α) (e : Env) (f : α → Env → SO) : Out.bindS (.ok a e) f = f a e := rfl
@[simp] theorem bindS_ex {α : Type} (c : Nat) (fs) (e : Env) (f : α → Env → SO) : Out.bindS (.ex c fs e) f = .ex c fs e := rfl
@[simp] theorem bindS_bad {α : Type} (f : α → Env → SO) : Out.bindS .bad f = .bad := rfl
theorem wp_bindS {α : Type} {o : Out α} {f : α → Env → SO} {d : De} {px : PX} : SO.wp d px (o.bindS f) = o.wp (fun a e => SO.wp d px (f a e)) px := by cases o <;> rfl
def SO.seq : SO → MS → SO
  | .nx e, b => b e
  | o, _ => o
@[simp] theorem seq_nx (e : Env) (b : MS) : SO.seq (.nx e) b = b e := rfl
@[simp] theorem seq_rt (r : R) (e : Env) (b : MS) : SO.seq (.rt r e) b = .rt r e := rfl
@[simp] theorem seq_bk (e : Env) (b : MS) : SO.seq (.bk e) b = .bk e := rfl
@[simp] theorem seq_ct (e : Env) (b : MS) : SO.seq (.ct e) b = .ct e := rfl
@[simp] theorem seq_ex (c : Nat) (fs) (e : Env) (b : MS) : SO.seq (.ex c fs e) b = .ex c fs e := rfl
@[simp] theorem seq_bad (b : MS) : SO.seq .bad b = .bad := rfl
theorem wp_seq {o : SO} {b : MS} {d : De} {px : PX} : SO.wp d px (o.seq b) = SO.wp { d with nx := fun e => SO.wp d px (b e) } px o := by cases o <;> rfl
def mNext : MS := .nx
def mBreak : MS := .bk
def mCont : MS := .ct
def mSeq (a b : MS) : MS := fun env => (a env).seq b
def mIf (t : MT) (a b : MS) : MS := fun env => (t env).bindS fun k e => if k = true then a e else b e
def mDrop (a : ME) : MS := fun env => (a env).bindS fun _ e => .nx e
def mRet (a : ME) : MS := fun env => (a env).bindS fun r e => .rt r e
def mRetN : MS := fun env => .rt (.dat .non) env
def putS (i : Nat) (r : R) (e : Env) : SO := if i < e.length then match r with
  | .dat d => .nx (e.set i (.dat d))
  | .own c => .nx (e.set i c)
  | .al _ _ => .bad else .bad
def mAsg (i : Nat) (a : ME) : MS := fun env => (a env).bindS (putS i)
abbrev MG := D → Env → Option Env
abbrev MGs := List D → Env → Option Env
def gNm (i : Nat) : MG := fun d e => if i < e.length then some (e.set i (.dat d)) else none
def gN : MGs := fun ds e => match ds with
  | [] => some e
  | _ => none
def gC (g : MG) (gs : MGs) : MGs := fun ds e => match ds with
  | d :: ds => (g d e).bind fun e1 => gs ds e1
  | [] => none
def gTp (n : Nat) (gs : MGs) : MG := fun d e => match d with
  | .tup ds => if ds.length = n then gs ds e else none
  | _ => none
def mAsgG (g : MG) (a : ME) : MS := fun env => (a env).bindS fun r e => match r with
  | .dat d => (match g d e with
    | some e1 => .nx e1
    | none => .bad)
  | _ => .bad
abbrev MI := Env → Out (List D)
def SO.turn (o : SO) (k : MS) : SO := match o with
  | .nx e => k e
  | .ct e => k e
  | .bk e => .nx e
  | o => o
@[simp] theorem turn_nx (e : Env) (k : MS) : SO.turn (.nx e) k = k e := rfl
@[simp] theorem turn_ct (e : Env) (k : MS) : SO.turn (.ct e) k = k e := rfl
@[simp] theorem turn_bk (e : Env) (k : MS) : SO.turn (.bk e) k = .nx e := rfl
@[simp] theorem turn_rt (r : R) (e : Env) (k : MS) : SO.turn (.rt r e) k = .rt r e := rfl
@[simp] theorem turn_ex (c : Nat) (fs) (e : Env) (k : MS) : SO.turn (.ex c fs e) k = .ex c fs e := rfl
@[simp] theorem turn_bad (k : MS) : SO.turn .bad k = .bad := rfl
theorem wp_turn {o : SO} {k : MS} {d : De} {px : PX} : SO.wp d px (o.turn k) = SO.wp { nx := fun e => SO.wp d px (k e), ct := fun e => SO.wp d px (k e), bk := d.nx, rt := d.rt } px o := by cases o <;> rfl
def forGo (g : MG) (b : MS) : List D → Env → SO
  | [], e => .nx e
  | x :: xs, e => match g x e with
    | some e1 => (b e1).turn (forGo g b xs)
    | none => .bad
def mFor (mi : MI) (g : MG) (b : MS) : MS := fun env => (mi env).bindS fun xs e => forGo g b xs e
def whGo (t : MT) (b : MS) : Nat → Env → SO
  | 0, _ => .bad
  | n + 1, e => (t e).bindS fun k e1 => if k = true then (b e1).turn (whGo t b n) else .nx e1
def FUEL : Nat := 1000000000
def mWhile (t : MT) (b : MS) : MS := fun env => whGo t b FUEL env
def wipeE : Env → List Nat → Env
  | e, [] => e
  | e, v :: vs => (wipeE e vs).set v .non
/-- the cells of the slots vs as they were -/
def backE (e0 : Env) : Env → List Nat → Env
  | e, [] => e
  | e, v :: vs => match e0[v]? with
    | some c => (backE e0 e vs).set v c
    | none => backE e0 e vs
def chR : R → Option C
  | .dat d => some (.dat d)
  | .own c => some c
  | .al _ _ => none
def lcGo (g : MG) (ifs : MT) (el : ME) (vs : List Nat) : List D → Env → Out (List C)
  | [], e => .ok [] e
  | x :: xs, e => match g x e with
    | some e1 => (ifs e1).bind fun b e2 => if b = true then (el e2).bind fun r e3 => (match chR r with
        | some c => (lcGo g ifs el vs xs (wipeE e3 vs)).bind fun cs e4 => .ok (c :: cs) e4
        | none => .bad)
      else lcGo g ifs el vs xs (wipeE e2 vs)
    | none => .bad
def noOwn (e : Env) (vs : List Nat) : Bool := vs.all fun v => match e[v]? with
  | some c => !c.own
  | none => false
def noEx {α : Type} (o : Out α) : Out α := match o with
  | .ex _ _ _ => .bad
  | o => o
@[simp] theorem noEx_ok {α : Type} (a : α) (e : Env) : noEx (.ok a e) = .ok a e := rfl
def mLc (mi : MI) (g : MG) (ifs : MT) (el : ME) (vs : List Nat) : ME := fun env => (mi env).bind fun xs e0 => if (decide (xs.length ≤ LIM) && noOwn e0 vs) = true then
    (noEx (lcGo g ifs el vs xs (wipeE e0 vs))).bind fun cs e => .ok (.own (.lst cs)) (backE e0 e vs) else .bad
structure EndsOk (W : Wo) (d : De) (D : Ends) (env : Env) (σ : L2.St) (H0 H : Hp) (F : List Addr) : Prop where
  nx : ∀ env' σ' H0' H' F', d.nx env' → Chg W env σ H0 H F env' σ' H0' H' F' → D.nx σ' H'
  rt : ∀ v r env' σ' H0' H' F', d.rt r env' → Chg W env σ H0 H F env' σ' H0' H' F' → VAL W (Fre H F) env' σ' H0' H' F' v r → D.rt v H'
  bk : ∀ env' σ' H0' H' F', d.bk env' → Chg W env σ H0 H F env' σ' H0' H' F' → D.bk σ' H'
  ct : ∀ env' σ' H0' H' F', d.ct env' → Chg W env σ H0 H F env' σ' H0' H' F' → D.ct σ' H'
def wpS (W : Wo) (t : TS) (env : Env) (d : De) (px : PX) : Prop := ∀ (σ : L2.St) (H0 H : Hp) (F : List Addr), Ok W env σ H0 H F → ErrOk W px env σ H0 H F → ∀ D : Ends, EndsOk W d D env σ H0 H F → t D σ H
def RfS (W : Wo) (t : TS) (m : MS) : Prop := ∀ env d px, SO.wp d px (m env) → wpS W t env d px
/-- a target: only the slots vs change, and only to data -/
structure TgOk (W : Wo) (vs : List Nat) (env : Env) (σ : L2.St) (H0 H : Hp) (F : List Addr) (env' : Env) (σ' : L2.St) (F' : List Addr) : Prop where
  ok : Ok W env' σ' H0 H F'
  sub : ∀ a ∈ F', a ∈ F
  off : ∀ i, i ∉ vs → env'[i]? = env[i]? ∧ σ'[i]? = σ[i]?
  ln : σ'.length = σ.length
def RfG (W : Wo) (vs : List Nat) (g : TG) (m : MG) : Prop := ∀ d env env', m d env = some env' → ∀ (σ : L2.St) (H0 H : Hp) (F : List Addr) (v : V), Ok W env σ H0 H F → Dd W.T H0 v d → ∀ Q : L2.St → Hp → Prop, (∀ σ' F', TgOk W vs env σ H0 H F env' σ' F' → Q σ' H) → g v σ H Q
/-- what a for walks: data -/
structure Yld (T : Tb) (J : It) (xs : List D) (H0 : Hp) : Prop where
  stop : ∀ H0' H', Sm H0 H0' → Same H0' H' → J.stop xs.length H'
  go : ∀ k H0' H', Sm H0 H0' → Same H0' H' → k < xs.length → J.go k H'
  yld : ∀ k v H0' H' H2, Sm H0 H0' → Same H0' H' → k < xs.length → J.yld k H' v H2 → ∃ d, xs[k]? = some d ∧ ((H2 = H' ∧ Dd T H0' v d) ∨ ∃ p ys ds, v = .ref p ∧ H' p = none ∧ H2 = upd H' p (.tup ys) ∧ d = .tup ds ∧ DdAll T H0' ys ds)
def RfI (W : Wo) (pu : Bool) (wi : TI) (m : MI) : Prop := ∀ env P px, Out.wp P px (m env) → ∀ (σ : L2.St) (H0 H : Hp) (F : List Addr), Ok W env σ H0 H F → ErrOk W px env σ H0 H F → ∀ R : It → Hp → Prop,
  (∀ J xs env' H0' H' F', P xs env' → Stp W pu env σ H0 H F env' H0' H' F' → Yld W.T J xs H0' → R J H') → wi σ H R
section
variable {pu pb : Bool} {env0 env env' env2 : Env} {σ σ' σ2 : L2.St} {H0 H H0' H' A0 A B B' : Hp} {F FA F' F2 : List Addr} {v : V} {r : R} {d : D} {Z : Addr → Prop}
theorem Chg.back (a : Chg W env σ H0 H F env' σ' H0' H' F') {l : Addr} (h : H' l = none) : H l = none := a.hg.back h
theorem EndsOk.chg {d : De} {D : Ends} (h : EndsOk W d D env σ H0 H F) (g : Chg W env σ H0 H F env' σ' H0' H' F') : EndsOk W d D env' σ' H0' H' F' where
  nx env2 σ2 A0 A F2 p c := h.nx env2 σ2 A0 A F2 p (g.trans c)
  rt v r env2 σ2 A0 A F2 p c w := h.rt v r env2 σ2 A0 A F2 p (g.trans c) (w.base fun l z => g.hg.fre z)
  bk env2 σ2 A0 A F2 p c := h.bk env2 σ2 A0 A F2 p (g.trans c)
  ct env2 σ2 A0 A F2 p c := h.ct env2 σ2 A0 A F2 p (g.trans c)
theorem rs_next : RfS W tNext mNext := fun env d px p σ H0 H F O X D e => e.nx env σ H0 H F p (.refl O)
theorem rs_brk : RfS W tBreak mBreak := fun env d px p σ H0 H F O X D e => e.bk env σ H0 H F p (.refl O)
theorem rs_seq {t u : TS} {m n : MS} (h : RfS W t m) (k : RfS W u n) : RfS W (tSeq t u) (mSeq m n) := fun env d px p σ H0 H F O X D e => by
  unfold mSeq at p
  rw [wp_seq] at p
  exact h env _ px p σ H0 H F O X _ ⟨fun env' σ' H0' H' F' q c => k env' d px q σ' H0' H' F' c.ok (X.chg c) D (e.chg c), e.rt, e.bk, e.ct⟩
theorem rs_if {c : TT} {t u : TS} {mc : MT} {m n : MS} (hc : RfT W false c mc) (h : RfS W t m) (k : RfS W u n) : RfS W (tIfS c t u) (mIf mc m n) := fun env d px p σ H0 H F O X D e => by
  unfold mIf at p
  rw [wp_bindS] at p
  refine hc env _ px p σ H0 H F O X _ fun b env1 A0 A FA p1 S => ?_
  cases b with
  | true => exact h env1 d px p1 σ A0 A FA S.ok (X.chg S.chg) D (e.chg S.chg)
  | false => exact k env1 d px p1 σ A0 A FA S.ok (X.chg S.chg) D (e.chg S.chg)
theorem rs_drop {t : TE} {m : ME} (h : RfE W false t m) : RfS W (tDrop t) (mDrop m) := fun env d px p σ H0 H F O X D e => by
  unfold mDrop at p
  rw [wp_bindS] at p
  exact h env _ px p σ H0 H F O X _ fun v r env1 A0 A FA p1 S w => e.nx env1 σ A0 A FA p1 S.chg
theorem rs_ret {t : TE} {m : ME} (h : RfE W false t m) : RfS W (tRet t) (mRet m) := fun env d px p σ H0 H F O X D e => by
  unfold mRet at p
  rw [wp_bindS] at p
  exact h env _ px p σ H0 H F O X _ fun v r env1 A0 A FA p1 S w => e.rt v r env1 σ A0 A FA p1 S.chg w
/-- a slot gets a value -/
theorem Ok.put (S : Chg W env0 σ A0 A FA env σ' H0 H F) {i : Nat} {c : C} {Fc : List Addr} (hi : i < env.length) (hx : W.fx i = false) (hc : Rep W.T H0 H c v Fc) (n : Fc.Nodup) (hF : ∀ a ∈ Fc, H0 a = none ∧ a ∉ F ∧ Fre A FA a) : ∃ F', Chg W env0 σ A0 A FA (env.set i c) (σ'.set i (some v)) H0 H F' ∧ ∀ a ∈ F', a ∈ Fc ∨ a ∈ F := by
  have O := S.ok
  obtain ⟨F', sl, pm⟩ : ∃ F', Slots W.T H0 H (env.set i c) (σ'.set i (some v)) F' ∧ ∃ G, F'.Perm (Fc ++ G) ∧ G.Nodup ∧ ∀ a ∈ G, a ∈ F := by
    by_cases h : env[i]? = some .non
    · obtain ⟨F', q1, q2⟩ := (O.sl.fill (Sm.refl H0) (fun _ _ => rfl) h).2 hc
      exact ⟨F', q1, F, q2, O.nd, fun _ z => z⟩
    · obtain ⟨c0, e0⟩ : ∃ c0, env[i]? = some c0 := ⟨_, List.getElem?_eq_getElem hi⟩
      obtain ⟨v0, F1, G, e1, e2, e3, e4, _⟩ := O.sl.focus e0 fun z => h (by rw [← z]; exact e0)
      obtain ⟨F', q1, q2⟩ := e4 (Sm.refl H0) (fun _ _ => rfl) hc
      exact ⟨F', q1, G, q2, (List.nodup_append.mp (Nodup.of_perm e3 O.nd)).2.1, fun a z => e3.mem_iff.mpr (List.mem_append_right _ z)⟩
  obtain ⟨G, p1, p2, p3⟩ := pm
  have inF : ∀ a ∈ F', a ∈ Fc ∨ a ∈ F := fun a ha => (List.mem_append.mp (p1.mem_iff.mp ha)).imp id (p3 a)
  have off : ∀ j, W.fx j = true → j ≠ i := fun j z y => by rw [y, hx] at z; cases z
  refine ⟨F', ⟨⟨sl, ?_, fun a ha => (inF a ha).elim (fun z => (hF a z).1) (O.h0 a), O.sm, fun cc e => ?_⟩, ⟨S.hg.k0, S.hg.keep, S.hg.al, fun a ha => (inF a ha).elim (fun z => (hF a z).2.2.symm) (S.hg.ow a)⟩, fun j z => ?_, ⟨fun j f z k => ?_, fun j f z k o => ?_⟩, by rw [List.length_set]; exact S.ln⟩, inF⟩
  · exact Nodup.of_perm p1.symm (List.nodup_append.mpr ⟨n, p2, fun a ha b hb z => (hF a ha).2.1 (p3 a (by rw [z]; exact hb))⟩)
  · obtain ⟨z1, z2⟩ := O.cu cc e
    refine ⟨?_, z2⟩
    rw [List.getElem?_set_ne (off _ (W.cfx cc e)).symm]
    exact z1
  · rw [List.getElem?_set_ne (off j z).symm]
    exact S.fx j z
  · have := S.fs.pr j f z k
    rw [getE_fld] at this ⊢
    rw [List.getElem?_set_ne (off j z).symm]
    exact this
  · refine S.fs.st j f z k ?_
    obtain ⟨x, x1, x2⟩ := o
    refine ⟨x, ?_, x2⟩
    rw [getE_fld] at x1 ⊢
    rw [List.getElem?_set_ne (off j z).symm] at x1
    exact x1
theorem rs_asg {i : Nat} {t : TE} {m : ME} (hx : W.fx i = false) (h : RfE W false t m) : RfS W (tAsg t (gName i)) (mAsg i m) := fun env d px p σ H0 H F O X D e => by
  unfold mAsg at p
  rw [wp_bindS] at p
  refine h env _ px p σ H0 H F O X _ fun v r env1 A0 A FA p1 S w => ?_
  show D.nx (σ.set i (some v)) A
  unfold putS at p1
  split at p1
  · rename_i hi
    cases r with
    | dat d' =>
      obtain ⟨F', c, _⟩ := Ok.put S.chg hi hx (Rep.dat w) .nil fun a ha => by cases ha
      exact e.nx _ _ _ _ _ p1 c
    | own c =>
      obtain ⟨_, Fc, h1, h2, h3⟩ := w
      obtain ⟨F', c, _⟩ := Ok.put S.chg hi hx h1 h2 h3
      exact e.nx _ _ _ _ _ p1 c
    | al => cases p1
  · cases p1
theorem TgOk.trans {vs : List Nat} (a : TgOk W vs env σ H0 H F env' σ' F') (b : TgOk W vs env' σ' H0 H F' env2 σ2 F2) : TgOk W vs env σ H0 H F env2 σ2 F2 :=
  ⟨b.ok, fun x hx => a.sub x (b.sub x hx), fun i hi => ⟨(b.off i hi).1.trans (a.off i hi).1, (b.off i hi).2.trans (a.off i hi).2⟩, b.ln.trans a.ln⟩
theorem TgOk.chg {vs : List Nat} (hv : ∀ i ∈ vs, W.fx i = false) (a : TgOk W vs env σ H0 H F env' σ' F') : Chg W env σ H0 H F env' σ' H0 H F' := by
  have off : ∀ i, W.fx i = true → i ∉ vs := fun i z y => by rw [hv i y] at z; cases z
  refine ⟨a.ok, ⟨.refl _, fun x n al h0 => ⟨rfl, h0⟩, fun _ z => z, fun x hx => .inl (a.sub x hx)⟩, fun i z => (a.off i (off i z)).2, ⟨fun i f z k => ?_, fun i f z k o => ?_⟩, a.ln⟩
  · rw [getE_fld] at k ⊢
    rw [(a.off i (off i z)).1]
    exact k
  · refine ⟨?_, fun _ _ _ q => q⟩
    obtain ⟨x, x1, x2⟩ := o
    refine ⟨x, ?_, x2⟩
    rw [getE_fld] at x1 ⊢
    rw [(a.off i (off i z)).1] at x1
    exact x1
theorem rg_name {vs : List Nat} {i : Nat} (hi : i ∈ vs) (hx : W.fx i = false) : RfG W vs (gName i) (gNm i) := fun d env env' e σ H0 H F v O dd Q q => by
  unfold gNm at e
  split at e
  · rename_i hl
    injection e with e
    subst e
    obtain ⟨F', c, i1⟩ := Ok.put (Chg.refl O) hl hx (Rep.dat dd) .nil fun a ha => by cases ha
    refine q _ F' ⟨c.ok, fun a ha => (i1 a ha).elim (fun z => by cases z) id, fun j hj => ?_, by rw [List.length_set]⟩
    have : j ≠ i := fun z => hj (by rw [z]; exact hi)
    exact ⟨List.getElem?_set_ne this.symm, List.getElem?_set_ne this.symm⟩
  · cases e
theorem Chg.gr (S : Chg W env0 σ A0 A FA env σ' H0 H F) (g : Gr H0 H H0' H') : Chg W env0 σ A0 A FA env σ' H0' H' F :=
  S.trans ((Stp.refl (pu := false) S.ok).gr g).chg
theorem rs_for {vs : List Nat} {wi : TI} {mi : MI} {g : TG} {mg : MG} {t : TS} {m : MS} (hv : ∀ i ∈ vs, W.fx i = false) (hi : RfI W false wi mi) (hg : RfG W vs g mg) (h : RfS W t m) : RfS W (tFor wi g t) (mFor mi mg m) := fun env d px p σ H0 H F O X D e => by
  unfold mFor at p
  rw [wp_bindS] at p
  refine hi env _ px p σ H0 H F O X _ fun J xs env1 A0 A FA p1 S Y => ?_
  refine ⟨fun i k σ' H' => ∃ env' H0' F', SO.wp d px (forGo mg m (xs.drop i) env') ∧ Chg W env1 σ A0 A FA env' σ' H0' H' F' ∧ i ≤ xs.length ∧ k = xs.length - i, ⟨_, env1, A0, FA, p1, .refl S.ok, Nat.zero_le _, rfl⟩, ?_⟩
  rintro i k σ' H' ⟨env', H0', F', w, G, hi, rfl⟩
  by_cases hl : i < xs.length
  · refine .inr ⟨Y.go i H0' H' G.hg.k0 G.ok.sm hl, fun σ2 H2 => ∃ env' H0' F', SO.wp d px (forGo mg m (xs.drop (i + 1)) env') ∧ Chg W env1 σ A0 A FA env' σ2 H0' H2 F', fun σ2 H2 ⟨env2, B0, F2, w2, G2⟩ => ⟨_, by omega, env2, B0, F2, w2, G2, by omega, rfl⟩, fun x H2 y => ?_⟩
    obtain ⟨dx, ex, hx⟩ := Y.yld i x H0' H' H2 G.hg.k0 G.ok.sm hl y
    obtain ⟨e1, e2⟩ := List.getElem?_eq_some_iff.mp ex
    rw [List.drop_eq_getElem_cons e1, e2] at w
    simp only [forGo] at w
    cases ge : mg dx env' with
    | none => rw [ge] at w; cases w
    | some env2 =>
      rw [ge] at w
      simp only [wp_turn] at w
      obtain ⟨B0, G2, dd⟩ : ∃ B0, Chg W env1 σ A0 A FA env' σ' B0 H2 F' ∧ Dd W.T B0 x dx := by
        rcases hx with ⟨rfl, hx⟩ | ⟨p, ys, ds, rfl, hp, rfl, rfl, hy⟩
        · exact ⟨H0', G, hx⟩
        · exact ⟨_, G.gr (Gr.data G.ok.sm hp _), .tup upd_same (hy.mono (Gr.data G.ok.sm hp _).s0)⟩
      refine hg dx env' env2 ge σ' B0 H2 F' x G2.ok dd _ fun σ2 F2 tg => ?_
      have G3 := G2.trans (tg.chg hv)
      refine h env2 _ px w σ2 B0 H2 F2 tg.ok (X.chg (S.chg.trans G3)) _ ⟨fun env3 σ3 C0 C FC w3 c3 => ⟨env3, C0, FC, w3, G3.trans c3⟩, fun u r env3 σ3 C0 C FC w3 c3 vv => ?_, fun env3 σ3 C0 C FC w3 c3 => ?_, fun env3 σ3 C0 C FC w3 c3 => ⟨env3, C0, FC, w3, G3.trans c3⟩⟩
      · exact e.rt u r env3 σ3 C0 C FC w3 (S.chg.trans (G3.trans c3)) (vv.base fun l z => S.hg.fre (G3.hg.fre z))
      · exact e.nx env3 σ3 C0 C FC w3 (S.chg.trans (G3.trans c3))
  · have : i = xs.length := by omega
    subst this
    rw [List.drop_length] at w
    exact .inl ⟨Y.stop H0' H' G.hg.k0 G.ok.sm, e.nx env' σ' H0' H' F' w (S.chg.trans G)⟩
theorem rs_while {c : TT} {mc : MT} {t : TS} {m : MS} (hc : RfT W false c mc) (h : RfS W t m) : RfS W (tWhile c t) (mWhile mc m) := fun env d px p σ H0 H F O X D e => by
  refine ⟨fun k σ' H' => ∃ env' H0' F', SO.wp d px (whGo mc m k env') ∧ Chg W env σ H0 H F env' σ' H0' H' F', ⟨FUEL, env, H0, F, p, .refl O⟩, ?_⟩
  rintro k σ' H' ⟨env', H0', F', w, G⟩
  cases k with
  | zero => cases w
  | succ k =>
    simp only [whGo, wp_bindS] at w
    refine hc env' _ px w σ' H0' H' F' G.ok (X.chg G) _ fun b env1 A0 A FA p1 S => ?_
    have GG := G.trans S.chg
    cases b with
    | false => exact e.nx env1 σ' A0 A FA p1 GG
    | true =>
      simp only [if_pos, wp_turn] at p1
      show ∃ N : L2.St → Hp → Prop, _
      refine ⟨fun σ2 H2 => ∃ env2 B0 F2, SO.wp d px (whGo mc m k env2) ∧ Chg W env σ H0 H F env2 σ2 B0 H2 F2, fun σ2 H2 ⟨env2, B0, F2, q1, q2⟩ => ⟨k, Nat.lt_succ_self _, env2, B0, F2, q1, q2⟩, h env1 _ px p1 σ' A0 A FA S.ok (X.chg GG) _ ⟨fun env3 σ3 C0 C FC w3 c3 => ⟨env3, C0, FC, w3, GG.trans c3⟩, fun u r env3 σ3 C0 C FC w3 c3 vv => e.rt u r env3 σ3 C0 C FC w3 (GG.trans c3) (vv.base fun l z => GG.hg.fre z), fun env3 σ3 C0 C FC w3 c3 => e.nx env3 σ3 C0 C FC w3 (GG.trans c3), fun env3 σ3 C0 C FC w3 c3 => ⟨env3, C0, FC, w3, GG.trans c3⟩⟩⟩
end
end M
set_option Elab.async false
set_option linter.all false
set_option maxRecDepth 100000
set_option maxHeartbeats 1000000
namespace M
open PySem PySem.Spec PyProof.Rows L2
variable {W : Wo}
def Wo.inn (W : Wo) : Wo := { W with E := fun _ => E0 }
section
variable {pu pb : Bool} {env0 env env' env2 : Env} {σ σ' σ2 : L2.St} {H0 H H0' H' A0 A B B' : Hp} {F FA F' F2 : List Addr} {v : V} {r : R} {d : D} {Z : Addr → Prop}
theorem Ok.inn (O : Ok W env σ H0 H F) : Ok W.inn env σ H0 H F := ⟨O.sl, O.nd, O.h0, O.sm, O.cu⟩
theorem Ok.out (O : Ok W.inn env σ H0 H F) : Ok W env σ H0 H F := ⟨O.sl, O.nd, O.h0, O.sm, O.cu⟩
theorem wipe_at {σ : L2.St} {i : Nat} : ∀ {vs : List Nat}, (wipe σ vs)[i]? = if i ∈ vs then (σ[i]?).map (fun _ => none) else σ[i]?
  | [] => by simp [wipe]
  | v :: vs => by
    simp only [wipe]
    by_cases h : i = v
    · subst h
      by_cases l : i < σ.length
      · rw [List.getElem?_set_self (by rw [wipe_length]; exact l), if_pos (List.mem_cons_self ..), List.getElem?_eq_getElem l]; rfl
      · have e : σ[i]? = none := List.getElem?_eq_none (by omega)
        rw [List.getElem?_eq_none (by rw [List.length_set, wipe_length]; omega), e]
        simp
    · rw [List.getElem?_set_ne (Ne.symm h), wipe_at (vs := vs)]
      simp [h]
theorem wipe_eq {σ σ2 : L2.St} {vs : List Nat} (h : ∀ i, i ∉ vs → σ2[i]? = σ[i]?) (l : σ2.length = σ.length) : wipe σ2 vs = wipe σ vs := by
  apply List.ext_getElem?
  intro i
  rw [wipe_at, wipe_at]
  by_cases k : i ∈ vs
  · rw [if_pos k, if_pos k]
    by_cases hi : i < σ.length
    · rw [List.getElem?_eq_getElem hi, List.getElem?_eq_getElem (by omega)]; rfl
    · rw [List.getElem?_eq_none (by omega), List.getElem?_eq_none (by omega)]
  · rw [if_neg k, if_neg k, h i k]
theorem wipe_wipe {σ : L2.St} {vs : List Nat} : wipe (wipe σ vs) vs = wipe σ vs :=
  wipe_eq (fun i hi => by rw [wipe_at, if_neg hi]) (wipe_length ..)
theorem wipeE_len : ∀ {vs : List Nat} {e : Env}, (wipeE e vs).length = e.length
  | [], _ => rfl
  | v :: vs, e => by simp only [wipeE, List.length_set, wipeE_len]
theorem wipeE_at {e : Env} {i : Nat} : ∀ {vs : List Nat}, (wipeE e vs)[i]? = if i ∈ vs then (e[i]?).map (fun _ => C.non) else e[i]?
  | [] => by simp [wipeE]
  | v :: vs => by
    simp only [wipeE]
    by_cases h : i = v
    · subst h
      by_cases l : i < e.length
      · rw [List.getElem?_set_self (by rw [wipeE_len]; exact l), if_pos (List.mem_cons_self ..), List.getElem?_eq_getElem l]; rfl
      · have q : e[i]? = none := List.getElem?_eq_none (by omega)
        rw [List.getElem?_eq_none (by rw [List.length_set, wipeE_len]; omega), q]
        simp
    · rw [List.getElem?_set_ne (Ne.symm h), wipeE_at (vs := vs)]
      simp [h]
/-- a slot gets nothing, or data -/
theorem Slots.set1 {T : Tb} (s : Slots T H0 H env σ F) (nd : F.Nodup) {i : Nat} (hi : i < env.length) {c : C} {x : Option V} (hc : c = .non ∨ ∃ d u, c = .dat d ∧ x = some u ∧ Dd T H0 u d) : ∃ F', Slots T H0 H (env.set i c) (σ.set i x) F' ∧ F'.Nodup ∧ ∀ a ∈ F', a ∈ F := by
  by_cases h : env[i]? = some .non
  · obtain ⟨f1, f2⟩ := s.fill (Sm.refl H0) (fun _ _ => rfl) h
    rcases hc with rfl | ⟨d, u, rfl, rfl, dd⟩
    · obtain ⟨F', q1, q2⟩ := f1 x
      rw [set_self h]
      exact ⟨F', q1, Nodup.of_perm q2.symm nd, fun a ha => q2.mem_iff.mp ha⟩
    · obtain ⟨F', q1, q2⟩ := f2 (Rep.dat (H := H) dd)
      have q2 : F'.Perm F := q2
      exact ⟨F', q1, Nodup.of_perm q2.symm nd, fun a ha => q2.mem_iff.mp ha⟩
  · obtain ⟨c0, e0⟩ : ∃ c0, env[i]? = some c0 := ⟨_, List.getElem?_eq_getElem hi⟩
    obtain ⟨v0, F1, G, e1, e2, e3, e4, e5, _⟩ := s.focus e0 fun z => h (by rw [← z]; exact e0)
    have ng := (List.nodup_append.mp (Nodup.of_perm e3 nd)).2.1
    have inG : ∀ a ∈ G, a ∈ F := fun a ha => e3.mem_iff.mpr (List.mem_append_right _ ha)
    rcases hc with rfl | ⟨d, u, rfl, rfl, dd⟩
    · obtain ⟨F', q1, q2⟩ := e5 (H' := H) x (Sm.refl H0) (fun _ _ => rfl)
      exact ⟨F', q1, Nodup.of_perm q2.symm ng, fun a ha => inG a (q2.mem_iff.mp ha)⟩
    · obtain ⟨F', q1, q2⟩ := e4 (Sm.refl H0) (fun _ _ => rfl) (Rep.dat (H := H) dd)
      have q2 : F'.Perm G := q2
      exact ⟨F', q1, Nodup.of_perm q2.symm ng, fun a ha => inG a (q2.mem_iff.mp ha)⟩
theorem Slots.wipe {T : Tb} (s : Slots T H0 H env σ F) (nd : F.Nodup) : ∀ {vs : List Nat}, (∀ i ∈ vs, i < env.length) → ∃ F', Slots T H0 H (wipeE env vs) (L2.wipe σ vs) F' ∧ F'.Nodup ∧ ∀ a ∈ F', a ∈ F
  | [], _ => ⟨F, s, nd, fun _ z => z⟩
  | v :: vs, hv => by
    obtain ⟨F', q1, q2, q3⟩ := s.wipe nd (vs := vs) fun i hi => hv i (List.mem_cons_of_mem _ hi)
    obtain ⟨F2, w1, w2, w3⟩ := q1.set1 q2 (i := v) (by rw [wipeE_len]; exact hv v (List.mem_cons_self ..)) (c := .non) (x := none) (.inl rfl)
    exact ⟨F2, w1, w2, fun a ha => q3 a (w3 a ha)⟩
/-- the slots' values as they were -/
def backS (σ0 : L2.St) : L2.St → List Nat → L2.St
  | σ, [] => σ
  | σ, v :: vs => match σ0[v]? with
    | some x => (backS σ0 σ vs).set v x
    | none => backS σ0 σ vs
theorem backS_len {σ0 : L2.St} : ∀ {vs : List Nat} {σ : L2.St}, (backS σ0 σ vs).length = σ.length
  | [], _ => rfl
  | v :: vs, σ => by
    simp only [backS]
    split
    · rw [List.length_set, backS_len]
    · exact backS_len
theorem backS_eq {σ0 σ : L2.St} (l : σ.length = σ0.length) : ∀ {vs : List Nat} {i : Nat}, (backS σ0 σ vs)[i]? = if i ∈ vs then σ0[i]? else σ[i]?
  | [], i => by simp [backS]
  | v :: vs, i => by
    simp only [backS]
    split
    · rename_i x ex
      have lv := (List.getElem?_eq_some_iff.mp ex).1
      by_cases h : i = v
      · subst h
        rw [List.getElem?_set_self (by rw [backS_len]; omega), if_pos (List.mem_cons_self ..), ex]
      · rw [List.getElem?_set_ne (Ne.symm h), backS_eq l (vs := vs)]
        simp [h]
    · rename_i ex
      rw [backS_eq l (vs := vs)]
      by_cases h : i = v
      · subst h
        have : σ[i]? = none := List.getElem?_eq_none (by rw [l]; exact List.getElem?_eq_none_iff.mp ex)
        simp [ex, this]
      · simp [h]
theorem backS_wipe {vs : List Nat} : backS σ (wipe σ vs) vs = σ := by
  apply List.ext_getElem?
  intro i
  rw [backS_eq (by rw [wipe_length])]
  by_cases h : i ∈ vs
  · rw [if_pos h]
  · rw [if_neg h, wipe_at, if_neg h]
theorem backE_len {e0 : Env} : ∀ {vs : List Nat} {e : Env}, (backE e0 e vs).length = e.length
  | [], _ => rfl
  | v :: vs, e => by
    simp only [backE]
    split
    · rw [List.length_set, backE_len]
    · exact backE_len
theorem backE_off {e0 e : Env} {i : Nat} : ∀ {vs : List Nat}, i ∉ vs → (backE e0 e vs)[i]? = e[i]?
  | [], _ => rfl
  | v :: vs, h => by
    simp only [List.mem_cons, not_or] at h
    simp only [backE]
    split
    · rw [List.getElem?_set_ne (Ne.symm h.1)]
      exact backE_off h.2
    · exact backE_off h.2
theorem backE_on {e0 e : Env} {i : Nat} (l : e.length = e0.length) : ∀ {vs : List Nat}, i ∈ vs → (backE e0 e vs)[i]? = e0[i]?
  | [], h => by cases h
  | v :: vs, h => by
    simp only [backE]
    by_cases z : i = v
    · subst z
      split
      · rename_i c ec
        rw [List.getElem?_set_self (by rw [backE_len, l]; exact (List.getElem?_eq_some_iff.mp ec).1), ec]
      · rename_i ec
        by_cases m : i ∈ vs
        · exact backE_on l m
        · rw [backE_off m, ec]
          exact List.getElem?_eq_none (by rw [l]; exact List.getElem?_eq_none_iff.mp ec)
    · have m : i ∈ vs := (List.mem_cons.mp h).resolve_left z
      split
      · rw [List.getElem?_set_ne (Ne.symm z)]
        exact backE_on l m
      · exact backE_on l m
theorem noOwn_at {e : Env} {vs : List Nat} (h : noOwn e vs = true) {i : Nat} (hi : i ∈ vs) : ∃ c, e[i]? = some c ∧ c.own = false := by
  unfold noOwn at h
  rw [List.all_eq_true] at h
  have := h i hi
  cases z : e[i]? with
  | none => rw [z] at this; cases this
  | some c => rw [z] at this; exact ⟨c, rfl, by simpa using this⟩
/-- the slots back as they were -/
theorem Slots.back {T : Tb} {env1 : Env} {σ1 : L2.St} {A0 A : Hp} {FA : List Addr} (s1 : Slots T A0 A env1 σ1 FA) (k0 : Sm A0 H0) (s : Slots T H0 H env σ F) (nd : F.Nodup) : ∀ {vs : List Nat}, noOwn env1 vs = true → (∀ i ∈ vs, i < env.length) → ∃ F', Slots T H0 H (backE env1 env vs) (backS σ1 σ vs) F' ∧ F'.Nodup ∧ ∀ a ∈ F', a ∈ F
  | [], _, _ => ⟨F, s, nd, fun _ z => z⟩
  | v :: vs, no, hv => by
    obtain ⟨c, ec, oc⟩ := noOwn_at no (List.mem_cons_self ..)
    have no2 : noOwn env1 vs = true := by
      unfold noOwn at no ⊢
      rw [List.all_cons, Bool.and_eq_true] at no
      exact no.2
    obtain ⟨F', q1, q2, q3⟩ := s1.back k0 s nd (vs := vs) no2 fun i hi => hv i (List.mem_cons_of_mem _ hi)
    have l1 : v < env1.length := (List.getElem?_eq_some_iff.mp ec).1
    have l2 : v < σ1.length := by rw [← s1.len]; exact l1
    have ex : σ1[v]? = some σ1[v] := List.getElem?_eq_getElem l2
    have hc : c = .non ∨ ∃ d u, c = .dat d ∧ σ1[v] = some u ∧ Dd T H0 u d := by
      cases c with
      | non => exact .inl rfl
      | dat d =>
        obtain ⟨u, F1, G, e1, e2, _⟩ := s1.focus ec (by intro z; cases z)
        rw [ex] at e1
        injection e1 with e1
        cases e2 with
        | dat e2 => exact .inr ⟨d, u, rfl, e1, e2.mono k0⟩
      | _ => cases oc
    obtain ⟨F2, w1, w2, w3⟩ := q1.set1 q2 (i := v) (by rw [backE_len]; exact hv v (List.mem_cons_self ..)) hc
    refine ⟨F2, ?_, w2, fun a ha => q3 a (w3 a ha)⟩
    simp only [backE, backS, ec, ex]
    exact w1
/-- the list that grows -/
structure LcSt (T : Tb) (L : Addr) (cs : List C) (vs : List V) (Fa : List Addr) (H0 H : Hp) (F : List Addr) (A : Hp) (FA : List Addr) : Prop where
  at_ : H L = some (.lst vs)
  rep : Reps T H0 H cs vs Fa
  nd : (L :: Fa).Nodup
  fr : ∀ a ∈ L :: Fa, H0 a = none ∧ a ∉ F ∧ Fre A FA a
theorem LcSt.al {T : Tb} {L : Addr} {cs : List C} {vs : List V} {Fa : List Addr} (h : LcSt T L cs vs Fa H0 H F A FA) : ∀ a ∈ L :: Fa, H a ≠ none := fun a ha => by
  rcases List.mem_cons.mp ha with rfl | ha
  · rw [h.at_]; exact fun z => by cases z
  · exact h.rep.al a ha
theorem LcSt.hg {T : Tb} {L : Addr} {cs : List C} {vs : List V} {Fa : List Addr} (h : LcSt T L cs vs Fa H0 H F A FA) (g : Hg H0 H F H0' H' F') : LcSt T L cs vs Fa H0' H' F' A FA := by
  have eq : ∀ a ∈ L :: Fa, H' a = H a ∧ H0' a = none := fun a ha => g.keep a (h.fr a ha).2.1 (h.al a ha) (h.fr a ha).1
  refine ⟨(eq L (List.mem_cons_self ..)).1.trans h.at_, h.rep.mono g.k0 fun a ha => (eq a (List.mem_cons_of_mem _ ha)).1, h.nd, fun a ha => ⟨(eq a ha).2, fun z => (g.ow a z).elim (h.fr a ha).2.1 (h.al a ha), (h.fr a ha).2.2⟩⟩
theorem LcSt.sub {T : Tb} {L : Addr} {cs : List C} {vs : List V} {Fa : List Addr} (h : LcSt T L cs vs Fa H0 H F A FA) (k : ∀ a ∈ F', a ∈ F) : LcSt T L cs vs Fa H0 H F' A FA :=
  ⟨h.at_, h.rep, h.nd, fun a ha => ⟨(h.fr a ha).1, fun z => (h.fr a ha).2.1 (k a z), (h.fr a ha).2.2⟩⟩
/-- from a turn's start to its end -/
theorem lc_step {vs : List Nat} {env1 env3 env4 : Env} {σw σ2 : L2.St} {H3 H03 H4 H04 : Hp} {F3 F4 : List Addr} {L : Addr} {o : HO} (hv : ∀ i ∈ vs, W.fx i = false) (hl : ∀ i ∈ vs, i < σw.length) (hw : ∀ i ∈ vs, env1[i]? = some .non)
    (S : Stp W pu env1 σw A0 A FA env H03 H3 F) (off : ∀ i, i ∉ vs → env3[i]? = env[i]? ∧ σ2[i]? = σw[i]?) (wq : wipe σ2 vs = σw) (sub : ∀ a ∈ F3, a ∈ F) (S3 : Stp W pu env3 σ2 H03 H3 F3 env4 H04 H4 F4)
    (hL : A L = none) (h0L : H04 L = none) (nL : L ∉ F4) (iL : ∃ o', H4 L = some o' ∧ ∀ A dx ws, o' ≠ .ins A dx ws) : ∃ F5, Stp W pu env1 σw A0 A FA (wipeE env4 vs) H04 (upd H4 L o) F5 ∧ ∀ a ∈ F5, a ∈ F4 := by
  have len4 : env4.length = σ2.length := S3.ok.sl.len
  have lenw : σ2.length = σw.length := by rw [← wq, wipe_length]
  obtain ⟨F5, s5, n5, i5⟩ := S3.ok.sl.wipe S3.ok.nd (vs := vs) fun i hi => by rw [len4, lenw]; exact hl i hi
  rw [wq] at s5
  have notvs : ∀ i, W.fx i = true → i ∉ vs := fun i z y => by rw [hv i y] at z; cases z
  have sm4 := S3.ok.sm
  have ne0 : ∀ a, H04 a ≠ none → a ≠ L := fun a z y => by rw [y, h0L] at z; exact z rfl
  have back : ∀ a, H3 a = none → A a = none := fun a z => S.back z
  have pr2 : ∀ j f, getE env1 j [.fld f] ≠ none → j ∉ vs ∧ getE env4 j [.fld f] ≠ none := fun j f k => by
    have nj : j ∉ vs := fun z => by
      rw [getE_fld, hw j z] at k
      exact k rfl
    have k1 := S.fs.pr j f trivial k
    have k2 : getE env3 j [.fld f] ≠ none := by rw [getE_fld] at k1 ⊢; rw [(off j nj).1]; exact k1
    exact ⟨nj, S3.fs.pr j f trivial k2⟩
  have w5 : ∀ j, j ∉ vs → (wipeE env4 vs)[j]? = env4[j]? := fun j nj => by rw [wipeE_at, if_neg nj]
  refine ⟨F5, ⟨⟨s5.mono (.refl _) fun a ha => upd_ne fun z => nL (by rw [← z]; exact i5 a ha), n5, fun a ha => S3.ok.h0 a (i5 a ha), fun a u z => ?_, fun c e => ?_⟩, ⟨S.hg.k0.trans S3.hg.k0, fun a n al h0 => ?_, fun a al => ?_, fun a ha => ?_⟩, ⟨fun j f _ k => ?_, fun j f _ k o => ?_⟩, fun hp => ⟨fun a u z => ?_, fun j q o => ?_⟩⟩, i5⟩
  · rw [upd_ne (ne0 a (by rw [z]; exact fun y => by cases y))]
    exact sm4 a u z
  · obtain ⟨z1, z2⟩ := S.ok.cu c e
    exact ⟨z1, z2.mono S3.hg.k0⟩
  · obtain ⟨q1, q2⟩ := S.hg.keep a n al h0
    have nF : a ∉ F3 := fun z => (S.hg.ow a (sub a z)).elim n al
    obtain ⟨q3, q4⟩ := S3.hg.keep a nF (by rw [q1]; exact al) q2
    refine ⟨?_, q4⟩
    rw [upd_ne fun z => al (by rw [z]; exact hL)]
    exact q3.trans q1
  · rw [upd_ne fun z => al (by rw [z]; exact hL)]
    exact S3.hg.al a (S.hg.al a al)
  · rcases S3.hg.ow a (i5 a ha) with z | z
    · exact S.hg.ow a (sub a z)
    · exact .inr (back a z)
  · obtain ⟨nj, k4⟩ := pr2 j f k
    rw [getE_fld] at k4 ⊢
    rw [w5 j nj]
    exact k4
  · obtain ⟨nj, k4⟩ := pr2 j f k
    have k1 := S.fs.pr j f trivial k
    have k2 : getE env3 j [.fld f] ≠ none := by rw [getE_fld] at k1 ⊢; rw [(off j nj).1]; exact k1
    have o4 : ownP env4 j [.fld f] := by
      obtain ⟨x, x1, x2⟩ := o
      refine ⟨x, ?_, x2⟩
      rw [getE_fld] at x1 ⊢
      rw [w5 j nj] at x1
      exact x1
    obtain ⟨o3, n3⟩ := S3.fs.st j f trivial k2 o4
    have o2 : ownP env j [.fld f] := by
      obtain ⟨x, x1, x2⟩ := o3
      refine ⟨x, ?_, x2⟩
      rw [getE_fld] at x1 ⊢
      rw [(off j nj).1] at x1
      exact x1
    obtain ⟨o1, n1⟩ := S.fs.st j f trivial k o2
    refine ⟨o1, fun v0 u e0 nu => ?_⟩
    obtain ⟨a, B, dx, ws, e1, e2, e3⟩ := n3 v0 u (by rw [(off j nj).2]; exact e0) (n1 v0 u e0 nu)
    refine ⟨a, B, dx, ws, e1, ?_, e3⟩
    rw [upd_ne fun z => ?_]
    · exact e2
    · obtain ⟨o', ex, no⟩ := iL
      rw [z, ex] at e2
      injection e2 with e2
      exact no _ _ _ e2
  · rw [upd_ne (ne_of_none z hL)]
    exact (S3.pu hp).1 a u ((S.pu hp).1 a u z)
  · obtain ⟨x, x1, x2⟩ := o
    have nj : j ∉ vs := fun z => by
      simp only [getE, Option.bind_eq_some_iff] at x1
      obtain ⟨c, c1, c2⟩ := x1
      rw [wipeE_at, if_pos z, Option.map_eq_some_iff] at c1
      obtain ⟨_, _, rfl⟩ := c1
      have := path_own c2 x2
      cases this
    have o4 : ownP env4 j q := by
      refine ⟨x, ?_, x2⟩
      simp only [getE] at x1 ⊢
      rw [w5 j nj] at x1
      exact x1
    have o3 := (S3.pu hp).2 j q o4
    refine (S.pu hp).2 j q ?_
    obtain ⟨y, y1, y2⟩ := o3
    refine ⟨y, ?_, y2⟩
    simp only [getE] at y1 ⊢
    rw [(off j nj).1] at y1
    exact y1
theorem Reps.snoc {T : Tb} {cs : List C} {vs : List V} {Fa : List Addr} {c : C} {u : V} {Fc : List Addr} (h : Reps T H0 H cs vs Fa) (k : Rep T H0 H c u Fc) : Reps T H0 H (cs ++ [c]) (vs ++ [u]) (Fa ++ Fc) := by
  have := h.app (.cons k .nil)
  rw [List.append_nil] at this
  exact this
theorem noEx_wp {α : Type} {o : Out α} {P : α → Env → Prop} {px : PX} (h : Out.wp P px (noEx o)) : Out.wp P (fun _ _ _ => False) o := by
  cases o with
  | ok => exact h
  | ex => cases h
  | bad => cases h
theorem ErrOk.none : ErrOk W (fun _ _ _ => False) env σ H0 H F := fun _ _ _ _ _ _ _ _ _ p => p.elim
theorem rf_lc {vs : List Nat} {wi : TI} {mi : MI} {g : TG} {mg : MG} {tt : TT} {mt : MT} {te : TE} {me : ME} (hv : ∀ i ∈ vs, W.fx i = false) (hi : RfI W pu wi mi) (hg : RfG W.inn vs g mg) (ht : RfT W.inn pu tt mt) (he : RfE W.inn pu te me) : RfE W pu (tLc wi g tt te vs) (mLc mi mg mt me vs) := fun env P px p σ H0 H F O X Q q => by
  unfold mLc at p
  rw [Out.wp_bind] at p
  refine hi env _ px p σ H0 H F O X _ fun J xs env1 A0 A FA p1 S Y => ?_
  split at p1
  · rename_i hc
    rw [Bool.and_eq_true, decide_eq_true_eq] at hc
    obtain ⟨hlim, hno⟩ := hc
    rw [Out.wp_bind] at p1
    have p1 := noEx_wp p1
    intro L hL
    have inE : ∀ i ∈ vs, i < env1.length := fun i z => by
      obtain ⟨c, ec, _⟩ := noOwn_at hno z
      exact (List.getElem?_eq_some_iff.mp ec).1
    have lenE := S.ok.sl.len
    obtain ⟨F1, s1, n1, i1⟩ := S.ok.sl.wipe S.ok.nd (vs := vs) inE
    have off : ∀ j, W.fx j = true → j ∉ vs := fun j z y => by rw [hv j y] at z; cases z
    have Ow : Ok W.inn (wipeE env1 vs) (wipe σ vs) A0 A F1 := ⟨s1, n1, fun a ha => S.ok.h0 a (i1 a ha), S.ok.sm, fun c e => by
      obtain ⟨z1, z2⟩ := S.ok.cu c e
      exact ⟨by rw [wipe_at, if_neg (off _ (W.cfx c e))]; exact z1, z2⟩⟩
    have hw : ∀ i ∈ vs, (wipeE env1 vs)[i]? = some .non := fun i z => by
      rw [wipeE_at, if_pos z, List.getElem?_eq_getElem (inE i z)]; rfl
    have hl : ∀ i ∈ vs, i < (wipe σ vs).length := fun i z => by rw [wipe_length, ← lenE]; exact inE i z
    refine ⟨fun i k H' => ∃ env' H0' F' cs ys Fa, Out.wp (fun ds e => P (.own (.lst (cs ++ ds))) (backE env1 e vs)) (fun _ _ _ => False) (lcGo mg mt me vs (xs.drop i) env') ∧ Stp W.inn pu (wipeE env1 vs) (wipe σ vs) A0 A F1 env' H0' H' F' ∧ LcSt W.T L cs ys Fa H0' H' F' A F1 ∧ cs.length ≤ i ∧ i ≤ xs.length ∧ k = xs.length - i, ⟨_, wipeE env1 vs, A0, F1, [], [], [], p1, (Stp.refl Ow).gr (Gr.own S.ok.sm hL _), ?_, Nat.le_refl _, Nat.zero_le _, rfl⟩, ?_⟩
    · refine ⟨upd_same, .nil, by simp, fun a ha => ?_⟩
      rw [List.mem_singleton] at ha
      subst ha
      refine ⟨?_, fun z => Ow.sl.al a z hL, .inl hL⟩
      cases z : A0 a with
      | none => rfl
      | some u => rw [S.ok.sm a u z] at hL; cases hL
    rintro i k H' ⟨env', H0', F', cs, ys, Fa, w, G, ls, lc, li, rfl⟩
    by_cases hlt : i < xs.length
    · refine .inr ⟨Y.go i H0' H' G.hg.k0 G.ok.sm hlt, fun H2 => ∃ env' H0' F' cs ys Fa, Out.wp (fun ds e => P (.own (.lst (cs ++ ds))) (backE env1 e vs)) (fun _ _ _ => False) (lcGo mg mt me vs (xs.drop (i + 1)) env') ∧ Stp W.inn pu (wipeE env1 vs) (wipe σ vs) A0 A F1 env' H0' H2 F' ∧ LcSt W.T L cs ys Fa H0' H2 F' A F1 ∧ cs.length ≤ i + 1, fun H2 ⟨e2, B0, F2, c2, y2, a2, q1, q2, q3, q4⟩ => ⟨_, by omega, e2, B0, F2, c2, y2, a2, q1, q2, q3, q4, by omega, rfl⟩, fun x H2 y => ?_⟩
      obtain ⟨dx, ex, hx⟩ := Y.yld i x H0' H' H2 G.hg.k0 G.ok.sm hlt y
      obtain ⟨e1, e2⟩ := List.getElem?_eq_some_iff.mp ex
      rw [List.drop_eq_getElem_cons e1, e2] at w
      simp only [lcGo] at w
      cases ge : mg dx env' with
      | none => rw [ge] at w; cases w
      | some env2 =>
        rw [ge] at w
        dsimp only at w
        rw [Out.wp_bind] at w
        obtain ⟨B0, G2, ls2, dd⟩ : ∃ B0, Stp W.inn pu (wipeE env1 vs) (wipe σ vs) A0 A F1 env' B0 H2 F' ∧ LcSt W.T L cs ys Fa B0 H2 F' A F1 ∧ Dd W.T B0 x dx := by
          rcases hx with ⟨rfl, hx⟩ | ⟨p, ys, ds, rfl, hp, rfl, rfl, hy⟩
          · exact ⟨H0', G, ls, hx⟩
          · have g := Gr.data G.ok.sm hp (.tup ys)
            exact ⟨_, G.gr g, ls.hg ((Stp.refl (pu := false) G.ok).gr g).hg, .tup upd_same (hy.mono g.s0)⟩
        refine hg dx env' env2 ge (wipe σ vs) B0 H2 F' x G2.ok dd _ fun σ2 F2 tg => ?_
        have wq : wipe σ2 vs = wipe σ vs := by rw [wipe_eq (fun j hj => (tg.off j hj).2) tg.ln, wipe_wipe]
        refine ⟨wq, ht env2 _ _ w σ2 B0 H2 F2 tg.ok ErrOk.none _ fun b env3 C0 C1 FC w3 S3 => ?_⟩
        have ls3 := (ls2.sub tg.sub).hg S3.hg
        cases b with
        | true =>
          simp only [if_pos, Out.wp_bind] at w3
          show te σ2 C1 fun y H4 => _
          refine he env3 _ _ w3 σ2 C0 C1 FC S3.ok ErrOk.none _ fun u r env4 E0' E4 F4 w4 S4 wv => ?_
          have ls4 := ls3.hg S4.hg
          have SS := S3.trans S4
          refine ⟨ys, ls4.at_, by rw [← ls4.rep.len]; exact Nat.lt_of_le_of_lt lc (Nat.lt_of_lt_of_le hlt (Nat.le_trans hlim (by decide))), ?_⟩
          obtain ⟨c, Fc, ec, rc, nc, fc⟩ : ∃ c Fc, chR r = some c ∧ Rep W.T E0' E4 c u Fc ∧ Fc.Nodup ∧ ∀ a ∈ Fc, E0' a = none ∧ a ∉ F4 ∧ Fre C1 FC a := by
            cases r with
            | dat d => exact ⟨_, [], rfl, .dat wv, .nil, fun a ha => by cases ha⟩
            | own c => obtain ⟨_, Fc, z1, z2, z3⟩ := wv; exact ⟨c, Fc, rfl, z1, z2, z3⟩
            | al => cases w4
          rw [ec] at w4
          dsimp only at w4
          rw [Out.wp_bind] at w4
          have dj : ∀ a ∈ Fc, a ∉ L :: Fa := fun a ha z => (fc a ha).2.2.elim (ls3.al a z) (ls3.fr a z).2.1
          have nL : L ∉ Fc := fun z => dj L z (List.mem_cons_self ..)
          have nd := List.nodup_cons.mp ls4.nd
          obtain ⟨F5, S5, i5⟩ := lc_step (W := W.inn) (o := .lst (ys ++ [u])) hv hl hw G2 (fun j hj => tg.off j hj) wq tg.sub SS hL (ls4.fr L (List.mem_cons_self ..)).1 (ls4.fr L (List.mem_cons_self ..)).2.1 ⟨_, ls4.at_, fun _ _ _ z => by cases z⟩
          refine ⟨_, _, F5, cs ++ [c], ys ++ [u], Fa ++ Fc, ?_, S5, ⟨upd_same, ?_, ?_, fun a ha => ?_⟩, by rw [List.length_append]; exact Nat.add_le_add_right lc 1⟩
          · exact Out.wp_imp w4 fun ds e z => by
              rw [List.append_assoc]
              exact z
          · have m1 : ∀ a ∈ Fa, upd E4 L (.lst (ys ++ [u])) a = E4 a := fun a ha => upd_ne fun z => nd.1 (by rw [← z]; exact ha)
            have m2 : ∀ a ∈ Fc, upd E4 L (.lst (ys ++ [u])) a = E4 a := fun a ha => upd_ne fun z => nL (by rw [← z]; exact ha)
            exact (ls4.rep.mono (.refl _) m1).snoc (rc.mono (.refl _) m2)
          · rw [List.nodup_cons, List.mem_append, List.nodup_append]
            exact ⟨fun z => z.elim nd.1 nL, nd.2, nc, fun a ha b hb z => dj b hb (List.mem_cons_of_mem _ (by rw [← z]; exact ha))⟩
          · rcases List.mem_cons.mp ha with rfl | ha
            · exact ⟨(ls4.fr _ (List.mem_cons_self ..)).1, fun z => (ls4.fr _ (List.mem_cons_self ..)).2.1 (i5 _ z), (ls4.fr _ (List.mem_cons_self ..)).2.2⟩
            · rcases List.mem_append.mp ha with ha | ha
              · have := ls4.fr a (List.mem_cons_of_mem _ ha)
                exact ⟨this.1, fun z => this.2.1 (i5 _ z), this.2.2⟩
              · have := fc a ha
                exact ⟨this.1, fun z => this.2.1 (i5 _ z), G2.hg.fre ((this.2.2.elim (fun z => S3.hg.fre (.inl z)) (fun z => S3.hg.fre (.inr z))).elim .inl fun z => .inr (tg.sub _ z))⟩
        | false =>
          have w3 : Out.wp _ _ (lcGo mg mt me vs (xs.drop (i + 1)) (wipeE env3 vs)) := w3
          obtain ⟨F5, S5, i5⟩ := lc_step (W := W.inn) (o := .lst ys) hv hl hw G2 (fun j hj => tg.off j hj) wq tg.sub S3 hL (ls3.fr L (List.mem_cons_self ..)).1 (ls3.fr L (List.mem_cons_self ..)).2.1 ⟨_, ls3.at_, fun _ _ _ z => by cases z⟩
          have same : upd C1 L (.lst ys) = C1 := by
            funext a
            by_cases z : a = L
            · subst z; rw [upd_same, ls3.at_]
            · rw [upd_ne z]
          rw [same] at S5
          exact ⟨_, _, F5, cs, ys, Fa, w3, S5, ls3.sub i5, Nat.le_succ_of_le lc⟩
    · have : i = xs.length := by omega
      subst this
      rw [List.drop_length] at w
      have w : P (.own (.lst (cs ++ []))) (backE env1 env' vs) := w
      rw [List.append_nil] at w
      refine .inl ⟨Y.stop H0' H' G.hg.k0 G.ok.sm, ?_⟩
      have len' := G.ok.sl.len
      obtain ⟨F6, s6, n6, i6⟩ := Slots.back S.ok.sl G.hg.k0 G.ok.sl G.ok.nd (vs := vs) hno fun j z => by rw [len', wipe_length, ← lenE]; exact inE j z
      rw [backS_wipe] at s6
      have lenB : env'.length = env1.length := by rw [len', wipe_length, lenE]
      have old : ∀ j, j ∉ vs → (wipeE env1 vs)[j]? = env1[j]? := fun j z => by rw [wipeE_at, if_neg z]
      have SB : Stp W pu env1 σ A0 A FA (backE env1 env' vs) H0' H' F6 := by
        refine ⟨⟨s6, n6, fun a ha => G.ok.h0 a (i6 a ha), G.ok.sm, S.ok.cu.mono G.hg.k0⟩, ⟨G.hg.k0, fun a n al h0 => G.hg.keep a (fun z => n (i1 a z)) al h0, G.hg.al, fun a ha => (G.hg.ow a (i6 a ha)).imp (i1 a) id⟩, ⟨fun j f _ k => ?_, fun j f _ k o => ?_⟩, fun hp => ⟨(G.pu hp).1, fun j q o => ?_⟩⟩
        · by_cases z : j ∈ vs
          · rw [getE_fld] at k ⊢
            rw [backE_on lenB z]
            exact k
          · have := G.fs.pr j f trivial (by rw [getE_fld] at k ⊢; rw [old j z]; exact k)
            rw [getE_fld] at this ⊢
            rw [backE_off z]
            exact this
        · by_cases z : j ∈ vs
          · exfalso
            obtain ⟨x, x1, x2⟩ := o
            rw [getE_fld, backE_on lenB z, Option.bind_eq_some_iff] at x1
            obtain ⟨c, c1, c2⟩ := x1
            obtain ⟨c', c3, c4⟩ := noOwn_at hno z
            rw [c1] at c3
            injection c3 with c3
            subst c3
            have := path_own (p := [.fld f]) (y := c) (c := x) (by simp only [getC, c2, Option.bind_some]) x2
            rw [this] at c4
            cases c4
          · obtain ⟨o1, n1⟩ := G.fs.st j f trivial (by rw [getE_fld] at k ⊢; rw [old j z]; exact k) (by
              obtain ⟨x, x1, x2⟩ := o
              refine ⟨x, ?_, x2⟩
              rw [getE_fld] at x1 ⊢
              rw [backE_off z] at x1
              exact x1)
            refine ⟨?_, fun v0 u e0 nu => n1 v0 u (by rw [wipe_at, if_neg z]; exact e0) nu⟩
            obtain ⟨x, x1, x2⟩ := o1
            refine ⟨x, ?_, x2⟩
            rw [getE_fld] at x1 ⊢
            rw [old j z] at x1
            exact x1
        · by_cases z : j ∈ vs
          · obtain ⟨x, x1, x2⟩ := o
            refine ⟨x, ?_, x2⟩
            simp only [getE] at x1 ⊢
            rw [backE_on lenB z] at x1
            exact x1
          · obtain ⟨x, x1, x2⟩ := (G.pu hp).2 j q (by
              obtain ⟨x, x1, x2⟩ := o
              refine ⟨x, ?_, x2⟩
              simp only [getE] at x1 ⊢
              rw [backE_off z] at x1
              exact x1)
            refine ⟨x, ?_, x2⟩
            simp only [getE] at x1 ⊢
            rw [old j z] at x1
            exact x1
      refine q _ _ _ _ _ _ w (S.trans SB) ⟨rfl, L :: Fa, .lst ls.at_ ls.rep, ls.nd, fun a ha => ?_⟩
      have := ls.fr a ha
      exact ⟨this.1, fun z => this.2.1 (i6 a z), S.hg.fre (this.2.2.imp id (i1 a))⟩
  · cases p1
end
end M
set_option Elab.async false
set_option linter.all false
set_option maxRecDepth 100000
set_option maxHeartbeats 1000000
namespace M
open PySem PySem.Spec PyProof.Rows L2
variable {W : Wo}
def asI (r : R) (e : Env) : Out (Option Int) := match r with
  | .dat (.int i) => .ok (some i) e
  | _ => .bad
abbrev MO := Env → Out (Option Int)
def mNoP : MO := fun env => .ok none env
def mPart (a : ME) : MO := fun env => (a env).bind asI
def cutD (ds : List D) (lo hi : Option Int) : List D := (ds.drop (HT.sIx ds.length 0 lo)).take (HT.sIx ds.length ds.length hi - HT.sIx ds.length 0 lo)
def slD (d : D) (lo hi : Option Int) : Option R := match d with
  | .tup ds => some (.dat (.tup (cutD ds lo hi)))
  | .lst ds => some (.own (.lst ((cutD ds lo hi).map .dat)))
  | .str z => if z.length ≤ sizeLine then some (.dat (.str (cutS z lo hi))) else none
  | _ => none
def mSl (a : ME) (lo hi : MO) : ME := fun env => (a env).bind fun x e1 => grd x.sh ((lo e1).bind fun l e2 => (hi e2).bind fun h e3 => op1 (fun d => slD d l h) x e3)
def isLst (c : Option C) : Bool := match c with
  | some (.lst _) => true
  | _ => false
/-- a method that changes a list of data -/
def lmO (o : List D → List D → Option (D × List D)) (x : R) (rs : List R) (e : Env) : Out R := match x with
  | .al i p => match vw e (.al i p), datR rs with
    | some (.lst cs), some es => match dats cs with
      | some ds => match o ds es with
        | some (d, ds') => .ok (.dat d) (setE e i p (.lst (ds'.map .dat)))
        | none => .bad
      | none => .bad
    | _, _ => .bad
  | _ => .bad
def mLm (g : Bool) (o : List D → List D → Option (D × List D)) (a : ME) (b : MA) : ME := fun env => (a env).bind fun x e1 => grd ((g || x.sh) && isLst (vw e1 x)) ((b e1).bind fun rs e2 => lmO o x rs e2)
def mLm0 (o : List D → List D → Option (D × List D)) (a : ME) : ME := fun env => (a env).bind fun x e1 => lmO o x [] e1
def lAppend : List D → List D → Option (D × List D) := fun ds es => match es with
  | [d] => if ds.length < LIM then some (.non, ds ++ [d]) else none
  | _ => none
def lPop : List D → List D → Option (D × List D) := fun ds es => match es, ds.getLast? with
  | [], some d => some (d, ds.dropLast)
  | _, _ => none
section
variable {pu pb : Bool} {env0 env env' env2 : Env} {σ σ' σ2 : L2.St} {H0 H H0' H' A0 A B B' : Hp} {F FA F' F2 : List Addr} {v : V} {r : R} {d : D} {Z : Addr → Prop}
theorem lookup_nm {α β : Type} {fs : List (Nat × α)} {ws : List (Str × β)} (m : fs.map (fun f => nmS f.1) = ws.map (·.1)) {f : Nat} {x : α} (h : fs.lookup f = some x) : ∃ n : Nat, (fs.map (·.2))[n]? = some x ∧ ∀ u, (ws.map (·.2))[n]? = some u → ws.lookup (nmS f) = some u := by
  obtain ⟨n, l1, l2, l3⟩ := lookup_ix h
  have m' : ws.map (·.1) = (fs.map (·.1)).map nmS := by rw [← m, List.map_map]; rfl
  refine ⟨n, l1, fun u e => lookup_of e (by rw [m', List.getElem?_map, l2]; rfl) fun j hj z => ?_⟩
  rw [m', List.getElem?_map, Option.map_eq_some_iff] at z
  obtain ⟨i, i1, i2⟩ := z
  exact l3 j hj (by rw [i1, nmS_inj _ _ i2])
def RfO (W : Wo) (pu : Bool) (t : TO) (m : MO) : Prop := ∀ env P px, Out.wp P px (m env) → ∀ (σ : L2.St) (H0 H : Hp) (F : List Addr), Ok W env σ H0 H F → ErrOk W px env σ H0 H F → ∀ Q : Option Int → Hp → Prop,
  (∀ o env' H0' H' F', P o env' → Stp W pu env σ H0 H F env' H0' H' F' → Q o H') → t σ H Q
theorem ro_none : RfO W pu tNoPart mNoP := fun env P px p σ H0 H F O X Q q => q none env H0 H F p (.refl O)
theorem ro_some {t : TE} {m : ME} (h : RfE W pu t m) : RfO W pu (tPart t) (mPart m) := fun env P px p σ H0 H F O X Q q => by
  unfold mPart at p
  rw [Out.wp_bind] at p
  refine h env _ px p σ H0 H F O X _ fun v r env1 A0 A FA p1 S w => ?_
  unfold asI at p1
  split at p1
  · rename_i i
    have := Dd.int_inv w
    subst this
    exact ⟨i, rfl, q _ _ _ _ _ p1 S⟩
  · cases p1
def RdS (T : Tb) (r : V → Option Int → Option Int → Hp → VK → Prop) (o : D → Option Int → Option Int → Option R) : Prop := ∀ (H0 H : Hp) (x : V) (d : D) (lo hi : Option Int) (res : R), Same H0 H → Dv T H0 H x d → o d lo hi = some res → ∀ Q : VK, (∀ u H0' H', Gr H0 H H0' H' → VALn T H0' H' H u res → Q u H') → r x lo hi H Q
theorem rf_sl {r : V → Option Int → Option Int → Hp → VK → Prop} (hr : RdS W.T r slD) {te : TE} {tl th : TO} {me : ME} {ml mh : MO} (he : RfE W pu te me) (hl : RfO W pu tl ml) (hh : RfO W pu th mh) : RfE W pu (tSl r te tl th) (mSl me ml mh) := fun env P px p σ H0 H F O X Q q => by
  unfold mSl at p
  rw [Out.wp_bind] at p
  refine he env _ px p σ H0 H F O X _ fun v x env1 A0 A FA p1 S w => ?_
  obtain ⟨sh, p1⟩ := grd_wp p1
  rw [Out.wp_bind] at p1
  refine hl env1 _ px p1 σ A0 A FA S.ok (X.chg S.chg) _ fun lo env2 B0 B FB p2 S2 => ?_
  rw [Out.wp_bind] at p2
  refine hh env2 _ px p2 σ B0 B FB S2.ok (X.chg (S.trans S2).chg) _ fun hi env3 C0 C1 FC p3 S3 => ?_
  have ST := (S.trans S2).trans S3
  obtain ⟨d, res, h1, h3, p⟩ := op1_wp p3
  exact hr C0 C1 v d lo hi res S3.ok.sm (((w.stp S2 (.inr sh)).stp S3 (.inr sh)).snap S3.ok h1) h3 Q fun u D0 D g n => q u res env3 D0 D FC p (ST.gr g) (n.val S3.ok g fun a z => .inl (ST.back z))
theorem DdAll.cut {T : Tb} {vs : List V} {ds : List D} (h : DdAll T H vs ds) (lo hi : Option Int) : DdAll T H (cutV vs lo hi) (cutD ds lo hi) := by
  unfold cutV cutD
  rw [h.len]
  exact (h.drop _).take _
theorem Dv.tup_inv {T : Tb} {ds : List D} (s : Same H0 H) (h : Dv T H0 H v (.tup ds)) : ∃ a vs, v = .ref a ∧ H a = some (.tup vs) ∧ DdAll T H0 vs ds ∧ Dd T H0 v (.tup ds) := by
  cases h with
  | dd h => cases h with | tup h1 h2 => exact ⟨_, _, rfl, s _ _ h1, h2, .tup h1 h2⟩
theorem Dv.lst_inv {T : Tb} {ds : List D} (s : Same H0 H) (h : Dv T H0 H v (.lst ds)) : ∃ a vs, v = .ref a ∧ H a = some (.lst vs) ∧ DdAll T H0 vs ds := by
  cases h with
  | dd h => cases h with | lst h1 h2 => exact ⟨_, _, rfl, s _ _ h1, h2⟩
  | lst h1 h2 => exact ⟨_, _, rfl, h1, h2⟩
theorem Dv.src_inv {T : Tb} {ds : List D} (s : Same H0 H) (h : Dv T H0 H v (.src ds)) : ∃ a vs, v = .ref a ∧ SqL T.K H a vs ∧ DdAll T H0 vs ds := by
  cases h with
  | dd h => cases h with | src h1 h2 => exact ⟨_, _, rfl, (Sm.of s).sqL h1, h2⟩
theorem Dv.int_inv {T : Tb} {i : Int} (h : Dv T H0 H v (.int i)) : v = .int i := by
  cases h with | dd h => exact Dd.int_inv h
theorem Dv.bl_inv {T : Tb} {i : Bool} (h : Dv T H0 H v (.bl i)) : v = .bl i := by
  cases h with | dd h => exact Dd.bl_inv h
theorem Dv.str_inv {T : Tb} {i : Str} (h : Dv T H0 H v (.str i)) : v = .str i := by
  cases h with | dd h => cases h; rfl
def rSl3 (K : PySem.W.Frag) : V → Option Int → Option Int → Hp → VK → Prop := fun x lo hi H Q => rSlA K x lo hi H Q ∨ rSlL K x lo hi H Q ∨ rSlS x lo hi H Q
theorem sl_all {X : Cx} : SlR X (rSl3 X.K) := by
  intro pins s σ H x v vl vu lo hi sl Q I rx hs pl pu h
  rcases h with h | h | h
  · exact sl_tupA pins s σ H x v vl vu lo hi sl Q I rx hs pl pu h
  · exact sl_list pins s σ H x v vl vu lo hi sl Q I rx hs pl pu h
  · exact sl_str pins s σ H x v vl vu lo hi sl Q I rx hs pl pu h
theorem cutD_whole {α : Type} {xs : List α} {lo hi : Option Int} (e : HT.sIx xs.length 0 lo = 0 ∧ HT.sIx xs.length xs.length hi = xs.length) : (xs.drop (HT.sIx xs.length 0 lo)).take (HT.sIx xs.length xs.length hi - HT.sIx xs.length 0 lo) = xs := by
  rw [e.1, e.2, List.drop_zero, Nat.sub_zero, List.take_length]
theorem rd_sl {T : Tb} {K : PySem.W.Frag} (hK : T.K = K) : RdS T (rSl3 K) slD := fun H0 H x d lo hi res s h e Q q => by
  subst hK
  cases d with
  | tup ds =>
    simp only [slD, Option.some.injEq] at e
    subst e
    obtain ⟨a, vs, rfl, h1, h2, h3⟩ := h.tup_inv s
    refine .inl ⟨a, vs, rfl, SqT.of h1, fun w => ?_, fun w p hp => ?_⟩
    · refine q _ H0 H (Gr.refl s) ?_
      have w' : HT.sIx ds.length 0 lo = 0 ∧ HT.sIx ds.length ds.length hi = ds.length := by rw [h2.len] at w; exact w
      show Dd T H0 (.ref a) (.tup (cutD ds lo hi))
      rw [show cutD ds lo hi = ds from cutD_whole w']
      exact h3
    · exact q _ _ _ (Gr.data s hp _) (laid_tup s hp (h2.cut lo hi))
  | lst ds =>
    simp only [slD, Option.some.injEq] at e
    subst e
    obtain ⟨a, vs, rfl, h1, h2⟩ := h.lst_inv s
    exact .inr (.inl ⟨a, vs, rfl, SqL.of h1, fun p hp => q _ _ _ (Gr.own s hp _) (laid_lst s hp (h2.cut lo hi))⟩)
  | str z =>
    simp only [slD] at e
    split at e
    · rename_i hl
      injection e with e
      subst e
      have := h.str_inv
      subst this
      exact .inr (.inr ⟨z, rfl, hl, q _ H0 H (Gr.refl s) (.str _)⟩)
    · cases e
  | _ => cases e
def RdM (T : Tb) (r : V → List V → Hp → VK → Prop) (o : List D → List D → Option (D × List D)) : Prop := ∀ (H0 H : Hp) (l : Addr) (vs : List V) (ds : List D) (xs : List V) (es : List D) (d' : D) (ds' : List D), Same H0 H → H l = some (.lst vs) → DdAll T H0 vs ds → DdAll T H0 xs es → o ds es = some (d', ds') → ∀ Q : VK, (∀ u vs', Dd T H0 u d' → DdAll T H0 vs' ds' → Q u (upd H l (.lst vs'))) → r (.ref l) xs H Q
theorem lm_run {rd : V → List V → Hp → VK → Prop} {o : List D → List D → Option (D × List D)} (hr : RdM W.T rd o) {x : R} {rs : List R} {us : List V} {P : R → Env → Prop} {px : PX} (S : Stp W pu env0 σ A0 A FA env H0 H F) (w : VAL W (Fre A FA) env σ H0 H F v x) (ws : VALs W (Fre A FA) env σ H0 H F us rs) (p : Out.wp P px (lmO o x rs env)) {Q : VK}
    (q : ∀ v r env' H0' H' F', P r env' → Stp W false env0 σ A0 A FA env' H0' H' F' → VAL W (Fre A FA) env' σ H0' H' F' v r → Q v H') : rd v us H Q := by
  unfold lmO at p
  split at p
  · rename_i i pp
    split at p
    · rename_i cs es e1 e2
      split at p
      · rename_i ds e3
        split at p
        · rename_i d' ds' e4
          obtain ⟨F1, r1⟩ := VAL.vw S.ok e1 w
          rw [dats_eq e3] at r1
          cases r1 with
          | @lst l vs _ G h1 h2 =>
            obtain ⟨rfl, h3⟩ := h2.dats
            rw [datR_eq e2] at ws
            refine hr H0 H l vs ds us es d' ds' S.ok.sm h1 h3 ws.dats e4 Q fun u vs' du hs => ?_
            refine Exists.elim (S.modify (o' := .lst vs') (c' := .lst (ds'.map .dat)) e1 rfl w (fun F1 r2 n2 i2 => ?_) (fun _ f z => by simp [C.at] at z) fun _ f x' z => by simp [C.at] at z) fun F' S' => ?_
            · have : F1 = [l] := by
                rw [dats_eq e3] at r2
                cases r2 with | lst _ r => obtain ⟨rfl, _⟩ := r.dats; rfl
              subst this
              exact ⟨[l], .lst upd_same (Reps.of_dats hs), n2, fun a ha => .inl ha⟩
            · exact q u _ _ _ _ F' p S' du
        · cases p
      · cases p
    · cases p
  · cases p
theorem isLst_vw {x : R} (O : Ok W env σ H0 H F) (h : isLst (vw env x) = true) (w : VAL W Z env σ H0 H F v x) : ∃ a vs, v = .ref a ∧ H a = some (.lst vs) := by
  unfold isLst at h
  split at h
  · rename_i cs e
    obtain ⟨F1, r1⟩ := VAL.vw O e w
    cases r1 with
    | lst h1 _ => exact ⟨_, _, rfl, h1⟩
  · cases h
theorem rf_lm {K : PySem.W.Frag} {rd : V → List V → Hp → VK → Prop} {o : List D → List D → Option (D × List D)} (hr : RdM W.T rd o) {g : Bool} {to : TE} {ta : TA} {mo : ME} {ma : MA} (ho : RfE W false to mo) (ha : RfA W pb ta ma) (hg : g = true → pb = true) : RfE W false (tBM K "list" rd to ta) (mLm g o mo ma) := fun env P px p σ H0 H F O X Q q => by
  unfold mLm at p
  rw [Out.wp_bind] at p
  refine ho env _ px p σ H0 H F O X _ fun v x env1 A0 A FA p1 S w => ?_
  obtain ⟨sh, p1⟩ := grd_wp p1
  rw [Bool.and_eq_true, Bool.or_eq_true] at sh
  obtain ⟨a, vs, rfl, h1⟩ := isLst_vw S.ok sh.2 w
  refine ⟨.inl ⟨rfl, vs, SqL.of h1⟩, ?_⟩
  rw [Out.wp_bind] at p1
  refine ha env1 _ px p1 σ A0 A FA S.ok (X.chg S.chg) _ fun us rs env2 B0 B FB p2 S2 ws => ?_
  have k2 : pb = true ∨ x.sh = true := sh.1.imp hg id
  exact lm_run hr (S.trans (S2.to (pu := false) fun z => by cases z)) (w.stp S2 k2) (ws.base fun l z => S.hg.fre z) p2 q
theorem rf_lm0 {K : PySem.W.Frag} {rd : V → List V → Hp → VK → Prop} {o : List D → List D → Option (D × List D)} (hr : RdM W.T rd o) {to : TE} {mo : ME} (ho : RfE W false to mo) : RfE W false (tBM0 K "list" rd to) (mLm0 o mo) := fun env P px p σ H0 H F O X Q q => by
  unfold mLm0 at p
  rw [Out.wp_bind] at p
  refine ho env _ px p σ H0 H F O X _ fun v x env1 A0 A FA p1 S w => ?_
  have h1 : ∃ a vs, v = .ref a ∧ A a = some (.lst vs) := by
    have p1 := p1
    unfold lmO at p1
    split at p1
    · split at p1
      · rename_i e1 e2
        exact isLst_vw S.ok (by unfold isLst; rw [e1]) w
      · cases p1
    · cases p1
  obtain ⟨a, vs, rfl, h1⟩ := h1
  exact ⟨.inl ⟨rfl, vs, SqL.of h1⟩, lm_run hr S w .nil p1 q⟩
theorem rm_append {T : Tb} : RdM T rAppend lAppend := fun H0 H l vs ds xs es d' ds' s h1 h2 h3 e Q q => by
  unfold lAppend at e
  split at e
  · rename_i d
    split at e
    · rename_i hl
      injection e with e
      injection e with e1 e2
      subst e1 e2
      cases h3 with
      | cons k1 k2 =>
        cases k2
        exact ⟨l, vs, _, rfl, rfl, h1, by rw [h2.len]; exact Nat.lt_of_lt_of_le hl (by decide), q _ _ .non (h2.app (.cons k1 .nil))⟩
    · cases e
  · cases e
theorem rm_pop {T : Tb} : RdM T rPop lPop := fun H0 H l vs ds xs es d' ds' s h1 h2 h3 e Q q => by
  unfold lPop at e
  split at e
  · rename_i d hl
    injection e with e
    injection e with e1 e2
    subst e1 e2
    cases h3
    rw [List.getLast?_eq_getElem?] at hl
    obtain ⟨u, u1, u2⟩ := h2.got hl
    rw [← h2.len] at u1
    refine ⟨l, vs, u, rfl, rfl, h1, u1, q _ _ u2 ?_⟩
    rw [List.dropLast_eq_take, List.dropLast_eq_take, h2.len]
    exact h2.take _
  · cases e
end
end M
set_option Elab.async false
set_option linter.all false
set_option maxRecDepth 100000
set_option maxHeartbeats 1000000
namespace M
open PySem PySem.Spec PyProof.Rows L2
variable {W : Wo}
def subL (c : C) (x y : R) (e : Env) : SO := match x with
  | .al i p => match vw e (.al i p), snapR y e with
    | some (.lst cs), some (.int k) => match ixN cs.length k with
      | some n => match cs[n]?, c with
        | some (.dat _), .dat d => .nx (setE e i p (.lst (cs.set n (.dat d))))
        | _, _ => .bad
      | none => .bad
    | _, _ => .bad
  | _ => .bad
def subK (c : C) (x y : R) (e : Env) : SO := match x with
  | .al i p => match vw e (.al i p), (snapR y e).bind kdOf with
    | some (.dic t kvs), some k => if (decide (k.isT = t) && decide (kvs.length < LIM)) = true then (match kvs.lookup k with
        | some (.dat _) => (match c with
          | .dat d => .nx (setE e i p (.dic t (setK k (.dat d) kvs)))
          | _ => .bad)
        | some _ => .bad
        | none => .nx (setE e i p (.dic t (kvs ++ [(k, c)])))) else .bad
    | _, _ => .bad
  | _ => .bad
def isNd (c : Option C) : Bool := match c with
  | some (.dat (.ndc _)) => true
  | some (.ndc _) => true
  | _ => false
def putL (k : MN.NK) (d : D) (kvs : List (MN.NK × D)) : List (MN.NK × D) := if (kvs.lookup k).isSome = true then setK k d kvs else kvs ++ [(k, d)]
def subN (c : C) (x y : R) (e : Env) : SO := match x with
  | .al i p => match vw e (.al i p), (snapR y e).bind nkT, c with
    | some (.ndc kvs), some k, .dat d => if kvs.length < LIM then .nx (setE e i p (.ndc (putL k d kvs))) else .bad
    | _, _, _ => .bad
  | _ => .bad
def subD (c : C) (x y : R) (e : Env) : SO := if isNd (vw e x) = true then subN c x y e else subK c x y e
def mThree (g : Bool) (v o i : ME) (k : C → R → R → Env → SO) : MS := fun env => (v env).bindS fun r e1 => match chR r with
  | some c => (o e1).bindS fun x e2 => if (g || x.sh) = true then (i e2).bindS fun y e3 => k c x y e3 else .bad
  | none => .bad
def mSub (g : Bool) (v o i : ME) : MS := mThree g v o i fun c x y e => if isDic (vw e x) = true then subD c x y e else subL c x y e
def setFO (f : Nat) (c : C) (x : R) (e : Env) : SO := match x with
  | .al i p => match vw e (.al i p) with
    | some (.obj cl fs) => if (fldOk cl f && decide (fs.length < 900)) = true then (match fs.lookup f with
        | some (.dat _) => (match c with
          | .dat d => .nx (setE e i p (.obj cl (setK f (.dat d) fs)))
          | _ => .bad)
        | some _ => .bad
        | none => .nx (setE e i p (.obj cl (fs ++ [(f, c)])))) else .bad
    | _ => .bad
  | _ => .bad
def mSetF (f : Nat) (v o : ME) : MS := fun env => (v env).bindS fun r e1 => match chR r with
  | some c => (o e1).bindS fun x e2 => setFO f c x e2
  | none => .bad
section
variable {pu pb : Bool} {env0 env env' env2 : Env} {σ σ' σ2 : L2.St} {H0 H H0' H' A0 A B B' : Hp} {F FA F' F2 : List Addr} {v : V} {r : R} {d : D} {Z : Addr → Prop}
theorem putK_at {κ : Type} [DecidableEq κ] {k : κ} {u : V} : ∀ {ws : List (κ × V)} {n : Nat}, (ws.map (·.1)).Nodup → (ws.map (·.1))[n]? = some k → (putK ws k u).map (·.1) = ws.map (·.1) ∧ (putK ws k u).map (·.2) = (ws.map (·.2)).set n u := by
  intro ws n nd h
  have any : (ws.any fun kv => decide (kv.1 = k)) = true := by
    rw [List.any_eq_true]
    rw [List.getElem?_map, Option.map_eq_some_iff] at h
    obtain ⟨w, w1, w2⟩ := h
    exact ⟨w, List.mem_of_getElem? w1, by simpa using w2⟩
  unfold putK
  rw [if_pos any]
  clear any
  induction ws generalizing n with
  | nil => simp at h
  | cons w ws ih =>
    obtain ⟨j, y⟩ := w
    simp only [List.map_cons, List.nodup_cons] at nd
    cases n with
    | zero =>
      simp at h
      subst h
      have : ∀ ws : List (κ × V), j ∉ ws.map (·.1) → ws.map (fun kv => if kv.1 = j then (kv.1, u) else kv) = ws := fun ws => by
        induction ws with
        | nil => intro _; rfl
        | cons w ws ih2 =>
          intro hn
          simp only [List.map_cons, List.mem_cons, not_or] at hn
          rw [List.map_cons, ih2 hn.2, if_neg (fun z => hn.1 z.symm)]
      simp [this ws nd.1]
    | succ n =>
      have hk : j ≠ k := fun z => nd.1 (by rw [z]; exact List.mem_of_getElem? (by simpa using h))
      obtain ⟨h1, h2⟩ := ih nd.2 (n := n) (by simpa using h)
      simp [hk, h1, h2]
theorem putK_new {κ : Type} [DecidableEq κ] {k : κ} {u : V} {ws : List (κ × V)} (h : k ∉ ws.map (·.1)) : putK ws k u = ws ++ [(k, u)] := by
  unfold putK
  rw [if_neg]
  rw [List.any_eq_true]
  rintro ⟨w, w1, w2⟩
  exact h (List.mem_map.mpr ⟨w, w1, by simpa using w2⟩)
/-- what is put in -/
theorem child_new {c : C} {r : R} (O : Ok W env σ H0 H F) (e : chR r = some c) (w : VAL W Z env σ H0 H F v r) : ∃ Fc, Rep W.T H0 H c v Fc ∧ Fc.Nodup ∧ ∀ a ∈ Fc, a ∉ F ∧ H0 a = none ∧ Z a := by
  cases r with
  | dat d => simp [chR] at e; subst e; exact ⟨[], .dat w, .nil, fun a ha => by cases ha⟩
  | own c' => simp [chR] at e; subst e; obtain ⟨_, Fc, h1, h2, h3⟩ := w; exact ⟨Fc, h1, h2, fun a ha => ⟨(h3 a ha).2.1, (h3 a ha).1, (h3 a ha).2.2⟩⟩
  | al => cases e
theorem not_in_root {l : Addr} {F1 : List Addr} (h : (l :: F1).Nodup) : ∀ a ∈ F1, a ≠ l := fun a ha z => (List.nodup_cons.mp h).1 (by rw [← z]; exact ha)
theorem nodup_of_map {α β : Type} {g : α → β} : ∀ {l : List α}, (l.map g).Nodup → l.Nodup
  | [], _ => .nil
  | a :: l, h => by
    rw [List.map_cons, List.nodup_cons] at h
    exact List.nodup_cons.mpr ⟨fun z => h.1 (List.mem_map_of_mem z), nodup_of_map h.2⟩
section
variable {κ : Type} [DecidableEq κ] {g : κ → Kd} {ws : List (κ × V)} {kvs : List (Kd × C)} {k : κ} {T : Tb} {G : List Addr} {u : V}
theorem put_old (hg : ∀ a b, g a = g b → a = b) (m : kvs.map (·.1) = ws.map (fun w => g w.1)) (nn : (kvs.map (·.1)).Nodup) {d0 d1 : D} (h : kvs.lookup (g k) = some (.dat d0)) (r : Reps T H0 H (kvs.map (·.2)) (ws.map (·.2)) G) (du : Dd T H0 u d1) (hG : ∀ a ∈ G, H' a = H a) :
    (setK (g k) (C.dat d1) kvs).map (·.1) = (putK ws k u).map (fun w => g w.1) ∧ ((setK (g k) (C.dat d1) kvs).map (·.1)).Nodup ∧ ∃ G', Reps T H0 H' ((setK (g k) (C.dat d1) kvs).map (·.2)) ((putK ws k u).map (·.2)) G' ∧ G.Perm G' := by
  have m' : kvs.map (·.1) = (ws.map (·.1)).map g := by rw [m, List.map_map]; rfl
  have nw : (ws.map (·.1)).Nodup := by rw [m'] at nn; exact nodup_of_map nn
  obtain ⟨n, l1, l2, l3⟩ := lookup_ix h
  obtain ⟨z1, z2⟩ := ix_of_map hg m' l2 l3
  obtain ⟨q1, q2⟩ := putK_at (u := u) nw z1
  obtain ⟨s1, s2⟩ := setK_map (x := C.dat d1) l2 l3
  obtain ⟨v0, F3, G3, _, r3, pm, k3⟩ := r.focus l1
  cases r3 with
  | dat =>
    have pm : G.Perm G3 := pm
    obtain ⟨F5, r5, p5⟩ := k3 (Sm.refl H0) (fun a ha => hG a (pm.mem_iff.mpr ha)) (Rep.dat du)
    have p5 : F5.Perm G3 := p5
    refine ⟨?_, by rw [s1]; exact nn, F5, by rw [s2, q2]; exact r5, pm.trans p5.symm⟩
    rw [s1, m', ← q1, List.map_map]
    rfl
theorem put_new (hg : ∀ a b, g a = g b → a = b) (m : kvs.map (·.1) = ws.map (fun w => g w.1)) (nn : (kvs.map (·.1)).Nodup) {c : C} {Fc : List Addr} (h : kvs.lookup (g k) = none) (r : Reps T H0 H' (kvs.map (·.2)) (ws.map (·.2)) G) (rc : Rep T H0 H' c u Fc) :
    (kvs ++ [(g k, c)]).map (·.1) = (putK ws k u).map (fun w => g w.1) ∧ ((kvs ++ [(g k, c)]).map (·.1)).Nodup ∧ Reps T H0 H' ((kvs ++ [(g k, c)]).map (·.2)) ((putK ws k u).map (·.2)) (G ++ Fc) := by
  have m' : kvs.map (·.1) = (ws.map (·.1)).map g := by rw [m, List.map_map]; rfl
  rw [lookup_none] at h
  have nk : k ∉ ws.map (·.1) := fun z => h (by rw [m']; exact List.mem_map_of_mem z)
  rw [putK_new nk]
  refine ⟨by rw [List.map_append, List.map_append, m]; rfl, ?_, ?_⟩
  · rw [List.map_append, List.nodup_append]
    refine ⟨nn, by simp, fun a ha b hb z => ?_⟩
    simp at hb
    subst hb
    exact h (by rw [← z]; exact ha)
  · rw [List.map_append, List.map_append]
    exact r.snoc rc
end
/-- d[k] = v on a dict of one's own -/
theorem subK_run {c : C} {rv x y : R} {u w1 w2 : V} {d : De} {px : PX} (S : Stp W pu env0 σ A0 A FA env H0 H F) (ec : chR rv = some c) (wu : VAL W (Fre A FA) env σ H0 H F u rv) (wx : VAL W (Fre A FA) env σ H0 H F w1 x) (wy : VAL W (Fre A FA) env σ H0 H F w2 y) (p : SO.wp d px (subK c x y env)) :
    ∃ a H4 env' F', w1 = .ref a ∧ DPut H a w2 u H4 ∧ d.nx env' ∧ Stp W false env0 σ A0 A FA env' H0 H4 F' := by
  unfold subK at p
  split at p
  · rename_i i pp
    split at p
    · rename_i t kvs k e1 e2
      rw [Option.bind_eq_some_iff] at e2
      obtain ⟨dk, e2, e3⟩ := e2
      have kv := kdOf_eq S.ok.sm e3 (wy.snap S.ok e2)
      obtain ⟨Fc, rc, nc, fc⟩ := child_new S.ok ec wu
      split at p
      · rename_i ht
        rw [Bool.and_eq_true, decide_eq_true_eq, decide_eq_true_eq] at ht
        obtain ⟨ht, hlim⟩ := ht
        obtain ⟨F1, r1⟩ := VAL.vw S.ok e1 wx
        have gen : ∀ {l : Addr} {o' : HO} {kvs' : List (Kd × C)}, w1 = .ref l → (∀ F1, Rep W.T H0 H (.dic t kvs) (.ref l) F1 → F1.Nodup → (∀ a ∈ F1, a ∈ F) → ∃ F1', Rep W.T H0 (upd H l o') (.dic t kvs') (.ref l) F1' ∧ F1'.Nodup ∧ ∀ a ∈ F1', a ∈ F1 ∨ (a ∉ F ∧ H0 a = none ∧ Fre A FA a)) → ∃ F', Stp W false env0 σ A0 A FA (setE env i pp (.dic t kvs')) H0 (upd H l o') F' := fun {l o' kvs'} el mk => by
          subst el
          exact S.modify e1 rfl wx mk (fun _ f z => by simp [C.at] at z) fun _ f x' z => by simp [C.at] at z
        have newF : ∀ {l : Addr} {G : List Addr}, (l :: G).Nodup → (∀ a ∈ l :: G, a ∈ F) → (l :: (G ++ Fc)).Nodup ∧ (∀ a ∈ l :: (G ++ Fc), a ∈ l :: G ∨ (a ∉ F ∧ H0 a = none ∧ Fre A FA a)) ∧ (∀ {o'}, ∀ a ∈ Fc, upd H l o' a = H a) ∧ ∀ {o'}, ∀ a ∈ G, upd H l o' a = H a := fun {l G} n2 i2 => by
          have nl : l ∉ Fc := fun z => (fc l z).1 (i2 l (List.mem_cons_self ..))
          obtain ⟨n3, n4⟩ := List.nodup_cons.mp n2
          refine ⟨List.nodup_cons.mpr ⟨fun z => (List.mem_append.mp z).elim n3 nl, List.nodup_append.mpr ⟨n4, nc, fun a ha b hb z => (fc b hb).1 (by rw [← z]; exact i2 a (List.mem_cons_of_mem _ ha))⟩⟩, fun a ha => ?_, fun {o'} a ha => upd_ne fun z => nl (by rw [← z]; exact ha), fun {o'} a ha => upd_ne (not_in_root n2 a ha)⟩
          rcases List.mem_cons.mp ha with rfl | ha
          · exact .inl (List.mem_cons_self ..)
          · exact (List.mem_append.mp ha).imp (List.mem_cons_of_mem _) (fc a)
        cases r1 with
        | @dik l ws _ G h1 h2 h3 h4 =>
          have wl : ws.length < sizeLine := by
            have := congrArg List.length h2
            rw [List.length_map, List.length_map] at this
            exact Nat.lt_of_lt_of_le (by omega) (show LIM ≤ sizeLine by decide)
          cases k with
          | t => simp [Kd.isT] at ht
          | a k =>
            have uniq : ∀ {F1}, Rep W.T H0 H (.dic false kvs) (.ref l) F1 → ∃ G', F1 = l :: G' ∧ Reps W.T H0 H (kvs.map (·.2)) (ws.map (·.2)) G' := fun r2 => by
              cases r2 with
              | @dik _ ws' _ G' g1 g2 g3 g4 =>
                rw [h1] at g1
                injection g1 with g1
                injection g1 with g1
                subst g1
                exact ⟨G', rfl, g4⟩
            split at p
            · rename_i d0 hl
              split at p
              case h_2 => cases p
              rename_i d1
              have du : Dd W.T H0 u d1 := by cases rc with | dat rc => exact rc
              refine Exists.elim (gen (o' := .dK (putK ws k u)) (kvs' := setK (.a k) (.dat d1) kvs) rfl fun F1 r2 n2 i2 => ?_) fun F' S' => ⟨l, _, _, F', rfl, .inl ⟨ws, k, h1, kv, wl, rfl⟩, p, S'⟩
              obtain ⟨G', rfl, g4⟩ := uniq r2
              obtain ⟨a1, a2, G5, a3, a4⟩ := put_old kd_a h2 h3 hl g4 du (H' := upd H l (.dK (putK ws k u))) fun a ha => upd_ne (not_in_root n2 a ha)
              refine ⟨l :: G5, .dik upd_same a1 a2 a3, Nodup.of_perm (a4.cons l) n2, fun a ha => .inl ((a4.cons l).mem_iff.mpr ha)⟩
            · cases p
            · rename_i hl
              refine Exists.elim (gen (o' := .dK (putK ws k u)) (kvs' := kvs ++ [(.a k, c)]) rfl fun F1 r2 n2 i2 => ?_) fun F' S' => ⟨l, _, _, F', rfl, .inl ⟨ws, k, h1, kv, wl, rfl⟩, p, S'⟩
              obtain ⟨G', rfl, g4⟩ := uniq r2
              obtain ⟨b1, b2, b3, b4⟩ := newF n2 i2
              obtain ⟨a1, a2, a3⟩ := put_new kd_a h2 h3 hl (g4.mono (Sm.refl H0) b4) (rc.mono (Sm.refl H0) b3)
              exact ⟨_, .dik upd_same a1 a2 a3, b1, b2⟩
        | @dit l ws _ G h1 h2 h3 h4 =>
          have wl : ws.length < sizeLine := by
            have := congrArg List.length h2
            rw [List.length_map, List.length_map] at this
            exact Nat.lt_of_lt_of_le (by omega) (show LIM ≤ sizeLine by decide)
          cases k with
          | a => simp [Kd.isT] at ht
          | t k =>
            obtain ⟨bb, kv1, kv2⟩ := kv
            have uniq : ∀ {F1}, Rep W.T H0 H (.dic true kvs) (.ref l) F1 → ∃ G', F1 = l :: G' ∧ Reps W.T H0 H (kvs.map (·.2)) (ws.map (·.2)) G' := fun r2 => by
              cases r2 with
              | @dit _ ws' _ G' g1 g2 g3 g4 =>
                rw [h1] at g1
                injection g1 with g1
                injection g1 with g1
                subst g1
                exact ⟨G', rfl, g4⟩
            split at p
            · rename_i d0 hl
              split at p
              case h_2 => cases p
              rename_i d1
              have du : Dd W.T H0 u d1 := by cases rc with | dat rc => exact rc
              refine Exists.elim (gen (o' := .dT (putK ws k u)) (kvs' := setK (.t k) (.dat d1) kvs) rfl fun F1 r2 n2 i2 => ?_) fun F' S' => ⟨l, _, _, F', rfl, .inr ⟨ws, k, bb, h1, kv1, kv2, wl, rfl⟩, p, S'⟩
              obtain ⟨G', rfl, g4⟩ := uniq r2
              obtain ⟨a1, a2, G5, a3, a4⟩ := put_old kd_t h2 h3 hl g4 du (H' := upd H l (.dT (putK ws k u))) fun a ha => upd_ne (not_in_root n2 a ha)
              refine ⟨l :: G5, .dit upd_same a1 a2 a3, Nodup.of_perm (a4.cons l) n2, fun a ha => .inl ((a4.cons l).mem_iff.mpr ha)⟩
            · cases p
            · rename_i hl
              refine Exists.elim (gen (o' := .dT (putK ws k u)) (kvs' := kvs ++ [(.t k, c)]) rfl fun F1 r2 n2 i2 => ?_) fun F' S' => ⟨l, _, _, F', rfl, .inr ⟨ws, k, bb, h1, kv1, kv2, wl, rfl⟩, p, S'⟩
              obtain ⟨G', rfl, g4⟩ := uniq r2
              obtain ⟨b1, b2, b3, b4⟩ := newF n2 i2
              obtain ⟨a1, a2, a3⟩ := put_new kd_t h2 h3 hl (g4.mono (Sm.refl H0) b4) (rc.mono (Sm.refl H0) b3)
              exact ⟨_, .dit upd_same a1 a2 a3, b1, b2⟩
      · cases p
    · cases p
  · cases p
theorem DdAll.setAt {T : Tb} {v : V} {d : D} (dv : Dd T H0 v d) : ∀ {us : List V} {ds : List D} {n : Nat}, DdAll T H0 us ds → DdAll T H0 (us.set n v) (ds.set n d)
  | _, _, _, .nil => .nil
  | _, _, 0, .cons _ t => .cons dv t
  | _, _, _ + 1, .cons h t => .cons h (t.setAt dv)
theorem putL_keys {k : MN.NK} {d : D} {kvs : List (MN.NK × D)} {ws : List MN.NE} {b : Addr} {v : V} (m : kvs.map (·.1) = ws.map (·.1)) (nn : (kvs.map (·.1)).Nodup) {T : Tb} (da : DdAll T H0 (ws.map (·.2.2)) (kvs.map (·.2))) (dv : Dd T H0 v d) :
    (putL k d kvs).map (·.1) = (MN.putN ws k b v).map (·.1) ∧ ((putL k d kvs).map (·.1)).Nodup ∧ DdAll T H0 ((MN.putN ws k b v).map (·.2.2)) ((putL k d kvs).map (·.2)) := by
  have m1 : (MN.pvN ws).map (·.1) = ws.map (·.1) := by unfold MN.pvN; rw [List.map_map]; rfl
  have m2 : (MN.pvN ws).map (·.2) = ws.map (·.2.2) := by unfold MN.pvN; rw [List.map_map]; rfl
  have f1 : (MN.putN ws k b v).map (·.1) = (putK (MN.pvN ws) k v).map (·.1) := by
    rw [← MN.pv_put (b := b)]; unfold MN.pvN; rw [List.map_map]; rfl
  have f2 : (MN.putN ws k b v).map (·.2.2) = (putK (MN.pvN ws) k v).map (·.2) := by
    rw [← MN.pv_put (b := b)]; unfold MN.pvN; rw [List.map_map]; rfl
  rw [f1, f2]
  unfold putL
  cases z : kvs.lookup k with
  | some x =>
    simp only [Option.isSome_some, if_true]
    obtain ⟨n, l1, l2, l3⟩ := lookup_ix z
    have nn2 : ((MN.pvN ws).map (·.1)).Nodup := by rw [m1, ← m]; exact nn
    obtain ⟨p1, p2⟩ := putK_at (u := v) nn2 (show ((MN.pvN ws).map (·.1))[n]? = some k by rw [m1, ← m]; exact l2)
    obtain ⟨q1, q2⟩ := setK_map (x := d) l2 l3
    refine ⟨by rw [q1, p1, m1, m], by rw [q1]; exact nn, ?_⟩
    rw [q2, p2, m2]
    clear p1 p2 q1 q2 nn2 f1 f2 m1 m2 l2 l3 z
    revert l1
    generalize (kvs.map (·.2)) = ds at da ⊢
    generalize (ws.map (·.2.2)) = us at da ⊢
    intro l1
    exact da.setAt dv
  | none =>
    simp only [Option.isSome_none, Bool.false_eq_true, if_false]
    have hk := lookup_none.mp z
    have nk : k ∉ (MN.pvN ws).map (·.1) := by rw [m1, ← m]; exact hk
    rw [M.putK_new nk]
    refine ⟨?_, ?_, ?_⟩
    · rw [List.map_append, List.map_append, m1, m]; rfl
    · rw [List.map_append]
      exact List.nodup_append.mpr ⟨nn, by simp, fun x hx y hy z => hk (by
        have : y = k := by simpa using hy
        rw [← this, ← z]; exact hx)⟩
    · rw [List.map_append, List.map_append, m2]
      exact da.app (.cons dv .nil)
theorem subN_run {c : C} {rv x y : R} {u w1 w2 : V} {d : De} {px : PX} (S : Stp W pu env0 σ A0 A FA env H0 H F) (ec : chR rv = some c) (wu : VAL W (Fre A FA) env σ H0 H F u rv) (wx : VAL W (Fre A FA) env σ H0 H F w1 x) (wy : VAL W (Fre A FA) env σ H0 H F w2 y) (p : SO.wp d px (subN c x y env)) :
    ∃ a H4 env' F', w1 = .ref a ∧ MN.DPm W.T.P W.T.w H a w2 u H4 ∧ d.nx env' ∧ Stp W false env0 σ A0 A FA env' H0 H4 F' := by
  unfold subN at p
  split at p
  · rename_i i pp
    split at p
    · rename_i kvs k d1 e1 e2
      rw [Option.bind_eq_some_iff] at e2
      obtain ⟨dk, e2, e3⟩ := e2
      obtain ⟨b, rfl, nv, hd⟩ := nkT_nv S.ok.sm e3 (wy.snap S.ok e2)
      obtain ⟨Fc, rc, nc, fc⟩ := child_new S.ok ec wu
      have du : Dd W.T H0 u d1 := by cases rc with | dat rc => exact rc
      split at p
      · rename_i hlim
        obtain ⟨F1, r1⟩ := VAL.vw S.ok e1 wx
        cases r1 with
        | @ndc l ws _ h1 h2 h3 h4 h5 =>
          have up : ∀ b ys, H0 b = some (.tup ys) → H b = some (.tup ys) := fun b ys q => S.ok.sm _ _ q
          have wl : ws.length < sizeLine := by
            have := congrArg List.length h3
            rw [List.length_map, List.length_map] at this
            exact Nat.lt_of_lt_of_le (by omega) (show LIM ≤ sizeLine by decide)
          obtain ⟨a1, a2, a3⟩ := putL_keys (k := k) (b := b) h3 h4 h5 du
          have st : ∃ F', Stp W false env0 σ A0 A FA (setE env i pp (.ndc (putL k d1 kvs))) H0 (upd H l (MN.ndO W.T.P W.T.w l (MN.putN ws k b u))) F' := by
            refine S.modify e1 rfl wx (fun F1 r2 n2 i2 => ?_) (fun _ f z => by simp [C.at] at z) fun _ f x' z => by simp [C.at] at z
            cases r2 with
            | ndc => exact ⟨[l], .ndc upd_same (h2.put nv hd) a1 a2 a3, n2, fun a ha => .inl ha⟩
          obtain ⟨F', st⟩ := st
          exact ⟨l, _, _, F', rfl, .inr ⟨ws, k, b, h1, h2.mono up, rfl, nv.mono up, hd, wl, rfl⟩, p, st⟩
      · cases p
    · cases p
  · cases p
theorem subD_run {c : C} {rv x y : R} {u w1 w2 : V} {d : De} {px : PX} (S : Stp W pu env0 σ A0 A FA env H0 H F) (ec : chR rv = some c) (wu : VAL W (Fre A FA) env σ H0 H F u rv) (wx : VAL W (Fre A FA) env σ H0 H F w1 x) (wy : VAL W (Fre A FA) env σ H0 H F w2 y) (p : SO.wp d px (subD c x y env)) :
    ∃ a H4 env' F', w1 = .ref a ∧ MN.DPm W.T.P W.T.w H a w2 u H4 ∧ d.nx env' ∧ Stp W false env0 σ A0 A FA env' H0 H4 F' := by
  unfold subD at p
  split at p
  · exact subN_run S ec wu wx wy p
  · obtain ⟨a, H4, env', F', h1, h2, h3, h4⟩ := subK_run S ec wu wx wy p
    exact ⟨a, H4, env', F', h1, .inl h2, h3, h4⟩
/-- xs[i] = v on a list of one's own -/
theorem subL_run {c : C} {rv x y : R} {u w1 w2 : V} {d : De} {px : PX} (S : Stp W pu env0 σ A0 A FA env H0 H F) (ec : chR rv = some c) (wu : VAL W (Fre A FA) env σ H0 H F u rv) (wx : VAL W (Fre A FA) env σ H0 H F w1 x) (wy : VAL W (Fre A FA) env σ H0 H F w2 y) (p : SO.wp d px (subL c x y env)) :
    ∃ a vs k j env' F', w1 = .ref a ∧ w2 = .int k ∧ H a = some (.lst vs) ∧ ixN vs.length k = some j ∧ d.nx env' ∧ Stp W false env0 σ A0 A FA env' H0 (upd H a (.lst (vs.set j u))) F' := by
  unfold subL at p
  split at p
  · rename_i i pp
    split at p
    · rename_i cs k e1 e2
      have := (wy.snap S.ok e2).int_inv
      subst this
      split at p
      · rename_i n en
        split at p
        · rename_i d0 d1 en2
          have du : Dd W.T H0 u d1 := by
            obtain ⟨Fc, rc, _⟩ := child_new S.ok ec wu
            cases rc with | dat rc => exact rc
          obtain ⟨F1, r1⟩ := VAL.vw S.ok e1 wx
          cases r1 with
          | @lst l vs _ G h1 h2 =>
            refine Exists.elim (S.modify (o' := .lst (vs.set n u)) (c' := .lst (cs.set n (.dat d1))) e1 rfl wx (fun F1 r2 n2 i2 => ?_) (fun _ f z => by simp [C.at] at z) fun _ f x' z => by simp [C.at] at z) fun F' S' => ⟨l, vs, k, n, _, F', rfl, rfl, h1, by rw [← h2.len]; exact en, p, S'⟩
            cases r2 with
            | @lst _ vs' _ G' g1 g2 =>
              rw [h1] at g1
              injection g1 with g1
              injection g1 with g1
              subst g1
              obtain ⟨v0, F3, G3, _, r3, pm, k3⟩ := g2.focus en2
              cases r3 with
              | dat =>
                have pm : G'.Perm G3 := pm
                obtain ⟨F5, r5, p5⟩ := k3 (H' := upd H l (.lst (vs.set n u))) (Sm.refl H0) (fun a ha => upd_ne (not_in_root n2 a (pm.mem_iff.mpr ha))) (Rep.dat du)
                have p5 : F5.Perm G3 := p5
                exact ⟨l :: F5, .lst upd_same r5, Nodup.of_perm ((pm.trans p5.symm).cons l) n2, fun a ha => .inl (((pm.trans p5.symm).cons l).mem_iff.mpr ha)⟩
        · cases p
      · cases p
    · cases p
  · cases p
theorem rs_three {tv to ti : TE} {mv mo mi : ME} {g : Bool} {k : C → R → R → Env → SO} (hv : RfE W false tv mv) (ho : RfE W false to mo) (hi : RfE W pb ti mi) (hg : g = true → pb = true) {d : De} {px : PX} (p : SO.wp d px (mThree g mv mo mi k env)) (O : Ok W env σ H0 H F) (X : ErrOk W px env σ H0 H F) (Q : V → V → V → Hp → Prop)
    (q : ∀ u v w c rv x y env' H0' H' F', SO.wp d px (k c x y env') → Stp W false env σ H0 H F env' H0' H' F' → chR rv = some c → VAL W (Fre H F) env' σ H0' H' F' u rv → VAL W (Fre H F) env' σ H0' H' F' v x → VAL W (Fre H F) env' σ H0' H' F' w y → Q u v w H') : tv σ H fun u H1 => to σ H1 fun v H2 => ti σ H2 fun w H3 => Q u v w H3 := by
  unfold mThree at p
  rw [wp_bindS] at p
  refine hv env _ px p σ H0 H F O X _ fun u rv env1 A0 A FA p1 S wv => ?_
  split at p1
  · rename_i c ec
    rw [wp_bindS] at p1
    refine ho env1 _ px p1 σ A0 A FA S.ok (X.chg S.chg) _ fun v x env2 B0 B FB p2 S2 wx => ?_
    split at p2
    · rename_i sh
      rw [Bool.or_eq_true] at sh
      rw [wp_bindS] at p2
      refine hi env2 _ px p2 σ B0 B FB S2.ok (X.chg (S.trans S2).chg) _ fun w y env3 C0 C1 FC p3 S3 wy => ?_
      have shv : rv.sh = true := by
        cases rv with
        | al => cases ec
        | _ => rfl
      have S3' := S3.to (pu := false) fun z => by cases z
      exact q u v w c rv x y env3 C0 C1 FC p3 ((S.trans S2).trans S3') ec ((wv.stp S2 (.inr shv)).stp S3' (.inr shv)) ((wx.stp S3 (sh.imp hg id)).base fun l z => S.hg.fre z) (wy.base fun l z => (S.trans S2).hg.fre z)
    · cases p2
  · cases p1
theorem rs_orS {t1 t2 : TS} {m m1 m2 : MS} (h1 : RfS W t1 m1) (h2 : RfS W t2 m2) (h : ∀ env, m env = m1 env ∨ m env = m2 env) : RfS W (fun D σ H => t1 D σ H ∨ t2 D σ H) m := fun env d px p σ H0 H F O X D e => by
  rcases h env with z | z
  · rw [z] at p; exact .inl (h1 env d px p σ H0 H F O X D e)
  · rw [z] at p; exact .inr (h2 env d px p σ H0 H F O X D e)
theorem mThree_or {g : Bool} {v o i : ME} {k k1 k2 : C → R → R → Env → SO} (h : ∀ c x y e, k c x y e = k1 c x y e ∨ k c x y e = k2 c x y e) (env : Env) : mThree g v o i k env = mThree g v o i k1 env ∨ mThree g v o i k env = mThree g v o i k2 env := by
  unfold mThree
  cases v env with
  | bad => exact .inl rfl
  | ex => exact .inl rfl
  | ok r e1 =>
    simp only [bindS_ok]
    cases chR r with
    | none => exact .inl rfl
    | some c =>
      dsimp only
      cases o e1 with
      | bad => exact .inl rfl
      | ex => exact .inl rfl
      | ok x e2 =>
        simp only [bindS_ok]
        split
        · cases i e2 with
          | bad => exact .inl rfl
          | ex => exact .inl rfl
          | ok y e3 => exact h c x y e3
        · exact .inl rfl
theorem rs_sub {P : Program} {w : World} (hP : W.T.P = P) (hw : W.T.w = w) {tv to ti : TE} {mv mo mi : ME} {g : Bool} (hv : RfE W false tv mv) (ho : RfE W false to mo) (hi : RfE W pb ti mi) (hg : g = true → pb = true) : RfS W (fun D σ H => tAsg tv (gSub to ti rSetL) D σ H ∨ MN.sNPut P w to ti tv D σ H) (mSub g mv mo mi) := by
  subst hP hw
  exact rs_orS (m1 := mThree g mv mo mi subL) (m2 := mThree g mv mo mi subD)
    (fun env d px p σ H0 H F O X D e => by
      refine rs_three hv ho hi hg p O X (fun u v w H3 => rSetL v w u H3 fun H4 => D.nx σ H4) fun u v w c rv x y env' H0' H' F' p S ec wu wx wy => ?_
      obtain ⟨a, vs, k, j, env2, F2, rfl, rfl, h1, h2, h3, S2⟩ := subL_run S ec wu wx wy p
      exact ⟨a, vs, k, j, rfl, rfl, h1, h2, e.nx _ _ _ _ _ h3 S2.chg⟩)
    (fun env d px p σ H0 H F O X D e => by
      refine rs_three hv ho hi hg p O X (fun u v w H3 => ∃ a H4, v = .ref a ∧ MN.DPm W.T.P W.T.w H3 a w u H4 ∧ D.nx σ H4) fun u v w c rv x y env' H0' H' F' p S ec wu wx wy => ?_
      obtain ⟨a, H4, env2, F2, rfl, h1, h2, S2⟩ := subD_run S ec wu wx wy p
      exact ⟨a, H4, rfl, h1, e.nx _ _ _ _ _ h2 S2.chg⟩)
    fun env => mThree_or (fun c x y e => by
      by_cases h : isDic (vw e x) = true
      · exact .inr (if_pos h)
      · exact .inl (if_neg h)) env
end
end M
set_option Elab.async false
set_option linter.all false
set_option maxRecDepth 100000
set_option maxHeartbeats 1000000
namespace MR
open PySem PySem.Spec PyProof.Rows L2
def perm {α : Type} (ix : List Nat) (xs : List α) : List α := ix.filterMap fun i => xs[i]?
section
variable {vs : List V}
theorem perm_vals {vs : List V} {us : List Value} (h : Vals vs us) : ∀ ix : List Nat, Vals (perm ix vs) (perm ix us)
  | [] => .nil
  | i :: ix => by
    have ih := perm_vals h ix
    unfold perm at ih ⊢
    rw [List.filterMap_cons, List.filterMap_cons]
    cases e : vs[i]? with
    | none =>
      rw [h.none_of e]
      exact ih
    | some v =>
      obtain ⟨u, h1, h2⟩ := h.get e
      rw [h1]
      exact .cons h2 ih
end
/-- how keywords alone bind -/
def KwBinds (K : PySem.W.Frag) (fd : FuncData) (ps ks : List Str) (ix : List Nat) : Prop := ∀ (s : Shared) (ws : List Value), K.In s.heap → ws.length = ks.length → BindsTo s fd ⟨[], ks.zip ws⟩ (ps.zip (perm ix ws))
end MR
namespace L2
open PySem PySem.Spec PyProof.Rows
theorem Fun.kw {K : PySem.W.Frag} {x qual : Str} {st : Stmt} {f : Addr} {fd : FuncData} {ps ks : List Str} {ix : List Nat} (F : Fun K x qual st f fd)
    (h : ∀ (kV doc pm : Value) (an : Option Addr) (cdv ct : Value) (ws : List Value), ws.length = ks.length → bindArgs (PySem.W.fnOf x qual (defArgs st) (defBody st) (defScope st) .none kV doc pm an cdv ct) ⟨[], ks.zip ws⟩ = pure (ps.zip (MR.perm ix ws))) : MR.KwBinds K fd ps ks ix := by
  obtain ⟨oc, od, kV, doc, pm, an, cdv, ct, osl, rfl, lk, hcd⟩ := F.ex
  intro s ws _ hl
  exact .of_eq (h kV doc pm an cdv ct ws hl)
end L2
namespace MR
open PySem PySem.Spec PyProof.Rows L2
mutual
def ltP : PyData → PyData → Bool
  | .int i, .int j => decide (i < j)
  | .tuple xs, .tuple ys => ltPs xs ys
  | _, _ => false
def ltPs : List PyData → List PyData → Bool
  | [], [] => false
  | [], _ :: _ => true
  | _ :: _, [] => false
  | x :: xs, y :: ys => if PyData.eqv x y = true then ltPs xs ys else ltP x y
end
mutual
def okP : PyData → PyData → Bool
  | .int _, .int _ => true
  | .tuple xs, .tuple ys => okPs xs ys
  | _, _ => false
def okPs : List PyData → List PyData → Bool
  | x :: xs, y :: ys => okP x y && okPs xs ys
  | _, _ => true
end
theorem okPs_at : ∀ {xs ys : List PyData} {j : Nat} {x y : PyData}, okPs xs ys = true → xs[j]? = some x → ys[j]? = some y → okP x y = true
  | [], _, _, _, _, _, h, _ => by simp at h
  | _ :: _, [], _, _, _, _, _, h => by simp at h
  | x :: xs, y :: ys, 0, _, _, h, e, f => by
    simp at e f
    subst e
    subst f
    simp [okPs] at h
    exact h.1
  | x :: xs, y :: ys, j + 1, _, _, h, e, f => by
    simp [okPs] at h
    exact okPs_at (j := j) h.2 (by simpa using e) (by simpa using f)
theorem lexAt_shift {e r : Nat → Bool} {z : Bool} : ∀ (k i : Nat), Ob.lexAt e r z (i + 1) k = Ob.lexAt (fun j => e (j + 1)) (fun j => r (j + 1)) z i k
  | 0, _ => rfl
  | k + 1, i => by
    rw [Ob.lexAt_succ, Ob.lexAt_succ, lexAt_shift k (i + 1)]
theorem lexAt_ltPs : ∀ (xs ys : List PyData), Ob.lexAt (fun j => PyData.eqv (xs.getD j .none) (ys.getD j .none)) (fun j => ltP (xs.getD j .none) (ys.getD j .none)) (decide (xs.length < ys.length)) 0 (min xs.length ys.length) = ltPs xs ys
  | [], [] => by simp [ltPs, Ob.lexAt]
  | [], y :: ys => by simp [ltPs, Ob.lexAt]
  | x :: xs, [] => by simp [ltPs, Ob.lexAt]
  | x :: xs, y :: ys => by
    have ih := lexAt_ltPs xs ys
    have hm : min (x :: xs).length (y :: ys).length = min xs.length ys.length + 1 := by simp only [List.length_cons]; omega
    rw [hm, Ob.lexAt_succ, lexAt_shift]
    show (if PyData.eqv x y = true then Ob.lexAt (fun j => PyData.eqv (xs.getD j .none) (ys.getD j .none)) (fun j => ltP (xs.getD j .none) (ys.getD j .none)) (decide ((x :: xs).length < (y :: ys).length)) 0 (min xs.length ys.length) else ltP x y) = ltPs (x :: xs) (y :: ys)
    have hd : decide ((x :: xs).length < (y :: ys).length) = decide (xs.length < ys.length) := by
      simp only [List.length_cons]
      by_cases h : xs.length < ys.length
      · rw [decide_eq_true h, decide_eq_true (by omega)]
      · rw [decide_eq_false h, decide_eq_false (by omega)]
    rw [hd, ih]
    simp [ltPs]
theorem readsAll_at {h : Heap} : ∀ {us : List Value} {ds : List PyData} {as : List Addr} {j : Nat} {u : Value}, ReadsAll h us ds as → us[j]? = some u → ∃ d as', ds[j]? = some d ∧ Reads h u d as'
  | _, _, _, _, _, .nil, e => by simp at e
  | _, _, _, 0, _, .cons r _, e => by
    simp at e
    subst e
    exact ⟨_, _, rfl, r⟩
  | _, _, _, j + 1, u, .cons _ t, e => by
    obtain ⟨d, as', h1, h2⟩ := readsAll_at (j := j) (u := u) t (by simpa using e)
    exact ⟨d, as', by simpa using h1, h2⟩
theorem readsAll_len {h : Heap} : ∀ {us : List Value} {ds : List PyData} {as : List Addr}, ReadsAll h us ds as → us.length = ds.length
  | _, _, _, .nil => rfl
  | _, _, _, .cons _ t => congrArg Nat.succ (readsAll_len t)
theorem canLayAll_at : ∀ {xs : List PyData} {j : Nat} {x : PyData}, PyData.canLayAll0 xs = true → xs[j]? = some x → x.canLay0 = true
  | [], _, _, _, e => by simp at e
  | x :: xs, 0, _, h, e => by
    simp at e
    subst e
    simp [PyData.canLayAll0] at h
    exact h.1
  | x :: xs, j + 1, _, h, e => by
    simp [PyData.canLayAll0] at h
    exact canLayAll_at (j := j) h.2 (by simpa using e)
theorem depthAll_at : ∀ {xs : List PyData} {j : Nat} {x : PyData}, xs[j]? = some x → x.depth ≤ PyData.depthAll xs
  | [], _, _, e => by simp at e
  | x :: xs, 0, _, e => by
    simp at e
    subst e
    simp only [PyData.depthAll]
    omega
  | x :: xs, j + 1, _, e => by
    have := depthAll_at (xs := xs) (j := j) (by simpa using e)
    simp only [PyData.depthAll]
    omega
theorem lt_reads : ∀ (n : Nat) (da db : PyData) (A : Around) (s : Shared) (a b : Value) (as bs : List Addr), da.depth ≤ n → Reads s.heap a da as → Reads s.heap b db bs → da.canLay0 = true → db.canLay0 = true → okP da db = true → A.units + da.depth < cLine → Ob.RcOp .Lt A s a b (ltP da db) := by
  intro n
  induction n with
  | zero =>
    intro da db A s a b as bs hd ra rb ca cb ok hu
    cases ra with
    | int i t =>
      cases rb with
      | int j u =>
        simp only [ltP]
        exact Ob.RcOp.lt_int i j t u
      | _ => simp [okP] at ok
    | tuple _ _ _ _ =>
      simp [PyData.depth] at hd
    | _ => simp [okP] at ok
  | succ n ih =>
    intro da db A s a b as bs hd ra rb ca cb ok hu
    cases ra with
    | int i t =>
      cases rb with
      | int j u =>
        simp only [ltP]
        exact Ob.RcOp.lt_int i j t u
      | _ => simp [okP] at ok
    | @tuple p o vs k xs as' h1 h2 h3 h4 =>
      cases rb with
      | @tuple q o2 ws k2 ys bs' g1 g2 g3 g4 =>
        simp only [ltP]
        simp only [okP] at ok
        simp only [PyData.depth] at hd hu
        have ca' : PyData.canLayAll0 xs = true := by simpa [PyData.canLay0] using ca
        have cb' : PyData.canLayAll0 ys = true := by simpa [PyData.canLay0] using cb
        have l1 : vs.size = xs.length := by
          have := readsAll_len h4
          simpa using this
        have l2 : ws.size = ys.length := by
          have := readsAll_len g4
          simpa using this
        have R := Ob.RcOp.tuples_lt (A := A) (s := s) (l := p) (b := q) (items := vs) (items2 := ws) (e := fun j => PyData.eqv (xs.getD j .none) (ys.getD j .none)) (r := fun j => ltP (xs.getD j .none) (ys.getD j .none))
          ⟨o, h1, h2, k, h3⟩ ⟨o2, g1, g2, k2, g3⟩ (by omega) (fun j j1 j2 => ?_) (fun j j1 j2 _ => ?_)
        · rw [l1, l2, lexAt_ltPs] at R
          exact R
        · obtain ⟨d, as1, e1, r1⟩ := readsAll_at (j := j) (u := vs[j]) h4 (by rw [List.getElem?_eq_getElem (by simpa using j1)]; simp)
          obtain ⟨d2, as2, e2, r2⟩ := readsAll_at (j := j) (u := ws[j]) g4 (by rw [List.getElem?_eq_getElem (by simpa using j2)]; simp)
          have hdp := depthAll_at e1
          rw [List.getD_eq_getElem?_getD, List.getD_eq_getElem?_getD, e1, e2]
          exact SeqAt.eqAt_reads d d2 A.in1 s _ _ _ _ r1 r2 (canLayAll_at ca' e1) (canLayAll_at cb' e2) (by
            show A.units + 1 + min d.depth d2.depth < cLine
            have : min d.depth d2.depth ≤ d.depth := Nat.min_le_left _ _
            omega)
        · obtain ⟨d, as1, e1, r1⟩ := readsAll_at (j := j) (u := vs[j]) h4 (by rw [List.getElem?_eq_getElem (by simpa using j1)]; simp)
          obtain ⟨d2, as2, e2, r2⟩ := readsAll_at (j := j) (u := ws[j]) g4 (by rw [List.getElem?_eq_getElem (by simpa using j2)]; simp)
          have hdp := depthAll_at e1
          rw [List.getD_eq_getElem?_getD, List.getD_eq_getElem?_getD, e1, e2]
          exact ih d d2 A.in1 s _ _ _ _ (by omega) r1 r2 (canLayAll_at ca' e1) (canLayAll_at cb' e2) (okPs_at ok e1 e2) (by
            show A.units + 1 + d.depth < cLine
            omega)
      | _ => simp [okP] at ok
    | _ => simp [okP] at ok
def rLtD (K : PySem.W.Frag) : R2 := fun x y H Q => ∃ d e, Dp K H x d ∧ Dp K H y e ∧ SeqAt.shaped d = true ∧ SeqAt.shaped e = true ∧ okP d e = true ∧ Q (.bl (ltP d e)) H
theorem op_ltD {X : Cx} (hu : X.A.units + 64 < cLine) : OpR X (compareOp .Lt) (rLtD X.K) := by
  intro pins s σ H x y v u Q I rx ry h
  obtain ⟨d, e, hd, he, sd, se, ok, q⟩ := h
  obtain ⟨as, r1⟩ := Dp.reads I d x v hd rx
  obtain ⟨bs, r2⟩ := Dp.reads I e y u he ry
  have dd := SeqAt.depth_of_shaped sd
  exact lt_reads d.depth d e X.A s v u as bs (Nat.le_refl _) r1 r2 (SeqAt.canLay_of_shaped sd) (SeqAt.canLay_of_shaped se) ok (by omega) X.prog X.w X.xe _ ⟨.bl _, H, I, rfl, q⟩
def rReprD (K : PySem.W.Frag) : List V → Hp → VK → Prop := fun xs H Q => ∃ x d, xs = [x] ∧ Dp K H x d ∧ d.showable = true ∧ d.depth ≤ 60 ∧ d.shown.length ≤ sizeLine ∧ Q (.str d.shown) H
structure FnG (P : Program) (w : World) (K : PySem.W.Frag) (mg : Str → Option Value) (base : Heap) (CX : CXT) (k : Nat) (f : Addr) (fd : FuncData) (ps : List Str) (sp : Sp) : Prop where
  len : ∀ vs H Q E, sp vs H Q E → vs.length = ps.length
  run : ∀ (A : Around) (outer : List Env) (s : Shared) (H : Hp) (args : Args) (us : List Value) (vs : List V) (Q : VK) (E : XK), A.guards = some [] → Room k A → Env0 P w K mg base A outer s H →
    BindsTo s fd args (ps.zip us) → Vals vs us → sp vs H Q E → codeAny (model P w) A (.call (.ref f) args) (CR CX outer P w H s Q E) s
section
variable {P : Program} {w : World} {K : PySem.W.Frag} {mg : Str → Option Value} {base : Heap} {CX : CXT}
theorem FnG.of {k : Nat} {f : Addr} {fd : FuncData} {ps : List Str} {sp : Sp} (F : FnOk P w K mg base CX k f fd ps sp) : FnG P w K mg base CX k f fd ps sp :=
  ⟨F.len, fun A outer s H args us vs Q E _ hr he hb hv hs => F.run A outer s H args us vs Q E hr he hb hv hs⟩
/-- a def by its body -/
theorem fnG_of {k : Nat} {x qual : Str} {st : Stmt} {f : Addr} {fd : FuncData} {N ps : List Str} {sp : Sp} (F : Fun K x qual st f fd) (S : FnScope N ps (defScope st)) (len : ∀ vs H Q E, sp vs H Q E → vs.length = ps.length)
    (body : ∀ (cdv : Value) (A : Around) (outer : List Env) (s : Shared) (H : Hp) (vs : List V) (Q : VK) (E : XK), A.guards = some [] → Room k (A.deeper (envOfC qual (defScope st) s.heap.objs.size f cdv)) → sp vs H Q E →
      ∃ t, PSs (cxOf CX P w K mg base N qual (defScope st) f cdv A outer s H E) (defBody st) t ∧ t { nx := fun _ H' => Q .non H', rt := Q } (L2.start N vs) H) : FnG P w K mg base CX (k + 1) f fd ps sp := by
  obtain ⟨oc, od, kV, doc, pm, an, cdv, ct, osl, rfl, lk, hcd⟩ := F.ex
  refine ⟨len, fun A outer s H args us vs Q E hg room env binds vals want => ?_⟩
  have inK : K.In s.heap := env.mod.kin.keeps fun b o e => (env.bs b o e).1
  have kinds : ∀ y ∈ ps.zip us, (defScope st).names.lookup y.1 = some .local ∨ ((defScope st).names.lookup y.1 = some .cell ∧ ((cellsFrom (s.heap.objs.size + 1) (defScope st).names []).lookup y.1).isSome = true) := by
    rintro ⟨a, b⟩ hy
    cases S.par a (List.of_mem_zip hy).1 with
    | inl q => exact .inl q
    | inr q => exact .inr ⟨q, PySem.W.cellsFrom_some _ _ _ (.inl q)⟩
  apply codeAny_call_function room.depth (inK _ _ lk) rfl S.co S.gen rfl (PySem.W.codeRec_of inK hcd)
  apply binds
  refine wpAny_newFunctionEnv_cells S.kind kinds fun env' he s1 y => ?_
  cases he
  refine ⟨(env.mod.nolimit.keeps fun b o e => (env.bs b o e).1).keeps y.toInCall.keep, codeAny_func ?_⟩
  obtain ⟨t, ht, hq⟩ := body cdv A outer s H vs Q E hg (room.deeper _) want
  have J : L2.Inv (cxOf CX P w K mg base N qual (defScope st) f cdv A outer s H E) [] (L2.start N vs) H s1 := inv_start S room.hd env (len _ _ _ _ want) vals y
  refine wpAny_mono (ht.run [] s1 (L2.start N vs) H _ J hq) (fun fl s' h => ?_) fun e s' h => h
  cases fl with
  | ret u =>
    obtain ⟨v, σ', H', I, r, q⟩ := h
    exact ⟨v, H', I.os, I.bare, I.base, I.hok, r, q⟩
  | next =>
    obtain ⟨σ', H', I, q⟩ := h
    exact ⟨V.non, H', I.os, I.bare, I.base, I.hok, rfl, q⟩
  | brk =>
    obtain ⟨_, _, _, z⟩ := h
    exact z.elim
  | cont =>
    obtain ⟨_, _, _, z⟩ := h
    exact z.elim
theorem okG {x qual : Str} {st : Stmt} {f : Addr} {fd : FuncData} {N ps : List Str} {k : Nat} {sp : Sp} (F : Fun K x qual st f fd) (S : FnScope N ps (defScope st)) (len : ∀ vs H Q E, sp vs H Q E → vs.length = ps.length)
    (body : ∀ (cdv : Value) (A : Around) (outer : List Env) (s : Shared) (H : Hp) (vs : List V) (Q : VK) (E : XK), A.guards = some [] → Room k (A.deeper (envOfC qual (defScope st) s.heap.objs.size f cdv)) → sp vs H Q E →
      ∃ t, PSs (cxOf CX0 P w K mg base N qual (defScope st) f cdv A outer s H E).nox (defBody st) t ∧ t { nx := fun _ H' => Q .non H', rt := Q } (L2.start N vs) H) : FnG P w K mg base CX0 (k + 1) f fd ps sp :=
  fnG_of F S len fun cdv A outer s H vs Q E hg hr h => by
    obtain ⟨t, h1, h2⟩ := body cdv A outer s H vs Q E hg hr h
    exact ⟨t, h1.nox, h2⟩
end
mutual
theorem noDict {K : PySem.W.Frag} {H : Hp} : ∀ {d : PyData} {v : V}, Dp K H v d → d.hasDict = false
  | _, _, .non => by simp only [PyData.hasDict]
  | _, _, .bl _ => by simp only [PyData.hasDict]
  | _, _, .int _ => by simp only [PyData.hasDict]
  | _, _, .str _ => by simp only [PyData.hasDict]
  | _, _, .lst _ h => by
    simp only [PyData.hasDict]
    exact noDicts h
  | _, _, .tup _ h => by
    simp only [PyData.hasDict]
    exact noDicts h
theorem noDicts {K : PySem.W.Frag} {H : Hp} : ∀ {ds : List PyData} {vs : List V}, DpAll K H vs ds → PyData.hasDictAll ds = false
  | _, _, .nil => by simp only [PyData.hasDictAll]
  | _, _, .cons h t => by
    simp only [PyData.hasDictAll, noDict h, noDicts t, Bool.or_self]
end
section
variable {X : Cx} {CX : CXT} {k : Nat} {f : Addr} {fd : FuncData} {ps ks : List Str} {sp : Sp} {E : XK} {x : Str} {p pos : Pos} {e : Expr} {es : List Expr} {kws : List Keyword} {t tk : TA} {ix : List Nat}
/-- the callee's end is the call's -/
theorem callG {pins : List (Addr × Obj)} {σ : L2.St} {H : Hp} {s : Shared} {Q : VK} {us : List Value} {vs : List V} {args : Args} (F : FnG X.prog X.w X.K X.mg X.base CX k f fd ps sp) (hG : X.A.guards = some []) (hr : Room k X.A) (hb : BindsTo s fd args (ps.zip us))
    (hx : ∀ e s', CX X.stack H s E e s' → X.xe e s') (I : L2.Inv X pins σ H s) (r : Vals vs us) (h : sp vs H Q E) : codeAny (model X.prog X.w) X.A (.call (.ref f) args) (fun r s' => match r with
      | .ok (.ret u) => EP X pins σ Q u s'
      | .ok _ => False
      | .error e => X.xe e s') s := by
  refine codeAny_mono (F.run X.A X.stack s H args us vs Q E hG hr I.env0 hb r h) fun r s' q => ?_
  match r, q with
  | .error e, q => exact hx e s' q
  | .ok (.ret u), q => exact I.after q
theorem pe_callG (F : FnG X.prog X.w X.K X.mg X.base CX k f fd ps sp) (hG : X.A.guards = some []) (hr : Room k X.A) (hg : Gl X x) (hm : X.mg x = some (.ref f)) (hk : PySem.W.keepIn X.K (.ref f) = true) (hb : Binds X.K fd ps [])
    (hx : Passes CX X E) (ha : PA X (e :: es) t) (hdb : (x == ("__debug__" : Str)) = false := by decide) (he : starEach (e :: es) X.env = (false, eval e X.env) :: starEach es X.env := by rfl) (hpl : (backTo pos (starEach es X.env)).any (·.1) = false := by rfl) :
    PE X (.Call (.Name x p) (e :: es) [] pos) (tCall sp [] E t) := by
  constructor
  intro pins s σ H Q I h
  apply wpAny_Call_Name_kw
  refine ld_glob I hg hm ?_ hdb
  refine PySem.W.callWith_K (h₀ := X.base) I.ok.mod.kin hk ?_ he hpl
  refine thn (ha.run pos pins s σ H _ I h) fun us s1 ⟨vs, H1, J, r, q⟩ => ⟨J.kIn, ?_⟩
  have q1 : sp (vs ++ []) H1 Q E := q
  rw [List.append_nil] at q1
  have hl : us.length = ps.length := r.length.symm.trans (F.len _ _ _ _ q1)
  have b := hb s1 us J.kIn (by rw [List.append_nil]; exact hl)
  rw [List.append_nil] at b
  exact wpAny_call (callG F hG hr b (fun e s' z => hx pins σ H1 s1 e s' J z) J r q1)
/-- in a try's body -/
theorem pe_callSG {E : L2.St → XK} (F : FnG X.prog X.w X.K X.mg X.base CX k f fd ps sp) (hG : X.A.guards = some []) (hr : Room k X.A) (hg : Gl X x) (hm : X.mg x = some (.ref f)) (hk : PySem.W.keepIn X.K (.ref f) = true) (hb : Binds X.K fd ps [])
    (hx : ∀ σ, PassesAt CX X σ (E σ)) (ha : PA X (e :: es) t) (hdb : (x == ("__debug__" : Str)) = false := by decide) (he : starEach (e :: es) X.env = (false, eval e X.env) :: starEach es X.env := by rfl) (hpl : (backTo pos (starEach es X.env)).any (·.1) = false := by rfl) :
    PE X (.Call (.Name x p) (e :: es) [] pos) (tCallS sp E t) := by
  constructor
  intro pins s σ H Q I h
  apply wpAny_Call_Name_kw
  refine ld_glob I hg hm ?_ hdb
  refine PySem.W.callWith_K (h₀ := X.base) I.ok.mod.kin hk ?_ he hpl
  refine thn (ha.run pos pins s σ H _ I h) fun us s1 ⟨vs, H1, J, r, q⟩ => ⟨J.kIn, ?_⟩
  have hl : us.length = ps.length := r.length.symm.trans (F.len _ _ _ _ q)
  have b := hb s1 us J.kIn (by rw [List.append_nil]; exact hl)
  rw [List.append_nil] at b
  exact wpAny_call (callG F hG hr b (fun e s' z => hx σ pins H1 s1 e s' J z) J r q)
/-- repr of plain data -/
theorem call_reprU (hG : X.A.guards = some []) (hu : X.A.units + 200 < cLine) : CallR X (.builtin "repr") (rReprD X.K) := by
  intro pins s σ H xs us Q I r h
  obtain ⟨x, d, rfl, hd, hs, hdp, hl, q⟩ := h
  obtain ⟨u, rfl, rx⟩ := vals1 r
  obtain ⟨as, rd⟩ := Dp.reads I d x u hd rx
  have main : ∀ a : Addr, u = .ref a → d.hasDict = false → wpAny (model X.prog X.w) X.A (call (.builtin "repr") [u]) (EP X pins σ Q) X.xe s := fun a e nd => by
    subst e
    refine repr_of_reads' rd hs (fun z => by rw [nd] at z; cases z) hG (by omega) (fun _ _ z => z) (fun h' tk ts keep => ?_) hl
    exact ⟨.str _, H, I.kept (t' := ts) keep, ⟨tk, rfl⟩, q⟩
  cases hd with
  | non =>
    cases rx
    exact PySem.P.repr_of_none ⟨.str _, H, I.tok _, ⟨_, rfl⟩, (by simpa [PyData.shown] using q)⟩
  | bl b =>
    cases rx
    exact PySem.P.repr_of_bool ⟨.str _, H, I.tok _, ⟨_, rfl⟩, (by simpa [PyData.shown] using q)⟩
  | int i =>
    obtain ⟨t, rfl⟩ := rx
    exact PySem.P.repr_of_int (by simpa [PyData.showable] using hs) ⟨.str _, H, I.tok _, ⟨_, rfl⟩, (by simpa [PyData.shown] using q)⟩
  | str z =>
    obtain ⟨t, rfl⟩ := rx
    exact PySem.P.repr_of_str ⟨.str _, H, I.tok _, ⟨_, rfl⟩, (by simpa [PyData.shown] using q)⟩ (by simpa [PyData.shown] using hl)
  | lst h1 h2 =>
    cases rx
    exact main _ rfl (noDict (.lst h1 h2))
  | tup h1 h2 =>
    cases rx
    exact main _ rfl (noDict (.tup h1 h2))
end
section
variable {prog : Program} {w : World} {A : Around} {E : Value → Shared → Prop} {s : Shared}
theorem rev_places (n : Nat) : Builtin.Slice.sliceAdjust none none (-1) (n : Int) = ((n : Int) - 1, -1) := by
  unfold Builtin.Slice.sliceAdjust
  have h1 : ((-1 : Int) < 0) := by decide
  simp only [h1, if_true]
theorem rev_count (n : Nat) : Builtin.Slice.slicePlaces ((n : Int) - 1) (-1) (-1) = n := by
  unfold Builtin.Slice.slicePlaces
  have h1 : ¬ ((-1 : Int) > 0) := by decide
  simp only [h1, if_false]
  split
  · rw [show (-(-1) : Int) = 1 by decide, Int.ediv_one]
    omega
  · omega
theorem rev_pick (xs : Array Value) : ((List.range xs.size).filterMap fun (m : Nat) => xs[(((xs.size : Int) - 1) + (m : Int) * (-1)).toNat]?).toArray = xs.toList.reverse.toArray := by
  rw [← PySem.W.krv_all xs, ← List.filterMap_reverse, ← PySem.W.krv_range, List.filterMap_map]
  congr 1
  have key : ∀ l : List Nat, (∀ m ∈ l, m < xs.size) → l.filterMap (fun (m : Nat) => xs[(((xs.size : Int) - 1) + (m : Int) * (-1)).toNat]?) = l.filterMap ((fun x => xs[x]?) ∘ fun k => xs.size - 1 - k) := by
    intro l hl
    induction l with
    | nil => rfl
    | cons m l ih =>
      have hm := hl m (List.mem_cons_self ..)
      rw [List.filterMap_cons, List.filterMap_cons, ih fun k hk => hl k (List.mem_cons_of_mem _ hk)]
      have e : (((xs.size : Int) - 1) + (m : Int) * (-1)).toNat = xs.size - 1 - m := by omega
      rw [e]
      rfl
  exact key _ fun m hm => List.mem_range.mp hm
theorem sliceApplied_rev {sl : Addr} {vl vu vs : Value} {n : Nat} {Q : Int × Int × Nat → Shared → Prop} (hs : s.heap.IsSliceOf sl vl vu vs) (pl : IsPart vl none) (pu : IsPart vu none) (ps : IsPart vs (some (-1)))
    (h : Q (((n : Int) - 1), -1, n) s) : wpAny (model prog w) A (Builtin.Slice.sliceApplied (.ref sl) (pure (n : Int))) Q E s := by
  obtain ⟨os, hos, hcs, hds⟩ := id hs
  unfold Builtin.Slice.sliceApplied Builtin.Slice.sliceFields
  refine wpAny_bind (wpAny_bind (wpAny_field hos hds (x := vl) rfl (wpAny_bind (wpAny_field hos hds (x := vu) rfl (wpAny_bind (wpAny_field hos hds (x := vs) rfl (wpAny_pure ?_)))))))
  refine wpAny_bind (HT.slicePart_ ps ?_)
  show wpAny _ _ (if ((-1 : Int) == 0) = true then _ else _) _ _ s
  rw [if_neg (by decide)]
  refine wpAny_bind (HT.slicePart_ pl (wpAny_bind (HT.slicePart_ pu (wpAny_bind (wpAny_pure ?_)))))
  show wpAny _ _ (match Builtin.Slice.sliceAdjust none none (-1) (n : Int) with | (lo, hi) => pure (lo, (-1 : Int), Builtin.Slice.slicePlaces lo hi (-1))) _ _ s
  rw [rev_places n]
  show wpAny _ _ (pure (((n : Int) - 1), (-1 : Int), Builtin.Slice.slicePlaces ((n : Int) - 1) (-1) (-1))) _ _ s
  rw [rev_count]
  exact wpAny_pure h
theorem getItem_tuple_rev {t sl : Addr} {items : Array Value} {vl vu vs : Value} {Q : Value → Shared → Prop} (ht : IsTup s.heap t items) (hs : s.heap.IsSliceOf sl vl vu vs) (pl : IsPart vl none) (pu : IsPart vu none) (ps : IsPart vs (some (-1)))
    (h : Q (.ref s.heap.objs.size) { s with heap := s.heap.push { cls := .type "tuple", data := .seq items.toList.reverse.toArray } })
    (hsz : items.size ≤ sizeLine) : wpAny (model prog w) A (getItem (.ref t) (.ref sl)) Q E s := by
  have htake : sizeOk (.seq items.toList.reverse.toArray) := by
    show items.toList.reverse.toArray.size ≤ sizeLine
    rw [List.size_toArray, List.length_reverse, Array.length_toList]
    exact hsz
  obtain ⟨os, hos, hcs, hds⟩ := id hs
  have hTs : s.TypeIs (.ref sl) "slice" := ⟨os, hos, hcs⟩
  unfold getItem
  try with_reducible refine wpAny_holding ?_
  first | refine wpAny_bind (wpAny_pure ?_) | skip
  refine wpAny_bind (wpAny_sequenceKey ht.typeIs (by decide) ?_)
  refine wpAny_bind (wpAny_callSpecial?_slot (name := Str.ofString "__getitem__") ht.typeIs PyProof.Rows.slot_tuple_getitem
    (wpAny_call_entry PyProof.Rows.slot_tuple_getitem ht.typeIs entry_tuple_getitem ?_ (args_tuple_getitem _ _)))
  show wpAny _ _ (Builtin.Tuple.tupleItemsOf (.ref t) >>= _) _ _ s
  refine wpAny_bind (tupleItemsOf_ ht ?_)
  refine wpAny_bind (wpAny_typeOf hTs ?_)
  rw [if_pos (by decide)]
  refine wpAny_bind (sliceApplied_rev hs pl pu ps ?_)
  have hno : ¬ ((((items.size : Int) - 1) == 0 && (-1 : Int) == 1 && items.size == items.size) = true) := by
    intro q
    rw [Bool.and_eq_true, Bool.and_eq_true] at q
    exact absurd q.1.2 (by decide)
  show wpAny _ _ (if (((items.size : Int) - 1) == 0 && (-1 : Int) == 1 && items.size == items.size) = true then _ else _) _ _ s
  rw [if_neg hno, rev_pick]
  first
    | exact wpAny_bind (m := Builtin.Tuple.tupleExact _) (wpAny_newObj_type (wpAny_pure ⟨_, rfl, wpAny_pure h⟩) htake)
    | exact wpAny_bind (m := Builtin.Tuple.tupleExact _) (wpAny_newObj_type (wpAny_bind (wpAny_pure (wpAny_pure ⟨_, rfl, wpAny_pure h⟩))) htake)
    | exact wpAny_bind (wpAny_bind (m := Builtin.Tuple.tupleExact _) (wpAny_newObj_type (wpAny_pure (wpAny_pure ⟨_, rfl, wpAny_pure h⟩)) htake))
    | exact wpAny_bind (wpAny_bind (m := Builtin.Tuple.tupleExact _) (wpAny_newObj_type (wpAny_pure ⟨_, rfl, wpAny_pure h⟩) htake))
end
def tRevT (K : PySem.W.Frag) (te : TE) : TE := fun σ H Q => te σ H fun x H1 => ∃ a xs, x = .ref a ∧ SqT K H1 a xs ∧ ∀ p, H1 p = none → Q (.ref p) (upd H1 p (.tup xs.reverse))
theorem pe_revT {X : Cx} {e : Expr} {te : TE} {k : Nat} {p1 p2 p3 pos : Pos} (he : PE X e te) : PE X (.Subscript e (.Slice none none (some (.UnaryOp .USub (.Constant (.int 1) k p1) p2)) p3) pos) (tRevT X.K te) := by
  constructor
  intro pins s σ H Q I h
  refine Subscript_ (thn (he.run pins s σ H _ I h) fun v s1 ⟨x, H1, I1, r1, q1⟩ => ?_)
  obtain ⟨a, xs, ex, hx, q⟩ := q1
  subst ex
  cases r1
  have hst : PO X (some (.UnaryOp .USub (.Constant (.int 1) k p1) p2)) (tPart (tUn (rU fun i => .int (-i)) (tC (.int 1)))) := po_some (pe_un un_neg pe_int)
  refine wpAny_Slice (thn (po_none.run pins s1 σ H1 (fun o H2 => o = none ∧ H2 = H1) I1 ⟨rfl, rfl⟩) fun vl s2 ⟨l, H2, I2, pl, el, e2⟩ => ?_)
  subst el e2
  refine thn (po_none.run pins s2 σ H2 (fun o H3 => o = none ∧ H3 = H2) I2 ⟨rfl, rfl⟩) fun vu s3 ⟨u, H3, I3, pu, eu, e3⟩ => ?_
  subst eu e3
  refine thn (hst.run pins s3 σ H3 (fun o H4 => o = some (-1) ∧ H4 = H3) I3 ⟨1, rfl, -1, rfl, rfl, rfl⟩) fun vs s4 ⟨o, H4, I4, ps, eo, e4⟩ => ?_
  subst eo e4
  have I5 : Inv X pins σ H4 { s4 with heap := s4.heap.push { cls := .type "slice", data := .fields #[vl, vu, vs] } } := I4.kept (t' := s4.toks) fun b ob q => Heap.get?_push_of_some _ q
  obtain ⟨its, r, ht, hz⟩ := I5.tuple hx
  have hlen := r.length
  show wpAny (model X.prog X.w) X.A (subscriptTail e (.Slice none none (some (.UnaryOp .USub (.Constant (.int 1) k p1) p2)) p3) (.ref a) (.ref s4.heap.objs.size)) (EP X pins σ Q) X.xe { s4 with heap := s4.heap.push { cls := .type "slice", data := .fields #[vl, vu, vs] } }
  refine tail_any (ops := [.ref a, .ref s4.heap.objs.size]) ht.typeIs (PyProof.Rows.slot_tuple_getitem.lookup) ?_ (by with_unfolding_all rfl)
  refine getItem_tuple_rev ht (Heap.IsSliceOf.new _ vl vu vs) pl pu ps ?_ (by rw [List.size_toArray]; omega)
  refine ⟨.ref _, _, I5.laid (t' := s4.toks) (o := .tup xs.reverse) (fun b ob q => Heap.get?_push_of_some _ q) (Nat.le_refl _) ?_, rfl, q _ (I5.hok.fresh (Nat.le_refl _))⟩
  exact ⟨by rw [List.length_reverse]; exact hz, _, r.reverse, IsTup.new _ _⟩
def tUp (ta : TA) : TA := fun σ H Q => ∃ R : List V → Hp → Prop, ta σ H R ∧ ∀ vs H', R vs H' → Q vs H'
theorem pa_up {X : Cx} {es : List Expr} {ta : TA} (ha : PA X es ta) : PA X es (tUp ta) := by
  constructor
  rintro pos pins s σ H Q I ⟨R, h, k⟩
  exact thn (ha.run pos pins s σ H R I h) fun us s1 ⟨vs, H1, J, r, q⟩ => ⟨vs, H1, J, r, k vs H1 q⟩
theorem ps_mono {X : Cx} {st : Stmt} {t t' : TS} (h : PS X st t) (k : ∀ D σ H, t' D σ H → t D σ H) : PS X st t' :=
  ⟨fun pins s σ H D I q => h.run pins s σ H D I (k D σ H q)⟩
/-- what the text says of the class x, fs its fields in the order of __init__ -/
structure ExC (K : PySem.W.Frag) (mg : Str → Option Value) (x : Str) (fs : List Str) (C fI : Addr) : Prop where
  gC : mg x = some (.ref C)
  T : OexC K C
  X : XfC K C
  no : ∀ f ∈ fs, PySem.W.findIn K (.ref C) f = some none
  iC : PySem.W.findIn K (.ref C) "__init__" = some (some (.ref fI))
  tI : PySem.W.typeIn K (.ref fI) = some (.type "function")
/-- __init__(self, ..): it stores its arguments -/
def spIn (C : Addr) (fs : List Str) : Sp := fun vs H Q _ => ∃ (a : Addr) (ws : List V), vs = .ref a :: ws ∧ ws.length = fs.length ∧ H a = some (exo a C none) ∧
  ∀ d H2, H d = none → d ≠ a → H2 a = some (exo a C (some d)) → H2 d = some (exd d (fs.zip ws).reverse) → (∀ b, b ≠ a → b ≠ d → H2 b = H b) → Q .non H2
/-- raise C(e, ..) -/
def tRz (C : Addr) (fs : List Str) (W : WX) (ta : TA) : TS := fun _ σ H => ta σ H fun vs H1 => vs.length = fs.length ∧ ∀ d, H1 d = none → W (.ref C) (some d) σ (upd H1 d (.xd (fs.zip vs).reverse))
section
variable {X : Cx} {W : WX} {x : Str} {fs ps : List Str} {C fI : Addr} {k : Nat} {fd : FuncData} {e : Expr} {es : List Expr} {ta : TA} {p pos pos2 : Pos}
theorem ps_rz (hc : X.calm = true) (tk : Takes X W) (E : ExC X.K X.mg x fs C fI) (F1 : FnOk X.prog X.w X.K X.mg X.base CX0 k fI fd ps (spIn C fs)) (hn : fs.length ≤ 100) (hr : Room (k + 1) X.A) (hb : Binds X.K fd ps []) (hg : Gl X x) (ha : PA X (e :: es) ta)
    (hdb : (x == ("__debug__" : Str)) = false := by decide) (he : starEach (e :: es) X.env = (false, eval e X.env) :: starEach es X.env := by rfl) (hpl : (backTo pos (starEach es X.env)).any (·.1) = false := by rfl) :
    PS X (.Raise (some (.Call (.Name x p) (e :: es) [] pos)) none pos2) (tRz C fs W ta) := by
  refine ps_mono (ps_raise hc tk (pmk_oex (dvs := []) E.T E.iC E.tI F1 hr hb .nil (fun _ _ _ _ _ _ _ h => h.elim) hg E.gC (pa_up ha) hdb he hpl)) fun D σ H h => ?_
  refine ⟨_, h, fun vs H1 ⟨hl, q⟩ => ⟨by omega, fun a ha => ?_⟩⟩
  rw [List.append_nil]
  refine ⟨a, vs, rfl, hl, upd_same, fun d H2 hd hda e1 e2 e3 => ⟨rfl, d, _, e1, e2, ?_, ?_⟩⟩
  · rw [upd_ne hda] at hd
    exact hd
  · rw [upd_ne hda] at hd
    have eH : upd (del H2 a) d (.xd (fs.zip vs).reverse) = upd H1 d (.xd (fs.zip vs).reverse) := by
      funext b
      by_cases z : b = d
      · subst z
        rw [upd_same, upd_same]
      · rw [upd_ne z, upd_ne z]
        by_cases y : b = a
        · subst y
          rw [del_same, ha]
        · rw [del_ne y, e3 b y z, upd_ne y]
    rw [eH]
    exact q d hd
end
/-- self.f = v, the one field -/
theorem init1 {K : PySem.W.Frag} {C : Addr} {f : Str} {vs : List V} {H : Hp} {Q : VK} {E : XK} (T : OexC K C) (hno : PySem.W.findIn K (.ref C) f = some none) (h : spIn C [f] vs H Q E) (N : List Str) (hN : N.length = 2) :
    tOst K f (tVar 0) (tVar 1) { nx := fun _ H' => Q .non H', rt := Q } (L2.start N vs) H := by
  obtain ⟨a, ws, rfl, hl, ha, q⟩ := h
  match ws, hl with
  | [v], _ =>
    refine ⟨v, rfl, .ref a, rfl, a, C, rfl, T, hno, .inl ⟨ha, fun d hd hda => ?_⟩⟩
    refine q d _ hd hda upd_same ?_ fun b h1 h2 => ?_
    · rw [upd_ne hda, upd_same]
      rfl
    · rw [upd_ne h1, upd_ne h2]
/-- an error of the class at S is what «except S» names -/
theorem exm_own {K : PySem.W.Frag} {S : Addr} (h1 : PySem.W.subIn K (.ref S) (.type "BaseException") = some true) (h2 : PySem.W.isClsIn K S = true) (h3 : PySem.W.typeIn K (.ref S) = some (.type "type")) {c : Addr} {b : Bool} (h4 : PySem.W.subIn K (.ref S) (.ref c) = some b)
    (g1 : PySem.W.subIn K (.ref c) (.type "BaseException") = some true) (g2 : PySem.W.isClsIn K c = true) (g3 : PySem.W.typeIn K (.ref c) = some (.type "type")) : PySem.W.exmOne K (.ref S) (.ref c) = some b := by
  have e1 : (PySem.W.subIn K (.ref c) (.type "BaseException") == some true) = true := by rw [g1] <;> rfl
  have e2 : ((PySem.W.clsIn K c).isSome && PySem.W.typeIn K (.ref c) == some (.type "type")) = true := by
    have h2' : (PySem.W.clsIn K c).isSome = true := g2
    rw [h2', g3] <;> rfl
  show (if (PySem.W.subIn K (.ref c) (.type "BaseException") == some true) = true then (if ((PySem.W.clsIn K c).isSome && PySem.W.typeIn K (.ref c) == some (.type "type")) = true then PySem.W.subIn K (.ref S) (.ref c) else none) else none) = some b
  rw [if_pos e1, if_pos e2]
  exact h4
/-- what is called never raises here -/
theorem passL {X : Cx} : Passes (L2.CX X.prog X.w) X E0 := fun _ _ _ _ _ _ _ h => by
  obtain ⟨_, _, _, _, _, _, _, _, _, _, _, _, z⟩ := h
  exact z.elim
section
variable {X : Cx} {CX : CXT} {k k2 : Nat} {f g : Addr} {fd gd : FuncData} {ps qs ks : List Str} {sp sq : Sp} {E : L2.St → XK} {x : Str} {p pos : Pos} {e fe : Expr} {es : List Expr} {t tf tk : TA} {te : TE} {kws : List Keyword} {ix : List Nat}
/-- a call by keywords alone, in a try's body -/
def tCallPS (n : Nat) (ix : List Nat) (sp : Sp) (E : L2.St → XK) (tk : TA) : TE := fun σ H Q => tk σ H fun zs H1 => zs.length = n ∧ sp (perm ix zs) H1 Q (E σ)
theorem pe_callPSG (F : FnG X.prog X.w X.K X.mg X.base CX k f fd ps sp) (hG : X.A.guards = some []) (hr : Room k X.A) (hg : Gl X x) (hm : X.mg x = some (.ref f)) (hk : PySem.W.keepIn X.K (.ref f) = true) (hb : KwBinds X.K fd ps ks ix)
    (hx : ∀ σ, PassesAt CX X σ (E σ)) (hkw : PK X kws tk) (hall : (backToKw pos (keywordEach kws X.env)).all (·.1.isSome) = true := by rfl) (hks : (backToKw pos (keywordEach kws X.env)).filterMap (·.1) = ks := by rfl)
    (hdb : (x == ("__debug__" : Str)) = false := by decide) (hpl : ((backTo pos (starEach [] X.env)).any (·.1) || (backToKw pos (keywordEach kws X.env)).any (·.1.isNone)) = false := by rfl) :
    PE X (.Call (.Name x p) [] kws pos) (tCallPS ks.length ix sp E tk) := by
  constructor
  intro pins s σ H Q I h
  apply wpAny_Call_Name_kw
  refine ld_glob I hg hm ?_ hdb
  refine PySem.W.callWith_KW0 (h₀ := X.base) I.ok.mod.kin hk hall ?_ hpl
  refine thn (hkw.run pos pins s σ H _ I h) fun ws s2 ⟨zs, H2, J, r, hl, q⟩ => ⟨J.kIn, ?_⟩
  rw [hks]
  exact wpAny_call (callG F hG hr (hb s2 ws J.kIn (r.length.symm.trans hl)) (fun e s' z => hx σ pins H2 s2 e s' J z) J (perm_vals r ix) q)
theorem room_un {k : Nat} {A : Around} (hr : Room k A) : A.units + 200 < cLine := by
  have := hr.un
  omega
end
end MR
set_option Elab.async false
set_option linter.all false
set_option maxRecDepth 100000
set_option maxHeartbeats 1000000
namespace MR
open PySem PySem.Spec PyProof.Rows L2
end MR
set_option Elab.async false
set_option linter.all false
set_option maxRecDepth 100000
set_option maxHeartbeats 1000000
namespace M
open PySem PySem.Spec PyProof.Rows L2 MR
variable {W : Wo}
def argsOk (fx : Nat → Bool) : Nat → List C → Bool
  | _, [] => true
  | i, c :: cs => (!c.own || fx i) && argsOk fx (i + 1) cs
def outCs : List C → M.Env → List C
  | [], _ => []
  | c :: cs, [] => c :: outCs cs []
  | c :: cs, e :: es => (if c.own = true then e else c) :: outCs cs es
/-- what is handed back: a thing of a local name goes along, all else is frozen -/
def outR (fx : Nat → Bool) (n : Nat) (r : R) (e : M.Env) : Out R := match r with
  | .dat d => .ok (.dat d) e
  | .own c => .ok (.own c) e
  | .al i [] => if (decide (n ≤ i) && !fx i) = true then (match e[i]? with
      | some (.dat d) => .ok (.dat d) e
      | some .non => .bad
      | some c => .ok (.own c) (e.set i .non)
      | none => .bad) else fzO (.al i []) e
  | .al i (s :: p) => fzO (.al i (s :: p)) e
def mDef (n k : Nat) (fx : Nat → Bool) (body : MS) (cs : List C) : Out R := if (cs.length == n && argsOk fx 0 cs) = true then match body (cs ++ List.replicate k .non) with
  | .nx e => .ok (.dat .non) (outCs cs e)
  | .rt r e => (outR fx n r e).bind fun r e => .ok r (outCs cs e)
  | .ex c fs e => .ex c fs (outCs cs e)
  | _ => .bad else .bad
def cellO (e : M.Env) : R → Option C
  | .dat d => some (.dat d)
  | .own _ => none
  | .al i p => vw e (.al i p)
def cellsO (e : M.Env) : List R → Option (List C)
  | [] => some []
  | r :: rs => match cellO e r, cellsO e rs with
    | some c, some cs => some (c :: cs)
    | _, _ => none
def R.isAl : R → Bool | .al _ _ => true | _ => false
def oneAl : List R → Bool
  | [] => true
  | .al _ _ :: rs => rs.all fun r => !r.isAl
  | _ :: rs => oneAl rs
def backA (e : M.Env) : List R → List C → Option M.Env
  | .al i p :: _, c :: _ => match vw e (.al i p) with
    | some c0 => if c0.own = true then (match c with
      | .non => none
      | c => some (setE e i p c)) else some e
    | none => none
  | _ :: rs, _ :: cs => backA e rs cs
  | _, _ => some e
def callF (f : List C → Out R) (rs : List R) (e : M.Env) : Out R := match cellsO e rs with
  | some cs => if oneAl rs = true then (match f cs with
    | .ok r cs' => (match backA e rs cs' with
      | some e' => .ok r e'
      | none => .bad)
    | .ex c fs cs' => (match backA e rs cs' with
      | some e' => .ex c fs e'
      | none => .bad)
    | .bad => .bad) else .bad
  | none => .bad
def mCall (f : List C → Out R) (a : MA) : ME := fun env => (a env).bind fun rs e => callF f rs e
@[simp] theorem cellsO_dat (e : M.Env) (ds : List D) : cellsO e (ds.map R.dat) = some (ds.map C.dat) := by
  induction ds with
  | nil => rfl
  | cons d ds ih => simp [cellsO, cellO, ih]
def W0 (T : Tb) : Wo := { T := T, fx := fun _ => true, E := fun _ => E0 }
def noAl : R → Bool | .al _ _ => false | _ => true
/-- what is wanted behind a call -/
structure CallOk (T : Tb) (cs : List C) (vs : List V) (H0 H : Hp) (F : List Addr) (cs' : List C) (H0' H' : Hp) (F' : List Addr) : Prop where
  sl : Slots T H0' H' cs' (vs.map some) F'
  nd : F'.Nodup
  h0 : ∀ a ∈ F', H0' a = none
  sm : Same H0' H'
  hg : Hg H0 H F H0' H' F'
  fs : Fst T (fun _ => True) cs (vs.map some) H cs' H'
def SPm (T : Tb) (n : Nat) (f : List C → Out R) : Sp := fun vs H Q E => vs.length = n ∧ ∃ cs H0 F, cs.length = n ∧ Slots T H0 H cs (vs.map some) F ∧ F.Nodup ∧ (∀ a ∈ F, H0 a = none) ∧ Same H0 H ∧
  Out.wp (fun r cs' => ∀ v H0' H' F', noAl r = true → CallOk T cs vs H0 H F cs' H0' H' F' → VAL (W0 T) (Fre H F) cs' (vs.map some) H0' H' F' v r → Q v H')
    (fun c fs cs' => ∀ A d H0' H' F', CallOk T cs vs H0 H F cs' H0' H' F' → T.cl c = some A → XdOk T H0' d fs → E (.ref A) (some d) H') (f cs)
section
variable {pu pb : Bool} {env0 env env' env2 : M.Env} {σ σ' σ2 : L2.St} {H0 H H0' H' A0 A B B' : Hp} {F FA F' F2 : List Addr} {v : V} {r : R} {d : D} {Z : Addr → Prop} {T : Tb}
theorem Slots.app {e1 e2 : M.Env} {s1 s2 : L2.St} {F1 F2 : List Addr} (h : Slots T H0 H e1 s1 F1) (k : Slots T H0 H e2 s2 F2) : Slots T H0 H (e1 ++ e2) (s1 ++ s2) (F1 ++ F2) := by
  induction h with
  | nil => exact k
  | non _ ih => exact .non ih
  | cons r _ ih => rw [List.append_assoc]; exact .cons r ih
theorem Slots.nons : ∀ {k : Nat} {s : L2.St}, s.length = k → Slots T H0 H (List.replicate k .non) s []
  | 0, [], _ => .nil
  | k + 1, x :: s, h => .non (Slots.nons (by simpa using h))
theorem outCs_len : ∀ {cs : List C} {e : M.Env}, (outCs cs e).length = cs.length
  | [], _ => rfl
  | c :: cs, [] => by simp [outCs, outCs_len]
  | c :: cs, e :: es => by simp [outCs, outCs_len]
/-- the arguments' cells behind the body -/
theorem Slots.outs {A0 A : Hp} (k0 : Sm A0 H0) : ∀ {cs : List C} {vs : List V} {FA : List Addr} {env : M.Env} {σ : L2.St} {F : List Addr}, Slots T A0 A cs (vs.map some) FA → Slots T H0 H env σ F → F.Nodup → cs.length ≤ env.length → (∀ (i : Nat) (c : C), cs[i]? = some c → c.own = true → σ[i]? = (vs.map some)[i]?) → ∃ F', Slots T H0 H (outCs cs env) (vs.map some) F' ∧ F'.Nodup ∧ (∀ a ∈ F', a ∈ F)
  | [], [], _, env, σ, F, _, s, nd, _, _ => ⟨[], .nil, .nil, fun a ha => by cases ha⟩
  | [], v :: vs, _, _, _, _, h, _, _, _, _ => by cases h
  | c :: cs, [], _, _, _, _, h, _, _, _, _ => by cases h
  | c :: cs, v :: vs, FA, [], σ, F, h, s, nd, l, _ => by simp at l
  | c :: cs, v :: vs, FA, e :: env, σ, F, h, s, nd, l, st => by
    have tail : ∀ {FA2 : List Addr} {σ2 : L2.St} {F2 : List Addr} {x : Option V}, σ = x :: σ2 → Slots T A0 A cs (vs.map some) FA2 → Slots T H0 H env σ2 F2 → F2.Nodup → ∃ F', Slots T H0 H (outCs cs env) (vs.map some) F' ∧ F'.Nodup ∧ (∀ a ∈ F', a ∈ F2) := fun {FA2 σ2 F2 x} es h2 s2 n2 =>
      Slots.outs k0 h2 s2 n2 (by simpa using l) fun i c ei oc => by
        have := st (i + 1) c (by simpa using ei) oc
        subst es
        simpa using this
    have st0 : c.own = true → σ[0]? = some (some v) := fun oc => by simpa using st 0 c rfl oc
    cases s with
    | @non x _ σ2 F2 s2 =>
      cases h with
      | @non _ _ _ FA2 h2 =>
        obtain ⟨F', q1, q2, q3⟩ := tail rfl h2 s2 nd
        exact ⟨F', .non q1, q2, q3⟩
      | @cons _ _ _ _ F1 FA2 r h2 =>
        obtain ⟨F', q1, q2, q3⟩ := tail rfl h2 s2 nd
        cases oc : c.own with
        | true => exact ⟨F', by simp only [outCs, oc, if_pos]; exact .non q1, q2, q3⟩
        | false =>
          cases r with
          | dat dd => exact ⟨[] ++ F', by simp only [outCs, C.own]; exact .cons (.dat (dd.mono k0)) q1, q2, q3⟩
          | _ => cases oc
    | @cons _ u _ σ2 F1 F2 r s2 =>
      have n2 := (List.nodup_append.mp nd)
      have h' : ∃ FA2, Slots T A0 A cs (vs.map some) FA2 ∧ (c.own = false → c = .non ∨ ∃ d, c = .dat d ∧ Dd T A0 v d) := by
        cases h with
        | non h2 => exact ⟨_, h2, fun _ => .inl rfl⟩
        | cons r h2 =>
          refine ⟨_, h2, fun oc => ?_⟩
          cases r with
          | dat dd => exact .inr ⟨_, rfl, dd⟩
          | _ => cases oc
      obtain ⟨FA2, h2, hc⟩ := h'
      obtain ⟨F', q1, q2, q3⟩ := tail rfl h2 s2 n2.2.1
      cases oc : c.own with
      | true =>
        have := st0 oc
        simp at this
        subst this
        refine ⟨F1 ++ F', by simp only [outCs, oc, if_pos]; exact .cons r q1, List.nodup_append.mpr ⟨n2.1, q2, fun a ha b hb => n2.2.2 a ha b (q3 b hb)⟩, fun a ha => ?_⟩
        exact (List.mem_append.mp ha).elim (List.mem_append_left _) fun z => List.mem_append_right _ (q3 a z)
      | false =>
        rcases hc oc with rfl | ⟨d, rfl, dd⟩
        · exact ⟨F', by simp only [outCs, C.own]; exact .non q1, q2, fun a ha => List.mem_append_right _ (q3 a ha)⟩
        · exact ⟨[] ++ F', by simp only [outCs, C.own]; exact .cons (.dat (dd.mono k0)) q1, q2, fun a ha => List.mem_append_right _ (q3 a ha)⟩
theorem argsOk_at {fx : Nat → Bool} : ∀ {cs : List C} {k i : Nat} {c : C}, argsOk fx k cs = true → cs[i]? = some c → c.own = true → fx (k + i) = true
  | [], _, _, _, _, e, _ => by simp at e
  | c :: cs, k, 0, _, h, e, o => by
    simp at e
    subst e
    simp [argsOk, o] at h
    exact h.1
  | c :: cs, k, i + 1, d, h, e, o => by
    simp only [argsOk, Bool.and_eq_true] at h
    have := argsOk_at (k := k + 1) (i := i) h.2 (by simpa using e) o
    rw [show k + (i + 1) = k + 1 + i by omega]
    exact this
theorem outCs_at : ∀ {cs : List C} {env : M.Env} {i : Nat} {c e : C}, cs[i]? = some c → env[i]? = some e → (outCs cs env)[i]? = some (if c.own = true then e else c)
  | [], _, _, _, _, h, _ => by simp at h
  | _ :: _, [], _, _, _, _, h => by simp at h
  | c :: cs, e :: es, 0, _, _, h, k => by
    simp at h k
    subst h k
    rfl
  | c :: cs, e :: es, i + 1, _, _, h, k => by
    simp only [outCs, List.getElem?_cons_succ]
    exact outCs_at (by simpa using h) (by simpa using k)
/-- a def's body by the rules gives its promise -/
theorem body_of {fx : Nat → Bool} {N : List Str} {t : TS} {m : MS} {n k : Nat} (hN : N.length = n + k) {vs : List V} {H : Hp} {Q : VK} {E : XK} (hs : SPm T n (mDef n k fx m) vs H Q E)
    (h : RfS { T := T, fx := fx, E := fun _ => E } t m) : t { nx := fun _ H' => Q .non H', rt := Q } (L2.start N vs) H := by
  obtain ⟨hv, cs, H0, F, hc, sl, nd, h0, sm, w⟩ := hs
  unfold mDef at w
  split at w
  case isFalse => cases w
  rename_i ha
  rw [Bool.and_eq_true] at ha
  have ha := ha.2
  have sl1 : Slots T H0 H (cs ++ List.replicate k .non) (L2.start N vs) F := by
    unfold L2.start
    have := sl.app (Slots.nons (T := T) (H0 := H0) (H := H) (k := k) (s := List.replicate (N.length - vs.length) none) (by rw [List.length_replicate]; omega))
    rw [List.append_nil] at this
    exact this
  have O : Ok { T := T, fx := fx, E := fun _ => E } (cs ++ List.replicate k .non) (L2.start N vs) H0 H F := ⟨sl1, nd, h0, sm, fun c e => by cases e⟩
  have lv : (vs.map some).length = n := by rw [List.length_map]; exact hv
  have at0 : ∀ i, i < n → (L2.start N vs)[i]? = (vs.map some)[i]? ∧ (cs ++ List.replicate k .non)[i]? = cs[i]? := fun i hi => by
    unfold L2.start
    exact ⟨List.getElem?_append_left (by omega), List.getElem?_append_left (by omega)⟩
  -- back at the caller
  have leave : ∀ {env' σ' H0' H' F'}, Chg { T := T, fx := fx, E := fun _ => E } (cs ++ List.replicate k .non) (L2.start N vs) H0 H F env' σ' H0' H' F' → ∃ F2, CallOk T cs vs H0 H F (outCs cs env') H0' H' F2 ∧ ∀ a ∈ F2, a ∈ F' := fun {env' σ' H0' H' F'} G => by
    have len' : env'.length = n + k := by
      rw [G.ok.sl.len, G.ln, ← sl1.len, List.length_append, List.length_replicate, hc]
    have fixd : ∀ (i : Nat) (c : C), cs[i]? = some c → c.own = true → fx i = true ∧ i < n := fun i c e o => by
      have := argsOk_at ha e o
      rw [Nat.zero_add] at this
      exact ⟨this, by rw [← hc]; exact (List.getElem?_eq_some_iff.mp e).1⟩
    obtain ⟨F2, q1, q2, q3⟩ := Slots.outs G.hg.k0 sl G.ok.sl G.ok.nd (by omega) fun i c e o => by
      obtain ⟨f1, f2⟩ := fixd i c e o
      exact (G.fx i f1).trans (at0 i f2).1
    have get : ∀ i f, getE cs i [.fld f] ≠ none → ∃ c, cs[i]? = some c ∧ i < n ∧ ∃ e, env'[i]? = some e := fun i f z => by
      rw [getE_fld] at z
      cases y : cs[i]? with
      | none => rw [y] at z; exact absurd rfl z
      | some c =>
        have hi : i < n := by rw [← hc]; exact (List.getElem?_eq_some_iff.mp y).1
        exact ⟨c, rfl, hi, _, List.getElem?_eq_getElem (by omega)⟩
    refine ⟨F2, ⟨q1, q2, fun a h => G.ok.h0 a (q3 a h), G.ok.sm, ⟨G.hg.k0, G.hg.keep, G.hg.al, fun a h => G.hg.ow a (q3 a h)⟩, ⟨fun i f _ z => ?_, fun i f _ z o => ?_⟩⟩, q3⟩
    · obtain ⟨c, e1, hi, e, e2⟩ := get i f z
      rw [getE_fld, outCs_at e1 e2]
      cases oc : c.own with
      | false =>
        rw [getE_fld, e1] at z
        simpa using z
      | true =>
        have := G.fs.pr i f (fixd i c e1 oc).1 (by rw [getE_fld, (at0 i hi).2, e1]; rw [getE_fld, e1] at z; exact z)
        rw [getE_fld, e2] at this
        simpa using this
    · obtain ⟨c, e1, hi, e, e2⟩ := get i f z
      obtain ⟨x, x1, x2⟩ := o
      rw [getE_fld, outCs_at e1 e2] at x1
      cases oc : c.own with
      | false =>
        rw [oc] at x1
        have := path_own (p := [.fld f]) (y := c) (c := x) (by simp only [getC]; simpa using x1) x2
        rw [this] at oc
        cases oc
      | true =>
        rw [oc] at x1
        obtain ⟨o1, n1⟩ := G.fs.st i f (fixd i c e1 oc).1 (by rw [getE_fld, (at0 i hi).2, e1]; rw [getE_fld, e1] at z; exact z) ⟨x, by rw [getE_fld, e2]; simpa using x1, x2⟩
        refine ⟨?_, fun v0 v ev nv => n1 v0 v (by rw [(at0 i hi).1]; exact ev) nv⟩
        obtain ⟨y, y1, y2⟩ := o1
        exact ⟨y, by rw [getE_fld, (at0 i hi).2] at y1; rw [getE_fld]; exact y1, y2⟩
  let PR : R → M.Env → Prop := fun r e => ∀ v H0' H' F', noAl r = true → CallOk T cs vs H0 H F (outCs cs e) H0' H' F' → VAL (W0 T) (Fre H F) (outCs cs e) (vs.map some) H0' H' F' v r → Q v H'
  let PE_ : PX := fun c fs e => ∀ A d H0' H' F', CallOk T cs vs H0 H F (outCs cs e) H0' H' F' → T.cl c = some A → XdOk T H0' d fs → E (.ref A) (some d) H'
  let PE2 : PX := fun c fs e => ∀ A d H0' H' F', CallOk T cs vs H0 H F e H0' H' F' → T.cl c = some A → XdOk T H0' d fs → E (.ref A) (some d) H'
  have w' : SO.wp ⟨fun e => PR (.dat .non) e, fun r e => Out.wp PR PE2 (outR fx n r e), fun _ => False, fun _ => False⟩ PE_ (m (cs ++ List.replicate k .non)) := by
    cases z : m (cs ++ List.replicate k .non) with
    | nx e => rw [z] at w; exact w
    | rt r e => rw [z] at w; rw [Out.wp_bind] at w; exact w
    | ex c fs e => rw [z] at w; exact w
    | bk => rw [z] at w; cases w
    | ct => rw [z] at w; cases w
    | bad => rw [z] at w; cases w
  refine h _ _ _ w' (L2.start N vs) H0 H F O (fun c A d fs env' σ' H0' H' F' p G e f => ?_) _ ⟨fun env' σ' H0' H' F' p G => ?_, fun v r env' σ' H0' H' F' p G wv => ?_, fun _ _ _ _ _ p => p.elim, fun _ _ _ _ _ p => p.elim⟩
  · obtain ⟨F2, q, _⟩ := leave G
    exact p A d H0' H' F2 q e f
  · obtain ⟨F2, q, _⟩ := leave G
    exact p .non H0' H' F2 rfl q .non
  · have frz : Out.wp PR PE2 (fzO r env') → Q v H' := fun p => by
      unfold fzO at p
      split at p
      · rename_i d e' z
        obtain ⟨B0, FB, G', dd⟩ := freezeC G wv z
        obtain ⟨F2, q, _⟩ := leave G'
        exact p v B0 H' F2 rfl q dd
      · cases p
    have p : Out.wp PR PE2 (outR fx n r env') := p
    cases r with
    | dat d =>
      obtain ⟨F2, q, _⟩ := leave G
      exact p v H0' H' F2 rfl q wv
    | own c =>
      obtain ⟨F2, q, i2⟩ := leave G
      obtain ⟨o, Fc, h1, h2, h3⟩ := wv
      exact p v H0' H' F2 rfl q ⟨o, Fc, h1, h2, fun a ha => ⟨(h3 a ha).1, fun z => (h3 a ha).2.1 (i2 a z), (h3 a ha).2.2⟩⟩
    | al i pp =>
      cases pp with
      | cons s pp => exact frz p
      | nil =>
        simp only [outR] at p
        split at p
        · rename_i hi
          rw [Bool.and_eq_true, decide_eq_true_eq, Bool.not_eq_true'] at hi
          split at p
          · rename_i d e1
            obtain ⟨v0, F1, G1, q1, q2, _⟩ := G.ok.sl.focus e1 (by intro z; cases z)
            have wv : σ'[i]? = some (some v) := wv
            rw [q1] at wv
            injection wv with wv
            injection wv with wv
            subst wv
            cases q2 with
            | dat dd =>
              obtain ⟨F2, q, _⟩ := leave G
              exact p v0 H0' H' F2 rfl q dd
          · cases p
          · rename_i c n1 n2 e1
            obtain ⟨v0, F1, G1, q1, q2, q3, q4, q5, _⟩ := G.ok.sl.focus e1 (fun z => n2 (by rw [z]))
            have wv : σ'[i]? = some (some v) := wv
            rw [q1] at wv
            injection wv with wv
            injection wv with wv
            subst wv
            obtain ⟨F3, r3, p3⟩ := q5 (H' := H') (some v0) (Sm.refl H0') (fun _ _ => rfl)
            rw [set_self q1] at r3
            have nd := Nodup.of_perm q3 G.ok.nd
            have in3 : ∀ a ∈ F3, a ∈ F' := fun a ha => q3.mem_iff.mpr (List.mem_append_right _ (p3.mem_iff.mp ha))
            have in1 : ∀ a ∈ F1, a ∈ F' := fun a ha => q3.mem_iff.mpr (List.mem_append_left _ ha)
            have off : ∀ j, fx j = true → j ≠ i := fun j z y => by rw [y, hi.2] at z; cases z
            have G2 : Chg { T := T, fx := fx, E := fun _ => E } (cs ++ List.replicate k .non) (L2.start N vs) H0 H F (env'.set i .non) σ' H0' H' F3 := by
              refine ⟨⟨r3, Nodup.of_perm p3.symm (List.nodup_append.mp nd).2.1, fun a ha => G.ok.h0 a (in3 a ha), G.ok.sm, fun c e => by cases e⟩, ⟨G.hg.k0, G.hg.keep, G.hg.al, fun a ha => G.hg.ow a (in3 a ha)⟩, G.fx, ⟨fun j f z y => ?_, fun j f z y o => ?_⟩, G.ln⟩
              · have := G.fs.pr j f z y
                rw [getE_fld] at this ⊢
                rw [List.getElem?_set_ne (off j z).symm]
                exact this
              · refine G.fs.st j f z y ?_
                obtain ⟨x, x1, x2⟩ := o
                refine ⟨x, ?_, x2⟩
                rw [getE_fld] at x1 ⊢
                rw [List.getElem?_set_ne (off j z).symm] at x1
                exact x1
            obtain ⟨F2, q, i2⟩ := leave G2
            refine p v0 H0' H' F2 rfl q ⟨?_, F1, q2, (List.nodup_append.mp nd).1, fun a ha => ⟨G.ok.h0 a (in1 a ha), fun z => ?_, (G.hg.ow a (in1 a ha)).symm⟩⟩
            · cases c with
              | non => exact absurd rfl n2
              | dat d => exact absurd rfl (n1 d)
              | _ => rfl
            · exact (List.nodup_append.mp nd).2.2 a ha a (p3.mem_iff.mp (i2 a z)) rfl
          · cases p
        · exact frz p
end
end M
set_option Elab.async false
set_option linter.all false
set_option maxRecDepth 100000
set_option maxHeartbeats 1000000
namespace M
open PySem PySem.Spec PyProof.Rows L2 MR
variable {W : Wo}
section
variable {pu pb : Bool} {env0 env env' env2 : M.Env} {σ σ' σ2 : L2.St} {H0 H H0' H' A0 A B B' : Hp} {F FA F' F2 : List Addr} {v : V} {r : R} {d : D} {Z : Addr → Prop} {T : Tb}
theorem cells_dats : ∀ {rs : List R} {cs : List C} {vs : List V}, (rs.all fun r => !r.isAl) = true → cellsO env rs = some cs → VALs W Z env σ H0 H F vs rs → ∃ ds, rs = ds.map R.dat ∧ cs = ds.map C.dat ∧ DdAll W.T H0 vs ds
  | [], _, _, _, e, h => by simp [cellsO] at e; subst e; cases h; exact ⟨[], rfl, rfl, .nil⟩
  | .dat d :: rs, cs, _, k, e, .cons h t => by
    rw [List.all_cons, Bool.and_eq_true] at k
    simp only [cellsO, cellO] at e
    split at e
    · rename_i c cs' e1 e2
      injection e1 with e1
      injection e with e
      subst e e1
      obtain ⟨ds, rfl, rfl, dd⟩ := cells_dats k.2 e2 t
      exact ⟨d :: ds, rfl, rfl, .cons h dd⟩
    · cases e
  | .own c :: rs, cs, _, _, e, _ => by simp [cellsO, cellO] at e
  | .al _ _ :: rs, cs, _, k, _, _ => by simp [R.isAl] at k
theorem Slots.dats : ∀ {ds : List D} {vs : List V}, DdAll T H0 vs ds → Slots T H0 H (ds.map C.dat) (vs.map some) []
  | [], _, h => by cases h; exact .nil
  | d :: ds, _, h => by
    cases h with
    | cons h t => exact .cons (F1 := []) (.dat h) (Slots.dats t)
/-- the arguments of a call: data, and at most one thing that may change -/
inductive ArgOk (W : Wo) (Z : Addr → Prop) (env : M.Env) (σ : L2.St) (H0 H : Hp) (F : List Addr) (vs : List V) (rs : List R) (cs : List C) : Prop
  | data (ds : List D) : rs = ds.map R.dat → cs = ds.map C.dat → DdAll W.T H0 vs ds → ArgOk W Z env σ H0 H F vs rs cs
  | one (ds es : List D) (us ws : List V) (v : V) (i : Nat) (p : List Pst) (c : C) : rs = ds.map R.dat ++ .al i p :: es.map R.dat → cs = ds.map C.dat ++ c :: es.map C.dat → vs = us ++ v :: ws → DdAll W.T H0 us ds → DdAll W.T H0 ws es → vw env (.al i p) = some c → VAL W Z env σ H0 H F v (.al i p) → ArgOk W Z env σ H0 H F vs rs cs
theorem argOk_of : ∀ {rs : List R} {cs : List C} {vs : List V}, oneAl rs = true → cellsO env rs = some cs → VALs W Z env σ H0 H F vs rs → ArgOk W Z env σ H0 H F vs rs cs
  | [], _, _, _, e, h => by simp [cellsO] at e; subst e; cases h; exact .data [] rfl rfl .nil
  | .dat d :: rs, cs, _, k, e, .cons h t => by
    simp only [cellsO, cellO] at e
    split at e
    · rename_i c cs' e1 e2
      injection e1 with e1
      injection e with e
      subst e e1
      cases argOk_of (rs := rs) k e2 t with
      | data ds a b c => subst a b; exact .data (d :: ds) rfl rfl (.cons h c)
      | one ds es us ws v i p c a1 a2 a3 a4 a5 a6 a7 => subst a1 a2 a3; exact .one (d :: ds) es (_ :: us) ws v i p c rfl rfl rfl (.cons h a4) a5 a6 a7
    · cases e
  | .own c :: rs, cs, _, _, e, _ => by simp [cellsO, cellO] at e
  | .al i p :: rs, cs, _, k, e, .cons h t => by
    simp only [cellsO, cellO] at e
    split at e
    · rename_i c cs' e1 e2
      injection e with e
      subst e
      obtain ⟨ds, rfl, rfl, dd⟩ := cells_dats k e2 t
      exact .one [] ds [] _ _ i p c rfl rfl rfl .nil dd e1 h
    · cases e
theorem backA_dat : ∀ {ds : List D} {cs : List C}, cs.length = ds.length → backA env (ds.map R.dat) cs = some env
  | [], _, _ => by cases ‹List C› <;> rfl
  | d :: ds, [], h => by cases h
  | d :: ds, c :: cs, h => backA_dat (ds := ds) (by simpa using h)
theorem backA_one {i : Nat} {p : List Pst} {rs : List R} {c : C} {cs : List C} : ∀ {ds : List D} {bs : List C}, bs.length = ds.length → backA env (ds.map R.dat ++ .al i p :: rs) (bs ++ c :: cs) = backA env (.al i p :: rs) (c :: cs)
  | [], [], _ => rfl
  | [], _ :: _, h => by cases h
  | d :: ds, [], h => by cases h
  | d :: ds, b :: bs, h => backA_one (ds := ds) (by simpa using h)
/-- the end of a call, as a step of the caller -/
theorem call_end {cs cs' : List C} {vs : List V} {rs : List R} (S : Stp W pu env0 σ A0 A FA env H0 H F) (ha : ArgOk W (Fre A FA) env σ H0 H F vs rs cs) :
    ∃ F1, Slots W.T H0 H cs (vs.map some) F1 ∧ F1.Nodup ∧ (∀ a ∈ F1, a ∈ F) ∧ ∀ {H0' H' : Hp} {F1' : List Addr} {env' : M.Env}, cs'.length = cs.length → backA env rs cs' = some env' → CallOk W.T cs vs H0 H F1 cs' H0' H' F1' → ∃ F', Stp W false env0 σ A0 A FA env' H0' H' F' ∧ ∀ {u : V} {r : R}, noAl r = true → VAL (W0 W.T) (Fre H F1) cs' (vs.map some) H0' H' F1' u r → VAL W (Fre A FA) env' σ H0' H' F' u r := by
  have O := S.ok
  cases ha with
  | data ds e1 e2 dd =>
    subst e1 e2
    refine ⟨[], .dats dd, .nil, fun a z => (by cases z), fun {H0' H' F1' env'} hl hb c => ?_⟩
    rw [backA_dat (by simpa using hl)] at hb
    injection hb with hb
    subst hb
    have keep : ∀ a, H a ≠ none → H0 a = none → H' a = H a ∧ H0' a = none := fun a z1 z2 => c.hg.keep a (fun z => by cases z) z1 z2
    have sl := O.sl.mono (H' := H') c.hg.k0 fun a z => (keep a (O.sl.al a z) (O.h0 a z)).1
    refine ⟨F, ⟨⟨sl, O.nd, fun a z => (keep a (O.sl.al a z) (O.h0 a z)).2, c.sm, O.cu.mono c.hg.k0⟩, ⟨S.hg.k0.trans c.hg.k0, fun a n al h0 => ?_, fun a z => c.hg.al a (S.hg.al a z), S.hg.ow⟩, ⟨S.fs.pr, fun i f t k o => ?_⟩, fun z => by cases z⟩, fun {u r} nr w => ?_⟩
    · obtain ⟨q1, q2⟩ := S.hg.keep a n al h0
      obtain ⟨q3, q4⟩ := keep a (by rw [q1]; exact al) q2
      exact ⟨q3.trans q1, q4⟩
    · obtain ⟨o1, n1⟩ := S.fs.st i f t k o
      refine ⟨o1, fun v0 v e nv => ?_⟩
      obtain ⟨x, x1, x2⟩ := o
      rw [getE_fld, Option.bind_eq_some_iff] at x1
      obtain ⟨cj, c1, c2⟩ := x1
      obtain ⟨a, a1, a2⟩ := O.sl.root c1 (path_own (p := [.fld f]) (c := x) (by simp only [getC, c2, Option.bind_some]) x2)
      rw [e] at a1
      injection a1 with a1
      injection a1 with a1
      subst a1
      exact (n1 _ v e nv).root fun b z => by injection z with z; subst z; exact (keep _ (O.sl.al _ a2) (O.h0 _ a2)).1
    · cases r with
      | dat d => exact w
      | own c' =>
        obtain ⟨o, Fc, h1, h2, h3⟩ := w
        exact ⟨o, Fc, h1, h2, fun a z => ⟨(h3 a z).1, fun y => (h3 a z).2.2.elim (O.sl.al a y) (fun q => by cases q), (h3 a z).2.2.elim (fun q => .inl (S.back q)) (fun q => by cases q)⟩⟩
      | al => cases nr
  | one ds es us ws v i p c e1 e2 e3 d1 d2 ev wv =>
    subst e1 e2 e3
    obtain ⟨v0, F1, G, q1, q2, q3, q4, q5⟩ := VAL.focus O ev wv
    obtain ⟨ge, go⟩ := vw_al ev
    have nd := Nodup.of_perm q4 O.nd
    obtain ⟨n1, n2, n3⟩ := List.nodup_append.mp nd
    have hF : ∀ a ∈ F1, a ∈ F := fun a z => q4.mem_iff.mpr (List.mem_append_left _ z)
    have hG : ∀ a ∈ G, a ∈ F := fun a z => q4.mem_iff.mpr (List.mem_append_right _ z)
    have sl : Slots W.T H0 H (ds.map C.dat ++ c :: es.map C.dat) ((us ++ v :: ws).map some) F1 := by
      have := (Slots.dats (H := H) d1).app (Slots.cons q3 (Slots.dats d2))
      rw [List.append_nil, List.nil_append] at this
      rw [List.map_append, List.map_cons]
      exact this
    refine ⟨F1, sl, n1, hF, fun {H0' H' F1' env'} hl hb k => ?_⟩
    have lu : us.length = ds.length := d1.len
    -- the callee's cells
    obtain ⟨bs, c', cs2, rfl, lb⟩ : ∃ bs c' cs2, cs' = bs ++ c' :: cs2 ∧ bs.length = ds.length := by
      have hl' : cs'.length = ds.length + (es.length + 1) := by simpa using hl
      refine ⟨cs'.take ds.length, cs'[ds.length], cs'.drop (ds.length + 1), ?_, by rw [List.length_take]; omega⟩
      rw [← List.drop_eq_getElem_cons, List.take_append_drop]
    rw [backA_one lb] at hb
    simp only [backA, ev] at hb
    have keepG : ∀ a ∈ G, H' a = H a ∧ H0' a = none := fun a z => k.hg.keep a (fun y => n3 a y a z rfl) (O.sl.al a (hG a z)) (O.h0 a (hG a z))
    have atV : ((us ++ v :: ws).map some)[ds.length]? = some (some v) := by
      rw [List.map_append, List.getElem?_append_right (by rw [List.length_map, lu]; exact Nat.le_refl _), List.length_map, lu, Nat.sub_self]
      rfl
    have atC : (bs ++ c' :: cs2)[ds.length]? = some c' := by
      rw [List.getElem?_append_right (by omega), lb, Nat.sub_self]
      rfl
    have at0 : (ds.map C.dat ++ c :: es.map C.dat)[ds.length]? = some c := by
      rw [List.getElem?_append_right (by rw [List.length_map]; exact Nat.le_refl _), List.length_map, Nat.sub_self]
      rfl
    have hgC : ∀ {F'}, (∀ a ∈ F', a ∈ F1' ∨ a ∈ G) → Hg A0 A FA H0' H' F' := fun {F'} i => by
      refine ⟨S.hg.k0.trans k.hg.k0, fun a n al h0 => ?_, fun a z => k.hg.al a (S.hg.al a z), fun a z => ?_⟩
      · obtain ⟨y1, y2⟩ := S.hg.keep a n al h0
        obtain ⟨y3, y4⟩ := k.hg.keep a (fun y => (S.hg.ow a (hF a y)).elim n al) (by rw [y1]; exact al) y2
        exact ⟨y3.trans y1, y4⟩
      · rcases i a z with y | y
        · exact (k.hg.ow a y).elim (fun q => S.hg.ow a (hF a q)) fun q => .inr (S.back q)
        · exact S.hg.ow a (hG a y)
    have valC : ∀ {F' : List Addr} {env' : M.Env} {u : V} {r : R}, (∀ a ∈ F', a ∈ F1' ∨ a ∈ G) → noAl r = true → VAL (W0 W.T) (Fre H F1) (bs ++ c' :: cs2) ((us ++ v :: ws).map some) H0' H' F1' u r → VAL W (Fre A FA) env' σ H0' H' F' u r := fun {F' env' u r} i nr w => by
      cases r with
      | dat d => exact w
      | own c' =>
        obtain ⟨o, Fc, h1, h2, h3⟩ := w
        refine ⟨o, Fc, h1, h2, fun a z => ⟨(h3 a z).1, fun y => ?_, (h3 a z).2.2.elim (fun q => .inl (S.back q)) fun q => (S.hg.ow a (hF a q)).symm⟩⟩
        rcases i a y with y | y
        · exact (h3 a z).2.1 y
        · exact (h3 a z).2.2.elim (O.sl.al a (hG a y)) fun q => n3 a q a y rfl
      | al => cases nr
    cases oc : c.own with
    | false =>
      rw [if_neg (by rw [oc]; exact fun z => by cases z)] at hb
      injection hb with hb
      subst hb
      have F1e : F1 = [] := by cases q3 <;> first | rfl | cases oc
      subst F1e
      have slE := O.sl.mono (H' := H') k.hg.k0 fun a z => (keepG a (q4.mem_iff.mp z)).1
      refine ⟨F, ⟨⟨slE, O.nd, fun a z => (keepG a (q4.mem_iff.mp z)).2, k.sm, O.cu.mono k.hg.k0⟩, hgC fun a z => .inr (q4.mem_iff.mp z), ⟨S.fs.pr, fun j f t y o => ?_⟩, fun z => by cases z⟩, valC fun a z => .inr (q4.mem_iff.mp z)⟩
      obtain ⟨o1, m1⟩ := S.fs.st j f t y o
      refine ⟨o1, fun u0 u e nu => ?_⟩
      obtain ⟨x, x1, x2⟩ := o
      rw [getE_fld, Option.bind_eq_some_iff] at x1
      obtain ⟨cj, c1, c2⟩ := x1
      obtain ⟨a, a1, a2⟩ := O.sl.root c1 (path_own (p := [.fld f]) (c := x) (by simp only [getC, c2, Option.bind_some]) x2)
      rw [e] at a1
      injection a1 with a1
      injection a1 with a1
      subst a1
      exact (m1 _ u e nu).root fun b z => by injection z with z; subst z; exact (keepG _ (q4.mem_iff.mp a2)).1
    | true =>
      rw [if_pos oc] at hb
      have nc' : c' ≠ .non := fun z => by rw [z] at hb; cases hb
      have hb : env' = setE env i p c' := by
        split at hb
        · exact absurd rfl nc'
        · injection hb with hb
          exact hb.symm
      subst hb
      obtain ⟨v1, F3, G3, f1, f2, f3, _⟩ := k.sl.focus atC nc'
      rw [atV] at f1
      injection f1 with f1
      injection f1 with f1
      subst f1
      obtain ⟨w1, w2, w3, F', w4, w5⟩ := q5 k.hg.k0 (fun a z => (keepG a z).1) f2
      have in3 : ∀ a ∈ F3, a ∈ F1' := fun a z => f3.mem_iff.mpr (List.mem_append_left _ z)
      have inF : ∀ a ∈ F', a ∈ F1' ∨ a ∈ G := fun a z => (List.mem_append.mp (w5.mem_iff.mp z)).imp (in3 a) id
      have dis : ∀ a ∈ F1', a ∉ G := fun a z y => (k.hg.ow a z).elim (fun q => n3 a q a y rfl) (O.sl.al a (hG a y))
      have len0 : ds.length < ((us ++ v :: ws).map some).length := (List.getElem?_eq_some_iff.mp atV).1
      refine ⟨F', ⟨⟨w4, ?_, fun a z => (inF a z).elim (k.h0 a) fun y => (keepG a y).2, k.sm, O.cu.mono k.hg.k0⟩, hgC inF, ⟨fun j f t y => ?_, fun j f t y o => ?_⟩, fun z => by cases z⟩, valC inF⟩
      · exact Nodup.of_perm w5.symm (List.nodup_append.mpr ⟨(List.nodup_append.mp (Nodup.of_perm f3 k.nd)).1, n2, fun a z b y q => dis a (in3 a z) (by rw [q]; exact y)⟩)
      · refine fld_setE ge (fun hp hx => ?_) (S.fs.pr j f t y)
        have := k.fs.pr ds.length f trivial (by rw [getE_fld, at0]; exact hx)
        rw [getE_fld, atC] at this
        exact this
      · have pr := S.fs.pr j f t y
        rcases own_setE2 ge oc o with ⟨rfl, rfl, x', h1, h2⟩ | ⟨o1, ne⟩
        · have pc : c.at (.fld f) ≠ none := by
            rw [getE_fld] at pr
            rw [getE_nil] at ge
            rw [ge, Option.bind_some] at pr
            exact pr
          obtain ⟨⟨x, y1, y2⟩, y3⟩ := k.fs.st ds.length f trivial (by rw [getE_fld, at0]; exact pc) ⟨x', by rw [getE_fld, atC]; exact h1, h2⟩
          rw [getE_fld, at0] at y1
          have o2 : ownP env j [.fld f] := ⟨x, by rw [getE_fld]; rw [getE_nil] at ge; rw [ge, Option.bind_some]; exact y1, y2⟩
          obtain ⟨s1, s2⟩ := S.fs.st j f t y o2
          refine ⟨s1, fun u0 u eu nu => ?_⟩
          have := s2 u0 u eu nu
          rw [q1] at eu
          injection eu with eu
          injection eu with eu
          subst eu
          have q2' : v0 = v := q2
          subst q2'
          exact y3 _ u atV this
        · obtain ⟨s1, s2⟩ := S.fs.st j f t y o1
          refine ⟨s1, fun u0 u eu nu => ?_⟩
          have nu := s2 u0 u eu nu
          by_cases ij : j = i
          · subst ij
            rw [q1] at eu
            injection eu with eu
            injection eu with eu
            subst eu
            exact w2 (ne rfl) _ _ nu
          · obtain ⟨x, x1, x2⟩ := o1
            rw [getE_fld, Option.bind_eq_some_iff] at x1
            obtain ⟨cj, x3, x4⟩ := x1
            have oj : cj.own = true := path_own (p := [.fld f]) (c := x) (by simp only [getC, x4, Option.bind_some]) x2
            exact w3 j cj ij x3 oj u0 eu _ _ nu
/-- how long the cells are behind a call -/
def Len (f : List C → Out R) : Prop := ∀ cs, Out.wp (fun _ cs' => cs'.length = cs.length) (fun _ _ cs' => cs'.length = cs.length) (f cs) ∨ f cs = .bad
theorem len_def {n k : Nat} {fx : Nat → Bool} {m : MS} : Len (mDef n k fx m) := fun cs => by
  unfold mDef
  split
  · cases m (cs ++ List.replicate k .non) with
    | nx e => exact .inl outCs_len
    | rt r e =>
      cases h : outR fx n r e with
      | ok r' e' => simp only [h]; exact .inl outCs_len
      | ex c fs e' =>
        exfalso
        have fzx : ∀ r, fzO r e ≠ .ex c fs e' := fun r z => by
          unfold fzO at z
          split at z <;> cases z
        unfold outR at h
        split at h
        · cases h
        · cases h
        · split at h
          · split at h <;> cases h
          · exact fzx _ h
        · exact fzx _ h
      | bad => simp only [h]; exact .inr rfl
    | ex c fs e => exact .inl outCs_len
    | bk => exact .inr rfl
    | ct => exact .inr rfl
    | bad => exact .inr rfl
  · exact .inr rfl
theorem arity_def {n k : Nat} {fx : Nat → Bool} {m : MS} (cs : List C) (h : cs.length ≠ n) : mDef n k fx m cs = .bad := by
  unfold mDef
  rw [if_neg]
  rw [Bool.and_eq_true]
  exact fun z => h (by simpa using z.1)
theorem VALs.len {vs : List V} {rs : List R} (h : VALs W Z env σ H0 H F vs rs) : vs.length = rs.length := by
  induction h with
  | nil => rfl
  | cons _ _ ih => simpa using ih
theorem cellsO_len : ∀ {rs : List R} {cs : List C}, cellsO env rs = some cs → cs.length = rs.length
  | [], _, h => by simp [cellsO] at h; subst h; rfl
  | r :: rs, cs, h => by
    simp only [cellsO] at h
    split at h
    · rename_i c cs' h1 h2
      injection h with h
      subst h
      simpa using cellsO_len h2
    · cases h
/-- a call keeps the callee's promise -/
theorem call_run {f : List C → Out R} {n : Nat} (hl : Len f) (hn : ∀ cs, cs.length ≠ n → f cs = .bad) {rs : List R} {vs : List V} {P : R → M.Env → Prop} {px : PX} (X : ErrOk W px env0 σ A0 A FA) (S : Stp W pu env0 σ A0 A FA env H0 H F) (ws : VALs W (Fre A FA) env σ H0 H F vs rs) (p : Out.wp P px (callF f rs env)) {Q : VK}
    (q : ∀ v r env' H0' H' F', P r env' → Stp W false env0 σ A0 A FA env' H0' H' F' → VAL W (Fre A FA) env' σ H0' H' F' v r → Q v H') : SPm W.T n f vs H Q (W.E σ) := by
  unfold callF at p
  split at p
  · rename_i cs e1
    split at p
    · rename_i e2
      have lc := cellsO_len e1
      have lv := ws.len
      by_cases hc : cs.length = n
      · refine ⟨by omega, cs, H0, ?_⟩
        cases fr : f cs with
        | bad => rw [fr] at p; cases p
        | ok r cs' =>
          rw [fr] at p
          dsimp only at p
          have l' : cs'.length = cs.length := by
            rcases hl cs with z | z
            · rw [fr] at z; exact z
            · rw [fr] at z; cases z
          obtain ⟨F1, s1, s2, s3, s4⟩ := call_end (cs' := cs') S (argOk_of e2 e1 ws)
          refine ⟨F1, hc, s1, s2, fun a z => S.ok.h0 a (s3 a z), S.ok.sm, fun v H0' H' F' nr k w => ?_⟩
          split at p
          · rename_i e' be
            obtain ⟨F2, S2, wv⟩ := s4 l' be k
            exact q v r e' H0' H' F2 p S2 (wv nr w)
          · cases p
        | ex c fs cs' =>
          rw [fr] at p
          dsimp only at p
          have l' : cs'.length = cs.length := by
            rcases hl cs with z | z
            · rw [fr] at z; exact z
            · rw [fr] at z; cases z
          obtain ⟨F1, s1, s2, s3, s4⟩ := call_end (cs' := cs') S (argOk_of e2 e1 ws)
          refine ⟨F1, hc, s1, s2, fun a z => S.ok.h0 a (s3 a z), S.ok.sm, fun Ad d H0' H' F' k ec xd => ?_⟩
          split at p
          · rename_i e' be
            obtain ⟨F2, S2, _⟩ := s4 l' be k
            exact X c Ad d fs e' σ H0' H' F2 p S2.chg ec xd
          · cases p
      · rw [hn cs hc] at p; cases p
    · cases p
  · cases p
theorem rf_call {f : List C → Out R} {n : Nat} (hl : Len f) (hn : ∀ cs, cs.length ≠ n → f cs = .bad) {ta : TA} {ma : MA} (ha : RfA W false ta ma) : RfE W false (tCallS (SPm W.T n f) W.E ta) (mCall f ma) := fun env P px p σ H0 H F O X Q q => by
  unfold mCall at p
  rw [Out.wp_bind] at p
  refine ha env _ px p σ H0 H F O X _ fun vs rs env1 A0 A FA p1 S ws => ?_
  exact call_run hl hn X S ws p1 q
end
end M
set_option Elab.async false
set_option linter.all false
set_option maxRecDepth 100000
set_option maxHeartbeats 1000000
namespace M
open PySem PySem.Spec PyProof.Rows L2 MR
variable {W : Wo}
def permO (n : Nat) (ix : List Nat) (rs : List R) : Option (List R) := if rs.length = n then some (perm ix rs) else none
def mCallP (n : Nat) (ix : List Nat) (f : List C → Out R) (a : MA) : ME := fun env => (a env).bind fun rs e => match permO n ix rs with
  | some rs' => callF f rs' e
  | none => .bad
/-- the class of a thing, and its attributes' numbers -/
def clsOf : C → Option (Nat × List Nat)
  | .dat (.ins c fs) => some (c, fs.map (·.1))
  | .obj c fs => some (c, fs.map (·.1))
  | _ => none
def isOf (c mt : Nat) (x : R) (e : M.Env) : Bool := match (vw e x).bind clsOf with
  | some (c', fs) => decide (c' = c) && !fs.contains mt
  | none => false
def mMeth (c mt : Nat) (f : List C → Out R) (o : ME) (a : MA) : ME := fun env => (o env).bind fun x e1 => grd (isOf c mt x e1 && x.sh) ((a e1).bind fun rs e2 => callF f (x :: rs) e2)
def mkO (cl : Nat) (f : List C → Out R) (rs : List R) (e : M.Env) : Out R := match datR rs with
  | some ds => (match f (.obj cl [] :: ds.map .dat) with
    | .ok (.dat .non) (c :: _) => (match c with
      | .dat d => .ok (.dat d) e
      | .non => .bad
      | c => .ok (.own c) e)
    | .ok _ _ => .bad
    | .ex c fs _ => .ex c fs e
    | .bad => .bad)
  | none => .bad
def mMake (cl : Nat) (f : List C → Out R) (a : MA) : ME := fun env => (a env).bind fun rs e => mkO cl f rs e
section
variable {pu pb : Bool} {env0 env env' env2 : M.Env} {σ σ' σ2 : L2.St} {H0 H H0' H' A0 A B B' : Hp} {F FA F' F2 : List Addr} {v : V} {r : R} {d : D} {Z : Addr → Prop} {T : Tb}
theorem VALs.at_ : ∀ {vs : List V} {rs : List R} {i : Nat}, VALs W Z env σ H0 H F vs rs → (rs[i]? = none ∧ vs[i]? = none) ∨ ∃ r v, rs[i]? = some r ∧ vs[i]? = some v ∧ VAL W Z env σ H0 H F v r
  | _, _, _, .nil => .inl (by simp)
  | _, _, 0, .cons h _ => .inr ⟨_, _, rfl, rfl, h⟩
  | _, _, i + 1, .cons _ t => by simpa using t.at_ (i := i)
theorem VALs.perm {vs : List V} {rs : List R} (h : VALs W Z env σ H0 H F vs rs) : ∀ ix : List Nat, VALs W Z env σ H0 H F (MR.perm ix vs) (MR.perm ix rs)
  | [] => .nil
  | i :: ix => by
    unfold MR.perm
    simp only [List.filterMap_cons]
    rcases h.at_ (i := i) with ⟨e1, e2⟩ | ⟨r, v, e1, e2, w⟩
    · rw [e1, e2]; exact h.perm ix
    · rw [e1, e2]; exact .cons w (h.perm ix)
theorem rf_callP {f : List C → Out R} {n : Nat} (hl : Len f) (hn : ∀ cs, cs.length ≠ n → f cs = .bad) {m : Nat} {ix : List Nat} {ta : TA} {ma : MA} (ha : RfA W false ta ma) : RfE W false (tCallPS m ix (SPm W.T n f) W.E ta) (mCallP m ix f ma) := fun env P px p σ H0 H F O X Q q => by
  unfold mCallP at p
  rw [Out.wp_bind] at p
  refine ha env _ px p σ H0 H F O X _ fun vs rs env1 A0 A FA p1 S ws => ?_
  unfold permO at p1
  split at p1
  · rename_i rs' e
    split at e
    · rename_i hl'
      injection e with e
      subst e
      exact ⟨ws.len.trans hl', call_run hl hn X S (ws.perm ix) p1 q⟩
    · cases e
  · cases p1
end
end M
set_option Elab.async false
set_option linter.all false
set_option maxRecDepth 100000
set_option maxHeartbeats 4000000
namespace MR
open PySem PySem.Spec PyProof.Rows L2
theorem tuple_mulS (l : Addr) (items : Array Value) (n : Nat) (dd : Option Addr) (sl : Array (Option Value)) (x : Int) (u : Tok) (c0 : (decide (x < -(2 ^ 63)) || decide (x ≥ 2 ^ 63)) = false) (c1 : (items.isEmpty || x == 1) = true) :
    Meets (Builtin.«tuple.__mul__» ⟨[.ref l, .int x u], []⟩) (fun _ R s => s.heap.get? l = some { cls := .type "tuple", dict := dd, data := .seq items n, slots := sl } ∧ R (.ok (.ret (Value.ref l))) s) :=
  .of_wp fun prog w A R s h => by
    obtain ⟨hp, g, d, tk, os⟩ := s
    obtain ⟨hl, h⟩ := h
    have f1 := AutoSeq1.idx_int
    wp_walk using wpAny_loadPart' hl
    repeat (first
      | (refine wpAny_ite_false (decide_eq_false (by rw [c0]; exact Bool.false_ne_true)) ?_; wp_walk using wpAny_loadPart' hl)
      | (refine wpAny_ite_true (decide_eq_true c1) ?_; wp_walk using wpAny_loadPart' hl))
    exact ⟨_, rfl, h⟩
theorem tuple_mulE (l : Addr) (items : Array Value) (n : Nat) (dd : Option Addr) (sl : Array (Option Value)) (x : Int) (u : Tok) (c0 : (decide (x < -(2 ^ 63)) || decide (x ≥ 2 ^ 63)) = false) (c1 : (items.isEmpty || x == 1) = false) (c2 : (decide (x ≤ 0) || items.isEmpty) = true) :
    Meets (Builtin.«tuple.__mul__» ⟨[.ref l, .int x u], []⟩) (fun _ R s => s.heap.get? l = some { cls := .type "tuple", dict := dd, data := .seq items n, slots := sl } ∧ R (.ok (.ret (Value.ref s.heap.objs.size))) { s with heap := s.heap.push { cls := Value.type "tuple", data := Data.seq #[] }, toks := s.toks }) :=
  .of_wp fun prog w A R s h => by
    obtain ⟨hp, g, d, tk, os⟩ := s
    obtain ⟨hl, h⟩ := h
    have f1 := AutoSeq1.idx_int
    wp_walk using wpAny_loadPart' hl
    repeat (first
      | (refine wpAny_ite_false (decide_eq_false (by rw [c0]; exact Bool.false_ne_true)) ?_; wp_walk using wpAny_loadPart' hl)
      | (refine wpAny_ite_false (decide_eq_false (by rw [c1]; exact Bool.false_ne_true)) ?_; wp_walk using wpAny_loadPart' hl)
      | (refine wpAny_ite_true (decide_eq_true c2) ?_; wp_walk using wpAny_loadPart' hl))
    exact ⟨_, rfl, h⟩
def rRepA (K : PySem.W.Frag) : R2 := fun x y H Q => ∃ l k xs, x = .ref l ∧ y = .int k ∧ SqT K H l xs ∧ -1000000 ≤ k ∧ k ≤ 1000000 ∧ xs.length * k.toNat ≤ 1000000 ∧ ((xs = [] ∨ k = 1) → Q (.ref l) H) ∧ (xs ≠ [] → k ≠ 1 → ∀ p, H p = none → Q (.ref p) (upd H p (.tup (List.replicate k.toNat xs).flatten)))
theorem op_repA {X : Cx} : OpR X (binaryOp .Mult) (rRepA X.K) := by
  intro pins s σ H x y v u Q I rx ry h
  obtain ⟨l, k, xs, rfl, rfl, hT, h1, h2, hz, q1, q2⟩ := h
  cases rx
  obtain ⟨t, rfl⟩ := ry
  obtain ⟨its, r, ⟨⟨cls, dd, data, sl⟩, ho, hc, n, hd⟩, hs⟩ := I.tuple hT
  simp only at hc hd
  subst hc hd
  have hle : its.length = xs.length := r.length.symm
  have c0 : (decide (k < -(2 ^ 63)) || decide (k ≥ 2 ^ 63)) = false := by
    rw [decide_eq_false (by omega), decide_eq_false (by omega)] <;> rfl
  by_cases hc1 : xs = [] ∨ k = 1
  · have c1 : (its.toArray.isEmpty || k == 1) = true := by
      rcases hc1 with e | e
      · subst e
        have : its = [] := List.eq_nil_of_length_eq_zero hle
        subst this
        rfl
      · subst e
        simp
    refine wpAny_binaryOp_repeat_ref (T := "tuple") (U := "int") (by decide) ⟨_, ho, rfl⟩ (fun s' => typeIs_int s' k t) noFill_tuple_mul F.fills_int_mul F.slot_int_rmul repeat_tuple F.slot_int_index.lookup
      (call_meets F.slot_int_rmul (typeIs_int s k t) F.entry_int_rmul (F.args_int_rmul_2 _ _) (int_rmul_tuple k t l its.toArray n dd sl)
        ⟨ho, rfl, ⟨_, ho, rfl⟩, call_meets F.slot_tuple_mul ⟨_, ho, rfl⟩ F.entry_tuple_mul (F.args_tuple_mul_2 _ _) (tuple_mulS l its.toArray n dd sl k t c0 c1) ⟨ho, ?_⟩⟩)
    exact ⟨.ref l, H, I, rfl, q1 hc1⟩
  · have hne : xs ≠ [] := fun e => hc1 (.inl e)
    have hk : k ≠ 1 := fun e => hc1 (.inr e)
    have hn : its ≠ [] := fun e => hne (by
      rw [e] at hle
      exact List.eq_nil_of_length_eq_zero hle.symm)
    have hi : its.toArray.isEmpty = false := by
      cases its with
      | nil => exact absurd rfl hn
      | cons a b => rfl
    have hsz0 : its.toArray.size = xs.length := by rw [List.size_toArray, hle]
    have c1 : (its.toArray.isEmpty || k == 1) = false := by
      rw [hi, Bool.false_or]
      exact beq_eq_false_iff_ne.mpr hk
    have flen : (List.replicate k.toNat its).flatten.length ≤ sizeLine := by
      rw [PyProof.Rows.lm_len_rep_flat, hle, sizeLine_eq, Nat.mul_comm]
      omega
    by_cases k0 : k ≤ 0
    · have c2 : (decide (k ≤ 0) || its.toArray.isEmpty) = true := by rw [decide_eq_true k0]; rfl
      refine wpAny_binaryOp_repeat_ref (T := "tuple") (U := "int") (by decide) ⟨_, ho, rfl⟩ (fun s' => typeIs_int s' k t) noFill_tuple_mul F.fills_int_mul F.slot_int_rmul repeat_tuple F.slot_int_index.lookup
        (call_meets F.slot_int_rmul (typeIs_int s k t) F.entry_int_rmul (F.args_int_rmul_2 _ _) (int_rmul_tuple k t l its.toArray n dd sl)
          ⟨ho, rfl, ⟨_, ho, rfl⟩, call_meets F.slot_tuple_mul ⟨_, ho, rfl⟩ F.entry_tuple_mul (F.args_tuple_mul_2 _ _) (tuple_mulE l its.toArray n dd sl k t c0 c1 c2) ⟨ho, ?_⟩⟩)
      have e0 : k.toNat = 0 := by omega
      have q2 := q2 hne hk _ (I.hok.fresh (Nat.le_refl s.heap.objs.size))
      rw [e0] at q2
      refine ⟨.ref s.heap.objs.size, _, I.laid (t' := s.toks) (o := .tup []) (fun b ob q => Heap.get?_push_of_some _ q) (Nat.le_refl _) ?_, rfl, q2⟩
      exact ⟨by rw [sizeLine_eq]; exact Nat.zero_le _, _, .nil, IsTup.new _ _⟩
    · have c2 : (decide (k ≤ 0) || its.toArray.isEmpty) = false := by
        rw [hi, Bool.or_false]
        exact decide_eq_false k0
      have hm : ((its.toArray.size : Nat) : Int) * k ≤ 1000000 := by
        rw [hsz0]
        have : (k.toNat : Int) = k := by omega
        rw [← this]
        have e : ((xs.length : Int)) * ((k.toNat : Nat) : Int) = ((xs.length * k.toNat : Nat) : Int) := (Int.natCast_mul _ _).symm
        rw [e]
        omega
      have c4 : Builtin.Tuple.tupleTooMany (((its.toArray.size : Nat) : Int) * k) = false := by
        unfold Builtin.Tuple.tupleTooMany
        rw [sizeLine_eq]
        exact decide_eq_false (by omega)
      refine wpAny_binaryOp_repeat_ref (T := "tuple") (U := "int") (by decide) ⟨_, ho, rfl⟩ (fun s' => typeIs_int s' k t) noFill_tuple_mul F.fills_int_mul F.slot_int_rmul repeat_tuple F.slot_int_index.lookup
        (call_meets F.slot_int_rmul (typeIs_int s k t) F.entry_int_rmul (F.args_int_rmul_2 _ _) (int_rmul_tuple k t l its.toArray n dd sl)
          ⟨ho, rfl, ⟨_, ho, rfl⟩, call_meets F.slot_tuple_mul ⟨_, ho, rfl⟩ F.entry_tuple_mul (F.args_tuple_mul_2 _ _) (tuple_mulW l its.toArray n dd sl k t c0 c1 c2 (by omega) c4 (by rw [size_rep, List.size_toArray]; exact flen)) ⟨ho, ?_⟩⟩)
      rw [size_rep]
      refine ⟨.ref s.heap.objs.size, _, I.laid (t' := s.toks) (o := .tup (List.replicate k.toNat xs).flatten) (fun b ob q => Heap.get?_push_of_some _ q) (Nat.le_refl _) ?_, rfl, q2 hne hk _ (I.hok.fresh (Nat.le_refl _))⟩
      exact ⟨by rw [PyProof.Rows.lm_len_rep_flat, sizeLine_eq, Nat.mul_comm]; omega, _, r.rep k.toNat, IsTup.new _ _⟩
end MR
set_option Elab.async false
set_option linter.all false
set_option maxRecDepth 100000
set_option maxHeartbeats 1000000
namespace M
open PySem PySem.Spec PyProof.Rows L2 MR
variable {W : Wo}
mutual
def D.py : D → PyData
  | .non => .none | .bl b => .bool b | .int i => .int i | .str s => .str s
  | .tup ds => .tuple (D.pys ds) | .lst ds => .list (D.pys ds)
  | _ => .none
def D.pys : List D → List PyData
  | [] => []
  | d :: ds => D.py d :: D.pys ds
end
mutual
def D.pln : D → Bool
  | .non => true | .bl _ => true | .int _ => true | .str _ => true
  | .tup ds => D.plns ds | .lst ds => D.plns ds
  | _ => false
def D.plns : List D → Bool
  | [] => true
  | d :: ds => D.pln d && D.plns ds
end
theorem pys_map : ∀ ds : List D, D.pys ds = ds.map D.py
  | [] => by simp [D.pys]
  | d :: ds => by simp [D.pys, pys_map ds]
theorem plns_all : ∀ ds : List D, D.plns ds = ds.all D.pln
  | [] => by simp [D.plns]
  | d :: ds => by simp [D.plns, plns_all ds]
def shp (d : D) : Bool := d.pln && SeqAt.shaped d.py
def eqD (d e : D) : Bool := PyData.eqv d.py e.py
def D.isS : D → Bool | .str _ => true | _ => false
def oEq : D → D → Option R := fun d e => if ((shp d && shp e) || (d.isS && e.isS)) = true then some (.dat (.bl (eqD d e))) else none
def oNe : D → D → Option R := fun d e => if ((shp d && shp e) || (d.isS && e.isS)) = true then some (.dat (.bl (!eqD d e))) else none
def oAdd : D → D → Option R
  | .int i, .int j => some (.dat (.int (i + j)))
  | .str a, .str b => if a.length + b.length ≤ sizeLine then some (.dat (.str (a ++ b))) else none
  | .tup a, .tup b => if a.length + b.length ≤ LIM then some (.dat (.tup (a ++ b))) else none
  | .lst a, .lst b => if a.length + b.length ≤ LIM then some (.own (.lst ((a ++ b).map .dat))) else none
  | _, _ => none
def oSub : D → D → Option R
  | .int i, .int j => some (.dat (.int (i - j)))
  | _, _ => none
def small (i : Int) : Bool := decide (-(2 ^ 64) < i) && decide (i < 2 ^ 64)
def oMul : D → D → Option R
  | .int i, .int j => if (small i || small j) = true then some (.dat (.int (i * j))) else none
  | .tup a, .int k => if (decide (-1000000 ≤ k) && decide (k ≤ 1000000) && decide (a.length * k.toNat ≤ 1000000)) = true then some (.dat (.tup (List.replicate k.toNat a).flatten)) else none
  | .lst a, .int k => if (decide (-1000000 ≤ k) && decide (k ≤ 1000000) && decide (a.length * k.toNat ≤ 1000000)) = true then some (.own (.lst ((List.replicate k.toNat a).flatten.map .dat))) else none
  | _, _ => none
def oDiv : D → D → Option R
  | .int i, .int j => if (decide (j ≠ 0) && decide (j.natAbs < 1073741824)) = true then some (.dat (.int (i.fdiv j))) else none
  | _, _ => none
def oMod : D → D → Option R
  | .int i, .int j => if j ≠ 0 then some (.dat (.int (i.fmod j))) else none
  | _, _ => none
def oPow : D → D → Option R
  | .int i, .int j => if (decide (0 ≤ j) && decide (j ≤ 1000000) && decide (i.natAbs < 2 ^ 64)) = true then some (.dat (.int (i ^ j.toNat))) else none
  | _, _ => none
def oLt : D → D → Option R := fun d e => match d, e with
  | .int i, .int j => some (.dat (.bl (decide (i < j))))
  | .tup a, .tup b => if (shp (.tup a) && shp (.tup b) && okP (D.tup a).py (D.tup b).py) = true then some (.dat (.bl (ltP (D.tup a).py (D.tup b).py))) else none
  | _, _ => none
def oLe : D → D → Option R
  | .int i, .int j => some (.dat (.bl (decide (i ≤ j))))
  | _, _ => none
def oGt : D → D → Option R
  | .int i, .int j => some (.dat (.bl (decide (j < i))))
  | _, _ => none
def oGe : D → D → Option R
  | .int i, .int j => some (.dat (.bl (decide (j ≤ i))))
  | _, _ => none
def D.isNon : D → Bool | .non => true | _ => false
def oIs : D → D → Option R := fun d e => match e with
  | .non => some (.dat (.bl d.isNon))
  | .bl b => (match d with
    | .bl a => some (.dat (.bl (decide (a = b))))
    | _ => none)
  | _ => none
def oIsNot : D → D → Option R := fun d e => match e with
  | .non => some (.dat (.bl (!d.isNon)))
  | _ => none
/-- flat things -/
def flatD : D → Bool
  | .non => true | .bl _ => true | .int _ => true | .str _ => true
  | _ => false
def toV : D → V
  | .non => .non | .bl b => .bl b | .int i => .int i | .str s => .str s
  | _ => .non
def rowOf : D → Option (List D)
  | .tup ds => some ds
  | .lst ds => some ds
  | .src ds => some ds
  | _ => none
def oIn (neg : Bool) : D → D → Option R := fun x y => match rowOf y with
  | some ds => if (flatD x && ds.all flatD) = true then some (.dat (.bl (if neg = true then !inV (toV x) (ds.map toV) else inV (toV x) (ds.map toV)))) else (match y with
    | .lst es => if (shp x && shp (.lst es)) = true then some (.dat (.bl (if neg = true then !(es.any fun z => eqD z x) else es.any fun z => eqD z x))) else none
    | .tup es => if (shp x && shp (.tup es)) = true then some (.dat (.bl (if neg = true then !(es.any fun z => eqD z x) else es.any fun z => eqD z x))) else none
    | _ => none)
  | none => none
def uNeg : D → Option R
  | .int i => some (.dat (.int (-i)))
  | _ => none
def one (f : D → Option R) : List D → Option R
  | [d] => f d
  | _ => none
def two (f : D → D → Option R) : List D → Option R
  | [d, e] => f d e
  | _ => none
def bLen : D → Option R
  | .tup ds => some (.dat (.int ds.length))
  | .lst ds => some (.dat (.int ds.length))
  | .src ds => some (.dat (.int ds.length))
  | .dic _ kvs => some (.dat (.int kvs.length))
  | .ndc kvs => some (.dat (.int kvs.length))
  | .str s => if s.length ≤ sizeLine then some (.dat (.int s.length)) else none
  | _ => none
def bInt : D → Option R
  | .int i => some (.dat (.int i))
  | .bl b => some (.dat (.int (if b = true then 1 else 0)))
  | _ => none
def bAbs : D → Option R
  | .int i => some (.dat (.int (if i < 0 then -i else i)))
  | _ => none
def bMax2 : D → D → Option R
  | .int i, .int j => some (.dat (.int (if j > i then j else i)))
  | _, _ => none
def bMin2 : D → D → Option R
  | .int i, .int j => some (.dat (.int (if j < i then j else i)))
  | _, _ => none
def bTuple : D → Option R
  | .tup ds => some (.dat (.tup ds))
  | .lst ds => some (.dat (.tup ds))
  | .src ds => some (.dat (.tup ds))
  | _ => none
def kyD : Key → D
  | .inl i => .int i
  | .inr s => .str s
def kdD : Kd → D
  | .a k => kyD k
  | .t ks => .tup (ks.map kyD)
def bList : D → Option R
  | .tup ds => some (.own (.lst (ds.map .dat)))
  | .lst ds => some (.own (.lst (ds.map .dat)))
  | .src ds => some (.own (.lst (ds.map .dat)))
  | .dic false kvs => some (.own (.lst ((kvs.map fun p => kdD p.1).map .dat)))
  | _ => none
def blsOf : List D → Option (List Bool)
  | [] => some []
  | .bl b :: ds => (blsOf ds).map (b :: ·)
  | _ :: _ => none
def intsOf : List D → Option (List Int)
  | [] => some []
  | .int b :: ds => (intsOf ds).map (b :: ·)
  | _ :: _ => none
def bAll : D → Option R
  | .lst ds => (blsOf ds).map fun bs => .dat (.bl (bs.all id))
  | _ => none
def bAny : D → Option R
  | .lst ds => (blsOf ds).map fun bs => .dat (.bl (bs.any id))
  | _ => none
def bRepr : D → Option R := fun d => if (d.pln && d.py.showable && decide (d.py.depth ≤ 60) && decide (d.py.shown.length ≤ sizeLine)) = true then some (.dat (.str d.py.shown)) else none
def bStr : D → Option R
  | .int i => if i.natAbs.log2 < 1920 then some (.dat (.str (toString i))) else none
  | _ => none
/-- the type of a thing -/
def tyN : D → Option String
  | .non => some "NoneType" | .bl _ => some "bool" | .int _ => some "int" | .str _ => some "str" | .tup _ => some "tuple" | .lst _ => some "list" | .src _ => some "list"
  | _ => none
def isiB (d : D) (n : String) : Option Bool := match d with
  | .non => if n = "int" ∨ n = "bool" ∨ n = "tuple" ∨ n = "list" ∨ n = "str" then some false else none
  | .bl _ => if n = "int" ∨ n = "bool" then some true else if n = "tuple" ∨ n = "list" ∨ n = "str" then some false else none
  | .int _ => if n = "int" then some true else if n = "bool" ∨ n = "tuple" ∨ n = "list" ∨ n = "str" then some false else none
  | .str _ => if n = "str" then some true else if n = "int" ∨ n = "bool" ∨ n = "tuple" ∨ n = "list" then some false else none
  | .tup _ => if n = "tuple" then some true else if n = "int" ∨ n = "bool" ∨ n = "list" ∨ n = "str" then some false else none
  | .lst _ => if n = "list" then some true else if n = "int" ∨ n = "bool" ∨ n = "tuple" ∨ n = "str" then some false else none
  | _ => none
def bIsi : D → D → Option R := fun d t => match t with
  | .ty n => (isiB d n).map fun b => .dat (.bl b)
  | .tup [.ty n, .ty m] => match isiB d n, isiB d m with
    | some a, some b => some (.dat (.bl (a || b)))
    | _, _ => none
  | _ => none
section
variable {pu pb : Bool} {env0 env env' env2 : M.Env} {σ σ' σ2 : L2.St} {H0 H H0' H' A0 A B B' : Hp} {F FA F' F2 : List Addr} {v : V} {r : R} {d : D} {Z : Addr → Prop} {T : Tb} {K : PySem.W.Frag}
theorem OpR.or {X : Cx} {f : Value → Value → Sem Value} {r1 r2 : R2} (h1 : OpR X f r1) (h2 : OpR X f r2) : OpR X f (fun x y H Q => r1 x y H Q ∨ r2 x y H Q) := fun pins s σ H x y v u Q I rx ry h =>
  h.elim (h1 pins s σ H x y v u Q I rx ry) (h2 pins s σ H x y v u Q I rx ry)
theorem CallR.or {X : Cx} {f : Value} {r1 r2 : List V → Hp → VK → Prop} (h1 : CallR X f r1) (h2 : CallR X f r2) : CallR X f (fun x H Q => r1 x H Q ∨ r2 x H Q) := fun pins s σ H xs us Q I r h =>
  h.elim (h1 pins s σ H xs us Q I r) (h2 pins s σ H xs us Q I r)
mutual
theorem Dd.dp : ∀ {d : D} {v : V}, Dd T H v d → d.pln = true → Dp K H v d.py
  | _, _, .non, _ => by simp only [D.py]; exact .non
  | _, _, .bl _, _ => by simp only [D.py]; exact .bl _
  | _, _, .int _, _ => by simp only [D.py]; exact .int _
  | _, _, .str _, _ => by simp only [D.py]; exact .str _
  | _, _, .tup h a, p => by
    simp only [D.pln] at p
    simp only [D.py]
    exact .tup (SqT.of h) (DdAll.dp a p)
  | _, _, .lst h a, p => by
    simp only [D.pln] at p
    simp only [D.py]
    exact .lst (SqL.of h) (DdAll.dp a p)
  | _, _, .src _ _, p => by simp [D.pln] at p
  | _, _, .dik _ _ _ _, p => by simp [D.pln] at p
  | _, _, .dit _ _ _ _, p => by simp [D.pln] at p
  | _, _, .ndc _ _ _ _ _, p => by simp [D.pln] at p
  | _, _, .ins _ _ _ _, p => by simp [D.pln] at p
  | _, _, .ty _, p => by simp [D.pln] at p
  | _, _, .cls _, p => by simp [D.pln] at p
  | _, _, .fn _, p => by simp [D.pln] at p
theorem DdAll.dp : ∀ {ds : List D} {vs : List V}, DdAll T H vs ds → D.plns ds = true → DpAll K H vs (D.pys ds)
  | _, _, .nil, _ => by simp only [D.pys]; exact .nil
  | _, _, .cons h a, p => by
    simp only [D.plns, Bool.and_eq_true] at p
    simp only [D.pys]
    exact .cons (Dd.dp h p.1) (DdAll.dp a p.2)
end
theorem Dv.dp (s : Same H0 H) (h : Dv T H0 H v d) (p : d.pln = true) : Dp K H v d.py := by
  cases h with
  | dd h => exact (h.mono (.of s)).dp p
  | lst h a =>
    simp only [D.pln] at p
    simp only [D.py]
    exact .lst (SqL.of h) ((a.mono (.of s)).dp p)
  | dik => simp [D.pln] at p
  | dit => simp [D.pln] at p
  | ndc => simp [D.pln] at p
theorem rd_eq (hK : T.K = K) : RdO T (fun x y H Q => rEqD K x y H Q ∨ rEq x y H Q) oEq := fun H0 H x y d e res s h1 h2 o Q q => by
  unfold oEq at o
  split at o
  · rename_i hs
    injection o with o
    subst o
    rw [Bool.or_eq_true] at hs
    rcases hs with hs | hs
    · simp only [shp, Bool.and_eq_true] at hs
      exact .inl ⟨_, _, h1.dp s hs.1.1, h2.dp s hs.2.1, hs.1.2, hs.2.2, q _ H0 H (.refl s) (.bl _)⟩
    · rw [Bool.and_eq_true] at hs
      cases d <;> first | (cases hs.1; done) | skip
      cases e <;> first | (cases hs.2; done) | skip
      rename_i a b
      rw [h1.str_inv, h2.str_inv]
      refine .inr ⟨rfl, ?_⟩
      have e : eqD (.str a) (.str b) = decide (V.str a = V.str b) := by
        simp only [eqD, D.py, PyData.eqv]
        rw [Bool.eq_iff_iff]
        simp
      rw [← e]
      exact q _ H0 H (.refl s) (.bl _)
  · cases o
theorem rd_ne (hK : T.K = K) : RdO T (fun x y H Q => rNeD K x y H Q ∨ rNe x y H Q) oNe := fun H0 H x y d e res s h1 h2 o Q q => by
  unfold oNe at o
  split at o
  · rename_i hs
    injection o with o
    subst o
    rw [Bool.or_eq_true] at hs
    rcases hs with hs | hs
    · simp only [shp, Bool.and_eq_true] at hs
      exact .inl ⟨_, _, h1.dp s hs.1.1, h2.dp s hs.2.1, hs.1.2, hs.2.2, q _ H0 H (.refl s) (.bl _)⟩
    · rw [Bool.and_eq_true] at hs
      cases d <;> first | (cases hs.1; done) | skip
      cases e <;> first | (cases hs.2; done) | skip
      rename_i a b
      rw [h1.str_inv, h2.str_inv]
      refine .inr ⟨rfl, ?_⟩
      have e : eqD (.str a) (.str b) = decide (V.str a = V.str b) := by
        simp only [eqD, D.py, PyData.eqv]
        rw [Bool.eq_iff_iff]
        simp
      rw [← e]
      exact q _ H0 H (.refl s) (.bl _)
  · cases o
theorem rd_sub : RdO T (rI0 fun i j => .int (i - j)) oSub := fun H0 H x y d e res s h1 h2 o Q q => by
  unfold oSub at o
  split at o
  · injection o with o; subst o
    exact ⟨_, _, h1.int_inv, h2.int_inv, q _ H0 H (.refl s) (.int _)⟩
  · cases o
theorem rd_le : RdO T (rI0 fun i j => .bl (decide (i ≤ j))) oLe := fun H0 H x y d e res s h1 h2 o Q q => by
  unfold oLe at o
  split at o
  · injection o with o; subst o
    exact ⟨_, _, h1.int_inv, h2.int_inv, q _ H0 H (.refl s) (.bl _)⟩
  · cases o
theorem rd_gt : RdO T (rI0 fun i j => .bl (decide (j < i))) oGt := fun H0 H x y d e res s h1 h2 o Q q => by
  unfold oGt at o
  split at o
  · injection o with o; subst o
    exact ⟨_, _, h1.int_inv, h2.int_inv, q _ H0 H (.refl s) (.bl _)⟩
  · cases o
theorem rd_ge : RdO T (rI0 fun i j => .bl (decide (j ≤ i))) oGe := fun H0 H x y d e res s h1 h2 o Q q => by
  unfold oGe at o
  split at o
  · injection o with o; subst o
    exact ⟨_, _, h1.int_inv, h2.int_inv, q _ H0 H (.refl s) (.bl _)⟩
  · cases o
theorem rd_div : RdO T (rI CDivN fun i j => .int (i.fdiv j)) oDiv := fun H0 H x y d e res s h1 h2 o Q q => by
  unfold oDiv at o
  split at o
  · split at o
    · rename_i c
      injection o with o; subst o
      simp only [Bool.and_eq_true, decide_eq_true_eq] at c
      exact ⟨_, _, h1.int_inv, h2.int_inv, c, q _ H0 H (.refl s) (.int _)⟩
    · cases o
  · cases o
theorem rd_mod : RdO T (rI (fun _ j => j ≠ 0) fun i j => .int (i.fmod j)) oMod := fun H0 H x y d e res s h1 h2 o Q q => by
  unfold oMod at o
  split at o
  · split at o
    · rename_i c
      injection o with o; subst o
      exact ⟨_, _, h1.int_inv, h2.int_inv, c, q _ H0 H (.refl s) (.int _)⟩
    · cases o
  · cases o
theorem rd_pow : RdO T (rI CPow fun i j => .int (i ^ j.toNat)) oPow := fun H0 H x y d e res s h1 h2 o Q q => by
  unfold oPow at o
  split at o
  · split at o
    · rename_i c
      injection o with o; subst o
      simp only [Bool.and_eq_true, decide_eq_true_eq] at c
      exact ⟨_, _, h1.int_inv, h2.int_inv, ⟨c.1.1, c.1.2, c.2⟩, q _ H0 H (.refl s) (.int _)⟩
    · cases o
  · cases o
theorem rd_lt (hK : T.K = K) : RdO T (fun x y H Q => rI0 (fun i j => .bl (decide (i < j))) x y H Q ∨ rLtD K x y H Q) oLt := fun H0 H x y d e res s h1 h2 o Q q => by
  unfold oLt at o
  split at o
  · injection o with o; subst o
    exact .inl ⟨_, _, h1.int_inv, h2.int_inv, q _ H0 H (.refl s) (.bl _)⟩
  · split at o
    · rename_i c
      injection o with o; subst o
      simp only [shp, Bool.and_eq_true] at c
      exact .inr ⟨_, _, h1.dp s c.1.1.1, h2.dp s c.1.2.1, c.1.1.2, c.1.2.2, c.2, q _ H0 H (.refl s) (.bl _)⟩
    · cases o
  · cases o
def rAddS : R2 := fun x y H Q => ∃ i j, x = .str i ∧ y = .str j ∧ i.length + j.length ≤ sizeLine ∧ Q (.str (i ++ j)) H
theorem DdAll.rep {vs : List V} {ds : List D} (h : DdAll T H vs ds) : ∀ n : Nat, DdAll T H (List.replicate n vs).flatten (List.replicate n ds).flatten
  | 0 => .nil
  | n + 1 => by
    rw [List.replicate_succ, List.replicate_succ, List.flatten_cons, List.flatten_cons]
    exact h.app (h.rep n)
theorem DdAll.nil_iff {vs : List V} {ds : List D} (h : DdAll T H vs ds) : vs = [] ↔ ds = [] := by
  cases h <;> simp
theorem rd_add (hK : T.K = K) : RdO T (fun x y H Q => rI0 (fun i j => .int (i + j)) x y H Q ∨ rAddS x y H Q ∨ rCatA K x y H Q ∨ rCat x y H Q) oAdd := fun H0 H x y d e res s h1 h2 o Q q => by
  unfold oAdd at o
  split at o
  · injection o with o; subst o
    exact .inl ⟨_, _, h1.int_inv, h2.int_inv, q _ H0 H (.refl s) (.int _)⟩
  · split at o
    · rename_i c
      injection o with o; subst o
      exact .inr (.inl ⟨_, _, h1.str_inv, h2.str_inv, c, q _ H0 H (.refl s) (.str _)⟩)
    · cases o
  · rename_i a b
    split at o
    · rename_i c
      injection o with o; subst o
      obtain ⟨p1, xs, rfl, e1, e2, e3⟩ := h1.tup_inv s
      obtain ⟨p2, ys, rfl, f1, f2, f3⟩ := h2.tup_inv s
      refine .inr (.inr (.inl ⟨p1, p2, xs, ys, rfl, rfl, SqT.of e1, SqT.of f1, by rw [e2.len, f2.len]; exact Nat.le_trans c (by decide), fun z => ?_, fun z1 z2 => ?_, fun z1 z2 p hp => ?_⟩))
      · rw [e2.nil_iff] at z
        subst z
        exact q _ H0 H (.refl s) f3
      · rw [f2.nil_iff] at z2
        subst z2
        refine q _ H0 H (.refl s) ?_
        rw [List.append_nil]
        exact e3
      · exact q _ _ _ (Gr.data s hp _) (laid_tup s hp (e2.app f2))
    · cases o
  · rename_i a b
    split at o
    · rename_i c
      injection o with o; subst o
      obtain ⟨p1, xs, rfl, e1, e2⟩ := h1.lst_inv s
      obtain ⟨p2, ys, rfl, f1, f2⟩ := h2.lst_inv s
      exact .inr (.inr (.inr ⟨p1, p2, xs, ys, rfl, rfl, e1, f1, by rw [e2.len, f2.len]; exact Nat.le_trans c (by decide), fun p hp => q _ _ _ (Gr.own s hp _) (laid_lst s hp (e2.app f2))⟩))
    · cases o
  · cases o
theorem rd_mul (hK : T.K = K) : RdO T (fun x y H Q => rI CMul (fun i j => .int (i * j)) x y H Q ∨ rRepA K x y H Q ∨ rRep x y H Q) oMul := fun H0 H x y d e res s h1 h2 o Q q => by
  unfold oMul at o
  split at o
  · split at o
    · rename_i c
      injection o with o; subst o
      simp only [small, Bool.or_eq_true, Bool.and_eq_true, decide_eq_true_eq] at c
      exact .inl ⟨_, _, h1.int_inv, h2.int_inv, c, q _ H0 H (.refl s) (.int _)⟩
    · cases o
  · rename_i a k
    split at o
    · rename_i c
      injection o with o; subst o
      simp only [Bool.and_eq_true, decide_eq_true_eq] at c
      obtain ⟨p1, xs, rfl, e1, e2, e3⟩ := h1.tup_inv s
      refine .inr (.inl ⟨p1, k, xs, rfl, h2.int_inv, SqT.of e1, c.1.1, c.1.2, by rw [e2.len]; exact c.2, fun z => ?_, fun z1 z2 p hp => ?_⟩)
      · refine q _ H0 H (.refl s) ?_
        rcases z with z | rfl
        · rw [e2.nil_iff] at z
          subst z
          have : (List.replicate k.toNat ([] : List D)).flatten = [] := by simp
          rw [this]
          exact e3
        · have : (List.replicate (1 : Int).toNat a).flatten = a := by simp
          rw [this]
          exact e3
      · exact q _ _ _ (Gr.data s hp _) (laid_tup s hp (e2.rep _))
    · cases o
  · rename_i a k
    split at o
    · rename_i c
      injection o with o; subst o
      simp only [Bool.and_eq_true, decide_eq_true_eq] at c
      obtain ⟨p1, xs, rfl, e1, e2⟩ := h1.lst_inv s
      refine .inr (.inr ⟨p1, k, xs, rfl, h2.int_inv, e1, by omega, by omega, by rw [e2.len]; exact Nat.le_trans c.2 (by decide), fun p hp => ?_⟩)
      exact q _ _ _ (Gr.own s hp _) (laid_lst s hp (e2.rep _))
    · cases o
  · cases o
theorem flat_to {d : D} {v : V} (h : Dd T H v d) (k : flatD d = true) : v = toV d ∧ flatV v = true := by
  cases h <;> first | exact ⟨rfl, rfl⟩ | cases k
theorem flats_to : ∀ {ds : List D} {vs : List V}, DdAll T H vs ds → ds.all flatD = true → vs = ds.map toV ∧ vs.all flatV = true
  | _, _, .nil, _ => ⟨rfl, rfl⟩
  | _, _, .cons h t, k => by
    rw [List.all_cons, Bool.and_eq_true] at k
    obtain ⟨e1, e2⟩ := flat_to h k.1
    obtain ⟨e3, e4⟩ := flats_to t k.2
    exact ⟨by rw [e1, e3]; rfl, by rw [List.all_cons, e2, e4]; rfl⟩
theorem Dv.row (s : Same H0 H) {ds : List D} (e : rowOf d = some ds) (h : Dv T H0 H v d) : ∃ a vs, v = .ref a ∧ (SqL T.K H a vs ∨ SqT T.K H a vs) ∧ DdAll T H0 vs ds := by
  cases d with
  | tup ds' => simp [rowOf] at e; subst e; obtain ⟨a, vs, rfl, h1, h2, _⟩ := h.tup_inv s; exact ⟨a, vs, rfl, .inr (SqT.of h1), h2⟩
  | lst ds' => simp [rowOf] at e; subst e; obtain ⟨a, vs, rfl, h1, h2⟩ := h.lst_inv s; exact ⟨a, vs, rfl, .inl (SqL.of h1), h2⟩
  | src ds' => simp [rowOf] at e; subst e; obtain ⟨a, vs, rfl, h1, h2⟩ := h.src_inv s; exact ⟨a, vs, rfl, .inl h1, h2⟩
  | _ => cases e
theorem Dv.flat (h : Dv T H0 H v d) (k : flatD d = true) : v = toV d ∧ flatV v = true := by
  cases h with
  | dd h => exact flat_to h k
  | _ => cases k
def rInP (K : PySem.W.Frag) (neg : Bool) : R2 := fun x y H Q => ∃ d ds, Dp K H x d ∧ Dp K H y (.tuple ds) ∧ SeqAt.shaped d = true ∧ SeqAt.shaped (.tuple ds) = true ∧ Q (.bl (if neg = true then !(ds.any fun z => PyData.eqv z d) else ds.any fun z => PyData.eqv z d)) H
def rIn2 (K : PySem.W.Frag) (neg : Bool) : R2 := fun x y H Q => rIn K neg x y H Q ∨ (∃ d ds, Dp K H x d ∧ Dp K H y (.list ds) ∧ SeqAt.shaped d = true ∧ SeqAt.shaped (.list ds) = true ∧ Q (.bl (if neg = true then !(ds.any fun z => PyData.eqv z d) else ds.any fun z => PyData.eqv z d)) H) ∨ rInP K neg x y H Q
theorem op_notInP {X : Cx} (hu : X.A.units + 65 < cLine) : OpR X (compareOp .NotIn) (rInP X.K true) := fun pins s σ H x y v u Q I rx ry ⟨d, ds, hd, he, sd, se, q⟩ => by
  have ⟨_, r1⟩ := Dp.reads I d x v hd rx
  have ⟨_, r2⟩ := Dp.reads I (.tuple ds) y u he ry
  exact SeqAt.notIn_tuple_reads r2 r1 (SeqAt.canLay_of_shaped se) (SeqAt.canLay_of_shaped sd) (room_in_shaped sd hu) ⟨.bl _, H, I, rfl, q⟩
theorem op_notIn2 {X : Cx} (hu : X.A.units + 65 < cLine) : OpR X (compareOp .NotIn) (rIn2 X.K true) := OpR.or op_notIn_seq (OpR.or (op_notInD hu) (op_notInP hu))
theorem rd_in (hK : T.K = K) {neg : Bool} : RdO T (rIn2 K neg) (oIn neg) := fun H0 H x y d e res s h1 h2 o Q q => by
  subst hK
  unfold oIn at o
  split at o
  · rename_i ds er
    split at o
    · rename_i c
      injection o with o; subst o
      rw [Bool.and_eq_true] at c
      obtain ⟨a, vs, rfl, g1, g2⟩ := h2.row s er
      obtain ⟨e1, e2⟩ := h1.flat c.1
      obtain ⟨e3, e4⟩ := flats_to g2 c.2
      refine .inl ⟨a, vs, rfl, g1, e2, e4, ?_⟩
      rw [e1, e3]
      exact q _ H0 H (.refl s) (.bl _)
    · split at o
      · rename_i es
        split at o
        · rename_i hs
          injection o with o; subst o
          rw [Bool.and_eq_true] at hs
          have p1 : d.pln = true := by have := hs.1; unfold shp at this; rw [Bool.and_eq_true] at this; exact this.1
          have p2 : (D.lst es).pln = true := by have := hs.2; unfold shp at this; rw [Bool.and_eq_true] at this; exact this.1
          have s1 : SeqAt.shaped d.py = true := by have := hs.1; unfold shp at this; rw [Bool.and_eq_true] at this; exact this.2
          have s2 : SeqAt.shaped (D.lst es).py = true := by have := hs.2; unfold shp at this; rw [Bool.and_eq_true] at this; exact this.2
          have e5 : (D.lst es).py = .list (D.pys es) := by simp only [D.py]
          have e6 : (es.any fun z => eqD z d) = (D.pys es).any fun z => PyData.eqv z d.py := by
            rw [pys_map, List.any_map]
            rfl
          refine .inr (.inl ⟨d.py, D.pys es, h1.dp s p1, by rw [← e5]; exact h2.dp s p2, s1, by rw [← e5]; exact s2, ?_⟩)
          rw [← e6]
          exact q _ H0 H (.refl s) (.bl _)
        · cases o
      · rename_i es
        split at o
        · rename_i hs
          injection o with o; subst o
          rw [Bool.and_eq_true] at hs
          have p1 : d.pln = true := by have := hs.1; unfold shp at this; rw [Bool.and_eq_true] at this; exact this.1
          have p2 : (D.tup es).pln = true := by have := hs.2; unfold shp at this; rw [Bool.and_eq_true] at this; exact this.1
          have s1 : SeqAt.shaped d.py = true := by have := hs.1; unfold shp at this; rw [Bool.and_eq_true] at this; exact this.2
          have s2 : SeqAt.shaped (D.tup es).py = true := by have := hs.2; unfold shp at this; rw [Bool.and_eq_true] at this; exact this.2
          have e5 : (D.tup es).py = .tuple (D.pys es) := by simp only [D.py]
          have e6 : (es.any fun z => eqD z d) = (D.pys es).any fun z => PyData.eqv z d.py := by
            rw [pys_map, List.any_map]
            rfl
          refine .inr (.inr ⟨d.py, D.pys es, h1.dp s p1, by rw [← e5]; exact h2.dp s p2, s1, by rw [← e5]; exact s2, ?_⟩)
          rw [← e6]
          exact q _ H0 H (.refl s) (.bl _)
        · cases o
      · cases o
  · cases o
theorem rd_neg : RdU T (rU fun i => .int (-i)) uNeg := fun H0 H x d res s h1 o Q q => by
  unfold uNeg at o
  split at o
  · injection o with o; subst o
    exact ⟨_, h1.int_inv, q _ H0 H (.refl s) (.int _)⟩
  · cases o
theorem Dvs.one {xs : List V} {ds : List D} (h : Dvs T H0 H xs ds) {f : D → Option R} {res : R} (o : one f ds = some res) : ∃ x d, xs = [x] ∧ ds = [d] ∧ Dv T H0 H x d ∧ f d = some res := by
  cases h with
  | nil => cases o
  | cons h t =>
    cases t with
    | nil => exact ⟨_, _, rfl, rfl, h, o⟩
    | cons => cases o
theorem Dvs.two {xs : List V} {ds : List D} (h : Dvs T H0 H xs ds) {f : D → D → Option R} {res : R} (o : two f ds = some res) : ∃ x y d e, xs = [x, y] ∧ ds = [d, e] ∧ Dv T H0 H x d ∧ Dv T H0 H y e ∧ f d e = some res := by
  cases h with
  | nil => cases o
  | cons h t =>
    cases t with
    | nil => cases o
    | cons h2 t =>
      cases t with
      | nil => exact ⟨_, _, _, _, rfl, rfl, h, h2, o⟩
      | cons => cases o
theorem rd_abs : RdC T (fun xs H Q => ∃ i, xs = [.int i] ∧ Q (.int (if i < 0 then -i else i)) H) (one bAbs) := fun H0 H xs ds res s h o Q q => by
  obtain ⟨x, d, rfl, rfl, hx, o⟩ := h.one o
  unfold bAbs at o
  split at o
  · injection o with o; subst o
    exact ⟨_, by rw [hx.int_inv], q _ H0 H (.refl s) (.int _)⟩
  · cases o
theorem rd_int : RdC T (fun xs H Q => (∃ i, xs = [.int i] ∧ Q (.int i) H) ∨ ∃ k, xs = [.bl k] ∧ Q (.int (if k then 1 else 0)) H) (one bInt) := fun H0 H xs ds res s h o Q q => by
  obtain ⟨x, d, rfl, rfl, hx, o⟩ := h.one o
  unfold bInt at o
  split at o
  · injection o with o; subst o
    exact .inl ⟨_, by rw [hx.int_inv], q _ H0 H (.refl s) (.int _)⟩
  · injection o with o; subst o
    exact .inr ⟨_, by rw [hx.bl_inv], q _ H0 H (.refl s) (.int _)⟩
  · cases o
theorem rd_tuple (hK : T.K = K) : RdC T (fun xs H Q => ∃ p ys, xs = [.ref p] ∧ ((SqL K H p ys ∧ ∀ l, H l = none → Q (.ref l) (upd H l (.tup ys))) ∨ (SqT K H p ys ∧ Q (.ref p) H))) (one bTuple) := fun H0 H xs ds res s h o Q q => by
  subst hK
  obtain ⟨x, d, rfl, rfl, hx, o⟩ := h.one o
  unfold bTuple at o
  split at o
  · injection o with o; subst o
    obtain ⟨a, vs, rfl, h1, h2, h3⟩ := hx.tup_inv s
    exact ⟨a, vs, rfl, .inr ⟨SqT.of h1, q _ H0 H (.refl s) h3⟩⟩
  · injection o with o; subst o
    obtain ⟨a, vs, rfl, h1, h2⟩ := hx.lst_inv s
    exact ⟨a, vs, rfl, .inl ⟨SqL.of h1, fun l hl => q _ _ _ (Gr.data s hl _) (laid_tup s hl h2)⟩⟩
  · injection o with o; subst o
    obtain ⟨a, vs, rfl, h1, h2⟩ := hx.src_inv s
    exact ⟨a, vs, rfl, .inl ⟨h1, fun l hl => q _ _ _ (Gr.data s hl _) (laid_tup s hl h2)⟩⟩
  · cases o
def rList2 (K : PySem.W.Frag) : List V → Hp → VK → Prop := fun xs H Q => (∃ p ys, xs = [.ref p] ∧ (SqL K H p ys ∨ SqT K H p ys) ∧ ∀ l, H l = none → Q (.ref l) (upd H l (.lst ys))) ∨ ∃ (a : Addr) (kvs : List (Key × V)), xs = [.ref a] ∧ Rd H a (.dK kvs) ∧ ∀ p, H p = none → Q (.ref p) (upd H p (.lst (kvs.map fun kv => kV kv.1)))
theorem CallR.or' {X : Cx} {f : Value} {r r2 : List V → Hp → VK → Prop} (h : CallR X f r) (k : CallR X f r2) : CallR X f (fun xs H Q => r xs H Q ∨ r2 xs H Q) := fun pins s σ H xs us Q I e z => z.elim (h pins s σ H xs us Q I e) (k pins s σ H xs us Q I e)
theorem call_list2 {X : Cx} (hc : X.calm = true) : CallR X (.type "list") (rList2 X.K) := CallR.or' call_list_of (call_listD hc)
theorem dd_ky {T : Tb} {H : Hp} (k : Key) : Dd T H (kV k) (kyD k) := by cases k with | inl i => exact .int i | inr s => exact .str s
theorem dd_kys {T : Tb} {H : Hp} {ws : List (Key × V)} : ∀ {kvs : List (Kd × D)}, kvs.map (·.1) = ws.map (fun w => Kd.a w.1) → DdAll T H (ws.map fun kv => kV kv.1) (kvs.map fun p => kdD p.1) := by
  induction ws with
  | nil => intro kvs h; cases kvs with | nil => exact .nil | cons => cases h
  | cons w ws ih =>
    intro kvs h
    cases kvs with
    | nil => cases h
    | cons p kvs =>
      rw [List.map_cons, List.map_cons] at h
      injection h with h1 h2
      rw [List.map_cons, List.map_cons, h1]
      exact .cons (dd_ky _) (ih h2)
theorem Dv.dik_inv {T : Tb} {kvs : List (Kd × D)} (s : Same H0 H) (h : Dv T H0 H v (.dic false kvs)) : ∃ a ws, v = .ref a ∧ Rd H a (.dK ws) ∧ kvs.map (·.1) = ws.map (fun w => Kd.a w.1) ∧ DdAll T H0 (ws.map (·.2)) (kvs.map (·.2)) := by
  cases h with
  | dd h =>
    cases h with
    | @dik a u ws _ h1 h2 h3 h4 => exact ⟨a, ws, rfl, cr_dK h2 s h1, h3, h4⟩
  | @dik a ws _ h1 h3 h4 => exact ⟨a, ws, rfl, .inl h1, h3, h4⟩
theorem rd_list (hK : T.K = K) : RdC T (rList2 K) (one bList) := fun H0 H xs ds res s h o Q q => by
  subst hK
  obtain ⟨x, d, rfl, rfl, hx, o⟩ := h.one o
  have : (∃ ds, rowOf d = some ds ∧ res = .own (.lst (ds.map .dat))) ∨ ∃ kvs, d = .dic false kvs ∧ res = .own (.lst ((kvs.map fun p => kdD p.1).map .dat)) := by
    unfold bList at o
    split at o <;> first | (injection o with o; exact .inl ⟨_, rfl, o.symm⟩) | (injection o with o; exact .inr ⟨_, rfl, o.symm⟩) | cases o
  rcases this with ⟨ds, e1, rfl⟩ | ⟨kvs, rfl, rfl⟩
  · obtain ⟨a, vs, rfl, h1, h2⟩ := hx.row s e1
    exact .inl ⟨a, vs, rfl, h1, fun l hl => q _ _ _ (Gr.own s hl _) (laid_lst s hl h2)⟩
  · obtain ⟨a, ws, rfl, h1, h2, _⟩ := hx.dik_inv s
    exact .inr ⟨a, ws, rfl, h1, fun l hl => q _ _ _ (Gr.own s hl _) (laid_lst s hl (dd_kys h2))⟩
theorem bls_eq : ∀ {ds : List D} {bs : List Bool}, blsOf ds = some bs → ds = bs.map D.bl
  | [], _, h => by simp [blsOf] at h; subst h; rfl
  | .bl b :: ds, _, h => by
    simp only [blsOf, Option.map_eq_some_iff] at h
    obtain ⟨r, h1, rfl⟩ := h
    rw [bls_eq h1]; rfl
  | .non :: _, _, h => by cases h
  | .int _ :: _, _, h => by cases h
  | .str _ :: _, _, h => by cases h
  | .tup _ :: _, _, h => by cases h
  | .lst _ :: _, _, h => by cases h
  | .src _ :: _, _, h => by cases h
  | .dic _ _ :: _, _, h => by cases h
  | .ndc _ :: _, _, h => by cases h
  | .ins _ _ :: _, _, h => by cases h
  | .ty _ :: _, _, h => by cases h
  | .cls _ :: _, _, h => by cases h
  | .fn _ :: _, _, h => by cases h
theorem ints_eq : ∀ {ds : List D} {bs : List Int}, intsOf ds = some bs → ds = bs.map D.int
  | [], _, h => by simp [intsOf] at h; subst h; rfl
  | .int b :: ds, _, h => by
    simp only [intsOf, Option.map_eq_some_iff] at h
    obtain ⟨r, h1, rfl⟩ := h
    rw [ints_eq h1]; rfl
  | .non :: _, _, h => by cases h
  | .bl _ :: _, _, h => by cases h
  | .str _ :: _, _, h => by cases h
  | .tup _ :: _, _, h => by cases h
  | .lst _ :: _, _, h => by cases h
  | .src _ :: _, _, h => by cases h
  | .dic _ _ :: _, _, h => by cases h
  | .ndc _ :: _, _, h => by cases h
  | .ins _ _ :: _, _, h => by cases h
  | .ty _ :: _, _, h => by cases h
  | .cls _ :: _, _, h => by cases h
  | .fn _ :: _, _, h => by cases h
@[simp] theorem blsOf_map (bs : List Bool) : blsOf (bs.map D.bl) = some bs := by
  induction bs with
  | nil => rfl
  | cons b bs ih => simp [blsOf, ih]
@[simp] theorem intsOf_map (bs : List Int) : intsOf (bs.map D.int) = some bs := by
  induction bs with
  | nil => rfl
  | cons b bs ih => simp [intsOf, ih]
theorem rd_all (hK : T.K = K) : RdC T (rAll K) (one bAll) := fun H0 H xs ds res s h o Q q => by
  subst hK
  obtain ⟨x, d, rfl, rfl, hx, o⟩ := h.one o
  unfold bAll at o
  split at o
  · simp only [Option.map_eq_some_iff] at o
    obtain ⟨bs, e1, rfl⟩ := o
    obtain ⟨a, vs, rfl, h1, h2⟩ := hx.lst_inv s
    rw [bls_eq e1] at h2
    rw [h2.bls] at h1
    exact ⟨a, bs, rfl, SqL.of h1, q _ H0 H (.refl s) (.bl _)⟩
  · cases o
theorem rd_repr : RdC T (rReprD K) (one bRepr) := fun H0 H xs ds res s h o Q q => by
  obtain ⟨x, d, rfl, rfl, hx, o⟩ := h.one o
  unfold bRepr at o
  split at o
  · rename_i c
    injection o with o; subst o
    simp only [Bool.and_eq_true, decide_eq_true_eq] at c
    exact ⟨x, _, rfl, hx.dp s c.1.1.1, c.1.1.2, c.1.2, c.2, q _ H0 H (.refl s) (.str _)⟩
  · cases o
theorem rd_str : RdC T (fun xs H Q => ∃ i : Int, xs = [.int i] ∧ i.natAbs.log2 < 1920 ∧ Q (.str (toString i)) H) (one bStr) := fun H0 H xs ds res s h o Q q => by
  obtain ⟨x, d, rfl, rfl, hx, o⟩ := h.one o
  unfold bStr at o
  split at o
  · split at o
    · rename_i c
      injection o with o; subst o
      exact ⟨_, by rw [hx.int_inv], c, q _ H0 H (.refl s) (.str _)⟩
    · cases o
  · cases o
/-- len -/
def rLen (K : PySem.W.Frag) : List V → Hp → VK → Prop := fun xs H Q => (∃ p ys, xs = [.ref p] ∧ (SqL K H p ys ∨ SqT K H p ys) ∧ Q (.int ys.length) H) ∨ (∃ z : Str, xs = [.str z] ∧ z.length ≤ sizeLine ∧ Q (.int (z.length : Nat)) H) ∨ (∃ a kvs, xs = [V.ref a] ∧ Rd H a (.dK kvs) ∧ Q (.int kvs.length) H) ∨ ∃ a kvs, xs = [V.ref a] ∧ Rd H a (.dT kvs) ∧ Q (.int kvs.length) H
theorem call_len_all {X : Cx} : CallR X (.builtin "len") (rLen X.K) := by
  intro pins s σ H xs us Q I r h
  rcases h with h | h | h | h
  · exact call_len_seq pins s σ H xs us Q I r h
  · exact call_len_str pins s σ H xs us Q I r h
  · obtain ⟨a, kvs, rfl, ha, q⟩ := h
    obtain ⟨u, rfl, ru⟩ := vals1 r
    cases ru
    exact d_len I ha fun t s' I' => ⟨.int kvs.length, H, I', ⟨t, rfl⟩, q⟩
  · obtain ⟨a, kvs, rfl, ha, q⟩ := h
    obtain ⟨u, rfl, ru⟩ := vals1 r
    cases ru
    obtain ⟨z, hd, xs, rel, dd⟩ := dt_rd I.hok ha
    have hl : kvs.length = xs.length := rel.length
    refine call_len_dictH hd dd (by rw [← hl]; rw [sizeLine_eq] at z; omega) ?_
    rw [← hl]
    exact ⟨.int kvs.length, H, I.tok _, ⟨_, rfl⟩, q⟩
def rLen2 (P : Program) (w : World) (K : PySem.W.Frag) : List V → Hp → VK → Prop := fun xs H Q => rLen K xs H Q ∨ ∃ a ws, xs = [V.ref a] ∧ Rd H a (MN.ndO P w a ws) ∧ MN.okN H ws ∧ Q (.int ws.length) H
theorem call_len2 {X : Cx} : CallR X (.builtin "len") (rLen2 X.prog X.w X.K) := CallR.or' call_len_all (by
  intro pins s σ H xs us Q I r h
  obtain ⟨a, ws, rfl, ha, n, q⟩ := h
  obtain ⟨u, rfl, ru⟩ := vals1 r
  cases ru
  exact MN.nd_len I ha n fun t s' I' => ⟨.int ws.length, H, I', ⟨t, rfl⟩, q⟩)
theorem rd_len0 {x : V} {d : D} {res : R} (s : Same H0 H) (hx : Dv T H0 H x d) (hn : ∀ kvs, d ≠ .ndc kvs) (o : bLen d = some res) (Q : VK) (q : ∀ u H0' H', Gr H0 H H0' H' → VALn T H0' H' H u res → Q u H') : rLen T.K [x] H Q := by
  have row : ∀ ds, rowOf d = some ds → res = .dat (.int ds.length) → rLen T.K [x] H Q := fun ds e1 e2 => by
    obtain ⟨a, vs, rfl, h1, h2⟩ := hx.row s e1
    subst e2
    exact .inl ⟨a, vs, rfl, h1, by rw [h2.len]; exact q _ H0 H (.refl s) (.int _)⟩
  unfold bLen at o
  split at o
  · injection o with o; exact row _ rfl o.symm
  · injection o with o; exact row _ rfl o.symm
  · injection o with o; exact row _ rfl o.symm
  · injection o with o; subst o
    cases hx with
    | dd hx =>
      cases hx with
      | @dik a u ws _ h1 h2 h3 h4 =>
        have e3 := congrArg List.length h3; rw [List.length_map, List.length_map] at e3
        exact .inr (.inr (.inl ⟨a, ws, rfl, cr_dK h2 s h1, by rw [← e3]; exact q _ H0 H (.refl s) (.int _)⟩))
      | @dit a u ws _ h1 h2 h3 h4 =>
        have e3 := congrArg List.length h3; rw [List.length_map, List.length_map] at e3
        exact .inr (.inr (.inr ⟨a, ws, rfl, cr_dT h2 s h1, by rw [← e3]; exact q _ H0 H (.refl s) (.int _)⟩))
    | @dik a ws _ h1 h3 h4 =>
      have e3 := congrArg List.length h3; rw [List.length_map, List.length_map] at e3
      exact .inr (.inr (.inl ⟨a, ws, rfl, .inl h1, by rw [← e3]; exact q _ H0 H (.refl s) (.int _)⟩))
    | @dit a ws _ h1 h3 h4 =>
      have e3 := congrArg List.length h3; rw [List.length_map, List.length_map] at e3
      exact .inr (.inr (.inr ⟨a, ws, rfl, .inl h1, by rw [← e3]; exact q _ H0 H (.refl s) (.int _)⟩))
  · exact absurd rfl (hn _)
  · split at o
    · rename_i c
      injection o with o; subst o
      exact .inr (.inl ⟨_, by rw [hx.str_inv], c, q _ H0 H (.refl s) (.int _)⟩)
    · cases o
  · cases o
theorem rd_len {w : World} {P : Program} (hK : T.K = K) (hP : T.P = P) (hw : T.w = w) : RdC T (rLen2 P w K) (one bLen) := fun H0 H xs ds res s h o Q q => by
  subst hK hP hw
  obtain ⟨x, d, rfl, rfl, hx, o⟩ := h.one o
  by_cases hn : ∃ kvs, d = .ndc kvs
  · obtain ⟨kvs, rfl⟩ := hn
    simp only [bLen, Option.some.injEq] at o
    subst o
    have up : ∀ b ys, H0 b = some (.tup ys) → H b = some (.tup ys) := fun b ys q => s _ _ q
    cases hx with
    | dd hx =>
      cases hx with
      | @ndc a u ws _ h1 h2 h3 h4 h5 =>
        have e3 := congrArg List.length h4; rw [List.length_map, List.length_map] at e3
        exact .inr ⟨a, ws, rfl, cr_ndO h2 s h1, h3.mono up, by rw [← e3]; exact q _ H0 H (.refl s) (.int _)⟩
    | @ndc a ws _ h1 h3 h4 h5 =>
      have e3 := congrArg List.length h4; rw [List.length_map, List.length_map] at e3
      exact .inr ⟨a, ws, rfl, .inl h1, h3.mono up, by rw [← e3]; exact q _ H0 H (.refl s) (.int _)⟩
  · exact .inl (rd_len0 s hx (fun kvs e => hn ⟨kvs, e⟩) o Q q)
theorem isi_kit {n t : String} {b : Bool} {d : D} (e : isiB d n = some b) (ht : tyN d = some t) : kitB t n = some b := by
  have key : ∀ t ∈ ["NoneType", "bool", "int", "str", "tuple", "list"], ∀ n ∈ ["int", "bool", "tuple", "list", "str"], kitB t n = some (decide (t = n) || (decide (t = "bool") && decide (n = "int"))) := by decide +kernel
  have use : ∀ t, t ∈ ["NoneType", "bool", "int", "str", "tuple", "list"] → (n = "int" ∨ n = "bool" ∨ n = "tuple" ∨ n = "list" ∨ n = "str") → (decide (t = n) || (decide (t = "bool") && decide (n = "int"))) = b → kitB t n = some b := fun t h1 h2 h3 => by
    rw [key t h1 n (by rcases h2 with rfl | rfl | rfl | rfl | rfl <;> decide), h3]
  cases d with
  | non =>
    simp only [tyN, Option.some.injEq] at ht; subst ht
    simp only [isiB] at e
    split at e
    · rename_i h; injection e with e; subst e
      exact use _ (by decide) h (by rcases h with rfl | rfl | rfl | rfl | rfl <;> decide)
    · cases e
  | bl k =>
    simp only [tyN, Option.some.injEq] at ht; subst ht
    simp only [isiB] at e
    split at e
    · rename_i h; injection e with e; subst e
      exact use _ (by decide) (by rcases h with rfl | rfl <;> simp) (by rcases h with rfl | rfl <;> decide)
    · split at e
      · rename_i h; injection e with e; subst e
        exact use _ (by decide) (by rcases h with rfl | rfl | rfl <;> simp) (by rcases h with rfl | rfl | rfl <;> decide)
      · cases e
  | int k =>
    simp only [tyN, Option.some.injEq] at ht; subst ht
    simp only [isiB] at e
    split at e
    · rename_i h; injection e with e; subst e
      exact use _ (by decide) (by subst h; simp) (by subst h; decide)
    · split at e
      · rename_i h; injection e with e; subst e
        exact use _ (by decide) (by rcases h with rfl | rfl | rfl | rfl <;> simp) (by rcases h with rfl | rfl | rfl | rfl <;> decide)
      · cases e
  | str k =>
    simp only [tyN, Option.some.injEq] at ht; subst ht
    simp only [isiB] at e
    split at e
    · rename_i h; injection e with e; subst e
      exact use _ (by decide) (by subst h; simp) (by subst h; decide)
    · split at e
      · rename_i h; injection e with e; subst e
        exact use _ (by decide) (by rcases h with rfl | rfl | rfl | rfl <;> simp) (by rcases h with rfl | rfl | rfl | rfl <;> decide)
      · cases e
  | tup k =>
    simp only [tyN, Option.some.injEq] at ht; subst ht
    simp only [isiB] at e
    split at e
    · rename_i h; injection e with e; subst e
      exact use _ (by decide) (by subst h; simp) (by subst h; decide)
    · split at e
      · rename_i h; injection e with e; subst e
        exact use _ (by decide) (by rcases h with rfl | rfl | rfl | rfl <;> simp) (by rcases h with rfl | rfl | rfl | rfl <;> decide)
      · cases e
  | lst k =>
    simp only [tyN, Option.some.injEq] at ht; subst ht
    simp only [isiB] at e
    split at e
    · rename_i h; injection e with e; subst e
      exact use _ (by decide) (by subst h; simp) (by subst h; decide)
    · split at e
      · rename_i h; injection e with e; subst e
        exact use _ (by decide) (by rcases h with rfl | rfl | rfl | rfl <;> simp) (by rcases h with rfl | rfl | rfl | rfl <;> decide)
      · cases e
  | _ => simp [isiB] at e
theorem Dv.tyX {t : String} (s : Same H0 H) (h : Dv T H0 H v d) (e : tyN d = some t) : TyX K H v (.type t) ∨ ∃ ds, d = .src ds := by
  cases h with
  | dd h =>
    cases h with
    | non => simp [tyN] at e; subst e; exact .inl (.base .non)
    | bl b => simp [tyN] at e; subst e; exact .inl (.base (.bl b))
    | int b => simp [tyN] at e; subst e; exact .inl (.base (.int b))
    | str b => simp [tyN] at e; subst e; exact .inl (.base (.str b))
    | tup h _ => simp [tyN] at e; subst e; exact .inl (.base (.tup (s _ _ h)))
    | lst h _ => simp [tyN] at e; subst e; exact .inl (.base (.lst (s _ _ h)))
    | src => exact .inr ⟨_, rfl⟩
    | _ => cases e
  | lst h _ => simp [tyN] at e; subst e; exact .inl (.base (.lst h))
  | _ => cases e
theorem isi_ty {n : String} {b : Bool} (e : isiB d n = some b) : ∃ t, tyN d = some t ∧ ∀ ds, d ≠ .src ds := by
  cases d <;> first | (simp [isiB] at e; done) | exact ⟨_, rfl, fun _ z => by cases z⟩ | (simp [isiB] at e) | (cases e)
def rIsiA (K : PySem.W.Frag) : List V → Hp → VK → Prop := fun xs H Q => rIsi K xs H Q ∨ rIsiT K xs H Q
theorem rd_isi : RdC T (rIsiA K) (two bIsi) := fun H0 H xs ds res s h o Q q => by
  obtain ⟨x, y, d, e, rfl, rfl, hx, hy, o2⟩ := h.two o
  clear h o
  rename _ = some res => o
  unfold bIsi at o
  split at o
  · rename_i n
    simp only [Option.map_eq_some_iff] at o
    obtain ⟨b, o, rfl⟩ := o
    obtain ⟨t, ht, ns⟩ := isi_ty o
    have yt : y = .ty n := by cases hy with | dd hy => cases hy; rfl
    subst yt
    rcases hx.tyX (K := K) s ht with tx | ⟨ds, z⟩
    · exact .inl ⟨x, _, _, _, b, rfl, .ty n, tx, kit_ty (isi_kit o ht), q _ H0 H (.refl s) (.bl _)⟩
    · exact absurd z (ns ds)
  · rename_i n m
    split at o
    · rename_i a b ea eb
      injection o with o; subst o
      obtain ⟨t, ht, ns⟩ := isi_ty ea
      obtain ⟨p, cs, rfl, g1, g2, _⟩ := hy.tup_inv s
      rcases hx.tyX (K := K) s ht with tx | ⟨ds, z⟩
      · cases g2 with
        | cons c1 g2 =>
          cases g2 with
          | cons c2 g2 =>
            cases g2
            cases c1
            cases c2
            refine .inr ⟨x, p, _, _, _, a || b, rfl, g1, .cons (.ty _) (.cons (.ty _) .nil), tx, ?_, q _ H0 H (.refl s) (.bl _)⟩
            refine kitAny_cons (kit_ty (isi_kit ea ht)) (fun e => ?_) (fun e => by rw [e]; rfl)
            rw [e, Bool.false_or]
            refine kitAny_cons (kit_ty (isi_kit eb ht)) (fun e2 => ?_) (fun e2 => e2)
            rw [e2]
            exact kitAny_nil
      · exact absurd z (ns ds)
    · cases o
  · cases o
end
end M
set_option Elab.async false
set_option linter.all false
set_option maxRecDepth 100000
set_option maxHeartbeats 1000000
namespace M
open PySem PySem.Spec PyProof.Rows L2 MR RZ
variable {W : Wo}
def rowR (r : R) (e : M.Env) : Out (List D) := match r with
  | .dat d => (match rowOf d with
    | some ds => .ok ds e
    | none => .bad)
  | _ => .bad
def rowL (r : R) (e : M.Env) : Out (List D) := match r with
  | .dat (.lst ds) => .ok ds e
  | .dat (.src ds) => .ok ds e
  | _ => .bad
def rowT (r : R) (e : M.Env) : Out (List D) := match r with
  | .dat (.tup ds) => .ok ds e
  | _ => .bad
def mISeq (m : ME) : MI := fun env => (m env).bind rowR
def rng (lo : Int) (n : Nat) : List D := (List.range n).map fun (k : Nat) => .int (lo + (k : Int))
def mIR1 (m : MA) : MI := fun env => (m env).bind fun rs e => match rs with
  | [.dat (.int n)] => if (decide (-(2 ^ 62) ≤ n) && decide (n < 2 ^ 62)) = true then .ok (rng 0 n.toNat) e else .bad
  | _ => .bad
def mIR2 (m : MA) : MI := fun env => (m env).bind fun rs e => match rs with
  | [.dat (.int i), .dat (.int j)] => if (decide (-(2 ^ 62) ≤ i) && decide (i < 2 ^ 62) && decide (-(2 ^ 62) ≤ j) && decide (j < 2 ^ 62)) = true then .ok (rng i (j - i).toNat) e else .bad
  | _ => .bad
def enumD (ds : List D) : List D := ds.zipIdx.map fun (x, i) => .tup [.int (i : Nat), x]
def mIEnum (m : MA) : MI := fun env => (m env).bind fun rs e => match rs with
  | [.dat d] => (match rowOf d with
    | some ds => .ok (enumD ds) e
    | none => .bad)
  | _ => .bad
def zipD (ds es : List D) : List D := (ds.zip es).map fun (x, y) => .tup [x, y]
def mIZip (m : MA) : MI := fun env => (m env).bind fun rs e => match rs with
  | [.dat (.tup ds), .dat (.tup es)] => .ok (zipD ds es) e
  | [.dat (.lst ds), .dat (.lst es)] => .ok (zipD ds es) e
  | _ => .bad
section
variable {pu pb : Bool} {env0 env env' env2 : M.Env} {σ σ' σ2 : L2.St} {H0 H H0' H' A0 A B B' : Hp} {F FA F' F2 : List Addr} {v : V} {r : R} {d : D} {Z : Addr → Prop} {T : Tb} {K : PySem.W.Frag}
theorem PI.or {X : Cx} {tg iter : Expr} {w1 w2 : TI} (h1 : PI X tg iter w1) (h2 : PI X tg iter w2) : PI X tg iter (fun σ H R => w1 σ H R ∨ w2 σ H R) :=
  ⟨fun pins s σ H R I h => h.elim (h1.run pins s σ H R I) (h2.run pins s σ H R I)⟩
/-- one item at a place -/
theorem DdAll.at_ {vs : List V} {ds : List D} (h : DdAll T H vs ds) {i : Nat} {v : V} (e : vs[i]? = some v) : ∃ d, ds[i]? = some d ∧ Dd T H v d := by
  have hi : i < ds.length := by rw [← h.len]; exact (List.getElem?_eq_some_iff.mp e).1
  obtain ⟨u, u1, u2⟩ := h.got (List.getElem?_eq_getElem hi)
  rw [e] at u1
  injection u1 with u1
  subst u1
  exact ⟨_, List.getElem?_eq_getElem hi, u2⟩
theorem yld_list {a : Addr} {vs : List V} {ds : List D} (hL : ∀ H0' H', Sm A0 H0' → Same H0' H' → SqL K H' a vs) (h : DdAll T A0 vs ds) : Yld T (Itl K a) ds A0 where
  stop H0' H' s1 s2 := ⟨vs, hL _ _ s1 s2, by rw [h.len]; exact Nat.le_refl _⟩
  go k H0' H' s1 s2 hk := ⟨vs, vs[k]'(by rw [h.len]; exact hk), hL _ _ s1 s2, List.getElem?_eq_getElem _⟩
  yld k v H0' H' H2 s1 s2 hk y := by
    obtain ⟨rfl, y⟩ := y
    obtain ⟨d, d1, d2⟩ := h.at_ (y _ (hL _ _ s1 s2))
    exact ⟨d, d1, .inl ⟨rfl, d2.mono s1⟩⟩
theorem yld_tup {a : Addr} {vs : List V} {ds : List D} (hL : ∀ H0' H', Sm A0 H0' → Same H0' H' → SqT K H' a vs) (h : DdAll T A0 vs ds) : Yld T (Itt K a) ds A0 where
  stop H0' H' s1 s2 := ⟨vs, hL _ _ s1 s2, by rw [h.len]; exact Nat.le_refl _⟩
  go k H0' H' s1 s2 hk := ⟨vs, vs[k]'(by rw [h.len]; exact hk), hL _ _ s1 s2, List.getElem?_eq_getElem _⟩
  yld k v H0' H' H2 s1 s2 hk y := by
    obtain ⟨rfl, y⟩ := y
    obtain ⟨d, d1, d2⟩ := h.at_ (y _ (hL _ _ s1 s2))
    exact ⟨d, d1, .inl ⟨rfl, d2.mono s1⟩⟩
theorem rng_at {lo : Int} {n k : Nat} (h : k < n) : (rng lo n)[k]? = some (.int (lo + (k : Int))) := by
  unfold rng
  rw [List.getElem?_map, List.getElem?_range h]
  rfl
theorem rng_len {lo : Int} {n : Nat} : (rng lo n).length = n := by simp [rng]
theorem yld_rng {lo : Int} {n : Nat} : Yld T (Itr lo n) (rng lo n) A0 where
  stop H0' H' _ _ := by rw [rng_len]; exact Nat.le_refl _
  go k H0' H' _ _ hk := by rw [rng_len] at hk; exact hk
  yld k v H0' H' H2 _ _ hk y := by
    obtain ⟨rfl, rfl⟩ := y
    rw [rng_len] at hk
    exact ⟨_, rng_at hk, .inl ⟨rfl, .int _⟩⟩
theorem ri_or {w1 w2 : TI} {m m1 m2 : MI} (h1 : RfI W pu w1 m1) (h2 : RfI W pu w2 m2) (h : ∀ env, m env = m1 env ∨ m env = m2 env) : RfI W pu (fun σ H R => w1 σ H R ∨ w2 σ H R) m := fun env P px p σ H0 H F O X R q => by
  rcases h env with e | e
  · rw [e] at p; exact .inl (h1 env P px p σ H0 H F O X R q)
  · rw [e] at p; exact .inr (h2 env P px p σ H0 H F O X R q)
theorem ri_seq (hK : W.T.K = K) {te : TE} {m : ME} (h : RfE W pu te m) : RfI W pu (fun σ H R => iList K te σ H R ∨ iTup K te σ H R) (mISeq (mFz m)) := by
  subst hK
  refine ri_or (m1 := fun env => (mFz m env).bind rowL) (m2 := fun env => (mFz m env).bind rowT) (fun env P px p σ H0 H F O X R q => ?_) (fun env P px p σ H0 H F O X R q => ?_) fun env => ?_
  · dsimp only at p
    rw [Out.wp_bind] at p
    refine rf_fz h env _ px p σ H0 H F O X _ fun v r env' H0' H' F' p1 S w => ?_
    unfold rowL at p1
    split at p1
    · cases w with
      | lst h1 h2 => exact ⟨_, rfl, ⟨_, SqL.of (S.ok.sm _ _ h1)⟩, q _ _ env' _ _ F' p1 S (yld_list (fun _ _ s1 s2 => SqL.of (s2 _ _ (s1.at_ h1 rfl))) h2)⟩
    · cases w with
      | src h1 h2 => exact ⟨_, rfl, ⟨_, (Sm.of S.ok.sm).sqL h1⟩, q _ _ env' _ _ F' p1 S (yld_list (fun _ _ s1 s2 => (Sm.of s2).sqL (s1.sqL h1)) h2)⟩
    · cases p1
  · dsimp only at p
    rw [Out.wp_bind] at p
    refine rf_fz h env _ px p σ H0 H F O X _ fun v r env' H0' H' F' p1 S w => ?_
    unfold rowT at p1
    split at p1
    · cases w with
      | tup h1 h2 => exact ⟨_, rfl, ⟨_, SqT.of (S.ok.sm _ _ h1)⟩, q _ _ env' _ _ F' p1 S (yld_tup (fun _ _ s1 s2 => SqT.of (s2 _ _ (s1.at_ h1 rfl))) h2)⟩
    · cases p1
  · unfold mISeq
    cases mFz m env with
    | bad => exact .inl rfl
    | ex => exact .inl rfl
    | ok r e =>
      simp only [Out.bind_ok]
      unfold rowR rowL rowT
      cases r with
      | dat d => cases d <;> first | exact .inl rfl | exact .inr rfl
      | _ => exact .inl rfl
theorem vals_one {vs : List V} {r : R} (h : VALs W Z env σ H0 H F vs [r]) : ∃ v, vs = [v] ∧ VAL W Z env σ H0 H F v r := by
  cases h with | cons h t => cases t; exact ⟨_, rfl, h⟩
theorem ri_rng1 {ta : TA} {m : MA} (h : RfA W pu ta m) : RfI W pu (iRng1 ta) (mIR1 m) := fun env P px p σ H0 H F O X R q => by
  unfold mIR1 at p
  rw [Out.wp_bind] at p
  refine h env _ px p σ H0 H F O X _ fun vs rs env' H0' H' F' p1 S w => ?_
  split at p1
  · rename_i n
    split at p1
    · rename_i c
      rw [Bool.and_eq_true, decide_eq_true_eq, decide_eq_true_eq] at c
      obtain ⟨v, rfl, w1⟩ := vals_one w
      have := Dd.int_inv w1
      subst this
      exact ⟨n, rfl, c.1, c.2, q _ _ env' _ _ F' p1 S yld_rng⟩
    · cases p1
  · cases p1
end
end M
set_option Elab.async false
set_option linter.all false
set_option maxRecDepth 100000
set_option maxHeartbeats 1000000
namespace M
open PySem PySem.Spec PyProof.Rows L2 MR RZ
structure JE (X : Cx) (W : Wo) (pu : Bool) (e : Expr) (m : ME) : Prop where
  h : ∃ t, PE X e t ∧ RfE W pu t m
structure JT (X : Cx) (W : Wo) (pu : Bool) (e : Expr) (m : MT) : Prop where
  h : ∃ t, PT X e t ∧ RfT W pu t m
structure JW (X : Cx) (W : Wo) (pu : Bool) (e : Expr) (m : MT) : Prop where
  h : ∃ t, PW X e t ∧ RfT W pu t m
structure JA (X : Cx) (W : Wo) (pu : Bool) (es : List Expr) (m : MA) : Prop where
  h : ∃ t, PA X es t ∧ RfA W pu t m
structure JKw (X : Cx) (W : Wo) (ks : List Keyword) (m : MA) : Prop where
  h : ∃ t, PK X ks t ∧ RfA W false t m
structure JP (X : Cx) (W : Wo) (pu : Bool) (e : Option Expr) (m : MO) : Prop where
  h : ∃ t, PO X e t ∧ RfO W pu t m
structure JG (X : Cx) (W : Wo) (vs : List Nat) (e : Expr) (m : MG) : Prop where
  h : ∃ t, PG X e t ∧ RfG W vs t m
structure JI (X : Cx) (W : Wo) (pu : Bool) (tg iter : Expr) (m : MI) : Prop where
  h : ∃ t, PI X tg iter t ∧ RfI W pu t m
structure JS (X : Cx) (W : Wo) (s : Stmt) (m : MS) : Prop where
  h : ∃ t, PS X s t ∧ RfS W t m
structure JSs (X : Cx) (W : Wo) (s : List Stmt) (m : MS) : Prop where
  h : ∃ t, PSs X s t ∧ RfS W t m
structure JO (X : Cx) (W : Wo) (f : Value → Value → Sem Value) (o : D → D → Option R) : Prop where
  h : ∃ r, OpR X f r ∧ RdO W.T r o
structure JC (X : Cx) (W : Wo) (f : Value) (o : List D → Option R) : Prop where
  h : ∃ r, CallR X f r ∧ RdC W.T r o
structure JM (X : Cx) (W : Wo) (id : String) (o : List D → List D → Option (D × List D)) : Prop where
  h : ∃ r, MtR X id r ∧ RdM W.T r o
structure JTs (X : Cx) (W : Wo) (pu : Bool) (es : List Expr) (m : MT) : Prop where
  h : ∃ t, PTs X es t ∧ RfT W pu t m
section
variable {X : Cx} {W : Wo} {pu pb : Bool} {a b c e e2 value slice : Expr} {es : List Expr} {ma mb mc me : ME} {mA : MA} {pos pos' p p2 : Pos} {x : Str}
theorem jo_add (hK : W.T.K = X.K := by rfl) : JO X W (binaryOp .Add) oAdd := ⟨_, OpR.or op_add (OpR.or op_add_str (OpR.or op_catA op_cat)), rd_add hK⟩
theorem jo_sub : JO X W (binaryOp .Sub) oSub := ⟨_, op_sub, rd_sub⟩
theorem jo_mul (hK : W.T.K = X.K := by rfl) : JO X W (binaryOp .Mult) oMul := ⟨_, OpR.or op_mul (OpR.or op_repA op_rep), rd_mul hK⟩
theorem jo_div : JO X W (binaryOp .FloorDiv) oDiv := ⟨_, op_fdivN, rd_div⟩
theorem jo_mod : JO X W (binaryOp .Mod) oMod := ⟨_, op_modN, rd_mod⟩
theorem jo_pow : JO X W (binaryOp .Pow) oPow := ⟨_, op_pow, rd_pow⟩
theorem jo_le : JO X W (compareOp .LtE) oLe := ⟨_, op_le, rd_le⟩
theorem jo_gt : JO X W (compareOp .Gt) oGt := ⟨_, op_gt, rd_gt⟩
theorem jo_ge : JO X W (compareOp .GtE) oGe := ⟨_, op_ge, rd_ge⟩
theorem je_op {op : Operator} {o : D → D → Option R} (ho : JO X W (binaryOp op) o) (ha : JE X W pu a ma) (hb : JE X W pu b mb) : JE X W pu (.BinOp a op b pos) (mOp o ma mb) := by
  obtain ⟨r, h1, h2⟩ := ho.h
  obtain ⟨ta, a1, a2⟩ := ha.h
  obtain ⟨tb, b1, b2⟩ := hb.h
  exact ⟨_, pe_op h1 a1 b1, rf_op h2 a2 b2⟩
theorem je_cmp {op : CmpOp} {o : D → D → Option R} (ho : JO X W (compareOp op) o) (ha : JE X W pu a ma) (hb : JE X W pu b mb) (hm : behindInMarks op b = false) : JE X W pu (.Compare a [op] [b] pos) (mOp o ma mb) := by
  obtain ⟨r, h1, h2⟩ := ho.h
  obtain ⟨ta, a1, a2⟩ := ha.h
  obtain ⟨tb, b1, b2⟩ := hb.h
  exact ⟨_, pe_cmpR h1 a1 b1 hm, rf_op h2 a2 b2⟩
theorem je_neg (ha : JE X W pu a ma) : JE X W pu (.UnaryOp .USub a pos) (mUn uNeg ma) := by
  obtain ⟨ta, a1, a2⟩ := ha.h
  exact ⟨_, pe_un un_neg a1, rf_un rd_neg a2⟩
theorem je_not (ha : JE X W pu a ma) : JE X W pu (.UnaryOp .Not a pos) (mNotV ma) := by
  obtain ⟨ta, a1, a2⟩ := ha.h
  exact ⟨_, pe_not a1, rf_notV a2⟩
theorem je_chain {op op' : CmpOp} {o o' : D → D → Option R} (ho : JO X W (compareOp op) o) (ho' : JO X W (compareOp op') o') (ha : JE X W pu a ma) (hb : JE X W pu b mb) (hc : JE X W pu c mc) (hm : lastMarks [op, op'] [b, c] = false := by rfl) : JE X W pu (.Compare a [op, op'] [b, c] pos) (mChain o o' ma mb mc) := by
  obtain ⟨r, h1, h2⟩ := ho.h
  obtain ⟨r', h3, h4⟩ := ho'.h
  obtain ⟨ta, a1, a2⟩ := ha.h
  obtain ⟨tb, b1, b2⟩ := hb.h
  obtain ⟨tc, c1, c2⟩ := hc.h
  exact ⟨_, pe_chain h1 h3 a1 b1 c1 hm, rf_chain h2 h4 a2 b2 c2⟩
theorem je_and {rest : List Expr} (ha : JE X W pu a ma) (hb : JE X W pu (.BoolOp .And (b :: rest) pos) mb) : JE X W pu (.BoolOp .And (a :: b :: rest) pos) (mAndV ma mb) := by
  obtain ⟨ta, a1, a2⟩ := ha.h
  obtain ⟨tb, b1, b2⟩ := hb.h
  exact ⟨_, pe_and a1 b1, rf_andV a2 b2⟩
theorem je_one {op : BoolOp} (ha : JE X W pu a ma) : JE X W pu (.BoolOp op [a] pos) ma := by
  obtain ⟨ta, a1, a2⟩ := ha.h
  exact ⟨_, pe_one a1, a2⟩
theorem je_if {mt : MT} (hc : JT X W pu c mt) (ha : JE X W pu a ma) (hb : JE X W pu b mb) : JE X W pu (.IfExp c a b pos) (mIfE mt ma mb) := by
  obtain ⟨tc, c1, c2⟩ := hc.h
  obtain ⟨ta, a1, a2⟩ := ha.h
  obtain ⟨tb, b1, b2⟩ := hb.h
  exact ⟨_, pe_ifExp c1 a1 b1, rf_ifE c2 a2 b2⟩
theorem je_fz (ha : JE X W pu a ma) : JE X W pu a (mFz ma) := by
  obtain ⟨ta, a1, a2⟩ := ha.h
  exact ⟨_, a1, rf_fz a2⟩
theorem ja_nil : JA X W pu [] mNil := ⟨_, pa_nil, rf_nil⟩
theorem ja_cons (ha : JE X W pu e ma) (hr : JA X W pu es mA) (hs : starEach (e :: es) X.env = (false, eval e X.env) :: starEach es X.env := by rfl) : JA X W pu (e :: es) (mCons ma mA) := by
  obtain ⟨ta, a1, a2⟩ := ha.h
  obtain ⟨tb, b1, b2⟩ := hr.h
  exact ⟨_, pa_cons a1 b1 hs, rf_cons a2 b2⟩
theorem jk_nil : JKw X W [] mNil := ⟨_, pk_nil, rf_nil⟩
theorem jk_cons {nm : Option Str} {kpos : Pos} {ks : List Keyword} (ha : JE X W false e ma) (hr : JKw X W ks mA) : JKw X W (⟨nm, e, kpos⟩ :: ks) (mCons ma mA) := by
  obtain ⟨ta, a1, a2⟩ := ha.h
  obtain ⟨tb, b1, b2⟩ := hr.h
  exact ⟨_, pk_cons a1 b1, rf_cons a2 b2⟩
theorem je_tup {x1} (h : JA X W pu es mA) : JE X W pu (.Tuple es x1 pos) (mTup mA) := by
  obtain ⟨t, h1, h2⟩ := h.h
  exact ⟨_, pe_tup h1, rf_tup h2⟩
theorem je_lst (h : JA X W pu es mA) : JE X W pu (.List es pos) (mLst mA) := by
  obtain ⟨t, h1, h2⟩ := h.h
  exact ⟨_, pe_lst h1, rf_lst h2⟩
theorem jp_none : JP X W pu none mNoP := ⟨_, po_none, ro_none⟩
theorem jp_some (h : JE X W pu e me) : JP X W pu (some e) (mPart me) := by
  obtain ⟨t, h1, h2⟩ := h.h
  exact ⟨_, po_some h1, ro_some h2⟩
theorem je_sl {lo hi : Option Expr} {ml mh : MO} (he : JE X W pu e me) (hl : JP X W pu lo ml) (hu : JP X W pu hi mh) (hK : W.T.K = X.K := by rfl) : JE X W pu (.Subscript e (.Slice lo hi none p2) pos) (mSl me ml mh) := by
  obtain ⟨t, h1, h2⟩ := he.h
  obtain ⟨tl, l1, l2⟩ := hl.h
  obtain ⟨th, u1, u2⟩ := hu.h
  exact ⟨_, pe_slice sl_all h1 l1 u1, rf_sl (rd_sl hK) h2 l2 u2⟩
theorem PE.or {t1 t2 : TE} (h1 : PE X e t1) (h2 : PE X e t2) : PE X e (fun σ H Q => t1 σ H Q ∨ t2 σ H Q) := ⟨fun pins s σ H Q I h => h.elim (h1.run pins s σ H Q I) (h2.run pins s σ H Q I)⟩
theorem PS.or {st : Stmt} {t1 t2 : TS} (h1 : PS X st t1) (h2 : PS X st t2) : PS X st (fun D σ H => t1 D σ H ∨ t2 D σ H) := ⟨fun pins s σ H D I h => h.elim (h1.run pins s σ H D I) (h2.run pins s σ H D I)⟩
theorem jc_len (hK : W.T.K = X.K := by rfl) (hP : W.T.P = X.prog := by rfl) (hw : W.T.w = X.w := by rfl) : JC X W (.builtin "len") (one bLen) := ⟨_, call_len2, rd_len hK hP hw⟩
theorem jc_abs : JC X W (.builtin "abs") (one bAbs) := ⟨_, call_abs, rd_abs⟩
theorem jc_int : JC X W (.type "int") (one bInt) := ⟨_, call_int1, rd_int⟩
theorem jc_str : JC X W (.type "str") (one bStr) := ⟨_, call_str_int, rd_str⟩
theorem jc_tuple (hK : W.T.K = X.K := by rfl) : JC X W (.type "tuple") (one bTuple) := ⟨_, call_tuple_of, rd_tuple hK⟩
theorem jc_list (hc : X.calm = true := by rfl) (hK : W.T.K = X.K := by rfl) : JC X W (.type "list") (one bList) := ⟨_, call_list2 hc, rd_list hK⟩
theorem jc_all (hc : X.calm = true := by rfl) (hK : W.T.K = X.K := by rfl) : JC X W (.builtin "all") (one bAll) := ⟨_, cr_all hc, rd_all hK⟩
theorem jc_isi : JC X W (.builtin "isinstance") (two bIsi) := ⟨_, CallR.or call_isi call_isiT, rd_isi⟩
theorem je_callB {id : String} {o : List D → Option R} (hc : JC X W (.builtin id) o) (hg : Gl X x) (hm : X.mg x = none) (hv : bootBuiltins x = some (.builtin id)) (ha : JA X W pu (e :: es) mA) (hn : x ≠ "__name__" := by decide) (hdb : (x == ("__debug__" : Str)) = false := by decide) (he : starEach (e :: es) X.env = (false, eval e X.env) :: starEach es X.env := by rfl) (hpl : (backTo pos (starEach es X.env)).any (·.1) = false := by rfl) : JE X W pu (.Call (.Name x p) (e :: es) [] pos) (mCB o mA) := by
  obtain ⟨r, h1, h2⟩ := hc.h
  obtain ⟨t, a1, a2⟩ := ha.h
  exact ⟨_, pe_callB h1 hg hm hv a1 hn hdb he hpl, rf_cb h2 a2⟩
theorem je_callTy {id : String} {o : List D → Option R} (hc : JC X W (.type id) o) (hg : Gl X x) (hm : X.mg x = none) (hv : bootBuiltins x = some (.type id)) (ha : JA X W pu (e :: es) mA) (hn : x ≠ "__name__" := by decide) (hdb : (x == ("__debug__" : Str)) = false := by decide) (he : starEach (e :: es) X.env = (false, eval e X.env) :: starEach es X.env := by rfl) (hpl : (backTo pos (starEach es X.env)).any (·.1) = false := by rfl) : JE X W pu (.Call (.Name x p) (e :: es) [] pos) (mCB o mA) := by
  obtain ⟨r, h1, h2⟩ := hc.h
  obtain ⟨t, a1, a2⟩ := ha.h
  exact ⟨_, pe_callTy h1 hg hm hv a1 hn hdb he hpl, rf_cb h2 a2⟩
theorem jm_append : JM X W "list.append" lAppend := ⟨_, mt_append, rm_append⟩
theorem jm_pop : JM X W "list.pop" lPop := ⟨_, mt_pop, rm_pop⟩
theorem je_lm (g : Bool) {id : String} {name : Str} {o : List D → List D → Option (D × List D)} {apos cpos : Pos} (slot : Slot "list" name id) (hty : typeOf (.builtin id) = pure (.type "method_descriptor")) (hm : JM X W id o) (ha : JE X W false a ma) (hb : JA X W pb (e :: es) mA) (hg : g = true → pb = true := by intro h; first | exact h | rfl)
    (hbase : attributeBase a name X.env (eval a X.env) = eval a X.env := by rfl) (hfew : ((backTo cpos (starEach (e :: es) X.env)).all (fun x => !x.1) && (backToKw cpos (keywordEach [] X.env)).all (fun x => x.1.isSome) && decide ((e :: es).length + ([] : List Keyword).length + (if ([] : List Keyword).isEmpty then 0 else 1) < 30)) = true := by rfl) (hline : (apos.endLine == cpos.line) = true := by rfl) (hs : starEach (e :: es) X.env = (false, eval e X.env) :: starEach es X.env := by rfl) (hplain : (backTo cpos (starEach es X.env)).any (·.1) = false := by rfl) : JE X W false (.Call (.Attribute a name apos) (e :: es) [] cpos) (mLm g o ma mA) := by
  obtain ⟨r, h1, h2⟩ := hm.h
  obtain ⟨ta, a1, a2⟩ := ha.h
  obtain ⟨tb, b1, b2⟩ := hb.h
  exact ⟨_, pe_bm PySem.F.plainAttrs_list slot hty h1 a1 b1 hbase hfew hline hs hplain, rf_lm h2 a2 b2 hg⟩
theorem je_lm0 {id : String} {name : Str} {o : List D → List D → Option (D × List D)} {apos cpos : Pos} (slot : Slot "list" name id) (hty : typeOf (.builtin id) = pure (.type "method_descriptor")) (hm : JM X W id o) (ha : JE X W false a ma)
    (hbase : attributeBase a name X.env (eval a X.env) = eval a X.env := by rfl) (hline : (apos.endLine == cpos.line) = true := by rfl) : JE X W false (.Call (.Attribute a name apos) [] [] cpos) (mLm0 o ma) := by
  obtain ⟨r, h1, h2⟩ := hm.h
  obtain ⟨ta, a1, a2⟩ := ha.h
  exact ⟨_, pe_bm0 PySem.F.plainAttrs_list slot hty h1 a1 hbase hline, rf_lm0 h2 a2⟩
theorem jt_val (h : JE X W pu e me) (he : ∀ whole, isTrue e X.env whole = (do let v ← whole; standAt e.pos; holding [v] (truthy v)) := by intro _; rfl) : JT X W pu e (mB me) := by
  obtain ⟨t, h1, h2⟩ := h.h
  exact ⟨_, pt_val h1 he, rf_tB h2⟩
theorem jt_cmp {op : CmpOp} {o : D → D → Option R} (ho : JO X W (compareOp op) o) (ha : JE X W pu a ma) (hb : JE X W pu b mb) (hm : behindInMarks op b = false) : JT X W pu (.Compare a [op] [b] pos) (mB (mOp o ma mb)) := by
  obtain ⟨r, h1, h2⟩ := ho.h
  obtain ⟨ta, a1, a2⟩ := ha.h
  obtain ⟨tb, b1, b2⟩ := hb.h
  exact ⟨_, pt_cmpR h1 a1 b1 hm, rf_tTest (rf_op h2 a2 b2)⟩
theorem jt_not {m : MT} (h : JT X W pu e m) : JT X W pu (.UnaryOp .Not e pos) (mNot m) := by
  obtain ⟨t, h1, h2⟩ := h.h
  exact ⟨_, pt_not h1, rf_not h2⟩
theorem jw_and {m n : MT} {rest : List Expr} (h : JT X W pu a m) (k : JW X W pu (.BoolOp .And (b :: rest) pos) n) : JW X W pu (.BoolOp .And (a :: b :: rest) pos) (mAnd m n) := by
  obtain ⟨t, h1, h2⟩ := h.h
  obtain ⟨u, k1, k2⟩ := k.h
  exact ⟨_, pw_and h1 k1, rf_and h2 k2⟩
theorem jw_and1 {m : MT} (h : JT X W pu a m) : JW X W pu (.BoolOp .And [a] pos) m := by
  obtain ⟨t, h1, h2⟩ := h.h
  exact ⟨_, pw_and1 h1, h2⟩
theorem jw_or {m n : MT} {rest : List Expr} (h : JT X W pu a m) (k : JW X W pu (.BoolOp .Or (b :: rest) pos) n) : JW X W pu (.BoolOp .Or (a :: b :: rest) pos) (mOr m n) := by
  obtain ⟨t, h1, h2⟩ := h.h
  obtain ⟨u, k1, k2⟩ := k.h
  exact ⟨_, pw_or h1 k1, rf_or h2 k2⟩
theorem jw_or1 {m : MT} (h : JT X W pu a m) : JW X W pu (.BoolOp .Or [a] pos) m := by
  obtain ⟨t, h1, h2⟩ := h.h
  exact ⟨_, pw_or1 h1, h2⟩
theorem jt_w {m : MT} (h : JW X W pu e m) : JT X W pu e m := by
  obtain ⟨t, h1, h2⟩ := h.h
  exact ⟨_, h1.pt, h2⟩
theorem jg_name {vs : List Nat} {i : Nat} (hN : X.N.Nodup) (hi : X.N[i]? = some x) (hx : Loc X.env.scope x) (hv : i ∈ vs := by decide) (hx2 : W.fx i = false := by rfl) (hf : X.fn x = true ∨ X.env.scope.names.lookup x = some .local := by first | exact .inr rfl | exact .inl rfl) : JG X W vs (.Name x pos) (gNm i) := ⟨_, pg_name hN hi hx hf, rg_name hv hx2⟩
theorem ji_seq {tg : Expr} (h : JE X W pu e me) (hK : W.T.K = X.K := by rfl) : JI X W pu tg e (mISeq (mFz me)) := by
  obtain ⟨t, h1, h2⟩ := h.h
  exact ⟨_, PI.or (pi_list h1) (pi_tup h1), ri_seq hK h2⟩
theorem ji_rng1 {tg : Expr} (hg : Gl X "range") (hm : X.mg "range" = none) (ha : JA X W pu [a] mA) (hs : starEach [a] X.env = [(false, eval a X.env)] := by rfl) : JI X W pu tg (.Call (.Name "range" p) [a] [] pos) (mIR1 mA) := by
  obtain ⟨t, h1, h2⟩ := ha.h
  exact ⟨_, pi_range1 hg hm h1 hs, ri_rng1 h2⟩
end
end M
set_option Elab.async false
set_option linter.all false
set_option maxRecDepth 100000
set_option maxHeartbeats 1000000
namespace MR
open PySem PySem.Spec PyProof.Rows L2
abbrev Hd := Value × Option Nat × (Addr → Value → Option Addr → TS)
def clr (i : Nat) (D : Ends) : Ends := { nx := fun σ' H' => D.nx (σ'.set i none) H', rt := D.rt, bk := fun σ' H' => D.bk (σ'.set i none) H', ct := fun σ' H' => D.ct (σ'.set i none) H' }
def wMA (K : PySem.W.Frag) (Wout : WX) (D : Ends) : List Hd → WX
  | [] => Wout
  | (c, none, ts) :: r => fun cls d σ H => ∃ b, PySem.W.exmOne K cls c = some b ∧ (b = true → ∀ a, H a = none → ts a cls d D σ H) ∧ (b = false → wMA K Wout D r cls d σ H)
  | (c, some i, ts) :: r => fun cls d σ H => ∃ b, PySem.W.exmOne K cls c = some b ∧ (b = true → ∀ a, H a = none → ts a cls d (clr i D) (σ.set i (some (.ref a))) H) ∧ (b = false → wMA K Wout D r cls d σ H)
inductive HdsA (X : Cx) : List ExceptHandler → List Hd → Prop
  | nil : HdsA X [] []
  | no {x : Str} {c : Value} {ts : Addr → Value → Option Addr → TS} {b₀ : Stmt} {suite : List Stmt} {np pos' : Pos} {hds : List ExceptHandler} {l : List Hd} (hc : Names X x c)
      (hsu : ∀ (a : Addr) (oe : Obj) (cls : Value) (d : Option Addr) (pn : List (Addr × Obj)), Zc cls d oe → (∃ vs, oe.data = .fields vs) → PSs (X.suite a ((a, oe) :: pn)) (b₀ :: suite) (ts a cls d)) (r : HdsA X hds l) :
      HdsA X (.ExceptHandler (some (.Name x np)) none (b₀ :: suite) pos' :: hds) ((c, none, ts) :: l)
  | as {x n : Str} {c : Value} {i : Nat} {ts : Addr → Value → Option Addr → TS} {b₀ : Stmt} {suite : List Stmt} {np pos' : Pos} {hds : List ExceptHandler} {l : List Hd} (hc : Names X x c) (hi : X.N[i]? = some n) (hln : X.env.kindOf n = some .local)
      (hsu : ∀ (a : Addr) (oe : Obj) (cls : Value) (d : Option Addr) (pn : List (Addr × Obj)), Zc cls d oe → (∃ vs, oe.data = .fields vs) → PSs (X.suite a ((a, oe) :: pn)) (b₀ :: suite) (ts a cls d)) (r : HdsA X hds l) :
      HdsA X (.ExceptHandler (some (.Name x np)) (some n) (b₀ :: suite) pos' :: hds) ((c, some i, ts) :: l)
def tTryM (K : PySem.W.Frag) (l : List Hd) (Wout : WX) (tb : WX → TS) : TS := fun D σ H => tb (wMA K Wout D l) D σ H
theorem ps_tryM {X : Cx} {body : List Stmt} {h₀ : ExceptHandler} {hds : List ExceptHandler} {l : List Hd} {pos : Pos} {tb : WX → TS} (Wout : WX) (hs : X.stack = X.env :: X.outer) (hf : X.env.frame = some X.env.locals) (hN : X.N.Nodup) (tk : Takes X Wout)
    (hb : ∀ (W : WX) (pn : List (Addr × Obj)) (xe : Value → Shared → Prop), Takes (X.tr pn xe) W → PassesOwn (model X.prog X.w) X.A X.env xe → PSs (X.tr pn xe) body (tb W))
    (hh : HdsA X (h₀ :: hds) l) : PS X (.Try body (h₀ :: hds) [] [] pos) (tTryM X.K l Wout tb) := by
  constructor
  intro pins s σ H D I h
  have h : tb (wMA X.K Wout D l) D σ H := h
  have ok := I.ok
  have hfr : X.A.frames = some (X.env :: X.outer) := by rw [ok.frames, hs]
  apply wpAny_Try_except
  refine wpAny_mono ((hb (wMA X.K Wout D l) (X.pn ++ pins) (fun e s₁ => wpAny (model X.prog X.w) X.A (noteFrame e X.env) (fun _ s₂ => wpAny (model X.prog X.w) X.A (setFlight e none) (fun _ s₃ =>
    wpAny (model X.prog X.w) X.A (handleBy e X.env (h₀ :: hds)) (SP X pins D) X.xe s₃) X.xe s₂) X.xe s₁) (fun u s' xx => ?_) PassesOwn.looking).run [] s σ H D (I.toTry _) h) (fun f s1 hsp => ?_) (fun e s1 he => he)
  · obtain ⟨a, B, sI, pins', σ', H', cls, d, rfl, J', nb, up, sky, na, os, ag, w⟩ := xx
    have J : Inv X pins σ' H' sI := J'.ofTry ok
    have sky' : Sky B (X.env :: X.outer) a (Zc cls d) X.env.locals s'.heap := hs ▸ sky
    show wpAny (model X.prog X.w) X.A (noteFrame (.ref a) X.env) _ _ _
    apply Sky.land Zc.steady hfr hf sky'
    intro h3 fl3 up3
    have J3 : Inv X pins σ' H' { s' with heap := h3 } := J.landed nb fl3.1 (up.trans up3) os ag
    obtain ⟨oe3, vs3, he3, hz3, hd3⟩ := fl3.there
    have nfr : a ∉ frs (X.env :: X.outer) := fun hm => by
      obtain ⟨_, o', e', hnf⟩ := fl3.2.2.1.mem hm
      rw [he3] at e'
      cases e'
      exact hnf _ hd3
    have nL : a ≠ X.env.locals := fun z => nfr (List.mem_filterMap.mpr ⟨X.env, List.mem_cons_self, by rw [hf, z]⟩)
    have nF : a ∉ X.fs := fun hm => by
      obtain ⟨e, he, q⟩ := List.mem_filterMap.mp hm
      exact nfr (List.mem_filterMap.mpr ⟨e, List.mem_cons_of_mem _ he, q⟩)
    have S3 := J3.suite he3 hd3 na nL nF
    have LT : PySem.W.Looks (model X.prog X.w) h3 (typeOf (.ref a)) cls := fun A Q E s k q => wpAny_typeOf_ref (k _ _ he3) (by rw [hz3.1]; exact q)
    have test : ∀ {x : Str} {c : Value} {np : Pos} {Q : Value → Shared → Prop} {E : Value → Shared → Prop}, Names X x c → Q c { s' with heap := h3 } → wpAny (model X.prog X.w) (X.A.mark (some (.ref a))) (eval (.Name x np) X.env) Q E { s' with heap := h3 } := fun {x c np Q E} hc q => by
      obtain ⟨hg, hdbg, hm | ⟨hm, hv, hnn⟩⟩ := hc
      · exact ld_glob (X := X.suite a ((a, oe3) :: (X.pn ++ pins))) S3 hg hm q hdbg
      · exact ld_blt (X := X.suite a ((a, oe3) :: (X.pn ++ pins))) S3 hg hm hv q hnn hdbg
    have go : ∀ {hds' : List ExceptHandler} {l' : List Hd}, HdsA X hds' l' → wMA X.K Wout D l' cls d σ' H' → wpAny (model X.prog X.w) X.A (handleBy (.ref a) X.env hds') (SP X pins D) X.xe { s' with heap := h3 } := by
      intro hds' l' hk
      induction hk with
      | nil =>
        intro w
        apply wpAny_handleBy_nil
        obtain ⟨k1, k2, k3, oe, vs, T, oT, ts', he, hz, hd, h1, hr⟩ := id fl3
        unfold PySem.passOn
        apply wpAny_bind
        apply wpAny_field he hd h1
        rw [if_neg (show ¬ ((Value.ref T == Value.none) = true) from by simp)]
        have fin : wpAny (model X.prog X.w) X.A (setFlight (.ref a) X.env.frame) (fun _ s4 => wpAny (model X.prog X.w) X.A (throw (.ref a) : Sem Flow) (SP X pins D) X.xe s4) X.xe { s' with heap := h3 } := by
          rw [hf]
          refine HandSPX.setFlight_upZ fl3 fun h4 hh4 up4 => wpAny_throw (tk _ _ ?_)
          exact ⟨a, B, sI, pins, σ', H', cls, d, rfl, J, nb, (up.trans up3).trans up4, .inr (.inr (hs ▸ hh4)), na, os, ag, w⟩
        first
          | exact wpAny_bind (wpAny_pure (wpAny_bind fin))
          | exact wpAny_bind fin
      | @no x c ts b₀ suite np pos' hds2 l2 hc hsu r ih =>
        intro w
        obtain ⟨b, hb1, hyes, hno⟩ := w
        refine wpAny_handleBy_cons (codeAny_handlers_test ?_) (by intro q; cases q)
        refine test hc ((PySem.W.exm_one (M := model X.prog X.w) (J3.kIn) LT hb1).here ?_)
        cases b with
        | true =>
          apply codeAny_handlers_suite
          apply HandSPX.lands_againZ fl3
          intro h4 fl4 up4
          have J4 : Inv X pins σ' H' { s' with heap := h4 } := J.landed nb fl4.1 ((up.trans up3).trans up4) os ag
          obtain ⟨oe4, vs4, he4, hz4, hd4⟩ := fl4.there
          have S4 := J4.suite he4 hd4 na nL nF
          refine wpAny_mono ((hsu a oe4 cls d (X.pn ++ pins) hz4 ⟨_, hd4⟩).run [] _ _ H' _ S4 (hyes rfl a na)) (fun f s6 hsp => ?_) (fun _ _ z => False.elim z)
          cases f with
          | next => obtain ⟨σ6, H6, S6, q6⟩ := hsp; exact ⟨_, _, S6.unsuite ok, q6⟩
          | brk => obtain ⟨σ6, H6, S6, q6⟩ := hsp; exact ⟨_, _, S6.unsuite ok, q6⟩
          | cont => obtain ⟨σ6, H6, S6, q6⟩ := hsp; exact ⟨_, _, S6.unsuite ok, q6⟩
          | ret u => obtain ⟨v6, σ6, H6, S6, r6, q6⟩ := hsp; exact ⟨_, _, _, S6.unsuite ok, r6, q6⟩
        | false => exact ih (hno rfl)
      | @as x n c i ts b₀ suite np pos' hds2 l2 hc hi hln hsu r ih =>
        intro w
        obtain ⟨b, hb1, hyes, hno⟩ := w
        refine wpAny_handleBy_cons (codeAny_handlers_test ?_) (by intro q; cases q)
        refine test hc ((PySem.W.exm_one (M := model X.prog X.w) (J3.kIn) LT hb1).here ?_)
        cases b with
        | true =>
          apply codeAny_handlers_suite_as
          apply HandSPX.lands_againZ fl3
          intro h4 fl4 up4
          have J4 : Inv X pins σ' H' { s' with heap := h4 } := J.landed nb fl4.1 ((up.trans up3).trans up4) os ag
          obtain ⟨oe4, vs4, he4, hz4, hd4⟩ := fl4.there
          have S4 := J4.suite he4 hd4 na nL nF
          have hloc : Loc X.env.scope n := .inl hln
          refine store_ok (X := X.suite a ((a, oe4) :: (X.pn ++ pins))) (v := .ref a) S4 hN hi hloc rfl (fun s5 S5 => ?_) (.inr hln)
          refine wpAny_mono ((hsu a oe4 cls d (X.pn ++ pins) hz4 ⟨_, hd4⟩).run [] s5 _ H' _ S5 (hyes rfl a na)) (fun f s6 hsp => ?_) (fun _ _ z => False.elim z)
          have end_ : ∀ {σ6 : L2.St} {H6 : Hp} {Q : Shared → Prop}, Inv (X.suite a ((a, oe4) :: (X.pn ++ pins))) [] σ6 H6 s6 → (∀ s7, Inv X pins (σ6.set i none) H6 s7 → Q s7) →
              wpAny (model X.prog X.w) X.A (do bindName X.env n .none; unbindBehindTheSuite X.env n pos') (fun _ s7 => Q s7) X.xe s6 := fun {σ6 H6 Q} S6 hq => gone_ok (S6.unsuite ok) hN hi hln hq
          cases f with
          | next => obtain ⟨σ6, H6, S6, q6⟩ := hsp; exact end_ S6 fun s7 J7 => ⟨_, _, J7, q6⟩
          | brk => obtain ⟨σ6, H6, S6, q6⟩ := hsp; exact end_ S6 fun s7 J7 => ⟨_, _, J7, q6⟩
          | cont => obtain ⟨σ6, H6, S6, q6⟩ := hsp; exact end_ S6 fun s7 J7 => ⟨_, _, J7, q6⟩
          | ret u => obtain ⟨v6, σ6, H6, S6, r6, q6⟩ := hsp; exact end_ S6 fun s7 J7 => ⟨_, _, _, J7, r6, q6⟩
        | false => exact ih (hno rfl)
    exact go hh w
  · cases f with
    | next => obtain ⟨σ', H', J', q⟩ := hsp; exact wpAny_execs_nil ⟨σ', H', J'.ofTry ok, q⟩
    | brk => obtain ⟨σ', H', J', q⟩ := hsp; exact ⟨σ', H', J'.ofTry ok, q⟩
    | cont => obtain ⟨σ', H', J', q⟩ := hsp; exact ⟨σ', H', J'.ofTry ok, q⟩
    | ret u => obtain ⟨v, σ', H', J', r, q⟩ := hsp; exact ⟨v, σ', H', J'.ofTry ok, r, q⟩
end MR
set_option Elab.async false
set_option linter.all false
set_option maxRecDepth 100000
set_option maxHeartbeats 1000000
namespace M
open PySem PySem.Spec PyProof.Rows L2 MR RZ
variable {W : Wo}
def mRaise (c : Nat) (fts : List Nat) (a : MA) : MS := fun env => (a env).bindS fun rs e => match datR rs with
  | some ds => if ds.length = fts.length then .ex c (fts.zip ds).reverse e else .bad
  | none => .bad
structure Hm where
  c : Nat
  i : Option Nat
  m : List (Nat × D) → MS
def SO.clr (i : Nat) : SO → SO
  | .nx e => .nx (e.set i .non)
  | .bk e => .bk (e.set i .non)
  | .ct e => .ct (e.set i .non)
  | o => o
def hGo : List Hm → Nat → List (Nat × D) → M.Env → SO
  | [], c, fs, e => .ex c fs e
  | h :: r, c, fs, e => if excSub c h.c = true then (match h.i with
      | none => h.m fs e
      | some i => if i < e.length then (h.m fs (e.set i .non)).clr i else .bad) else hGo r c fs e
def mTry (b : MS) (hs : List Hm) : MS := fun env => match b env with
  | .ex c fs e => if excTag c = true then hGo hs c fs e else .bad
  | o => o
def mXf (f : Nat) (fs : List (Nat × D)) : ME := fun env => match fs.lookup f with
  | some d => .ok (.dat d) env
  | none => .bad
def Wo.suite (W : Wo) (i a d c : Nat) (fs : List (Nat × D)) : Wo := { W with fx := fun j => W.fx j || decide (j = i), cur := some ⟨i, a, d, c, fs⟩, cfx := by intro c h; cases h; simp }
section
variable {pu pb : Bool} {env0 env env' env2 : M.Env} {σ σ' σ2 : L2.St} {H0 H H0' H' A0 A B B' : Hp} {F FA F' F2 : List Addr} {v : V} {r : R} {d : D} {Z : Addr → Prop} {T : Tb} {K : PySem.W.Frag}
theorem DdAll.zip_rev {fts : List Nat} : ∀ {vs : List V} {ds : List D}, DdAll T H vs ds → fts.length = ds.length → ((fts.zip ds).reverse.map fun f => nmS f.1) = ((fts.map nmS).zip vs).reverse.map (·.1) ∧ DdAll T H (((fts.map nmS).zip vs).reverse.map (·.2)) ((fts.zip ds).reverse.map (·.2)) := fun {vs ds} h l => by
  rw [List.map_reverse, List.map_reverse, List.map_reverse, List.map_reverse]
  have l2 := h.len
  have e1 : ((fts.map nmS).zip vs).map (·.1) = fts.map nmS := List.map_fst_zip (by rw [List.length_map]; omega)
  have e2 : ((fts.map nmS).zip vs).map (·.2) = vs := List.map_snd_zip (by rw [List.length_map]; omega)
  have e3 : (fts.zip ds).map (·.1) = fts := List.map_fst_zip (by omega)
  have e4 : (fts.zip ds).map (·.2) = ds := List.map_snd_zip (by omega)
  have e5 : ((fts.zip ds).map fun f => nmS f.1) = ((fts.zip ds).map (·.1)).map nmS := by rw [List.map_map]; rfl
  rw [e5, e3, e1, e2, e4]
  exact ⟨rfl, h.reverse⟩
theorem rs_raise {c : Nat} {Ca : Addr} {fts : List Nat} {fs : List Str} {Wx : WX} {ta : TA} {ma : MA} (hE : ∀ σ cls x H, W.E σ cls x H → Wx cls x σ H) (hc : W.T.cl c = some Ca) (hf : fts.map nmS = fs) (ha : RfA W false ta ma) : RfS W (tRz Ca fs Wx ta) (mRaise c fts ma) := fun env d px p σ H0 H F O X D e => by
  subst hf
  unfold mRaise at p
  rw [wp_bindS] at p
  refine ha env _ px p σ H0 H F O X _ fun vs rs env1 A0 A FA p1 S w => ?_
  split at p1
  · rename_i ds e1
    split at p1
    · rename_i hl
      rw [datR_eq e1] at w
      have dd := w.dats
      refine ⟨by rw [dd.len, List.length_map]; exact hl, fun a ha => hE _ _ _ _ ?_⟩
      have g := Gr.data S.ok.sm ha (.xd ((fts.map nmS).zip vs).reverse)
      have S2 := S.gr g
      obtain ⟨z1, z2⟩ := (dd.mono g.s0).zip_rev hl.symm
      exact X c Ca a _ env1 σ _ _ FA p1 S2.chg hc ⟨_, upd_same, z1, z2⟩
    · cases p1
  · cases p1
theorem rf_xf {i a d c f : Nat} {fs : List (Nat × D)} {s : Str} {Ca : Addr} (hs : nmS f = s) : RfE (W.suite i a d c fs) pu (tXf a (.ref Ca) (some d) Ca s (tVar i)) (mXf f fs) := fun env P px p σ H0 H F O X Q q => by
  subst hs
  unfold mXf at p
  split at p
  · rename_i x e
    obtain ⟨z1, ws, z2, z3, z4⟩ := O.cu _ rfl
    obtain ⟨n, n1, n2⟩ := lookup_nm z3 e
    obtain ⟨u, u1, u2⟩ := z4.got n1
    exact ⟨.ref a, z1, rfl, rfl, d, ws, u, rfl, O.sm _ _ z2, n2 u u1, q u _ env H0 H F p (.refl O) u2⟩
  · cases p
/-- the clauses: readings and mirrors side by side -/
inductive Cls2 (W : Wo) : List Hd → List Hm → Prop
  | nil : Cls2 W [] []
  | no {h : Nat} {B : Addr} {ts : Addr → Value → Option Addr → TS} {m : List (Nat × D) → MS} {l : List Hd} {r : List Hm} (hB : W.T.cl h = some B) (hh : h ∈ W.T.hs) (k : ∀ a d A fs c, W.T.cl c = some A → excSub c h = true → RfS W (ts a (.ref A) (some d)) (m fs)) (t : Cls2 W l r) : Cls2 W ((.ref B, none, ts) :: l) (⟨h, none, m⟩ :: r)
  | as {h i : Nat} {B : Addr} {ts : Addr → Value → Option Addr → TS} {m : List (Nat × D) → MS} {l : List Hd} {r : List Hm} (hB : W.T.cl h = some B) (hh : h ∈ W.T.hs) (hx : W.fx i = false) (k : ∀ a d A fs c, W.T.cl c = some A → excSub c h = true → RfS (W.suite i a d c fs) (ts a (.ref A) (some d)) (m fs)) (t : Cls2 W l r) : Cls2 W ((.ref B, some i, ts) :: l) (⟨h, some i, m⟩ :: r)
theorem Chg.clear {i : Nat} {x : Option V} (hx : W.fx i = false) (hcur : W.cur = none) (G : Chg W env0 σ A0 A FA env σ' H0 H F) (hi : i < env.length) : ∃ F', Chg W env0 σ A0 A FA (env.set i .non) (σ'.set i x) H0 H F' := by
  have O := G.ok
  obtain ⟨F', s1, n1, i1⟩ := O.sl.set1 O.nd hi (c := .non) (x := x) (.inl rfl)
  have off : ∀ j, W.fx j = true → j ≠ i := fun j z y => by rw [y, hx] at z; cases z
  refine ⟨F', ⟨⟨s1, n1, fun b z => O.h0 b (i1 b z), O.sm, fun c e => by rw [hcur] at e; cases e⟩, ⟨G.hg.k0, G.hg.keep, G.hg.al, fun b z => G.hg.ow b (i1 b z)⟩, fun j z => ?_, ⟨fun j f z y => ?_, fun j f z y o => ?_⟩, by rw [List.length_set]; exact G.ln⟩⟩
  · rw [List.getElem?_set_ne (off j z).symm]
    exact G.fx j z
  · have := G.fs.pr j f z y
    rw [getE_fld] at this ⊢
    rw [List.getElem?_set_ne (off j z).symm]
    exact this
  · refine G.fs.st j f z y ?_
    obtain ⟨x, x1, x2⟩ := o
    refine ⟨x, ?_, x2⟩
    rw [getE_fld] at x1 ⊢
    rw [List.getElem?_set_ne (off j z).symm] at x1
    exact x1
theorem Chg.toSuite {i a d c : Nat} {fs : List (Nat × D)} {E : L2.St → XK} (G : Chg (Wo.suite W i a d c fs) env σ H0 H F env' σ' H0' H' F') (hcur : W.cur = none) : Chg W env σ H0 H F env' σ' H0' H' F' := by
  refine ⟨⟨G.ok.sl, G.ok.nd, G.ok.h0, G.ok.sm, fun c e => by rw [hcur] at e; cases e⟩, G.hg, fun j z => G.fx j (by show (W.fx j || _) = true; rw [z]; rfl), G.fs.less fun j z => by show (W.fx j || _) = true; rw [z]; rfl, G.ln⟩
theorem wp_clr {i : Nat} {o : SO} {d : De} {px : PX} : SO.wp d px (o.clr i) = SO.wp ⟨fun e => d.nx (e.set i .non), d.rt, fun e => d.bk (e.set i .non), fun e => d.ct (e.set i .non)⟩ px o := by cases o <;> rfl
theorem rs_try {K : PySem.W.Frag} (hK : W.T.K = K) (hcur : W.cur = none) {l : List Hd} {ms : List Hm} {Wout : WX} {tb : WX → TS} {mb : MS} (hE : ∀ σ cls x H, W.E σ cls x H → Wout cls x σ H) (hb : ∀ Wx : WX, RfS { W with E := fun σ cls x H => Wx cls x σ H } (tb Wx) mb) (hs : Cls2 W l ms) : RfS W (tTryM K l Wout tb) (mTry mb ms) := fun env d px p σ H0 H F O X D e => by
  subst hK
  have p' : SO.wp d (fun c fs e => if excTag c = true then SO.wp d px (hGo ms c fs e) else False) (mb env) := by
    unfold mTry at p
    cases z : mb env with
    | ex c fs e =>
      rw [z] at p
      dsimp only at p
      show if excTag c = true then _ else _
      split at p
      · rename_i h
        rw [if_pos h]
        exact p
      · cases p
    | nx => rw [z] at p; exact p
    | rt => rw [z] at p; exact p
    | bk => rw [z] at p; exact p
    | ct => rw [z] at p; exact p
    | bad => rw [z] at p; exact p
  have O' : Ok { W with E := fun σ cls x H => wMA W.T.K Wout D l cls x σ H } env σ H0 H F := ⟨O.sl, O.nd, O.h0, O.sm, O.cu⟩
  have out : ∀ {env' σ' H0' H' F'}, Chg { W with E := fun σ cls x H => wMA W.T.K Wout D l cls x σ H } env σ H0 H F env' σ' H0' H' F' → Chg W env σ H0 H F env' σ' H0' H' F' := fun G => ⟨⟨G.ok.sl, G.ok.nd, G.ok.h0, G.ok.sm, G.ok.cu⟩, G.hg, G.fx, G.fs, G.ln⟩
  have valo : ∀ {Z env' σ' H0' H' F' v r}, VAL { W with E := fun σ cls x H => wMA W.T.K Wout D l cls x σ H } Z env' σ' H0' H' F' v r → VAL W Z env' σ' H0' H' F' v r := fun {Z env' σ' H0' H' F' v r} w => by
    cases r with
    | al i p => cases p <;> exact w
    | _ => exact w
  refine hb (wMA W.T.K Wout D l) env d _ p' σ H0 H F O' (fun c A dd fs env' σ' H0' H' F' pc G hA xd => ?_) D ⟨fun env' σ' H0' H' F' q G => e.nx _ _ _ _ _ q (out G), fun v r env' σ' H0' H' F' q G w => e.rt _ _ _ _ _ _ _ q (out G) (valo w), fun env' σ' H0' H' F' q G => e.bk _ _ _ _ _ q (out G), fun env' σ' H0' H' F' q G => e.ct _ _ _ _ _ q (out G)⟩
  have G := out G
  show wMA W.T.K Wout D l (.ref A) (some dd) σ' H'
  dsimp only at pc
  split at pc
  case isFalse => cases pc
  rename_i tag
  have hA : W.T.cl c = some A := hA
  have xd : XdOk W.T H0' dd fs := xd
  refine (show ∀ l ms, Cls2 W l ms → SO.wp d px (hGo ms c fs env') → wMA W.T.K Wout D l (.ref A) (some dd) σ' H' from ?_) l ms hs pc
  intro l ms hs
  clear p p' O' out valo pc
  induction hs with
  | nil => exact fun pc => hE _ _ _ _ (X c A dd fs env' σ' H0' H' F' pc G hA xd)
  | @no h B ts m l r hB hh k t ih =>
    intro pc
    refine ⟨excSub c h, W.T.ex c h A B hA hB tag hh, fun bt a ha => ?_, fun bf => ih ?_⟩
    · simp only [hGo, bt, if_pos] at pc
      exact k a dd A fs c hA bt env' d px pc σ' H0' H' F' G.ok (X.chg G) D (e.chg G)
    · simp only [hGo, bf] at pc
      exact pc
  | @as h i B ts m l r hB hh hx k t ih =>
    intro pc
    refine ⟨excSub c h, W.T.ex c h A B hA hB tag hh, fun bt a ha => ?_, fun bf => ih ?_⟩
    · simp only [hGo, bt, if_pos] at pc
      split at pc
      · rename_i hi
        rw [wp_clr] at pc
        obtain ⟨F2, G2⟩ := G.clear (x := some (.ref a)) hx hcur hi
        have ln : i < σ'.length := by rw [← G.ok.sl.len]; exact hi
        have O2 : Ok (W.suite i a dd c fs) (env'.set i .non) (σ'.set i (some (.ref a))) H0' H' F2 := ⟨G2.ok.sl, G2.ok.nd, G2.ok.h0, G2.ok.sm, fun cc ec => by
          cases ec
          exact ⟨by rw [List.getElem?_set_self ln], xd⟩⟩
        have fin : ∀ {env2 σ2 B0 B1 F3}, Chg (W.suite i a dd c fs) (env'.set i .non) (σ'.set i (some (.ref a))) H0' H' F2 env2 σ2 B0 B1 F3 → ∃ F4, Chg W env σ H0 H F (env2.set i .non) (σ2.set i none) B0 B1 F4 := fun {env2 σ2 B0 B1 F3} G3 => by
          have GG := G2.trans (G3.toSuite (E := W.E) hcur)
          have li : i < env2.length := by
            rw [GG.ok.sl.len, G3.ln, List.length_set]; exact ln
          exact GG.clear hx hcur li
        refine k a dd A fs c hA bt (env'.set i .non) _ px pc (σ'.set i (some (.ref a))) H0' H' F2 O2 (fun c2 A2 d2 fs2 env2 σ2 B0 B1 F3 pp G3 e1 e2 => X c2 A2 d2 fs2 env2 σ2 B0 B1 F3 pp (G2.trans (G3.toSuite (E := W.E) hcur)) e1 e2) _ ⟨fun env2 σ2 B0 B1 F3 pp G3 => ?_, fun v r env2 σ2 B0 B1 F3 pp G3 w => ?_, fun env2 σ2 B0 B1 F3 pp G3 => ?_, fun env2 σ2 B0 B1 F3 pp G3 => ?_⟩
        · obtain ⟨F4, G4⟩ := fin G3
          exact e.nx _ _ _ _ _ pp G4
        · refine e.rt v r _ _ _ _ _ pp (G2.trans (G3.toSuite (E := W.E) hcur)) ?_
          have w2 := w.base (Z' := Fre H F) fun l z => G2.hg.fre z
          cases r with
          | al i p => cases p <;> exact w2
          | _ => exact w2
        · obtain ⟨F4, G4⟩ := fin G3
          exact e.bk _ _ _ _ _ pp G4
        · obtain ⟨F4, G4⟩ := fin G3
          exact e.ct _ _ _ _ _ pp G4
      · cases pc
    · simp only [hGo, bf] at pc
      exact pc
end
end M
set_option Elab.async false
set_option linter.all false
set_option maxRecDepth 100000
set_option maxHeartbeats 1000000
namespace M
open PySem PySem.Spec PyProof.Rows L2 MR RZ
/-- what any place of a text keeps -/
structure Bd (X : Cx) (W : Wo) : Prop where
  hG : X.A.guards = some []
  un : X.A.units + 200 < cLine
  K : W.T.K = X.K
  P : W.T.P = X.prog
  w : W.T.w = X.w
  nd : X.N.Nodup
/-- .. where calls may stand -/
structure Bc (X : Cx) (W : Wo) (k : Nat) : Prop extends Bd X W where
  room : Room k X.A
  calm : X.calm = true
  tk : ∃ Wx : WX, Takes X Wx ∧ W.E = WE Wx
/-- .. where statements may stand -/
structure Bs (X : Cx) (W : Wo) (k : Nat) : Prop extends Bc X W k where
  po : PassesOwn (model X.prog X.w) X.A X.env X.xe
  stk : X.stack = X.env :: X.outer
  fr : X.env.frame = some X.env.locals
  cur : W.cur = none
theorem Bc.inn {X : Cx} {W : Wo} {k : Nat} (b : Bc X W k) (s : Shared) (H : Hp) (scope : Scope) (e : PySem.Env) (fp : List Addr) : Bc (X.blk s H scope e fp) W.inn k :=
  { hG := b.hG, un := b.un, K := b.K, P := b.P, w := b.w, nd := b.nd, room := b.room, calm := b.calm, tk := ⟨fun _ _ _ _ => False, takes0, rfl⟩ }
theorem Bs.tr {X : Cx} {W : Wo} {k : Nat} (b : Bs X W k) {Wx : WX} {pn : List (Addr × Obj)} {xe : Value → Shared → Prop} (t : Takes (X.tr pn xe) Wx) (po : PassesOwn (model X.prog X.w) X.A X.env xe) : Bs (X.tr pn xe) { W with E := fun σ cls x H => Wx cls x σ H } k :=
  { hG := b.hG, un := b.un, K := b.K, P := b.P, w := b.w, nd := b.nd, room := b.room, calm := b.calm, tk := ⟨Wx, t, rfl⟩, po := po, stk := b.stk, fr := b.fr, cur := b.cur }
theorem Bd.suite {X : Cx} {W : Wo} (b : Bd X W) (a : Addr) (pn : List (Addr × Obj)) : Bd (X.suite a pn) W :=
  { hG := b.hG, un := b.un, K := b.K, P := b.P, w := b.w, nd := b.nd }
theorem Bd.suiteN {X : Cx} {W : Wo} (b : Bd X W) (a : Addr) (pn : List (Addr × Obj)) (i : Nat) (d : Addr) (c : Nat) (fs : List (Nat × D)) : Bd (X.suite a pn) (W.suite i a d c fs) :=
  { hG := b.hG, un := b.un, K := b.K, P := b.P, w := b.w, nd := b.nd }
theorem Bs.fn {P : Program} {w : World} {K : PySem.W.Frag} {mg : Str → Option Value} {base : Heap} {N : List Str} {qual : Str} {sc : Scope} {f : Addr} {cd : Value} {A : Around} {outer : List PySem.Env} {s : Shared} {H : Hp} {E : XK} {T : Tb} {fx : Nat → Bool} {k : Nat} (hG : A.guards = some []) (hr : Room k (A.deeper (envOfC qual sc s.heap.objs.size f cd))) (nd : N.Nodup) (hK : T.K = K) (hP : T.P = P) (hw : T.w = w) :
    Bs (cxOf (L2.CX P w) P w K mg base N qual sc f cd A outer s H E) { T := T, fx := fx, E := fun _ => E } k :=
  { hG := hG, un := room_un hr, K := hK, P := hP, w := hw, nd := nd, room := hr, calm := rfl, tk := ⟨fun cls d _ H => E cls d H, takes_of rfl rfl rfl rfl, rfl⟩, po := passes_of rfl, stk := rfl, fr := rfl, cur := rfl }
/-- a def: what it does -/
structure Cal (P : Program) (w : World) (K : PySem.W.Frag) (mg : Str → Option Value) (base : Heap) (T : Tb) (k n : Nat) (f : Addr) (fd : FuncData) (ps : List Str) (F : List C → Out R) : Prop where
  ok : FnG P w K mg base (L2.CX P w) k f fd ps (SPm T n F)
  len : Len F
  ar : ∀ cs, cs.length ≠ n → F cs = .bad
  bi : L2.Binds K fd ps []
  kp : PySem.W.keepIn K (.ref f) = true
/-- a def keeps its promise -/
theorem cal_of {P : Program} {w : World} {K : PySem.W.Frag} {mg : Str → Option Value} {base : Heap} {T : Tb} {k n z : Nat} {x qual : Str} {st : Stmt} {f : Addr} {fd : FuncData} {N ps : List Str} {fx : Nat → Bool} {m : MS} (hK : T.K = K) (hP : T.P = P) (hw : T.w = w) (Fu : Fun K x qual st f fd) (bi : L2.Binds K fd ps []) (sc : FnScope N ps (defScope st)) (hn : ps.length = n) (hN : N.length = n + z)
    (h : ∀ (cdv : Value) (A : Around) (outer : List PySem.Env) (s : Shared) (H : Hp) (E : XK), Bs (cxOf (L2.CX P w) P w K mg base N qual (defScope st) f cdv A outer s H E) { T := T, fx := fx, E := fun _ => E } k → JSs (cxOf (L2.CX P w) P w K mg base N qual (defScope st) f cdv A outer s H E) { T := T, fx := fx, E := fun _ => E } (defBody st) m) :
    Cal P w K mg base T (k + 1) n f fd ps (mDef n z fx m) where
  ok := fnG_of Fu sc (fun vs H Q E h => h.1.trans hn.symm) (fun cdv A outer s H vs Q E hG hr hs => by
    obtain ⟨t, t1, t2⟩ := (h cdv A outer s H E (.fn hG hr sc.nd hK hP hw)).h
    exact ⟨t, t1, body_of hN hs t2⟩)
  len := len_def
  ar := arity_def
  bi := bi
  kp := Fu.kp
section
variable {X : Cx} {W : Wo} {k kk n : Nat} {pu pb : Bool} {a b e : Expr} {es : List Expr} {ma mb me : ME} {mA : MA} {pos pos' p p2 : Pos} {x : Str} {f : Addr} {fd : FuncData} {ps : List Str} {F : List C → Out R}
theorem je_call (ok : Cal X.prog X.w X.K X.mg X.base W.T kk n f fd ps F) (hm : X.mg x = some (.ref f)) (c : Bc X W k) (hk : kk ≤ k) (hg : Gl X x) (ha : JA X W false (e :: es) mA) (hdb : (x == Str.ofString "__debug__") = false := by rfl) (he : starEach (e :: es) X.env = (false, eval e X.env) :: starEach es X.env := by rfl) (hpl : (backTo pos (starEach es X.env)).any (·.1) = false := by rfl) :
    JE X W false (.Call (.Name x p) (e :: es) [] pos) (mCall F mA) := by
  obtain ⟨Wx, tk, hE⟩ := c.tk
  obtain ⟨t, a1, a2⟩ := ha.h
  exact ⟨_, pe_callSG (E := W.E) ok.ok c.hG (c.room.mono hk) hg hm ok.kp ok.bi (fun σ => by rw [hE]; exact passAt tk σ) a1 hdb he hpl, rf_call ok.len ok.ar a2⟩
theorem je_callP {ks : List Str} {kws : List Keyword} {ix : List Nat} (ok : Cal X.prog X.w X.K X.mg X.base W.T kk n f fd ps F) (hm : X.mg x = some (.ref f)) (c : Bc X W k) (hk : kk ≤ k) (hg : Gl X x) (kb : KwBinds X.K fd ps ks ix) (ha : JKw X W kws mA) (hall : (backToKw pos (keywordEach kws X.env)).all (fun x => x.1.isSome) = true := by rfl) (hks : (backToKw pos (keywordEach kws X.env)).filterMap (·.1) = ks := by rfl) (hdb : (x == Str.ofString "__debug__") = false := by rfl) (hpl : ((backTo pos (starEach [] X.env)).any (·.1) || (backToKw pos (keywordEach kws X.env)).any (fun x => x.1.isNone)) = false := by rfl) :
    JE X W false (.Call (.Name x p) [] kws pos) (mCallP ks.length ix F mA) := by
  obtain ⟨Wx, tk, hE⟩ := c.tk
  obtain ⟨t, a1, a2⟩ := ha.h
  exact ⟨_, pe_callPSG (E := W.E) ok.ok c.hG (c.room.mono hk) hg hm ok.kp kb (fun σ => by rw [hE]; exact passAt tk σ) a1 hall hks hdb hpl, rf_callP ok.len ok.ar a2⟩
theorem JE.all {ι : Type} {Xs : ι → Cx} (h : ∀ i, JE (Xs i) W pu e me) : ∃ t, (∀ i, PE (Xs i) e t) ∧ RfE W pu t me :=
  ⟨fun σ H Q => ∀ i, (h i).h.choose σ H Q, fun i => ⟨fun pins s σ H Q I w => (h i).h.choose_spec.1.run pins s σ H Q I (w i)⟩, fun env P px p σ H0 H F O X Q q i => (h i).h.choose_spec.2 env P px p σ H0 H F O X Q q⟩
theorem JG.all {ι : Type} {Xs : ι → Cx} {vs : List Nat} {m : MG} (h : ∀ i, JG (Xs i) W vs e m) : ∃ t, (∀ i, PG (Xs i) e t) ∧ RfG W vs t m :=
  ⟨fun v σ H Q => ∀ i, (h i).h.choose v σ H Q, fun i => ⟨fun pins s σ H v u Q I r w => (h i).h.choose_spec.1.run pins s σ H v u Q I r (w i)⟩, fun d env env' g σ H0 H F v O dd Q q i => (h i).h.choose_spec.2 d env env' g σ H0 H F v O dd Q q⟩
theorem JTs.all {ι : Type} {Xs : ι → Cx} {m : MT} (h : ∀ i, JTs (Xs i) W pu es m) : ∃ t, (∀ i, PTs (Xs i) es t) ∧ RfT W pu t m :=
  ⟨fun σ H Q => ∀ i, (h i).h.choose σ H Q, fun i => ⟨fun pins s σ H Q I w => (h i).h.choose_spec.1.run pins s σ H Q I (w i)⟩, fun env P px p σ H0 H F O X Q q i => (h i).h.choose_spec.2 env P px p σ H0 H F O X Q q⟩
theorem jts_nil : JTs X W pu [] mYes := ⟨_, pts_nil, rf_yes⟩
structure Plc where
  s : Shared
  H : Hp
  C : Addr
  cl : List (Str × Addr)
  fp : List Addr
theorem je_lc {elt tg iter : Expr} {ifs : List Expr} {scope : Scope} {own : List (Str × Nat)} {mi : MI} {mg : MG} {mt : MT} (c : Bc X W k) (hi : JI X W pu tg iter mi) (hb : BlkOk X.N X.env.scope scope own)
    (hg : ∀ q : Plc, Bc (X.blk q.s q.H scope (compEnvC scope q.cl q.C X.env) q.fp) W.inn k → JG (X.blk q.s q.H scope (compEnvC scope q.cl q.C X.env) q.fp) W.inn (own.map (·.2)) tg mg)
    (ht : ∀ q : Plc, Bc (X.blk q.s q.H scope (compEnvC scope q.cl q.C X.env) q.fp) W.inn k → JTs (X.blk q.s q.H scope (compEnvC scope q.cl q.C X.env) q.fp) W.inn pu ifs mt)
    (he : ∀ q : Plc, Bc (X.blk q.s q.H scope (compEnvC scope q.cl q.C X.env) q.fp) W.inn k → JE (X.blk q.s q.H scope (compEnvC scope q.cl q.C X.env) q.fp) W.inn pu elt me)
    (hv : ((own.map (·.2)).all fun i => !W.fx i) = true := by rfl) (hf : ∀ x, foldedSetIterable iter X.env x = pure x := by intro _; rfl) :
    JE X W pu (.ListComp elt [⟨tg, iter, ifs, 0⟩] scope pos) (mLc mi mg mt me (own.map (·.2))) := by
  obtain ⟨wi, i1, i2⟩ := hi.h
  obtain ⟨g, g1, g2⟩ := JG.all fun q => hg q (c.inn _ _ _ _ _)
  obtain ⟨t, t1, t2⟩ := JTs.all fun q => ht q (c.inn _ _ _ _ _)
  obtain ⟨u, e1, e2⟩ := JE.all fun q => he q (c.inn _ _ _ _ _)
  exact ⟨_, pe_lc c.calm c.nd i1 hb (fun s H C cl fp => g1 ⟨s, H, C, cl, fp⟩) (fun s H C cl fp => t1 ⟨s, H, C, cl, fp⟩) (fun s H C cl fp => e1 ⟨s, H, C, cl, fp⟩) hf, rf_lc (fun i z => by have := List.all_eq_true.mp hv i z; simpa using this) i2 g2 t2 e2⟩
/-- .. a name gets it: folded with the assignment -/
theorem js_setLc {y : Str} {py spos : Pos} {i : Nat} {elt tg iter : Expr} {ifs : List Expr} {scope : Scope} {own : List (Str × Nat)} {mi : MI} {mg : MG} {mt : MT} (fz : Bool) (c : Bc X W k) (hi : JI X W false tg iter mi) (hb : BlkOk X.N X.env.scope scope own)
    (hg : ∀ q : Plc, Bc (X.blk q.s q.H scope (compEnvC scope q.cl q.C X.env) q.fp) W.inn k → JG (X.blk q.s q.H scope (compEnvC scope q.cl q.C X.env) q.fp) W.inn (own.map (·.2)) tg mg)
    (ht : ∀ q : Plc, Bc (X.blk q.s q.H scope (compEnvC scope q.cl q.C X.env) q.fp) W.inn k → JTs (X.blk q.s q.H scope (compEnvC scope q.cl q.C X.env) q.fp) W.inn false ifs mt)
    (he : ∀ q : Plc, Bc (X.blk q.s q.H scope (compEnvC scope q.cl q.C X.env) q.fp) W.inn k → JE (X.blk q.s q.H scope (compEnvC scope q.cl q.C X.env) q.fp) W.inn false elt me)
    (hi2 : X.N[i]? = some y := by rfl) (hl : X.env.scope.names.lookup y = some .local := by rfl) (hs : swapsWith (.ListComp elt [⟨tg, iter, ifs, 0⟩] scope pos) (some (.Name y py)) spos.line X.env = pure true := by exact sw_true rfl rfl rfl (by decide +kernel))
    (hx : W.fx i = false := by rfl) (hv : ((own.map (·.2)).all fun i => !W.fx i) = true := by rfl) (hf : ∀ x, foldedSetIterable iter X.env x = pure x := by intro _; rfl) :
    JS X W (.Assign [.Name y py] (.ListComp elt [⟨tg, iter, ifs, 0⟩] scope pos) spos) (mAsg i (if fz = true then mFz (mLc mi mg mt me (own.map (·.2))) else mLc mi mg mt me (own.map (·.2)))) := by
  obtain ⟨wi, i1, i2⟩ := hi.h
  obtain ⟨g, g1, g2⟩ := JG.all fun q => hg q (c.inn _ _ _ _ _)
  obtain ⟨t, t1, t2⟩ := JTs.all fun q => ht q (c.inn _ _ _ _ _)
  obtain ⟨u, e1, e2⟩ := JE.all fun q => he q (c.inn _ _ _ _ _)
  have r : RfE W false _ _ := rf_lc (fun i z => by have := List.all_eq_true.mp hv i z; simpa using this) i2 g2 t2 e2
  refine ⟨_, ps_setLc c.calm c.nd hi2 hl hs i1 hb (fun s H C cl fp => g1 ⟨s, H, C, cl, fp⟩) (fun s H C cl fp => t1 ⟨s, H, C, cl, fp⟩) (fun s H C cl fp => e1 ⟨s, H, C, cl, fp⟩) hf, ?_⟩
  cases fz with
  | true => exact rs_asg hx (rf_fz r)
  | false => exact rs_asg hx r
theorem js_set {i : Nat} (c : Bd X W) (ha : JE X W false a ma) (hi : X.N[i]? = some x := by rfl) (hx : W.fx i = false := by rfl) (hl : L2.Loc X.env.scope x := by first | exact .inl rfl | exact .inr rfl) (hs : swapsWith a (some (Expr.Name x pos')) pos.line X.env = pure false := by rfl) (hf : X.fn x = true ∨ X.env.scope.names.lookup x = some .local := by first | exact .inl rfl | exact .inr rfl) :
    JS X W (.Assign [.Name x pos'] a pos) (mAsg i ma) := by
  obtain ⟨t, a1, a2⟩ := ha.h
  exact ⟨_, ps_set c.nd hi hl a1 hs hf, rs_asg hx a2⟩
theorem js_expr (ha : JE X W false a ma) (hs : swapsWith a none pos.line X.env = pure false := by rfl) : JS X W (.Expr a pos) (mDrop ma) := by
  obtain ⟨t, a1, a2⟩ := ha.h
  exact ⟨_, ps_expr a1 hs, rs_drop a2⟩
theorem js_ret (ha : JE X W false a ma) : JS X W (.Return (some a) pos) (mRet ma) := by
  obtain ⟨t, a1, a2⟩ := ha.h
  exact ⟨_, ps_ret a1, rs_ret a2⟩
theorem js_break : JS X W (.Break pos) mBreak := ⟨_, ps_break, rs_brk⟩
theorem jss_nil : JSs X W [] mNext := ⟨_, pss_nil, rs_next⟩
theorem jss_one {s : Stmt} {m : MS} (h : JS X W s m) : JSs X W [s] m := by
  obtain ⟨t, h1, h2⟩ := h.h
  exact ⟨_, pss_one h1, h2⟩
theorem jss_cons {s : Stmt} {ss : List Stmt} {m ms : MS} (h : JS X W s m) (k : JSs X W ss ms) : JSs X W (s :: ss) (mSeq m ms) := by
  obtain ⟨t, h1, h2⟩ := h.h
  obtain ⟨u, k1, k2⟩ := k.h
  exact ⟨_, pss_cons h1 k1, rs_seq h2 k2⟩
theorem js_if {cnd : Expr} {s1 s2 : List Stmt} {mt : MT} {m1 m2 : MS} (hc : JT X W false cnd mt) (h1 : JSs X W s1 m1) (h2 : JSs X W s2 m2) : JS X W (.If cnd s1 s2 pos) (mIf mt m1 m2) := by
  obtain ⟨t, c1, c2⟩ := hc.h
  obtain ⟨u, a1, a2⟩ := h1.h
  obtain ⟨v, b1, b2⟩ := h2.h
  exact ⟨_, ps_if c1 a1 b1, rs_if c2 a2 b2⟩
theorem js_for {vs : List Nat} {tg iter : Expr} {body : List Stmt} {mi : MI} {mg : MG} {mb : MS} (c : Bs X W k) (hi : JI X W false tg iter mi) (hg : JG X W vs tg mg) (hb : JSs X W body mb) (hv : (vs.all fun i => !W.fx i) = true := by rfl) (hf : ∀ x, foldedSetIterable iter X.env x = pure x := by intro _; rfl) : JS X W (.For tg iter body [] pos) (mFor mi mg mb) := by
  obtain ⟨t, i1, i2⟩ := hi.h
  obtain ⟨u, g1, g2⟩ := hg.h
  obtain ⟨v, b1, b2⟩ := hb.h
  exact ⟨_, ps_for c.po c.calm i1 g1 b1 hf, rs_for (fun i z => by have := List.all_eq_true.mp hv i z; simpa using this) i2 g2 b2⟩
theorem js_while {cnd : Expr} {body : List Stmt} {mt : MT} {mb : MS} (c : Bs X W k) (hc : JT X W false cnd mt) (hb : JSs X W body mb) : JS X W (.While cnd body [] pos) (mWhile mt mb) := by
  obtain ⟨t, c1, c2⟩ := hc.h
  obtain ⟨v, b1, b2⟩ := hb.h
  exact ⟨_, ps_while c.po c1 b1, rs_while c2 b2⟩
theorem js_sub {o i v : Expr} {mo mi mv : ME} (g : Bool) (c : Bd X W) (hv : JE X W false v mv) (ho : JE X W false o mo) (hi : JE X W pb i mi) (hg : g = true → pb = true := by intro h; first | exact h | rfl | cases h)
    (hsub : ∀ u, assign (.Subscript o i p2) X.env u = (do
      let ov ← holding [u] (eval o X.env)
      let iv ← holding [u, ov] (eval i X.env)
      standAt p2
      holding [u, ov, iv] (setItem ov iv u)
      release [u, ov, iv] []) := by intro _; rfl)
    (h1 : swapsWithSole [.Subscript o i p2] v pos.line X.env = pure false := by rfl) (h2 : swappedStores [.Subscript o i p2] v X.env = pure none := by rfl) (h3 : (assignEach [.Subscript o i p2] X.env).map (·.2) = [assign (.Subscript o i p2) X.env] := by rfl) (h4 : swapsWith v (some (.Subscript o i p2)) pos.line X.env = pure false := by rfl) :
    JS X W (.Assign [.Subscript o i p2] v pos) (mSub g mv mo mi) := by
  obtain ⟨tv, v1, v2⟩ := hv.h
  obtain ⟨to, o1, o2⟩ := ho.h
  obtain ⟨ti, i1, i2⟩ := hi.h
  exact ⟨_, PS.or (ps_asg v1 (pg_sub o1 i1 set_list hsub) h1 h2 h3) (MN.ps_nput (by have := c.un; omega) o1 i1 v1 h4), rs_sub c.P c.w v2 o2 i2 hg⟩
theorem js_raise {fs ps' : List Str} {C fI : Addr} {fts : List Nat} {cn kI : Nat} (hx : ExC X.K X.mg x fs C fI) (hI : FnOk X.prog X.w X.K X.mg X.base CX0 kI fI fd ps' (spIn C fs)) (hb : L2.Binds X.K fd ps' []) (hc : W.T.cl cn = some C) (hf : fts.map nmS = fs) (c : Bs X W k) (hk : kI + 1 ≤ k) (hg : Gl X x) (ha : JA X W false (e :: es) mA) (hl : fs.length ≤ 100 := by decide) (hdb : (x == Str.ofString "__debug__") = false := by rfl) (he : starEach (e :: es) X.env = (false, eval e X.env) :: starEach es X.env := by rfl) (hpl : (backTo pos (starEach es X.env)).any (·.1) = false := by rfl) :
    JS X W (.Raise (some (.Call (.Name x p) (e :: es) [] pos)) none p2) (mRaise cn fts mA) := by
  obtain ⟨Wx, tk, hE⟩ := c.tk
  obtain ⟨t, a1, a2⟩ := ha.h
  exact ⟨_, ps_rz c.calm tk hx hI hl (c.room.mono hk) hb hg a1 hdb he hpl, rs_raise (fun σ cls x H h => by rw [hE] at h; exact h) hc hf a2⟩
inductive JHs (X : Cx) (W : Wo) : List ExceptHandler → List Hm → Prop
  | nil : JHs X W [] []
  | no {x : Str} {h : Nat} {B : Addr} {b₀ : Stmt} {suite : List Stmt} {np pos' : Pos} {m : List (Nat × D) → MS} {hds : List ExceptHandler} {ms : List Hm} (hc : Names X x (.ref B)) (hB : W.T.cl h = some B) (hh : h ∈ W.T.hs)
      (k : ∀ (a A d : Addr) (oe : Obj) (pn : List (Addr × Obj)) (fs : List (Nat × D)) (c : Nat), W.T.cl c = some A → excSub c h = true → Zc (.ref A) (some d) oe → (∃ vs, oe.data = .fields vs) → Bd (X.suite a ((a, oe) :: pn)) W → JSs (X.suite a ((a, oe) :: pn)) W (b₀ :: suite) (m fs)) (r : JHs X W hds ms) :
      JHs X W (.ExceptHandler (some (.Name x np)) none (b₀ :: suite) pos' :: hds) (⟨h, none, m⟩ :: ms)
  | as {x n : Str} {h i : Nat} {B : Addr} {b₀ : Stmt} {suite : List Stmt} {np pos' : Pos} {m : List (Nat × D) → MS} {hds : List ExceptHandler} {ms : List Hm} (hc : Names X x (.ref B)) (hi : X.N[i]? = some n) (hln : X.env.kindOf n = some .local) (hB : W.T.cl h = some B) (hh : h ∈ W.T.hs) (hx : W.fx i = false)
      (k : ∀ (a A d : Addr) (oe : Obj) (pn : List (Addr × Obj)) (fs : List (Nat × D)) (c : Nat), W.T.cl c = some A → excSub c h = true → Zc (.ref A) (some d) oe → (∃ vs, oe.data = .fields vs) → Bd (X.suite a ((a, oe) :: pn)) (W.suite i a d c fs) → JSs (X.suite a ((a, oe) :: pn)) (W.suite i a d c fs) (b₀ :: suite) (m fs)) (r : JHs X W hds ms) :
      JHs X W (.ExceptHandler (some (.Name x np)) (some n) (b₀ :: suite) pos' :: hds) (⟨h, some i, m⟩ :: ms)
def tsOf (X : Cx) (suite : List Stmt) (a : Addr) (cls : Value) (d : Option Addr) : TS := fun D σ H => ∃ t : TS, (∀ oe pn, Zc cls d oe → (∃ vs, oe.data = .fields vs) → PSs (X.suite a ((a, oe) :: pn)) suite t) ∧ t D σ H
theorem tsOf_run {suite : List Stmt} {a : Addr} {cls : Value} {d : Option Addr} {oe : Obj} {pn : List (Addr × Obj)} (z : Zc cls d oe) (v : ∃ vs, oe.data = .fields vs) : PSs (X.suite a ((a, oe) :: pn)) suite (tsOf X suite a cls d) :=
  ⟨fun pins s σ H D I ⟨t, h, w⟩ => (h oe pn z v).run pins s σ H D I w⟩
theorem tsOf_rs {W' : Wo} {suite : List Stmt} {a A d : Addr} {m : MS} (h : ∀ oe pn, Zc (.ref A) (some d) oe → (∃ vs, oe.data = .fields vs) → JSs (X.suite a ((a, oe) :: pn)) W' suite m) : RfS W' (tsOf X suite a (.ref A) (some d)) m := fun env dd px p σ H0 H F O Xe D e => by
  let t : TS := fun D σ H => ∀ (oe : Obj) (pn : List (Addr × Obj)) (z : Zc (.ref A) (some d) oe) (v : ∃ vs, oe.data = .fields vs), (h oe pn z v).h.choose D σ H
  exact ⟨t, fun oe pn z v => ⟨fun pins s σ H D I w => (h oe pn z v).h.choose_spec.1.run pins s σ H D I (w oe pn z v)⟩, fun oe pn z v => (h oe pn z v).h.choose_spec.2 env dd px p σ H0 H F O Xe D e⟩
theorem JHs.out (b : Bd X W) {hds : List ExceptHandler} {ms : List Hm} (h : JHs X W hds ms) : ∃ l, HdsA X hds l ∧ Cls2 W l ms := by
  induction h with
  | nil => exact ⟨[], .nil, .nil⟩
  | @no x h B b₀ suite np pos' m hds ms hc hB hh k r ih =>
    obtain ⟨l, l1, l2⟩ := ih
    exact ⟨(.ref B, none, tsOf X (b₀ :: suite)) :: l, .no hc (fun a oe cls d pn z v => tsOf_run z v) l1, .no hB hh (fun a d A fs c h1 h2 => tsOf_rs fun oe pn z v => k a A d oe pn fs c h1 h2 z v (b.suite a _)) l2⟩
  | @as x n h i B b₀ suite np pos' m hds ms hc hi hln hB hh hx k r ih =>
    obtain ⟨l, l1, l2⟩ := ih
    exact ⟨(.ref B, some i, tsOf X (b₀ :: suite)) :: l, .as hc hi hln (fun a oe cls d pn z v => tsOf_run z v) l1, .as hB hh hx (fun a d A fs c h1 h2 => tsOf_rs fun oe pn z v => k a A d oe pn fs c h1 h2 z v (b.suiteN a _ i d c fs)) l2⟩
theorem js_try {body : List Stmt} {h₀ : ExceptHandler} {hds : List ExceptHandler} {mb : MS} {ms : List Hm} (c : Bs X W k)
    (hb : ∀ (Wx : WX) (pn : List (Addr × Obj)) (xe : Value → Shared → Prop), Bs (X.tr pn xe) { W with E := fun σ cls x H => Wx cls x σ H } k → JSs (X.tr pn xe) { W with E := fun σ cls x H => Wx cls x σ H } body mb) (hh : JHs X W (h₀ :: hds) ms) :
    JS X W (.Try body (h₀ :: hds) [] [] pos) (mTry mb ms) := by
  obtain ⟨Wo, tk, hE⟩ := c.tk
  obtain ⟨l, l1, l2⟩ := hh.out c.toBd
  let tb : WX → TS := fun Wx D σ H => ∀ (pn : List (Addr × Obj)) (xe : Value → Shared → Prop) (b : Bs (X.tr pn xe) { W with E := fun σ cls x H => Wx cls x σ H } k), (hb Wx pn xe b).h.choose D σ H
  refine ⟨_, ps_tryM (tb := tb) Wo c.stk c.fr c.nd tk (fun Wx pn xe t po => ?_) l1, rs_try c.K c.cur (fun σ cls x H h => by rw [hE] at h; exact h) (fun Wx => ?_) l2⟩
  · exact ⟨fun pins s σ H D I w => (hb Wx pn xe (c.tr t po)).h.choose_spec.1.run pins s σ H D I (w pn xe (c.tr t po))⟩
  · exact fun env d px p σ H0 H F O Xe D e pn xe b => (hb Wx pn xe b).h.choose_spec.2 env d px p σ H0 H F O Xe D e
theorem je_xf {i ff c : Nat} {aa d Ca : Addr} {oe : Obj} {pn : List (Addr × Obj)} {fs : List (Nat × D)} {s y : Str} (hs : nmS ff = s) (hx : XfC X.K Ca) (hn : PySem.W.findIn X.K (.ref Ca) s = some none) (z : Zc (.ref Ca) (some d) oe) (v : ∃ vs, oe.data = .fields vs) (hN : X.N[i]? = some y := by rfl) (hvis : Vis X.env.scope y := by first | exact .inl rfl | exact .inr rfl) (h1 : (y == Str.ofString "__debug__") = false := by rfl) (h2 : (y == Str.ofString "__classdict__") = false := by rfl) (hb : attributeBase (.Name y p) s X.env (eval (.Name y p) X.env) = eval (.Name y p) X.env := by rfl) :
    JE (X.suite aa ((aa, oe) :: pn)) (W.suite i aa d c fs) pu (.Attribute (.Name y p) s pos) (mXf ff fs) :=
  ⟨_, pe_xf hx hn z v (pv (X := X.suite aa ((aa, oe) :: pn)) i hN hvis h1 h2) hb, rf_xf hs⟩
theorem je_var (i : Nat) (hN : X.N[i]? = some x := by rfl) (hvis : Vis X.env.scope x := by first | exact .inl rfl | exact .inr (.inl rfl) | exact .inr (.inr rfl) | exact .inr rfl) (h1 : (x == Str.ofString "__debug__") = false := by rfl) (h2 : (x == Str.ofString "__classdict__") = false := by rfl) : JE X W pu (.Name x pos) (mVar i) := ⟨_, pv i hN hvis h1 h2, rf_var⟩
theorem je_int {i : Int} {j : Nat} : JE X W pu (.Constant (.int i) j pos) (mC (.int i)) := ⟨_, pe_int, rf_c fun _ => .int i⟩
theorem je_str {s : Str} {j : Nat} : JE X W pu (.Constant (.str s) j pos) (mC (.str s)) := ⟨_, pe_str, rf_c fun _ => .str s⟩
theorem je_bl {i : Bool} {j : Nat} : JE X W pu (.Constant (.bool i) j pos) (mC (.bl i)) := ⟨_, pe_bl, rf_c fun _ => .bl i⟩
theorem je_non {j : Nat} : JE X W pu (.Constant .none j pos) (mC .non) := ⟨_, pe_non, rf_c fun _ => .non⟩
theorem je_ty {n : String} (hm : X.mg x = none) (hg : Gl X x) (hv : bootBuiltins x = some (.type n)) (h1 : x ≠ Str.ofString "__name__" := by decide) (h2 : (x == Str.ofString "__debug__") = false := by rfl) : JE X W pu (.Name x pos) (mC (.ty n)) := ⟨_, pe_bltn (v := .ty n) hg hm hv rfl h1 h2, rf_c fun _ => .ty n⟩
end
end M
set_option Elab.async false
set_option linter.all false
set_option maxRecDepth 100000
set_option maxHeartbeats 1000000
namespace M
open PySem PySem.Spec PyProof.Rows L2 MR RZ
def mInA (neg : Bool) (a b : ME) : ME := mTwo false a b fun y x e => if isDic (vw e x) = true then (match dgO x y e with
  | some (o, _) => .ok (.dat (.bl (if neg = true then !o.isSome else o.isSome))) e
  | none => .bad) else op2 (oIn neg) y x e
def mStrM (o : Str → List D → Option R) (a : ME) (b : MA) : ME := fun env => (a env).bind fun x e1 => match x with
  | .dat (.str s) => (b e1).bind fun rs e2 => cbO (o s) rs e2
  | _ => .bad
def strsOf : List D → Option (List Str)
  | [] => some []
  | .str s :: ds => (strsOf ds).map (s :: ·)
  | _ => none
def sJoin : Str → List D → Option R := fun s ds => match ds with
  | [d] => match (rowOf d).bind strsOf with
    | some ys => if (ys.map (·.length)).sum + ys.length * s.length ≤ 16777216 then some (.dat (.str (Txt.join s ys))) else none
    | none => none
  | _ => none
def mRevT (a : ME) : ME := fun env => (a env).bind fun x e1 => match snapR x e1 with
  | some (.tup ds) => .ok (.dat (.tup ds.reverse)) e1
  | _ => .bad
section
variable {X : Cx} {W : Wo} {k kk n : Nat} {pu pb : Bool} {a b e : Expr} {es : List Expr} {ma mb me : ME} {mA : MA} {pos pos' p p2 : Pos} {x : Str}
variable {env0 env env' env2 : M.Env} {σ σ' σ2 : L2.St} {H0 H H0' H' A0 A B B' : Hp} {F FA F' F2 : List Addr} {v : V} {r : R} {d : D} {Z : Addr → Prop} {T : Tb}
theorem op_is2 {o : D → D → Option R} (ma mb : ME) : mOp o ma mb = mTwo false ma mb fun x y e => op2 o x y e := rfl
theorem rf_inA {r : R2} {ta tb : TE} {neg : Bool} (hr : RdO W.T r (oIn neg)) {td : TE} (hd : RfE W pu td (mIn neg ma mb)) (ha : RfE W pu ta ma) (hb : RfE W pu tb mb) : RfE W pu (fun σ H Q => tOp r ta tb σ H Q ∨ td σ H Q) (mInA neg ma mb) :=
  rf_orE (rf_op hr ha hb) hd fun env => by
    rw [op_is2]
    exact mTwo_or (fun y x e => by
      by_cases h : isDic (vw e x) = true
      · exact .inr (if_pos h)
      · exact .inl (if_neg h)) env
theorem je_ixB (g : Bool) (c : Bd X W) (ha : JE X W pu a ma) (hb : JE X W pb b mb) (hs : PlainIx b := by exact fun _ _ => rfl) (hs2 : NoSl b := by exact fun _ _ => rfl) (h1 : pu = true → pb = true := by intro h; first | exact h | rfl) (hg : g = true → pb = true := by intro h; first | exact h | rfl) : JE X W pu (.Subscript a b pos) (mIx g ma mb) := by
  obtain ⟨ta, a1, a2⟩ := ha.h
  obtain ⟨tb, b1, b2⟩ := hb.h
  exact ⟨_, PE.or (pe_ix ix_seq a1 b1 hs) (MN.pe_nget (by have := c.un; omega) a1 b1 hs2), rf_ix c.K c.P c.w a2 b2 h1 hg⟩
theorem je_notin (c : Bd X W) (ha : JE X W pu a ma) (hb : JE X W pu b mb) (hm : behindInMarks .NotIn b = false := by with_unfolding_all rfl) : JE X W pu (.Compare a [.NotIn] [b] pos) (mInA true ma mb) := by
  obtain ⟨ta, a1, a2⟩ := ha.h
  obtain ⟨tb, b1, b2⟩ := hb.h
  exact ⟨_, PE.or (pe_cmpR (op_notIn2 (by have := c.un; omega)) a1 b1 hm) (pe_cmp (MN.pc_nnotin (by have := c.un; omega) a1 b1) hm), rf_inA (rd_in c.K) (rf_dnotin c.P c.w a2 b2) a2 b2⟩
theorem jo_ltB (c : Bd X W) : JO X W (compareOp .Lt) oLt := ⟨_, OpR.or op_lt (op_ltD (by have := c.un; omega)), rd_lt c.K⟩
theorem jo_eqB (c : Bd X W) : JO X W (compareOp .Eq) oEq := ⟨_, OpR.or (op_eqD (by have := c.un; omega)) op_eq, rd_eq c.K⟩
theorem jo_neB (c : Bd X W) : JO X W (compareOp .NotEq) oNe := ⟨_, OpR.or (op_neD (by have := c.un; omega)) op_ne, rd_ne c.K⟩
theorem jc_reprB (c : Bd X W) : JC X W (.builtin "repr") (one bRepr) := ⟨_, call_reprU c.hG c.un, rd_repr⟩
theorem rf_strM {K : PySem.W.Frag} {rd : V → List V → Hp → VK → Prop} {o : Str → List D → Option R} (hr : ∀ s, RdC W.T (rd (.str s)) (o s)) {to : TE} {ta : TA} {mo : ME} {ma : MA} (ho : RfE W pu to mo) (ha : RfA W pu ta ma) : RfE W pu (tBM K "str" rd to ta) (mStrM o mo ma) := fun env P px p σ H0 H F O X Q q => by
  unfold mStrM at p
  rw [Out.wp_bind] at p
  refine ho env _ px p σ H0 H F O X _ fun v x env1 A0 A FA p1 S w => ?_
  split at p1
  · rename_i s
    have w : Dd W.T A0 v (.str s) := w
    cases w
    refine ⟨rfl, ?_⟩
    rw [Out.wp_bind] at p1
    refine ha env1 _ px p1 σ A0 A FA S.ok (X.chg S.chg) _ fun us rs env2 B0 B FB p2 S2 ws => ?_
    unfold cbO at p2
    split at p2
    · rename_i ds e
      cases z : o s ds with
      | none => rw [z] at p2; cases p2
      | some res =>
        rw [z] at p2
        exact hr s B0 B us ds res S2.ok.sm (ws.snaps S2.ok e) z Q fun u C0 C g n => q u res env2 C0 C FB p2 ((S.trans S2).gr g) (n.val S2.ok g fun a z => .inl ((S.trans S2).back z))
    · cases p2
  · cases p1
theorem strs_eq : ∀ {ds : List D} {ys : List Str}, strsOf ds = some ys → ds = ys.map D.str
  | [], _, h => by simp [strsOf] at h; subst h; rfl
  | .str b :: ds, _, h => by
    simp only [strsOf, Option.map_eq_some_iff] at h
    obtain ⟨r, h1, rfl⟩ := h
    rw [strs_eq h1]; rfl
  | .non :: _, _, h => by cases h
  | .bl _ :: _, _, h => by cases h
  | .int _ :: _, _, h => by cases h
  | .tup _ :: _, _, h => by cases h
  | .lst _ :: _, _, h => by cases h
  | .src _ :: _, _, h => by cases h
  | .dic _ _ :: _, _, h => by cases h
  | .ins _ _ :: _, _, h => by cases h
  | .ty _ :: _, _, h => by cases h
  | .cls _ :: _, _, h => by cases h
  | .fn _ :: _, _, h => by cases h
theorem DdAll.strs2 : ∀ {ys : List Str} {vs : List V}, DdAll T H vs (ys.map D.str) → vs = ys.map V.str
  | [], _, .nil => rfl
  | y :: ys, _, .cons (.str _) t => by rw [DdAll.strs2 t]; rfl
def rJoin (K : PySem.W.Frag) : V → List V → Hp → VK → Prop := fun x xs H Q => ∃ a p, ∃ ys : List Str, x = .str a ∧ xs = [.ref p] ∧ (SqL K H p (ys.map V.str) ∨ SqT K H p (ys.map V.str)) ∧ (ys.map (·.length)).sum + ys.length * a.length ≤ 16777216 ∧ Q (.str (Txt.join a ys)) H
theorem rd_join (hK : T.K = X.K) (s : Str) : RdC T (rJoin X.K (.str s)) (sJoin s) := fun H0 H xs ds res sm h o Q q => by
  obtain ⟨d, rfl⟩ : ∃ d, ds = [d] := by
    unfold sJoin at o
    split at o
    · exact ⟨_, rfl⟩
    · cases o
  obtain ⟨x, d', rfl, e, hx, _⟩ := h.one (f := fun d => sJoin s [d]) (res := res) o
  injection e with e _
  subst e
  simp only [sJoin] at o
  split at o
  · rename_i ys e
    rw [Option.bind_eq_some_iff] at e
    obtain ⟨row, e1, e2⟩ := e
    split at o
    · rename_i hl
      injection o with o
      subst o
      obtain ⟨a, vs, rfl, h1, h2⟩ := hx.row sm e1
      rw [strs_eq e2] at h2
      have := h2.strs2
      subst this
      rw [hK] at h1
      exact ⟨s, a, ys, rfl, rfl, h1, hl, q _ _ _ (.refl sm) (.str _)⟩
    · cases o
  · cases o
theorem je_join {apos cpos : Pos} (c : Bd X W) (ha : JE X W pu a ma) (hb : JA X W pu (e :: es) mA)
    (hbase : attributeBase a (Str.ofString "join") X.env (eval a X.env) = eval a X.env := by rfl) (hfew : ((backTo cpos (starEach (e :: es) X.env)).all (fun x => !x.1) && (backToKw cpos (keywordEach [] X.env)).all (fun x => x.1.isSome) && decide ((e :: es).length + ([] : List Keyword).length + (if ([] : List Keyword).isEmpty then 0 else 1) < 30)) = true := by rfl) (hline : (apos.endLine == cpos.line) = true := by rfl) (hs : starEach (e :: es) X.env = (false, eval e X.env) :: starEach es X.env := by rfl) (hplain : (backTo cpos (starEach es X.env)).any (·.1) = false := by rfl) :
    JE X W pu (.Call (.Attribute a (Str.ofString "join") apos) (e :: es) [] cpos) (mStrM sJoin ma mA) := by
  obtain ⟨ta, a1, a2⟩ := ha.h
  obtain ⟨tb, b1, b2⟩ := hb.h
  exact ⟨_, pe_bm PySem.F.plainAttrs_str PySem.F.slot_str_join PySem.F.type_str_join (r := rJoin X.K) mt_join a1 b1 hbase hfew hline hs hplain, rf_strM (fun s => rd_join c.K s) a2 b2⟩
theorem rf_revT {K : PySem.W.Frag} (hK : W.T.K = K) {ta : TE} (ha : RfE W pu ta ma) : RfE W pu (tRevT K ta) (mRevT ma) := fun env P px p σ H0 H F O X Q q => by
  unfold mRevT at p
  rw [Out.wp_bind] at p
  refine ha env _ px p σ H0 H F O X _ fun v x env1 A0 A FA p1 S w => ?_
  split at p1
  · rename_i ds e
    obtain ⟨a, vs, rfl, h1, h2, _⟩ := (w.snap S.ok e).tup_inv S.ok.sm
    refine ⟨a, vs, rfl, SqT.of h1, fun p hp => ?_⟩
    have g := Gr.data S.ok.sm hp (.tup vs.reverse)
    exact q _ (.dat (.tup ds.reverse)) env1 _ _ FA p1 (S.gr g) (laid_tup S.ok.sm hp h2.reverse)
  · cases p1
theorem je_revT {kz : Nat} {p1 p2 p3 : Pos} (c : Bd X W) (ha : JE X W pu a ma) : JE X W pu (.Subscript a (.Slice none none (some (.UnaryOp .USub (.Constant (.int 1) kz p1) p2)) p3) pos) (mRevT ma) := by
  obtain ⟨ta, a1, a2⟩ := ha.h
  exact ⟨_, pe_revT a1, rf_revT c.K a2⟩
end
end M
set_option Elab.async false
set_option linter.all false
set_option maxRecDepth 100000
set_option maxHeartbeats 1000000
namespace M
open PySem PySem.Spec PyProof.Rows L2 MR RZ
def spAll (K : PySem.W.Frag) : Sp := fun vs H Q _ => ∃ (a : Addr) (ns : List Int), vs = [.ref a] ∧ SqL K H a (ns.map V.int) ∧ ns.length ≤ 63 ∧ ∀ H', Q (.bl true) H'
section
variable {P : Program} {w : World} {K : PySem.W.Frag} {mg mb : Str → Option Value} {k : Nat} {fa a : Addr} {fd : FuncData} {x : Str} {s₁ : Shared} {vs : List Value} {ns : List Int}
theorem head_at {H : Hp} {CX : CXT} {sp : Sp} (hns : s₁.heap.Ns mainGlobals mg) (KX : K.In s₁.heap) (hb : s₁.heap.Ns builtinsNs mb) (hbb : ∀ x : Str, x ≠ "__name__" → mb x = bootBuiltins x) (lim : s₁.heap.NoLimit) (hg : s₁.gens = #[])
    (ha : s₁.heap.get? a = some { cls := .type "list", data := .seq vs.toArray }) (hr : Room k callerA) (F : ∀ base : Heap, K.In base → base.Ns mainGlobals mg → FnG P w K mg base CX k fa fd [x] sp)
    (bind : ∀ (s : Shared) (u : Value), BindsTo s fd ⟨[u], []⟩ [(x, u)]) (only : Only H) (ok : HOk P w H s₁.heap) (at_ : ∀ b, H b ≠ none → b = a) (hK : H a ≠ none → K.lookup a = none)
    (want : sp [.ref a] H (fun v _ => v = .bl true) fun _ _ _ => False) (hCX : ∀ e s', CX [] H s₁ (fun _ _ _ => False) e s' → False) :
    codeAny (model P w) callerA (.call (.ref fa) ⟨[.ref a], []⟩) (fun r s' => r = .ok (.ret (.bool true)) ∧ OldK s₁.heap s'.heap ∧ s'.os = s₁.os ∧ AllBare s'.gens) s₁ := by
  -- what is tracked is hidden from the base
  have free : ∀ {b : Addr} {o : Obj}, s₁.heap.get? b = some o → (∀ es ep, o.data = .dict es ep → H b = none) := fun {b o} e es ep d => by
    apply Classical.byContradiction
    intro z
    have := at_ b z
    subst this
    rw [ha] at e
    cases e
    cases d
  have keepNs : ∀ {b : Addr} {m : Str → Option Value}, s₁.heap.Ns b m → (hidT s₁.heap H).Ns b m := by
    rintro b m ⟨o, es, ep, e, d, r⟩
    exact ⟨o, es, ep, hidT_get e (free e es ep d), d, r⟩
  have inK : K.In (hidT s₁.heap H) := fun b o e => hidT_get (KX b o e) (Classical.byContradiction fun z => by
    have q := at_ b z
    subst q
    rw [hK z] at e
    cases e)
  obtain ⟨mc, l1, l2⟩ := lim
  have M : Mod K mg (hidT s₁.heap H) := ⟨inK, keepNs hns, ⟨mb, keepNs hb, hbb⟩, ⟨mc, keepNs l1, l2⟩⟩
  have env : Env0 P w K mg (hidT s₁.heap H) callerA [] s₁ H := { frames := rfl, mod := M, bs := fun b o e => of_hidT e, bsz := Nat.le_of_eq (hidT_size _ _), funs := trivial, frf := fun b z => absurd z List.not_mem_nil, hok := ok, bare := .of_eq hg }
  have run := (F _ inK (keepNs hns)).run callerA [] s₁ H ⟨[.ref a], []⟩ [.ref a] [.ref a] _ _ rfl hr env (bind s₁ (.ref a)) (.cons rfl .nil) want
  refine codeAny_mono run fun r s' h => ?_
  match r, h with
  | .error e, h => exact (hCX e s' h).elim
  | .ok (.ret u), h =>
    obtain ⟨v, H', os, bare, un, ok2, rv, q⟩ := h
    cases (show v = .bl true from q)
    cases (show u = Value.bool true from rv)
    refine ⟨rfl, OldK.of_keep fun b o e => ?_, os, bare⟩
    rcases only b with z | ⟨ob, xs, z⟩
    · exact un.keep b o e z List.not_mem_nil List.not_mem_nil
    · have e1 := (ok b _ z).1
      have e2 := (ok2 b _ (un.frzs b ob _ z)).1
      rw [e1] at e
      cases e
      exact e2
theorem head_call {CX : CXT} {sp : Sp} (KX : K.In s₁.heap) (hns : s₁.heap.Ns mainGlobals mg) (hb : s₁.heap.Ns builtinsNs mb) (hbb : ∀ x : Str, x ≠ "__name__" → mb x = bootBuiltins x) (lim : s₁.heap.NoLimit) (hg : s₁.gens = #[])
    (ha : s₁.heap.get? a = some { cls := .type "list", data := .seq vs.toArray }) (hi : IntsAre vs ns) (hl : ns.length ≤ sizeLine) (hr : Room k callerA) (F : ∀ base : Heap, K.In base → base.Ns mainGlobals mg → FnG P w K mg base CX k fa fd [x] sp)
    (bind : ∀ (s : Shared) (u : Value), BindsTo s fd ⟨[u], []⟩ [(x, u)]) (want : ∀ H : Hp, Only H → SqL K H a (ns.map V.int) → sp [.ref a] H (fun v _ => v = .bl true) fun _ _ _ => False) (hCX : ∀ H e s', CX [] H s₁ (fun _ _ _ => False) e s' → False) :
    codeAny (model P w) callerA (.call (.ref fa) ⟨[.ref a], []⟩) (fun r s' => r = .ok (.ret (.bool true)) ∧ OldK s₁.heap s'.heap ∧ s'.os = s₁.os ∧ AllBare s'.gens) s₁ := by
  have rv := vals_ints hi
  have lv := hi.length
  by_cases hk : K.lookup a = none
  · have at_ : ∀ b : Addr, (fun b => if b = a then some (HO.frz { cls := .type "list", data := .seq vs.toArray } (.lst (ns.map V.int))) else none) b ≠ none → b = a := fun b z => Classical.byContradiction fun q => z (if_neg q)
    refine head_at (H := fun b => if b = a then some (.frz { cls := .type "list", data := .seq vs.toArray } (.lst (ns.map V.int))) else none) hns KX hb hbb lim hg ha hr F bind (fun b => ?_) (fun b u z => ?_) at_ (fun _ => hk) (want _ (fun b => ?_) (.inl (.inr ⟨_, if_pos rfl⟩))) (hCX _)
    · by_cases q : b = a
      · exact .inr ⟨_, _, if_pos q⟩
      · exact .inl (if_neg q)
    · have q : b = a := at_ b fun y => by rw [y] at z; cases z
      subst q
      have z' := (if_pos rfl).symm.trans z
      cases z'
      exact ⟨ha, by rw [List.length_map]; exact hl, vs, _, rv, ha⟩
    · by_cases q : b = a
      · exact .inr ⟨_, _, if_pos q⟩
      · exact .inl (if_neg q)
  · cases e : K.lookup a with
    | none => exact absurd e hk
    | some o =>
      have e2 := KX a o e
      rw [ha] at e2
      cases e2
      refine head_at (H := fun _ => none) hns KX hb hbb lim hg ha hr F bind (fun _ => .inl rfl) (fun b u z => by cases (show (none : Option HO) = some u from z)) (fun b z => absurd rfl z) (fun z => absurd rfl z)
        (want _ (fun _ => .inl rfl) (.inr ⟨_, vs.toArray, _, e, rfl, rfl, rfl, ?_, ?_⟩)) (hCX _)
      · rw [List.size_toArray, lv]
        exact hl
      · simpa using rv
end
theorem walkG {l : PySem.W.OpenLaw} {n k : Nat} {q : Program} {loose : List Str} {XP : (Str → Option Value) → Heap → Prop} {YP : World → Heap → Prop} {d : DefRec} {K : Params → PySem.W.Frag} {CX : World → CXT} {sp : World → Sp} {x : Str}
    (hn : l.most = some n) (hn2 : n ≤ sizeLine) (hdf : d.params.defaults = []) (hr : Room k callerA) (hY : ∀ (w : World) (h : Heap), YP w h → (K w.params).In h)
    (F : ∀ (w : World) (mg : Str → Option Value) (fa : Addr) (h : Heap), (K w.params).In h → h.Ns mainGlobals mg → mg d.name = some (.ref fa) →
      ∃ fd : FuncData, (∀ (s : Shared) (u : Value), BindsTo s fd ⟨[u], []⟩ [(x, u)]) ∧ ∀ base : Heap, (K w.params).In base → base.Ns mainGlobals mg → FnG l.prog w (K w.params) mg base (CX w) k fa fd [x] (sp w))
    (want : ∀ (w : World) (H : Hp) (a : Addr) (ns : List Int), ns.length ≤ n → Only H → SqL (K w.params) H a (ns.map V.int) → sp w [.ref a] H (fun v _ => v = .bl true) fun _ _ _ => False)
    (hCX : ∀ (w : World) (H : Hp) (s : Shared) (e : Value) (s' : Shared), CX w [] H s (fun _ _ _ => False) e s' → False) : PySem.W.WalkO q loose XP YP l.row.toRowW d [] (fun f vs => PySem.call f vs) := by
  refine Att.attach_call hn hdf fun w s₀ s₁ mg mb fa o pm cd doc a vs ns G Y ho hd hcd hmg hobj hints hlen hg => ?_
  obtain ⟨fd, hb, hF⟩ := F w mg fa _ (hY w _ Y) G.T.g hmg
  exact head_call (hY w _ Y) G.T.g G.T.b G.T.builtins G.T.nolimit hg hobj hints (Nat.le_trans hlen hn2) hr hF hb (fun H hO hS => want w H a ns hlen hO hS) fun H e s' => hCX w H s₁ e s'
/-- the table of a text's classes -/
theorem lookup_mem {α : Type} {l : List (Nat × α)} {c : Nat} {A : α} (h : l.lookup c = some A) : (c, A) ∈ l := by
  induction l with
  | nil => cases h
  | cons p l ih =>
    obtain ⟨k, x⟩ := p
    rw [List.lookup_cons] at h
    split at h
    · rename_i e
      injection h with h
      subst h
      have := eq_of_beq e
      subst this
      exact List.mem_cons_self
    · exact List.mem_cons_of_mem _ (ih h)
theorem lookup_inj {l : List (Nat × Addr)} (n : (l.map (·.2)).Nodup) (a b : Nat) (A : Addr) (h : l.lookup a = some A) (k : l.lookup b = some A) : a = b := by
  replace h := lookup_mem h
  replace k := lookup_mem k
  induction l with
  | nil => cases h
  | cons p l ih =>
    rw [List.map_cons, List.nodup_cons] at n
    rcases List.mem_cons.mp h with h1 | h1
    · rcases List.mem_cons.mp k with k1 | k1
      · rw [← h1] at k1
        exact (Prod.mk.inj k1).1.symm
      · rw [← h1] at n
        exact absurd (List.mem_map_of_mem (f := (·.2)) k1) n.1
    · rcases List.mem_cons.mp k with k1 | k1
      · rw [← k1] at n
        exact absurd (List.mem_map_of_mem (f := (·.2)) h1) n.1
      · exact ih n.2 h1 k1
def mkTb (P : Program) (w : World) (K : PySem.W.Frag) (l fl : List (Nat × Addr)) (hs : List Nat) (n : (l.map (·.2)).Nodup) (ex : ∀ p ∈ l, ∀ q ∈ l, excTag p.1 = true → q.1 ∈ hs → PySem.W.exmOne K (.ref p.2) (.ref q.2) = some (excSub p.1 q.1)) (fo : ∀ p ∈ l, ∀ f, fldOk p.1 f = true → Cls K p.2 ∧ NoAttr K p.2 (nmS f)) : Tb where
  K := K
  P := P
  w := w
  cl c := l.lookup c
  fn c := fl.lookup c
  cinj := lookup_inj n
  hs := hs
  ex c h A B e1 e2 t m := ex _ (lookup_mem e1) _ (lookup_mem e2) t m
  fo c A f e t := fo _ (lookup_mem e) f t
theorem ints_all {T : Tb} {H : Hp} : ∀ ns : List Int, DdAll T H (ns.map V.int) (ns.map D.int)
  | [] => .nil
  | n :: ns => .cons (.int n) (ints_all ns)
theorem je_xf2 {X : Cx} {W : Wo} {pu : Bool} {i f c h : Nat} {aa d A B : Addr} {oe : Obj} {pn : List (Addr × Obj)} {fs : List (Nat × D)} {s y : Str} {p pos : Pos} (hs : nmS f = s) (hB : W.T.cl h = some B) (hA : W.T.cl c = some A) (he : excSub c h = true) (h2 : h ≠ 2) (hx : XfC X.K B) (hn : PySem.W.findIn X.K (.ref B) s = some none) (z : Zc (.ref A) (some d) oe) (v : ∃ vs, oe.data = .fields vs) (hN : X.N[i]? = some y := by rfl) (hvis : Vis X.env.scope y := by first | exact .inl rfl | exact .inr rfl) (h1 : (y == Str.ofString "__debug__") = false := by rfl) (h3 : (y == Str.ofString "__classdict__") = false := by rfl) (hb : attributeBase (.Name y p) s X.env (eval (.Name y p) X.env) = eval (.Name y p) X.env := by rfl) :
    JE (X.suite aa ((aa, oe) :: pn)) (W.suite i aa d c fs) pu (.Attribute (.Name y p) s pos) (mXf f fs) := by
  have e : c = h := by simpa [excSub, h2] using he
  subst e
  rw [hB] at hA
  injection hA with hA
  subst hA
  exact je_xf hs hx hn z v hN hvis h1 h3 hb
/-- the law's own def -/
theorem law_end {K : PySem.W.Frag} {T : Tb} {F : List C → Out R} (hK : T.K = K) {a : Addr} {ns : List Int} {H : Hp} {Q : VK} {E : XK} (hS : SqL K H a (ns.map V.int)) (hF : ∃ cs : M.Env, F [.dat (.src (ns.map D.int))] = Out.ok (R.dat (.bl true)) cs) (q : ∀ H', Q (.bl true) H') : SPm T 1 F [.ref a] H Q E := by
  subst hK
  obtain ⟨cs, e⟩ := hF
  refine ⟨rfl, [.dat (.src (ns.map D.int))], H, [], rfl, .dats (.cons (.src hS (ints_all ns)) .nil), .nil, fun a z => (by cases z), .refl H, ?_⟩
  rw [e]
  intro v H0' H' F' _ _ w
  have w : Dd T H0' v (.bl true) := w
  cases w
  exact q H'
end M
set_option Elab.async false
set_option linter.all false
set_option maxRecDepth 100000
set_option maxHeartbeats 1000000
namespace M
open PySem PySem.Spec PyProof.Rows L2 MR
mutual
/-- plain, of depth at most k, whole numbers of at most 30 digits -/
def D.okk (k : Nat) : D → Bool
  | .non => true | .bl _ => true
  | .int i => decide (i.natAbs < 10 ^ 30)
  | .str s => s.cps.all (· < 0x110000)
  | .tup ds => match k with | 0 => false | k + 1 => D.okks k ds
  | .lst ds => match k with | 0 => false | k + 1 => D.okks k ds
  | .src _ => false | .dic _ _ => false | .ndc _ => false | .ins _ _ => false | .ty _ => false | .cls _ => false | .fn _ => false
def D.okks (k : Nat) : List D → Bool
  | [] => true
  | d :: ds => D.okk k d && D.okks k ds
end
mutual
def D.wt : D → Nat
  | .int _ => 100
  | .str s => s.cps.size
  | .tup ds => D.wts ds
  | .lst ds => D.wts ds
  | _ => 0
def D.wts : List D → Nat
  | [] => 0
  | d :: ds => D.wt d + 1 + D.wts ds
end
mutual
theorem okk_pln : ∀ {k : Nat} (d : D), d.okk k = true → d.pln = true
  | _, .non, _ => by simp [D.pln]
  | _, .bl _, _ => by simp [D.pln]
  | _, .int _, _ => by simp [D.pln]
  | _, .str _, _ => by simp [D.pln]
  | 0, .tup ds, h => by simp [D.okk] at h
  | k + 1, .tup ds, h => by
    simp only [D.okk] at h
    simp only [D.pln]
    exact okks_plns ds h
  | 0, .lst ds, h => by simp [D.okk] at h
  | k + 1, .lst ds, h => by
    simp only [D.okk] at h
    simp only [D.pln]
    exact okks_plns ds h
  | _, .src _, h => by simp [D.okk] at h
  | _, .dic _ _, h => by simp [D.okk] at h
  | _, .ndc _, h => by simp [D.okk] at h
  | _, .ins _ _, h => by simp [D.okk] at h
  | _, .ty _, h => by simp [D.okk] at h
  | _, .cls _, h => by simp [D.okk] at h
  | _, .fn _, h => by simp [D.okk] at h
theorem okks_plns : ∀ {k : Nat} (ds : List D), D.okks k ds = true → D.plns ds = true
  | _, [], _ => by simp [D.plns]
  | _, d :: ds, h => by
    simp only [D.okks, Bool.and_eq_true] at h
    simp only [D.plns, Bool.and_eq_true]
    exact ⟨okk_pln d h.1, okks_plns ds h.2⟩
end
theorem log_lt {i : Int} (h : i.natAbs < 10 ^ 30) : i.natAbs.log2 < 100 := by
  by_cases z : i.natAbs = 0
  · rw [z]; decide
  · rw [Nat.log2_lt z]
    exact Nat.lt_of_lt_of_le h (by decide)
mutual
theorem okk_py : ∀ {k : Nat} (d : D), d.okk k = true → d.py.canLay0 = true ∧ d.py.showable = true ∧ d.py.leavesShort 31 = true ∧ d.py.depth ≤ k ∧ d.py.weight ≤ d.wt
  | _, .non, _ => by simp [D.py, PyData.canLay0, PyData.showable, PyData.leavesShort, PyData.depth, PyData.weight]
  | _, .bl _, _ => by simp [D.py, PyData.canLay0, PyData.showable, PyData.leavesShort, PyData.depth, PyData.weight]
  | _, .int i, h => by
    simp only [D.okk, decide_eq_true_eq] at h
    have h1 := log_lt h
    have h2 := int_text_length_le10 (a := i) (k := 30) (by decide) h
    refine ⟨by simp [D.py, PyData.canLay0], ?_, ?_, by simp [D.py, PyData.depth], ?_⟩
    · simp only [D.py, PyData.showable, decide_eq_true_eq]; omega
    · simp only [D.py, PyData.leavesShort, PyData.shown]
      refine decide_eq_true ?_
      show (Str.ofString (toString i)).length ≤ 31
      rw [PySem.ofString_length]
      omega
    · simp only [D.py, PyData.weight, D.wt]
      split <;> omega
  | _, .str s, h => by
    simp only [D.okk] at h
    have c : (PyData.str s).canLay0 = true := by
      simp only [PyData.canLay0]
      exact h
    have z := PyData.leavesShort_of_canLay0 31 (.str s) c (by simp [PyData.intsShort])
    simp only [D.py, D.wt]
    exact ⟨c, by simp [PyData.showable], z, by simp [PyData.depth], by simp [PyData.weight]⟩
  | 0, .tup ds, h => by simp [D.okk] at h
  | k + 1, .tup ds, h => by
    simp only [D.okk] at h
    obtain ⟨h1, h2, h3, h4, h5⟩ := okks_py ds h
    simp only [D.py, PyData.canLay0, PyData.showable, PyData.leavesShort, PyData.depth, PyData.weight, D.wt]
    exact ⟨h1, h2, h3, by omega, h5⟩
  | 0, .lst ds, h => by simp [D.okk] at h
  | k + 1, .lst ds, h => by
    simp only [D.okk] at h
    obtain ⟨h1, h2, h3, h4, h5⟩ := okks_py ds h
    simp only [D.py, PyData.canLay0, PyData.showable, PyData.leavesShort, PyData.depth, PyData.weight, D.wt]
    exact ⟨h1, h2, h3, by omega, h5⟩
  | _, .src _, h => by simp [D.okk] at h
  | _, .dic _ _, h => by simp [D.okk] at h
  | _, .ndc _, h => by simp [D.okk] at h
  | _, .ins _ _, h => by simp [D.okk] at h
  | _, .ty _, h => by simp [D.okk] at h
  | _, .cls _, h => by simp [D.okk] at h
  | _, .fn _, h => by simp [D.okk] at h
theorem okks_py : ∀ {k : Nat} (ds : List D), D.okks k ds = true → PyData.canLayAll0 (D.pys ds) = true ∧ PyData.showableAll (D.pys ds) = true ∧ PyData.leavesShortAll 31 (D.pys ds) = true ∧ PyData.depthAll (D.pys ds) ≤ k ∧ PyData.weightAll (D.pys ds) ≤ D.wts ds
  | _, [], _ => by simp [D.pys, PyData.canLayAll0, PyData.showableAll, PyData.leavesShortAll, PyData.depthAll, PyData.weightAll]
  | k, d :: ds, h => by
    simp only [D.okks, Bool.and_eq_true] at h
    obtain ⟨a1, a2, a3, a4, a5⟩ := okk_py d h.1
    obtain ⟨h1, h2, h3, h4, h5⟩ := okks_py ds h.2
    simp only [D.pys, PyData.canLayAll0, PyData.showableAll, PyData.leavesShortAll, PyData.depthAll, PyData.weightAll, D.wts, Bool.and_eq_true]
    exact ⟨⟨a1, h1⟩, ⟨a2, h2⟩, ⟨a3, h3⟩, by omega, by omega⟩
end
/-- good data -/
def Gd (d : D) : Prop := d.okk 20 = true ∧ d.wt ≤ 400000
theorem Gd.pln {d : D} (h : Gd d) : d.pln = true := okk_pln d h.1
theorem Gd.short {d : D} (h : Gd d) : d.py.shown.length ≤ sizeLine := by
  obtain ⟨h1, h2, h3, h4, h5⟩ := okk_py d h.1
  have q := PyData.shown_le 31 (by decide) _ h3
  have h6 := h.2
  have e : sizeLine = 16777216 := by decide
  rw [e]
  have : (31 + 2) * d.py.weight ≤ 33 * 400000 := Nat.mul_le_mul (by decide) (by omega)
  omega
theorem Gd.repr {d : D} (h : Gd d) : bRepr d = some (.dat (.str d.py.shown)) := by
  unfold bRepr
  rw [if_pos]
  rw [h.pln, (okk_py d h.1).2.1, decide_eq_true (Nat.le_trans (okk_py d h.1).2.2.2.1 (by decide)), decide_eq_true h.short]
  rfl
theorem wts_len : ∀ ds : List D, ds.length ≤ D.wts ds
  | [] => by simp
  | d :: ds => by
    have := wts_len ds
    simp only [List.length_cons, D.wts]
    omega
theorem Gd.len {ds : List D} (h : Gd (.tup ds)) : ds.length ≤ 400000 := by
  have := h.2
  simp only [D.wt] at this
  exact Nat.le_trans (wts_len ds) this
/-- ints, texts, truths compared -/
theorem shp_int (i : Int) : shp (.int i) = true := by simp [shp, D.pln, SeqAt.shaped, D.py, PyData.canLay0, PyData.depth]
theorem shp_bl (i : Bool) : shp (.bl i) = true := by cases i <;> simp [shp, D.pln, SeqAt.shaped, D.py, PyData.canLay0, PyData.depth]
theorem eq_int (i j : Int) : oEq (.int i) (.int j) = some (.dat (.bl (decide (i = j)))) := by
  have : eqD (.int i) (.int j) = decide (i = j) := by
    simp only [eqD, D.py, PyData.eqv]
    rw [Bool.eq_iff_iff]
    simp
  simp [oEq, shp_int, this]
theorem ne_int (i j : Int) : oNe (.int i) (.int j) = some (.dat (.bl (!decide (i = j)))) := by
  have : eqD (.int i) (.int j) = decide (i = j) := by
    simp only [eqD, D.py, PyData.eqv]
    rw [Bool.eq_iff_iff]
    simp
  simp [oNe, shp_int, this]
theorem eq_bl (i j : Bool) : oEq (.bl i) (.bl j) = some (.dat (.bl (i == j))) := by cases i <;> cases j <;> simp [oEq, shp_bl, eqD, D.py, PyData.eqv]
theorem ne_bl (i j : Bool) : oNe (.bl i) (.bl j) = some (.dat (.bl (i != j))) := by cases i <;> cases j <;> simp [oNe, shp_bl, eqD, D.py, PyData.eqv]
abbrev tw (w : List Int) : D := .tup (w.map D.int)
theorem eqvAll_ints : ∀ a b : List Int, PyData.eqvAll (D.pys (a.map D.int)) (D.pys (b.map D.int)) = decide (a = b)
  | [], [] => by simp [D.pys, PyData.eqvAll]
  | [], _ :: _ => by simp [D.pys, PyData.eqvAll]
  | _ :: _, [] => by simp [D.pys, PyData.eqvAll]
  | x :: a, y :: b => by
    have := eqvAll_ints a b
    simp only [List.map_cons, D.pys, D.py, PyData.eqvAll, this, PyData.eqv]
    rw [Bool.eq_iff_iff]
    simp
theorem eqD_tw (a b : List Int) : eqD (tw a) (tw b) = decide (a = b) := by
  simp only [eqD, D.py, PyData.eqv, eqvAll_ints]
theorem plns_ints : ∀ a : List Int, D.plns (a.map D.int) = true
  | [] => by simp [D.plns]
  | x :: a => by simp [D.plns, D.pln, plns_ints a]
theorem lay_ints : ∀ a : List Int, PyData.canLayAll0 (D.pys (a.map D.int)) = true ∧ PyData.depthAll (D.pys (a.map D.int)) = 0
  | [] => by simp [D.pys, PyData.canLayAll0, PyData.depthAll]
  | x :: a => by
    obtain ⟨h1, h2⟩ := lay_ints a
    simp [D.pys, D.py, PyData.canLayAll0, PyData.depthAll, PyData.canLay0, PyData.depth, h1, h2]
theorem shp_tw (a : List Int) : shp (tw a) = true := by
  obtain ⟨h1, h2⟩ := lay_ints a
  simp only [shp, D.pln, plns_ints, SeqAt.shaped, D.py, PyData.canLay0, h1, PyData.depth, h2]
  decide
theorem eq_tw (a b : List Int) : oEq (tw a) (tw b) = some (.dat (.bl (decide (a = b)))) := by
  unfold oEq
  rw [shp_tw, shp_tw, eqD_tw]
  rfl
theorem ne_tw (a b : List Int) : oNe (tw a) (tw b) = some (.dat (.bl (!decide (a = b)))) := by
  unfold oNe
  rw [shp_tw, shp_tw, eqD_tw]
  rfl
theorem wp_forGo {g : MG} {b : MS} {d : De} {px : PX} (I : Nat → Env → Prop) : ∀ {xs : List D} {e : Env}, I 0 e → (∀ k x e, xs[k]? = some x → I k e → ∃ e1, g x e = some e1 ∧ SO.wp { nx := I (k + 1), ct := I (k + 1), bk := d.nx, rt := d.rt } px (b e1)) → (∀ e, I xs.length e → d.nx e) → SO.wp d px (forGo g b xs e)
  | [], e, h0, _, fin => fin e h0
  | x :: xs, e, h0, step, fin => by
    obtain ⟨e1, g1, g2⟩ := step 0 x e rfl h0
    unfold forGo
    rw [g1]
    dsimp only
    rw [wp_turn]
    have go : ∀ e, I 1 e → SO.wp d px (forGo g b xs e) := fun e h => wp_forGo (fun k => I (k + 1)) h (fun k x e hx hk => step (k + 1) x e hx hk) fun e h => fin e h
    exact SO.wp_imp g2 go (fun _ _ h => h) (fun _ h => h) go
theorem wp_lcGo {g : MG} {ifs : MT} {el : ME} {vs : List Nat} {P : List C → Env → Prop} {px : PX} (I : Nat → List C → Env → Prop) : ∀ {xs : List D} {e : Env} {acc : List C}, I 0 acc e →
    (∀ k x acc e, xs[k]? = some x → I k acc e → ∃ e1, g x e = some e1 ∧ Out.wp (fun b e2 => if b = true then Out.wp (fun r e3 => ∃ c, chR r = some c ∧ I (k + 1) (acc ++ [c]) (wipeE e3 vs)) px (el e2) else I (k + 1) acc (wipeE e2 vs)) px (ifs e1)) →
    (∀ cs e, I xs.length (acc ++ cs) e → P cs e) → Out.wp P px (lcGo g ifs el vs xs e)
  | [], e, acc, h0, _, fin => fin [] e (by rw [List.append_nil]; exact h0)
  | x :: xs, e, acc, h0, step, fin => by
    obtain ⟨e1, g1, g2⟩ := step 0 x acc e rfl h0
    unfold lcGo
    rw [g1]
    dsimp only
    rw [Out.wp_bind]
    refine Out.wp_imp g2 fun b e2 h => ?_
    by_cases hb : b = true
    · rw [if_pos hb] at h ⊢
      rw [Out.wp_bind]
      refine Out.wp_imp h fun r e3 ⟨c, c1, c2⟩ => ?_
      rw [c1]
      dsimp only
      rw [Out.wp_bind]
      exact wp_lcGo (fun k => I (k + 1)) c2 (fun k x e acc hx hk => step (k + 1) x e acc hx hk) fun cs e h => fin (c :: cs) e (by rw [List.append_assoc] at h; exact h)
    · rw [if_neg hb] at h ⊢
      exact wp_lcGo (fun k => I (k + 1)) h (fun k x e acc hx hk => step (k + 1) x e acc hx hk) fun cs e h => fin cs e h
theorem wp_noEx {α : Type} {o : Out α} {P : α → Env → Prop} {px : PX} (h : Out.wp P (fun _ _ _ => False) o) : Out.wp P px (noEx o) := by
  cases o with
  | ok a e => exact h
  | ex => cases h
  | bad => cases h
theorem wp_mLc {mi : MI} {g : MG} {ifs : MT} {el : ME} {vs : List Nat} {P : R → Env → Prop} {px : PX} {env : Env} (h : Out.wp (fun xs e0 => xs.length ≤ LIM ∧ noOwn e0 vs = true ∧ Out.wp (fun cs e => P (.own (.lst cs)) (backE e0 e vs)) (fun _ _ _ => False) (lcGo g ifs el vs xs (wipeE e0 vs))) px (mi env)) : Out.wp P px (mLc mi g ifs el vs env) := by
  unfold mLc
  rw [Out.wp_bind]
  refine Out.wp_imp h fun xs e0 ⟨h1, h2, h3⟩ => ?_
  rw [decide_eq_true h1, h2]
  simp only [Bool.and_self, if_true]
  rw [Out.wp_bind]
  exact wp_noEx h3
/-- a def run -/
theorem wp_mDef {n k : Nat} {fx : Nat → Bool} {m : MS} {cs : List C} {P : R → List C → Prop} {px : PX} (h1 : (cs.length == n && argsOk fx 0 cs) = true) (h : SO.wp ⟨fun e => P (.dat .non) (outCs cs e), fun r e => Out.wp (fun r e => P r (outCs cs e)) (fun _ _ _ => False) (outR fx n r e), fun _ => False, fun _ => False⟩ (fun c fs e => px c fs (outCs cs e)) (m (cs ++ List.replicate k .non))) : Out.wp P px (mDef n k fx m cs) := by
  unfold mDef
  rw [if_pos h1]
  cases z : m (cs ++ List.replicate k .non) with
  | nx e => rw [z] at h; exact h
  | rt r e =>
    rw [z] at h
    dsimp only
    rw [Out.wp_bind]
    have h : Out.wp (fun r e => P r (outCs cs e)) (fun _ _ _ => False) (outR fx n r e) := h
    cases y : outR fx n r e with
    | ok a e' => rw [y] at h; exact h
    | ex => rw [y] at h; cases h
    | bad => rw [y] at h; cases h
  | bk e => rw [z] at h; cases h
  | ct e => rw [z] at h; cases h
  | ex c fs e => rw [z] at h; exact h
  | bad => rw [z] at h; cases h
def kVw (o : Option C) : Option C := match o with
  | some .non => none
  | x => x
def kVwP (o : Option C) : Option C := match o with
  | some c => if c.own = true then some c else none
  | none => none
def kO2 (o : D → D → Option R) (e : Env) (a b : Option D) : Out R := match a, b with
  | some d, some d' => ofO (o d d') e
  | _, _ => .bad
def kO1 (o : D → Option R) (e : Env) (a : Option D) : Out R := match a with
  | some d => ofO (o d) e
  | none => .bad
def kSn (a : Option D) (b : Option (List D)) : Option (List D) := match a, b with
  | some d, some ds => some (d :: ds)
  | _, _ => none
def kCb (o : List D → Option R) (e : Env) (a : Option (List D)) : Out R := match a with
  | some ds => ofO (o ds) e
  | none => .bad
def kIxC (i : Int) (x : R) (e : Env) (a : Option C) : Out R := match a with
  | some (.dat d) => ofO (ixD d i) e
  | some (.lst cs) => chO x cs i e
  | some (.tup cs) => chO x cs i e
  | _ => .bad
def kChS (i : Nat) (p : List Pst) (n : Nat) (e : Env) (a : Option C) : Out R := match a with
  | some c => ofO (stepR (.al i p) (.ix n) c) e
  | none => .bad
def kChO (i : Nat) (p : List Pst) (cs : List C) (e : Env) (a : Option Nat) : Out R := match a with
  | some n => match cs[n]? with
    | some c => ofO (stepR (.al i p) (.ix n) c) e
    | none => .bad
  | none => .bad
def kLmS (i : Nat) (p : List Pst) (e : Env) (a : Option (D × List D)) : Out R := match a with
  | some (d, ds') => .ok (.dat d) (setE e i p (.lst (ds'.map .dat)))
  | none => .bad
def kLmO (o : List D → List D → Option (D × List D)) (i : Nat) (p : List Pst) (e : Env) (a : Option C) (b : Option (List D)) : Out R := match a, b with
  | some (.lst cs), some es => match dats cs with
    | some ds => match o ds es with
      | some (d, ds') => .ok (.dat d) (setE e i p (.lst (ds'.map .dat)))
      | none => .bad
    | none => .bad
  | _, _ => .bad
def kPop (ds : List D) (a : Option D) : Option (D × List D) := match a with
  | some d => some (d, ds.dropLast)
  | none => none
def kSuL (c : C) (i : Nat) (p : List Pst) (k : Int) (e : Env) (a : Option C) : SO := match a, snapR (.dat (.int k)) e with
  | some (.lst cs), some (.int k) => match ixN cs.length k with
    | some n => match cs[n]?, c with
      | some (.dat _), .dat d => .nx (setE e i p (.lst (cs.set n (.dat d))))
      | _, _ => .bad
    | none => .bad
  | _, _ => .bad
def kSuS (d : D) (i : Nat) (p : List Pst) (n : Nat) (cs : List C) (e : Env) (a : Option C) : SO := match a with
  | some (.dat _) => .nx (setE e i p (.lst (cs.set n (.dat d))))
  | _ => .bad
def kSuN (d : D) (i : Nat) (p : List Pst) (cs : List C) (e : Env) (a : Option Nat) : SO := match a with
  | some n => kSuS d i p n cs e cs[n]?
  | none => .bad
def kTupO (e : Env) (a : Option (List D)) : Out R := match a with
  | some ds => if ds.length ≤ LIM then .ok (.dat (.tup ds)) e else .bad
  | none => .bad
def kLstO (e : Env) (a : Option (List D)) : Out R := match a with
  | some ds => if ds.length ≤ LIM then .ok (.own (.lst (ds.map .dat))) e else .bad
  | none => .bad
def kRow (e : Env) (a : Option (List D)) : Out (List D) := match a with
  | some ds => .ok ds e
  | none => .bad
def kBl (b : Bool) : R := .dat (.bl b)
def kCi (r : R) (a : Option Env) : Out R := match a with
  | some e' => .ok r e'
  | none => .bad
def kCj (c : Nat) (fs : List (Nat × D)) (a : Option Env) : Out R := match a with
  | some e' => .ex c fs e'
  | none => .bad
def kRb (rs : List R) (e : Env) (o : Out R) : Out R := match o with
  | .ok r cs' => (match backA e rs cs' with
    | some e' => .ok r e'
    | none => .bad)
  | .ex c fs cs' => (match backA e rs cs' with
    | some e' => .ex c fs e'
    | none => .bad)
  | .bad => .bad
def kCg (f : List C → Out R) (rs : List R) (e : Env) (cs : List C) (b : Bool) : Out R := if b = true then kRb rs e (f cs) else .bad
def kCf (f : List C → Out R) (rs : List R) (e : Env) (a : Option (List C)) : Out R := match a with
  | some cs => if oneAl rs = true then kRb rs e (f cs) else .bad
  | none => .bad
def kCel (a : Option C) (b : Option (List C)) : Option (List C) := match a, b with
  | some c, some cs => some (c :: cs)
  | _, _ => none
def isNoAl (r : R) : Bool := !r.isAl
def kBk (e : Env) (i : Nat) (p : List Pst) (c : C) (a : Option C) : Option Env := match a with
  | some c0 => if c0.own = true then (match c with
    | .non => none
    | c => some (setE e i p c)) else some e
  | none => none
def kVar (i : Nat) : Option C → Env → Out R := fun o env => match o with | some (.dat d) => .ok (.dat d) env | some .non => .bad | some _ => .ok (.al i []) env | none => .bad
theorem x_mVar (i : Nat) (env : Env) : mVar i env = kVar i env[i]? env := by
  unfold mVar kVar
  cases env[i]? with
  | none => rfl
  | some c => cases c <;> rfl
theorem x_kVar_0 (i : Nat) (d : D) (env : Env) : kVar i (some (.dat d)) env = .ok (.dat d) env := rfl
theorem x_kVar_1 (i : Nat) (cs : List C) (env : Env) : kVar i (some (.lst cs)) env = .ok (.al i []) env := rfl
theorem x_kVar_2 (i : Nat) (cs : List C) (env : Env) : kVar i (some (.tup cs)) env = .ok (.al i []) env := rfl
theorem x_kVar_3 (i : Nat) (t : Bool) (cs : List (Kd × C)) (env : Env) : kVar i (some (.dic t cs)) env = .ok (.al i []) env := rfl
theorem x_kVar_4 (i : Nat) (t : Nat) (cs : List (Nat × C)) (env : Env) : kVar i (some (.obj t cs)) env = .ok (.al i []) env := rfl
theorem x_mC (d : D) (env : Env) : mC d env = .ok (.dat d) env := rfl
theorem x_mFz (m : ME) (env : Env) : mFz m env = (m env).bind fzO := rfl
def kOp2 (o : D → D → Option R) (x : R) : R → Env → Out R := fun y e => op2 o x y e
theorem x_kOp2 (o : D → D → Option R) (x : R) (y : R) (e : Env) : kOp2 o x y e = op2 o x y e := rfl
def kOp1 (o : D → D → Option R) (b : ME) : R → Env → Out R := fun x e => grd x.sh ((b e).bind (kOp2 o x))
theorem x_kOp1 (o : D → D → Option R) (b : ME) (x : R) (e : Env) : kOp1 o b x e = grd x.sh ((b e).bind (kOp2 o x)) := rfl
theorem x_mOp (o : D → D → Option R) (a b : ME) (env : Env) : mOp o a b env = (a env).bind (kOp1 o b) := rfl
def kUn (o : D → Option R) : R → Env → Out R := fun x e => op1 o x e
theorem x_kUn (o : D → Option R) (x : R) (e : Env) : kUn o x e = op1 o x e := rfl
theorem x_mUn (o : D → Option R) (a : ME) (env : Env) : mUn o a env = (a env).bind (kUn o) := rfl
theorem x_mB (a : ME) (env : Env) : mB a env = (a env).bind asB := rfl
def kAndV (b : ME) : Bool → Env → Out R := fun k e => if k = true then b e else .ok (.dat (.bl false)) e
theorem x_kAndV_0 (b : ME) (e : Env) : kAndV b true e = b e := rfl
theorem x_kAndV_1 (b : ME) (e : Env) : kAndV b false e = .ok (.dat (.bl false)) e := rfl
theorem x_mAndV (a b : ME) (env : Env) : mAndV a b env = (mB a env).bind (kAndV b) := rfl
def kOrV (b : ME) : Bool → Env → Out R := fun k e => if k = true then .ok (.dat (.bl true)) e else b e
theorem x_kOrV_0 (b : ME) (e : Env) : kOrV b true e = .ok (.dat (.bl true)) e := rfl
theorem x_kOrV_1 (b : ME) (e : Env) : kOrV b false e = b e := rfl
theorem x_mOrV (a b : ME) (env : Env) : mOrV a b env = (mB a env).bind (kOrV b) := rfl
def kNotV  : Bool → Env → Out R := fun k e => .ok (.dat (.bl (!k))) e
theorem x_kNotV  (k : Bool) (e : Env) : kNotV  k e = .ok (.dat (.bl (!k))) e := rfl
theorem x_mNotV (a : ME) (env : Env) : mNotV a env = (mB a env).bind kNotV := rfl
def kIfE (a b : ME) : Bool → Env → Out R := fun k e => if k = true then a e else b e
theorem x_kIfE_0 (a b : ME) (e : Env) : kIfE a b true e = a e := rfl
theorem x_kIfE_1 (a b : ME) (e : Env) : kIfE a b false e = b e := rfl
theorem x_mIfE (t : MT) (a b : ME) (env : Env) : mIfE t a b env = (t env).bind (kIfE a b) := rfl
def kAnd (b : MT) : Bool → Env → Out Bool := fun k e => if k = true then b e else .ok false e
theorem x_kAnd_0 (b : MT) (e : Env) : kAnd b true e = b e := rfl
theorem x_kAnd_1 (b : MT) (e : Env) : kAnd b false e = .ok false e := rfl
theorem x_mAnd (a b : MT) (env : Env) : mAnd a b env = (a env).bind (kAnd b) := rfl
def kOr (b : MT) : Bool → Env → Out Bool := fun k e => if k = true then .ok true e else b e
theorem x_kOr_0 (b : MT) (e : Env) : kOr b true e = .ok true e := rfl
theorem x_kOr_1 (b : MT) (e : Env) : kOr b false e = b e := rfl
theorem x_mOr (a b : MT) (env : Env) : mOr a b env = (a env).bind (kOr b) := rfl
def kNot  : Bool → Env → Out Bool := fun k e => .ok (!k) e
theorem x_kNot  (k : Bool) (e : Env) : kNot  k e = .ok (!k) e := rfl
theorem x_mNot (a : MT) (env : Env) : mNot a env = (a env).bind kNot := rfl
theorem x_mYes  (env : Env) : mYes env = .ok true env := rfl
def kCh4 (o2 : D → D → Option R) (y : R) : R → Env → Out R := fun w e => op2 o2 y w e
theorem x_kCh4 (o2 : D → D → Option R) (y : R) (w : R) (e : Env) : kCh4 o2 y w e = op2 o2 y w e := rfl
def kCh3 (o2 : D → D → Option R) (c : ME) (y : R) : Bool → Env → Out R := fun k e => if k = true then (c e).bind (kCh4 o2 y) else .ok (.dat (.bl false)) e
theorem x_kCh3_0 (o2 : D → D → Option R) (c : ME) (y : R) (e : Env) : kCh3 o2 c y true e = (c e).bind (kCh4 o2 y) := rfl
theorem x_kCh3_1 (o2 : D → D → Option R) (c : ME) (y : R) (e : Env) : kCh3 o2 c y false e = .ok (.dat (.bl false)) e := rfl
def kCh2b (o2 : D → D → Option R) (c : ME) (y : R) : R → Env → Out R := fun z e => (asB z e).bind (kCh3 o2 c y)
theorem x_kCh2b (o2 : D → D → Option R) (c : ME) (y : R) (z : R) (e : Env) : kCh2b o2 c y z e = (asB z e).bind (kCh3 o2 c y) := rfl
def kCh2 (o o2 : D → D → Option R) (c : ME) (x : R) : R → Env → Out R := fun y e => grd y.sh ((op2 o x y e).bind (kCh2b o2 c y))
theorem x_kCh2 (o o2 : D → D → Option R) (c : ME) (x : R) (y : R) (e : Env) : kCh2 o o2 c x y e = grd y.sh ((op2 o x y e).bind (kCh2b o2 c y)) := rfl
def kCh1 (o o2 : D → D → Option R) (b c : ME) : R → Env → Out R := fun x e => grd x.sh ((b e).bind (kCh2 o o2 c x))
theorem x_kCh1 (o o2 : D → D → Option R) (b c : ME) (x : R) (e : Env) : kCh1 o o2 b c x e = grd x.sh ((b e).bind (kCh2 o o2 c x)) := rfl
theorem x_mChain (o o2 : D → D → Option R) (a b c : ME) (env : Env) : mChain o o2 a b c env = (a env).bind (kCh1 o o2 b c) := rfl
theorem x_mNil  (env : Env) : mNil env = .ok [] env := rfl
def kCons2 (x : R) : List R → Env → Out (List R) := fun xs e => .ok (x :: xs) e
theorem x_kCons2 (x : R) (xs : List R) (e : Env) : kCons2 x xs e = .ok (x :: xs) e := rfl
def kCons1 (b : MA) : R → Env → Out (List R) := fun x e => grd x.sh ((b e).bind (kCons2 x))
theorem x_kCons1 (b : MA) (x : R) (e : Env) : kCons1 b x e = grd x.sh ((b e).bind (kCons2 x)) := rfl
theorem x_mCons (a : ME) (b : MA) (env : Env) : mCons a b env = (a env).bind (kCons1 b) := rfl
theorem x_mTup (a : MA) (env : Env) : mTup a env = (a env).bind tupO := rfl
theorem x_mLst (a : MA) (env : Env) : mLst a env = (a env).bind lstO := rfl
def kCB (o : List D → Option R) : List R → Env → Out R := fun rs e => cbO o rs e
theorem x_kCB (o : List D → Option R) (rs : List R) (e : Env) : kCB o rs e = cbO o rs e := rfl
theorem x_mCB (o : List D → Option R) (a : MA) (env : Env) : mCB o a env = (a env).bind (kCB o) := rfl
def kIx3 (x y : R) (e : Env) : Bool → Out R := fun k => if k = true then dixO x y e else ixO x y e
theorem x_kIx3_0 (x y : R) (e : Env)  : kIx3 x y e true = dixO x y e := rfl
theorem x_kIx3_1 (x y : R) (e : Env)  : kIx3 x y e false = ixO x y e := rfl
def kIx2 (x : R) : R → Env → Out R := fun y e => kIx3 x y e (isDic (vw e x))
theorem x_kIx2 (x : R) (y : R) (e : Env) : kIx2 x y e = kIx3 x y e (isDic (vw e x)) := rfl
def kIx1 (g : Bool) (b : ME) : R → Env → Out R := fun x e => grd (g || x.sh) ((b e).bind (kIx2 x))
theorem x_kIx1 (g : Bool) (b : ME) (x : R) (e : Env) : kIx1 g b x e = grd (g || x.sh) ((b e).bind (kIx2 x)) := rfl
theorem x_mIx (g : Bool) (a b : ME) (env : Env) : mIx g a b env = (a env).bind (kIx1 g b) := rfl
def kInD (neg : Bool) (e : Env) : Option (Option C × Kd) → Out R := fun r => match r with | some (o, _) => .ok (.dat (.bl (if neg = true then !o.isSome else o.isSome))) e | none => .bad
def kIn3 (neg : Bool) (x y : R) (e : Env) : Bool → Out R := fun k => if k = true then kInD neg e (dgO x y e) else op2 (oIn neg) y x e
theorem x_kIn3_0 (neg : Bool) (x y : R) (e : Env)  : kIn3 neg x y e true = kInD neg e (dgO x y e) := rfl
theorem x_kIn3_1 (neg : Bool) (x y : R) (e : Env)  : kIn3 neg x y e false = op2 (oIn neg) y x e := rfl
def kIn2 (neg : Bool) (y : R) : R → Env → Out R := fun x e => kIn3 neg x y e (isDic (vw e x))
theorem x_kIn2 (neg : Bool) (y : R) (x : R) (e : Env) : kIn2 neg y x e = kIn3 neg x y e (isDic (vw e x)) := rfl
def kIn1 (neg : Bool) (b : ME) : R → Env → Out R := fun y e => grd (false || y.sh) ((b e).bind (kIn2 neg y))
theorem x_kIn1 (neg : Bool) (b : ME) (y : R) (e : Env) : kIn1 neg b y e = grd (false || y.sh) ((b e).bind (kIn2 neg y)) := rfl
theorem x_mInA (neg : Bool) (a b : ME) (env : Env) : mInA neg a b env = (a env).bind (kIn1 neg b) := rfl
theorem x_mFld (f : Nat) (a : ME) (env : Env) : mFld f a env = (a env).bind (fldO f) := rfl
def kSl3 (x : R) (l : Option Int) : Option Int → Env → Out R := fun h e => op1 (fun d => slD d l h) x e
theorem x_kSl3 (x : R) (l : Option Int) (h : Option Int) (e : Env) : kSl3 x l h e = op1 (fun d => slD d l h) x e := rfl
def kSl2 (x : R) (hi : MO) : Option Int → Env → Out R := fun l e => (hi e).bind (kSl3 x l)
theorem x_kSl2 (x : R) (hi : MO) (l : Option Int) (e : Env) : kSl2 x hi l e = (hi e).bind (kSl3 x l) := rfl
def kSl1 (lo hi : MO) : R → Env → Out R := fun x e => grd x.sh ((lo e).bind (kSl2 x hi))
theorem x_kSl1 (lo hi : MO) (x : R) (e : Env) : kSl1 lo hi x e = grd x.sh ((lo e).bind (kSl2 x hi)) := rfl
theorem x_mSl (a : ME) (lo hi : MO) (env : Env) : mSl a lo hi env = (a env).bind (kSl1 lo hi) := rfl
def kRevD (e : Env) : Option D → Out R := fun d => match d with | some (.tup ds) => .ok (.dat (.tup ds.reverse)) e | _ => .bad
def kRev  : R → Env → Out R := fun x e => kRevD e (snapR x e)
theorem x_kRev  (x : R) (e : Env) : kRev  x e = kRevD e (snapR x e) := rfl
theorem x_mRevT (a : ME) (env : Env) : mRevT a env = (a env).bind kRev := rfl
theorem x_mNoP  (env : Env) : mNoP env = .ok none env := rfl
theorem x_mPart (a : ME) (env : Env) : mPart a env = (a env).bind asI := rfl
def kLm2 (o : List D → List D → Option (D × List D)) (x : R) : List R → Env → Out R := fun rs e => lmO o x rs e
theorem x_kLm2 (o : List D → List D → Option (D × List D)) (x : R) (rs : List R) (e : Env) : kLm2 o x rs e = lmO o x rs e := rfl
def kLm1 (g : Bool) (o : List D → List D → Option (D × List D)) (b : MA) : R → Env → Out R := fun x e => grd ((g || x.sh) && isLst (vw e x)) ((b e).bind (kLm2 o x))
theorem x_kLm1 (g : Bool) (o : List D → List D → Option (D × List D)) (b : MA) (x : R) (e : Env) : kLm1 g o b x e = grd ((g || x.sh) && isLst (vw e x)) ((b e).bind (kLm2 o x)) := rfl
theorem x_mLm (g : Bool) (o : List D → List D → Option (D × List D)) (a : ME) (b : MA) (env : Env) : mLm g o a b env = (a env).bind (kLm1 g o b) := rfl
def kLm0 (o : List D → List D → Option (D × List D)) : R → Env → Out R := fun x e => lmO o x [] e
theorem x_kLm0 (o : List D → List D → Option (D × List D)) (x : R) (e : Env) : kLm0 o x e = lmO o x [] e := rfl
theorem x_mLm0 (o : List D → List D → Option (D × List D)) (a : ME) (env : Env) : mLm0 o a env = (a env).bind (kLm0 o) := rfl
def kStr2 (o : List D → Option R) : List R → Env → Out R := fun rs e => cbO o rs e
theorem x_kStr2 (o : List D → Option R) (rs : List R) (e : Env) : kStr2 o rs e = cbO o rs e := rfl
def kStr1 (o : Str → List D → Option R) (b : MA) : R → Env → Out R := fun x e => match x with | .dat (.str s) => (b e).bind (kStr2 (o s)) | _ => .bad
theorem x_mStrM (o : Str → List D → Option R) (a : ME) (b : MA) (env : Env) : mStrM o a b env = (a env).bind (kStr1 o b) := rfl
def kCall (f : List C → Out R) : List R → Env → Out R := fun rs e => callF f rs e
theorem x_kCall (f : List C → Out R) (rs : List R) (e : Env) : kCall f rs e = callF f rs e := rfl
theorem x_mCall (f : List C → Out R) (a : MA) (env : Env) : mCall f a env = (a env).bind (kCall f) := rfl
def kCallP2 (f : List C → Out R) (e : Env) : Option (List R) → Out R := fun o => match o with | some rs' => callF f rs' e | none => .bad
def kCallP (n : Nat) (ix : List Nat) (f : List C → Out R) : List R → Env → Out R := fun rs e => kCallP2 f e (permO n ix rs)
theorem x_kCallP (n : Nat) (ix : List Nat) (f : List C → Out R) (rs : List R) (e : Env) : kCallP n ix f rs e = kCallP2 f e (permO n ix rs) := rfl
theorem x_mCallP (n : Nat) (ix : List Nat) (f : List C → Out R) (a : MA) (env : Env) : mCallP n ix f a env = (a env).bind (kCallP n ix f) := rfl
def kMeth2 (f : List C → Out R) (x : R) : List R → Env → Out R := fun rs e => callF f (x :: rs) e
theorem x_kMeth2 (f : List C → Out R) (x : R) (rs : List R) (e : Env) : kMeth2 f x rs e = callF f (x :: rs) e := rfl
def kMeth1 (c mt : Nat) (f : List C → Out R) (a : MA) : R → Env → Out R := fun x e => grd (isOf c mt x e && x.sh) ((a e).bind (kMeth2 f x))
theorem x_kMeth1 (c mt : Nat) (f : List C → Out R) (a : MA) (x : R) (e : Env) : kMeth1 c mt f a x e = grd (isOf c mt x e && x.sh) ((a e).bind (kMeth2 f x)) := rfl
theorem x_mMeth (c mt : Nat) (f : List C → Out R) (o : ME) (a : MA) (env : Env) : mMeth c mt f o a env = (o env).bind (kMeth1 c mt f a) := rfl
def kMake (cl : Nat) (f : List C → Out R) : List R → Env → Out R := fun rs e => mkO cl f rs e
theorem x_kMake (cl : Nat) (f : List C → Out R) (rs : List R) (e : Env) : kMake cl f rs e = mkO cl f rs e := rfl
theorem x_mMake (cl : Nat) (f : List C → Out R) (a : MA) (env : Env) : mMake cl f a env = (a env).bind (kMake cl f) := rfl
theorem x_mISeq (m : ME) (env : Env) : mISeq m env = (m env).bind rowR := rfl
def kIR1  : List R → Env → Out (List D) := fun rs e => match rs with | [.dat (.int n)] => if (decide (-(2 ^ 62) ≤ n) && decide (n < 2 ^ 62)) = true then .ok (rng 0 n.toNat) e else .bad | _ => .bad
theorem x_mIR1 (m : MA) (env : Env) : mIR1 m env = (m env).bind kIR1 := rfl
def kIR2  : List R → Env → Out (List D) := fun rs e => match rs with | [.dat (.int i), .dat (.int j)] => if (decide (-(2 ^ 62) ≤ i) && decide (i < 2 ^ 62) && decide (-(2 ^ 62) ≤ j) && decide (j < 2 ^ 62)) = true then .ok (rng i (j - i).toNat) e else .bad | _ => .bad
theorem x_mIR2 (m : MA) (env : Env) : mIR2 m env = (m env).bind kIR2 := rfl
def kIEnum  : List R → Env → Out (List D) := fun rs e => match rs with | [.dat d] => (match rowOf d with | some ds => .ok (enumD ds) e | none => .bad) | _ => .bad
theorem x_mIEnum (m : MA) (env : Env) : mIEnum m env = (m env).bind kIEnum := rfl
def kIZip  : List R → Env → Out (List D) := fun rs e => match rs with | [.dat (.tup ds), .dat (.tup es)] => .ok (zipD ds es) e | [.dat (.lst ds), .dat (.lst es)] => .ok (zipD ds es) e | _ => .bad
theorem x_mIZip (m : MA) (env : Env) : mIZip m env = (m env).bind kIZip := rfl
theorem x_mNext  (env : Env) : mNext env = .nx env := rfl
theorem x_mBreak  (env : Env) : mBreak env = .bk env := rfl
theorem x_mCont  (env : Env) : mCont env = .ct env := rfl
theorem x_mRetN  (env : Env) : mRetN env = .rt (.dat .non) env := rfl
theorem x_mSeq (a b : MS) (env : Env) : mSeq a b env = (a env).seq b := rfl
def kIf (a b : MS) : Bool → Env → SO := fun k e => if k = true then a e else b e
theorem x_kIf_0 (a b : MS) (e : Env) : kIf a b true e = a e := rfl
theorem x_kIf_1 (a b : MS) (e : Env) : kIf a b false e = b e := rfl
theorem x_mIf (t : MT) (a b : MS) (env : Env) : mIf t a b env = (t env).bindS (kIf a b) := rfl
def kDrop  : R → Env → SO := fun r e => .nx e
theorem x_kDrop  (r : R) (e : Env) : kDrop  r e = .nx e := rfl
theorem x_mDrop (a : ME) (env : Env) : mDrop a env = (a env).bindS kDrop := rfl
def kRet  : R → Env → SO := fun r e => .rt r e
theorem x_kRet  (r : R) (e : Env) : kRet  r e = .rt r e := rfl
theorem x_mRet (a : ME) (env : Env) : mRet a env = (a env).bindS kRet := rfl
theorem x_mAsg (i : Nat) (a : ME) (env : Env) : mAsg i a env = (a env).bindS (putS i) := rfl
def kAsgG2  : Option Env → SO := fun o => match o with | some e1 => .nx e1 | none => .bad
def kAsgG (g : MG) : R → Env → SO := fun r e => match r with | .dat d => kAsgG2 (g d e) | _ => .bad
theorem x_mAsgG (g : MG) (a : ME) (env : Env) : mAsgG g a env = (a env).bindS (kAsgG g) := rfl
def kFor (g : MG) (b : MS) : List D → Env → SO := fun xs e => forGo g b xs e
theorem x_kFor (g : MG) (b : MS) (xs : List D) (e : Env) : kFor g b xs e = forGo g b xs e := rfl
theorem x_mFor (mi : MI) (g : MG) (b : MS) (env : Env) : mFor mi g b env = (mi env).bindS (kFor g b) := rfl
def kSub4 (c : C) (x y : R) (e : Env) : Bool → SO := fun k => if k = true then subD c x y e else subL c x y e
theorem x_kSub4_0 (c : C) (x y : R) (e : Env)  : kSub4 c x y e true = subD c x y e := rfl
theorem x_kSub4_1 (c : C) (x y : R) (e : Env)  : kSub4 c x y e false = subL c x y e := rfl
def kSub3 (c : C) (x : R) : R → Env → SO := fun y e => kSub4 c x y e (isDic (vw e x))
theorem x_kSub3 (c : C) (x : R) (y : R) (e : Env) : kSub3 c x y e = kSub4 c x y e (isDic (vw e x)) := rfl
def kSub2b (c : C) (i : ME) (x : R) (e : Env) : Bool → SO := fun k => if k = true then (i e).bindS (kSub3 c x) else .bad
theorem x_kSub2b_0 (c : C) (i : ME) (x : R) (e : Env)  : kSub2b c i x e true = (i e).bindS (kSub3 c x) := rfl
def kSub2 (g : Bool) (c : C) (i : ME) : R → Env → SO := fun x e => kSub2b c i x e (g || x.sh)
theorem x_kSub2 (g : Bool) (c : C) (i : ME) (x : R) (e : Env) : kSub2 g c i x e = kSub2b c i x e (g || x.sh) := rfl
def kSub1b (g : Bool) (o i : ME) (e : Env) : Option C → SO := fun r => match r with | some c => (o e).bindS (kSub2 g c i) | none => .bad
theorem x_kSub1b_0 (g : Bool) (o i : ME) (e : Env) (c : C) : kSub1b g o i e (some c) = (o e).bindS (kSub2 g c i) := rfl
def kSub1 (g : Bool) (o i : ME) : R → Env → SO := fun r e => kSub1b g o i e (chR r)
theorem x_kSub1 (g : Bool) (o i : ME) (r : R) (e : Env) : kSub1 g o i r e = kSub1b g o i e (chR r) := rfl
theorem x_mSub (g : Bool) (v o i : ME) (env : Env) : mSub g v o i env = (v env).bindS (kSub1 g o i) := rfl
def kSetF2 (f : Nat) (c : C) : R → Env → SO := fun x e => setFO f c x e
theorem x_kSetF2 (f : Nat) (c : C) (x : R) (e : Env) : kSetF2 f c x e = setFO f c x e := rfl
def kSetF1b (f : Nat) (o : ME) (e : Env) : Option C → SO := fun r => match r with | some c => (o e).bindS (kSetF2 f c) | none => .bad
theorem x_kSetF1b_0 (f : Nat) (o : ME) (e : Env) (c : C) : kSetF1b f o e (some c) = (o e).bindS (kSetF2 f c) := rfl
def kSetF1 (f : Nat) (o : ME) : R → Env → SO := fun r e => kSetF1b f o e (chR r)
theorem x_kSetF1 (f : Nat) (o : ME) (r : R) (e : Env) : kSetF1 f o r e = kSetF1b f o e (chR r) := rfl
theorem x_mSetF (f : Nat) (v o : ME) (env : Env) : mSetF f v o env = (v env).bindS (kSetF1 f o) := rfl
def kRz2 (c : Nat) (fts : List Nat) (e : Env) : Option (List D) → SO := fun r => match r with | some ds => if ds.length = fts.length then .ex c (fts.zip ds).reverse e else .bad | none => .bad
theorem x_kRz2_0 (c : Nat) (fts : List Nat) (e : Env) (ds : List D) : kRz2 c fts e (some ds) = if ds.length = fts.length then .ex c (fts.zip ds).reverse e else .bad := rfl
def kRz (c : Nat) (fts : List Nat) : List R → Env → SO := fun rs e => kRz2 c fts e (datR rs)
theorem x_kRz (c : Nat) (fts : List Nat) (rs : List R) (e : Env) : kRz c fts rs e = kRz2 c fts e (datR rs) := rfl
theorem x_mRaise (c : Nat) (fts : List Nat) (a : MA) (env : Env) : mRaise c fts a env = (a env).bindS (kRz c fts) := rfl
def kTry (hs : List Hm) : SO → SO := fun o => match o with | .ex c fs e => if excTag c = true then hGo hs c fs e else .bad | o => o
theorem x_kTry_0 (hs : List Hm) (e : Env) : kTry hs (.nx e) = .nx e := rfl
theorem x_kTry_1 (hs : List Hm) (r : R) (e : Env) : kTry hs (.rt r e) = .rt r e := rfl
theorem x_kTry_2 (hs : List Hm) (e : Env) : kTry hs (.bk e) = .bk e := rfl
theorem x_kTry_3 (hs : List Hm) (e : Env) : kTry hs (.ct e) = .ct e := rfl
theorem x_kTry_4 (hs : List Hm) (c : Nat) (fs : List (Nat × D)) (e : Env) : kTry hs (.ex c fs e) = if excTag c = true then hGo hs c fs e else .bad := rfl
theorem x_mTry (b : MS) (hs : List Hm) (env : Env) : mTry b hs env = kTry hs (b env) := rfl
theorem x_gNm (i : Nat) (d : D) (e : Env) : gNm i d e = if i < e.length then some (e.set i (.dat d)) else none := rfl
theorem x_gN (e : Env) : gN [] e = some e := rfl
theorem x_gC (g : MG) (gs : MGs) (d : D) (ds : List D) (e : Env) : gC g gs (d :: ds) e = (g d e).bind (gs ds) := rfl
theorem x_gTp (n : Nat) (gs : MGs) (ds : List D) (e : Env) : gTp n gs (.tup ds) e = if ds.length = n then gs ds e else none := rfl
theorem x_vw1 (e : Env) (c : C) : vw e (.own c) = some c := rfl
theorem x_vw2 (e : Env) (i : Nat) : vw e (.al i []) = kVw e[i]? := by unfold kVw; rfl
theorem x_vw3 (e : Env) (i : Nat) (s : Pst) (p : List Pst) : vw e (.al i (s :: p)) = kVwP (getE e i (s :: p)) := by unfold kVwP; rfl
theorem x_sh1 (i : Nat) : R.sh (.al i []) = true := rfl
theorem x_sh2 (i f : Nat) : R.sh (.al i [.fld f]) = true := rfl
theorem x_sh3 (d : D) : R.sh (.dat d) = true := rfl
theorem x_sh4 (c : C) : R.sh (.own c) = true := rfl
theorem x_put1 (i : Nat) (d : D) (e : Env) : putS i (.dat d) e = if i < e.length then .nx (e.set i (.dat d)) else .bad := rfl
theorem x_put2 (i : Nat) (c : C) (e : Env) : putS i (.own c) e = if i < e.length then .nx (e.set i c) else .bad := rfl
theorem x_snapR (i : Nat) (p : List Pst) (e : Env) : snapR (.al i p) e = (vw e (.al i p)).bind snap := rfl
theorem x_snapO (c : C) (e : Env) : snapR (.own c) e = snap c := rfl
theorem x_outR1 (fx : Nat → Bool) (n : Nat) (d : D) (e : Env) : outR fx n (.dat d) e = .ok (.dat d) e := rfl
theorem x_outR2 (fx : Nat → Bool) (n : Nat) (c : C) (e : Env) : outR fx n (.own c) e = .ok (.own c) e := rfl
def kFz (i : Nat) (p : List Pst) (e : Env) : Option C → Out R := fun o => match o with | some (.dat d) => .ok (.dat d) e | some c => .ok (.dat (fz c)) (setE e i p (.dat (fz c))) | none => .bad
theorem x_fzA (i : Nat) (p : List Pst) (e : Env) : fzO (.al i p) e = kFz i p e (vw e (.al i p)) := by
  unfold fzO fzR kFz
  dsimp only
  generalize vw e (.al i p) = o
  cases o with
  | none => rfl
  | some c => cases c <;> rfl
theorem x_kFz1 (i : Nat) (p : List Pst) (e : Env) (d : D) : kFz i p e (some (.dat d)) = .ok (.dat d) e := rfl
theorem x_kFz2 (i : Nat) (p : List Pst) (e : Env) (cs : List C) : kFz i p e (some (.lst cs)) = .ok (.dat (.lst (fzs cs))) (setE e i p (.dat (.lst (fzs cs)))) := by simp [kFz, fz]
theorem x_kFz3 (i : Nat) (p : List Pst) (e : Env) (cs : List C) : kFz i p e (some (.tup cs)) = .ok (.dat (.tup (fzs cs))) (setE e i p (.dat (.tup (fzs cs)))) := by simp [kFz, fz]
theorem x_setE0 (e : Env) (i : Nat) (x : C) : setE e i [] x = (match e[i]? with | some c => e.set i x | none => e) := by unfold setE; cases e[i]? <;> rfl
theorem x_op2 (o : D → D → Option R) (d d' : D) (e : Env) : op2 o (.dat d) (.dat d') e = ofO (o d d') e := rfl
theorem x_op2r (o : D → D → Option R) (i : Nat) (p : List Pst) (d' : D) (e : Env) : op2 o (.al i p) (.dat d') e = kO2 o e (snapR (.al i p) e) (some d') := by unfold kO2; rfl
theorem x_op2l (o : D → D → Option R) (i : Nat) (p : List Pst) (d' : D) (e : Env) : op2 o (.dat d') (.al i p) e = kO2 o e (some d') (snapR (.al i p) e) := by unfold kO2; rfl
theorem x_op2o (o : D → D → Option R) (c : C) (d' : D) (e : Env) : op2 o (.own c) (.dat d') e = kO2 o e (snap c) (some d') := by unfold kO2; rfl
theorem x_op2p (o : D → D → Option R) (c : C) (d' : D) (e : Env) : op2 o (.dat d') (.own c) e = kO2 o e (some d') (snap c) := by unfold kO2; rfl
theorem x_op2q (o : D → D → Option R) (c : C) (i : Nat) (p : List Pst) (e : Env) : op2 o (.al i p) (.own c) e = kO2 o e (snapR (.al i p) e) (snap c) := by unfold kO2; rfl
theorem x_op1 (o : D → Option R) (r : R) (e : Env) : op1 o r e = kO1 o e (snapR r e) := by unfold kO1; rfl
theorem x_kO2 (o : D → D → Option R) (e : Env) (d d' : D) : kO2 o e (some d) (some d') = ofO (o d d') e := rfl
theorem x_kO1 (o : D → Option R) (e : Env) (d : D) : kO1 o e (some d) = ofO (o d) e := rfl
theorem x_snaps0 (e : Env) : snaps [] e = some [] := rfl
theorem x_snaps1 (r : R) (rs : List R) (e : Env) : snaps (r :: rs) e = kSn (snapR r e) (snaps rs e) := by unfold kSn; rfl
theorem x_kSn (d : D) (ds : List D) : kSn (some d) (some ds) = some (d :: ds) := rfl
theorem x_cbO (o : List D → Option R) (rs : List R) (e : Env) : cbO o rs e = kCb o e (snaps rs e) := by unfold kCb; rfl
theorem x_kCb (o : List D → Option R) (e : Env) (ds : List D) : kCb o e (some ds) = ofO (o ds) e := rfl
theorem x_one (f : D → Option R) (d : D) : one f [d] = f d := rfl
theorem x_two (f : D → D → Option R) (d e : D) : two f [d, e] = f d e := rfl
theorem x_ixO (i : Int) (r : R) (e : Env) : ixO r (.dat (.int i)) e = kIxC i r e (vw e r) := by unfold kIxC; rfl
theorem x_kIxC1 (i : Int) (r : R) (e : Env) (d : D) : kIxC i r e (some (.dat d)) = ofO (ixD d i) e := rfl
theorem x_kIxC2 (i : Int) (r : R) (e : Env) (cs : List C) : kIxC i r e (some (.lst cs)) = chO r cs i e := rfl
theorem x_kIxC3 (i : Int) (r : R) (e : Env) (cs : List C) : kIxC i r e (some (.tup cs)) = chO r cs i e := rfl
theorem x_ixD1 (ds : List D) (i : Int) : ixD (.tup ds) i = (atI ds i).map .dat := rfl
theorem x_ixD2 (ds : List D) (i : Int) : ixD (.lst ds) i = (atI ds i).map .dat := rfl
theorem x_ixD3 (ds : List D) (i : Int) : ixD (.src ds) i = (atI ds i).map .dat := rfl
theorem x_isDic1 (ds : List D) : isDic (some (.dat (.tup ds))) = false := rfl
theorem x_isDic2 (ds : List D) : isDic (some (.dat (.lst ds))) = false := rfl
theorem x_isDic3 (ds : List D) : isDic (some (.dat (.src ds))) = false := rfl
theorem x_isDic4 (ds : List C) : isDic (some (.lst ds)) = false := rfl
theorem x_isDic5 (ds : List C) : isDic (some (.tup ds)) = false := rfl
theorem x_isDic6 (t : Bool) (ds : List (Kd × C)) : isDic (some (.dic t ds)) = true := rfl
theorem x_isDic7 (t : Bool) (ds : List (Kd × D)) : isDic (some (.dat (.dic t ds))) = true := rfl
theorem x_isDic8 (s : Str) : isDic (some (.dat (.str s))) = false := rfl
theorem x_chO (i : Nat) (p : List Pst) (cs : List C) (k : Int) (e : Env) : chO (.al i p) cs k e = kChO i p cs e (ixN cs.length k) := by unfold kChO; rfl
theorem x_kChO (i : Nat) (p : List Pst) (cs : List C) (e : Env) (n : Nat) : kChO i p cs e (some n) = kChS i p n e cs[n]? := by unfold kChS; rfl
theorem x_kChS1 (i : Nat) (p : List Pst) (n : Nat) (e : Env) (d : D) : kChS i p n e (some (.dat d)) = .ok (.dat d) e := rfl
theorem x_kChS2 (i : Nat) (p : List Pst) (n : Nat) (e : Env) (cs : List C) : kChS i p n e (some (.lst cs)) = .ok (.al i (p ++ [.ix n])) e := rfl
theorem x_slD1 (ds : List D) (l h : Option Int) : slD (.tup ds) l h = some (.dat (.tup (cutD ds l h))) := rfl
theorem x_slD2 (ds : List D) (l h : Option Int) : slD (.lst ds) l h = some (.own (.lst ((cutD ds l h).map .dat))) := rfl
theorem x_lmO (o : List D → List D → Option (D × List D)) (i : Nat) (p : List Pst) (rs : List R) (e : Env) : lmO o (.al i p) rs e = kLmO o i p e (vw e (.al i p)) (datR rs) := by unfold kLmO; rfl
theorem x_kLmO (o : List D → List D → Option (D × List D)) (i : Nat) (p : List Pst) (e : Env) (ds es : List D) : kLmO o i p e (some (.lst (ds.map .dat))) (some es) = kLmS i p e (o ds es) := by unfold kLmO kLmS; simp only [dats_dat]
theorem x_kLmO0 (o : List D → List D → Option (D × List D)) (i : Nat) (p : List Pst) (e : Env) (es : List D) : kLmO o i p e (some (.lst [])) (some es) = kLmS i p e (o [] es) := by unfold kLmO kLmS; rfl
theorem x_kLmS (i : Nat) (p : List Pst) (e : Env) (d : D) (ds : List D) : kLmS i p e (some (d, ds)) = .ok (.dat d) (setE e i p (.lst (ds.map .dat))) := rfl
theorem x_isLst (cs : List C) : isLst (some (.lst cs)) = true := rfl
theorem x_append (ds : List D) (d : D) : lAppend ds [d] = if ds.length < LIM then some (.non, ds ++ [d]) else none := rfl
theorem x_pop (ds : List D) : lPop ds [] = kPop ds ds.getLast? := by unfold kPop lPop; cases ds.getLast? <;> rfl
theorem x_kPop (ds : List D) (d : D) : kPop ds (some d) = some (d, ds.dropLast) := rfl
theorem x_chR1 (d : D) : chR (.dat d) = some (.dat d) := rfl
theorem x_chR2 (c : C) : chR (.own c) = some c := rfl
theorem x_subL (i : Nat) (p : List Pst) (c : C) (k : Int) (e : Env) : subL c (.al i p) (.dat (.int k)) e = kSuL c i p k e (vw e (.al i p)) := by unfold kSuL; rfl
theorem x_kSuL (i : Nat) (p : List Pst) (d : D) (k : Int) (e : Env) (cs : List C) : kSuL (.dat d) i p k e (some (.lst cs)) = kSuN d i p cs e (ixN cs.length k) := by unfold kSuN kSuL; simp only [snapR_dat]; cases ixN cs.length k with
  | none => rfl
  | some n => simp only; cases cs[n]? with
    | none => rfl
    | some c => cases c <;> rfl
theorem x_kSuN (d : D) (i : Nat) (p : List Pst) (cs : List C) (e : Env) (n : Nat) : kSuN d i p cs e (some n) = kSuS d i p n cs e cs[n]? := by unfold kSuS kSuN; rfl
theorem x_kSuS (d : D) (i : Nat) (p : List Pst) (n : Nat) (cs : List C) (e : Env) (d' : D) : kSuS d i p n cs e (some (.dat d')) = .nx (setE e i p (.lst (cs.set n (.dat d)))) := rfl
theorem x_tupO (rs : List R) (e : Env) : tupO rs e = kTupO e (datR rs) := by unfold kTupO; rfl
theorem x_kTupO (ds : List D) (e : Env) : kTupO e (some ds) = if ds.length ≤ LIM then .ok (.dat (.tup ds)) e else .bad := rfl
theorem x_lstO (rs : List R) (e : Env) : lstO rs e = kLstO e (datR rs) := by unfold kLstO; rfl
theorem x_kLstO (ds : List D) (e : Env) : kLstO e (some ds) = if ds.length ≤ LIM then .ok (.own (.lst (ds.map .dat))) e else .bad := rfl
theorem x_rowR (d : D) (e : Env) : rowR (.dat d) e = kRow e (rowOf d) := by unfold kRow; rfl
theorem x_kRow (ds : List D) (e : Env) : kRow e (some ds) = .ok ds e := rfl
theorem x_row1 (ds : List D) : rowOf (.tup ds) = some ds := rfl
theorem x_row2 (ds : List D) : rowOf (.lst ds) = some ds := rfl
theorem x_row3 (ds : List D) : rowOf (.src ds) = some ds := rfl
theorem x_snap1 (d : D) : snap (.dat d) = some d := rfl
theorem x_snap2 (cs : List C) : snap (.lst cs) = (dats cs).map .lst := rfl
theorem x_dats0 : dats [] = some [] := rfl
theorem x_dats1 (d : D) (cs : List C) : dats (.dat d :: cs) = (dats cs).map (d :: ·) := rfl
theorem x_kVw1 (d : D) : kVw (some (.dat d)) = some (.dat d) := rfl
theorem x_kVw2 (cs : List C) : kVw (some (.lst cs)) = some (.lst cs) := rfl
theorem x_kVw3 (cs : List C) : kVw (some (.tup cs)) = some (.tup cs) := rfl
theorem x_kVw4 (t : Bool) (cs : List (Kd × C)) : kVw (some (.dic t cs)) = some (.dic t cs) := rfl
theorem x_kVw5 (t : Nat) (cs : List (Nat × C)) : kVw (some (.obj t cs)) = some (.obj t cs) := rfl
theorem x_kVwP1 (cs : List C) : kVwP (some (.lst cs)) = some (.lst cs) := rfl
theorem x_kVwP2 (t : Bool) (cs : List (Kd × C)) : kVwP (some (.dic t cs)) = some (.dic t cs) := rfl
theorem x_kVwP3 (cs : List C) : kVwP (some (.tup cs)) = some (.tup cs) := rfl
theorem x_oAddI (i j : Int) : oAdd (.int i) (.int j) = some (.dat (.int (i + j))) := rfl
theorem x_oSub (i j : Int) : oSub (.int i) (.int j) = some (.dat (.int (i - j))) := rfl
theorem x_oMul (i j : Int) : oMul (.int i) (.int j) = if (small i || small j) = true then some (.dat (.int (i * j))) else none := rfl
theorem x_oLt (i j : Int) : oLt (.int i) (.int j) = some (.dat (.bl (decide (i < j)))) := rfl
theorem x_oLe (i j : Int) : oLe (.int i) (.int j) = some (.dat (.bl (decide (i ≤ j)))) := rfl
theorem x_oGt (i j : Int) : oGt (.int i) (.int j) = some (.dat (.bl (decide (j < i)))) := rfl
theorem x_oGe (i j : Int) : oGe (.int i) (.int j) = some (.dat (.bl (decide (j ≤ i)))) := rfl
theorem x_oIs (d : D) : oIs d .non = some (.dat (.bl d.isNon)) := rfl
theorem x_oIsNot (d : D) : oIsNot d .non = some (.dat (.bl (!d.isNon))) := rfl
theorem x_uNeg (i : Int) : uNeg (.int i) = some (.dat (.int (-i))) := rfl
theorem x_len1 (ds : List D) : bLen (.tup ds) = some (.dat (.int ds.length)) := rfl
theorem x_len2 (ds : List D) : bLen (.lst ds) = some (.dat (.int ds.length)) := rfl
theorem x_len3 (ds : List D) : bLen (.src ds) = some (.dat (.int ds.length)) := rfl
theorem x_int1 (i : Int) : bInt (.int i) = some (.dat (.int i)) := rfl
theorem x_int2 (b : Bool) : bInt (.bl b) = some (.dat (.int (if b = true then 1 else 0))) := rfl
theorem x_abs (i : Int) : bAbs (.int i) = some (.dat (.int (if i < 0 then -i else i))) := rfl
theorem x_max (i j : Int) : bMax2 (.int i) (.int j) = some (.dat (.int (if j > i then j else i))) := rfl
theorem x_min (i j : Int) : bMin2 (.int i) (.int j) = some (.dat (.int (if j < i then j else i))) := rfl
theorem x_tup1 (ds : List D) : bTuple (.tup ds) = some (.dat (.tup ds)) := rfl
theorem x_tup2 (ds : List D) : bTuple (.lst ds) = some (.dat (.tup ds)) := rfl
theorem x_tup3 (ds : List D) : bTuple (.src ds) = some (.dat (.tup ds)) := rfl
theorem x_list1 (ds : List D) : bList (.tup ds) = some (.own (.lst (ds.map .dat))) := rfl
theorem x_list2 (ds : List D) : bList (.lst ds) = some (.own (.lst (ds.map .dat))) := rfl
theorem x_list3 (ds : List D) : bList (.src ds) = some (.own (.lst (ds.map .dat))) := rfl
theorem x_isi (d : D) (n : String) : bIsi d (.ty n) = (isiB d n).map kBl := rfl
theorem x_kBl (b : Bool) : kBl b = .dat (.bl b) := rfl
theorem x_asI (i : Int) (e : Env) : asI (.dat (.int i)) e = .ok (some i) e := rfl
theorem x_callF (f : List C → Out R) (rs : List R) (e : Env) : callF f rs e = kCf f rs e (cellsO e rs) := by unfold kCf; rfl
theorem x_kCf (f : List C → Out R) (rs : List R) (e : Env) (cs : List C) : kCf f rs e (some cs) = kCg f rs e cs (oneAl rs) := by unfold kCg; rfl
theorem x_kCg (f : List C → Out R) (rs : List R) (e : Env) (cs : List C) : kCg f rs e cs true = kRb rs e (f cs) := by unfold kRb; rfl
theorem x_kRb1 (rs : List R) (e : Env) (r : R) (cs : List C) : kRb rs e (.ok r cs) = kCi r (backA e rs cs) := by unfold kCi; rfl
theorem x_kRb2 (rs : List R) (e : Env) (c : Nat) (fs : List (Nat × D)) (cs : List C) : kRb rs e (.ex c fs cs) = kCj c fs (backA e rs cs) := by unfold kCj; rfl
theorem x_kCi (r : R) (e : Env) : kCi r (some e) = .ok r e := rfl
theorem x_kCj (c : Nat) (fs : List (Nat × D)) (e : Env) : kCj c fs (some e) = .ex c fs e := rfl
theorem x_cells0 (e : Env) : cellsO e [] = some [] := rfl
theorem x_cells1 (e : Env) (r : R) (rs : List R) : cellsO e (r :: rs) = kCel (cellO e r) (cellsO e rs) := by unfold kCel; rfl
theorem x_kCel (c : C) (cs : List C) : kCel (some c) (some cs) = some (c :: cs) := rfl
theorem x_cell1 (e : Env) (d : D) : cellO e (.dat d) = some (.dat d) := rfl
theorem x_cell2 (e : Env) (i : Nat) (p : List Pst) : cellO e (.al i p) = vw e (.al i p) := rfl
theorem x_oneAl0 : oneAl [] = true := rfl
theorem x_oneAl1 (d : D) (rs : List R) : oneAl (.dat d :: rs) = oneAl rs := rfl
theorem x_oneAl2 (i : Nat) (p : List Pst) (rs : List R) : oneAl (.al i p :: rs) = rs.all isNoAl := rfl
theorem x_isNoAl (d : D) : isNoAl (.dat d) = true := rfl
theorem x_backA0 (e : Env) (cs : List C) : backA e [] cs = some e := by cases cs <;> rfl
theorem x_backA1 (e : Env) (d : D) (rs : List R) (c : C) (cs : List C) : backA e (.dat d :: rs) (c :: cs) = backA e rs cs := rfl
theorem x_backA2 (e : Env) (i : Nat) (p : List Pst) (rs : List R) (c : C) (cs : List C) : backA e (.al i p :: rs) (c :: cs) = kBk e i p c (vw e (.al i p)) := by unfold kBk backA; generalize vw e (.al i p) = o; cases o <;> rfl
theorem x_kBk1 (e : Env) (i : Nat) (p : List Pst) (c : C) (d : D) : kBk e i p c (some (.dat d)) = some e := rfl
theorem x_kBk2 (e : Env) (i : Nat) (p : List Pst) (cs ds : List C) : kBk e i p (.lst cs) (some (.lst ds)) = some (setE e i p (.lst cs)) := rfl
theorem x_kBk3 (e : Env) (i : Nat) (p : List Pst) (t u : Nat) (cs ds : List (Nat × C)) : kBk e i p (.obj t cs) (some (.obj u ds)) = some (setE e i p (.obj t cs)) := rfl
theorem x_kBk4 (e : Env) (i : Nat) (p : List Pst) (t u : Bool) (cs ds : List (Kd × C)) : kBk e i p (.dic t cs) (some (.dic u ds)) = some (setE e i p (.dic t cs)) := rfl
theorem x_isB_0_int  : isiB .non "int" = some false := rfl
theorem x_isB_0_bool  : isiB .non "bool" = some false := rfl
theorem x_isB_0_tuple  : isiB .non "tuple" = some false := rfl
theorem x_isB_0_list  : isiB .non "list" = some false := rfl
theorem x_isB_0_str  : isiB .non "str" = some false := rfl
theorem x_isB_1_int (b : Bool) : isiB (.bl b) "int" = some true := rfl
theorem x_isB_1_bool (b : Bool) : isiB (.bl b) "bool" = some true := rfl
theorem x_isB_1_tuple (b : Bool) : isiB (.bl b) "tuple" = some false := rfl
theorem x_isB_1_list (b : Bool) : isiB (.bl b) "list" = some false := rfl
theorem x_isB_1_str (b : Bool) : isiB (.bl b) "str" = some false := rfl
theorem x_isB_2_int (b : Int) : isiB (.int b) "int" = some true := rfl
theorem x_isB_2_bool (b : Int) : isiB (.int b) "bool" = some false := rfl
theorem x_isB_2_tuple (b : Int) : isiB (.int b) "tuple" = some false := rfl
theorem x_isB_2_list (b : Int) : isiB (.int b) "list" = some false := rfl
theorem x_isB_2_str (b : Int) : isiB (.int b) "str" = some false := rfl
theorem x_isB_3_int (b : Str) : isiB (.str b) "int" = some false := rfl
theorem x_isB_3_bool (b : Str) : isiB (.str b) "bool" = some false := rfl
theorem x_isB_3_tuple (b : Str) : isiB (.str b) "tuple" = some false := rfl
theorem x_isB_3_list (b : Str) : isiB (.str b) "list" = some false := rfl
theorem x_isB_3_str (b : Str) : isiB (.str b) "str" = some true := rfl
theorem x_isB_4_int (b : List D) : isiB (.tup b) "int" = some false := rfl
theorem x_isB_4_bool (b : List D) : isiB (.tup b) "bool" = some false := rfl
theorem x_isB_4_tuple (b : List D) : isiB (.tup b) "tuple" = some true := rfl
theorem x_isB_4_list (b : List D) : isiB (.tup b) "list" = some false := rfl
theorem x_isB_4_str (b : List D) : isiB (.tup b) "str" = some false := rfl
theorem x_isB_5_int (b : List D) : isiB (.lst b) "int" = some false := rfl
theorem x_isB_5_bool (b : List D) : isiB (.lst b) "bool" = some false := rfl
theorem x_isB_5_tuple (b : List D) : isiB (.lst b) "tuple" = some false := rfl
theorem x_isB_5_list (b : List D) : isiB (.lst b) "list" = some true := rfl
theorem x_isB_5_str (b : List D) : isiB (.lst b) "str" = some false := rfl
def kIs2 (a b : Option Bool) : Option R := match a, b with
  | some a, some b => some (.dat (.bl (a || b)))
  | _, _ => none
theorem x_isi2 (d : D) (n m : String) : bIsi d (.tup [.ty n, .ty m]) = kIs2 (isiB d n) (isiB d m) := by unfold kIs2; rfl
theorem x_kIs2 (a b : Bool) : kIs2 (some a) (some b) = some (.dat (.bl (a || b))) := rfl
theorem lim0 : (0 ≤ LIM) = True := by simp [LIM]
theorem limt0 : (0 < LIM) = True := by simp [LIM]
theorem lim1 : (1 ≤ LIM) = True := by simp [LIM]
theorem limt1 : (1 < LIM) = True := by simp [LIM]
theorem lim2 : (2 ≤ LIM) = True := by simp [LIM]
theorem limt2 : (2 < LIM) = True := by simp [LIM]
theorem lim3 : (3 ≤ LIM) = True := by simp [LIM]
theorem limt3 : (3 < LIM) = True := by simp [LIM]
theorem lim4 : (4 ≤ LIM) = True := by simp [LIM]
theorem limt4 : (4 < LIM) = True := by simp [LIM]
theorem lim5 : (5 ≤ LIM) = True := by simp [LIM]
theorem limt5 : (5 < LIM) = True := by simp [LIM]
theorem lim6 : (6 ≤ LIM) = True := by simp [LIM]
theorem limt6 : (6 < LIM) = True := by simp [LIM]
theorem lim7 : (7 ≤ LIM) = True := by simp [LIM]
theorem limt7 : (7 < LIM) = True := by simp [LIM]
theorem lim8 : (8 ≤ LIM) = True := by simp [LIM]
theorem limt8 : (8 < LIM) = True := by simp [LIM]
theorem lim9 : (9 ≤ LIM) = True := by simp [LIM]
theorem limt9 : (9 < LIM) = True := by simp [LIM]
theorem lim10 : (10 ≤ LIM) = True := by simp [LIM]
theorem limt10 : (10 < LIM) = True := by simp [LIM]
theorem lim11 : (11 ≤ LIM) = True := by simp [LIM]
theorem limt11 : (11 < LIM) = True := by simp [LIM]
theorem pos_succ (n : Nat) : decide ((0 : Int) < ((n + 1 : Nat) : Int)) = true := decide_eq_true (by omega)
theorem pos_zero : decide ((0 : Int) < ((0 : Nat) : Int)) = false := by decide
theorem ixN_last (n : Nat) : ixN (n + 1) (-1) = some n := by
  unfold ixN
  rw [if_neg (by decide), if_pos (by omega)]
  congr 1
  omega
theorem get_last1 {α β : Type} (f : α → β) (m : List α) (y : α) : (List.map f (m ++ [y]))[m.length]? = some (f y) := by simp
theorem get_last2 {α β γ : Type} (f : β → γ) (g : α → β) (m : List α) (y : α) : (List.map f (List.map g (m ++ [y])))[m.length]? = some (f (g y)) := by simp
theorem last_map {α β : Type} (f : α → β) (m : List α) (y : α) : (List.map f (m ++ [y])).getLast? = some (f y) := by simp
theorem drop_map {α β : Type} (f : α → β) (m : List α) (y : α) : (List.map f (m ++ [y])).dropLast = List.map f m := by simp
theorem map_snoc {α β : Type} (f : α → β) (m : List α) (y : α) : List.map f m ++ [f y] = List.map f (m ++ [y]) := by simp
theorem kIR1_ok {n : Int} {e : Env} (h0 : -1000000000 ≤ n) (h1 : n ≤ 1000000000) : kIR1 [.dat (.int n)] e = .ok (rng 0 n.toNat) e := by
  unfold kIR1
  dsimp only
  rw [if_pos]
  rw [decide_eq_true (by omega), decide_eq_true (by omega)]
  rfl
theorem kIR1_nat {n : Nat} {e : Env} (h1 : n ≤ 1000000000) : kIR1 [.dat (.int n)] e = .ok (rng 0 n) e := by
  rw [kIR1_ok (by omega) (by omega), Int.toNat_natCast]
theorem rng_mem {lo : Int} {n : Nat} {x : D} (h : x ∈ rng lo n) : ∃ k : Nat, k < n ∧ x = .int (lo + k) := by
  unfold rng at h
  obtain ⟨k, hk, rfl⟩ := List.mem_map.mp h
  exact ⟨k, List.mem_range.mp hk, rfl⟩
theorem rng_mem0 {n : Nat} {x : D} (h : x ∈ rng 0 n) : ∃ k : Nat, k < n ∧ x = .int k := by
  obtain ⟨k, hk, rfl⟩ := rng_mem h
  exact ⟨k, hk, by rw [Int.zero_add]⟩
theorem rng_get {lo : Int} {n k : Nat} {x : D} (h : (rng lo n)[k]? = some x) : k < n ∧ x = .int (lo + k) := by
  unfold rng at h
  rw [List.getElem?_map, Option.map_eq_some_iff] at h
  obtain ⟨j, h1, rfl⟩ := h
  have hk := (List.getElem?_eq_some_iff.mp h1).1
  rw [List.length_range] at hk
  rw [List.getElem?_range hk] at h1
  cases h1
  exact ⟨hk, rfl⟩
theorem rng_map {α : Type} (F : D → α) (n : Nat) : (rng 0 n).map F = (List.range n).map fun (k : Nat) => F (.int k) := by
  unfold rng
  rw [List.map_map]
  refine List.map_congr_left fun k _ => ?_
  simp
/-- one step on: the words of a mirror taken apart -/
def mwAll := And.intro @x_isB_0_int ( And.intro @x_isB_0_bool ( And.intro @x_isB_0_tuple ( And.intro @x_isB_0_list ( And.intro @x_isB_0_str ( And.intro @x_isB_1_int ( And.intro @x_isB_1_bool ( And.intro @x_isB_1_tuple ( And.intro @x_isB_1_list ( And.intro @x_isB_1_str ( And.intro @x_isB_2_int ( And.intro @x_isB_2_bool ( And.intro @x_isB_2_tuple ( And.intro @x_isB_2_list ( And.intro @x_isB_2_str ( And.intro @x_isB_3_int ( And.intro @x_isB_3_bool ( And.intro @x_isB_3_tuple ( And.intro @x_isB_3_list ( And.intro @x_isB_3_str ( And.intro @x_isB_4_int ( And.intro @x_isB_4_bool ( And.intro @x_isB_4_tuple ( And.intro @x_isB_4_list ( And.intro @x_isB_4_str ( And.intro @x_isB_5_int ( And.intro @x_isB_5_bool ( And.intro @x_isB_5_tuple ( And.intro @x_isB_5_list ( And.intro @x_isB_5_str ( And.intro @x_isi2 ( And.intro @x_kIs2 ( And.intro @x_mVar ( And.intro @x_kVar_0 ( And.intro @x_kVar_1 ( And.intro @x_kVar_2 ( And.intro @x_kVar_3 ( And.intro @x_kVar_4 ( And.intro @x_mC ( And.intro @x_mFz ( And.intro @x_kOp2 ( And.intro @x_kOp1 ( And.intro @x_mOp ( And.intro @x_kUn ( And.intro @x_mUn ( And.intro @x_mB ( And.intro @x_kAndV_0 ( And.intro @x_kAndV_1 ( And.intro @x_mAndV ( And.intro @x_kOrV_0 ( And.intro @x_kOrV_1 ( And.intro @x_mOrV ( And.intro @x_kNotV ( And.intro @x_mNotV ( And.intro @x_kIfE_0 ( And.intro @x_kIfE_1 ( And.intro @x_mIfE ( And.intro @x_kAnd_0 ( And.intro @x_kAnd_1 ( And.intro @x_mAnd ( And.intro @x_kOr_0 ( And.intro @x_kOr_1 ( And.intro @x_mOr ( And.intro @x_kNot ( And.intro @x_mNot ( And.intro @x_mYes ( And.intro @x_kCh4 ( And.intro @x_kCh3_0 ( And.intro @x_kCh3_1 ( And.intro @x_kCh2b ( And.intro @x_kCh2 ( And.intro @x_kCh1 ( And.intro @x_mChain ( And.intro @x_mNil ( And.intro @x_kCons2 ( And.intro @x_kCons1 ( And.intro @x_mCons ( And.intro @x_mTup ( And.intro @x_mLst ( And.intro @x_kCB ( And.intro @x_mCB ( And.intro @x_kIx3_0 ( And.intro @x_kIx3_1 ( And.intro @x_kIx2 ( And.intro @x_kIx1 ( And.intro @x_mIx ( And.intro @x_kIn3_0 ( And.intro @x_kIn3_1 ( And.intro @x_kIn2 ( And.intro @x_kIn1 ( And.intro @x_mInA ( And.intro @x_mFld ( And.intro @x_kSl3 ( And.intro @x_kSl2 ( And.intro @x_kSl1 ( And.intro @x_mSl ( And.intro @x_kRev ( And.intro @x_mRevT ( And.intro @x_mNoP ( And.intro @x_mPart ( And.intro @x_kLm2 ( And.intro @x_kLm1 ( And.intro @x_mLm ( And.intro @x_kLm0 ( And.intro @x_mLm0 ( And.intro @x_kStr2 ( And.intro @x_mStrM ( And.intro @x_kCall ( And.intro @x_mCall ( And.intro @x_kCallP ( And.intro @x_mCallP ( And.intro @x_kMeth2 ( And.intro @x_kMeth1 ( And.intro @x_mMeth ( And.intro @x_kMake ( And.intro @x_mMake ( And.intro @x_mISeq ( And.intro @x_mIR1 ( And.intro @x_mIR2 ( And.intro @x_mIEnum ( And.intro @x_mIZip ( And.intro @x_mNext ( And.intro @x_mBreak ( And.intro @x_mCont ( And.intro @x_mRetN ( And.intro @x_mSeq ( And.intro @x_kIf_0 ( And.intro @x_kIf_1 ( And.intro @x_mIf ( And.intro @x_kDrop ( And.intro @x_mDrop ( And.intro @x_kRet ( And.intro @x_mRet ( And.intro @x_mAsg ( And.intro @x_mAsgG ( And.intro @x_kFor ( And.intro @x_mFor ( And.intro @x_kSub4_0 ( And.intro @x_kSub4_1 ( And.intro @x_kSub3 ( And.intro @x_kSub2b_0 ( And.intro @x_kSub2 ( And.intro @x_kSub1b_0 ( And.intro @x_kSub1 ( And.intro @x_mSub ( And.intro @x_kSetF2 ( And.intro @x_kSetF1b_0 ( And.intro @x_kSetF1 ( And.intro @x_mSetF ( And.intro @x_kRz2_0 ( And.intro @x_kRz ( And.intro @x_mRaise ( And.intro @x_kTry_0 ( And.intro @x_kTry_1 ( And.intro @x_kTry_2 ( And.intro @x_kTry_3 ( And.intro @x_kTry_4 ( And.intro @x_mTry ( And.intro @x_gNm ( And.intro @x_gN ( And.intro @x_gC ( And.intro @x_gTp ( And.intro @x_vw1 ( And.intro @x_vw2 ( And.intro @x_vw3 ( And.intro @x_sh1 ( And.intro @x_sh2 ( And.intro @x_sh3 ( And.intro @x_sh4 ( And.intro @x_put1 ( And.intro @x_put2 ( And.intro @x_snapR ( And.intro @x_snapO ( And.intro @x_outR1 ( And.intro @x_outR2 ( And.intro @x_fzA ( And.intro @x_kFz1 ( And.intro @x_kFz2 ( And.intro @x_kFz3 ( And.intro @x_setE0 ( And.intro @x_op2 ( And.intro @x_op2r ( And.intro @x_op2l ( And.intro @x_op2o ( And.intro @x_op2p ( And.intro @x_op2q ( And.intro @x_op1 ( And.intro @x_kO2 ( And.intro @x_kO1 ( And.intro @x_snaps0 ( And.intro @x_snaps1 ( And.intro @x_kSn ( And.intro @x_cbO ( And.intro @x_kCb ( And.intro @x_one ( And.intro @x_two ( And.intro @x_ixO ( And.intro @x_kIxC1 ( And.intro @x_kIxC2 ( And.intro @x_kIxC3 ( And.intro @x_ixD1 ( And.intro @x_ixD2 ( And.intro @x_ixD3 ( And.intro @x_isDic1 ( And.intro @x_isDic2 ( And.intro @x_isDic3 ( And.intro @x_isDic4 ( And.intro @x_isDic5 ( And.intro @x_isDic6 ( And.intro @x_isDic7 ( And.intro @x_isDic8 ( And.intro @x_chO ( And.intro @x_kChO ( And.intro @x_kChS1 ( And.intro @x_kChS2 ( And.intro @x_slD1 ( And.intro @x_slD2 ( And.intro @x_lmO ( And.intro @x_kLmO ( And.intro @x_kLmO0 ( And.intro @x_kLmS ( And.intro @x_isLst ( And.intro @x_append ( And.intro @x_pop ( And.intro @x_kPop ( And.intro @x_chR1 ( And.intro @x_chR2 ( And.intro @x_subL ( And.intro @x_kSuL ( And.intro @x_kSuN ( And.intro @x_kSuS ( And.intro @x_tupO ( And.intro @x_kTupO ( And.intro @x_lstO ( And.intro @x_kLstO ( And.intro @x_rowR ( And.intro @x_kRow ( And.intro @x_row1 ( And.intro @x_row2 ( And.intro @x_row3 ( And.intro @x_snap1 ( And.intro @x_snap2 ( And.intro @x_dats0 ( And.intro @x_dats1 ( And.intro @x_kVw1 ( And.intro @x_kVw2 ( And.intro @x_kVw3 ( And.intro @x_kVw4 ( And.intro @x_kVw5 ( And.intro @x_kVwP1 ( And.intro @x_kVwP2 ( And.intro @x_kVwP3 ( And.intro @x_oAddI ( And.intro @x_oSub ( And.intro @x_oMul ( And.intro @x_oLt ( And.intro @x_oLe ( And.intro @x_oGt ( And.intro @x_oGe ( And.intro @x_oIs ( And.intro @x_oIsNot ( And.intro @x_uNeg ( And.intro @x_len1 ( And.intro @x_len2 ( And.intro @x_len3 ( And.intro @x_int1 ( And.intro @x_int2 ( And.intro @x_abs ( And.intro @x_max ( And.intro @x_min ( And.intro @x_tup1 ( And.intro @x_tup2 ( And.intro @x_tup3 ( And.intro @x_list1 ( And.intro @x_list2 ( And.intro @x_list3 ( And.intro @x_isi ( And.intro @x_kBl ( And.intro @x_asI ( And.intro @x_callF ( And.intro @x_kCf ( And.intro @x_kCg ( And.intro @x_kCh1 ( And.intro @x_kCh2 ( And.intro @x_kRb1 ( And.intro @x_kRb2 ( And.intro @x_kCi ( And.intro @x_kCj ( And.intro @x_cells0 ( And.intro @x_cells1 ( And.intro @x_kCel ( And.intro @x_cell1 ( And.intro @x_cell2 ( And.intro @x_oneAl0 ( And.intro @x_oneAl1 ( And.intro @x_oneAl2 ( And.intro @x_isNoAl ( And.intro @x_backA0 ( And.intro @x_backA1 ( And.intro @x_backA2 ( And.intro @x_kBk1 ( And.intro @x_kBk2 ( And.intro @x_kBk3 ( And.intro @x_kBk4 ( And.intro @eq_int ( And.intro @ne_int ( And.intro @eq_tw ( And.intro @ne_tw ( And.intro @eq_bl ( And.intro @ne_bl ( And.intro @pos_succ ( And.intro @pos_zero ( And.intro @ixN_last ( And.intro @lim0 ( And.intro @limt0 ( And.intro @lim1 ( And.intro @limt1 ( And.intro @lim2 ( And.intro @limt2 ( And.intro @lim3 ( And.intro @limt3 ( And.intro @lim4 ( And.intro @limt4 ( And.intro @lim5 ( And.intro @limt5 ( And.intro @lim6 ( And.intro @limt6 ( And.intro @lim7 ( And.intro @limt7 ( And.intro @lim8 ( And.intro @limt8 ( And.intro @lim9 ( And.intro @limt9 ( And.intro @lim10 ( And.intro @limt10 ( And.intro @lim11 (@limt11))))))))))))))))))))))))))))))))))))))))))))))))))))))))))))))))))))))))))))))))))))))))))))))))))))))))))))))))))))))))))))))))))))))))))))))))))))))))))))))))))))))))))))))))))))))))))))))))))))))))))))))))))))))))))))))))))))))))))))))))))))))))))))))))))))))))))))))))))))))))))))))))))))))))))))))))))))))))))))))))))))))))))))))))
theorem ok_of_wp {o : Out R} {r : R} {cs : List C} (h : Out.wp (fun r' cs' => r' = r ∧ cs' = cs) (fun _ _ _ => False) o) : o = .ok r cs := by
  cases o with
  | ok a e => obtain ⟨rfl, rfl⟩ := h; rfl
  | ex => cases h
  | bad => cases h
theorem lcGo_map {g : MG} {ifs : MT} {el : ME} {vs : List Nat} {e : Env} {p : D → Bool} {F : D → D} : ∀ {xs : List D}, (∀ x ∈ xs, ∃ e1 e2 r e3, g x e = some e1 ∧ ifs e1 = .ok (p x) e2 ∧ wipeE e2 vs = e ∧ (p x = true → el e2 = .ok r e3 ∧ chR r = some (.dat (F x)) ∧ wipeE e3 vs = e)) → lcGo g ifs el vs xs e = .ok (((xs.filter p).map F).map C.dat) e
  | [], _ => rfl
  | x :: xs, h => by
    obtain ⟨e1, e2, r, e3, h1, h2, h3, h4⟩ := h x List.mem_cons_self
    have ih := lcGo_map (xs := xs) fun y hy => h y (List.mem_cons_of_mem _ hy)
    unfold lcGo
    rw [h1]
    dsimp only
    rw [h2, Out.bind_ok]
    cases hp : p x with
    | true =>
      obtain ⟨k1, k2, k3⟩ := h4 hp
      rw [if_pos rfl, k1, Out.bind_ok, k2]
      dsimp only
      rw [k3, ih, Out.bind_ok, List.filter_cons_of_pos hp]
      rfl
    | false =>
      rw [if_neg (by decide), h3, ih, List.filter_cons_of_neg (by rw [hp]; decide)]
/-- a comprehension that changes nothing -/
theorem mLc_filter {mi : MI} {g : MG} {ifs : MT} {el : ME} {vs : List Nat} {env e0 : Env} {xs : List D} {p : D → Bool} {F : D → D} (h0 : mi env = .ok xs e0) (hl : xs.length ≤ LIM) (hn : noOwn e0 vs = true)
    (hs : ∀ x ∈ xs, ∃ e1 e2 r e3, g x (wipeE e0 vs) = some e1 ∧ ifs e1 = .ok (p x) e2 ∧ wipeE e2 vs = wipeE e0 vs ∧ (p x = true → el e2 = .ok r e3 ∧ chR r = some (.dat (F x)) ∧ wipeE e3 vs = wipeE e0 vs)) (hb : backE e0 (wipeE e0 vs) vs = e0) :
    mLc mi g ifs el vs env = .ok (.own (.lst (((xs.filter p).map F).map C.dat))) e0 := by
  unfold mLc
  rw [h0, Out.bind_ok, decide_eq_true hl, hn]
  simp only [Bool.and_self, if_true]
  rw [lcGo_map hs, noEx_ok, Out.bind_ok, hb]
theorem blsOf_mapP {α : Type} (p : α → Bool) : ∀ xs : List α, blsOf (xs.map fun x => .bl (p x)) = some (xs.map p)
  | [] => rfl
  | x :: xs => by simp only [List.map_cons, blsOf, blsOf_mapP p xs, Option.map_some]
theorem all_map {α : Type} (p : α → Bool) (xs : List α) : bAll (.lst (xs.map fun x => .bl (p x))) = some (.dat (.bl (xs.all p))) := by
  simp only [bAll, blsOf_mapP, Option.map_some]
  rw [List.all_map]
  rfl
theorem any_map {α : Type} (p : α → Bool) (xs : List α) : bAny (.lst (xs.map fun x => .bl (p x))) = some (.dat (.bl (xs.any p))) := by
  simp only [bAny, blsOf_mapP, Option.map_some]
  rw [List.any_map]
  rfl
theorem plns_mem {ds : List D} (h : D.plns ds = true) {x : D} (hx : x ∈ ds) : x.pln = true := by
  rw [plns_all] at h
  exact List.all_eq_true.mp h x hx
theorem pln_tup {ds : List D} (h : (D.tup ds).pln = true) : D.plns ds = true := by simpa [D.pln] using h
theorem mLc_nmF {mi : MI} {ifs : MT} {el : ME} {i : Nat} {env e0 : Env} {xs : List D} {p : D → Bool} {F : D → D} {c : C} (h0 : mi env = .ok xs e0) (hl : xs.length ≤ LIM) (hi : e0[i]? = some c) (hc : c.own = false)
    (hp : ∀ x ∈ xs, ifs (e0.set i (.dat x)) = .ok (p x) (e0.set i (.dat x))) (he : ∀ x ∈ xs, p x = true → el (e0.set i (.dat x)) = .ok (.dat (F x)) (e0.set i (.dat x))) :
    mLc mi (gNm i) ifs el [i] env = .ok (.own (.lst (((xs.filter p).map F).map C.dat))) e0 := by
  have li : i < e0.length := (List.getElem?_eq_some_iff.mp hi).1
  have w : ∀ e : Env, wipeE e [i] = e.set i .non := fun e => rfl
  have ss : ∀ (e : Env) (a b : C), (e.set i a).set i b = e.set i b := fun e a b => List.set_set ..
  refine mLc_filter h0 hl (by simp [noOwn, hi, hc]) (fun x hx => ?_) ?_
  · refine ⟨e0.set i (.dat x), e0.set i (.dat x), .dat (F x), e0.set i (.dat x), ?_, hp x hx, ?_, fun h => ⟨he x hx h, rfl, ?_⟩⟩
    · rw [w, x_gNm, if_pos (by rw [List.length_set]; exact li), ss]
    · rw [w, w, ss]
    · rw [w, w, ss]
  · rw [w]
    simp only [backE, hi]
    rw [ss]
    exact List.ext_getElem? fun k => by
      by_cases hk : i = k
      · subst hk
        rw [List.getElem?_set_self li, hi]
      · rw [List.getElem?_set_ne hk]
theorem mLc_nm {mi : MI} {el : ME} {i : Nat} {env e0 : Env} {xs : List D} {F : D → D} {c : C} (h0 : mi env = .ok xs e0) (hl : xs.length ≤ LIM) (hi : e0[i]? = some c) (hc : c.own = false)
    (he : ∀ x ∈ xs, el (e0.set i (.dat x)) = .ok (.dat (F x)) (e0.set i (.dat x))) :
    mLc mi (gNm i) mYes el [i] env = .ok (.own (.lst ((xs.map F).map C.dat))) e0 := by
  have := mLc_nmF (ifs := mYes) (p := fun _ => true) (F := F) h0 hl hi hc (fun _ _ => rfl) fun x hx _ => he x hx
  rw [List.filter_eq_self.mpr (fun _ _ => rfl)] at this
  exact this
theorem ex_of_wp {o : Out R} {c : Nat} {fs : List (Nat × D)} {cs : List C} (h : Out.wp (fun _ _ => False) (fun c' fs' cs' => c' = c ∧ fs' = fs ∧ cs' = cs) o) : o = .ex c fs cs := by
  cases o with
  | ok a e => cases h
  | ex => obtain ⟨rfl, rfl, rfl⟩ := h; rfl
  | bad => cases h
theorem outC0 (e : Env) : outCs [] e = [] := by cases e <;> rfl
theorem outC1 (d : D) (cs : List C) (c : C) (e : Env) : outCs (.dat d :: cs) (c :: e) = .dat d :: outCs cs e := rfl
theorem outC2 (l : List C) (cs : List C) (c : C) (e : Env) : outCs (.lst l :: cs) (c :: e) = c :: outCs cs e := rfl
theorem ixN_int {n : Nat} {k : Int} (h0 : 0 ≤ k) (h : k < n) : ixN n k = some k.toNat := by
  unfold ixN
  rw [if_pos h0, if_pos h]
theorem atI_int {α : Type} {xs : List α} {k : Int} {x : α} (h0 : 0 ≤ k) (h : xs[k.toNat]? = some x) : atI xs k = some x := by
  have hk := (List.getElem?_eq_some_iff.mp h).1
  unfold atI
  rw [ixN_int h0 (by omega)]
  exact h
theorem atI_neg1 {α : Type} {xs : List α} (x : α) : atI (xs ++ [x]) (-1) = some x := by
  have e : ixN (xs ++ [x]).length (-1) = some xs.length := by
    unfold ixN
    rw [List.length_append]
    simp
    omega
  unfold atI
  rw [e]
  simp
theorem wp_forSeq {g : MG} {b rest : MS} {d : De} {px : PX} {xs : List D} {e : Env} (I : Nat → Env → Prop) (h0 : I 0 e) (step : ∀ k x e, xs[k]? = some x → I k e → ∃ e1, g x e = some e1 ∧ SO.wp { nx := I (k + 1), ct := I (k + 1), bk := fun e => SO.wp d px (rest e), rt := d.rt } px (b e1)) (fin : ∀ e, I xs.length e → SO.wp d px (rest e)) : SO.wp d px ((forGo g b xs e).seq rest) := by
  rw [wp_seq]
  exact wp_forGo I h0 step fin
theorem wp_forSeqB {g : MG} {b rest : MS} {d : De} {px : PX} {xs : List D} {e : Env} (I : Nat → Env → Prop) (J : Env → Prop) (h0 : I 0 e) (hJ : ∀ e, I xs.length e → J e) (step : ∀ k x e, xs[k]? = some x → I k e → ∃ e1, g x e = some e1 ∧ SO.wp { nx := I (k + 1), ct := I (k + 1), bk := J, rt := d.rt } px (b e1)) (fin : ∀ e, J e → SO.wp d px (rest e)) : SO.wp d px ((forGo g b xs e).seq rest) := by
  rw [wp_seq]
  exact wp_forGo I h0 (fun k x e hx hk => by
    obtain ⟨e1, h1, h2⟩ := step k x e hx hk
    exact ⟨e1, h1, SO.wp_imp h2 (fun _ h => h) (fun _ _ h => h) (fun e h => fin e h) fun _ h => h⟩) fun e h => fin e (hJ e h)
theorem wp_cut {o : SO} {b : MS} {d : De} {px : PX} (J : Env → Prop) (h : SO.wp { d with nx := J } px o) (k : ∀ e, J e → SO.wp d px (b e)) : SO.wp d px (o.seq b) := by
  rw [wp_seq]
  exact SO.wp_imp h k (fun _ _ h => h) (fun _ h => h) fun _ h => h
theorem wp_kRb {rs : List R} {e : Env} {o : Out R} {P : R → Env → Prop} {px : PX} (h : Out.wp (fun r cs' => ∃ e', backA e rs cs' = some e' ∧ P r e') (fun c fs cs' => ∃ e', backA e rs cs' = some e' ∧ px c fs e') o) : Out.wp P px (kRb rs e o) := by
  cases o with
  | bad => cases h
  | ok r cs' =>
    obtain ⟨e', k1, k2⟩ := h
    rw [x_kRb1, k1]
    exact k2
  | ex c fs cs' =>
    obtain ⟨e', k1, k2⟩ := h
    rw [x_kRb2, k1]
    exact k2
/-- the innermost piece first -/
theorem inV_bls (b : Bool) (bs : List Bool) : inV (.bl b) (bs.map V.bl) = bs.contains b := by
  unfold inV
  induction bs with
  | nil => rfl
  | cons n ns ih =>
    rw [List.map_cons, List.any_cons, ih, List.contains_cons]
    have e : eqV (V.bl n) (V.bl b) = (b == n) := by cases b <;> cases n <;> rfl
    rw [e]
theorem all_not {α : Type} (f : α → Bool) : ∀ ds : List α, ds.all f = !((ds.map f).contains false)
  | [] => rfl
  | a :: as => by
    rw [List.all_cons, List.map_cons, List.contains_cons, all_not f as]
    cases f a <;> simp
theorem notin_false {α : Type} (p : α → Bool) (xs : List α) : oIn true (.bl false) (.lst (xs.map fun x => .bl (p x))) = some (.dat (.bl (xs.all p))) := by
  have e1 : ((xs.map fun x => D.bl (p x)).all flatD) = true := by
    rw [List.all_map]
    exact List.all_eq_true.mpr fun x _ => rfl
  have e2 : (xs.map fun x => D.bl (p x)).map toV = (xs.map p).map V.bl := by
    rw [List.map_map, List.map_map]
    rfl
  simp only [oIn, rowOf, e1, e2, flatD, toV, inV_bls, Bool.and_self, if_true]
  rw [← all_not]
theorem oAdd_tw {a b : List Int} (h : a.length + b.length ≤ LIM) : oAdd (tw a) (tw b) = some (.dat (tw (a ++ b))) := by
  unfold oAdd
  dsimp only
  rw [if_pos (by rw [List.length_map, List.length_map]; exact h), tw, List.map_append]
theorem x_hGo1 (h i : Nat) (m : List (Nat × D) → MS) (r : List Hm) (c : Nat) (fs : List (Nat × D)) (e : Env) : hGo (⟨h, some i, m⟩ :: r) c fs e = if excSub c h = true then (if i < e.length then (m fs (e.set i .non)).clr i else .bad) else hGo r c fs e := rfl
theorem x_clr2 (i : Nat) (r : R) (e : Env) : SO.clr i (.rt r e) = .rt r e := rfl
theorem x_mXf (f : Nat) (fs : List (Nat × D)) (env : Env) : mXf f fs env = (match fs.lookup f with | some d => .ok (.dat d) env | none => .bad) := by unfold mXf; cases fs.lookup f <;> rfl
theorem lookup_one (f : Nat) (d : D) : List.lookup f [(f, d)] = some d := by simp [List.lookup]
end M
set_option Elab.async false
set_option linter.all false
set_option maxRecDepth 100000
set_option maxHeartbeats 1000000
namespace MR
open PySem PySem.Spec PyProof.Rows L2
end MR
namespace M
open PySem PySem.Spec PyProof.Rows L2 MR RZ
/-- d.get(k), d.get(k, x) -/
def getO (x y : R) (z : D) (e : M.Env) : Out R := match dgO x y e with
  | some (some (.dat d), _) => .ok (.dat d) e
  | some (none, _) => .ok (.dat z) e
  | _ => .bad
def mGet1 (a b : ME) : ME := fun env => (a env).bind fun x e1 => grd (x.sh && isDic (vw e1 x)) ((b e1).bind fun y e2 => getO x y .non e2)
def get2O (x y : R) (e : M.Env) (z : R) : Out R := match z with
  | .dat d => getO x y d e
  | _ => .bad
def mGet2 (a b c : ME) : ME := fun env => (a env).bind fun x e1 => grd (x.sh && isDic (vw e1 x)) ((b e1).bind fun y e2 => grd y.sh ((c e2).bind fun z e3 => get2O x y e3 z))
def ofS (o : SO) (d : D) : Out R := match o with
  | .nx e => .ok (.dat d) e
  | _ => .bad
def isOwnD (c : Option C) : Bool := match c with
  | some (.dic false kvs) => decide (kvs.length < LIM)
  | some (.ndc kvs) => decide (kvs.length < LIM)
  | _ => false
def setdO (x y : R) (d : D) (e : M.Env) : Out R := match dgO x y e with
  | some (some (.dat d'), _) => .ok (.dat d') e
  | some (none, _) => ofS (subD (.dat d) x y e) d
  | _ => .bad
def setd2O (x y : R) (e : M.Env) (z : R) : Out R := match z with
  | .dat d => grd (isOwnD (vw e x)) (setdO x y d e)
  | _ => .bad
def mSetd (a b c : ME) : ME := fun env => (a env).bind fun x e1 => grd (x.sh && isDic (vw e1 x)) ((b e1).bind fun y e2 => grd y.sh ((c e2).bind fun z e3 => setd2O x y e3 z))
def mDNewK : ME := fun env => .ok (.own (.dic false [])) env
def mDNewN : ME := fun env => .ok (.own (.ndc [])) env
def dispK (dk : D) (c : C) : Option R := match kdOf dk with
  | some (.a k) => some (.own (.dic false [(.a k, c)]))
  | _ => none
def dispN (dk : D) (c : C) : Option R := match nkT dk, c with
  | some k, .dat d => some (.own (.ndc [(k, d)]))
  | _, _ => none
def dispG (o : D → C → Option R) (x y : R) (e : M.Env) : Out R := match x, chR y with
  | .dat dk, some c => ofO (o dk c) e
  | _, _ => .bad
def isKK : R → Bool
  | .dat (.int _) => true
  | .dat (.str _) => true
  | _ => false
def mDispG (o : R → R → M.Env → Out R) (a b : ME) : ME := fun env => (a env).bind fun x e1 => grd x.sh ((b e1).bind fun y e2 => o x y e2)
def dispO (x y : R) (e : M.Env) : Out R := if isKK x = true then dispG dispK x y e else dispG dispN x y e
/-- {k: v} -/
def mDisp1 (a b : ME) : ME := mDispG dispO a b
/-- isinstance(x, an own class) -/
def isiCO (c : Nat) (o : Option C) : Option Bool := match o with
  | some (.dat (.ins c' _)) => if c' = c then some true else none
  | some (.obj c' _) => if c' = c then some true else none
  | some (.dat d) => if (tyN d).isSome = true then (match d with | .src _ => none | _ => some false) else none
  | some (.lst _) => some false
  | some (.tup _) => some false
  | _ => none
def mIsiC (c : Nat) (a : ME) : ME := fun env => (a env).bind fun x e => match isiCO c (vw e x) with
  | some b => .ok (.dat (.bl b)) e
  | none => .bad
/-- xs.index(x) -/
def idxD (d : D) : List D → Option Nat
  | [] => none
  | e :: r => if eqD e d = true then some 0 else (idxD d r).map (· + 1)
def bIndex : D → D → Option R := fun l d => match l with
  | .lst ds => if (shp (.lst ds) && shp d) = true then (idxD d ds).map fun n => .dat (.int (n : Nat)) else none
  | _ => none
def isLstD (c : Option C) : Bool := match c with
  | some (.lst _) => true
  | some (.dat (.lst _)) => true
  | _ => false
def mIndex (a b : ME) : ME := fun env => (a env).bind fun x e1 => grd (x.sh && isLstD (vw e1 x)) ((b e1).bind fun y e2 => op2 bIndex x y e2)
/-- for k in d -/
def rowK : D → Option (List D)
  | .dic false kvs => if kvs.length ≤ LIM then some (kvs.map fun p => kdD p.1) else none
  | _ => none
def rowDO (r : R) (e : M.Env) : Out (List D) := match r with
  | .dat d => (match rowK d with
    | some ds => .ok ds e
    | none => .bad)
  | _ => .bad
def mIKeys (m : ME) : MI := fun env => (m env).bind rowDO
/-- len of a thing whose parts may be one's own -/
def lenC : Option C → Option Int
  | some (.lst cs) => some cs.length
  | some (.tup cs) => some cs.length
  | some (.dat (.lst ds)) => some ds.length
  | some (.dat (.tup ds)) => some ds.length
  | _ => none
def mLenC (a : ME) : ME := fun env => (a env).bind fun x e => match lenC (vw e x) with
  | some n => .ok (.dat (.int n)) e
  | none => .bad
/-- xs.append(a new thing) -/
def appO (x r : R) (e : M.Env) : Out R := match x, chR r with
  | .al i p, some c => (match vw e (.al i p) with
    | some (.lst cs) => if cs.length < LIM then .ok (.dat .non) (setE e i p (.lst (cs ++ [c]))) else .bad
    | _ => .bad)
  | _, _ => .bad
def mAppC (a b : ME) : ME := fun env => (a env).bind fun x e1 => grd (x.sh && isLst (vw e1 x)) ((b e1).bind fun r e2 => appO x r e2)
section
variable {X : Cx} {W : Wo} {k kk n : Nat} {pu pb : Bool} {a b c e f : Expr} {es : List Expr} {ma mb mc me : ME} {mA : MA} {pos pos' p p2 apos cpos : Pos} {x : Str}
variable {env0 env env' env2 : M.Env} {σ σ' σ2 : L2.St} {H0 H H0' H' A0 A B B' : Hp} {F FA F' F2 : List Addr} {v : V} {r : R} {d : D} {Z : Addr → Prop} {T : Tb}
/-- a new thing that nobody has is written -/
theorem Stp.fresh {L : Addr} {o : HO} (S : Stp W pu env0 σ A0 A FA env H0 H F) (hA : A L = none) (h0 : H0 L = none) (nL : L ∉ F) : Stp W pu env0 σ A0 A FA env H0 (upd H L o) F where
  ok := ⟨S.ok.sl.mono (.refl _) fun a ha => upd_ne fun z => nL (by rw [← z]; exact ha), S.ok.nd, S.ok.h0, fun a u e => by rw [upd_ne fun z => by rw [z, h0] at e; cases e]; exact S.ok.sm a u e, S.ok.cu⟩
  hg := ⟨S.hg.k0, fun a n al g0 => by
    obtain ⟨q1, q2⟩ := S.hg.keep a n al g0
    exact ⟨by rw [upd_ne fun z => al (by rw [z]; exact hA)]; exact q1, q2⟩, fun a al => by
    rw [upd_ne fun z => al (by rw [z]; exact hA)]
    exact S.hg.al a al, S.hg.ow⟩
  fs := ⟨S.fs.pr, fun i f s k o => by
    obtain ⟨o1, n1⟩ := S.fs.st i f s k o
    refine ⟨o1, fun v0 v e0 nv => ?_⟩
    obtain ⟨a, B, dx, ws, e1, e2, e3⟩ := nv
    obtain ⟨a', B', dx', ws', g1, g2, g3⟩ := n1 v0 v e0 ⟨a, B, dx, ws, e1, e2, e3⟩
    rw [e1] at g1
    injection g1 with g1
    subst g1
    exact ⟨a, B', dx', ws', e1, by rw [upd_ne fun z => by rw [z, hA] at e2; cases e2]; exact g2, g3⟩⟩
  pu := fun hp => ⟨fun a u e => by rw [upd_ne (ne_of_none e hA)]; exact (S.pu hp).1 a u e, (S.pu hp).2⟩
theorem Hg.kept {A0 A H0 H : Hp} {FA F : List Addr} (g : Hg A0 A FA H0 H F) {l : Addr} (n : l ∉ FA) (al : A l ≠ none) (h0 : A0 l = none) : H l = A l ∧ H0 l = none ∧ l ∉ F := by
  obtain ⟨q1, q2⟩ := g.keep l n al h0
  exact ⟨q1, q2, fun z => (g.ow l z).elim n al⟩
/-- the dict that grows -/
structure DcSt (T : Tb) (L : Addr) (kvs : List (Kd × D)) (ws : List (Key × V)) (H0 H : Hp) (F : List Addr) : Prop where
  at_ : H L = some (.dK ws)
  ks : kvs.map (·.1) = ws.map (fun w => Kd.a w.1)
  nd : (kvs.map (·.1)).Nodup
  da : DdAll T H0 (ws.map (·.2)) (kvs.map (·.2))
  h0 : H0 L = none
  nF : L ∉ F
theorem DcSt.hg {L : Addr} {kvs : List (Kd × D)} {ws : List (Key × V)} (h : DcSt T L kvs ws H0 H F) (g : Hg H0 H F H0' H' F') : DcSt T L kvs ws H0' H' F' := by
  obtain ⟨q1, q2, q3⟩ := g.kept h.nF (by rw [h.at_]; exact fun z => by cases z) h.h0
  exact ⟨q1.trans h.at_, h.ks, h.nd, h.da.mono g.k0, q2, q3⟩
theorem DcSt.sub {L : Addr} {kvs : List (Kd × D)} {ws : List (Key × V)} (h : DcSt T L kvs ws H0 H F) (k : ∀ a ∈ F', a ∈ F) : DcSt T L kvs ws H0 H F' := ⟨h.at_, h.ks, h.nd, h.da, h.h0, fun z => h.nF (k _ z)⟩
end
end M
set_option Elab.async false
set_option linter.all false
set_option maxRecDepth 100000
set_option maxHeartbeats 1000000
namespace M
open PySem PySem.Spec PyProof.Rows L2 MR RZ
end M
set_option Elab.async false
set_option linter.all false
set_option maxRecDepth 100000
set_option maxHeartbeats 1000000
namespace M
open PySem PySem.Spec PyProof.Rows L2 MR
/-- a dict of numbers: the keys in order, the value of each -/
def dI (L : List Nat) (f : Nat → D) : List (Kd × D) := L.map fun (s : Nat) => (Kd.a (.inl (s : Int)), f s)
def cI (L : List Nat) (f : Nat → D) : List (Kd × C) := L.map fun (s : Nat) => (Kd.a (.inl (s : Int)), C.dat (f s))
theorem dI_look (L : List Nat) (f : Nat → D) (k : Nat) : (dI L f).lookup (.a (.inl (k : Int))) = if k ∈ L then some (f k) else none := by
  unfold dI
  induction L with
  | nil => rfl
  | cons a L ih =>
    rw [List.map_cons, List.lookup_cons]
    by_cases h : k = a
    · subst h; simp
    · have : ((Kd.a (.inl (k : Int))) == (Kd.a (.inl (a : Int)))) = false := by
        rw [beq_eq_false_iff_ne]
        intro z
        injection z with z
        injection z with z
        exact h (by omega)
      rw [this]
      dsimp only
      rw [ih]
      simp [h]
theorem cI_look (L : List Nat) (f : Nat → D) (k : Nat) : (cI L f).lookup (.a (.inl (k : Int))) = if k ∈ L then some (C.dat (f k)) else none := by
  unfold cI
  induction L with
  | nil => rfl
  | cons a L ih =>
    rw [List.map_cons, List.lookup_cons]
    by_cases h : k = a
    · subst h; simp
    · have : ((Kd.a (.inl (k : Int))) == (Kd.a (.inl (a : Int)))) = false := by
        rw [beq_eq_false_iff_ne]
        intro z
        injection z with z
        injection z with z
        exact h (by omega)
      rw [this]
      dsimp only
      rw [ih]
      simp [h]
theorem cI_len (L : List Nat) (f : Nat → D) : (cI L f).length = L.length := by unfold cI; rw [List.length_map]
theorem dI_len (L : List Nat) (f : Nat → D) : (dI L f).length = L.length := by unfold dI; rw [List.length_map]
theorem fzk_cI (L : List Nat) (f : Nat → D) : fzk (cI L f) = dI L f := by
  unfold cI dI
  rw [fzk_map, List.map_map]
  refine List.map_congr_left fun s _ => ?_
  simp [fz]
theorem zip_cI (L : List Nat) (f : Nat → D) : ((cI L f).map (·.1)).zip (L.map f) = dI L f := by
  unfold cI dI
  induction L with
  | nil => rfl
  | cons a L ih => simp only [List.map_cons, List.zip_cons_cons, ih]
theorem snap_cI (L : List Nat) (f : Nat → D) : snap (.dic false (cI L f)) = some (.dic false (dI L f)) := by
  have e1 : (cI L f).map (·.2) = (L.map f).map C.dat := by unfold cI; rw [List.map_map, List.map_map]; rfl
  simp only [snap, e1, dats_dat, Option.map_some, zip_cI]
def kDg (d : D) (c : Option C) : Option (Option C × Kd) := match c with
  | some (.dat (.dic t kvs)) => (match kdOf d with
    | some k => if k.isT = t then some ((kvs.lookup k).map .dat, k) else none
    | none => if (isNon d && !t) = true then some (none, kd0) else none)
  | some (.dic t kvs) => (match kdOf d with
    | some k => if k.isT = t then some (kvs.lookup k, k) else none
    | none => if (isNon d && !t) = true then some (none, kd0) else none)
  | some (.dat (.ndc kvs)) => (match nkT d with
    | some k => some ((kvs.lookup k).map .dat, kd0)
    | none => none)
  | some (.ndc kvs) => (match nkT d with
    | some k => some ((kvs.lookup k).map .dat, kd0)
    | none => none)
  | _ => none
theorem x_dg (x : R) (d : D) (e : M.Env) : dgO x (.dat d) e = kDg d (vw e x) := by
  unfold dgO kDg
  simp only [snapR_dat]
  all_goals
    generalize vw e x = o
    rcases o with _ | c
    · rfl
    · cases c with
      | dat d => cases d <;> rfl
      | _ => rfl
theorem x_kDg1 (i : Int) (kvs : List (Kd × C)) : kDg (.int i) (some (.dic false kvs)) = some (kvs.lookup (.a (.inl i)), .a (.inl i)) := rfl
theorem x_kDg2 (i : Int) (kvs : List (Kd × D)) : kDg (.int i) (some (.dat (.dic false kvs))) = some ((kvs.lookup (.a (.inl i))).map .dat, .a (.inl i)) := rfl
theorem x_kDg3 (kvs : List (Kd × C)) : kDg .non (some (.dic false kvs)) = some (none, kd0) := rfl
theorem x_kDg4 (kvs : List (Kd × D)) : kDg .non (some (.dat (.dic false kvs))) = some (none, kd0) := rfl
def kDgN (kvs : List (MN.NK × D)) (k : Option MN.NK) : Option (Option C × Kd) := match k with
  | some k => some ((kvs.lookup k).map .dat, kd0)
  | none => none
theorem x_kDg5 (d : D) (kvs : List (MN.NK × D)) : kDg d (some (.ndc kvs)) = kDgN kvs (nkT d) := rfl
theorem x_kDg6 (d : D) (kvs : List (MN.NK × D)) : kDg d (some (.dat (.ndc kvs))) = kDgN kvs (nkT d) := rfl
theorem x_kDgN (kvs : List (MN.NK × D)) (k : MN.NK) : kDgN kvs (some k) = some ((kvs.lookup k).map .dat, kd0) := rfl
theorem x_kInD2 (neg : Bool) (e : M.Env) (o : Option C) (k : Kd) : kInD neg e (some (o, k)) = .ok (.dat (.bl (if neg = true then !o.isSome else o.isSome))) e := rfl
def kDix (x : R) (e : M.Env) (o : Option (Option C × Kd)) : Out R := match o with
  | some (some c, k) => ofO (stepR x (.key k) c) e
  | _ => .bad
theorem x_dix (x y : R) (e : M.Env) : dixO x y e = kDix x e (dgO x y e) := rfl
theorem x_kDix (x : R) (e : M.Env) (d : D) (k : Kd) : kDix x e (some (some (.dat d), k)) = .ok (.dat d) e := rfl
def kGv (z : D) (e : M.Env) (o : Option (Option C × Kd)) : Out R := match o with
  | some (some (.dat d), _) => .ok (.dat d) e
  | some (none, _) => .ok (.dat z) e
  | _ => .bad
theorem x_getO (x y : R) (z : D) (e : M.Env) : getO x y z e = kGv z e (dgO x y e) := rfl
theorem x_kGv1 (z d : D) (e : M.Env) (k : Kd) : kGv z e (some (some (.dat d), k)) = .ok (.dat d) e := rfl
theorem x_kGv2 (z : D) (e : M.Env) (k : Kd) : kGv z e (some (none, k)) = .ok (.dat z) e := rfl
def kGt2 (x : R) : R → M.Env → Out R := fun y e => getO x y .non e
theorem x_kGt2 (x y : R) (e : M.Env) : kGt2 x y e = getO x y .non e := rfl
def kGt1 (b : ME) : R → M.Env → Out R := fun x e => grd (x.sh && isDic (vw e x)) ((b e).bind (kGt2 x))
theorem x_kGt1 (b : ME) (x : R) (e : M.Env) : kGt1 b x e = grd (x.sh && isDic (vw e x)) ((b e).bind (kGt2 x)) := rfl
theorem x_mGet1 (a b : ME) (env : M.Env) : mGet1 a b env = (a env).bind (kGt1 b) := rfl
def kGu3 (x y : R) : R → M.Env → Out R := fun z e => get2O x y e z
theorem x_kGu3 (x y : R) (d : D) (e : M.Env) : kGu3 x y (.dat d) e = getO x y d e := rfl
def kGu2 (c : ME) (x : R) : R → M.Env → Out R := fun y e => grd y.sh ((c e).bind (kGu3 x y))
theorem x_kGu2 (c : ME) (x y : R) (e : M.Env) : kGu2 c x y e = grd y.sh ((c e).bind (kGu3 x y)) := rfl
def kGu1 (b c : ME) : R → M.Env → Out R := fun x e => grd (x.sh && isDic (vw e x)) ((b e).bind (kGu2 c x))
theorem x_kGu1 (b c : ME) (x : R) (e : M.Env) : kGu1 b c x e = grd (x.sh && isDic (vw e x)) ((b e).bind (kGu2 c x)) := rfl
theorem x_mGet2 (a b c : ME) (env : M.Env) : mGet2 a b c env = (a env).bind (kGu1 b c) := rfl
def kSd (x y : R) (d : D) (e : M.Env) (o : Option (Option C × Kd)) : Out R := match o with
  | some (some (.dat d'), _) => .ok (.dat d') e
  | some (none, _) => ofS (subD (.dat d) x y e) d
  | _ => .bad
theorem x_setdO (x y : R) (d : D) (e : M.Env) : setdO x y d e = kSd x y d e (dgO x y e) := rfl
theorem x_kSd1 (x y : R) (d d' : D) (e : M.Env) (k : Kd) : kSd x y d e (some (some (.dat d'), k)) = .ok (.dat d') e := rfl
theorem x_kSd2 (x y : R) (d : D) (e : M.Env) (k : Kd) : kSd x y d e (some (none, k)) = ofS (subD (.dat d) x y e) d := rfl
theorem x_ofS (d : D) (e : M.Env) : ofS (.nx e) d = .ok (.dat d) e := rfl
def kSd3 (x y : R) : R → M.Env → Out R := fun z e => setd2O x y e z
theorem x_kSd3 (x y : R) (d : D) (e : M.Env) : kSd3 x y (.dat d) e = grd (isOwnD (vw e x)) (setdO x y d e) := rfl
def kSd2' (c : ME) (x : R) : R → M.Env → Out R := fun y e => grd y.sh ((c e).bind (kSd3 x y))
theorem x_kSd2' (c : ME) (x y : R) (e : M.Env) : kSd2' c x y e = grd y.sh ((c e).bind (kSd3 x y)) := rfl
def kSd1' (b c : ME) : R → M.Env → Out R := fun x e => grd (x.sh && isDic (vw e x)) ((b e).bind (kSd2' c x))
theorem x_kSd1' (b c : ME) (x : R) (e : M.Env) : kSd1' b c x e = grd (x.sh && isDic (vw e x)) ((b e).bind (kSd2' c x)) := rfl
theorem x_mSetd (a b c : ME) (env : M.Env) : mSetd a b c env = (a env).bind (kSd1' b c) := rfl
theorem x_own1 (kvs : List (Kd × C)) : isOwnD (some (.dic false kvs)) = decide (kvs.length < LIM) := rfl
theorem x_own2 (kvs : List (MN.NK × D)) : isOwnD (some (.ndc kvs)) = decide (kvs.length < LIM) := rfl
def kSb (c : C) (x y : R) (e : M.Env) : Bool → SO := fun b => if b = true then subN c x y e else subK c x y e
theorem x_subD (c : C) (x y : R) (e : M.Env) : subD c x y e = kSb c x y e (isNd (vw e x)) := rfl
theorem x_kSb1 (c : C) (x y : R) (e : M.Env) : kSb c x y e true = subN c x y e := rfl
theorem x_kSb2 (c : C) (x y : R) (e : M.Env) : kSb c x y e false = subK c x y e := rfl
theorem x_isNd1 (t : Bool) (kvs : List (Kd × C)) : isNd (some (.dic t kvs)) = false := rfl
theorem x_isNd2 (kvs : List (MN.NK × D)) : isNd (some (.ndc kvs)) = true := rfl
theorem x_isDic9 (kvs : List (MN.NK × D)) : isDic (some (.ndc kvs)) = true := rfl
theorem x_isDicA (kvs : List (MN.NK × D)) : isDic (some (.dat (.ndc kvs))) = true := rfl
def kSkP (d : D) (i : Nat) (p : List Pst) (k : Kd) (kvs : List (Kd × C)) (e : M.Env) (o : Option C) : SO := match o with
  | some (.dat _) => .nx (setE e i p (.dic false (setK k (.dat d) kvs)))
  | some _ => .bad
  | none => .nx (setE e i p (.dic false (kvs ++ [(k, .dat d)])))
def kSk (d : D) (i : Nat) (p : List Pst) (k : Int) (e : M.Env) (o : Option C) : SO := match o with
  | some (.dic false kvs) => if decide (kvs.length < LIM) = true then kSkP d i p (.a (.inl k)) kvs e (kvs.lookup (.a (.inl k))) else .bad
  | some (.dic true _) => .bad
  | _ => .bad
theorem x_subK (d : D) (i : Nat) (p : List Pst) (k : Int) (e : M.Env) : subK (.dat d) (.al i p) (.dat (.int k)) e = kSk d i p k e (vw e (.al i p)) := by
  unfold subK kSk
  simp only [snapR_dat, Option.bind_some, kdOf]
  cases vw e (.al i p) with
  | none => rfl
  | some c =>
    cases c with
    | dic t kvs =>
      cases t with
      | false =>
        simp only [Kd.isT, decide_true, Bool.true_and]
        by_cases h : kvs.length < LIM
        · simp only [h, decide_true, if_true, kSkP]
          all_goals
            cases kvs.lookup (.a (.inl k)) with
            | none => rfl
            | some c => cases c <;> rfl
        · simp only [h, decide_false, Bool.false_eq_true, if_false]
      | true => simp [Kd.isT]
    | _ => rfl
theorem x_kSk (d : D) (i : Nat) (p : List Pst) (k : Int) (e : M.Env) (kvs : List (Kd × C)) : kSk d i p k e (some (.dic false kvs)) = if decide (kvs.length < LIM) = true then kSkP d i p (.a (.inl k)) kvs e (kvs.lookup (.a (.inl k))) else .bad := rfl
theorem x_kSkP1 (d d' : D) (i : Nat) (p : List Pst) (k : Kd) (kvs : List (Kd × C)) (e : M.Env) : kSkP d i p k kvs e (some (.dat d')) = .nx (setE e i p (.dic false (setK k (.dat d) kvs))) := rfl
theorem x_kSkP2 (d : D) (i : Nat) (p : List Pst) (k : Kd) (kvs : List (Kd × C)) (e : M.Env) : kSkP d i p k kvs e none = .nx (setE e i p (.dic false (kvs ++ [(k, .dat d)]))) := rfl
def kSn2 (d : D) (i : Nat) (p : List Pst) (e : M.Env) (k : Option MN.NK) (o : Option C) : SO := match o, k with
  | some (.ndc kvs), some k => if kvs.length < LIM then .nx (setE e i p (.ndc (putL k d kvs))) else .bad
  | _, _ => .bad
theorem x_subN (d dk : D) (i : Nat) (p : List Pst) (e : M.Env) : subN (.dat d) (.al i p) (.dat dk) e = kSn2 d i p e (nkT dk) (vw e (.al i p)) := by
  unfold subN kSn2
  simp only [snapR_dat, Option.bind_some]
  generalize vw e (.al i p) = o
  rcases o with _ | c
  · rfl
  · cases c with
    | ndc kvs => cases nkT dk <;> rfl
    | _ => cases nkT dk <;> rfl
theorem x_kSn2 (d : D) (i : Nat) (p : List Pst) (e : M.Env) (k : MN.NK) (kvs : List (MN.NK × D)) : kSn2 d i p e (some k) (some (.ndc kvs)) = if kvs.length < LIM then .nx (setE e i p (.ndc (putL k d kvs))) else .bad := rfl
theorem x_mDNewK (e : M.Env) : mDNewK e = .ok (.own (.dic false [])) e := rfl
theorem x_mDNewN (e : M.Env) : mDNewN e = .ok (.own (.ndc [])) e := rfl
def kDp2 (x : R) : R → M.Env → Out R := fun y e => dispO x y e
theorem x_kDp2 (x y : R) (e : M.Env) : kDp2 x y e = dispO x y e := rfl
def kDp1 (b : ME) : R → M.Env → Out R := fun x e => grd x.sh ((b e).bind (kDp2 x))
theorem x_kDp1 (b : ME) (x : R) (e : M.Env) : kDp1 b x e = grd x.sh ((b e).bind (kDp2 x)) := rfl
theorem x_mDisp1 (a b : ME) (env : M.Env) : mDisp1 a b env = (a env).bind (kDp1 b) := rfl
theorem x_dispI (i : Int) (d : D) (e : M.Env) : dispO (.dat (.int i)) (.dat d) e = .ok (.own (.dic false [(.a (.inl i), .dat d)])) e := rfl
theorem x_dispIo (i : Int) (c : C) (e : M.Env) : dispO (.dat (.int i)) (.own c) e = .ok (.own (.dic false [(.a (.inl i), c)])) e := rfl
theorem x_len4 (t : Bool) (kvs : List (Kd × D)) : bLen (.dic t kvs) = some (.dat (.int kvs.length)) := rfl
theorem x_len5 (kvs : List (MN.NK × D)) : bLen (.ndc kvs) = some (.dat (.int kvs.length)) := rfl
theorem x_list4 (kvs : List (Kd × D)) : bList (.dic false kvs) = some (.own (.lst ((kvs.map fun p => kdD p.1).map .dat))) := rfl
theorem x_snapN (kvs : List (MN.NK × D)) : snap (.ndc kvs) = some (.ndc kvs) := rfl
theorem x_fzD (i : Nat) (p : List Pst) (e : M.Env) (t : Bool) (kvs : List (Kd × C)) : kFz i p e (some (.dic t kvs)) = .ok (.dat (.dic t (fzk kvs))) (setE e i p (.dat (.dic t (fzk kvs)))) := by simp [kFz, fz]
theorem x_fzN (i : Nat) (p : List Pst) (e : M.Env) (kvs : List (MN.NK × D)) : kFz i p e (some (.ndc kvs)) = .ok (.dat (.ndc kvs)) (setE e i p (.dat (.ndc kvs))) := by simp [kFz, fz]
theorem x_fzO (i : Nat) (p : List Pst) (e : M.Env) (t : Nat) (fs : List (Nat × C)) : kFz i p e (some (.obj t fs)) = .ok (.dat (.ins t (fzf fs))) (setE e i p (.dat (.ins t (fzf fs)))) := by simp [kFz, fz]
theorem x_kVw6 (kvs : List (MN.NK × D)) : kVw (some (.ndc kvs)) = some (.ndc kvs) := rfl
theorem x_kVwP4 (kvs : List (MN.NK × D)) : kVwP (some (.ndc kvs)) = some (.ndc kvs) := rfl
theorem x_kVwP5 (t : Nat) (cs : List (Nat × C)) : kVwP (some (.obj t cs)) = some (.obj t cs) := rfl
theorem x_kVar_5 (i : Nat) (kvs : List (MN.NK × D)) (env : M.Env) : kVar i (some (.ndc kvs)) env = .ok (.al i []) env := rfl
def kLc (o : Option C) (e : M.Env) : Out R := match lenC o with
  | some n => .ok (.dat (.int n)) e
  | none => .bad
def kLc1 : R → M.Env → Out R := fun x e => kLc (vw e x) e
theorem x_kLc1 (x : R) (e : M.Env) : kLc1 x e = kLc (vw e x) e := rfl
theorem x_mLenC (a : ME) (env : M.Env) : mLenC a env = (a env).bind kLc1 := rfl
theorem x_kLc (cs : List C) (e : M.Env) : kLc (some (.lst cs)) e = .ok (.dat (.int cs.length)) e := rfl
theorem x_kLcD (ds : List D) (e : M.Env) : kLc (some (.dat (.lst ds))) e = .ok (.dat (.int ds.length)) e := rfl
def kAp (i : Nat) (p : List Pst) (c : C) (e : M.Env) (o : Option C) : Out R := match o with
  | some (.lst cs) => if cs.length < LIM then .ok (.dat .non) (setE e i p (.lst (cs ++ [c]))) else .bad
  | _ => .bad
theorem x_appO1 (i : Nat) (p : List Pst) (c : C) (e : M.Env) : appO (.al i p) (.own c) e = kAp i p c e (vw e (.al i p)) := rfl
theorem x_appO2 (i : Nat) (p : List Pst) (d : D) (e : M.Env) : appO (.al i p) (.dat d) e = kAp i p (.dat d) e (vw e (.al i p)) := rfl
theorem x_kAp (i : Nat) (p : List Pst) (c : C) (e : M.Env) (cs : List C) : kAp i p c e (some (.lst cs)) = if cs.length < LIM then .ok (.dat .non) (setE e i p (.lst (cs ++ [c]))) else .bad := rfl
def kAp2 (x : R) : R → M.Env → Out R := fun r e => appO x r e
theorem x_kAp2 (x r : R) (e : M.Env) : kAp2 x r e = appO x r e := rfl
def kAp1 (b : ME) : R → M.Env → Out R := fun x e => grd (x.sh && isLst (vw e x)) ((b e).bind (kAp2 x))
theorem x_kAp1 (b : ME) (x : R) (e : M.Env) : kAp1 b x e = grd (x.sh && isLst (vw e x)) ((b e).bind (kAp2 x)) := rfl
theorem x_mAppC (a b : ME) (env : M.Env) : mAppC a b env = (a env).bind (kAp1 b) := rfl
def kIdx2 (x : R) : R → M.Env → Out R := fun y e => op2 bIndex x y e
theorem x_kIdx2 (x y : R) (e : M.Env) : kIdx2 x y e = op2 bIndex x y e := rfl
def kIdx1 (b : ME) : R → M.Env → Out R := fun x e => grd (x.sh && isLstD (vw e x)) ((b e).bind (kIdx2 x))
theorem x_kIdx1 (b : ME) (x : R) (e : M.Env) : kIdx1 b x e = grd (x.sh && isLstD (vw e x)) ((b e).bind (kIdx2 x)) := rfl
theorem x_mIndex (a b : ME) (env : M.Env) : mIndex a b env = (a env).bind (kIdx1 b) := rfl
theorem x_isLstD1 (cs : List C) : isLstD (some (.lst cs)) = true := rfl
theorem x_isLstD2 (ds : List D) : isLstD (some (.dat (.lst ds))) = true := rfl
def kIc (o : Option Bool) (e : M.Env) : Out R := match o with
  | some b => .ok (.dat (.bl b)) e
  | none => .bad
theorem x_kIc (b : Bool) (e : M.Env) : kIc (some b) e = .ok (.dat (.bl b)) e := rfl
def kIc1 (c : Nat) : R → M.Env → Out R := fun x e => kIc (isiCO c (vw e x)) e
theorem x_kIc1 (c : Nat) (x : R) (e : M.Env) : kIc1 c x e = kIc (isiCO c (vw e x)) e := rfl
theorem x_mIsiC (c : Nat) (a : ME) (env : M.Env) : mIsiC c a env = (a env).bind (kIc1 c) := rfl
theorem x_isiC1 (c c' : Nat) (fs : List (Nat × D)) : isiCO c (some (.dat (.ins c' fs))) = if c' = c then some true else none := rfl
theorem x_mIKeys (m : ME) (env : M.Env) : mIKeys m env = (m env).bind rowDO := rfl
def kRk (o : Option (List D)) (e : M.Env) : Out (List D) := match o with
  | some ds => .ok ds e
  | none => .bad
theorem x_rowDO (d : D) (e : M.Env) : rowDO (.dat d) e = kRk (rowK d) e := rfl
theorem x_kRk (ds : List D) (e : M.Env) : kRk (some ds) e = .ok ds e := rfl
def kFld (f : Nat) (x : R) (e : M.Env) (o : Option C) : Out R := match o with
  | some c => ofO (fldC x f c) e
  | none => .bad
theorem x_fldO (f : Nat) (x : R) (e : M.Env) : fldO f x e = kFld f x e (vw e x) := rfl
def kFlD (e : M.Env) (b : Bool) (o : Option D) : Out R := if b = true then ofO (o.map .dat) e else .bad
theorem x_kFld1 (f : Nat) (x : R) (e : M.Env) (c : Nat) (fs : List (Nat × D)) : kFld f x e (some (.dat (.ins c fs))) = kFlD e (fldOk c f) (fs.lookup f) := by
  show ofO (fldC x f (.dat (.ins c fs))) e = _
  unfold kFlD
  simp only [fldC]
  cases fldOk c f <;> rfl
theorem x_kFlD (e : M.Env) (d : D) : kFlD e true (some d) = .ok (.dat d) e := rfl
def kFlC (x : R) (f : Nat) (e : M.Env) (b : Bool) (o : Option C) : Out R := if b = true then ofO (o.bind (stepR x (.fld f))) e else .bad
theorem x_kFld2 (f : Nat) (x : R) (e : M.Env) (c : Nat) (fs : List (Nat × C)) : kFld f x e (some (.obj c fs)) = kFlC x f e (fldOk c f) (fs.lookup f) := by
  show ofO (fldC x f (.obj c fs)) e = _
  unfold kFlC
  simp only [fldC]
  cases fldOk c f <;> rfl
theorem x_kFlC1 (x : R) (f : Nat) (e : M.Env) (d : D) : kFlC x f e true (some (.dat d)) = .ok (.dat d) e := rfl
theorem x_kFlC2 (i : Nat) (f : Nat) (e : M.Env) (cs : List C) : kFlC (.al i []) f e true (some (.lst cs)) = .ok (.al i [.fld f]) e := rfl
theorem x_kFlC3 (i : Nat) (f : Nat) (e : M.Env) (t : Bool) (cs : List (Kd × C)) : kFlC (.al i []) f e true (some (.dic t cs)) = .ok (.al i [.fld f]) e := rfl
theorem x_kFlC4 (i : Nat) (f : Nat) (e : M.Env) (cs : List (MN.NK × D)) : kFlC (.al i []) f e true (some (.ndc cs)) = .ok (.al i [.fld f]) e := rfl
def kIo (c mt : Nat) (o : Option C) : Bool := match o.bind clsOf with
  | some (c', fs) => decide (c' = c) && !fs.contains mt
  | none => false
theorem x_isOf (c mt : Nat) (x : R) (e : M.Env) : isOf c mt x e = kIo c mt (vw e x) := rfl
theorem x_kIo1 (c mt c' : Nat) (fs : List (Nat × C)) : kIo c mt (some (.obj c' fs)) = (decide (c' = c) && !(fs.map (·.1)).contains mt) := rfl
theorem x_kIo2 (c mt c' : Nat) (fs : List (Nat × D)) : kIo c mt (some (.dat (.ins c' fs))) = (decide (c' = c) && !(fs.map (·.1)).contains mt) := rfl
theorem x_getE1 (e : M.Env) (i f : Nat) : getE e i [.fld f] = (e[i]?).bind fun c => (c.at (.fld f)).bind some := rfl
theorem x_atO (c f : Nat) (fs : List (Nat × C)) : C.at (.obj c fs) (.fld f) = fs.lookup f := rfl
def kSe (e : M.Env) (i f : Nat) (x : C) (o : Option C) : M.Env := match o with
  | some c => e.set i (match c.at (.fld f) with | some _ => c.setAt (.fld f) x | none => c)
  | none => e
theorem x_setE1 (e : M.Env) (i f : Nat) (x : C) : setE e i [.fld f] x = kSe e i f x e[i]? := by
  unfold setE kSe
  cases e[i]? with
  | none => rfl
  | some c => simp only [setC] <;> rfl
def kSe2 (e : M.Env) (i c f : Nat) (x : C) (fs : List (Nat × C)) (o : Option C) : M.Env := match o with
  | some _ => e.set i (.obj c (setK f x fs))
  | none => e.set i (.obj c fs)
theorem x_kSe (e : M.Env) (i f c : Nat) (x : C) (fs : List (Nat × C)) : kSe e i f x (some (.obj c fs)) = kSe2 e i c f x fs (fs.lookup f) := by
  unfold kSe kSe2
  simp only [C.at, C.setAt]
  cases fs.lookup f <;> rfl
theorem x_kSe2 (e : M.Env) (i c f : Nat) (x y : C) (fs : List (Nat × C)) : kSe2 e i c f x fs (some y) = e.set i (.obj c (setK f x fs)) := rfl
theorem x_setK (k j : Nat) (x y : C) (r : List (Nat × C)) : setK k x ((j, y) :: r) = if j = k then (j, x) :: r else (j, y) :: setK k x r := rfl
def kLk {α : Type} (b : Bool) (x : α) (o : Option α) : Option α := if b = true then some x else o
theorem x_look {α : Type} (k j : Nat) (y : α) (r : List (Nat × α)) : List.lookup k ((j, y) :: r) = kLk (k == j) y (List.lookup k r) := by
  rw [List.lookup_cons]
  unfold kLk
  cases (k == j) <;> rfl
theorem x_kLk1 {α : Type} (x : α) (o : Option α) : kLk true x o = some x := rfl
theorem x_kLk2 {α : Type} (x : α) (o : Option α) : kLk false x o = o := rfl
def kSf (f : Nat) (c : C) (i : Nat) (p : List Pst) (e : M.Env) (o : Option C) : SO := match o with
  | some (.obj cl fs) => if (fldOk cl f && decide (fs.length < 900)) = true then (match fs.lookup f with
        | some (.dat _) => (match c with
          | .dat d => .nx (setE e i p (.obj cl (setK f (.dat d) fs)))
          | _ => .bad)
        | some _ => .bad
        | none => .nx (setE e i p (.obj cl (fs ++ [(f, c)])))) else .bad
  | _ => .bad
theorem x_setFO (f : Nat) (c : C) (i : Nat) (p : List Pst) (e : M.Env) : setFO f c (.al i p) e = kSf f c i p e (vw e (.al i p)) := by
  unfold setFO kSf
  rfl
def kSfN (f : Nat) (c : C) (i : Nat) (p : List Pst) (e : M.Env) (cl : Nat) (fs : List (Nat × C)) (o : Option C) : SO := match o with
  | some (.dat _) => (match c with
          | .dat d => .nx (setE e i p (.obj cl (setK f (.dat d) fs)))
          | _ => .bad)
  | some _ => .bad
  | none => .nx (setE e i p (.obj cl (fs ++ [(f, c)])))
theorem x_kSf (f : Nat) (c : C) (i : Nat) (p : List Pst) (e : M.Env) (cl : Nat) (fs : List (Nat × C)) : kSf f c i p e (some (.obj cl fs)) = if (fldOk cl f && decide (fs.length < 900)) = true then kSfN f c i p e cl fs (fs.lookup f) else .bad := by
  unfold kSf kSfN
  rfl
theorem x_kSfN (f : Nat) (c : C) (i : Nat) (p : List Pst) (e : M.Env) (cl : Nat) (fs : List (Nat × C)) : kSfN f c i p e cl fs none = .nx (setE e i p (.obj cl (fs ++ [(f, c)]))) := rfl
theorem fo_18_15 : fldOk 18 15 = true := by decide
theorem fo_18_23 : fldOk 18 23 = true := by decide
theorem fo_18_24 : fldOk 18 24 = true := by decide
theorem fo_17_15 : fldOk 17 15 = true := by decide
theorem fo_17_21 : fldOk 17 21 = true := by decide
theorem fo_17_22 : fldOk 17 22 = true := by decide
theorem fo_17_23 : fldOk 17 23 = true := by decide
theorem fo_17_24 : fldOk 17 24 = true := by decide
theorem wp_while {t : MT} {b : MS} {d : De} {px : PX} (I : Nat → M.Env → Prop) : ∀ (n : Nat) {e : M.Env}, I n e → (∀ k e, k ≤ n → I k e → Out.wp (fun c e1 => if c = true then ∃ j, j < k ∧ SO.wp { nx := I j, ct := I j, bk := d.nx, rt := d.rt } px (b e1) else d.nx e1) px (t e)) → ∀ N, n < N → SO.wp d px (whGo t b N e)
  | n, e, h0, step, 0, h => absurd h (Nat.not_lt_zero _)
  | n, e, h0, step, N + 1, h => by
    unfold whGo
    rw [wp_bindS]
    refine Out.wp_imp (step n e (Nat.le_refl _) h0) fun c e1 hc => ?_
    by_cases z : c = true
    · rw [if_pos z] at hc ⊢
      obtain ⟨j, hj, hc⟩ := hc
      rw [wp_turn]
      have go : ∀ e, I j e → SO.wp d px (whGo t b N e) := fun e hI => wp_while I j hI (fun k e hk hI => step k e (by omega) hI) N (by omega)
      exact SO.wp_imp hc go (fun _ _ h => h) (fun _ h => h) go
    · rw [if_neg z] at hc ⊢
      exact hc
theorem wp_whileSeq {t : MT} {b rest : MS} {d : De} {px : PX} {e : M.Env} (I : Nat → M.Env → Prop) (J : M.Env → Prop) (n : Nat) (hn : n < 1000000000) (h0 : I n e)
    (step : ∀ k e, k ≤ n → I k e → Out.wp (fun c e1 => if c = true then ∃ j, j < k ∧ SO.wp { nx := I j, ct := I j, bk := J, rt := d.rt, } px (b e1) else J e1) px (t e)) (fin : ∀ e, J e → SO.wp d px (rest e)) : SO.wp d px ((mWhile t b e).seq rest) := by
  rw [wp_seq]
  unfold mWhile
  exact wp_while (d := { d with nx := fun e => SO.wp d px (rest e) }) I n h0 (fun k e hk hI => Out.wp_imp (step k e hk hI) fun c e1 hc => by
    by_cases z : c = true
    · rw [if_pos z] at hc ⊢
      obtain ⟨j, hj, hc⟩ := hc
      exact ⟨j, hj, SO.wp_imp hc (fun _ h => h) (fun _ _ h => h) (fun e h => fin e h) fun _ h => h⟩
    · rw [if_neg z] at hc ⊢
      exact fin e1 hc) FUEL hn
def mxAll := And.intro @x_dg ( And.intro @x_kDg1 ( And.intro @x_kDg2 ( And.intro @x_kDg3 ( And.intro @x_kDg4 ( And.intro @x_kDg5 ( And.intro @x_kDg6 ( And.intro @x_kDgN ( And.intro @x_kInD2 ( And.intro @x_dix ( And.intro @x_kDix ( And.intro @x_getO ( And.intro @x_kGv1 ( And.intro @x_kGv2 ( And.intro @x_kGt2 ( And.intro @x_kGt1 ( And.intro @x_mGet1 ( And.intro @x_kGu3 ( And.intro @x_kGu2 ( And.intro @x_kGu1 ( And.intro @x_mGet2 ( And.intro @x_setdO ( And.intro @x_kSd1 ( And.intro @x_kSd2 ( And.intro @x_ofS ( And.intro @x_kSd3 ( And.intro @x_kSd2 ( And.intro @x_kSd1 ( And.intro @x_mSetd ( And.intro @x_own1 ( And.intro @x_own2 ( And.intro @x_subD ( And.intro @x_kSb1 ( And.intro @x_kSb2 ( And.intro @x_isNd1 ( And.intro @x_isNd2 ( And.intro @x_isDic9 ( And.intro @x_isDicA ( And.intro @x_subK ( And.intro @x_kSk ( And.intro @x_kSkP1 ( And.intro @x_kSkP2 ( And.intro @x_subN ( And.intro @x_kSn2 ( And.intro @x_mDNewK ( And.intro @x_mDNewN ( And.intro @x_kDp2 ( And.intro @x_kDp1 ( And.intro @x_mDisp1 ( And.intro @x_dispI ( And.intro @x_dispIo ( And.intro @x_len4 ( And.intro @x_len5 ( And.intro @x_list4 ( And.intro @x_snapN ( And.intro @x_fzD ( And.intro @x_fzN ( And.intro @x_fzO ( And.intro @x_kVw6 ( And.intro @x_kVwP4 ( And.intro @x_kVwP5 ( And.intro @x_kVar_5 ( And.intro @x_kLc1 ( And.intro @x_mLenC ( And.intro @x_kLc ( And.intro @x_kLcD ( And.intro @x_appO1 ( And.intro @x_appO2 ( And.intro @x_kAp ( And.intro @x_kAp2 ( And.intro @x_kAp1 ( And.intro @x_mAppC ( And.intro @x_kIdx2 ( And.intro @x_kIdx1 ( And.intro @x_mIndex ( And.intro @x_isLstD1 ( And.intro @x_isLstD2 ( And.intro @x_kIc ( And.intro @x_kIc1 ( And.intro @x_mIsiC ( And.intro @x_isiC1 ( And.intro @x_mIKeys ( And.intro @x_rowDO ( And.intro @x_kRk ( And.intro @x_fldO ( And.intro @x_kFld1 ( And.intro @x_kFlD ( And.intro @x_kFld2 ( And.intro @x_kFlC1 ( And.intro @x_kFlC2 ( And.intro @x_kFlC3 ( And.intro @x_kFlC4 ( And.intro @x_isOf ( And.intro @x_kIo1 ( And.intro @x_kIo2 ( And.intro @x_getE1 ( And.intro @x_atO ( And.intro @x_setE1 ( And.intro @x_kSe ( And.intro @x_kSe2 ( And.intro @x_setK ( And.intro @x_look ( And.intro @x_kLk1 ( And.intro @x_kLk2 ( And.intro @x_setFO ( And.intro @x_kSf ( And.intro @x_kSfN ( And.intro @fo_18_15 ( And.intro @fo_18_23 ( And.intro @fo_18_24 ( And.intro @fo_17_15 ( And.intro @fo_17_21 ( And.intro @fo_17_22 ( And.intro @fo_17_23 ( And.intro @fo_17_24 ( And.intro @cI_look ( And.intro @dI_look ( And.intro @snap_cI ( And.intro @fzk_cI ( And.intro @cI_len (@dI_len))))))))))))))))))))))))))))))))))))))))))))))))))))))))))))))))))))))))))))))))))))))))))))))))))))))))))))))))))))))))
theorem x_lnil {α : Type} (k : Nat) : List.lookup k ([] : List (Nat × α)) = none := rfl
theorem x_datR0 : datR [] = some [] := rfl
theorem x_datR1 (d : D) (rs : List R) : datR (.dat d :: rs) = (datR rs).map (d :: ·) := rfl
def kMk (e : Env) (o : Out R) : Out R := match o with
    | .ok (.dat .non) (c :: _) => (match c with
      | .dat d => .ok (.dat d) e
      | .non => .bad
      | c => .ok (.own c) e)
    | .ok _ _ => .bad
    | .ex c fs _ => .ex c fs e
    | .bad => .bad
def kMkO (cl : Nat) (f : List C → Out R) (e : Env) (o : Option (List D)) : Out R := match o with
  | some ds => kMk e (f (.obj cl [] :: ds.map .dat))
  | none => .bad
theorem x_mkO (cl : Nat) (f : List C → Out R) (rs : List R) (e : Env) : mkO cl f rs e = kMkO cl f e (datR rs) := rfl
theorem x_kMkO (cl : Nat) (f : List C → Out R) (e : Env) (ds : List D) : kMkO cl f e (some ds) = kMk e (f (.obj cl [] :: ds.map .dat)) := rfl
theorem x_kMk (e : Env) (t : Nat) (fs : List (Nat × C)) (cs : List C) : kMk e (.ok (.dat .non) (.obj t fs :: cs)) = .ok (.own (.obj t fs)) e := rfl
theorem x_setK0 (k : Nat) (x : C) : setK k x [] = [] := rfl
theorem nn1 : D.non.isNon = true := rfl
theorem nn2 (i : Int) : (D.int i).isNon = false := rfl
theorem nn3 (i : Bool) : (D.bl i).isNon = false := rfl
theorem outC3 (c0 : Nat) (l : List (Nat × C)) (cs : List C) (c : C) (e : Env) : outCs (.obj c0 l :: cs) (c :: e) = c :: outCs cs e := rfl
def mxB := And.intro @x_kSd1' (And.intro @x_kSd2' (And.intro @x_lnil (And.intro @x_datR0 (And.intro @x_datR1 (And.intro @x_mkO (And.intro @x_kMkO (And.intro @x_kMk (And.intro @x_setK0 (And.intro @nn1 (And.intro @nn2 (And.intro @nn3 (And.intro @outC0 (And.intro @outC1 (And.intro @outC2 @outC3))))))))))))))
end M
set_option Elab.async false
set_option linter.all false
set_option maxRecDepth 100000
set_option maxHeartbeats 1000000
namespace Lb
open PySem PySem.Spec PyProof.Rows L2 MR M
structure Undo (u : List Int) : Prop where
  pos : 1 ≤ u.length
  rng : ∀ (k : Nat) (x : Int), u[k]? = some x → 0 ≤ x ∧ x < u.length
  inv : ∀ (k : Nat) (x : Int), u[k]? = some x → u[x.toNat]? = some (k : Int)
/-- the undo of one letter -/
def un (u : List Int) (x : Int) : Int := u.getD x.toNat 0
theorem un_at {u : List Int} {x : Int} (h0 : 0 ≤ x) (h1 : x < u.length) : u[x.toNat]? = some (un u x) := by
  have hk : x.toNat < u.length := by omega
  unfold un
  rw [List.getD_eq_getElem?_getD, List.getElem?_eq_getElem hk]
  rfl
theorem un_atI {u : List Int} {x : Int} (h0 : 0 ≤ x) (h1 : x < u.length) : atI (u.map D.int) x = some (.int (un u x)) := by
  have e : x = ((x.toNat : Nat) : Int) := by omega
  rw [e]
  refine atI_nat ?_
  rw [List.getElem?_map, un_at h0 h1]
  rw [← e]
  rfl
theorem Undo.un_rng {u : List Int} (U : Undo u) {x : Int} (h0 : 0 ≤ x) (h1 : x < u.length) : 0 ≤ un u x ∧ un u x < u.length := U.rng _ _ (un_at h0 h1)
theorem Undo.un_un {u : List Int} (U : Undo u) {x : Int} (h0 : 0 ≤ x) (h1 : x < u.length) : un u (un u x) = x := by
  have h := U.inv _ _ (un_at h0 h1)
  obtain ⟨a, b⟩ := U.un_rng h0 h1
  have h2 := un_at a b
  rw [h] at h2
  have := Option.some.inj h2
  omega
theorem Undo.id {n : Nat} (h : 1 ≤ n) : Undo ((List.range n).map fun (k : Nat) => (k : Int)) := by
  have at_ : ∀ {k : Nat} {x : Int}, ((List.range n).map fun (k : Nat) => (k : Int))[k]? = some x → k < n ∧ x = k := fun {k x} e => by
    rw [List.getElem?_map] at e
    cases q : (List.range n)[k]? with
    | none => rw [q] at e; cases e
    | some z =>
      rw [q] at e
      have hk : k < n := by
        have := (List.getElem?_eq_some_iff.mp q).1
        simpa using this
      rw [List.getElem?_range hk] at q
      cases q
      exact ⟨hk, (Option.some.inj e).symm⟩
  refine ⟨by simpa using h, fun k x e => ?_, fun k x e => ?_⟩
  · obtain ⟨a, rfl⟩ := at_ e
    simp
    omega
  · obtain ⟨a, rfl⟩ := at_ e
    rw [Int.toNat_natCast]
    exact e
theorem Undo.pair {u : List Int} (U : Undo u) {a b : Nat} (ha : u[a]? = some (a : Int)) (hb : u[b]? = some (b : Int)) : Undo ((u.set a (b : Int)).set b (a : Int)) := by
  have la := (List.getElem?_eq_some_iff.mp ha).1
  have lb := (List.getElem?_eq_some_iff.mp hb).1
  have len : ((u.set a (b : Int)).set b (a : Int)).length = u.length := by rw [List.length_set, List.length_set]
  have gb : ((u.set a (b : Int)).set b (a : Int))[b]? = some (a : Int) := List.getElem?_set_self (by rw [List.length_set]; exact lb)
  have ga : a ≠ b → ((u.set a (b : Int)).set b (a : Int))[a]? = some (b : Int) := fun n => by rw [List.getElem?_set_ne (Ne.symm n), List.getElem?_set_self la]
  have go : ∀ k, k ≠ a → k ≠ b → ((u.set a (b : Int)).set b (a : Int))[k]? = u[k]? := fun k n1 n2 => by rw [List.getElem?_set_ne (Ne.symm n2), List.getElem?_set_ne (Ne.symm n1)]
  have cases_ : ∀ (k : Nat) (x : Int), ((u.set a (b : Int)).set b (a : Int))[k]? = some x → (k = b ∧ x = a) ∨ (k = a ∧ a ≠ b ∧ x = b) ∨ (k ≠ a ∧ k ≠ b ∧ u[k]? = some x) := fun k x e => by
    by_cases h1 : k = b
    · subst h1
      rw [gb] at e
      exact .inl ⟨rfl, (Option.some.inj e).symm⟩
    · by_cases h2 : k = a
      · subst h2
        rw [ga h1] at e
        exact .inr (.inl ⟨rfl, h1, (Option.some.inj e).symm⟩)
      · rw [go k h2 h1] at e
        exact .inr (.inr ⟨h2, h1, e⟩)
  refine ⟨by rw [len]; exact U.pos, fun k x e => ?_, fun k x e => ?_⟩
  · rw [len]
    rcases cases_ k x e with ⟨_, rfl⟩ | ⟨_, _, rfl⟩ | ⟨_, _, h⟩
    · omega
    · omega
    · exact U.rng k x h
  · rcases cases_ k x e with ⟨rfl, rfl⟩ | ⟨rfl, n, rfl⟩ | ⟨n1, n2, h⟩
    · rw [Int.toNat_natCast]
      by_cases z : a = k
      · subst z
        exact gb
      · exact ga z
    · rw [Int.toNat_natCast]
      exact gb
    · obtain ⟨r0, r1⟩ := U.rng k x h
      have i := U.inv k x h
      rw [go _ (fun z => ?_) (fun z => ?_)]
      · exact i
      · rw [z, ha] at i
        exact n1 (by have := Option.some.inj i; omega)
      · rw [z, hb] at i
        exact n2 (by have := Option.some.inj i; omega)
/-- undone -/
def backW (u w : List Int) : List Int := w.reverse.map (un u)
theorem backW_len (u w : List Int) : (backW u w).length = w.length := by
  unfold backW
  rw [List.length_map, List.length_reverse]
theorem backW_rng {u w : List Int} (U : Undo u) (h : ∀ x ∈ w, 0 ≤ x ∧ x < u.length) : ∀ x ∈ backW u w, 0 ≤ x ∧ x < u.length := fun x hx => by
  obtain ⟨y, hy, rfl⟩ := List.mem_map.mp hx
  have := h y (List.mem_reverse.mp hy)
  exact U.un_rng this.1 this.2
theorem backW_back {u w : List Int} (U : Undo u) (h : ∀ x ∈ w, 0 ≤ x ∧ x < u.length) : backW u (backW u w) = w := by
  unfold backW
  rw [← List.map_reverse, List.reverse_reverse, List.map_map]
  conv => rhs; rw [← List.map_id w]
  refine List.map_congr_left fun x hx => ?_
  exact U.un_un (h x hx).1 (h x hx).2
theorem backW_at {u w : List Int} {i : Nat} {x : Int} (h : w[w.length - 1 - i]? = some x) (hi : i < w.length) : (backW u w)[i]? = some (un u x) := by
  unfold backW
  rw [List.getElem?_map, List.getElem?_reverse hi, h]
  rfl
/-- one step of taking out -/
def redStep (u left : List Int) (x : Int) : List Int := match left.getLast? with
  | some y => if un u y = x then left.dropLast else left ++ [x]
  | none => [x]
def freeW (u w : List Int) : List Int := w.foldl (redStep u) []
theorem redStep_nil (u : List Int) (x : Int) : redStep u [] x = [x] := rfl
theorem redStep_snoc (u l : List Int) (y x : Int) : redStep u (l ++ [y]) x = if un u y = x then l else l ++ [y] ++ [x] := by
  unfold redStep
  rw [List.getLast?_append]
  show (if un u y = x then (l ++ [y]).dropLast else l ++ [y] ++ [x]) = _
  rw [List.dropLast_concat]
theorem snoc_of {α : Type} : ∀ {l : List α}, l ≠ [] → ∃ m y, l = m ++ [y] := fun {l} h => ⟨l.dropLast, l.getLast h, (List.dropLast_concat_getLast h).symm⟩
theorem redStep_mem {u left : List Int} {x z : Int} (h : z ∈ redStep u left x) : z ∈ left ∨ z = x := by
  by_cases e : left = []
  · subst e
    exact .inr (List.mem_singleton.mp h)
  · obtain ⟨m, y, rfl⟩ := snoc_of e
    rw [redStep_snoc] at h
    split at h
    · exact .inl (List.mem_append_left _ h)
    · rcases List.mem_append.mp h with h | h
      · exact .inl h
      · exact .inr (List.mem_singleton.mp h)
theorem redStep_len (u left : List Int) (x : Int) : (redStep u left x).length ≤ left.length + 1 := by
  by_cases e : left = []
  · subst e
    exact Nat.le_refl _
  · obtain ⟨m, y, rfl⟩ := snoc_of e
    rw [redStep_snoc]
    split
    · rw [List.length_append]; omega
    · rw [List.length_append]; exact Nat.le_refl _
theorem freeW_take {u w : List Int} {i : Nat} {x : Int} (h : w[i]? = some x) : freeW u (w.take (i + 1)) = redStep u (freeW u (w.take i)) x := by
  unfold freeW
  rw [List.take_add_one, h, List.foldl_append]
  rfl
theorem freeW_mem {u w : List Int} {P : Int → Prop} (h : ∀ x ∈ w, P x) : ∀ x ∈ freeW u w, P x := by
  have key : ∀ (w left : List Int), (∀ x ∈ w, P x) → (∀ x ∈ left, P x) → ∀ x ∈ w.foldl (redStep u) left, P x := by
    intro w
    induction w with
    | nil => exact fun left _ h => h
    | cons a w ih =>
      intro left h1 h2
      refine ih _ (fun x hx => h1 x (List.mem_cons_of_mem _ hx)) fun x hx => ?_
      rcases redStep_mem hx with q | rfl
      · exact h2 x q
      · exact h1 _ (List.mem_cons_self ..)
  exact key w [] h fun x hx => by cases hx
theorem freeW_len (u w : List Int) : (freeW u w).length ≤ w.length := by
  have key : ∀ (w left : List Int), (w.foldl (redStep u) left).length ≤ left.length + w.length := by
    intro w
    induction w with
    | nil => exact fun left => Nat.le_refl _
    | cons a w ih =>
      intro left
      have h1 := ih (redStep u left a)
      have h2 := redStep_len u left a
      show (w.foldl (redStep u) (redStep u left a)).length ≤ left.length + (w.length + 1)
      omega
  have := key w []
  rw [List.length_nil, Nat.zero_add] at this
  exact this
def Red (u l : List Int) : Prop := ∀ (i : Nat) (y x : Int), l[i]? = some y → l[i + 1]? = some x → un u y ≠ x
theorem Red.init {u m : List Int} {y : Int} (h : Red u (m ++ [y])) : Red u m := fun i a b h1 h2 => by
  have l2 := (List.getElem?_eq_some_iff.mp h2).1
  exact h i a b (by rw [List.getElem?_append_left (by omega)]; exact h1) (by rw [List.getElem?_append_left l2]; exact h2)
theorem redStep_red {u left : List Int} {x : Int} (h : Red u left) : Red u (redStep u left x) := by
  by_cases e : left = []
  · subst e
    intro i y z h1 h2
    rw [redStep_nil] at h2
    have := (List.getElem?_eq_some_iff.mp h2).1
    simp at this
  · obtain ⟨m, y, rfl⟩ := snoc_of e
    rw [redStep_snoc]
    split
    · exact h.init
    · rename_i hne
      intro i a b h1 h2
      have l2 := (List.getElem?_eq_some_iff.mp h2).1
      rw [List.length_append, List.length_append] at l2
      simp at l2
      by_cases z : i + 1 < (m ++ [y]).length
      · rw [List.getElem?_append_left (by omega)] at h1
        rw [List.getElem?_append_left z] at h2
        exact h i a b h1 h2
      · have ei : i = m.length := by
          rw [List.length_append] at z
          simp at z
          omega
        subst ei
        rw [List.getElem?_append_left (by simp)] at h1
        rw [List.getElem?_append_right (by simp)] at h1
        rw [List.getElem?_append_right (by simp)] at h2
        simp at h1 h2
        rw [← h1, ← h2]
        exact hne
theorem foldl_red {u : List Int} : ∀ {w left : List Int}, Red u left → Red u (w.foldl (redStep u) left)
  | [], _, h => h
  | x :: w, left, h => foldl_red (w := w) (redStep_red h)
theorem freeW_red (u w : List Int) : Red u (freeW u w) := foldl_red fun i y x h => by simp at h
theorem freeW_of_red {u : List Int} : ∀ (n : Nat) (l : List Int), l.length = n → Red u l → freeW u l = l := by
  intro n
  induction n with
  | zero =>
    intro l hl _
    have := List.eq_nil_of_length_eq_zero hl
    subst this
    rfl
  | succ n ih =>
    intro l hl h
    obtain ⟨m, y, rfl⟩ := snoc_of (l := l) (fun z => by rw [z] at hl; cases hl)
    have hm : m.length = n := by rw [List.length_append] at hl; simpa using hl
    have e : freeW u (m ++ [y]) = redStep u (freeW u m) y := by
      unfold freeW
      rw [List.foldl_append]
      rfl
    rw [e, ih m hm h.init]
    by_cases z : m = []
    · subst z
      rfl
    · obtain ⟨k, a, rfl⟩ := snoc_of z
      rw [redStep_snoc, if_neg]
      refine h k.length a y ?_ ?_
      · rw [List.getElem?_append_left (by simp), List.getElem?_append_right (Nat.le_refl _)]
        simp
      · rw [List.getElem?_append_right (by simp)]
        simp
theorem freeW_idem (u w : List Int) : freeW u (freeW u w) = freeW u w := freeW_of_red _ _ rfl (freeW_red u w)
theorem freeW_app (u a b : List Int) : freeW u (freeW u a ++ b) = freeW u (a ++ b) := by
  have e1 : freeW u (freeW u a ++ b) = b.foldl (redStep u) (freeW u (freeW u a)) := by
    unfold freeW
    rw [List.foldl_append]
  have e2 : freeW u (a ++ b) = b.foldl (redStep u) (freeW u a) := by
    unfold freeW
    rw [List.foldl_append]
  rw [e1, e2, freeW_idem]
theorem okk_mono : ∀ {d : D} {k n : Nat}, k ≤ n → d.okk k = true → d.okk n = true := fun {d k n} h => by
  have key : ∀ (k : Nat), (∀ d : D, d.okk k = true → d.okk (k + 1) = true) := by
    intro k
    induction k with
    | zero =>
      intro d hd
      cases d with
      | tup ds => simp [D.okk] at hd
      | lst ds => simp [D.okk] at hd
      | _ => simpa [D.okk] using hd
    | succ k ih =>
      have lists : ∀ ds : List D, D.okks k ds = true → D.okks (k + 1) ds = true := by
        intro ds
        induction ds with
        | nil => simp [D.okks]
        | cons d ds ih2 =>
          intro h
          simp only [D.okks, Bool.and_eq_true] at h ⊢
          exact ⟨ih d h.1, ih2 h.2⟩
      intro d hd
      cases d with
      | tup ds =>
        simp only [D.okk] at hd ⊢
        exact lists ds hd
      | lst ds =>
        simp only [D.okk] at hd ⊢
        exact lists ds hd
      | _ => simpa [D.okk] using hd
  intro hd
  induction h with
  | refl => exact hd
  | step _ ih => exact key _ d ih
theorem okks_ints : ∀ {w : List Int}, (∀ x ∈ w, x.natAbs < 10 ^ 30) → D.okks 19 (w.map D.int) = true
  | [], _ => by simp [D.okks]
  | x :: w, h => by
    simp only [List.map_cons, D.okks, D.okk, Bool.and_eq_true, decide_eq_true_eq]
    exact ⟨h x (List.mem_cons_self ..), okks_ints fun y hy => h y (List.mem_cons_of_mem _ hy)⟩
theorem wts_ints : ∀ w : List Int, D.wts (w.map D.int) = 101 * w.length
  | [] => by simp [D.wts]
  | x :: w => by
    simp only [List.map_cons, D.wts, D.wt, wts_ints w, List.length_cons]
    omega
theorem Gd.word {w : List Int} (hl : w.length ≤ 3900) (h : ∀ x ∈ w, x.natAbs < 10 ^ 30) : Gd (tw w) := by
  refine ⟨?_, ?_⟩
  · show D.okk 20 (.tup (w.map D.int)) = true
    simp only [D.okk]
    exact okks_ints h
  · show D.wt (.tup (w.map D.int)) ≤ 400000
    simp only [D.wt, wts_ints]
    omega
theorem small30 {n : Int} (hn : n ≤ 1000000) {x : Int} (h : 0 ≤ x ∧ x < n) : x.natAbs < 10 ^ 30 := Nat.lt_of_lt_of_le (show x.natAbs < 1000000 by omega) (by decide)
theorem _root_.M.Gd.lim {d : D} (h : Gd d) : ∀ ds, d = .tup ds → ds.length ≤ LIM := fun ds e => by
  subst e
  have := h.len
  unfold LIM
  omega
end Lb
set_option Elab.async false
set_option linter.all false
set_option maxRecDepth 100000
set_option maxHeartbeats 1000000
namespace Lb
open PySem PyProof.Rows L2 MR M
def mB_is_integer : MS :=
  (mRet (mAndV (mCB (two bIsi) (mCons (mVar 0) (mCons (mC (.ty "int")) mNil))) (mNotV (mCB (two bIsi) (mCons (mVar 0) (mCons (mC (.ty "bool")) mNil))))))
def mF_is_integer : List C → Out R := mDef 1 0 (fun i => decide (i < 1)) mB_is_integer
def mB_is_number : MS :=
  (mRet (mAndV (mCall mF_is_integer (mCons (mFz (mVar 0)) mNil)) (mOp oGe (mVar 0) (mC (.int 0)))))
def mF_is_number : List C → Out R := mDef 1 0 (fun i => decide (i < 1)) mB_is_number
def mB_is_word : MS :=
  (mSeq (mIf (mNot (mB (mCB (two bIsi) (mCons (mVar 0) (mCons (mC (.ty "tuple")) mNil)))))
    (mRet (mC (.bl false)))
    mNext)
  (mRet (mCB (one bAll) (mCons (mLc (mISeq (mFz (mVar 0))) (gNm 2) mYes (mAndV (mCall mF_is_number (mCons (mFz (mVar 2)) mNil)) (mOp oLt (mVar 2) (mVar 1))) [2]) mNil))))
def mF_is_word : List C → Out R := mDef 2 1 (fun i => decide (i < 2)) mB_is_word
def mB_check_word : MS :=
  (mIf (mNot (mB (mCall mF_is_word (mCons (mFz (mVar 0)) (mCons (mFz (mVar 1)) mNil)))))
    (mRaise 4 [7] (mCons (mFz (mVar 0)) mNil))
    mNext)
def mF_check_word : List C → Out R := mDef 2 0 (fun i => decide (i < 2)) mB_check_word
def mB_undone : MS :=
  (mSeq (mDrop (mCall mF_check_word (mCons (mFz (mVar 1)) (mCons (mCB (one bLen) (mCons (mVar 0) mNil)) mNil))))
  (mRet (mCB (one bTuple) (mCons (mLc (mISeq (mFz (mRevT (mVar 1)))) (gNm 2) mYes (mFz (mIx true (mVar 0) (mVar 2))) [2]) mNil))))
def mF_undone : List C → Out R := mDef 2 1 (fun i => decide (i < 2)) mB_undone
def mB_freely_reduced : MS :=
  (mSeq (mDrop (mCall mF_check_word (mCons (mFz (mVar 1)) (mCons (mCB (one bLen) (mCons (mVar 0) mNil)) mNil))))
  (mSeq (mAsg 2 (mLst mNil))
  (mSeq (mFor (mISeq (mFz (mVar 1))) (gNm 3)
    (mIf (mAnd (mB (mOp oGt (mCB (one bLen) (mCons (mVar 2) mNil)) (mC (.int 0)))) (mB (mOp oEq (mIx true (mVar 0) (mIx true (mVar 2) (mUn uNeg (mC (.int 1))))) (mVar 3))))
      (mDrop (mLm0 lPop (mVar 2)))
      (mDrop (mLm true lAppend (mVar 2) (mCons (mFz (mVar 3)) mNil)))))
  (mRet (mCB (one bTuple) (mCons (mVar 2) mNil))))))
def mF_freely_reduced : List C → Out R := mDef 2 2 (fun i => decide (i < 2)) mB_freely_reduced
def mB_law_box : MS :=
  (mRet (mLst (mCons (mFz (mLc (mISeq (mFz (mVar 0))) (gNm 1) mYes (mCB (one bInt) (mCons (mVar 1) mNil)) [1])) (mCons (mC (.int 0)) (mCons (mC (.int 0)) (mCons (mC (.int 0)) mNil))))))
def mF_law_box : List C → Out R := mDef 1 1 (fun i => decide (i < 1)) mB_law_box
def mB_law_draw : MS :=
  (mSeq (mAsg 2 (mFz (mIx true (mVar 0) (mC (.int 0)))))
  (mSeq (mSub true (mOp oAdd (mIx true (mVar 0) (mC (.int 1))) (mC (.int 1))) (mVar 0) (mC (.int 1)))
  (mSeq (mFor (mIR1 (mCons (mCB (one bLen) (mCons (mVar 2) mNil)) mNil)) (gNm 3)
    (mIf (mAnd (mB (mOp oEq (mIx true (mVar 0) (mC (.int 2))) (mC (.int 0)))) (mB (mOp oLt (mIx true (mVar 0) (mC (.int 3))) (mCB (one bLen) (mCons (mVar 2) mNil)))))
      (mSeq (mIf (mB (mOp oGe (mCB (one bAbs) (mCons (mIx true (mVar 2) (mIx true (mVar 0) (mC (.int 3)))) mNil)) (mOp oPow (mC (.int 10)) (mC (.int 18)))))
        (mSub true (mCB (one bAbs) (mCons (mIx true (mVar 2) (mIx true (mVar 0) (mC (.int 3)))) mNil)) (mVar 0) (mC (.int 2)))
        mNext)
      (mSub true (mOp oAdd (mIx true (mVar 0) (mC (.int 3))) (mC (.int 1))) (mVar 0) (mC (.int 3))))
      mBreak))
  (mSeq (mIf (mB (mOp oGt (mIx true (mVar 0) (mC (.int 2))) (mC (.int 0))))
    (mSeq (mAsg 4 (mOp oMod (mCB (one bInt) (mCons (mIx true (mVar 0) (mC (.int 2))) mNil)) (mVar 1)))
    (mSeq (mSub true (mOp oDiv (mIx true (mVar 0) (mC (.int 2))) (mVar 1)) (mVar 0) (mC (.int 2)))
    (mRet (mVar 4))))
    mNext)
  (mSeq (mAsg 5 (mC (.int 0)))
  (mSeq (mIf (mB (mOp oGt (mCB (one bLen) (mCons (mVar 2) mNil)) (mC (.int 0))))
    (mAsg 5 (mCB (one bAbs) (mCons (mIx true (mVar 2) (mOp oMod (mCB (one bInt) (mCons (mIx true (mVar 0) (mC (.int 1))) mNil)) (mCB (one bLen) (mCons (mVar 2) mNil)))) mNil)))
    mNext)
  (mSeq (mAsg 6 (mOp oMod (mCB (one bInt) (mCons (mOp oAdd (mOp oAdd (mOp oMul (mVar 5) (mC (.int 48271))) (mOp oMul (mIx true (mVar 0) (mC (.int 1))) (mC (.int 69621)))) (mC (.int 7))) mNil)) (mC (.int 2147483647))))
  (mSeq (mAsg 6 (mOp oMod (mCB (one bInt) (mCons (mOp oAdd (mOp oAdd (mOp oMul (mVar 6) (mVar 6)) (mOp oMul (mIx true (mVar 0) (mC (.int 1))) (mC (.int 7919)))) (mVar 5)) mNil)) (mC (.int 1000003))))
  (mSeq (mAsg 6 (mOp oMod (mCB (one bInt) (mCons (mOp oAdd (mOp oAdd (mOp oMul (mOp oMul (mVar 6) (mVar 6)) (mC (.int 16807))) (mOp oDiv (mVar 5) (mC (.int 5)))) (mC (.int 11))) mNil)) (mC (.int 998244353))))
  (mRet (mOp oMod (mCB (one bInt) (mCons (mOp oDiv (mVar 6) (mC (.int 3))) mNil)) (mVar 1))))))))))))
def mF_law_draw : List C → Out R := mDef 2 5 (fun i => decide (i < 2)) mB_law_draw
def mB_law_undo : MS :=
  (mSeq (mAsg 2 (mOp oAdd (mC (.int 1)) (mCall mF_law_draw (mCons (mVar 0) (mCons (mFz (mVar 1)) mNil)))))
  (mSeq (mAsg 3 (mLc (mIR1 (mCons (mVar 2) mNil)) (gNm 4) mYes (mFz (mVar 4)) [4]))
  (mSeq (mFor (mIR1 (mCons (mCall mF_law_draw (mCons (mVar 0) (mCons (mC (.int 4)) mNil))) mNil)) (gNm 4)
    (mSeq (mAsg 5 (mFz (mCall mF_law_draw (mCons (mVar 0) (mCons (mFz (mVar 2)) mNil)))))
    (mSeq (mAsg 6 (mFz (mCall mF_law_draw (mCons (mVar 0) (mCons (mFz (mVar 2)) mNil)))))
    (mIf (mAnd (mB (mOp oEq (mIx true (mVar 3) (mVar 5)) (mVar 5))) (mB (mOp oEq (mIx true (mVar 3) (mVar 6)) (mVar 6))))
      (mSeq (mSub true (mFz (mVar 6)) (mVar 3) (mVar 5))
      (mSub true (mFz (mVar 5)) (mVar 3) (mVar 6)))
      mNext))))
  (mRet (mCB (one bTuple) (mCons (mVar 3) mNil))))))
def mF_law_undo : List C → Out R := mDef 2 5 (fun i => decide (i < 2)) mB_law_undo
def mB_law_word : MS :=
  (mRet (mCB (one bTuple) (mCons (mLc (mIR1 (mCons (mCall mF_law_draw (mCons (mVar 0) (mCons (mOp oAdd (mVar 2) (mC (.int 1))) mNil))) mNil)) (gNm 3) mYes (mFz (mCall mF_law_draw (mCons (mVar 0) (mCons (mFz (mVar 1)) mNil)))) [3]) mNil)))
def mF_law_word : List C → Out R := mDef 3 1 (fun i => decide (i < 3)) mB_law_word
def mB_law_is_word : MS :=
  (mSeq (mIf (mNot (mB (mCB (two bIsi) (mCons (mVar 0) (mCons (mC (.ty "tuple")) mNil)))))
    (mRet (mC (.bl false)))
    mNext)
  (mRet (mInA true (mC (.bl false)) (mLc (mISeq (mFz (mVar 0))) (gNm 2) mYes (mAndV (mCall mF_is_integer (mCons (mFz (mVar 2)) mNil)) (mChain oLe oLt (mC (.int 0)) (mVar 2) (mVar 1))) [2]))))
def mF_law_is_word : List C → Out R := mDef 2 1 (fun i => decide (i < 2)) mB_law_is_word
def mB_law_reduced : MS :=
  (mSeq (mAsg 2 (mLst mNil))
  (mSeq (mFor (mISeq (mFz (mVar 1))) (gNm 3)
    (mIf (mAnd (mB (mOp oGt (mCB (one bLen) (mCons (mVar 2) mNil)) (mC (.int 0)))) (mB (mOp oEq (mIx true (mVar 2) (mUn uNeg (mC (.int 1)))) (mIx true (mVar 0) (mVar 3)))))
      (mDrop (mLm0 lPop (mVar 2)))
      (mDrop (mLm true lAppend (mVar 2) (mCons (mFz (mVar 3)) mNil)))))
  (mRet (mCB (one bTuple) (mCons (mVar 2) mNil)))))
def mF_law_reduced : List C → Out R := mDef 2 2 (fun i => decide (i < 2)) mB_law_reduced
def mB_law_back : MS :=
  (mRet (mCB (one bTuple) (mCons (mLc (mIR1 (mCons (mCB (one bLen) (mCons (mVar 1) mNil)) mNil)) (gNm 2) mYes (mFz (mIx true (mVar 0) (mIx true (mVar 1) (mOp oSub (mOp oSub (mCB (one bLen) (mCons (mVar 1) mNil)) (mC (.int 1))) (mVar 2))))) [2]) mNil)))
def mF_law_back : List C → Out R := mDef 2 1 (fun i => decide (i < 2)) mB_law_back
end Lb
set_option Elab.async false
set_option linter.all false
set_option maxRecDepth 100000
set_option maxHeartbeats 1000000
namespace Lb
open PySem PySem.Spec PyProof.Rows L2 MR M
def isW : D → Bool | .int _ => true | _ => false
def isNat : D → Bool | .int i => decide (0 ≤ i) | _ => false
def isN (n : Int) : D → Bool | .int i => decide (0 ≤ i) && decide (i < n) | _ => false
def isWordD (d : D) (n : Int) : Bool := match d with | .tup ds => ds.all (isN n) | _ => false
theorem is_integer_eq {d : D} (h : d.pln = true) : mF_is_integer [.dat d] = .ok (.dat (.bl (isW d))) [.dat d] := by
  cases d <;> first | rfl | cases h
theorem is_number_eq {d : D} (h : d.pln = true) : mF_is_number [.dat d] = .ok (.dat (.bl (isNat d))) [.dat d] := by
  refine ok_of_wp (wp_mDef rfl ?_)
  unfold mB_is_number
  simp -implicitDefEqProofs only [mwAll, kStr1, kIEnum, kIZip, kAsgG, kAsgG2, kRevD, kCallP2, kInD, asB_bl, datR_nil, datR_cons, datR_map, snapR_dat, vw_dat, dats_dat, fzO_dat, fzO_own, fzs_dat, fz, grd_true, ofO_some, permO, getE, getC, setC, Out.bind_ok, Out.bind_ex, Out.bind_bad, bindS_ok, bindS_ex, bindS_bad, seq_nx, seq_rt, seq_bk, seq_ct, seq_ex, seq_bad, Out.wp_ok, Out.wp_ex, Out.wp_bad, SO.wp_nx, SO.wp_rt, SO.wp_bk, SO.wp_ct, SO.wp_ex, SO.wp_bad, turn_nx, turn_ct, turn_bk, turn_rt, turn_ex, turn_bad, List.getElem?_cons_zero, List.getElem?_cons_succ, List.set_cons_zero, List.set_cons_succ, List.length_cons, List.length_nil, List.length_map, List.length_set, List.length_append, List.map_cons, List.map_nil, List.cons_append, List.nil_append, List.replicate_succ, List.replicate_zero, List.append_nil, List.all_cons, List.all_nil, Option.map_some, Option.map_none, Option.bind_some, Option.bind_none, Option.isSome_some, Option.isSome_none, if_true, if_false, reduceIte, reduceCtorEq, decide_true, decide_false, Bool.true_or, Bool.or_true, Bool.or_false, Bool.false_or, Bool.true_and, Bool.and_true, Bool.and_false, Bool.false_and, Bool.not_true, Bool.not_false, Bool.and_self, Nat.reduceLT, Nat.reduceLeDiff, Nat.reduceAdd, Nat.zero_lt_succ, Int.toNat_natCast, get_last1, get_last2, last_map, drop_map, is_integer_eq h]
  cases d <;> simp -implicitDefEqProofs only [mwAll, kStr1, kIEnum, kIZip, kAsgG, kAsgG2, kRevD, kCallP2, kInD, asB_bl, datR_nil, datR_cons, datR_map, snapR_dat, vw_dat, dats_dat, fzO_dat, fzO_own, fzs_dat, fz, grd_true, ofO_some, permO, getE, getC, setC, Out.bind_ok, Out.bind_ex, Out.bind_bad, bindS_ok, bindS_ex, bindS_bad, seq_nx, seq_rt, seq_bk, seq_ct, seq_ex, seq_bad, Out.wp_ok, Out.wp_ex, Out.wp_bad, SO.wp_nx, SO.wp_rt, SO.wp_bk, SO.wp_ct, SO.wp_ex, SO.wp_bad, turn_nx, turn_ct, turn_bk, turn_rt, turn_ex, turn_bad, List.getElem?_cons_zero, List.getElem?_cons_succ, List.set_cons_zero, List.set_cons_succ, List.length_cons, List.length_nil, List.length_map, List.length_set, List.length_append, List.map_cons, List.map_nil, List.cons_append, List.nil_append, List.replicate_succ, List.replicate_zero, List.append_nil, List.all_cons, List.all_nil, Option.map_some, Option.map_none, Option.bind_some, Option.bind_none, Option.isSome_some, Option.isSome_none, if_true, if_false, reduceIte, reduceCtorEq, decide_true, decide_false, Bool.true_or, Bool.or_true, Bool.or_false, Bool.false_or, Bool.true_and, Bool.and_true, Bool.and_false, Bool.false_and, Bool.not_true, Bool.not_false, Bool.and_self, Nat.reduceLT, Nat.reduceLeDiff, Nat.reduceAdd, Nat.zero_lt_succ, Int.toNat_natCast, get_last1, get_last2, last_map, drop_map, isW, isNat, outCs, x_outR1] <;> simp
theorem is_word_eq {d : D} {n : Int} (h : d.pln = true) (hl : ∀ ds, d = .tup ds → ds.length ≤ LIM) : mF_is_word [.dat d, .dat (.int n)] = .ok (.dat (.bl (isWordD d n))) [.dat d, .dat (.int n)] := by
  refine ok_of_wp (wp_mDef rfl ?_)
  unfold mB_is_word
  cases d with
  | tup ds =>
    simp -implicitDefEqProofs only [mwAll, kStr1, kIEnum, kIZip, kAsgG, kAsgG2, kRevD, kCallP2, kInD, asB_bl, datR_nil, datR_cons, datR_map, snapR_dat, vw_dat, dats_dat, fzO_dat, fzO_own, fzs_dat, fz, grd_true, ofO_some, permO, getE, getC, setC, Out.bind_ok, Out.bind_ex, Out.bind_bad, bindS_ok, bindS_ex, bindS_bad, seq_nx, seq_rt, seq_bk, seq_ct, seq_ex, seq_bad, Out.wp_ok, Out.wp_ex, Out.wp_bad, SO.wp_nx, SO.wp_rt, SO.wp_bk, SO.wp_ct, SO.wp_ex, SO.wp_bad, turn_nx, turn_ct, turn_bk, turn_rt, turn_ex, turn_bad, List.getElem?_cons_zero, List.getElem?_cons_succ, List.set_cons_zero, List.set_cons_succ, List.length_cons, List.length_nil, List.length_map, List.length_set, List.length_append, List.map_cons, List.map_nil, List.cons_append, List.nil_append, List.replicate_succ, List.replicate_zero, List.append_nil, List.all_cons, List.all_nil, Option.map_some, Option.map_none, Option.bind_some, Option.bind_none, Option.isSome_some, Option.isSome_none, if_true, if_false, reduceIte, reduceCtorEq, decide_true, decide_false, Bool.true_or, Bool.or_true, Bool.or_false, Bool.false_or, Bool.true_and, Bool.and_true, Bool.and_false, Bool.false_and, Bool.not_true, Bool.not_false, Bool.and_self, Nat.reduceLT, Nat.reduceLeDiff, Nat.reduceAdd, Nat.zero_lt_succ, Int.toNat_natCast, get_last1, get_last2, last_map, drop_map]
    rw [mLc_nm (xs := ds) (F := fun x => .bl (isN n x)) (by rfl) (hl ds rfl) (by rfl) (by rfl) fun x hx => ?_]
    · simp -implicitDefEqProofs only [mwAll, kStr1, kIEnum, kIZip, kAsgG, kAsgG2, kRevD, kCallP2, kInD, asB_bl, datR_nil, datR_cons, datR_map, snapR_dat, vw_dat, dats_dat, fzO_dat, fzO_own, fzs_dat, fz, grd_true, ofO_some, permO, getE, getC, setC, Out.bind_ok, Out.bind_ex, Out.bind_bad, bindS_ok, bindS_ex, bindS_bad, seq_nx, seq_rt, seq_bk, seq_ct, seq_ex, seq_bad, Out.wp_ok, Out.wp_ex, Out.wp_bad, SO.wp_nx, SO.wp_rt, SO.wp_bk, SO.wp_ct, SO.wp_ex, SO.wp_bad, turn_nx, turn_ct, turn_bk, turn_rt, turn_ex, turn_bad, List.getElem?_cons_zero, List.getElem?_cons_succ, List.set_cons_zero, List.set_cons_succ, List.length_cons, List.length_nil, List.length_map, List.length_set, List.length_append, List.map_cons, List.map_nil, List.cons_append, List.nil_append, List.replicate_succ, List.replicate_zero, List.append_nil, List.all_cons, List.all_nil, Option.map_some, Option.map_none, Option.bind_some, Option.bind_none, Option.isSome_some, Option.isSome_none, if_true, if_false, reduceIte, reduceCtorEq, decide_true, decide_false, Bool.true_or, Bool.or_true, Bool.or_false, Bool.false_or, Bool.true_and, Bool.and_true, Bool.and_false, Bool.false_and, Bool.not_true, Bool.not_false, Bool.and_self, Nat.reduceLT, Nat.reduceLeDiff, Nat.reduceAdd, Nat.zero_lt_succ, Int.toNat_natCast, get_last1, get_last2, last_map, drop_map, all_map]
      simp -implicitDefEqProofs only [mwAll, kStr1, kIEnum, kIZip, kAsgG, kAsgG2, kRevD, kCallP2, kInD, asB_bl, datR_nil, datR_cons, datR_map, snapR_dat, vw_dat, dats_dat, fzO_dat, fzO_own, fzs_dat, fz, grd_true, ofO_some, permO, getE, getC, setC, Out.bind_ok, Out.bind_ex, Out.bind_bad, bindS_ok, bindS_ex, bindS_bad, seq_nx, seq_rt, seq_bk, seq_ct, seq_ex, seq_bad, Out.wp_ok, Out.wp_ex, Out.wp_bad, SO.wp_nx, SO.wp_rt, SO.wp_bk, SO.wp_ct, SO.wp_ex, SO.wp_bad, turn_nx, turn_ct, turn_bk, turn_rt, turn_ex, turn_bad, List.getElem?_cons_zero, List.getElem?_cons_succ, List.set_cons_zero, List.set_cons_succ, List.length_cons, List.length_nil, List.length_map, List.length_set, List.length_append, List.map_cons, List.map_nil, List.cons_append, List.nil_append, List.replicate_succ, List.replicate_zero, List.append_nil, List.all_cons, List.all_nil, Option.map_some, Option.map_none, Option.bind_some, Option.bind_none, Option.isSome_some, Option.isSome_none, if_true, if_false, reduceIte, reduceCtorEq, decide_true, decide_false, Bool.true_or, Bool.or_true, Bool.or_false, Bool.false_or, Bool.true_and, Bool.and_true, Bool.and_false, Bool.false_and, Bool.not_true, Bool.not_false, Bool.and_self, Nat.reduceLT, Nat.reduceLeDiff, Nat.reduceAdd, Nat.zero_lt_succ, Int.toNat_natCast, get_last1, get_last2, last_map, drop_map, outCs, x_outR1, isWordD]
      simp
    · simp -implicitDefEqProofs only [mwAll, kStr1, kIEnum, kIZip, kAsgG, kAsgG2, kRevD, kCallP2, kInD, asB_bl, datR_nil, datR_cons, datR_map, snapR_dat, vw_dat, dats_dat, fzO_dat, fzO_own, fzs_dat, fz, grd_true, ofO_some, permO, getE, getC, setC, Out.bind_ok, Out.bind_ex, Out.bind_bad, bindS_ok, bindS_ex, bindS_bad, seq_nx, seq_rt, seq_bk, seq_ct, seq_ex, seq_bad, Out.wp_ok, Out.wp_ex, Out.wp_bad, SO.wp_nx, SO.wp_rt, SO.wp_bk, SO.wp_ct, SO.wp_ex, SO.wp_bad, turn_nx, turn_ct, turn_bk, turn_rt, turn_ex, turn_bad, List.getElem?_cons_zero, List.getElem?_cons_succ, List.set_cons_zero, List.set_cons_succ, List.length_cons, List.length_nil, List.length_map, List.length_set, List.length_append, List.map_cons, List.map_nil, List.cons_append, List.nil_append, List.replicate_succ, List.replicate_zero, List.append_nil, List.all_cons, List.all_nil, Option.map_some, Option.map_none, Option.bind_some, Option.bind_none, Option.isSome_some, Option.isSome_none, if_true, if_false, reduceIte, reduceCtorEq, decide_true, decide_false, Bool.true_or, Bool.or_true, Bool.or_false, Bool.false_or, Bool.true_and, Bool.and_true, Bool.and_false, Bool.false_and, Bool.not_true, Bool.not_false, Bool.and_self, Nat.reduceLT, Nat.reduceLeDiff, Nat.reduceAdd, Nat.zero_lt_succ, Int.toNat_natCast, get_last1, get_last2, last_map, drop_map, is_number_eq (plns_mem (pln_tup h) hx)]
      cases x <;> simp -implicitDefEqProofs only [mwAll, kStr1, kIEnum, kIZip, kAsgG, kAsgG2, kRevD, kCallP2, kInD, asB_bl, datR_nil, datR_cons, datR_map, snapR_dat, vw_dat, dats_dat, fzO_dat, fzO_own, fzs_dat, fz, grd_true, ofO_some, permO, getE, getC, setC, Out.bind_ok, Out.bind_ex, Out.bind_bad, bindS_ok, bindS_ex, bindS_bad, seq_nx, seq_rt, seq_bk, seq_ct, seq_ex, seq_bad, Out.wp_ok, Out.wp_ex, Out.wp_bad, SO.wp_nx, SO.wp_rt, SO.wp_bk, SO.wp_ct, SO.wp_ex, SO.wp_bad, turn_nx, turn_ct, turn_bk, turn_rt, turn_ex, turn_bad, List.getElem?_cons_zero, List.getElem?_cons_succ, List.set_cons_zero, List.set_cons_succ, List.length_cons, List.length_nil, List.length_map, List.length_set, List.length_append, List.map_cons, List.map_nil, List.cons_append, List.nil_append, List.replicate_succ, List.replicate_zero, List.append_nil, List.all_cons, List.all_nil, Option.map_some, Option.map_none, Option.bind_some, Option.bind_none, Option.isSome_some, Option.isSome_none, if_true, if_false, reduceIte, reduceCtorEq, decide_true, decide_false, Bool.true_or, Bool.or_true, Bool.or_false, Bool.false_or, Bool.true_and, Bool.and_true, Bool.and_false, Bool.false_and, Bool.not_true, Bool.not_false, Bool.and_self, Nat.reduceLT, Nat.reduceLeDiff, Nat.reduceAdd, Nat.zero_lt_succ, Int.toNat_natCast, get_last1, get_last2, last_map, drop_map, isNat, isN]
      rename_i i
      by_cases hi : 0 ≤ i <;> simp only [hi, decide_true, decide_false] <;> simp -implicitDefEqProofs only [mwAll, kStr1, kIEnum, kIZip, kAsgG, kAsgG2, kRevD, kCallP2, kInD, asB_bl, datR_nil, datR_cons, datR_map, snapR_dat, vw_dat, dats_dat, fzO_dat, fzO_own, fzs_dat, fz, grd_true, ofO_some, permO, getE, getC, setC, Out.bind_ok, Out.bind_ex, Out.bind_bad, bindS_ok, bindS_ex, bindS_bad, seq_nx, seq_rt, seq_bk, seq_ct, seq_ex, seq_bad, Out.wp_ok, Out.wp_ex, Out.wp_bad, SO.wp_nx, SO.wp_rt, SO.wp_bk, SO.wp_ct, SO.wp_ex, SO.wp_bad, turn_nx, turn_ct, turn_bk, turn_rt, turn_ex, turn_bad, List.getElem?_cons_zero, List.getElem?_cons_succ, List.set_cons_zero, List.set_cons_succ, List.length_cons, List.length_nil, List.length_map, List.length_set, List.length_append, List.map_cons, List.map_nil, List.cons_append, List.nil_append, List.replicate_succ, List.replicate_zero, List.append_nil, List.all_cons, List.all_nil, Option.map_some, Option.map_none, Option.bind_some, Option.bind_none, Option.isSome_some, Option.isSome_none, if_true, if_false, reduceIte, reduceCtorEq, decide_true, decide_false, Bool.true_or, Bool.or_true, Bool.or_false, Bool.false_or, Bool.true_and, Bool.and_true, Bool.and_false, Bool.false_and, Bool.not_true, Bool.not_false, Bool.and_self, Nat.reduceLT, Nat.reduceLeDiff, Nat.reduceAdd, Nat.zero_lt_succ, Int.toNat_natCast, get_last1, get_last2, last_map, drop_map]
  | _ => first | (simp -implicitDefEqProofs only [mwAll, kStr1, kIEnum, kIZip, kAsgG, kAsgG2, kRevD, kCallP2, kInD, asB_bl, datR_nil, datR_cons, datR_map, snapR_dat, vw_dat, dats_dat, fzO_dat, fzO_own, fzs_dat, fz, grd_true, ofO_some, permO, getE, getC, setC, Out.bind_ok, Out.bind_ex, Out.bind_bad, bindS_ok, bindS_ex, bindS_bad, seq_nx, seq_rt, seq_bk, seq_ct, seq_ex, seq_bad, Out.wp_ok, Out.wp_ex, Out.wp_bad, SO.wp_nx, SO.wp_rt, SO.wp_bk, SO.wp_ct, SO.wp_ex, SO.wp_bad, turn_nx, turn_ct, turn_bk, turn_rt, turn_ex, turn_bad, List.getElem?_cons_zero, List.getElem?_cons_succ, List.set_cons_zero, List.set_cons_succ, List.length_cons, List.length_nil, List.length_map, List.length_set, List.length_append, List.map_cons, List.map_nil, List.cons_append, List.nil_append, List.replicate_succ, List.replicate_zero, List.append_nil, List.all_cons, List.all_nil, Option.map_some, Option.map_none, Option.bind_some, Option.bind_none, Option.isSome_some, Option.isSome_none, if_true, if_false, reduceIte, reduceCtorEq, decide_true, decide_false, Bool.true_or, Bool.or_true, Bool.or_false, Bool.false_or, Bool.true_and, Bool.and_true, Bool.and_false, Bool.false_and, Bool.not_true, Bool.not_false, Bool.and_self, Nat.reduceLT, Nat.reduceLeDiff, Nat.reduceAdd, Nat.zero_lt_succ, Int.toNat_natCast, get_last1, get_last2, last_map, drop_map, outCs, x_outR1, isWordD]; simp; done) | (exfalso; simp [D.pln] at h)
theorem isWord_tw {w : List Int} {n : Int} (h : ∀ x ∈ w, 0 ≤ x ∧ x < n) : isWordD (tw w) n = true := by
  simp only [isWordD, List.all_map, List.all_eq_true]
  intro x hx
  obtain ⟨a, b⟩ := h x hx
  simp [isN, a, b]
theorem check_word_ok {d : D} {n : Int} (h : d.pln = true) (hl : ∀ ds, d = .tup ds → ds.length ≤ LIM) (hw : isWordD d n = true) : mF_check_word [.dat d, .dat (.int n)] = .ok (.dat .non) [.dat d, .dat (.int n)] := by
  refine ok_of_wp (wp_mDef rfl ?_)
  unfold mB_check_word
  simp -implicitDefEqProofs only [mwAll, kStr1, kIEnum, kIZip, kAsgG, kAsgG2, kRevD, kCallP2, kInD, asB_bl, datR_nil, datR_cons, datR_map, snapR_dat, vw_dat, dats_dat, fzO_dat, fzO_own, fzs_dat, fz, grd_true, ofO_some, permO, getE, getC, setC, Out.bind_ok, Out.bind_ex, Out.bind_bad, bindS_ok, bindS_ex, bindS_bad, seq_nx, seq_rt, seq_bk, seq_ct, seq_ex, seq_bad, Out.wp_ok, Out.wp_ex, Out.wp_bad, SO.wp_nx, SO.wp_rt, SO.wp_bk, SO.wp_ct, SO.wp_ex, SO.wp_bad, turn_nx, turn_ct, turn_bk, turn_rt, turn_ex, turn_bad, List.getElem?_cons_zero, List.getElem?_cons_succ, List.set_cons_zero, List.set_cons_succ, List.length_cons, List.length_nil, List.length_map, List.length_set, List.length_append, List.map_cons, List.map_nil, List.cons_append, List.nil_append, List.replicate_succ, List.replicate_zero, List.append_nil, List.all_cons, List.all_nil, Option.map_some, Option.map_none, Option.bind_some, Option.bind_none, Option.isSome_some, Option.isSome_none, if_true, if_false, reduceIte, reduceCtorEq, decide_true, decide_false, Bool.true_or, Bool.or_true, Bool.or_false, Bool.false_or, Bool.true_and, Bool.and_true, Bool.and_false, Bool.false_and, Bool.not_true, Bool.not_false, Bool.and_self, Nat.reduceLT, Nat.reduceLeDiff, Nat.reduceAdd, Nat.zero_lt_succ, Int.toNat_natCast, get_last1, get_last2, last_map, drop_map, is_word_eq h hl, hw, outCs]
  simp
theorem tw_pln (w : List Int) : (tw w).pln = true := by simp [D.pln, plns_ints]
theorem tw_len {w : List Int} (h : w.length ≤ LIM) : ∀ ds, tw w = .tup ds → ds.length ≤ LIM := fun ds e => by
  injection e with e
  subst e
  rw [List.length_map]
  exact h
theorem undone_eq {u w : List Int} (hw : ∀ x ∈ w, 0 ≤ x ∧ x < (u.length : Int)) (hl : w.length ≤ LIM) : mF_undone [.dat (tw u), .dat (tw w)] = .ok (.dat (tw (backW u w))) [.dat (tw u), .dat (tw w)] := by
  refine ok_of_wp (wp_mDef rfl ?_)
  unfold mB_undone
  simp -implicitDefEqProofs only [mwAll, kStr1, kIEnum, kIZip, kAsgG, kAsgG2, kRevD, kCallP2, kInD, asB_bl, datR_nil, datR_cons, datR_map, snapR_dat, vw_dat, dats_dat, fzO_dat, fzO_own, fzs_dat, fz, grd_true, ofO_some, permO, getE, getC, setC, Out.bind_ok, Out.bind_ex, Out.bind_bad, bindS_ok, bindS_ex, bindS_bad, seq_nx, seq_rt, seq_bk, seq_ct, seq_ex, seq_bad, Out.wp_ok, Out.wp_ex, Out.wp_bad, SO.wp_nx, SO.wp_rt, SO.wp_bk, SO.wp_ct, SO.wp_ex, SO.wp_bad, turn_nx, turn_ct, turn_bk, turn_rt, turn_ex, turn_bad, List.getElem?_cons_zero, List.getElem?_cons_succ, List.set_cons_zero, List.set_cons_succ, List.length_cons, List.length_nil, List.length_map, List.length_set, List.length_append, List.map_cons, List.map_nil, List.cons_append, List.nil_append, List.replicate_succ, List.replicate_zero, List.append_nil, List.all_cons, List.all_nil, Option.map_some, Option.map_none, Option.bind_some, Option.bind_none, Option.isSome_some, Option.isSome_none, if_true, if_false, reduceIte, reduceCtorEq, decide_true, decide_false, Bool.true_or, Bool.or_true, Bool.or_false, Bool.false_or, Bool.true_and, Bool.and_true, Bool.and_false, Bool.false_and, Bool.not_true, Bool.not_false, Bool.and_self, Nat.reduceLT, Nat.reduceLeDiff, Nat.reduceAdd, Nat.zero_lt_succ, Int.toNat_natCast, get_last1, get_last2, last_map, drop_map, check_word_ok (tw_pln w) (tw_len hl) (isWord_tw hw)]
  rw [mLc_nm (xs := (w.map D.int).reverse) (F := fun x => match x with | .int i => .int (un u i) | d => d) (by rfl) (by rw [List.length_reverse, List.length_map]; exact hl) (by rfl) (by rfl) fun x hx => ?_]
  · simp -implicitDefEqProofs only [mwAll, kStr1, kIEnum, kIZip, kAsgG, kAsgG2, kRevD, kCallP2, kInD, asB_bl, datR_nil, datR_cons, datR_map, snapR_dat, vw_dat, dats_dat, fzO_dat, fzO_own, fzs_dat, fz, grd_true, ofO_some, permO, getE, getC, setC, Out.bind_ok, Out.bind_ex, Out.bind_bad, bindS_ok, bindS_ex, bindS_bad, seq_nx, seq_rt, seq_bk, seq_ct, seq_ex, seq_bad, Out.wp_ok, Out.wp_ex, Out.wp_bad, SO.wp_nx, SO.wp_rt, SO.wp_bk, SO.wp_ct, SO.wp_ex, SO.wp_bad, turn_nx, turn_ct, turn_bk, turn_rt, turn_ex, turn_bad, List.getElem?_cons_zero, List.getElem?_cons_succ, List.set_cons_zero, List.set_cons_succ, List.length_cons, List.length_nil, List.length_map, List.length_set, List.length_append, List.map_cons, List.map_nil, List.cons_append, List.nil_append, List.replicate_succ, List.replicate_zero, List.append_nil, List.all_cons, List.all_nil, Option.map_some, Option.map_none, Option.bind_some, Option.bind_none, Option.isSome_some, Option.isSome_none, if_true, if_false, reduceIte, reduceCtorEq, decide_true, decide_false, Bool.true_or, Bool.or_true, Bool.or_false, Bool.false_or, Bool.true_and, Bool.and_true, Bool.and_false, Bool.false_and, Bool.not_true, Bool.not_false, Bool.and_self, Nat.reduceLT, Nat.reduceLeDiff, Nat.reduceAdd, Nat.zero_lt_succ, Int.toNat_natCast, get_last1, get_last2, last_map, drop_map, outC0, outC1, x_outR1]
    unfold backW
    rw [← List.map_reverse, List.map_map]
    refine ⟨?_, trivial⟩
    rw [tw, List.map_map]
    rfl
  · obtain ⟨i, hi, rfl⟩ := List.mem_map.mp (List.mem_reverse.mp hx)
    obtain ⟨h0, h1⟩ := hw i hi
    simp -implicitDefEqProofs only [mwAll, kStr1, kIEnum, kIZip, kAsgG, kAsgG2, kRevD, kCallP2, kInD, asB_bl, datR_nil, datR_cons, datR_map, snapR_dat, vw_dat, dats_dat, fzO_dat, fzO_own, fzs_dat, fz, grd_true, ofO_some, permO, getE, getC, setC, Out.bind_ok, Out.bind_ex, Out.bind_bad, bindS_ok, bindS_ex, bindS_bad, seq_nx, seq_rt, seq_bk, seq_ct, seq_ex, seq_bad, Out.wp_ok, Out.wp_ex, Out.wp_bad, SO.wp_nx, SO.wp_rt, SO.wp_bk, SO.wp_ct, SO.wp_ex, SO.wp_bad, turn_nx, turn_ct, turn_bk, turn_rt, turn_ex, turn_bad, List.getElem?_cons_zero, List.getElem?_cons_succ, List.set_cons_zero, List.set_cons_succ, List.length_cons, List.length_nil, List.length_map, List.length_set, List.length_append, List.map_cons, List.map_nil, List.cons_append, List.nil_append, List.replicate_succ, List.replicate_zero, List.append_nil, List.all_cons, List.all_nil, Option.map_some, Option.map_none, Option.bind_some, Option.bind_none, Option.isSome_some, Option.isSome_none, if_true, if_false, reduceIte, reduceCtorEq, decide_true, decide_false, Bool.true_or, Bool.or_true, Bool.or_false, Bool.false_or, Bool.true_and, Bool.and_true, Bool.and_false, Bool.false_and, Bool.not_true, Bool.not_false, Bool.and_self, Nat.reduceLT, Nat.reduceLeDiff, Nat.reduceAdd, Nat.zero_lt_succ, Int.toNat_natCast, get_last1, get_last2, last_map, drop_map, un_atI h0 h1]
theorem freely_reduced_eq {u w : List Int} (hu : u.length ≤ LIM) (hr : ∀ x ∈ u, 0 ≤ x ∧ x < (u.length : Int)) (hw : ∀ x ∈ w, 0 ≤ x ∧ x < (u.length : Int)) (hl : w.length ≤ LIM) : mF_freely_reduced [.dat (tw u), .dat (tw w)] = .ok (.dat (tw (freeW u w))) [.dat (tw u), .dat (tw w)] := by
  refine ok_of_wp (wp_mDef rfl ?_)
  unfold mB_freely_reduced
  simp -implicitDefEqProofs only [mwAll, kStr1, kIEnum, kIZip, kAsgG, kAsgG2, kRevD, kCallP2, kInD, asB_bl, datR_nil, datR_cons, datR_map, snapR_dat, vw_dat, dats_dat, fzO_dat, fzO_own, fzs_dat, fz, grd_true, ofO_some, permO, getE, getC, setC, Out.bind_ok, Out.bind_ex, Out.bind_bad, bindS_ok, bindS_ex, bindS_bad, seq_nx, seq_rt, seq_bk, seq_ct, seq_ex, seq_bad, Out.wp_ok, Out.wp_ex, Out.wp_bad, SO.wp_nx, SO.wp_rt, SO.wp_bk, SO.wp_ct, SO.wp_ex, SO.wp_bad, turn_nx, turn_ct, turn_bk, turn_rt, turn_ex, turn_bad, List.getElem?_cons_zero, List.getElem?_cons_succ, List.set_cons_zero, List.set_cons_succ, List.length_cons, List.length_nil, List.length_map, List.length_set, List.length_append, List.map_cons, List.map_nil, List.cons_append, List.nil_append, List.replicate_succ, List.replicate_zero, List.append_nil, List.all_cons, List.all_nil, Option.map_some, Option.map_none, Option.bind_some, Option.bind_none, Option.isSome_some, Option.isSome_none, if_true, if_false, reduceIte, reduceCtorEq, decide_true, decide_false, Bool.true_or, Bool.or_true, Bool.or_false, Bool.false_or, Bool.true_and, Bool.and_true, Bool.and_false, Bool.false_and, Bool.not_true, Bool.not_false, Bool.and_self, Nat.reduceLT, Nat.reduceLeDiff, Nat.reduceAdd, Nat.zero_lt_succ, Int.toNat_natCast, get_last1, get_last2, last_map, drop_map, check_word_ok (tw_pln w) (tw_len hl) (isWord_tw hw)]
  refine wp_forSeq (fun k e => ∃ c, e = [C.dat (tw u), C.dat (tw w), .lst (((freeW u (w.take k)).map D.int).map C.dat), c]) ⟨_, rfl⟩ (fun k x e hx ⟨c, he⟩ => ?_) fun e ⟨c, he⟩ => ?_
  · subst he
    rw [List.getElem?_map, Option.map_eq_some_iff] at hx
    obtain ⟨i, hi, rfl⟩ := hx
    refine ⟨_, rfl, ?_⟩
    have ht := freeW_take (u := u) hi
    generalize hg : freeW u (w.take k) = left at ht
    have hm : ∀ x ∈ left, 0 ≤ x ∧ x < (u.length : Int) := by
      rw [← hg]
      exact freeW_mem fun x hx => hw x (List.mem_of_mem_take hx)
    have hl2 : left.length < LIM := by
      rw [← hg]
      have := freeW_len u (w.take k)
      have hk := (List.getElem?_eq_some_iff.mp hi).1
      rw [List.length_take] at this
      omega
    by_cases z : left = []
    · subst z
      simp -implicitDefEqProofs only [mwAll, kStr1, kIEnum, kIZip, kAsgG, kAsgG2, kRevD, kCallP2, kInD, asB_bl, datR_nil, datR_cons, datR_map, snapR_dat, vw_dat, dats_dat, fzO_dat, fzO_own, fzs_dat, fz, grd_true, ofO_some, permO, getE, getC, setC, Out.bind_ok, Out.bind_ex, Out.bind_bad, bindS_ok, bindS_ex, bindS_bad, seq_nx, seq_rt, seq_bk, seq_ct, seq_ex, seq_bad, Out.wp_ok, Out.wp_ex, Out.wp_bad, SO.wp_nx, SO.wp_rt, SO.wp_bk, SO.wp_ct, SO.wp_ex, SO.wp_bad, turn_nx, turn_ct, turn_bk, turn_rt, turn_ex, turn_bad, List.getElem?_cons_zero, List.getElem?_cons_succ, List.set_cons_zero, List.set_cons_succ, List.length_cons, List.length_nil, List.length_map, List.length_set, List.length_append, List.map_cons, List.map_nil, List.cons_append, List.nil_append, List.replicate_succ, List.replicate_zero, List.append_nil, List.all_cons, List.all_nil, Option.map_some, Option.map_none, Option.bind_some, Option.bind_none, Option.isSome_some, Option.isSome_none, if_true, if_false, reduceIte, reduceCtorEq, decide_true, decide_false, Bool.true_or, Bool.or_true, Bool.or_false, Bool.false_or, Bool.true_and, Bool.and_true, Bool.and_false, Bool.false_and, Bool.not_true, Bool.not_false, Bool.and_self, Nat.reduceLT, Nat.reduceLeDiff, Nat.reduceAdd, Nat.zero_lt_succ, Int.toNat_natCast, get_last1, get_last2, last_map, drop_map]
      exact ⟨_, by rw [ht]; rfl⟩
    · obtain ⟨m, y, rfl⟩ := snoc_of z
      obtain ⟨y0, y1⟩ := hm y (by simp)
      simp -implicitDefEqProofs only [mwAll, kStr1, kIEnum, kIZip, kAsgG, kAsgG2, kRevD, kCallP2, kInD, asB_bl, datR_nil, datR_cons, datR_map, snapR_dat, vw_dat, dats_dat, fzO_dat, fzO_own, fzs_dat, fz, grd_true, ofO_some, permO, getE, getC, setC, Out.bind_ok, Out.bind_ex, Out.bind_bad, bindS_ok, bindS_ex, bindS_bad, seq_nx, seq_rt, seq_bk, seq_ct, seq_ex, seq_bad, Out.wp_ok, Out.wp_ex, Out.wp_bad, SO.wp_nx, SO.wp_rt, SO.wp_bk, SO.wp_ct, SO.wp_ex, SO.wp_bad, turn_nx, turn_ct, turn_bk, turn_rt, turn_ex, turn_bad, List.getElem?_cons_zero, List.getElem?_cons_succ, List.set_cons_zero, List.set_cons_succ, List.length_cons, List.length_nil, List.length_map, List.length_set, List.length_append, List.map_cons, List.map_nil, List.cons_append, List.nil_append, List.replicate_succ, List.replicate_zero, List.append_nil, List.all_cons, List.all_nil, Option.map_some, Option.map_none, Option.bind_some, Option.bind_none, Option.isSome_some, Option.isSome_none, if_true, if_false, reduceIte, reduceCtorEq, decide_true, decide_false, Bool.true_or, Bool.or_true, Bool.or_false, Bool.false_or, Bool.true_and, Bool.and_true, Bool.and_false, Bool.false_and, Bool.not_true, Bool.not_false, Bool.and_self, Nat.reduceLT, Nat.reduceLeDiff, Nat.reduceAdd, Nat.zero_lt_succ, Int.toNat_natCast, get_last1, get_last2, last_map, drop_map, un_atI y0 y1]
      rw [redStep_snoc] at ht
      by_cases q : un u y = i
      · rw [if_pos q] at ht
        simp -implicitDefEqProofs only [mwAll, kStr1, kIEnum, kIZip, kAsgG, kAsgG2, kRevD, kCallP2, kInD, asB_bl, datR_nil, datR_cons, datR_map, snapR_dat, vw_dat, dats_dat, fzO_dat, fzO_own, fzs_dat, fz, grd_true, ofO_some, permO, getE, getC, setC, Out.bind_ok, Out.bind_ex, Out.bind_bad, bindS_ok, bindS_ex, bindS_bad, seq_nx, seq_rt, seq_bk, seq_ct, seq_ex, seq_bad, Out.wp_ok, Out.wp_ex, Out.wp_bad, SO.wp_nx, SO.wp_rt, SO.wp_bk, SO.wp_ct, SO.wp_ex, SO.wp_bad, turn_nx, turn_ct, turn_bk, turn_rt, turn_ex, turn_bad, List.getElem?_cons_zero, List.getElem?_cons_succ, List.set_cons_zero, List.set_cons_succ, List.length_cons, List.length_nil, List.length_map, List.length_set, List.length_append, List.map_cons, List.map_nil, List.cons_append, List.nil_append, List.replicate_succ, List.replicate_zero, List.append_nil, List.all_cons, List.all_nil, Option.map_some, Option.map_none, Option.bind_some, Option.bind_none, Option.isSome_some, Option.isSome_none, if_true, if_false, reduceIte, reduceCtorEq, decide_true, decide_false, Bool.true_or, Bool.or_true, Bool.or_false, Bool.false_or, Bool.true_and, Bool.and_true, Bool.and_false, Bool.false_and, Bool.not_true, Bool.not_false, Bool.and_self, Nat.reduceLT, Nat.reduceLeDiff, Nat.reduceAdd, Nat.zero_lt_succ, Int.toNat_natCast, get_last1, get_last2, last_map, drop_map, q]
        exact ⟨_, by rw [ht]⟩
      · rw [if_neg q] at ht
        rw [List.length_append] at hl2
        simp -implicitDefEqProofs only [mwAll, kStr1, kIEnum, kIZip, kAsgG, kAsgG2, kRevD, kCallP2, kInD, asB_bl, datR_nil, datR_cons, datR_map, snapR_dat, vw_dat, dats_dat, fzO_dat, fzO_own, fzs_dat, fz, grd_true, ofO_some, permO, getE, getC, setC, Out.bind_ok, Out.bind_ex, Out.bind_bad, bindS_ok, bindS_ex, bindS_bad, seq_nx, seq_rt, seq_bk, seq_ct, seq_ex, seq_bad, Out.wp_ok, Out.wp_ex, Out.wp_bad, SO.wp_nx, SO.wp_rt, SO.wp_bk, SO.wp_ct, SO.wp_ex, SO.wp_bad, turn_nx, turn_ct, turn_bk, turn_rt, turn_ex, turn_bad, List.getElem?_cons_zero, List.getElem?_cons_succ, List.set_cons_zero, List.set_cons_succ, List.length_cons, List.length_nil, List.length_map, List.length_set, List.length_append, List.map_cons, List.map_nil, List.cons_append, List.nil_append, List.replicate_succ, List.replicate_zero, List.append_nil, List.all_cons, List.all_nil, Option.map_some, Option.map_none, Option.bind_some, Option.bind_none, Option.isSome_some, Option.isSome_none, if_true, if_false, reduceIte, reduceCtorEq, decide_true, decide_false, Bool.true_or, Bool.or_true, Bool.or_false, Bool.false_or, Bool.true_and, Bool.and_true, Bool.and_false, Bool.false_and, Bool.not_true, Bool.not_false, Bool.and_self, Nat.reduceLT, Nat.reduceLeDiff, Nat.reduceAdd, Nat.zero_lt_succ, Int.toNat_natCast, get_last1, get_last2, last_map, drop_map, q]
        have hl2 : m.length + 1 < LIM := hl2
        simp -implicitDefEqProofs only [mwAll, kStr1, kIEnum, kIZip, kAsgG, kAsgG2, kRevD, kCallP2, kInD, asB_bl, datR_nil, datR_cons, datR_map, snapR_dat, vw_dat, dats_dat, fzO_dat, fzO_own, fzs_dat, fz, grd_true, ofO_some, permO, getE, getC, setC, Out.bind_ok, Out.bind_ex, Out.bind_bad, bindS_ok, bindS_ex, bindS_bad, seq_nx, seq_rt, seq_bk, seq_ct, seq_ex, seq_bad, Out.wp_ok, Out.wp_ex, Out.wp_bad, SO.wp_nx, SO.wp_rt, SO.wp_bk, SO.wp_ct, SO.wp_ex, SO.wp_bad, turn_nx, turn_ct, turn_bk, turn_rt, turn_ex, turn_bad, List.getElem?_cons_zero, List.getElem?_cons_succ, List.set_cons_zero, List.set_cons_succ, List.length_cons, List.length_nil, List.length_map, List.length_set, List.length_append, List.map_cons, List.map_nil, List.cons_append, List.nil_append, List.replicate_succ, List.replicate_zero, List.append_nil, List.all_cons, List.all_nil, Option.map_some, Option.map_none, Option.bind_some, Option.bind_none, Option.isSome_some, Option.isSome_none, if_true, if_false, reduceIte, reduceCtorEq, decide_true, decide_false, Bool.true_or, Bool.or_true, Bool.or_false, Bool.false_or, Bool.true_and, Bool.and_true, Bool.and_false, Bool.false_and, Bool.not_true, Bool.not_false, Bool.and_self, Nat.reduceLT, Nat.reduceLeDiff, Nat.reduceAdd, Nat.zero_lt_succ, Int.toNat_natCast, get_last1, get_last2, last_map, drop_map, hl2]
        exact ⟨_, by rw [ht, map_snoc]⟩
  · subst he
    simp -implicitDefEqProofs only [mwAll, kStr1, kIEnum, kIZip, kAsgG, kAsgG2, kRevD, kCallP2, kInD, asB_bl, datR_nil, datR_cons, datR_map, snapR_dat, vw_dat, dats_dat, fzO_dat, fzO_own, fzs_dat, fz, grd_true, ofO_some, permO, getE, getC, setC, Out.bind_ok, Out.bind_ex, Out.bind_bad, bindS_ok, bindS_ex, bindS_bad, seq_nx, seq_rt, seq_bk, seq_ct, seq_ex, seq_bad, Out.wp_ok, Out.wp_ex, Out.wp_bad, SO.wp_nx, SO.wp_rt, SO.wp_bk, SO.wp_ct, SO.wp_ex, SO.wp_bad, turn_nx, turn_ct, turn_bk, turn_rt, turn_ex, turn_bad, List.getElem?_cons_zero, List.getElem?_cons_succ, List.set_cons_zero, List.set_cons_succ, List.length_cons, List.length_nil, List.length_map, List.length_set, List.length_append, List.map_cons, List.map_nil, List.cons_append, List.nil_append, List.replicate_succ, List.replicate_zero, List.append_nil, List.all_cons, List.all_nil, Option.map_some, Option.map_none, Option.bind_some, Option.bind_none, Option.isSome_some, Option.isSome_none, if_true, if_false, reduceIte, reduceCtorEq, decide_true, decide_false, Bool.true_or, Bool.or_true, Bool.or_false, Bool.false_or, Bool.true_and, Bool.and_true, Bool.and_false, Bool.false_and, Bool.not_true, Bool.not_false, Bool.and_self, Nat.reduceLT, Nat.reduceLeDiff, Nat.reduceAdd, Nat.zero_lt_succ, Int.toNat_natCast, get_last1, get_last2, last_map, drop_map, outC0, outC1, List.take_length]
    simp
theorem law_reduced_eq {u w : List Int} (hu : u.length ≤ LIM) (hr : ∀ x ∈ u, 0 ≤ x ∧ x < (u.length : Int)) (hw : ∀ x ∈ w, 0 ≤ x ∧ x < (u.length : Int)) (hl : w.length ≤ LIM) (hv : ∀ x, 0 ≤ x → x < (u.length : Int) → un u (un u x) = x) : mF_law_reduced [.dat (tw u), .dat (tw w)] = .ok (.dat (tw (freeW u w))) [.dat (tw u), .dat (tw w)] := by
  refine ok_of_wp (wp_mDef rfl ?_)
  unfold mB_law_reduced
  simp -implicitDefEqProofs only [mwAll, kStr1, kIEnum, kIZip, kAsgG, kAsgG2, kRevD, kCallP2, kInD, asB_bl, datR_nil, datR_cons, datR_map, snapR_dat, vw_dat, dats_dat, fzO_dat, fzO_own, fzs_dat, fz, grd_true, ofO_some, permO, getE, getC, setC, Out.bind_ok, Out.bind_ex, Out.bind_bad, bindS_ok, bindS_ex, bindS_bad, seq_nx, seq_rt, seq_bk, seq_ct, seq_ex, seq_bad, Out.wp_ok, Out.wp_ex, Out.wp_bad, SO.wp_nx, SO.wp_rt, SO.wp_bk, SO.wp_ct, SO.wp_ex, SO.wp_bad, turn_nx, turn_ct, turn_bk, turn_rt, turn_ex, turn_bad, List.getElem?_cons_zero, List.getElem?_cons_succ, List.set_cons_zero, List.set_cons_succ, List.length_cons, List.length_nil, List.length_map, List.length_set, List.length_append, List.map_cons, List.map_nil, List.cons_append, List.nil_append, List.replicate_succ, List.replicate_zero, List.append_nil, List.all_cons, List.all_nil, Option.map_some, Option.map_none, Option.bind_some, Option.bind_none, Option.isSome_some, Option.isSome_none, if_true, if_false, reduceIte, reduceCtorEq, decide_true, decide_false, Bool.true_or, Bool.or_true, Bool.or_false, Bool.false_or, Bool.true_and, Bool.and_true, Bool.and_false, Bool.false_and, Bool.not_true, Bool.not_false, Bool.and_self, Nat.reduceLT, Nat.reduceLeDiff, Nat.reduceAdd, Nat.zero_lt_succ, Int.toNat_natCast, get_last1, get_last2, last_map, drop_map]
  refine wp_forSeq (fun k e => ∃ c, e = [C.dat (tw u), C.dat (tw w), .lst (((freeW u (w.take k)).map D.int).map C.dat), c]) ⟨_, rfl⟩ (fun k x e hx ⟨c, he⟩ => ?_) fun e ⟨c, he⟩ => ?_
  · subst he
    rw [List.getElem?_map, Option.map_eq_some_iff] at hx
    obtain ⟨i, hi, rfl⟩ := hx
    refine ⟨_, rfl, ?_⟩
    have ht := freeW_take (u := u) hi
    have hi2 := hw i (List.mem_of_getElem? hi)
    generalize hg : freeW u (w.take k) = left at ht
    have hm : ∀ x ∈ left, 0 ≤ x ∧ x < (u.length : Int) := by
      rw [← hg]
      exact freeW_mem fun x hx => hw x (List.mem_of_mem_take hx)
    have hl2 : left.length < LIM := by
      rw [← hg]
      have := freeW_len u (w.take k)
      have hk := (List.getElem?_eq_some_iff.mp hi).1
      rw [List.length_take] at this
      omega
    simp -implicitDefEqProofs only [mwAll, kStr1, kIEnum, kIZip, kAsgG, kAsgG2, kRevD, kCallP2, kInD, asB_bl, datR_nil, datR_cons, datR_map, snapR_dat, vw_dat, dats_dat, fzO_dat, fzO_own, fzs_dat, fz, grd_true, ofO_some, permO, getE, getC, setC, Out.bind_ok, Out.bind_ex, Out.bind_bad, bindS_ok, bindS_ex, bindS_bad, seq_nx, seq_rt, seq_bk, seq_ct, seq_ex, seq_bad, Out.wp_ok, Out.wp_ex, Out.wp_bad, SO.wp_nx, SO.wp_rt, SO.wp_bk, SO.wp_ct, SO.wp_ex, SO.wp_bad, turn_nx, turn_ct, turn_bk, turn_rt, turn_ex, turn_bad, List.getElem?_cons_zero, List.getElem?_cons_succ, List.set_cons_zero, List.set_cons_succ, List.length_cons, List.length_nil, List.length_map, List.length_set, List.length_append, List.map_cons, List.map_nil, List.cons_append, List.nil_append, List.replicate_succ, List.replicate_zero, List.append_nil, List.all_cons, List.all_nil, Option.map_some, Option.map_none, Option.bind_some, Option.bind_none, Option.isSome_some, Option.isSome_none, if_true, if_false, reduceIte, reduceCtorEq, decide_true, decide_false, Bool.true_or, Bool.or_true, Bool.or_false, Bool.false_or, Bool.true_and, Bool.and_true, Bool.and_false, Bool.false_and, Bool.not_true, Bool.not_false, Bool.and_self, Nat.reduceLT, Nat.reduceLeDiff, Nat.reduceAdd, Nat.zero_lt_succ, Int.toNat_natCast, get_last1, get_last2, last_map, drop_map]
    by_cases z : left = []
    · subst z
      simp -implicitDefEqProofs only [mwAll, kStr1, kIEnum, kIZip, kAsgG, kAsgG2, kRevD, kCallP2, kInD, asB_bl, datR_nil, datR_cons, datR_map, snapR_dat, vw_dat, dats_dat, fzO_dat, fzO_own, fzs_dat, fz, grd_true, ofO_some, permO, getE, getC, setC, Out.bind_ok, Out.bind_ex, Out.bind_bad, bindS_ok, bindS_ex, bindS_bad, seq_nx, seq_rt, seq_bk, seq_ct, seq_ex, seq_bad, Out.wp_ok, Out.wp_ex, Out.wp_bad, SO.wp_nx, SO.wp_rt, SO.wp_bk, SO.wp_ct, SO.wp_ex, SO.wp_bad, turn_nx, turn_ct, turn_bk, turn_rt, turn_ex, turn_bad, List.getElem?_cons_zero, List.getElem?_cons_succ, List.set_cons_zero, List.set_cons_succ, List.length_cons, List.length_nil, List.length_map, List.length_set, List.length_append, List.map_cons, List.map_nil, List.cons_append, List.nil_append, List.replicate_succ, List.replicate_zero, List.append_nil, List.all_cons, List.all_nil, Option.map_some, Option.map_none, Option.bind_some, Option.bind_none, Option.isSome_some, Option.isSome_none, if_true, if_false, reduceIte, reduceCtorEq, decide_true, decide_false, Bool.true_or, Bool.or_true, Bool.or_false, Bool.false_or, Bool.true_and, Bool.and_true, Bool.and_false, Bool.false_and, Bool.not_true, Bool.not_false, Bool.and_self, Nat.reduceLT, Nat.reduceLeDiff, Nat.reduceAdd, Nat.zero_lt_succ, Int.toNat_natCast, get_last1, get_last2, last_map, drop_map]
      exact ⟨_, by rw [ht]; rfl⟩
    · obtain ⟨m, y, rfl⟩ := snoc_of z
      obtain ⟨y0, y1⟩ := hm y (by simp)
      simp -implicitDefEqProofs only [mwAll, kStr1, kIEnum, kIZip, kAsgG, kAsgG2, kRevD, kCallP2, kInD, asB_bl, datR_nil, datR_cons, datR_map, snapR_dat, vw_dat, dats_dat, fzO_dat, fzO_own, fzs_dat, fz, grd_true, ofO_some, permO, getE, getC, setC, Out.bind_ok, Out.bind_ex, Out.bind_bad, bindS_ok, bindS_ex, bindS_bad, seq_nx, seq_rt, seq_bk, seq_ct, seq_ex, seq_bad, Out.wp_ok, Out.wp_ex, Out.wp_bad, SO.wp_nx, SO.wp_rt, SO.wp_bk, SO.wp_ct, SO.wp_ex, SO.wp_bad, turn_nx, turn_ct, turn_bk, turn_rt, turn_ex, turn_bad, List.getElem?_cons_zero, List.getElem?_cons_succ, List.set_cons_zero, List.set_cons_succ, List.length_cons, List.length_nil, List.length_map, List.length_set, List.length_append, List.map_cons, List.map_nil, List.cons_append, List.nil_append, List.replicate_succ, List.replicate_zero, List.append_nil, List.all_cons, List.all_nil, Option.map_some, Option.map_none, Option.bind_some, Option.bind_none, Option.isSome_some, Option.isSome_none, if_true, if_false, reduceIte, reduceCtorEq, decide_true, decide_false, Bool.true_or, Bool.or_true, Bool.or_false, Bool.false_or, Bool.true_and, Bool.and_true, Bool.and_false, Bool.false_and, Bool.not_true, Bool.not_false, Bool.and_self, Nat.reduceLT, Nat.reduceLeDiff, Nat.reduceAdd, Nat.zero_lt_succ, Int.toNat_natCast, get_last1, get_last2, last_map, drop_map, un_atI hi2.1 hi2.2]
      rw [redStep_snoc] at ht
      by_cases q : un u y = i
      · rw [if_pos q] at ht
        have q : y = un u i := by rw [← q, hv y y0 y1]
        simp -implicitDefEqProofs only [mwAll, kStr1, kIEnum, kIZip, kAsgG, kAsgG2, kRevD, kCallP2, kInD, asB_bl, datR_nil, datR_cons, datR_map, snapR_dat, vw_dat, dats_dat, fzO_dat, fzO_own, fzs_dat, fz, grd_true, ofO_some, permO, getE, getC, setC, Out.bind_ok, Out.bind_ex, Out.bind_bad, bindS_ok, bindS_ex, bindS_bad, seq_nx, seq_rt, seq_bk, seq_ct, seq_ex, seq_bad, Out.wp_ok, Out.wp_ex, Out.wp_bad, SO.wp_nx, SO.wp_rt, SO.wp_bk, SO.wp_ct, SO.wp_ex, SO.wp_bad, turn_nx, turn_ct, turn_bk, turn_rt, turn_ex, turn_bad, List.getElem?_cons_zero, List.getElem?_cons_succ, List.set_cons_zero, List.set_cons_succ, List.length_cons, List.length_nil, List.length_map, List.length_set, List.length_append, List.map_cons, List.map_nil, List.cons_append, List.nil_append, List.replicate_succ, List.replicate_zero, List.append_nil, List.all_cons, List.all_nil, Option.map_some, Option.map_none, Option.bind_some, Option.bind_none, Option.isSome_some, Option.isSome_none, if_true, if_false, reduceIte, reduceCtorEq, decide_true, decide_false, Bool.true_or, Bool.or_true, Bool.or_false, Bool.false_or, Bool.true_and, Bool.and_true, Bool.and_false, Bool.false_and, Bool.not_true, Bool.not_false, Bool.and_self, Nat.reduceLT, Nat.reduceLeDiff, Nat.reduceAdd, Nat.zero_lt_succ, Int.toNat_natCast, get_last1, get_last2, last_map, drop_map, q]
        exact ⟨_, by rw [ht]⟩
      · rw [if_neg q] at ht
        rw [List.length_append] at hl2
        have q : ¬ y = un u i := fun z => q (by rw [z, hv i hi2.1 hi2.2])
        simp -implicitDefEqProofs only [mwAll, kStr1, kIEnum, kIZip, kAsgG, kAsgG2, kRevD, kCallP2, kInD, asB_bl, datR_nil, datR_cons, datR_map, snapR_dat, vw_dat, dats_dat, fzO_dat, fzO_own, fzs_dat, fz, grd_true, ofO_some, permO, getE, getC, setC, Out.bind_ok, Out.bind_ex, Out.bind_bad, bindS_ok, bindS_ex, bindS_bad, seq_nx, seq_rt, seq_bk, seq_ct, seq_ex, seq_bad, Out.wp_ok, Out.wp_ex, Out.wp_bad, SO.wp_nx, SO.wp_rt, SO.wp_bk, SO.wp_ct, SO.wp_ex, SO.wp_bad, turn_nx, turn_ct, turn_bk, turn_rt, turn_ex, turn_bad, List.getElem?_cons_zero, List.getElem?_cons_succ, List.set_cons_zero, List.set_cons_succ, List.length_cons, List.length_nil, List.length_map, List.length_set, List.length_append, List.map_cons, List.map_nil, List.cons_append, List.nil_append, List.replicate_succ, List.replicate_zero, List.append_nil, List.all_cons, List.all_nil, Option.map_some, Option.map_none, Option.bind_some, Option.bind_none, Option.isSome_some, Option.isSome_none, if_true, if_false, reduceIte, reduceCtorEq, decide_true, decide_false, Bool.true_or, Bool.or_true, Bool.or_false, Bool.false_or, Bool.true_and, Bool.and_true, Bool.and_false, Bool.false_and, Bool.not_true, Bool.not_false, Bool.and_self, Nat.reduceLT, Nat.reduceLeDiff, Nat.reduceAdd, Nat.zero_lt_succ, Int.toNat_natCast, get_last1, get_last2, last_map, drop_map, q]
        have hl2 : m.length + 1 < LIM := hl2
        simp -implicitDefEqProofs only [mwAll, kStr1, kIEnum, kIZip, kAsgG, kAsgG2, kRevD, kCallP2, kInD, asB_bl, datR_nil, datR_cons, datR_map, snapR_dat, vw_dat, dats_dat, fzO_dat, fzO_own, fzs_dat, fz, grd_true, ofO_some, permO, getE, getC, setC, Out.bind_ok, Out.bind_ex, Out.bind_bad, bindS_ok, bindS_ex, bindS_bad, seq_nx, seq_rt, seq_bk, seq_ct, seq_ex, seq_bad, Out.wp_ok, Out.wp_ex, Out.wp_bad, SO.wp_nx, SO.wp_rt, SO.wp_bk, SO.wp_ct, SO.wp_ex, SO.wp_bad, turn_nx, turn_ct, turn_bk, turn_rt, turn_ex, turn_bad, List.getElem?_cons_zero, List.getElem?_cons_succ, List.set_cons_zero, List.set_cons_succ, List.length_cons, List.length_nil, List.length_map, List.length_set, List.length_append, List.map_cons, List.map_nil, List.cons_append, List.nil_append, List.replicate_succ, List.replicate_zero, List.append_nil, List.all_cons, List.all_nil, Option.map_some, Option.map_none, Option.bind_some, Option.bind_none, Option.isSome_some, Option.isSome_none, if_true, if_false, reduceIte, reduceCtorEq, decide_true, decide_false, Bool.true_or, Bool.or_true, Bool.or_false, Bool.false_or, Bool.true_and, Bool.and_true, Bool.and_false, Bool.false_and, Bool.not_true, Bool.not_false, Bool.and_self, Nat.reduceLT, Nat.reduceLeDiff, Nat.reduceAdd, Nat.zero_lt_succ, Int.toNat_natCast, get_last1, get_last2, last_map, drop_map, hl2]
        exact ⟨_, by rw [ht, map_snoc]⟩
  · subst he
    simp -implicitDefEqProofs only [mwAll, kStr1, kIEnum, kIZip, kAsgG, kAsgG2, kRevD, kCallP2, kInD, asB_bl, datR_nil, datR_cons, datR_map, snapR_dat, vw_dat, dats_dat, fzO_dat, fzO_own, fzs_dat, fz, grd_true, ofO_some, permO, getE, getC, setC, Out.bind_ok, Out.bind_ex, Out.bind_bad, bindS_ok, bindS_ex, bindS_bad, seq_nx, seq_rt, seq_bk, seq_ct, seq_ex, seq_bad, Out.wp_ok, Out.wp_ex, Out.wp_bad, SO.wp_nx, SO.wp_rt, SO.wp_bk, SO.wp_ct, SO.wp_ex, SO.wp_bad, turn_nx, turn_ct, turn_bk, turn_rt, turn_ex, turn_bad, List.getElem?_cons_zero, List.getElem?_cons_succ, List.set_cons_zero, List.set_cons_succ, List.length_cons, List.length_nil, List.length_map, List.length_set, List.length_append, List.map_cons, List.map_nil, List.cons_append, List.nil_append, List.replicate_succ, List.replicate_zero, List.append_nil, List.all_cons, List.all_nil, Option.map_some, Option.map_none, Option.bind_some, Option.bind_none, Option.isSome_some, Option.isSome_none, if_true, if_false, reduceIte, reduceCtorEq, decide_true, decide_false, Bool.true_or, Bool.or_true, Bool.or_false, Bool.false_or, Bool.true_and, Bool.and_true, Bool.and_false, Bool.false_and, Bool.not_true, Bool.not_false, Bool.and_self, Nat.reduceLT, Nat.reduceLeDiff, Nat.reduceAdd, Nat.zero_lt_succ, Int.toNat_natCast, get_last1, get_last2, last_map, drop_map, outC0, outC1, List.take_length]
    simp
theorem law_back_eq {u w : List Int} (hw : ∀ x ∈ w, 0 ≤ x ∧ x < (u.length : Int)) (hl : w.length ≤ LIM) : mF_law_back [.dat (tw u), .dat (tw w)] = .ok (.dat (tw (backW u w))) [.dat (tw u), .dat (tw w)] := by
  unfold mF_law_back
  refine ok_of_wp ?_
  with_reducible refine wp_mDef rfl ?_
  unfold mB_law_back
  simp -implicitDefEqProofs only [mwAll, kStr1, kIEnum, kIZip, kAsgG, kAsgG2, kRevD, kCallP2, kInD, asB_bl, datR_nil, datR_cons, datR_map, snapR_dat, vw_dat, dats_dat, fzO_dat, fzO_own, fzs_dat, fz, grd_true, ofO_some, permO, getE, getC, setC, Out.bind_ok, Out.bind_ex, Out.bind_bad, bindS_ok, bindS_ex, bindS_bad, seq_nx, seq_rt, seq_bk, seq_ct, seq_ex, seq_bad, Out.wp_ok, Out.wp_ex, Out.wp_bad, SO.wp_nx, SO.wp_rt, SO.wp_bk, SO.wp_ct, SO.wp_ex, SO.wp_bad, turn_nx, turn_ct, turn_bk, turn_rt, turn_ex, turn_bad, List.getElem?_cons_zero, List.getElem?_cons_succ, List.set_cons_zero, List.set_cons_succ, List.length_cons, List.length_nil, List.length_map, List.length_set, List.length_append, List.map_cons, List.map_nil, List.cons_append, List.nil_append, List.replicate_succ, List.replicate_zero, List.append_nil, List.all_cons, List.all_nil, Option.map_some, Option.map_none, Option.bind_some, Option.bind_none, Option.isSome_some, Option.isSome_none, if_true, if_false, reduceIte, reduceCtorEq, decide_true, decide_false, Bool.true_or, Bool.or_true, Bool.or_false, Bool.false_or, Bool.true_and, Bool.and_true, Bool.and_false, Bool.false_and, Bool.not_true, Bool.not_false, Bool.and_self, Nat.reduceLT, Nat.reduceLeDiff, Nat.reduceAdd, Nat.zero_lt_succ, Int.toNat_natCast, get_last1, get_last2, last_map, drop_map]
  have hl2 : w.length ≤ 1000000000 := by unfold LIM at hl; omega
  rw [mLc_nm (xs := rng 0 w.length) (F := fun x => match x with | .int i => .int (un u (w.getD (w.length - 1 - i.toNat) 0)) | d => d) (e0 := [C.dat (tw u), C.dat (tw w), C.non]) (by simp -implicitDefEqProofs only [mwAll, kStr1, kIEnum, kIZip, kAsgG, kAsgG2, kRevD, kCallP2, kInD, asB_bl, datR_nil, datR_cons, datR_map, snapR_dat, vw_dat, dats_dat, fzO_dat, fzO_own, fzs_dat, fz, grd_true, ofO_some, permO, getE, getC, setC, Out.bind_ok, Out.bind_ex, Out.bind_bad, bindS_ok, bindS_ex, bindS_bad, seq_nx, seq_rt, seq_bk, seq_ct, seq_ex, seq_bad, Out.wp_ok, Out.wp_ex, Out.wp_bad, SO.wp_nx, SO.wp_rt, SO.wp_bk, SO.wp_ct, SO.wp_ex, SO.wp_bad, turn_nx, turn_ct, turn_bk, turn_rt, turn_ex, turn_bad, List.getElem?_cons_zero, List.getElem?_cons_succ, List.set_cons_zero, List.set_cons_succ, List.length_cons, List.length_nil, List.length_map, List.length_set, List.length_append, List.map_cons, List.map_nil, List.cons_append, List.nil_append, List.replicate_succ, List.replicate_zero, List.append_nil, List.all_cons, List.all_nil, Option.map_some, Option.map_none, Option.bind_some, Option.bind_none, Option.isSome_some, Option.isSome_none, if_true, if_false, reduceIte, reduceCtorEq, decide_true, decide_false, Bool.true_or, Bool.or_true, Bool.or_false, Bool.false_or, Bool.true_and, Bool.and_true, Bool.and_false, Bool.false_and, Bool.not_true, Bool.not_false, Bool.and_self, Nat.reduceLT, Nat.reduceLeDiff, Nat.reduceAdd, Nat.zero_lt_succ, Int.toNat_natCast, get_last1, get_last2, last_map, drop_map, kIR1_nat hl2]) (by rw [rng_len]; exact hl) (by rfl) (by rfl) fun x hx => ?_]
  · simp -implicitDefEqProofs only [mwAll, kStr1, kIEnum, kIZip, kAsgG, kAsgG2, kRevD, kCallP2, kInD, asB_bl, datR_nil, datR_cons, datR_map, snapR_dat, vw_dat, dats_dat, fzO_dat, fzO_own, fzs_dat, fz, grd_true, ofO_some, permO, getE, getC, setC, Out.bind_ok, Out.bind_ex, Out.bind_bad, bindS_ok, bindS_ex, bindS_bad, seq_nx, seq_rt, seq_bk, seq_ct, seq_ex, seq_bad, Out.wp_ok, Out.wp_ex, Out.wp_bad, SO.wp_nx, SO.wp_rt, SO.wp_bk, SO.wp_ct, SO.wp_ex, SO.wp_bad, turn_nx, turn_ct, turn_bk, turn_rt, turn_ex, turn_bad, List.getElem?_cons_zero, List.getElem?_cons_succ, List.set_cons_zero, List.set_cons_succ, List.length_cons, List.length_nil, List.length_map, List.length_set, List.length_append, List.map_cons, List.map_nil, List.cons_append, List.nil_append, List.replicate_succ, List.replicate_zero, List.append_nil, List.all_cons, List.all_nil, Option.map_some, Option.map_none, Option.bind_some, Option.bind_none, Option.isSome_some, Option.isSome_none, if_true, if_false, reduceIte, reduceCtorEq, decide_true, decide_false, Bool.true_or, Bool.or_true, Bool.or_false, Bool.false_or, Bool.true_and, Bool.and_true, Bool.and_false, Bool.false_and, Bool.not_true, Bool.not_false, Bool.and_self, Nat.reduceLT, Nat.reduceLeDiff, Nat.reduceAdd, Nat.zero_lt_succ, Int.toNat_natCast, get_last1, get_last2, last_map, drop_map, outC0, outC1, x_outR1]
    refine ⟨?_, trivial⟩
    rw [rng_map]
    have e : backW u w = (List.range w.length).map fun (k : Nat) => un u (w.getD (w.length - 1 - k) 0) := by
      refine List.ext_getElem? fun k => ?_
      by_cases hk : k < w.length
      · have g : w[w.length - 1 - k]? = some (w.getD (w.length - 1 - k) 0) := by
          rw [List.getD_eq_getElem?_getD, List.getElem?_eq_getElem (show w.length - 1 - k < w.length by omega)]
          rfl
        rw [backW_at g hk, List.getElem?_map, List.getElem?_range hk]
        rfl
      · rw [List.getElem?_eq_none (by rw [backW_len]; omega), List.getElem?_eq_none (by simp; omega)]
    rw [e, tw, List.map_map]
    congr 2
  · obtain ⟨k, hk, rfl⟩ := rng_mem0 hx
    have g : w[w.length - 1 - k]? = some (w.getD (w.length - 1 - k) 0) := by
      rw [List.getD_eq_getElem?_getD, List.getElem?_eq_getElem (show w.length - 1 - k < w.length by omega)]
      rfl
    obtain ⟨h0, h1⟩ := hw _ (List.mem_of_getElem? g)
    have e : (w.length : Int) - 1 - (k : Int) = ((w.length - 1 - k : Nat) : Int) := by omega
    simp -implicitDefEqProofs only [mwAll, kStr1, kIEnum, kIZip, kAsgG, kAsgG2, kRevD, kCallP2, kInD, asB_bl, datR_nil, datR_cons, datR_map, snapR_dat, vw_dat, dats_dat, fzO_dat, fzO_own, fzs_dat, fz, grd_true, ofO_some, permO, getE, getC, setC, Out.bind_ok, Out.bind_ex, Out.bind_bad, bindS_ok, bindS_ex, bindS_bad, seq_nx, seq_rt, seq_bk, seq_ct, seq_ex, seq_bad, Out.wp_ok, Out.wp_ex, Out.wp_bad, SO.wp_nx, SO.wp_rt, SO.wp_bk, SO.wp_ct, SO.wp_ex, SO.wp_bad, turn_nx, turn_ct, turn_bk, turn_rt, turn_ex, turn_bad, List.getElem?_cons_zero, List.getElem?_cons_succ, List.set_cons_zero, List.set_cons_succ, List.length_cons, List.length_nil, List.length_map, List.length_set, List.length_append, List.map_cons, List.map_nil, List.cons_append, List.nil_append, List.replicate_succ, List.replicate_zero, List.append_nil, List.all_cons, List.all_nil, Option.map_some, Option.map_none, Option.bind_some, Option.bind_none, Option.isSome_some, Option.isSome_none, if_true, if_false, reduceIte, reduceCtorEq, decide_true, decide_false, Bool.true_or, Bool.or_true, Bool.or_false, Bool.false_or, Bool.true_and, Bool.and_true, Bool.and_false, Bool.false_and, Bool.not_true, Bool.not_false, Bool.and_self, Nat.reduceLT, Nat.reduceLeDiff, Nat.reduceAdd, Nat.zero_lt_succ, Int.toNat_natCast, get_last1, get_last2, last_map, drop_map, e, atI_nat (show (w.map D.int)[w.length - 1 - k]? = some (.int (w.getD (w.length - 1 - k) 0)) by rw [List.getElem?_map, g]; rfl), un_atI h0 h1]
def Box (c : C) : Prop := ∃ (ns : List Int) (a p q : Int), c = .lst [.dat (.lst (ns.map .int)), .dat (.int a), .dat (.int p), .dat (.int q)] ∧ ns.length ≤ 63 ∧ 0 ≤ p ∧ 0 ≤ q
theorem law_box_eq {ns : List Int} (hl : ns.length ≤ 63) : ∃ c, Box c ∧ mF_law_box [.dat (.src (ns.map .int))] = .ok (.own c) [.dat (.src (ns.map .int))] := by
  refine ⟨.lst [.dat (.lst (ns.map .int)), .dat (.int 0), .dat (.int 0), .dat (.int 0)], ⟨ns, 0, 0, 0, rfl, hl, by decide, by decide⟩, ok_of_wp (wp_mDef rfl ?_)⟩
  unfold mB_law_box
  simp -implicitDefEqProofs only [mwAll, kStr1, kIEnum, kIZip, kAsgG, kAsgG2, kRevD, kCallP2, kInD, asB_bl, datR_nil, datR_cons, datR_map, snapR_dat, vw_dat, dats_dat, fzO_dat, fzO_own, fzs_dat, fz, grd_true, ofO_some, permO, getE, getC, setC, Out.bind_ok, Out.bind_ex, Out.bind_bad, bindS_ok, bindS_ex, bindS_bad, seq_nx, seq_rt, seq_bk, seq_ct, seq_ex, seq_bad, Out.wp_ok, Out.wp_ex, Out.wp_bad, SO.wp_nx, SO.wp_rt, SO.wp_bk, SO.wp_ct, SO.wp_ex, SO.wp_bad, turn_nx, turn_ct, turn_bk, turn_rt, turn_ex, turn_bad, List.getElem?_cons_zero, List.getElem?_cons_succ, List.set_cons_zero, List.set_cons_succ, List.length_cons, List.length_nil, List.length_map, List.length_set, List.length_append, List.map_cons, List.map_nil, List.cons_append, List.nil_append, List.replicate_succ, List.replicate_zero, List.append_nil, List.all_cons, List.all_nil, Option.map_some, Option.map_none, Option.bind_some, Option.bind_none, Option.isSome_some, Option.isSome_none, if_true, if_false, reduceIte, reduceCtorEq, decide_true, decide_false, Bool.true_or, Bool.or_true, Bool.or_false, Bool.false_or, Bool.true_and, Bool.and_true, Bool.and_false, Bool.false_and, Bool.not_true, Bool.not_false, Bool.and_self, Nat.reduceLT, Nat.reduceLeDiff, Nat.reduceAdd, Nat.zero_lt_succ, Int.toNat_natCast, get_last1, get_last2, last_map, drop_map]
  rw [mLc_nm (xs := ns.map D.int) (F := id) (by rfl) (by rw [List.length_map]; unfold LIM; omega) (by rfl) (by rfl) fun x hx => ?_]
  · simp -implicitDefEqProofs only [mwAll, kStr1, kIEnum, kIZip, kAsgG, kAsgG2, kRevD, kCallP2, kInD, asB_bl, datR_nil, datR_cons, datR_map, snapR_dat, vw_dat, dats_dat, fzO_dat, fzO_own, fzs_dat, fz, grd_true, ofO_some, permO, getE, getC, setC, Out.bind_ok, Out.bind_ex, Out.bind_bad, bindS_ok, bindS_ex, bindS_bad, seq_nx, seq_rt, seq_bk, seq_ct, seq_ex, seq_bad, Out.wp_ok, Out.wp_ex, Out.wp_bad, SO.wp_nx, SO.wp_rt, SO.wp_bk, SO.wp_ct, SO.wp_ex, SO.wp_bad, turn_nx, turn_ct, turn_bk, turn_rt, turn_ex, turn_bad, List.getElem?_cons_zero, List.getElem?_cons_succ, List.set_cons_zero, List.set_cons_succ, List.length_cons, List.length_nil, List.length_map, List.length_set, List.length_append, List.map_cons, List.map_nil, List.cons_append, List.nil_append, List.replicate_succ, List.replicate_zero, List.append_nil, List.all_cons, List.all_nil, Option.map_some, Option.map_none, Option.bind_some, Option.bind_none, Option.isSome_some, Option.isSome_none, if_true, if_false, reduceIte, reduceCtorEq, decide_true, decide_false, Bool.true_or, Bool.or_true, Bool.or_false, Bool.false_or, Bool.true_and, Bool.and_true, Bool.and_false, Bool.false_and, Bool.not_true, Bool.not_false, Bool.and_self, Nat.reduceLT, Nat.reduceLeDiff, Nat.reduceAdd, Nat.zero_lt_succ, Int.toNat_natCast, get_last1, get_last2, last_map, drop_map, outC0, outC1, x_outR2]
    simp
  · obtain ⟨i, hi, rfl⟩ := List.mem_map.mp hx
    simp -implicitDefEqProofs only [mwAll, kStr1, kIEnum, kIZip, kAsgG, kAsgG2, kRevD, kCallP2, kInD, asB_bl, datR_nil, datR_cons, datR_map, snapR_dat, vw_dat, dats_dat, fzO_dat, fzO_own, fzs_dat, fz, grd_true, ofO_some, permO, getE, getC, setC, Out.bind_ok, Out.bind_ex, Out.bind_bad, bindS_ok, bindS_ex, bindS_bad, seq_nx, seq_rt, seq_bk, seq_ct, seq_ex, seq_bad, Out.wp_ok, Out.wp_ex, Out.wp_bad, SO.wp_nx, SO.wp_rt, SO.wp_bk, SO.wp_ct, SO.wp_ex, SO.wp_bad, turn_nx, turn_ct, turn_bk, turn_rt, turn_ex, turn_bad, List.getElem?_cons_zero, List.getElem?_cons_succ, List.set_cons_zero, List.set_cons_succ, List.length_cons, List.length_nil, List.length_map, List.length_set, List.length_append, List.map_cons, List.map_nil, List.cons_append, List.nil_append, List.replicate_succ, List.replicate_zero, List.append_nil, List.all_cons, List.all_nil, Option.map_some, Option.map_none, Option.bind_some, Option.bind_none, Option.isSome_some, Option.isSome_none, if_true, if_false, reduceIte, reduceCtorEq, decide_true, decide_false, Bool.true_or, Bool.or_true, Bool.or_false, Bool.false_or, Bool.true_and, Bool.and_true, Bool.and_false, Bool.false_and, Bool.not_true, Bool.not_false, Bool.and_self, Nat.reduceLT, Nat.reduceLeDiff, Nat.reduceAdd, Nat.zero_lt_succ, Int.toNat_natCast, get_last1, get_last2, last_map, drop_map]
    simp
theorem sm1 : small 48271 = true := by decide
theorem sm2 : small 69621 = true := by decide
theorem sm3 : small 7919 = true := by decide
theorem sm4 : small 16807 = true := by decide
theorem ix40 : ixN 4 0 = some 0 := by decide
theorem ix41 : ixN 4 1 = some 1 := by decide
theorem ix42 : ixN 4 2 = some 2 := by decide
theorem ix43 : ixN 4 3 = some 3 := by decide
theorem pow18 : oPow (.int 10) (.int 18) = some (.dat (.int 1000000000000000000)) := by
  unfold oPow
  dsimp only
  rw [if_pos (by decide)]
  rfl
theorem md1 (i : Int) : oMod (.int i) (.int 2147483647) = some (.dat (.int (i.fmod 2147483647))) := rfl
theorem md2 (i : Int) : oMod (.int i) (.int 1000003) = some (.dat (.int (i.fmod 1000003))) := rfl
theorem md3 (i : Int) : oMod (.int i) (.int 998244353) = some (.dat (.int (i.fmod 998244353))) := rfl
theorem dv5 (i : Int) : oDiv (.int i) (.int 5) = some (.dat (.int (i.fdiv 5))) := rfl
theorem dv3 (i : Int) : oDiv (.int i) (.int 3) = some (.dat (.int (i.fdiv 3))) := rfl
theorem mod_pos {i n : Int} (h : 0 < n) : oMod (.int i) (.int n) = some (.dat (.int (i.fmod n))) := by
  unfold oMod
  exact if_pos (by omega)
theorem div_pos {i n : Int} (h : 0 < n) (h2 : n < 1000000000) : oDiv (.int i) (.int n) = some (.dat (.int (i.fdiv n))) := by
  unfold oDiv
  dsimp only
  rw [if_pos]
  rw [decide_eq_true (by omega), decide_eq_true (by omega)]
  rfl
theorem fmod_rng {i n : Int} (h : 0 < n) : 0 ≤ i.fmod n ∧ i.fmod n < n := ⟨Int.fmod_nonneg_of_pos _ h, Int.fmod_lt_of_pos _ h⟩
theorem fdiv_nn {i n : Int} (h : 0 ≤ i) (hn : 0 < n) : 0 ≤ i.fdiv n := Int.fdiv_nonneg h (by omega)
theorem small_of {i : Int} (h : 0 ≤ i) (h2 : i < 1000000000000) : small i = true := by
  unfold small
  rw [decide_eq_true (by omega), decide_eq_true (by omega)]
  rfl
theorem atI_ints {ns : List Int} {q : Int} (h0 : 0 ≤ q) (h1 : q < ns.length) : atI (ns.map D.int) q = some (.int (ns.getD q.toNat 0)) := by
  refine atI_int h0 ?_
  rw [List.getElem?_map, List.getD_eq_getElem?_getD, List.getElem?_eq_getElem (show q.toNat < ns.length by omega)]
  rfl
theorem mkBox {ns : List Int} {a p q : Int} (hl : ns.length ≤ 63) (hp : 0 ≤ p) (hq : 0 ≤ q) : Box (.lst [.dat (.lst (ns.map .int)), .dat (.int a), .dat (.int p), .dat (.int q)]) := ⟨ns, a, p, q, rfl, hl, hp, hq⟩
theorem draw_wp {b : C} {n : Int} {P : R → M.Env → Prop} {px : PX} (hb : Box b) (hn : 0 < n) (hn2 : n < 1000000000) (k : ∀ (x : Int) (b' : C), 0 ≤ x → x < n → Box b' → P (.dat (.int x)) [b', .dat (.int n)]) : Out.wp P px (mF_law_draw [b, .dat (.int n)]) := by
  have hb2 := hb; clear hb
  revert P px
  obtain ⟨ns, a, p, q, rfl, hl, hp, hq⟩ := hb2
  intro P px k
  unfold mF_law_draw
  with_reducible refine wp_mDef rfl ?_
  unfold mB_law_draw
  simp -implicitDefEqProofs only [mwAll, kStr1, kIEnum, kIZip, kAsgG, kAsgG2, kRevD, kCallP2, kInD, asB_bl, datR_nil, datR_cons, datR_map, snapR_dat, vw_dat, dats_dat, fzO_dat, fzO_own, fzs_dat, fz, grd_true, ofO_some, permO, getE, getC, setC, Out.bind_ok, Out.bind_ex, Out.bind_bad, bindS_ok, bindS_ex, bindS_bad, seq_nx, seq_rt, seq_bk, seq_ct, seq_ex, seq_bad, Out.wp_ok, Out.wp_ex, Out.wp_bad, SO.wp_nx, SO.wp_rt, SO.wp_bk, SO.wp_ct, SO.wp_ex, SO.wp_bad, turn_nx, turn_ct, turn_bk, turn_rt, turn_ex, turn_bad, List.getElem?_cons_zero, List.getElem?_cons_succ, List.set_cons_zero, List.set_cons_succ, List.length_cons, List.length_nil, List.length_map, List.length_set, List.length_append, List.map_cons, List.map_nil, List.cons_append, List.nil_append, List.replicate_succ, List.replicate_zero, List.append_nil, List.all_cons, List.all_nil, Option.map_some, Option.map_none, Option.bind_some, Option.bind_none, Option.isSome_some, Option.isSome_none, if_true, if_false, reduceIte, reduceCtorEq, decide_true, decide_false, Bool.true_or, Bool.or_true, Bool.or_false, Bool.false_or, Bool.true_and, Bool.and_true, Bool.and_false, Bool.false_and, Bool.not_true, Bool.not_false, Bool.and_self, Nat.reduceLT, Nat.reduceLeDiff, Nat.reduceAdd, Nat.zero_lt_succ, Int.toNat_natCast, get_last1, get_last2, last_map, drop_map, ix40, ix41, ix42, ix43, kIR1_nat (show ns.length ≤ 1000000000 by omega)]
  let J : M.Env → Prop := fun e => ∃ p q c, e = [C.lst [C.dat (D.lst (List.map D.int ns)), C.dat (D.int (a + 1)), C.dat (D.int p), C.dat (D.int q)], C.dat (D.int n), C.dat (D.lst (List.map D.int ns)), c, C.non, C.non, C.non] ∧ 0 ≤ p ∧ 0 ≤ q
  refine wp_forSeqB (fun _ => J) J ⟨p, q, _, rfl, hp, hq⟩ (fun _ h => h) (fun j x e hx ⟨p, q, c, he, hp, hq⟩ => ?_) fun e ⟨p, q, c, he, hp, hq⟩ => ?_
  · subst he
    obtain ⟨_, rfl⟩ := rng_get hx
    refine ⟨_, rfl, ?_⟩
    simp -implicitDefEqProofs only [mwAll, kStr1, kIEnum, kIZip, kAsgG, kAsgG2, kRevD, kCallP2, kInD, asB_bl, datR_nil, datR_cons, datR_map, snapR_dat, vw_dat, dats_dat, fzO_dat, fzO_own, fzs_dat, fz, grd_true, ofO_some, permO, getE, getC, setC, Out.bind_ok, Out.bind_ex, Out.bind_bad, bindS_ok, bindS_ex, bindS_bad, seq_nx, seq_rt, seq_bk, seq_ct, seq_ex, seq_bad, Out.wp_ok, Out.wp_ex, Out.wp_bad, SO.wp_nx, SO.wp_rt, SO.wp_bk, SO.wp_ct, SO.wp_ex, SO.wp_bad, turn_nx, turn_ct, turn_bk, turn_rt, turn_ex, turn_bad, List.getElem?_cons_zero, List.getElem?_cons_succ, List.set_cons_zero, List.set_cons_succ, List.length_cons, List.length_nil, List.length_map, List.length_set, List.length_append, List.map_cons, List.map_nil, List.cons_append, List.nil_append, List.replicate_succ, List.replicate_zero, List.append_nil, List.all_cons, List.all_nil, Option.map_some, Option.map_none, Option.bind_some, Option.bind_none, Option.isSome_some, Option.isSome_none, if_true, if_false, reduceIte, reduceCtorEq, decide_true, decide_false, Bool.true_or, Bool.or_true, Bool.or_false, Bool.false_or, Bool.true_and, Bool.and_true, Bool.and_false, Bool.false_and, Bool.not_true, Bool.not_false, Bool.and_self, Nat.reduceLT, Nat.reduceLeDiff, Nat.reduceAdd, Nat.zero_lt_succ, Int.toNat_natCast, get_last1, get_last2, last_map, drop_map, ix40, ix41, ix42, ix43]
    by_cases h1 : p = 0
    · subst h1
      by_cases h2 : q < ns.length
      · simp -implicitDefEqProofs only [mwAll, kStr1, kIEnum, kIZip, kAsgG, kAsgG2, kRevD, kCallP2, kInD, asB_bl, datR_nil, datR_cons, datR_map, snapR_dat, vw_dat, dats_dat, fzO_dat, fzO_own, fzs_dat, fz, grd_true, ofO_some, permO, getE, getC, setC, Out.bind_ok, Out.bind_ex, Out.bind_bad, bindS_ok, bindS_ex, bindS_bad, seq_nx, seq_rt, seq_bk, seq_ct, seq_ex, seq_bad, Out.wp_ok, Out.wp_ex, Out.wp_bad, SO.wp_nx, SO.wp_rt, SO.wp_bk, SO.wp_ct, SO.wp_ex, SO.wp_bad, turn_nx, turn_ct, turn_bk, turn_rt, turn_ex, turn_bad, List.getElem?_cons_zero, List.getElem?_cons_succ, List.set_cons_zero, List.set_cons_succ, List.length_cons, List.length_nil, List.length_map, List.length_set, List.length_append, List.map_cons, List.map_nil, List.cons_append, List.nil_append, List.replicate_succ, List.replicate_zero, List.append_nil, List.all_cons, List.all_nil, Option.map_some, Option.map_none, Option.bind_some, Option.bind_none, Option.isSome_some, Option.isSome_none, if_true, if_false, reduceIte, reduceCtorEq, decide_true, decide_false, Bool.true_or, Bool.or_true, Bool.or_false, Bool.false_or, Bool.true_and, Bool.and_true, Bool.and_false, Bool.false_and, Bool.not_true, Bool.not_false, Bool.and_self, Nat.reduceLT, Nat.reduceLeDiff, Nat.reduceAdd, Nat.zero_lt_succ, Int.toNat_natCast, get_last1, get_last2, last_map, drop_map, h2, ix40, ix41, ix42, ix43, atI_ints hq h2, pow18, x_abs]
        generalize hv : (if ns.getD q.toNat 0 < 0 then -ns.getD q.toNat 0 else ns.getD q.toNat 0) = v
        have hv0 : 0 ≤ v := by rw [← hv]; split <;> omega
        by_cases h3 : 1000000000000000000 ≤ v
        · simp -implicitDefEqProofs only [mwAll, kStr1, kIEnum, kIZip, kAsgG, kAsgG2, kRevD, kCallP2, kInD, asB_bl, datR_nil, datR_cons, datR_map, snapR_dat, vw_dat, dats_dat, fzO_dat, fzO_own, fzs_dat, fz, grd_true, ofO_some, permO, getE, getC, setC, Out.bind_ok, Out.bind_ex, Out.bind_bad, bindS_ok, bindS_ex, bindS_bad, seq_nx, seq_rt, seq_bk, seq_ct, seq_ex, seq_bad, Out.wp_ok, Out.wp_ex, Out.wp_bad, SO.wp_nx, SO.wp_rt, SO.wp_bk, SO.wp_ct, SO.wp_ex, SO.wp_bad, turn_nx, turn_ct, turn_bk, turn_rt, turn_ex, turn_bad, List.getElem?_cons_zero, List.getElem?_cons_succ, List.set_cons_zero, List.set_cons_succ, List.length_cons, List.length_nil, List.length_map, List.length_set, List.length_append, List.map_cons, List.map_nil, List.cons_append, List.nil_append, List.replicate_succ, List.replicate_zero, List.append_nil, List.all_cons, List.all_nil, Option.map_some, Option.map_none, Option.bind_some, Option.bind_none, Option.isSome_some, Option.isSome_none, if_true, if_false, reduceIte, reduceCtorEq, decide_true, decide_false, Bool.true_or, Bool.or_true, Bool.or_false, Bool.false_or, Bool.true_and, Bool.and_true, Bool.and_false, Bool.false_and, Bool.not_true, Bool.not_false, Bool.and_self, Nat.reduceLT, Nat.reduceLeDiff, Nat.reduceAdd, Nat.zero_lt_succ, Int.toNat_natCast, get_last1, get_last2, last_map, drop_map, h3, ix40, ix41, ix42, ix43, atI_ints hq h2, hv]
          exact ⟨_, _, _, rfl, hv0, by omega⟩
        · simp -implicitDefEqProofs only [mwAll, kStr1, kIEnum, kIZip, kAsgG, kAsgG2, kRevD, kCallP2, kInD, asB_bl, datR_nil, datR_cons, datR_map, snapR_dat, vw_dat, dats_dat, fzO_dat, fzO_own, fzs_dat, fz, grd_true, ofO_some, permO, getE, getC, setC, Out.bind_ok, Out.bind_ex, Out.bind_bad, bindS_ok, bindS_ex, bindS_bad, seq_nx, seq_rt, seq_bk, seq_ct, seq_ex, seq_bad, Out.wp_ok, Out.wp_ex, Out.wp_bad, SO.wp_nx, SO.wp_rt, SO.wp_bk, SO.wp_ct, SO.wp_ex, SO.wp_bad, turn_nx, turn_ct, turn_bk, turn_rt, turn_ex, turn_bad, List.getElem?_cons_zero, List.getElem?_cons_succ, List.set_cons_zero, List.set_cons_succ, List.length_cons, List.length_nil, List.length_map, List.length_set, List.length_append, List.map_cons, List.map_nil, List.cons_append, List.nil_append, List.replicate_succ, List.replicate_zero, List.append_nil, List.all_cons, List.all_nil, Option.map_some, Option.map_none, Option.bind_some, Option.bind_none, Option.isSome_some, Option.isSome_none, if_true, if_false, reduceIte, reduceCtorEq, decide_true, decide_false, Bool.true_or, Bool.or_true, Bool.or_false, Bool.false_or, Bool.true_and, Bool.and_true, Bool.and_false, Bool.false_and, Bool.not_true, Bool.not_false, Bool.and_self, Nat.reduceLT, Nat.reduceLeDiff, Nat.reduceAdd, Nat.zero_lt_succ, Int.toNat_natCast, get_last1, get_last2, last_map, drop_map, h3, ix40, ix41, ix42, ix43]
          exact ⟨_, _, _, rfl, hp, by omega⟩
      · simp -implicitDefEqProofs only [mwAll, kStr1, kIEnum, kIZip, kAsgG, kAsgG2, kRevD, kCallP2, kInD, asB_bl, datR_nil, datR_cons, datR_map, snapR_dat, vw_dat, dats_dat, fzO_dat, fzO_own, fzs_dat, fz, grd_true, ofO_some, permO, getE, getC, setC, Out.bind_ok, Out.bind_ex, Out.bind_bad, bindS_ok, bindS_ex, bindS_bad, seq_nx, seq_rt, seq_bk, seq_ct, seq_ex, seq_bad, Out.wp_ok, Out.wp_ex, Out.wp_bad, SO.wp_nx, SO.wp_rt, SO.wp_bk, SO.wp_ct, SO.wp_ex, SO.wp_bad, turn_nx, turn_ct, turn_bk, turn_rt, turn_ex, turn_bad, List.getElem?_cons_zero, List.getElem?_cons_succ, List.set_cons_zero, List.set_cons_succ, List.length_cons, List.length_nil, List.length_map, List.length_set, List.length_append, List.map_cons, List.map_nil, List.cons_append, List.nil_append, List.replicate_succ, List.replicate_zero, List.append_nil, List.all_cons, List.all_nil, Option.map_some, Option.map_none, Option.bind_some, Option.bind_none, Option.isSome_some, Option.isSome_none, if_true, if_false, reduceIte, reduceCtorEq, decide_true, decide_false, Bool.true_or, Bool.or_true, Bool.or_false, Bool.false_or, Bool.true_and, Bool.and_true, Bool.and_false, Bool.false_and, Bool.not_true, Bool.not_false, Bool.and_self, Nat.reduceLT, Nat.reduceLeDiff, Nat.reduceAdd, Nat.zero_lt_succ, Int.toNat_natCast, get_last1, get_last2, last_map, drop_map, h2, ix40, ix41, ix42, ix43]
        exact ⟨_, _, _, rfl, hp, hq⟩
    · simp -implicitDefEqProofs only [mwAll, kStr1, kIEnum, kIZip, kAsgG, kAsgG2, kRevD, kCallP2, kInD, asB_bl, datR_nil, datR_cons, datR_map, snapR_dat, vw_dat, dats_dat, fzO_dat, fzO_own, fzs_dat, fz, grd_true, ofO_some, permO, getE, getC, setC, Out.bind_ok, Out.bind_ex, Out.bind_bad, bindS_ok, bindS_ex, bindS_bad, seq_nx, seq_rt, seq_bk, seq_ct, seq_ex, seq_bad, Out.wp_ok, Out.wp_ex, Out.wp_bad, SO.wp_nx, SO.wp_rt, SO.wp_bk, SO.wp_ct, SO.wp_ex, SO.wp_bad, turn_nx, turn_ct, turn_bk, turn_rt, turn_ex, turn_bad, List.getElem?_cons_zero, List.getElem?_cons_succ, List.set_cons_zero, List.set_cons_succ, List.length_cons, List.length_nil, List.length_map, List.length_set, List.length_append, List.map_cons, List.map_nil, List.cons_append, List.nil_append, List.replicate_succ, List.replicate_zero, List.append_nil, List.all_cons, List.all_nil, Option.map_some, Option.map_none, Option.bind_some, Option.bind_none, Option.isSome_some, Option.isSome_none, if_true, if_false, reduceIte, reduceCtorEq, decide_true, decide_false, Bool.true_or, Bool.or_true, Bool.or_false, Bool.false_or, Bool.true_and, Bool.and_true, Bool.and_false, Bool.false_and, Bool.not_true, Bool.not_false, Bool.and_self, Nat.reduceLT, Nat.reduceLeDiff, Nat.reduceAdd, Nat.zero_lt_succ, Int.toNat_natCast, get_last1, get_last2, last_map, drop_map, h1]
      exact ⟨_, _, _, rfl, hp, hq⟩
  · subst he
    simp -implicitDefEqProofs only [mwAll, kStr1, kIEnum, kIZip, kAsgG, kAsgG2, kRevD, kCallP2, kInD, asB_bl, datR_nil, datR_cons, datR_map, snapR_dat, vw_dat, dats_dat, fzO_dat, fzO_own, fzs_dat, fz, grd_true, ofO_some, permO, getE, getC, setC, Out.bind_ok, Out.bind_ex, Out.bind_bad, bindS_ok, bindS_ex, bindS_bad, seq_nx, seq_rt, seq_bk, seq_ct, seq_ex, seq_bad, Out.wp_ok, Out.wp_ex, Out.wp_bad, SO.wp_nx, SO.wp_rt, SO.wp_bk, SO.wp_ct, SO.wp_ex, SO.wp_bad, turn_nx, turn_ct, turn_bk, turn_rt, turn_ex, turn_bad, List.getElem?_cons_zero, List.getElem?_cons_succ, List.set_cons_zero, List.set_cons_succ, List.length_cons, List.length_nil, List.length_map, List.length_set, List.length_append, List.map_cons, List.map_nil, List.cons_append, List.nil_append, List.replicate_succ, List.replicate_zero, List.append_nil, List.all_cons, List.all_nil, Option.map_some, Option.map_none, Option.bind_some, Option.bind_none, Option.isSome_some, Option.isSome_none, if_true, if_false, reduceIte, reduceCtorEq, decide_true, decide_false, Bool.true_or, Bool.or_true, Bool.or_false, Bool.false_or, Bool.true_and, Bool.and_true, Bool.and_false, Bool.false_and, Bool.not_true, Bool.not_false, Bool.and_self, Nat.reduceLT, Nat.reduceLeDiff, Nat.reduceAdd, Nat.zero_lt_succ, Int.toNat_natCast, get_last1, get_last2, last_map, drop_map, ix40, ix41, ix42, ix43]
    by_cases h1 : 0 < p
    · simp -implicitDefEqProofs only [mwAll, kStr1, kIEnum, kIZip, kAsgG, kAsgG2, kRevD, kCallP2, kInD, asB_bl, datR_nil, datR_cons, datR_map, snapR_dat, vw_dat, dats_dat, fzO_dat, fzO_own, fzs_dat, fz, grd_true, ofO_some, permO, getE, getC, setC, Out.bind_ok, Out.bind_ex, Out.bind_bad, bindS_ok, bindS_ex, bindS_bad, seq_nx, seq_rt, seq_bk, seq_ct, seq_ex, seq_bad, Out.wp_ok, Out.wp_ex, Out.wp_bad, SO.wp_nx, SO.wp_rt, SO.wp_bk, SO.wp_ct, SO.wp_ex, SO.wp_bad, turn_nx, turn_ct, turn_bk, turn_rt, turn_ex, turn_bad, List.getElem?_cons_zero, List.getElem?_cons_succ, List.set_cons_zero, List.set_cons_succ, List.length_cons, List.length_nil, List.length_map, List.length_set, List.length_append, List.map_cons, List.map_nil, List.cons_append, List.nil_append, List.replicate_succ, List.replicate_zero, List.append_nil, List.all_cons, List.all_nil, Option.map_some, Option.map_none, Option.bind_some, Option.bind_none, Option.isSome_some, Option.isSome_none, if_true, if_false, reduceIte, reduceCtorEq, decide_true, decide_false, Bool.true_or, Bool.or_true, Bool.or_false, Bool.false_or, Bool.true_and, Bool.and_true, Bool.and_false, Bool.false_and, Bool.not_true, Bool.not_false, Bool.and_self, Nat.reduceLT, Nat.reduceLeDiff, Nat.reduceAdd, Nat.zero_lt_succ, Int.toNat_natCast, get_last1, get_last2, last_map, drop_map, h1, ix40, ix41, ix42, ix43, mod_pos hn, div_pos hn hn2, outC0, outC1, outC2, x_outR1]
      exact k _ _ (fmod_rng hn).1 (fmod_rng hn).2 (mkBox hl (fdiv_nn hp hn) hq)
    · simp -implicitDefEqProofs only [mwAll, kStr1, kIEnum, kIZip, kAsgG, kAsgG2, kRevD, kCallP2, kInD, asB_bl, datR_nil, datR_cons, datR_map, snapR_dat, vw_dat, dats_dat, fzO_dat, fzO_own, fzs_dat, fz, grd_true, ofO_some, permO, getE, getC, setC, Out.bind_ok, Out.bind_ex, Out.bind_bad, bindS_ok, bindS_ex, bindS_bad, seq_nx, seq_rt, seq_bk, seq_ct, seq_ex, seq_bad, Out.wp_ok, Out.wp_ex, Out.wp_bad, SO.wp_nx, SO.wp_rt, SO.wp_bk, SO.wp_ct, SO.wp_ex, SO.wp_bad, turn_nx, turn_ct, turn_bk, turn_rt, turn_ex, turn_bad, List.getElem?_cons_zero, List.getElem?_cons_succ, List.set_cons_zero, List.set_cons_succ, List.length_cons, List.length_nil, List.length_map, List.length_set, List.length_append, List.map_cons, List.map_nil, List.cons_append, List.nil_append, List.replicate_succ, List.replicate_zero, List.append_nil, List.all_cons, List.all_nil, Option.map_some, Option.map_none, Option.bind_some, Option.bind_none, Option.isSome_some, Option.isSome_none, if_true, if_false, reduceIte, reduceCtorEq, decide_true, decide_false, Bool.true_or, Bool.or_true, Bool.or_false, Bool.false_or, Bool.true_and, Bool.and_true, Bool.and_false, Bool.false_and, Bool.not_true, Bool.not_false, Bool.and_self, Nat.reduceLT, Nat.reduceLeDiff, Nat.reduceAdd, Nat.zero_lt_succ, Int.toNat_natCast, get_last1, get_last2, last_map, drop_map, h1, ix40, ix41, ix42, ix43]
      refine wp_cut (fun e => ∃ v : Int, e = [C.lst [C.dat (D.lst (List.map D.int ns)), C.dat (D.int (a + 1)), C.dat (D.int p), C.dat (D.int q)], C.dat (D.int n), C.dat (D.lst (List.map D.int ns)), c, C.non, C.dat (D.int v), C.non]) ?_ fun e ⟨v, he⟩ => ?_
      · by_cases h2 : ns = []
        · subst h2
          simp -implicitDefEqProofs only [mwAll, kStr1, kIEnum, kIZip, kAsgG, kAsgG2, kRevD, kCallP2, kInD, asB_bl, datR_nil, datR_cons, datR_map, snapR_dat, vw_dat, dats_dat, fzO_dat, fzO_own, fzs_dat, fz, grd_true, ofO_some, permO, getE, getC, setC, Out.bind_ok, Out.bind_ex, Out.bind_bad, bindS_ok, bindS_ex, bindS_bad, seq_nx, seq_rt, seq_bk, seq_ct, seq_ex, seq_bad, Out.wp_ok, Out.wp_ex, Out.wp_bad, SO.wp_nx, SO.wp_rt, SO.wp_bk, SO.wp_ct, SO.wp_ex, SO.wp_bad, turn_nx, turn_ct, turn_bk, turn_rt, turn_ex, turn_bad, List.getElem?_cons_zero, List.getElem?_cons_succ, List.set_cons_zero, List.set_cons_succ, List.length_cons, List.length_nil, List.length_map, List.length_set, List.length_append, List.map_cons, List.map_nil, List.cons_append, List.nil_append, List.replicate_succ, List.replicate_zero, List.append_nil, List.all_cons, List.all_nil, Option.map_some, Option.map_none, Option.bind_some, Option.bind_none, Option.isSome_some, Option.isSome_none, if_true, if_false, reduceIte, reduceCtorEq, decide_true, decide_false, Bool.true_or, Bool.or_true, Bool.or_false, Bool.false_or, Bool.true_and, Bool.and_true, Bool.and_false, Bool.false_and, Bool.not_true, Bool.not_false, Bool.and_self, Nat.reduceLT, Nat.reduceLeDiff, Nat.reduceAdd, Nat.zero_lt_succ, Int.toNat_natCast, get_last1, get_last2, last_map, drop_map]
          exact ⟨_, rfl⟩
        · have hlen : 0 < (ns.length : Int) := by
            have := List.length_pos_iff.mpr h2
            omega
          have hr := fmod_rng (i := a + 1) hlen
          simp -implicitDefEqProofs only [mwAll, kStr1, kIEnum, kIZip, kAsgG, kAsgG2, kRevD, kCallP2, kInD, asB_bl, datR_nil, datR_cons, datR_map, snapR_dat, vw_dat, dats_dat, fzO_dat, fzO_own, fzs_dat, fz, grd_true, ofO_some, permO, getE, getC, setC, Out.bind_ok, Out.bind_ex, Out.bind_bad, bindS_ok, bindS_ex, bindS_bad, seq_nx, seq_rt, seq_bk, seq_ct, seq_ex, seq_bad, Out.wp_ok, Out.wp_ex, Out.wp_bad, SO.wp_nx, SO.wp_rt, SO.wp_bk, SO.wp_ct, SO.wp_ex, SO.wp_bad, turn_nx, turn_ct, turn_bk, turn_rt, turn_ex, turn_bad, List.getElem?_cons_zero, List.getElem?_cons_succ, List.set_cons_zero, List.set_cons_succ, List.length_cons, List.length_nil, List.length_map, List.length_set, List.length_append, List.map_cons, List.map_nil, List.cons_append, List.nil_append, List.replicate_succ, List.replicate_zero, List.append_nil, List.all_cons, List.all_nil, Option.map_some, Option.map_none, Option.bind_some, Option.bind_none, Option.isSome_some, Option.isSome_none, if_true, if_false, reduceIte, reduceCtorEq, decide_true, decide_false, Bool.true_or, Bool.or_true, Bool.or_false, Bool.false_or, Bool.true_and, Bool.and_true, Bool.and_false, Bool.false_and, Bool.not_true, Bool.not_false, Bool.and_self, Nat.reduceLT, Nat.reduceLeDiff, Nat.reduceAdd, Nat.zero_lt_succ, Int.toNat_natCast, get_last1, get_last2, last_map, drop_map, hlen, ix40, ix41, ix42, ix43, mod_pos hlen, atI_ints hr.1 hr.2, x_abs]
          exact ⟨_, rfl⟩
      · subst he
        simp -implicitDefEqProofs only [mwAll, kStr1, kIEnum, kIZip, kAsgG, kAsgG2, kRevD, kCallP2, kInD, asB_bl, datR_nil, datR_cons, datR_map, snapR_dat, vw_dat, dats_dat, fzO_dat, fzO_own, fzs_dat, fz, grd_true, ofO_some, permO, getE, getC, setC, Out.bind_ok, Out.bind_ex, Out.bind_bad, bindS_ok, bindS_ex, bindS_bad, seq_nx, seq_rt, seq_bk, seq_ct, seq_ex, seq_bad, Out.wp_ok, Out.wp_ex, Out.wp_bad, SO.wp_nx, SO.wp_rt, SO.wp_bk, SO.wp_ct, SO.wp_ex, SO.wp_bad, turn_nx, turn_ct, turn_bk, turn_rt, turn_ex, turn_bad, List.getElem?_cons_zero, List.getElem?_cons_succ, List.set_cons_zero, List.set_cons_succ, List.length_cons, List.length_nil, List.length_map, List.length_set, List.length_append, List.map_cons, List.map_nil, List.cons_append, List.nil_append, List.replicate_succ, List.replicate_zero, List.append_nil, List.all_cons, List.all_nil, Option.map_some, Option.map_none, Option.bind_some, Option.bind_none, Option.isSome_some, Option.isSome_none, if_true, if_false, reduceIte, reduceCtorEq, decide_true, decide_false, Bool.true_or, Bool.or_true, Bool.or_false, Bool.false_or, Bool.true_and, Bool.and_true, Bool.and_false, Bool.false_and, Bool.not_true, Bool.not_false, Bool.and_self, Nat.reduceLT, Nat.reduceLeDiff, Nat.reduceAdd, Nat.zero_lt_succ, Int.toNat_natCast, get_last1, get_last2, last_map, drop_map, ix40, ix41, ix42, ix43, x_oMul, sm1, sm2, sm3, sm4, md1]
        generalize hm1 : (v * 48271 + (a + 1) * 69621 + 7).fmod 2147483647 = m1
        have r1 := fmod_rng (i := v * 48271 + (a + 1) * 69621 + 7) (n := 2147483647) (by decide)
        rw [hm1] at r1
        simp -implicitDefEqProofs only [mwAll, kStr1, kIEnum, kIZip, kAsgG, kAsgG2, kRevD, kCallP2, kInD, asB_bl, datR_nil, datR_cons, datR_map, snapR_dat, vw_dat, dats_dat, fzO_dat, fzO_own, fzs_dat, fz, grd_true, ofO_some, permO, getE, getC, setC, Out.bind_ok, Out.bind_ex, Out.bind_bad, bindS_ok, bindS_ex, bindS_bad, seq_nx, seq_rt, seq_bk, seq_ct, seq_ex, seq_bad, Out.wp_ok, Out.wp_ex, Out.wp_bad, SO.wp_nx, SO.wp_rt, SO.wp_bk, SO.wp_ct, SO.wp_ex, SO.wp_bad, turn_nx, turn_ct, turn_bk, turn_rt, turn_ex, turn_bad, List.getElem?_cons_zero, List.getElem?_cons_succ, List.set_cons_zero, List.set_cons_succ, List.length_cons, List.length_nil, List.length_map, List.length_set, List.length_append, List.map_cons, List.map_nil, List.cons_append, List.nil_append, List.replicate_succ, List.replicate_zero, List.append_nil, List.all_cons, List.all_nil, Option.map_some, Option.map_none, Option.bind_some, Option.bind_none, Option.isSome_some, Option.isSome_none, if_true, if_false, reduceIte, reduceCtorEq, decide_true, decide_false, Bool.true_or, Bool.or_true, Bool.or_false, Bool.false_or, Bool.true_and, Bool.and_true, Bool.and_false, Bool.false_and, Bool.not_true, Bool.not_false, Bool.and_self, Nat.reduceLT, Nat.reduceLeDiff, Nat.reduceAdd, Nat.zero_lt_succ, Int.toNat_natCast, get_last1, get_last2, last_map, drop_map, ix40, ix41, ix42, ix43, x_oMul, small_of r1.1 (by omega), sm1, sm2, sm3, sm4, md2]
        generalize hm2 : (m1 * m1 + (a + 1) * 7919 + v).fmod 1000003 = m2
        have r2 := fmod_rng (i := m1 * m1 + (a + 1) * 7919 + v) (n := 1000003) (by decide)
        rw [hm2] at r2
        simp -implicitDefEqProofs only [mwAll, kStr1, kIEnum, kIZip, kAsgG, kAsgG2, kRevD, kCallP2, kInD, asB_bl, datR_nil, datR_cons, datR_map, snapR_dat, vw_dat, dats_dat, fzO_dat, fzO_own, fzs_dat, fz, grd_true, ofO_some, permO, getE, getC, setC, Out.bind_ok, Out.bind_ex, Out.bind_bad, bindS_ok, bindS_ex, bindS_bad, seq_nx, seq_rt, seq_bk, seq_ct, seq_ex, seq_bad, Out.wp_ok, Out.wp_ex, Out.wp_bad, SO.wp_nx, SO.wp_rt, SO.wp_bk, SO.wp_ct, SO.wp_ex, SO.wp_bad, turn_nx, turn_ct, turn_bk, turn_rt, turn_ex, turn_bad, List.getElem?_cons_zero, List.getElem?_cons_succ, List.set_cons_zero, List.set_cons_succ, List.length_cons, List.length_nil, List.length_map, List.length_set, List.length_append, List.map_cons, List.map_nil, List.cons_append, List.nil_append, List.replicate_succ, List.replicate_zero, List.append_nil, List.all_cons, List.all_nil, Option.map_some, Option.map_none, Option.bind_some, Option.bind_none, Option.isSome_some, Option.isSome_none, if_true, if_false, reduceIte, reduceCtorEq, decide_true, decide_false, Bool.true_or, Bool.or_true, Bool.or_false, Bool.false_or, Bool.true_and, Bool.and_true, Bool.and_false, Bool.false_and, Bool.not_true, Bool.not_false, Bool.and_self, Nat.reduceLT, Nat.reduceLeDiff, Nat.reduceAdd, Nat.zero_lt_succ, Int.toNat_natCast, get_last1, get_last2, last_map, drop_map, ix40, ix41, ix42, ix43, x_oMul, small_of r2.1 (by omega), sm1, sm2, sm3, sm4, md3, dv5, dv3, mod_pos hn, outC0, outC1, outC2, x_outR1]
        exact k _ _ (fmod_rng hn).1 (fmod_rng hn).2 (mkBox hl hp hq)
def Bx (cs : List C) : Prop := Box (.lst cs)
theorem Box.lst {b : C} (h : Box b) : ∃ cs, b = .lst cs ∧ Bx cs := by
  obtain ⟨ns, a, p, q, rfl, h1, h2, h3⟩ := h
  exact ⟨_, rfl, mkBox h1 h2 h3⟩
/-- a draw, called -/
theorem draw_kRb {cs : List C} {n : Int} {e : M.Env} {rs : List R} {P : R → M.Env → Prop} {px : PX} (hb : Bx cs) (hn : 0 < n) (hn2 : n < 1000000000) (k : ∀ (x : Int) (cs' : List C), 0 ≤ x → x < n → Bx cs' → ∃ e', backA e rs [.lst cs', .dat (.int n)] = some e' ∧ P (.dat (.int x)) e') : Out.wp P px (kRb rs e (mF_law_draw [.lst cs, .dat (.int n)])) :=
  wp_kRb (draw_wp hb hn hn2 fun x b' h0 h1 hb' => by
    obtain ⟨cs', rfl, h2⟩ := hb'.lst
    exact k x cs' h0 h1 h2)
theorem word_wp {cs : List C} {n m : Int} {P : R → M.Env → Prop} {px : PX} (hb : Bx cs) (hn : 0 < n) (hn2 : n < 1000000000) (hm : 0 ≤ m) (hm2 : m ≤ 100000) (k : ∀ (w : List Int) (cs' : List C), (∀ x ∈ w, 0 ≤ x ∧ x < n) → w.length ≤ m → Bx cs' → P (.dat (tw w)) [.lst cs', .dat (.int n), .dat (.int m)]) : Out.wp P px (mF_law_word [.lst cs, .dat (.int n), .dat (.int m)]) := by
  unfold mF_law_word
  refine wp_mDef rfl ?_
  unfold mB_law_word
  simp -implicitDefEqProofs only [mwAll, kStr1, kIEnum, kIZip, kAsgG, kAsgG2, kRevD, kCallP2, kInD, asB_bl, datR_nil, datR_cons, datR_map, snapR_dat, vw_dat, dats_dat, fzO_dat, fzO_own, fzs_dat, fz, grd_true, ofO_some, permO, getE, getC, setC, Out.bind_ok, Out.bind_ex, Out.bind_bad, bindS_ok, bindS_ex, bindS_bad, seq_nx, seq_rt, seq_bk, seq_ct, seq_ex, seq_bad, Out.wp_ok, Out.wp_ex, Out.wp_bad, SO.wp_nx, SO.wp_rt, SO.wp_bk, SO.wp_ct, SO.wp_ex, SO.wp_bad, turn_nx, turn_ct, turn_bk, turn_rt, turn_ex, turn_bad, List.getElem?_cons_zero, List.getElem?_cons_succ, List.set_cons_zero, List.set_cons_succ, List.length_cons, List.length_nil, List.length_map, List.length_set, List.length_append, List.map_cons, List.map_nil, List.cons_append, List.nil_append, List.replicate_succ, List.replicate_zero, List.append_nil, List.all_cons, List.all_nil, Option.map_some, Option.map_none, Option.bind_some, Option.bind_none, Option.isSome_some, Option.isSome_none, if_true, if_false, reduceIte, reduceCtorEq, decide_true, decide_false, Bool.true_or, Bool.or_true, Bool.or_false, Bool.false_or, Bool.true_and, Bool.and_true, Bool.and_false, Bool.false_and, Bool.not_true, Bool.not_false, Bool.and_self, Nat.reduceLT, Nat.reduceLeDiff, Nat.reduceAdd, Nat.zero_lt_succ, Int.toNat_natCast, get_last1, get_last2, last_map, drop_map]
  repeat (first | rw [wp_seq] | rw [wp_bindS] | rw [Out.wp_bind])
  refine wp_mLc ?_
  simp -implicitDefEqProofs only [mwAll, kStr1, kIEnum, kIZip, kAsgG, kAsgG2, kRevD, kCallP2, kInD, asB_bl, datR_nil, datR_cons, datR_map, snapR_dat, vw_dat, dats_dat, fzO_dat, fzO_own, fzs_dat, fz, grd_true, ofO_some, permO, getE, getC, setC, Out.bind_ok, Out.bind_ex, Out.bind_bad, bindS_ok, bindS_ex, bindS_bad, seq_nx, seq_rt, seq_bk, seq_ct, seq_ex, seq_bad, Out.wp_ok, Out.wp_ex, Out.wp_bad, SO.wp_nx, SO.wp_rt, SO.wp_bk, SO.wp_ct, SO.wp_ex, SO.wp_bad, turn_nx, turn_ct, turn_bk, turn_rt, turn_ex, turn_bad, List.getElem?_cons_zero, List.getElem?_cons_succ, List.set_cons_zero, List.set_cons_succ, List.length_cons, List.length_nil, List.length_map, List.length_set, List.length_append, List.map_cons, List.map_nil, List.cons_append, List.nil_append, List.replicate_succ, List.replicate_zero, List.append_nil, List.all_cons, List.all_nil, Option.map_some, Option.map_none, Option.bind_some, Option.bind_none, Option.isSome_some, Option.isSome_none, if_true, if_false, reduceIte, reduceCtorEq, decide_true, decide_false, Bool.true_or, Bool.or_true, Bool.or_false, Bool.false_or, Bool.true_and, Bool.and_true, Bool.and_false, Bool.false_and, Bool.not_true, Bool.not_false, Bool.and_self, Nat.reduceLT, Nat.reduceLeDiff, Nat.reduceAdd, Nat.zero_lt_succ, Int.toNat_natCast, get_last1, get_last2, last_map, drop_map]
  repeat (first | rw [wp_seq] | rw [wp_bindS] | rw [Out.wp_bind])
  refine draw_kRb hb (by omega) (by omega) fun x cs' h0 h1 hb' => ⟨_, rfl, ?_⟩
  simp -implicitDefEqProofs only [mwAll, kStr1, kIEnum, kIZip, kAsgG, kAsgG2, kRevD, kCallP2, kInD, asB_bl, datR_nil, datR_cons, datR_map, snapR_dat, vw_dat, dats_dat, fzO_dat, fzO_own, fzs_dat, fz, grd_true, ofO_some, permO, getE, getC, setC, Out.bind_ok, Out.bind_ex, Out.bind_bad, bindS_ok, bindS_ex, bindS_bad, seq_nx, seq_rt, seq_bk, seq_ct, seq_ex, seq_bad, Out.wp_ok, Out.wp_ex, Out.wp_bad, SO.wp_nx, SO.wp_rt, SO.wp_bk, SO.wp_ct, SO.wp_ex, SO.wp_bad, turn_nx, turn_ct, turn_bk, turn_rt, turn_ex, turn_bad, List.getElem?_cons_zero, List.getElem?_cons_succ, List.set_cons_zero, List.set_cons_succ, List.length_cons, List.length_nil, List.length_map, List.length_set, List.length_append, List.map_cons, List.map_nil, List.cons_append, List.nil_append, List.replicate_succ, List.replicate_zero, List.append_nil, List.all_cons, List.all_nil, Option.map_some, Option.map_none, Option.bind_some, Option.bind_none, Option.isSome_some, Option.isSome_none, if_true, if_false, reduceIte, reduceCtorEq, decide_true, decide_false, Bool.true_or, Bool.or_true, Bool.or_false, Bool.false_or, Bool.true_and, Bool.and_true, Bool.and_false, Bool.false_and, Bool.not_true, Bool.not_false, Bool.and_self, Nat.reduceLT, Nat.reduceLeDiff, Nat.reduceAdd, Nat.zero_lt_succ, Int.toNat_natCast, get_last1, get_last2, last_map, drop_map, kIR1_ok (show -1000000000 ≤ x by omega) (show x ≤ 1000000000 by omega)]
  refine ⟨by rw [rng_len]; unfold LIM; omega, rfl, wp_lcGo (fun j acc e => ∃ (w : List Int) (cs' : List C), acc = (w.map D.int).map C.dat ∧ w.length = j ∧ (∀ x ∈ w, 0 ≤ x ∧ x < n) ∧ Bx cs' ∧ e = [C.lst cs', C.dat (D.int n), C.dat (D.int m), C.non]) (acc := []) ⟨[], cs', rfl, rfl, (fun x h => by cases h), hb', rfl⟩ (fun j x acc e hx ⟨w, cs2, h1, h2, h3, h4, h5⟩ => ?_) fun out e ⟨w, cs2, h1, h2, h3, h4, h5⟩ => ?_⟩
  · subst h1 h5
    refine ⟨_, rfl, ?_⟩
    simp -implicitDefEqProofs only [mwAll, kStr1, kIEnum, kIZip, kAsgG, kAsgG2, kRevD, kCallP2, kInD, asB_bl, datR_nil, datR_cons, datR_map, snapR_dat, vw_dat, dats_dat, fzO_dat, fzO_own, fzs_dat, fz, grd_true, ofO_some, permO, getE, getC, setC, Out.bind_ok, Out.bind_ex, Out.bind_bad, bindS_ok, bindS_ex, bindS_bad, seq_nx, seq_rt, seq_bk, seq_ct, seq_ex, seq_bad, Out.wp_ok, Out.wp_ex, Out.wp_bad, SO.wp_nx, SO.wp_rt, SO.wp_bk, SO.wp_ct, SO.wp_ex, SO.wp_bad, turn_nx, turn_ct, turn_bk, turn_rt, turn_ex, turn_bad, List.getElem?_cons_zero, List.getElem?_cons_succ, List.set_cons_zero, List.set_cons_succ, List.length_cons, List.length_nil, List.length_map, List.length_set, List.length_append, List.map_cons, List.map_nil, List.cons_append, List.nil_append, List.replicate_succ, List.replicate_zero, List.append_nil, List.all_cons, List.all_nil, Option.map_some, Option.map_none, Option.bind_some, Option.bind_none, Option.isSome_some, Option.isSome_none, if_true, if_false, reduceIte, reduceCtorEq, decide_true, decide_false, Bool.true_or, Bool.or_true, Bool.or_false, Bool.false_or, Bool.true_and, Bool.and_true, Bool.and_false, Bool.false_and, Bool.not_true, Bool.not_false, Bool.and_self, Nat.reduceLT, Nat.reduceLeDiff, Nat.reduceAdd, Nat.zero_lt_succ, Int.toNat_natCast, get_last1, get_last2, last_map, drop_map]
    repeat (first | rw [wp_seq] | rw [wp_bindS] | rw [Out.wp_bind])
    refine draw_kRb h4 hn hn2 fun y cs3 g0 g1 hb3 => ⟨_, rfl, ?_⟩
    simp -implicitDefEqProofs only [mwAll, kStr1, kIEnum, kIZip, kAsgG, kAsgG2, kRevD, kCallP2, kInD, asB_bl, datR_nil, datR_cons, datR_map, snapR_dat, vw_dat, dats_dat, fzO_dat, fzO_own, fzs_dat, fz, grd_true, ofO_some, permO, getE, getC, setC, Out.bind_ok, Out.bind_ex, Out.bind_bad, bindS_ok, bindS_ex, bindS_bad, seq_nx, seq_rt, seq_bk, seq_ct, seq_ex, seq_bad, Out.wp_ok, Out.wp_ex, Out.wp_bad, SO.wp_nx, SO.wp_rt, SO.wp_bk, SO.wp_ct, SO.wp_ex, SO.wp_bad, turn_nx, turn_ct, turn_bk, turn_rt, turn_ex, turn_bad, List.getElem?_cons_zero, List.getElem?_cons_succ, List.set_cons_zero, List.set_cons_succ, List.length_cons, List.length_nil, List.length_map, List.length_set, List.length_append, List.map_cons, List.map_nil, List.cons_append, List.nil_append, List.replicate_succ, List.replicate_zero, List.append_nil, List.all_cons, List.all_nil, Option.map_some, Option.map_none, Option.bind_some, Option.bind_none, Option.isSome_some, Option.isSome_none, if_true, if_false, reduceIte, reduceCtorEq, decide_true, decide_false, Bool.true_or, Bool.or_true, Bool.or_false, Bool.false_or, Bool.true_and, Bool.and_true, Bool.and_false, Bool.false_and, Bool.not_true, Bool.not_false, Bool.and_self, Nat.reduceLT, Nat.reduceLeDiff, Nat.reduceAdd, Nat.zero_lt_succ, Int.toNat_natCast, get_last1, get_last2, last_map, drop_map]
    exact ⟨_, rfl, w ++ [y], cs3, by simp, by simp [h2], fun z hz => by
      rcases List.mem_append.mp hz with hz | hz
      · exact h3 z hz
      · rw [List.mem_singleton.mp hz]; exact ⟨g0, g1⟩, hb3, rfl⟩
  · rw [List.nil_append] at h1
    subst h1 h5
    simp -implicitDefEqProofs only [mwAll, kStr1, kIEnum, kIZip, kAsgG, kAsgG2, kRevD, kCallP2, kInD, asB_bl, datR_nil, datR_cons, datR_map, snapR_dat, vw_dat, dats_dat, fzO_dat, fzO_own, fzs_dat, fz, grd_true, ofO_some, permO, getE, getC, setC, Out.bind_ok, Out.bind_ex, Out.bind_bad, bindS_ok, bindS_ex, bindS_bad, seq_nx, seq_rt, seq_bk, seq_ct, seq_ex, seq_bad, Out.wp_ok, Out.wp_ex, Out.wp_bad, SO.wp_nx, SO.wp_rt, SO.wp_bk, SO.wp_ct, SO.wp_ex, SO.wp_bad, turn_nx, turn_ct, turn_bk, turn_rt, turn_ex, turn_bad, List.getElem?_cons_zero, List.getElem?_cons_succ, List.set_cons_zero, List.set_cons_succ, List.length_cons, List.length_nil, List.length_map, List.length_set, List.length_append, List.map_cons, List.map_nil, List.cons_append, List.nil_append, List.replicate_succ, List.replicate_zero, List.append_nil, List.all_cons, List.all_nil, Option.map_some, Option.map_none, Option.bind_some, Option.bind_none, Option.isSome_some, Option.isSome_none, if_true, if_false, reduceIte, reduceCtorEq, decide_true, decide_false, Bool.true_or, Bool.or_true, Bool.or_false, Bool.false_or, Bool.true_and, Bool.and_true, Bool.and_false, Bool.false_and, Bool.not_true, Bool.not_false, Bool.and_self, Nat.reduceLT, Nat.reduceLeDiff, Nat.reduceAdd, Nat.zero_lt_succ, Int.toNat_natCast, get_last1, get_last2, last_map, drop_map, outC0, outC1, outC2, x_outR1, backE]
    rw [rng_len] at h2
    exact k w cs2 h3 (by omega) h4
theorem own_at {u : List Int} {a : Int} (h0 : 0 ≤ a) (h1 : a < u.length) : ((u.map D.int).map C.dat)[a.toNat]? = some (.dat (.int (un u a))) := by
  rw [List.getElem?_map, List.getElem?_map, un_at h0 h1]
  rfl
theorem own_set (u : List Int) (k : Nat) (b : Int) : ((u.map D.int).map C.dat).set k (.dat (.int b)) = ((u.set k b).map D.int).map C.dat := by
  rw [List.map_set, List.map_set]
theorem undo_wp {cs : List C} {m : Int} {P : R → M.Env → Prop} {px : PX} (hb : Bx cs) (hm : 0 < m) (hm2 : m ≤ 100000) (k : ∀ (u : List Int) (cs' : List C), Undo u → u.length ≤ m → Bx cs' → P (.dat (tw u)) [.lst cs', .dat (.int m)]) : Out.wp P px (mF_law_undo [.lst cs, .dat (.int m)]) := by
  unfold mF_law_undo
  refine wp_mDef rfl ?_
  unfold mB_law_undo
  simp -implicitDefEqProofs only [mwAll, kStr1, kIEnum, kIZip, kAsgG, kAsgG2, kRevD, kCallP2, kInD, asB_bl, datR_nil, datR_cons, datR_map, snapR_dat, vw_dat, dats_dat, fzO_dat, fzO_own, fzs_dat, fz, grd_true, ofO_some, permO, getE, getC, setC, Out.bind_ok, Out.bind_ex, Out.bind_bad, bindS_ok, bindS_ex, bindS_bad, seq_nx, seq_rt, seq_bk, seq_ct, seq_ex, seq_bad, Out.wp_ok, Out.wp_ex, Out.wp_bad, SO.wp_nx, SO.wp_rt, SO.wp_bk, SO.wp_ct, SO.wp_ex, SO.wp_bad, turn_nx, turn_ct, turn_bk, turn_rt, turn_ex, turn_bad, List.getElem?_cons_zero, List.getElem?_cons_succ, List.set_cons_zero, List.set_cons_succ, List.length_cons, List.length_nil, List.length_map, List.length_set, List.length_append, List.map_cons, List.map_nil, List.cons_append, List.nil_append, List.replicate_succ, List.replicate_zero, List.append_nil, List.all_cons, List.all_nil, Option.map_some, Option.map_none, Option.bind_some, Option.bind_none, Option.isSome_some, Option.isSome_none, if_true, if_false, reduceIte, reduceCtorEq, decide_true, decide_false, Bool.true_or, Bool.or_true, Bool.or_false, Bool.false_or, Bool.true_and, Bool.and_true, Bool.and_false, Bool.false_and, Bool.not_true, Bool.not_false, Bool.and_self, Nat.reduceLT, Nat.reduceLeDiff, Nat.reduceAdd, Nat.zero_lt_succ, Int.toNat_natCast, get_last1, get_last2, last_map, drop_map]
  repeat (first | rw [wp_seq] | rw [wp_bindS] | rw [Out.wp_bind])
  refine draw_kRb hb hm (by omega) fun s cs1 s0 s1 hb1 => ⟨_, rfl, ?_⟩
  simp -implicitDefEqProofs only [mwAll, kStr1, kIEnum, kIZip, kAsgG, kAsgG2, kRevD, kCallP2, kInD, asB_bl, datR_nil, datR_cons, datR_map, snapR_dat, vw_dat, dats_dat, fzO_dat, fzO_own, fzs_dat, fz, grd_true, ofO_some, permO, getE, getC, setC, Out.bind_ok, Out.bind_ex, Out.bind_bad, bindS_ok, bindS_ex, bindS_bad, seq_nx, seq_rt, seq_bk, seq_ct, seq_ex, seq_bad, Out.wp_ok, Out.wp_ex, Out.wp_bad, SO.wp_nx, SO.wp_rt, SO.wp_bk, SO.wp_ct, SO.wp_ex, SO.wp_bad, turn_nx, turn_ct, turn_bk, turn_rt, turn_ex, turn_bad, List.getElem?_cons_zero, List.getElem?_cons_succ, List.set_cons_zero, List.set_cons_succ, List.length_cons, List.length_nil, List.length_map, List.length_set, List.length_append, List.map_cons, List.map_nil, List.cons_append, List.nil_append, List.replicate_succ, List.replicate_zero, List.append_nil, List.all_cons, List.all_nil, Option.map_some, Option.map_none, Option.bind_some, Option.bind_none, Option.isSome_some, Option.isSome_none, if_true, if_false, reduceIte, reduceCtorEq, decide_true, decide_false, Bool.true_or, Bool.or_true, Bool.or_false, Bool.false_or, Bool.true_and, Bool.and_true, Bool.and_false, Bool.false_and, Bool.not_true, Bool.not_false, Bool.and_self, Nat.reduceLT, Nat.reduceLeDiff, Nat.reduceAdd, Nat.zero_lt_succ, Int.toNat_natCast, get_last1, get_last2, last_map, drop_map]
  rw [mLc_nm (xs := rng 0 (1 + s).toNat) (F := id) (e0 := [C.lst cs1, C.dat (.int m), C.dat (.int (1 + s)), C.non, C.non, C.non, C.non]) (by simp -implicitDefEqProofs only [mwAll, kStr1, kIEnum, kIZip, kAsgG, kAsgG2, kRevD, kCallP2, kInD, asB_bl, datR_nil, datR_cons, datR_map, snapR_dat, vw_dat, dats_dat, fzO_dat, fzO_own, fzs_dat, fz, grd_true, ofO_some, permO, getE, getC, setC, Out.bind_ok, Out.bind_ex, Out.bind_bad, bindS_ok, bindS_ex, bindS_bad, seq_nx, seq_rt, seq_bk, seq_ct, seq_ex, seq_bad, Out.wp_ok, Out.wp_ex, Out.wp_bad, SO.wp_nx, SO.wp_rt, SO.wp_bk, SO.wp_ct, SO.wp_ex, SO.wp_bad, turn_nx, turn_ct, turn_bk, turn_rt, turn_ex, turn_bad, List.getElem?_cons_zero, List.getElem?_cons_succ, List.set_cons_zero, List.set_cons_succ, List.length_cons, List.length_nil, List.length_map, List.length_set, List.length_append, List.map_cons, List.map_nil, List.cons_append, List.nil_append, List.replicate_succ, List.replicate_zero, List.append_nil, List.all_cons, List.all_nil, Option.map_some, Option.map_none, Option.bind_some, Option.bind_none, Option.isSome_some, Option.isSome_none, if_true, if_false, reduceIte, reduceCtorEq, decide_true, decide_false, Bool.true_or, Bool.or_true, Bool.or_false, Bool.false_or, Bool.true_and, Bool.and_true, Bool.and_false, Bool.false_and, Bool.not_true, Bool.not_false, Bool.and_self, Nat.reduceLT, Nat.reduceLeDiff, Nat.reduceAdd, Nat.zero_lt_succ, Int.toNat_natCast, get_last1, get_last2, last_map, drop_map, kIR1_ok (show -1000000000 ≤ 1 + s by omega) (show 1 + s ≤ 1000000000 by omega)]) (by rw [rng_len]; unfold LIM; omega) (by rfl) (by rfl) fun x hx => ?_]
  rotate_left
  · obtain ⟨j, hj, rfl⟩ := rng_mem0 hx
    simp -implicitDefEqProofs only [mwAll, kStr1, kIEnum, kIZip, kAsgG, kAsgG2, kRevD, kCallP2, kInD, asB_bl, datR_nil, datR_cons, datR_map, snapR_dat, vw_dat, dats_dat, fzO_dat, fzO_own, fzs_dat, fz, grd_true, ofO_some, permO, getE, getC, setC, Out.bind_ok, Out.bind_ex, Out.bind_bad, bindS_ok, bindS_ex, bindS_bad, seq_nx, seq_rt, seq_bk, seq_ct, seq_ex, seq_bad, Out.wp_ok, Out.wp_ex, Out.wp_bad, SO.wp_nx, SO.wp_rt, SO.wp_bk, SO.wp_ct, SO.wp_ex, SO.wp_bad, turn_nx, turn_ct, turn_bk, turn_rt, turn_ex, turn_bad, List.getElem?_cons_zero, List.getElem?_cons_succ, List.set_cons_zero, List.set_cons_succ, List.length_cons, List.length_nil, List.length_map, List.length_set, List.length_append, List.map_cons, List.map_nil, List.cons_append, List.nil_append, List.replicate_succ, List.replicate_zero, List.append_nil, List.all_cons, List.all_nil, Option.map_some, Option.map_none, Option.bind_some, Option.bind_none, Option.isSome_some, Option.isSome_none, if_true, if_false, reduceIte, reduceCtorEq, decide_true, decide_false, Bool.true_or, Bool.or_true, Bool.or_false, Bool.false_or, Bool.true_and, Bool.and_true, Bool.and_false, Bool.false_and, Bool.not_true, Bool.not_false, Bool.and_self, Nat.reduceLT, Nat.reduceLeDiff, Nat.reduceAdd, Nat.zero_lt_succ, Int.toNat_natCast, get_last1, get_last2, last_map, drop_map]
    simp
  rw [List.map_id, rng]
  have e0 : (List.map (fun (k : Nat) => D.int (0 + (k : Int))) (List.range (1 + s).toNat)) = ((List.range (1 + s).toNat).map fun (k : Nat) => (k : Int)).map D.int := by
    rw [List.map_map]
    refine List.map_congr_left fun j _ => ?_
    simp
  rw [e0]
  have U0 := Undo.id (n := (1 + s).toNat) (by omega)
  have L0 : (((List.range (1 + s).toNat).map fun (k : Nat) => (k : Int)).length : Int) = 1 + s := by simp; omega
  generalize (List.range (1 + s).toNat).map (fun (k : Nat) => (k : Int)) = u0 at U0 L0 ⊢
  simp -implicitDefEqProofs only [mwAll, kStr1, kIEnum, kIZip, kAsgG, kAsgG2, kRevD, kCallP2, kInD, asB_bl, datR_nil, datR_cons, datR_map, snapR_dat, vw_dat, dats_dat, fzO_dat, fzO_own, fzs_dat, fz, grd_true, ofO_some, permO, getE, getC, setC, Out.bind_ok, Out.bind_ex, Out.bind_bad, bindS_ok, bindS_ex, bindS_bad, seq_nx, seq_rt, seq_bk, seq_ct, seq_ex, seq_bad, Out.wp_ok, Out.wp_ex, Out.wp_bad, SO.wp_nx, SO.wp_rt, SO.wp_bk, SO.wp_ct, SO.wp_ex, SO.wp_bad, turn_nx, turn_ct, turn_bk, turn_rt, turn_ex, turn_bad, List.getElem?_cons_zero, List.getElem?_cons_succ, List.set_cons_zero, List.set_cons_succ, List.length_cons, List.length_nil, List.length_map, List.length_set, List.length_append, List.map_cons, List.map_nil, List.cons_append, List.nil_append, List.replicate_succ, List.replicate_zero, List.append_nil, List.all_cons, List.all_nil, Option.map_some, Option.map_none, Option.bind_some, Option.bind_none, Option.isSome_some, Option.isSome_none, if_true, if_false, reduceIte, reduceCtorEq, decide_true, decide_false, Bool.true_or, Bool.or_true, Bool.or_false, Bool.false_or, Bool.true_and, Bool.and_true, Bool.and_false, Bool.false_and, Bool.not_true, Bool.not_false, Bool.and_self, Nat.reduceLT, Nat.reduceLeDiff, Nat.reduceAdd, Nat.zero_lt_succ, Int.toNat_natCast, get_last1, get_last2, last_map, drop_map]
  refine wp_cut (fun e => ∃ (u : List Int) (cs1 : List C) (a b c : C), Undo u ∧ (u.length : Int) = 1 + s ∧ Bx cs1 ∧ e = [C.lst cs1, C.dat (.int m), C.dat (.int (1 + s)), C.lst ((u.map D.int).map C.dat), a, b, c]) ?_ fun e ⟨u, cs2, a, b, c, U, L, hb2, he⟩ => ?_
  · repeat (first | rw [wp_seq] | rw [wp_bindS] | rw [Out.wp_bind])
    refine draw_kRb hb1 (by decide) (by decide) fun x cs2 x0 x1 hb2 => ⟨_, rfl, ?_⟩
    simp -implicitDefEqProofs only [mwAll, kStr1, kIEnum, kIZip, kAsgG, kAsgG2, kRevD, kCallP2, kInD, asB_bl, datR_nil, datR_cons, datR_map, snapR_dat, vw_dat, dats_dat, fzO_dat, fzO_own, fzs_dat, fz, grd_true, ofO_some, permO, getE, getC, setC, Out.bind_ok, Out.bind_ex, Out.bind_bad, bindS_ok, bindS_ex, bindS_bad, seq_nx, seq_rt, seq_bk, seq_ct, seq_ex, seq_bad, Out.wp_ok, Out.wp_ex, Out.wp_bad, SO.wp_nx, SO.wp_rt, SO.wp_bk, SO.wp_ct, SO.wp_ex, SO.wp_bad, turn_nx, turn_ct, turn_bk, turn_rt, turn_ex, turn_bad, List.getElem?_cons_zero, List.getElem?_cons_succ, List.set_cons_zero, List.set_cons_succ, List.length_cons, List.length_nil, List.length_map, List.length_set, List.length_append, List.map_cons, List.map_nil, List.cons_append, List.nil_append, List.replicate_succ, List.replicate_zero, List.append_nil, List.all_cons, List.all_nil, Option.map_some, Option.map_none, Option.bind_some, Option.bind_none, Option.isSome_some, Option.isSome_none, if_true, if_false, reduceIte, reduceCtorEq, decide_true, decide_false, Bool.true_or, Bool.or_true, Bool.or_false, Bool.false_or, Bool.true_and, Bool.and_true, Bool.and_false, Bool.false_and, Bool.not_true, Bool.not_false, Bool.and_self, Nat.reduceLT, Nat.reduceLeDiff, Nat.reduceAdd, Nat.zero_lt_succ, Int.toNat_natCast, get_last1, get_last2, last_map, drop_map, kIR1_ok (show -1000000000 ≤ x by omega) (show x ≤ 1000000000 by omega)]
    refine wp_forGo (fun _ e => ∃ (u : List Int) (cs1 : List C) (a b c : C), Undo u ∧ (u.length : Int) = 1 + s ∧ Bx cs1 ∧ e = [C.lst cs1, C.dat (.int m), C.dat (.int (1 + s)), C.lst ((u.map D.int).map C.dat), a, b, c]) ⟨u0, cs2, _, _, _, U0, L0, hb2, rfl⟩ (fun j x e hx ⟨u, cs2, a, b, c, U, L, hb2, he⟩ => ?_) fun e h => h
    subst he
    refine ⟨_, rfl, ?_⟩
    simp -implicitDefEqProofs only [mwAll, kStr1, kIEnum, kIZip, kAsgG, kAsgG2, kRevD, kCallP2, kInD, asB_bl, datR_nil, datR_cons, datR_map, snapR_dat, vw_dat, dats_dat, fzO_dat, fzO_own, fzs_dat, fz, grd_true, ofO_some, permO, getE, getC, setC, Out.bind_ok, Out.bind_ex, Out.bind_bad, bindS_ok, bindS_ex, bindS_bad, seq_nx, seq_rt, seq_bk, seq_ct, seq_ex, seq_bad, Out.wp_ok, Out.wp_ex, Out.wp_bad, SO.wp_nx, SO.wp_rt, SO.wp_bk, SO.wp_ct, SO.wp_ex, SO.wp_bad, turn_nx, turn_ct, turn_bk, turn_rt, turn_ex, turn_bad, List.getElem?_cons_zero, List.getElem?_cons_succ, List.set_cons_zero, List.set_cons_succ, List.length_cons, List.length_nil, List.length_map, List.length_set, List.length_append, List.map_cons, List.map_nil, List.cons_append, List.nil_append, List.replicate_succ, List.replicate_zero, List.append_nil, List.all_cons, List.all_nil, Option.map_some, Option.map_none, Option.bind_some, Option.bind_none, Option.isSome_some, Option.isSome_none, if_true, if_false, reduceIte, reduceCtorEq, decide_true, decide_false, Bool.true_or, Bool.or_true, Bool.or_false, Bool.false_or, Bool.true_and, Bool.and_true, Bool.and_false, Bool.false_and, Bool.not_true, Bool.not_false, Bool.and_self, Nat.reduceLT, Nat.reduceLeDiff, Nat.reduceAdd, Nat.zero_lt_succ, Int.toNat_natCast, get_last1, get_last2, last_map, drop_map]
    repeat (first | rw [wp_seq] | rw [wp_bindS] | rw [Out.wp_bind])
    refine draw_kRb hb2 (by omega) (by omega) fun a cs3 a0 a1 hb3 => ⟨_, rfl, ?_⟩
    simp -implicitDefEqProofs only [mwAll, kStr1, kIEnum, kIZip, kAsgG, kAsgG2, kRevD, kCallP2, kInD, asB_bl, datR_nil, datR_cons, datR_map, snapR_dat, vw_dat, dats_dat, fzO_dat, fzO_own, fzs_dat, fz, grd_true, ofO_some, permO, getE, getC, setC, Out.bind_ok, Out.bind_ex, Out.bind_bad, bindS_ok, bindS_ex, bindS_bad, seq_nx, seq_rt, seq_bk, seq_ct, seq_ex, seq_bad, Out.wp_ok, Out.wp_ex, Out.wp_bad, SO.wp_nx, SO.wp_rt, SO.wp_bk, SO.wp_ct, SO.wp_ex, SO.wp_bad, turn_nx, turn_ct, turn_bk, turn_rt, turn_ex, turn_bad, List.getElem?_cons_zero, List.getElem?_cons_succ, List.set_cons_zero, List.set_cons_succ, List.length_cons, List.length_nil, List.length_map, List.length_set, List.length_append, List.map_cons, List.map_nil, List.cons_append, List.nil_append, List.replicate_succ, List.replicate_zero, List.append_nil, List.all_cons, List.all_nil, Option.map_some, Option.map_none, Option.bind_some, Option.bind_none, Option.isSome_some, Option.isSome_none, if_true, if_false, reduceIte, reduceCtorEq, decide_true, decide_false, Bool.true_or, Bool.or_true, Bool.or_false, Bool.false_or, Bool.true_and, Bool.and_true, Bool.and_false, Bool.false_and, Bool.not_true, Bool.not_false, Bool.and_self, Nat.reduceLT, Nat.reduceLeDiff, Nat.reduceAdd, Nat.zero_lt_succ, Int.toNat_natCast, get_last1, get_last2, last_map, drop_map]
    repeat (first | rw [wp_seq] | rw [wp_bindS] | rw [Out.wp_bind])
    refine draw_kRb hb3 (by omega) (by omega) fun b cs4 b0 b1 hb4 => ⟨_, rfl, ?_⟩
    simp -implicitDefEqProofs only [mwAll, kStr1, kIEnum, kIZip, kAsgG, kAsgG2, kRevD, kCallP2, kInD, asB_bl, datR_nil, datR_cons, datR_map, snapR_dat, vw_dat, dats_dat, fzO_dat, fzO_own, fzs_dat, fz, grd_true, ofO_some, permO, getE, getC, setC, Out.bind_ok, Out.bind_ex, Out.bind_bad, bindS_ok, bindS_ex, bindS_bad, seq_nx, seq_rt, seq_bk, seq_ct, seq_ex, seq_bad, Out.wp_ok, Out.wp_ex, Out.wp_bad, SO.wp_nx, SO.wp_rt, SO.wp_bk, SO.wp_ct, SO.wp_ex, SO.wp_bad, turn_nx, turn_ct, turn_bk, turn_rt, turn_ex, turn_bad, List.getElem?_cons_zero, List.getElem?_cons_succ, List.set_cons_zero, List.set_cons_succ, List.length_cons, List.length_nil, List.length_map, List.length_set, List.length_append, List.map_cons, List.map_nil, List.cons_append, List.nil_append, List.replicate_succ, List.replicate_zero, List.append_nil, List.all_cons, List.all_nil, Option.map_some, Option.map_none, Option.bind_some, Option.bind_none, Option.isSome_some, Option.isSome_none, if_true, if_false, reduceIte, reduceCtorEq, decide_true, decide_false, Bool.true_or, Bool.or_true, Bool.or_false, Bool.false_or, Bool.true_and, Bool.and_true, Bool.and_false, Bool.false_and, Bool.not_true, Bool.not_false, Bool.and_self, Nat.reduceLT, Nat.reduceLeDiff, Nat.reduceAdd, Nat.zero_lt_succ, Int.toNat_natCast, get_last1, get_last2, last_map, drop_map, ixN_int a0 (show a < (u.length : Int) by omega), ixN_int b0 (show b < (u.length : Int) by omega), own_at a0 (show a < (u.length : Int) by omega), own_at b0 (show b < (u.length : Int) by omega)]
    have la : a < (u.length : Int) := by omega
    have lb : b < (u.length : Int) := by omega
    have ea : ((a.toNat : Nat) : Int) = a := by omega
    have eb : ((b.toNat : Nat) : Int) = b := by omega
    by_cases h1 : un u a = a
    · by_cases h2 : un u b = b
      · have ga := un_at a0 la
        have gb := un_at b0 lb
        rw [h1] at ga
        rw [h2] at gb
        have U2 := U.pair (a := a.toNat) (b := b.toNat) (by rw [ea]; exact ga) (by rw [eb]; exact gb)
        rw [ea, eb] at U2
        simp -implicitDefEqProofs only [mwAll, kStr1, kIEnum, kIZip, kAsgG, kAsgG2, kRevD, kCallP2, kInD, asB_bl, datR_nil, datR_cons, datR_map, snapR_dat, vw_dat, dats_dat, fzO_dat, fzO_own, fzs_dat, fz, grd_true, ofO_some, permO, getE, getC, setC, Out.bind_ok, Out.bind_ex, Out.bind_bad, bindS_ok, bindS_ex, bindS_bad, seq_nx, seq_rt, seq_bk, seq_ct, seq_ex, seq_bad, Out.wp_ok, Out.wp_ex, Out.wp_bad, SO.wp_nx, SO.wp_rt, SO.wp_bk, SO.wp_ct, SO.wp_ex, SO.wp_bad, turn_nx, turn_ct, turn_bk, turn_rt, turn_ex, turn_bad, List.getElem?_cons_zero, List.getElem?_cons_succ, List.set_cons_zero, List.set_cons_succ, List.length_cons, List.length_nil, List.length_map, List.length_set, List.length_append, List.map_cons, List.map_nil, List.cons_append, List.nil_append, List.replicate_succ, List.replicate_zero, List.append_nil, List.all_cons, List.all_nil, Option.map_some, Option.map_none, Option.bind_some, Option.bind_none, Option.isSome_some, Option.isSome_none, if_true, if_false, reduceIte, reduceCtorEq, decide_true, decide_false, Bool.true_or, Bool.or_true, Bool.or_false, Bool.false_or, Bool.true_and, Bool.and_true, Bool.and_false, Bool.false_and, Bool.not_true, Bool.not_false, Bool.and_self, Nat.reduceLT, Nat.reduceLeDiff, Nat.reduceAdd, Nat.zero_lt_succ, Int.toNat_natCast, get_last1, get_last2, last_map, drop_map, h1, h2, ixN_int a0 la, ixN_int b0 lb, own_at a0 la, own_at b0 lb, own_set, own_at (u := u.set a.toNat b) b0 (by rw [List.length_set]; exact lb)]
        exact ⟨_, cs4, _, _, _, U2, by rw [List.length_set, List.length_set]; exact L, hb4, rfl⟩
      · simp -implicitDefEqProofs only [mwAll, kStr1, kIEnum, kIZip, kAsgG, kAsgG2, kRevD, kCallP2, kInD, asB_bl, datR_nil, datR_cons, datR_map, snapR_dat, vw_dat, dats_dat, fzO_dat, fzO_own, fzs_dat, fz, grd_true, ofO_some, permO, getE, getC, setC, Out.bind_ok, Out.bind_ex, Out.bind_bad, bindS_ok, bindS_ex, bindS_bad, seq_nx, seq_rt, seq_bk, seq_ct, seq_ex, seq_bad, Out.wp_ok, Out.wp_ex, Out.wp_bad, SO.wp_nx, SO.wp_rt, SO.wp_bk, SO.wp_ct, SO.wp_ex, SO.wp_bad, turn_nx, turn_ct, turn_bk, turn_rt, turn_ex, turn_bad, List.getElem?_cons_zero, List.getElem?_cons_succ, List.set_cons_zero, List.set_cons_succ, List.length_cons, List.length_nil, List.length_map, List.length_set, List.length_append, List.map_cons, List.map_nil, List.cons_append, List.nil_append, List.replicate_succ, List.replicate_zero, List.append_nil, List.all_cons, List.all_nil, Option.map_some, Option.map_none, Option.bind_some, Option.bind_none, Option.isSome_some, Option.isSome_none, if_true, if_false, reduceIte, reduceCtorEq, decide_true, decide_false, Bool.true_or, Bool.or_true, Bool.or_false, Bool.false_or, Bool.true_and, Bool.and_true, Bool.and_false, Bool.false_and, Bool.not_true, Bool.not_false, Bool.and_self, Nat.reduceLT, Nat.reduceLeDiff, Nat.reduceAdd, Nat.zero_lt_succ, Int.toNat_natCast, get_last1, get_last2, last_map, drop_map, h1, h2, ixN_int b0 lb, own_at b0 lb]
        exact ⟨u, cs4, _, _, _, U, L, hb4, rfl⟩
    · simp -implicitDefEqProofs only [mwAll, kStr1, kIEnum, kIZip, kAsgG, kAsgG2, kRevD, kCallP2, kInD, asB_bl, datR_nil, datR_cons, datR_map, snapR_dat, vw_dat, dats_dat, fzO_dat, fzO_own, fzs_dat, fz, grd_true, ofO_some, permO, getE, getC, setC, Out.bind_ok, Out.bind_ex, Out.bind_bad, bindS_ok, bindS_ex, bindS_bad, seq_nx, seq_rt, seq_bk, seq_ct, seq_ex, seq_bad, Out.wp_ok, Out.wp_ex, Out.wp_bad, SO.wp_nx, SO.wp_rt, SO.wp_bk, SO.wp_ct, SO.wp_ex, SO.wp_bad, turn_nx, turn_ct, turn_bk, turn_rt, turn_ex, turn_bad, List.getElem?_cons_zero, List.getElem?_cons_succ, List.set_cons_zero, List.set_cons_succ, List.length_cons, List.length_nil, List.length_map, List.length_set, List.length_append, List.map_cons, List.map_nil, List.cons_append, List.nil_append, List.replicate_succ, List.replicate_zero, List.append_nil, List.all_cons, List.all_nil, Option.map_some, Option.map_none, Option.bind_some, Option.bind_none, Option.isSome_some, Option.isSome_none, if_true, if_false, reduceIte, reduceCtorEq, decide_true, decide_false, Bool.true_or, Bool.or_true, Bool.or_false, Bool.false_or, Bool.true_and, Bool.and_true, Bool.and_false, Bool.false_and, Bool.not_true, Bool.not_false, Bool.and_self, Nat.reduceLT, Nat.reduceLeDiff, Nat.reduceAdd, Nat.zero_lt_succ, Int.toNat_natCast, get_last1, get_last2, last_map, drop_map, h1]
      exact ⟨u, cs4, _, _, _, U, L, hb4, rfl⟩
  · subst he
    simp -implicitDefEqProofs only [mwAll, kStr1, kIEnum, kIZip, kAsgG, kAsgG2, kRevD, kCallP2, kInD, asB_bl, datR_nil, datR_cons, datR_map, snapR_dat, vw_dat, dats_dat, fzO_dat, fzO_own, fzs_dat, fz, grd_true, ofO_some, permO, getE, getC, setC, Out.bind_ok, Out.bind_ex, Out.bind_bad, bindS_ok, bindS_ex, bindS_bad, seq_nx, seq_rt, seq_bk, seq_ct, seq_ex, seq_bad, Out.wp_ok, Out.wp_ex, Out.wp_bad, SO.wp_nx, SO.wp_rt, SO.wp_bk, SO.wp_ct, SO.wp_ex, SO.wp_bad, turn_nx, turn_ct, turn_bk, turn_rt, turn_ex, turn_bad, List.getElem?_cons_zero, List.getElem?_cons_succ, List.set_cons_zero, List.set_cons_succ, List.length_cons, List.length_nil, List.length_map, List.length_set, List.length_append, List.map_cons, List.map_nil, List.cons_append, List.nil_append, List.replicate_succ, List.replicate_zero, List.append_nil, List.all_cons, List.all_nil, Option.map_some, Option.map_none, Option.bind_some, Option.bind_none, Option.isSome_some, Option.isSome_none, if_true, if_false, reduceIte, reduceCtorEq, decide_true, decide_false, Bool.true_or, Bool.or_true, Bool.or_false, Bool.false_or, Bool.true_and, Bool.and_true, Bool.and_false, Bool.false_and, Bool.not_true, Bool.not_false, Bool.and_self, Nat.reduceLT, Nat.reduceLeDiff, Nat.reduceAdd, Nat.zero_lt_succ, Int.toNat_natCast, get_last1, get_last2, last_map, drop_map, outC0, outC1, outC2, x_outR1]
    exact k u cs2 U (by omega) hb2
theorem law_is_word_eq {d : D} {n : Int} (h : d.pln = true) (hl : ∀ ds, d = .tup ds → ds.length ≤ LIM) : mF_law_is_word [.dat d, .dat (.int n)] = .ok (.dat (.bl (isWordD d n))) [.dat d, .dat (.int n)] := by
  unfold mF_law_is_word
  refine ok_of_wp (wp_mDef rfl ?_)
  unfold mB_law_is_word
  cases d with
  | tup ds =>
    simp -implicitDefEqProofs only [mwAll, kStr1, kIEnum, kIZip, kAsgG, kAsgG2, kRevD, kCallP2, kInD, asB_bl, datR_nil, datR_cons, datR_map, snapR_dat, vw_dat, dats_dat, fzO_dat, fzO_own, fzs_dat, fz, grd_true, ofO_some, permO, getE, getC, setC, Out.bind_ok, Out.bind_ex, Out.bind_bad, bindS_ok, bindS_ex, bindS_bad, seq_nx, seq_rt, seq_bk, seq_ct, seq_ex, seq_bad, Out.wp_ok, Out.wp_ex, Out.wp_bad, SO.wp_nx, SO.wp_rt, SO.wp_bk, SO.wp_ct, SO.wp_ex, SO.wp_bad, turn_nx, turn_ct, turn_bk, turn_rt, turn_ex, turn_bad, List.getElem?_cons_zero, List.getElem?_cons_succ, List.set_cons_zero, List.set_cons_succ, List.length_cons, List.length_nil, List.length_map, List.length_set, List.length_append, List.map_cons, List.map_nil, List.cons_append, List.nil_append, List.replicate_succ, List.replicate_zero, List.append_nil, List.all_cons, List.all_nil, Option.map_some, Option.map_none, Option.bind_some, Option.bind_none, Option.isSome_some, Option.isSome_none, if_true, if_false, reduceIte, reduceCtorEq, decide_true, decide_false, Bool.true_or, Bool.or_true, Bool.or_false, Bool.false_or, Bool.true_and, Bool.and_true, Bool.and_false, Bool.false_and, Bool.not_true, Bool.not_false, Bool.and_self, Nat.reduceLT, Nat.reduceLeDiff, Nat.reduceAdd, Nat.zero_lt_succ, Int.toNat_natCast, get_last1, get_last2, last_map, drop_map]
    rw [mLc_nm (xs := ds) (F := fun x => .bl (isN n x)) (by rfl) (hl ds rfl) (by rfl) (by rfl) fun x hx => ?_]
    · simp -implicitDefEqProofs only [mwAll, kStr1, kIEnum, kIZip, kAsgG, kAsgG2, kRevD, kCallP2, kInD, asB_bl, datR_nil, datR_cons, datR_map, snapR_dat, vw_dat, dats_dat, fzO_dat, fzO_own, fzs_dat, fz, grd_true, ofO_some, permO, getE, getC, setC, Out.bind_ok, Out.bind_ex, Out.bind_bad, bindS_ok, bindS_ex, bindS_bad, seq_nx, seq_rt, seq_bk, seq_ct, seq_ex, seq_bad, Out.wp_ok, Out.wp_ex, Out.wp_bad, SO.wp_nx, SO.wp_rt, SO.wp_bk, SO.wp_ct, SO.wp_ex, SO.wp_bad, turn_nx, turn_ct, turn_bk, turn_rt, turn_ex, turn_bad, List.getElem?_cons_zero, List.getElem?_cons_succ, List.set_cons_zero, List.set_cons_succ, List.length_cons, List.length_nil, List.length_map, List.length_set, List.length_append, List.map_cons, List.map_nil, List.cons_append, List.nil_append, List.replicate_succ, List.replicate_zero, List.append_nil, List.all_cons, List.all_nil, Option.map_some, Option.map_none, Option.bind_some, Option.bind_none, Option.isSome_some, Option.isSome_none, if_true, if_false, reduceIte, reduceCtorEq, decide_true, decide_false, Bool.true_or, Bool.or_true, Bool.or_false, Bool.false_or, Bool.true_and, Bool.and_true, Bool.and_false, Bool.false_and, Bool.not_true, Bool.not_false, Bool.and_self, Nat.reduceLT, Nat.reduceLeDiff, Nat.reduceAdd, Nat.zero_lt_succ, Int.toNat_natCast, get_last1, get_last2, last_map, drop_map]
      simp -implicitDefEqProofs only [mwAll, kStr1, kIEnum, kIZip, kAsgG, kAsgG2, kRevD, kCallP2, kInD, asB_bl, datR_nil, datR_cons, datR_map, snapR_dat, vw_dat, dats_dat, fzO_dat, fzO_own, fzs_dat, fz, grd_true, ofO_some, permO, getE, getC, setC, Out.bind_ok, Out.bind_ex, Out.bind_bad, bindS_ok, bindS_ex, bindS_bad, seq_nx, seq_rt, seq_bk, seq_ct, seq_ex, seq_bad, Out.wp_ok, Out.wp_ex, Out.wp_bad, SO.wp_nx, SO.wp_rt, SO.wp_bk, SO.wp_ct, SO.wp_ex, SO.wp_bad, turn_nx, turn_ct, turn_bk, turn_rt, turn_ex, turn_bad, List.getElem?_cons_zero, List.getElem?_cons_succ, List.set_cons_zero, List.set_cons_succ, List.length_cons, List.length_nil, List.length_map, List.length_set, List.length_append, List.map_cons, List.map_nil, List.cons_append, List.nil_append, List.replicate_succ, List.replicate_zero, List.append_nil, List.all_cons, List.all_nil, Option.map_some, Option.map_none, Option.bind_some, Option.bind_none, Option.isSome_some, Option.isSome_none, if_true, if_false, reduceIte, reduceCtorEq, decide_true, decide_false, Bool.true_or, Bool.or_true, Bool.or_false, Bool.false_or, Bool.true_and, Bool.and_true, Bool.and_false, Bool.false_and, Bool.not_true, Bool.not_false, Bool.and_self, Nat.reduceLT, Nat.reduceLeDiff, Nat.reduceAdd, Nat.zero_lt_succ, Int.toNat_natCast, get_last1, get_last2, last_map, drop_map, notin_false, outC0, outC1, x_outR1, isWordD]
      simp
    · simp -implicitDefEqProofs only [mwAll, kStr1, kIEnum, kIZip, kAsgG, kAsgG2, kRevD, kCallP2, kInD, asB_bl, datR_nil, datR_cons, datR_map, snapR_dat, vw_dat, dats_dat, fzO_dat, fzO_own, fzs_dat, fz, grd_true, ofO_some, permO, getE, getC, setC, Out.bind_ok, Out.bind_ex, Out.bind_bad, bindS_ok, bindS_ex, bindS_bad, seq_nx, seq_rt, seq_bk, seq_ct, seq_ex, seq_bad, Out.wp_ok, Out.wp_ex, Out.wp_bad, SO.wp_nx, SO.wp_rt, SO.wp_bk, SO.wp_ct, SO.wp_ex, SO.wp_bad, turn_nx, turn_ct, turn_bk, turn_rt, turn_ex, turn_bad, List.getElem?_cons_zero, List.getElem?_cons_succ, List.set_cons_zero, List.set_cons_succ, List.length_cons, List.length_nil, List.length_map, List.length_set, List.length_append, List.map_cons, List.map_nil, List.cons_append, List.nil_append, List.replicate_succ, List.replicate_zero, List.append_nil, List.all_cons, List.all_nil, Option.map_some, Option.map_none, Option.bind_some, Option.bind_none, Option.isSome_some, Option.isSome_none, if_true, if_false, reduceIte, reduceCtorEq, decide_true, decide_false, Bool.true_or, Bool.or_true, Bool.or_false, Bool.false_or, Bool.true_and, Bool.and_true, Bool.and_false, Bool.false_and, Bool.not_true, Bool.not_false, Bool.and_self, Nat.reduceLT, Nat.reduceLeDiff, Nat.reduceAdd, Nat.zero_lt_succ, Int.toNat_natCast, get_last1, get_last2, last_map, drop_map, is_integer_eq (plns_mem (pln_tup h) hx)]
      cases x <;> simp -implicitDefEqProofs only [mwAll, kStr1, kIEnum, kIZip, kAsgG, kAsgG2, kRevD, kCallP2, kInD, asB_bl, datR_nil, datR_cons, datR_map, snapR_dat, vw_dat, dats_dat, fzO_dat, fzO_own, fzs_dat, fz, grd_true, ofO_some, permO, getE, getC, setC, Out.bind_ok, Out.bind_ex, Out.bind_bad, bindS_ok, bindS_ex, bindS_bad, seq_nx, seq_rt, seq_bk, seq_ct, seq_ex, seq_bad, Out.wp_ok, Out.wp_ex, Out.wp_bad, SO.wp_nx, SO.wp_rt, SO.wp_bk, SO.wp_ct, SO.wp_ex, SO.wp_bad, turn_nx, turn_ct, turn_bk, turn_rt, turn_ex, turn_bad, List.getElem?_cons_zero, List.getElem?_cons_succ, List.set_cons_zero, List.set_cons_succ, List.length_cons, List.length_nil, List.length_map, List.length_set, List.length_append, List.map_cons, List.map_nil, List.cons_append, List.nil_append, List.replicate_succ, List.replicate_zero, List.append_nil, List.all_cons, List.all_nil, Option.map_some, Option.map_none, Option.bind_some, Option.bind_none, Option.isSome_some, Option.isSome_none, if_true, if_false, reduceIte, reduceCtorEq, decide_true, decide_false, Bool.true_or, Bool.or_true, Bool.or_false, Bool.false_or, Bool.true_and, Bool.and_true, Bool.and_false, Bool.false_and, Bool.not_true, Bool.not_false, Bool.and_self, Nat.reduceLT, Nat.reduceLeDiff, Nat.reduceAdd, Nat.zero_lt_succ, Int.toNat_natCast, get_last1, get_last2, last_map, drop_map, isW, isN]
      rename_i i
      by_cases hi : 0 ≤ i <;> simp only [hi, decide_true, decide_false] <;> simp -implicitDefEqProofs only [mwAll, kStr1, kIEnum, kIZip, kAsgG, kAsgG2, kRevD, kCallP2, kInD, asB_bl, datR_nil, datR_cons, datR_map, snapR_dat, vw_dat, dats_dat, fzO_dat, fzO_own, fzs_dat, fz, grd_true, ofO_some, permO, getE, getC, setC, Out.bind_ok, Out.bind_ex, Out.bind_bad, bindS_ok, bindS_ex, bindS_bad, seq_nx, seq_rt, seq_bk, seq_ct, seq_ex, seq_bad, Out.wp_ok, Out.wp_ex, Out.wp_bad, SO.wp_nx, SO.wp_rt, SO.wp_bk, SO.wp_ct, SO.wp_ex, SO.wp_bad, turn_nx, turn_ct, turn_bk, turn_rt, turn_ex, turn_bad, List.getElem?_cons_zero, List.getElem?_cons_succ, List.set_cons_zero, List.set_cons_succ, List.length_cons, List.length_nil, List.length_map, List.length_set, List.length_append, List.map_cons, List.map_nil, List.cons_append, List.nil_append, List.replicate_succ, List.replicate_zero, List.append_nil, List.all_cons, List.all_nil, Option.map_some, Option.map_none, Option.bind_some, Option.bind_none, Option.isSome_some, Option.isSome_none, if_true, if_false, reduceIte, reduceCtorEq, decide_true, decide_false, Bool.true_or, Bool.or_true, Bool.or_false, Bool.false_or, Bool.true_and, Bool.and_true, Bool.and_false, Bool.false_and, Bool.not_true, Bool.not_false, Bool.and_self, Nat.reduceLT, Nat.reduceLeDiff, Nat.reduceAdd, Nat.zero_lt_succ, Int.toNat_natCast, get_last1, get_last2, last_map, drop_map]
  | _ => first | (simp -implicitDefEqProofs only [mwAll, kStr1, kIEnum, kIZip, kAsgG, kAsgG2, kRevD, kCallP2, kInD, asB_bl, datR_nil, datR_cons, datR_map, snapR_dat, vw_dat, dats_dat, fzO_dat, fzO_own, fzs_dat, fz, grd_true, ofO_some, permO, getE, getC, setC, Out.bind_ok, Out.bind_ex, Out.bind_bad, bindS_ok, bindS_ex, bindS_bad, seq_nx, seq_rt, seq_bk, seq_ct, seq_ex, seq_bad, Out.wp_ok, Out.wp_ex, Out.wp_bad, SO.wp_nx, SO.wp_rt, SO.wp_bk, SO.wp_ct, SO.wp_ex, SO.wp_bad, turn_nx, turn_ct, turn_bk, turn_rt, turn_ex, turn_bad, List.getElem?_cons_zero, List.getElem?_cons_succ, List.set_cons_zero, List.set_cons_succ, List.length_cons, List.length_nil, List.length_map, List.length_set, List.length_append, List.map_cons, List.map_nil, List.cons_append, List.nil_append, List.replicate_succ, List.replicate_zero, List.append_nil, List.all_cons, List.all_nil, Option.map_some, Option.map_none, Option.bind_some, Option.bind_none, Option.isSome_some, Option.isSome_none, if_true, if_false, reduceIte, reduceCtorEq, decide_true, decide_false, Bool.true_or, Bool.or_true, Bool.or_false, Bool.false_or, Bool.true_and, Bool.and_true, Bool.and_false, Bool.false_and, Bool.not_true, Bool.not_false, Bool.and_self, Nat.reduceLT, Nat.reduceLeDiff, Nat.reduceAdd, Nat.zero_lt_succ, Int.toNat_natCast, get_last1, get_last2, last_map, drop_map, outC0, outC1, x_outR1, isWordD]; simp; done) | (exfalso; simp [D.pln] at h)
end Lb
set_option Elab.async false
set_option linter.all false
set_option maxRecDepth 100000
set_option maxHeartbeats 1000000
namespace Lb
open PySem PySem.Spec PyProof.Rows L2 MR M
def gdB (d : D) : Bool := d.okk 18 && decide (d.wt ≤ 1000)
theorem gd_of18 {d : D} (h : gdB d = true) : d.okk 18 = true ∧ d.wt ≤ 1000 := by
  unfold gdB at h
  rw [Bool.and_eq_true] at h
  exact ⟨h.1, of_decide_eq_true h.2⟩
theorem cutD_take (ds : List D) (n : Nat) : M.cutD ds none (some (n : Int)) = ds.take n := by
  unfold M.cutD
  rw [HT.sIx_none, HT.sIx_nat, List.drop_zero, Nat.sub_zero]
  by_cases h : n ≤ ds.length
  · rw [Nat.min_eq_left h]
  · rw [Nat.min_eq_right (by omega), List.take_length, List.take_of_length_le (by omega)]
theorem cutD_drop (ds : List D) (n : Nat) : M.cutD ds (some (n : Int)) none = ds.drop n := by
  unfold M.cutD
  rw [HT.sIx_none, HT.sIx_nat]
  by_cases h : n ≤ ds.length
  · rw [Nat.min_eq_left h, List.take_of_length_le (by rw [List.length_drop]; omega)]
  · rw [Nat.min_eq_right (by omega), Nat.sub_self, List.take_zero, List.drop_eq_nil_of_le (by omega)]
theorem okks_intsK {k : Nat} : ∀ {w : List Int}, (∀ x ∈ w, x.natAbs < 10 ^ 30) → D.okks k (w.map D.int) = true
  | [], _ => by simp [D.okks]
  | x :: w, h => by
    simp only [List.map_cons, D.okks, D.okk, Bool.and_eq_true, decide_eq_true_eq]
    exact ⟨h x (List.mem_cons_self ..), okks_intsK fun y hy => h y (List.mem_cons_of_mem _ hy)⟩
theorem tw_okk {k : Nat} {w : List Int} (h : ∀ x ∈ w, x.natAbs < 10 ^ 30) : (tw w).okk (k + 1) = true := by
  show D.okk (k + 1) (.tup (w.map D.int)) = true
  simp only [D.okk]
  exact okks_intsK h
theorem okks_all {k : Nat} : ∀ {ds : List D}, (∀ d ∈ ds, d.okk k = true) → D.okks k ds = true
  | [], _ => by simp [D.okks]
  | d :: ds, h => by
    simp only [D.okks, Bool.and_eq_true]
    exact ⟨h d (List.mem_cons_self ..), okks_all fun x hx => h x (List.mem_cons_of_mem _ hx)⟩
theorem wts_all {m : Nat} : ∀ {ds : List D}, (∀ d ∈ ds, d.wt ≤ m) → D.wts ds ≤ (m + 1) * ds.length
  | [], _ => by simp [D.wts]
  | d :: ds, h => by
    have h1 := h d (List.mem_cons_self ..)
    have h2 := wts_all (ds := ds) fun x hx => h x (List.mem_cons_of_mem _ hx)
    simp only [D.wts, List.length_cons, Nat.mul_succ]
    omega
theorem op2_oo (o : D → D → Option R) (c c' : C) (e : M.Env) : op2 o (.own c) (.own c') e = kO2 o e (snap c) (snap c') := by unfold kO2; rfl
end Lb
set_option linter.all false
namespace Mc
structure Mc where
  l : Nat
  tab : List (List (Option Nat))
  ends : List Nat
namespace Mc
def go (m : Mc) (s x : Nat) : Option Nat := ((m.tab[s]?).getD [])[x]?.getD none
def isEnd (m : Mc) (s : Nat) : Bool := m.ends.getD s 0 == 1
def lang (m : Mc) : Nat → List Nat → Bool
  | s, [] => m.isEnd s
  | s, x :: w => match m.go s x with
    | none => false
    | some t => lang m t w
def langO (m : Mc) (o : Option Nat) (w : List Nat) : Bool := match o with
  | none => false
  | some t => m.lang t w
theorem lang_cons (m : Mc) (s x : Nat) (w : List Nat) : m.lang s (x :: w) = m.langO (m.go s x) w := by
  unfold lang langO
  cases m.go s x <;> rfl
def size (m : Mc) : Nat := m.tab.length
structure Ok (m : Mc) : Prop where
  pos : 0 < m.tab.length
  row : ∀ (s : Nat) (r : List (Option Nat)), m.tab[s]? = some r → r.length = m.l
  ent : ∀ (s : Nat) (r : List (Option Nat)) (t : Nat), m.tab[s]? = some r → some t ∈ r → t < m.tab.length
  len : m.ends.length = m.tab.length
  bit : ∀ b ∈ m.ends, b = 0 ∨ b = 1
theorem go_row {m : Mc} {s x : Nat} {r : List (Option Nat)} (h : m.tab[s]? = some r) : m.go s x = r[x]?.getD none := by
  unfold go
  rw [h]
  rfl
def scanRow : Nat → List (Option Nat) → Option Nat
  | k, [] => some k
  | k, none :: r => scanRow k r
  | k, some j :: r => if j < k then scanRow k r else if j = k then scanRow (k + 1) r else none
def scan : Nat → Nat → List (List (Option Nat)) → Option Nat
  | _, k, [] => some k
  | i, k, r :: rs => if i < k then (scanRow k r).bind fun k' => scan (i + 1) k' rs else none
structure Canon (m : Mc) : Prop where
  ok : m.Ok
  scan : scan 0 1 m.tab = some m.tab.length
  live : (∀ s, s < m.tab.length → ∃ w, m.lang s w = true) ∨ (m.tab = [List.replicate m.l none] ∧ m.ends = [0])
  dist : ∀ s t, s < m.tab.length → t < m.tab.length → (∀ w, m.lang s w = m.lang t w) → s = t
def Eqv (c c' : Mc) (i j : Nat) : Prop := ∀ w, c.lang i w = c'.lang j w
def EqvO (c c' : Mc) (i j : Option Nat) : Prop := ∀ w, c.langO i w = c'.langO j w
structure Half (c : Mc) : Prop where
  ok : c.Ok
  live : ∀ s, s < c.tab.length → ∃ w, c.lang s w = true
  dist : ∀ s t, s < c.tab.length → t < c.tab.length → (∀ w, c.lang s w = c.lang t w) → s = t
theorem row_eq {c c' : Mc} (h : Half c) (h' : Half c') : ∀ {r r' : List (Option Nat)} {k k1 k1' : Nat}, r.length = r'.length → (∀ x : Nat, EqvO c c' (r[x]?.getD none) (r'[x]?.getD none)) → (∀ t, some t ∈ r → t < c.tab.length) → (∀ t, some t ∈ r' → t < c'.tab.length) →
    k ≤ c.tab.length → k ≤ c'.tab.length → (∀ j, j < k → Eqv c c' j j) → scanRow k r = some k1 → scanRow k r' = some k1' → r = r' ∧ k1 = k1' ∧ (∀ j, j < k1 → Eqv c c' j j) ∧ k1 ≤ c.tab.length ∧ k1 ≤ c'.tab.length
  | [], [], k, k1, k1', _, _, _, _, b1, b2, e, s1, s2 => by
    simp only [scanRow, Option.some.injEq] at s1 s2
    subst s1 s2
    exact ⟨rfl, rfl, e, b1, b2⟩
  | [], _ :: _, _, _, _, hl, _, _, _, _, _, _, _, _ => by simp at hl
  | _ :: _, [], _, _, _, hl, _, _, _, _, _, _, _, _ => by simp at hl
  | a :: r, a' :: r', k, k1, k1', hl, hx, m1, m2, b1, b2, e, s1, s2 => by
    have h0 : EqvO c c' a a' := by simpa using hx 0
    have hx' : ∀ x : Nat, EqvO c c' (r[x]?.getD none) (r'[x]?.getD none) := fun x => by simpa using hx (x + 1)
    have hl' : r.length = r'.length := by simpa using hl
    have go := fun {k : Nat} (b1 : k ≤ c.tab.length) (b2 : k ≤ c'.tab.length) (e : ∀ j, j < k → Eqv c c' j j) (s1 : scanRow k r = some k1) (s2 : scanRow k r' = some k1') => row_eq h h' hl' hx' (fun t ht => m1 t (List.mem_cons_of_mem _ ht)) (fun t ht => m2 t (List.mem_cons_of_mem _ ht)) b1 b2 e s1 s2
    cases a with
    | none =>
      cases a' with
      | none =>
        obtain ⟨q1, q2, q3⟩ := go b1 b2 e s1 s2
        exact ⟨by rw [q1], q2, q3⟩
      | some t' =>
        exfalso
        obtain ⟨w, hw⟩ := h'.live t' (m2 t' (List.mem_cons_self ..))
        have := h0 w
        simp only [langO] at this
        rw [hw] at this
        cases this
    | some t =>
      have ht := m1 t (List.mem_cons_self ..)
      cases a' with
      | none =>
        exfalso
        obtain ⟨w, hw⟩ := h.live t ht
        have := h0 w
        simp only [langO] at this
        rw [hw] at this
        cases this
      | some t' =>
        have ht' := m2 t' (List.mem_cons_self ..)
        have h0 : Eqv c c' t t' := fun w => h0 w
        simp only [scanRow] at s1 s2
        by_cases c1 : t < k
        · rw [if_pos c1] at s1
          have tt : t = t' := h'.dist t t' (Nat.lt_of_lt_of_le c1 b2) ht' fun w => (e t c1 w).symm.trans (h0 w)
          subst tt
          rw [if_pos c1] at s2
          obtain ⟨q1, q2, q3⟩ := go b1 b2 e s1 s2
          exact ⟨by rw [q1], q2, q3⟩
        · rw [if_neg c1] at s1
          by_cases c2 : t = k
          · rw [if_pos c2] at s1
            by_cases c3 : t' < k
            · have tt : t' = t := h.dist t' t (Nat.lt_of_lt_of_le c3 b1) ht fun w => (e t' c3 w).trans (h0 w).symm
              exact absurd (tt ▸ c3) c1
            · rw [if_neg c3] at s2
              by_cases c4 : t' = k
              · rw [if_pos c4] at s2
                subst c2
                obtain ⟨q1, q2, q3⟩ := go (k := t + 1) ht (by rw [← c4]; exact ht') (fun j hj => by
                  rcases Nat.lt_succ_iff_lt_or_eq.mp hj with hj | hj
                  · exact e j hj
                  · rw [hj]
                    intro w
                    rw [h0 w, c4]) s1 s2
                exact ⟨by rw [q1, c4], q2, q3⟩
              · rw [if_neg c4] at s2; cases s2
          · rw [if_neg c2] at s1; cases s1
theorem scan_eq {c c' : Mc} (h : Half c) (h' : Half c') (hl : c.l = c'.l) : ∀ {rs rs' : List (List (Option Nat))} {i k : Nat}, rs = c.tab.drop i → rs' = c'.tab.drop i → k ≤ c.tab.length → k ≤ c'.tab.length → (∀ j, j < k → Eqv c c' j j) →
    scan i k rs = some c.tab.length → scan i k rs' = some c'.tab.length → rs = rs' ∧ c.tab.length = c'.tab.length ∧ ∀ j, j < c.tab.length → Eqv c c' j j
  | [], [], i, k, _, _, _, _, e, s1, s2 => by
    simp only [scan, Option.some.injEq] at s1 s2
    exact ⟨rfl, by rw [← s1, ← s2], by rw [← s1]; exact e⟩
  | [], r' :: rs', i, k, d1, d2, b1, b2, e, s1, s2 => by
    exfalso
    simp only [scan, Option.some.injEq] at s1 s2
    have l1 : c.tab.length ≤ i := by
      have := congrArg List.length d1
      simp at this
      omega
    split at s2
    · omega
    · cases s2
  | r :: rs, [], i, k, d1, d2, b1, b2, e, s1, s2 => by
    exfalso
    simp only [scan, Option.some.injEq] at s1 s2
    have l1 : c'.tab.length ≤ i := by
      have := congrArg List.length d2
      simp at this
      omega
    split at s1
    · omega
    · cases s1
  | r :: rs, r' :: rs', i, k, d1, d2, b1, b2, e, s1, s2 => by
    simp only [scan] at s1 s2
    split at s1
    · rename_i hi
      rw [if_pos hi] at s2
      have g1 : c.tab[i]? = some r := by
        have := congrArg (·[0]?) d1
        simp at this
        exact this.symm
      have g2 : c'.tab[i]? = some r' := by
        have := congrArg (·[0]?) d2
        simp at this
        exact this.symm
      rw [Option.bind_eq_some_iff] at s1 s2
      obtain ⟨k1, p1, s1⟩ := s1
      obtain ⟨k1', p2, s2⟩ := s2
      obtain ⟨q1, q2, q3, q4, q5⟩ := row_eq h h' (by rw [h.ok.row i r g1, h'.ok.row i r' g2, hl]) (fun x w => by
        have := e i hi (x :: w)
        rw [lang_cons, lang_cons, go_row g1, go_row g2] at this
        exact this) (fun t ht => h.ok.ent i r t g1 ht) (fun t ht => h'.ok.ent i r' t g2 ht) b1 b2 e p1 p2
      subst q1 q2
      have n1 : rs = c.tab.drop (i + 1) := by
        have := congrArg List.tail d1
        simpa using this
      have n2 : rs' = c'.tab.drop (i + 1) := by
        have := congrArg List.tail d2
        simpa using this
      obtain ⟨z1, z2, z3⟩ := scan_eq h h' hl n1 n2 q4 q5 q3 s1 s2
      exact ⟨by rw [z1], z2, z3⟩
    · cases s1
theorem bits_eq {c c' : Mc} (h : c.Ok) (h' : c'.Ok) (hn : c.tab.length = c'.tab.length) (e : ∀ j, j < c.tab.length → c.isEnd j = c'.isEnd j) : c.ends = c'.ends := by
  refine List.ext_getElem? fun j => ?_
  by_cases hj : j < c.tab.length
  · have l1 : j < c.ends.length := by rw [h.len]; exact hj
    have l2 : j < c'.ends.length := by rw [h'.len, ← hn]; exact hj
    have := e j hj
    unfold isEnd at this
    rw [List.getD_eq_getElem?_getD, List.getD_eq_getElem?_getD, List.getElem?_eq_getElem l1, List.getElem?_eq_getElem l2] at this
    rw [List.getElem?_eq_getElem l1, List.getElem?_eq_getElem l2]
    simp only [Option.getD_some] at this
    rcases h.bit _ (List.getElem_mem l1) with a | a <;> rcases h'.bit _ (List.getElem_mem l2) with b | b <;> rw [a, b] at this ⊢ <;> simp at this
  · rw [List.getElem?_eq_none (by rw [h.len]; omega), List.getElem?_eq_none (by rw [h'.len, ← hn]; omega)]
/-- the least machine of a language is one alone -/
theorem Canon.uniq {c c' : Mc} (h : Canon c) (h' : Canon c') (hl : c.l = c'.l) (e : ∀ w, c.lang 0 w = c'.lang 0 w) : c = c' := by
  have dead : ∀ {c : Mc}, c.tab = [List.replicate c.l none] → c.ends = [0] → ∀ w, c.lang 0 w = false := by
    intro c e1 e2 w
    cases w with
    | nil => unfold lang isEnd; rw [e2]; rfl
    | cons x w =>
      rw [lang_cons]
      have : c.go 0 x = none := by
        unfold go
        rw [e1]
        simp [List.getElem?_replicate]
        split <;> rfl
      rw [this]
      rfl
  rcases h.live with lv | ⟨d1, d2⟩
  · rcases h'.live with lv' | ⟨d1', d2'⟩
    · have H : Half c := ⟨h.ok, lv, h.dist⟩
      have H' : Half c' := ⟨h'.ok, lv', h'.dist⟩
      obtain ⟨z1, z2, z3⟩ := scan_eq H H' hl (i := 0) (k := 1) (rs := c.tab) (rs' := c'.tab) (by simp) (by simp) h.ok.pos h'.ok.pos (fun j hj => by
        have : j = 0 := by omega
        subst this
        exact e) h.scan h'.scan
      have e3 := bits_eq h.ok h'.ok z2 fun j hj => z3 j hj []
      cases c
      cases c'
      simp only at hl z1 e3
      subst hl z1 e3
      rfl
    · exfalso
      obtain ⟨w, hw⟩ := lv 0 h.ok.pos
      rw [e w, dead d1' d2' w] at hw
      cases hw
  · rcases h'.live with lv' | ⟨d1', d2'⟩
    · exfalso
      obtain ⟨w, hw⟩ := lv' 0 h'.ok.pos
      rw [← e w, dead d1 d2 w] at hw
      cases hw
    · cases c
      cases c'
      simp only at hl d1 d2 d1' d2'
      subst hl
      rw [d1, d2, d1', d2']
end Mc
end Mc
set_option linter.all false
namespace Mc
section
variable {κ : Type} [DecidableEq κ]
def add (kn : List κ) : Option κ → List κ
  | none => kn
  | some k => if k ∈ kn then kn else kn ++ [k]
def adds (kn : List κ) (keys : List (Option κ)) : List κ := keys.foldl add kn
def num (kn : List κ) (o : Option κ) : Option Nat := o.map fun k => kn.idxOf k
theorem add_pre (kn : List κ) (o : Option κ) : kn <+: add kn o := by
  unfold add
  cases o with
  | none => exact List.prefix_refl _
  | some k =>
    dsimp only
    split
    · exact List.prefix_refl _
    · exact List.prefix_append _ _
theorem adds_pre : ∀ (keys : List (Option κ)) (kn : List κ), kn <+: adds kn keys
  | [], kn => List.prefix_refl _
  | o :: r, kn => (add_pre kn o).trans (adds_pre r (add kn o))
theorem add_nodup {kn : List κ} {o : Option κ} (h : kn.Nodup) : (add kn o).Nodup := by
  unfold add
  cases o with
  | none => exact h
  | some k =>
    dsimp only
    split
    · exact h
    · rename_i c
      exact List.nodup_append.mpr ⟨h, by simp, fun a ha b hb e => c (by rw [List.mem_singleton.mp hb] at e; rw [← e]; exact ha)⟩
theorem adds_nodup : ∀ {keys : List (Option κ)} {kn : List κ}, kn.Nodup → (adds kn keys).Nodup
  | [], _, h => h
  | o :: r, kn, h => adds_nodup (keys := r) (kn := add kn o) (add_nodup h)
theorem add_mem {kn : List κ} {o : Option κ} {x : κ} (h : x ∈ add kn o) : x ∈ kn ∨ o = some x := by
  unfold add at h
  cases o with
  | none => exact .inl h
  | some k =>
    dsimp only at h
    split at h
    · exact .inl h
    · rcases List.mem_append.mp h with h | h
      · exact .inl h
      · rw [List.mem_singleton.mp h]; exact .inr rfl
theorem adds_mem : ∀ {keys : List (Option κ)} {kn : List κ} {x : κ}, x ∈ adds kn keys → x ∈ kn ∨ some x ∈ keys
  | [], _, _, h => .inl h
  | o :: r, kn, x, h => by
    rcases adds_mem (keys := r) (kn := add kn o) h with h | h
    · rcases add_mem h with h | h
      · exact .inl h
      · exact .inr (by rw [h]; exact List.mem_cons_self ..)
    · exact .inr (List.mem_cons_of_mem _ h)
theorem add_has {kn : List κ} {k : κ} : k ∈ add kn (some k) := by
  unfold add
  dsimp only
  split
  · assumption
  · simp
theorem pre_mem {l m : List κ} (h : l <+: m) {x : κ} (hx : x ∈ l) : x ∈ m := h.subset hx
theorem adds_has : ∀ {keys : List (Option κ)} {kn : List κ} {k : κ}, some k ∈ keys → k ∈ adds kn keys
  | o :: r, kn, k, h => by
    rcases List.mem_cons.mp h with h | h
    · subst h
      exact pre_mem (adds_pre r (add kn (some k))) add_has
    · exact adds_has (keys := r) (kn := add kn o) h
theorem idx_at {l : List κ} (h : l.Nodup) {i : Nat} {x : κ} (e : l[i]? = some x) : l.idxOf x = i := by
  induction l generalizing i with
  | nil => simp at e
  | cons a l ih =>
    cases i with
    | zero => simp at e; subst e; simp
    | succ i =>
      have e' : l[i]? = some x := by simpa using e
      have hx : x ∈ l := List.mem_of_getElem? e'
      have ne : a ≠ x := fun z => (List.nodup_cons.mp h).1 (by rw [z]; exact hx)
      rw [List.idxOf_cons, beq_false_of_ne ne]
      simp [ih (List.nodup_cons.mp h).2 e']
theorem at_idx {l : List κ} {x : κ} (hx : x ∈ l) : l[l.idxOf x]? = some x := by
  induction l with
  | nil => cases hx
  | cons a l ih =>
    rw [List.idxOf_cons]
    by_cases e : a = x
    · subst e; simp
    · rw [beq_false_of_ne e]
      rcases List.mem_cons.mp hx with h | h
      · exact absurd h.symm e
      · simpa using ih h
theorem idx_lt {l : List κ} {x : κ} (hx : x ∈ l) : l.idxOf x < l.length := by
  have := at_idx hx
  exact (List.getElem?_eq_some_iff.mp this).1
/-- where -/
def ixOf (l : List κ) (x : κ) : Nat := l.idxOf x
theorem ixOf_at {l : List κ} (h : l.Nodup) {i : Nat} {x : κ} (e : l[i]? = some x) : ixOf l x = i := idx_at h e
theorem at_ixOf {l : List κ} {x : κ} (hx : x ∈ l) : l[ixOf l x]? = some x := at_idx hx
theorem ixOf_lt {l : List κ} {x : κ} (hx : x ∈ l) : ixOf l x < l.length := idx_lt hx
variable (row : κ → List (Option κ))
def known (start : κ) : Nat → List κ
  | 0 => [start]
  | i + 1 => match (known start i)[i]? with
    | some k => adds (known start i) (row k)
    | none => known start i
theorem known_step {start k : κ} {i : Nat} (h : (known row start i)[i]? = some k) : known row start (i + 1) = adds (known row start i) (row k) := by
  show (match (known row start i)[i]? with | some k => _ | none => _) = _
  rw [h]
theorem known_pre (start : κ) : ∀ i, known row start i <+: known row start (i + 1) := fun i => by
  show _ <+: (match (known row start i)[i]? with | some k => _ | none => _)
  cases (known row start i)[i]? with
  | none => exact List.prefix_refl _
  | some k => exact adds_pre _ _
variable {row}
end
/-- classes of states: V the states that count, q their classes (none where no taken word begins), rep one of each class -/
structure Classes (m : Mc) (V : Nat → Prop) (q : Nat → Option Nat) (rep : Nat → Nat) : Prop where
  go : ∀ s x t, V s → m.go s x = some t → V t
  dead : ∀ s, V s → q s = none → ∀ w, m.lang s w = false
  live : ∀ s k, V s → q s = some k → ∃ w, m.lang s w = true
  fin : ∀ s t k, V s → V t → q s = some k → q t = some k → m.isEnd s = m.isEnd t
  step : ∀ s t k x, V s → V t → q s = some k → q t = some k → (m.go s x).bind q = (m.go t x).bind q
  dist : ∀ s t k j, V s → V t → q s = some k → q t = some j → (∀ w, m.lang s w = m.lang t w) → k = j
  rep : ∀ s k, V s → q s = some k → V (rep k) ∧ q (rep k) = some k ∧ rep k < m.tab.length
theorem Classes.same {m : Mc} {V : Nat → Prop} {q : Nat → Option Nat} {rep : Nat → Nat} (C : Classes m V q rep) : ∀ (w : List Nat) (s t k : Nat), V s → V t → q s = some k → q t = some k → m.lang s w = m.lang t w
  | [], s, t, k, h1, h2, h3, h4 => C.fin s t k h1 h2 h3 h4
  | x :: w, s, t, k, h1, h2, h3, h4 => by
    rw [Mc.lang_cons, Mc.lang_cons]
    have st := C.step s t k x h1 h2 h3 h4
    cases e1 : m.go s x with
    | none =>
      rw [e1] at st
      cases e2 : m.go t x with
      | none => rfl
      | some b =>
        rw [e2] at st
        have := C.dead b (C.go t x b h2 e2) (by simpa using st.symm) w
        show false = m.lang b w
        rw [this]
    | some a =>
      rw [e1] at st
      have va := C.go s x a h1 e1
      cases e2 : m.go t x with
      | none =>
        rw [e2] at st
        have := C.dead a va (by simpa using st) w
        show m.lang a w = false
        rw [this]
      | some b =>
        rw [e2] at st
        have vb := C.go t x b h2 e2
        have st : q a = q b := by simpa using st
        show m.lang a w = m.lang b w
        cases qa : q a with
        | none => rw [C.dead a va qa w, C.dead b vb (by rw [← st]; exact qa) w]
        | some j => exact Classes.same C w a b j va vb qa (by rw [← st]; exact qa)
def rowQ (m : Mc) (q : Nat → Option Nat) (rep : Nat → Nat) (k : Nat) : List (Option Nat) := ((m.tab[rep k]?).getD []).map fun e => e.bind q
def bit (b : Bool) : Nat := if b = true then 1 else 0
end Mc
set_option linter.all false
namespace Mc
/-- as many of the one as of the other, each of the one among the other -/
theorem pigeon {α : Type} [DecidableEq α] : ∀ {l1 l2 : List α}, l1.Nodup → (∀ x ∈ l1, x ∈ l2) → l2.length ≤ l1.length → ∀ x ∈ l2, x ∈ l1
  | [], l2, _, _, h, x, hx => by
    have : l2 = [] := List.length_eq_zero_iff.mp (by simpa using h)
    subst this
    cases hx
  | a :: l1, l2, n, s, h, x, hx => by
    obtain ⟨n1, n2⟩ := List.nodup_cons.mp n
    have ha : a ∈ l2 := s a (List.mem_cons_self ..)
    by_cases e : x = a
    · rw [e]; exact List.mem_cons_self ..
    · refine List.mem_cons_of_mem _ (pigeon (l1 := l1) (l2 := l2.erase a) n2 (fun y hy => ?_) ?_ x ?_)
      · have : y ≠ a := fun z => n1 (by rw [← z]; exact hy)
        exact (List.mem_erase_of_ne this).mpr (s y (List.mem_cons_of_mem _ hy))
      · rw [List.length_erase_of_mem ha]
        simp at h
        omega
      · exact (List.mem_erase_of_ne e).mpr hx
theorem sub_len {α : Type} [DecidableEq α] : ∀ {l1 l2 : List α}, l1.Nodup → (∀ x ∈ l1, x ∈ l2) → l1.length ≤ l2.length
  | [], l2, _, _ => Nat.zero_le _
  | a :: l1, l2, n, s => by
    obtain ⟨n1, n2⟩ := List.nodup_cons.mp n
    have ha : a ∈ l2 := s a (List.mem_cons_self ..)
    have ih := sub_len (l1 := l1) (l2 := l2.erase a) n2 (fun y hy => by
      have : y ≠ a := fun z => n1 (by rw [← z]; exact hy)
      exact (List.mem_erase_of_ne this).mpr (s y (List.mem_cons_of_mem _ hy)))
    rw [List.length_erase_of_mem ha] at ih
    have := List.length_pos_of_mem ha
    simp only [List.length_cons]
    omega
/-- the values of f on L are these -/
structure Vals (L : List Nat) (f : Nat → Nat) (vs : List Nat) : Prop where
  nd : vs.Nodup
  at_ : ∀ v ∈ vs, ∃ s ∈ L, f s = v
  all : ∀ s ∈ L, f s ∈ vs
theorem vals_le {L : List Nat} {f g : Nat → Nat} {vf vg : List Nat} (hf : Vals L f vf) (hg : Vals L g vg) (r : ∀ s ∈ L, ∀ t ∈ L, f s = f t → g s = g t) : vg.length ≤ vf.length ∧ (vf.length ≤ vg.length → ∀ s ∈ L, ∀ t ∈ L, g s = g t → f s = f t) := by
  -- one of each g-class
  have : ∀ v, ∃ s, v ∈ vg → s ∈ L ∧ g s = v := fun v => by
    by_cases h : v ∈ vg
    · obtain ⟨s, h1, h2⟩ := hg.at_ v h
      exact ⟨s, fun _ => ⟨h1, h2⟩⟩
    · exact ⟨0, fun z => absurd z h⟩
  let rp : Nat → Nat := fun v => Classical.choose (this v)
  have hr : ∀ v ∈ vg, rp v ∈ L ∧ g (rp v) = v := fun v hv => Classical.choose_spec (this v) hv
  let us := vg.map fun v => f (rp v)
  have nu : us.Nodup := by
    refine List.pairwise_map.mpr ?_
    refine List.Pairwise.imp_of_mem ?_ hg.nd
    intro a b ha hb ne e
    apply ne
    rw [← (hr a ha).2, ← (hr b hb).2]
    exact r _ (hr a ha).1 _ (hr b hb).1 e
  have su : ∀ x ∈ us, x ∈ vf := fun x hx => by
    obtain ⟨v, hv, rfl⟩ := List.mem_map.mp hx
    exact hf.all _ (hr v hv).1
  have lu : us.length = vg.length := List.length_map ..
  refine ⟨by rw [← lu]; exact sub_len nu su, fun h s hs t ht e => ?_⟩
  have all := pigeon nu su (by rw [lu]; exact h)
  obtain ⟨v, hv, e1⟩ := List.mem_map.mp (all _ (hf.all s hs))
  obtain ⟨v', hv', e2⟩ := List.mem_map.mp (all _ (hf.all t ht))
  have g1 : v = g s := by rw [← (hr v hv).2]; exact r _ (hr v hv).1 _ hs e1
  have g2 : v' = g t := by rw [← (hr v' hv').2]; exact r _ (hr v' hv').1 _ ht e2
  rw [← e1, ← e2, g1, g2, e]
def valsOf (L : List Nat) (f : Nat → Nat) : List Nat := adds [] (L.map fun s => some (f s))
theorem valsOf_ok (L : List Nat) (f : Nat → Nat) : Vals L f (valsOf L f) := by
  refine ⟨adds_nodup (by simp), fun v hv => ?_, fun s hs => adds_has (List.mem_map.mpr ⟨s, hs, rfl⟩)⟩
  rcases adds_mem hv with h | h
  · cases h
  · obtain ⟨s, hs, e⟩ := List.mem_map.mp h
    exact ⟨s, hs, by injection e⟩
section
variable (m : Mc) (L : List Nat)
def tgt (f : Nat → Nat) (e : Option Nat) : Int := match e with
  | some t => if t ∈ L then (f t : Int) else -1
  | none => -1
def mark (f : Nat → Nat) (s : Nat) : List Int := (f s : Int) :: ((m.tab[s]?).getD []).map (tgt L f)
def marks (f : Nat → Nat) : List (List Int) := adds [] (L.map fun s => some (mark m L f s))
def ref (f : Nat → Nat) (s : Nat) : Nat := ixOf (marks m L f) (mark m L f s)
variable {m L}
theorem mark_has {f : Nat → Nat} {s : Nat} (hs : s ∈ L) : mark m L f s ∈ marks m L f := adds_has (List.mem_map.mpr ⟨s, hs, rfl⟩)
theorem ref_eq {f : Nat → Nat} {s t : Nat} (hs : s ∈ L) (ht : t ∈ L) : ref m L f s = ref m L f t ↔ mark m L f s = mark m L f t := by
  refine ⟨fun e => ?_, fun e => by unfold ref; rw [e]⟩
  have h1 := at_ixOf (mark_has (m := m) (f := f) hs)
  have h2 := at_ixOf (mark_has (m := m) (f := f) ht)
  unfold ref at e
  rw [e, h2] at h1
  exact (Option.some.inj h1).symm
theorem ref_vals (f : Nat → Nat) : Vals L (ref m L f) (List.range (marks m L f).length) := by
  refine ⟨List.nodup_range, fun v hv => ?_, fun s hs => List.mem_range.mpr (ixOf_lt (mark_has hs))⟩
  have hv := List.mem_range.mp hv
  have hm : (marks m L f)[v]? = some (marks m L f)[v] := List.getElem?_eq_getElem hv
  rcases adds_mem (List.mem_of_getElem? hm) with h | h
  · cases h
  · obtain ⟨s, hs, e⟩ := List.mem_map.mp h
    injection e with e
    exact ⟨s, hs, by
      unfold ref
      rw [e]
      exact ixOf_at (adds_nodup (by simp)) hm⟩
theorem ref_fine {f : Nat → Nat} {s t : Nat} (hs : s ∈ L) (ht : t ∈ L) (e : ref m L f s = ref m L f t) : f s = f t := by
  have := (ref_eq hs ht).mp e
  unfold mark at this
  injection this with h _
  exact Int.ofNat_inj.mp h
theorem marks_len (f : Nat → Nat) : (marks m L f).length ≤ L.length := by
  have h := sub_len (l1 := marks m L f) (l2 := L.map (mark m L f)) (adds_nodup (by simp)) fun x hx => by
    rcases adds_mem hx with h | h
    · cases h
    · obtain ⟨s, hs, e⟩ := List.mem_map.mp h
      injection e with e
      exact List.mem_map.mpr ⟨s, hs, e⟩
  rwa [List.length_map] at h
/-- the live states -/
structure Live (m : Mc) (L : List Nat) (V : Nat → Prop) : Prop where
  go : ∀ s x t, V s → m.go s x = some t → V t
  sub : ∀ s ∈ L, V s ∧ s < m.tab.length
  yes : ∀ s ∈ L, ∃ w, m.lang s w = true
  no : ∀ s, V s → s ∉ L → ∀ w, m.lang s w = false
def qOf (L : List Nat) (f : Nat → Nat) (s : Nat) : Option Nat := if s ∈ L then some (f s) else none
theorem tgt_q (f : Nat → Nat) (a b : Option Nat) : tgt L f a = tgt L f b ↔ a.bind (qOf L f) = b.bind (qOf L f) := by
  have key : ∀ e : Option Nat, tgt L f e = match e.bind (qOf L f) with | some k => (k : Int) | none => -1 := fun e => by
    cases e with
    | none => rfl
    | some t =>
      show (if t ∈ L then _ else _) = match qOf L f t with | some k => _ | none => _
      unfold qOf
      by_cases h : t ∈ L
      · rw [if_pos h, if_pos h]
      · rw [if_neg h, if_neg h]
  rw [key, key]
  refine ⟨fun h => ?_, fun h => by rw [h]⟩
  cases h1 : a.bind (qOf L f) with
  | none =>
    rw [h1] at h
    cases h2 : b.bind (qOf L f) with
    | none => rfl
    | some k => rw [h2] at h; exact absurd h (by show ¬((-1 : Int) = (k : Int)); omega)
  | some j =>
    rw [h1] at h
    cases h2 : b.bind (qOf L f) with
    | none => rw [h2] at h; exact absurd h (by show ¬((j : Int) = (-1 : Int)); omega)
    | some k => rw [h2] at h; rw [Int.ofNat_inj.mp (show ((j : Nat) : Int) = (k : Nat) from h)]
/-- no word tells apart what f doesn't -/
def Coarse (m : Mc) (L : List Nat) (f : Nat → Nat) : Prop := ∀ s ∈ L, ∀ t ∈ L, (∀ w, m.lang s w = m.lang t w) → f s = f t
def Ends (m : Mc) (L : List Nat) (f : Nat → Nat) : Prop := ∀ s ∈ L, ∀ t ∈ L, f s = f t → m.isEnd s = m.isEnd t
def Stable (m : Mc) (L : List Nat) (f : Nat → Nat) : Prop := ∀ s ∈ L, ∀ t ∈ L, f s = f t → ∀ x : Nat, (m.go s x).bind (qOf L f) = (m.go t x).bind (qOf L f)
theorem row_at (m : Mc) (s x : Nat) : m.go s x = (((m.tab[s]?).getD [])[x]?).getD none := rfl
theorem coarse_ref (ok : m.Ok) {V : Nat → Prop} (Lv : Live m L V) {f : Nat → Nat} (h : Coarse m L f) : Coarse m L (ref m L f) := by
  intro s hs t ht e
  refine (ref_eq hs ht).mpr ?_
  unfold mark
  rw [h s hs t ht e]
  congr 1
  obtain ⟨vs, ls⟩ := Lv.sub s hs
  obtain ⟨vt, lt⟩ := Lv.sub t ht
  have r1 := List.getElem?_eq_getElem ls
  have r2 := List.getElem?_eq_getElem lt
  have n1 := ok.row s _ r1
  have n2 := ok.row t _ r2
  refine List.ext_getElem? fun x => ?_
  rw [List.getElem?_map, List.getElem?_map]
  have g1 := row_at m s x
  have g2 := row_at m t x
  rw [r1] at g1 ⊢
  rw [r2] at g2 ⊢
  simp only [Option.getD_some] at g1 g2 ⊢
  by_cases hx : x < m.l
  · have x1 : x < m.tab[s].length := by rw [n1]; exact hx
    have x2 : x < m.tab[t].length := by rw [n2]; exact hx
    rw [List.getElem?_eq_getElem x1] at g1 ⊢
    rw [List.getElem?_eq_getElem x2] at g2 ⊢
    simp only [Option.getD_some] at g1 g2
    simp only [Option.map_some]
    congr 1
    rw [← g1, ← g2, tgt_q]
    have ee : ∀ w, m.langO (m.go s x) w = m.langO (m.go t x) w := fun w => by
      have := e (x :: w)
      rwa [Mc.lang_cons, Mc.lang_cons] at this
    have one : ∀ (a : Option Nat), (∃ u, V u ∧ m.go u x = a) → (a.bind (qOf L f) = none ↔ ∀ w, m.langO a w = false) := fun a ⟨u, vu, ga⟩ => by
      cases a with
      | none => exact ⟨fun _ _ => rfl, fun _ => rfl⟩
      | some c =>
        have vc := Lv.go u x c vu ga
        show qOf L f c = none ↔ ∀ w, m.lang c w = false
        unfold qOf
        by_cases hc : c ∈ L
        · rw [if_pos hc]
          refine ⟨fun z => (by cases z), fun z => ?_⟩
          obtain ⟨w, hw⟩ := Lv.yes c hc
          rw [z w] at hw
          cases hw
        · rw [if_neg hc]
          exact ⟨fun _ => Lv.no c vc hc, fun _ => rfl⟩
    have o1 := one (m.go s x) ⟨s, vs, rfl⟩
    have o2 := one (m.go t x) ⟨t, vt, rfl⟩
    cases q1 : (m.go s x).bind (qOf L f) with
    | none => exact (o2.mpr fun w => by rw [← ee w]; exact o1.mp q1 w).symm
    | some j =>
      cases q2 : (m.go t x).bind (qOf L f) with
      | none =>
        have := o1.mpr fun w => by rw [ee w]; exact o2.mp q2 w
        rw [q1] at this
        cases this
      | some k =>
        rw [Option.bind_eq_some_iff] at q1 q2
        obtain ⟨a, a1, a2⟩ := q1
        obtain ⟨b, b1, b2⟩ := q2
        unfold qOf at a2 b2
        split at a2
        · rename_i ha
          split at b2
          · rename_i hb
            injection a2 with a2
            injection b2 with b2
            rw [← a2, ← b2, h a ha b hb fun w => by
              have := ee w
              rw [a1, b1] at this
              exact this]
          · cases b2
        · cases a2
  · rw [List.getElem?_eq_none (by rw [n1]; omega), List.getElem?_eq_none (by rw [n2]; omega)]
theorem ends_ref {f : Nat → Nat} (h : Ends m L f) : Ends m L (ref m L f) := fun s hs t ht e => h s hs t ht (ref_fine hs ht e)
theorem mark_go {f : Nat → Nat} (hL : ∀ s ∈ L, s < m.tab.length) {s t : Nat} (hs : s ∈ L) (ht : t ∈ L) (e : mark m L f s = mark m L f t) (x : Nat) : (m.go s x).bind (qOf L f) = (m.go t x).bind (qOf L f) := by
  rw [← tgt_q]
  unfold mark at e
  injection e with _ e
  have e := congrArg (fun l => (l[x]?).getD (-1)) e
  simp only [List.getElem?_map] at e
  rw [row_at, row_at]
  cases h1 : ((m.tab[s]?).getD [])[x]? with
  | none =>
    rw [h1] at e
    cases h2 : ((m.tab[t]?).getD [])[x]? with
    | none => rfl
    | some b => rw [h2] at e; exact e
  | some a =>
    rw [h1] at e
    cases h2 : ((m.tab[t]?).getD [])[x]? with
    | none => rw [h2] at e; exact e
    | some b => rw [h2] at e; exact e
/-- no more parts than before: it is stable -/
theorem stable_of {f : Nat → Nat} {vg : List Nat} (hL : ∀ s ∈ L, s < m.tab.length) (hg : Vals L f vg) (h : (marks m L f).length ≤ vg.length) : Stable m L (ref m L f) := by
  have back := (vals_le (ref_vals (m := m) f) hg fun s hs t ht e => ref_fine hs ht e).2 (by rw [List.length_range]; exact h)
  intro s hs t ht e x
  have e1 := mark_go hL hs ht ((ref_eq hs ht).mp e) x
  cases h1 : m.go s x with
  | none =>
    rw [h1] at e1
    cases h2 : m.go t x with
    | none => rfl
    | some b =>
      rw [h2] at e1
      show none = qOf L (ref m L f) b
      have e1 : none = qOf L f b := e1
      unfold qOf at e1 ⊢
      split at e1
      · cases e1
      · rename_i hb; rw [if_neg hb]
  | some a =>
    rw [h1] at e1
    have e1 : qOf L f a = (m.go t x).bind (qOf L f) := e1
    show qOf L (ref m L f) a = _
    cases h2 : m.go t x with
    | none =>
      rw [h2] at e1
      have e1 : qOf L f a = none := e1
      show _ = none
      unfold qOf at e1 ⊢
      split at e1
      · cases e1
      · rename_i hb; rw [if_neg hb]
    | some b =>
      rw [h2] at e1
      have e1 : qOf L f a = qOf L f b := e1
      show _ = qOf L (ref m L f) b
      unfold qOf at e1 ⊢
      by_cases ha : a ∈ L
      · rw [if_pos ha] at e1 ⊢
        by_cases hb : b ∈ L
        · rw [if_pos hb] at e1 ⊢
          injection e1 with e1
          rw [back a ha b hb e1]
        · rw [if_neg hb] at e1; cases e1
      · rw [if_neg ha] at e1 ⊢
        by_cases hb : b ∈ L
        · rw [if_pos hb] at e1; cases e1
        · rw [if_neg hb]
/-- each part is one state: it is stable -/
theorem stable_inj {f : Nat → Nat} (h : ∀ s ∈ L, ∀ t ∈ L, f s = f t → s = t) : Stable m L f := fun s hs t ht e x => by rw [h s hs t ht e]
/-- from the bits on -/
theorem end_bit (ok : m.Ok) (s : Nat) : m.ends.getD s 0 = bit (m.isEnd s) := by
  unfold bit Mc.isEnd
  by_cases h : s < m.ends.length
  · rw [List.getD_eq_getElem?_getD, List.getElem?_eq_getElem h]
    rcases ok.bit _ (List.getElem_mem h) with e | e <;> simp [e]
  · rw [List.getD_eq_getElem?_getD, List.getElem?_eq_none (by omega)]
    rfl
theorem coarse_bits (ok : m.Ok) : Coarse m L fun s => m.ends.getD s 0 := fun s _ t _ e => by
  show m.ends.getD s 0 = m.ends.getD t 0
  rw [end_bit ok, end_bit ok]
  have : m.isEnd s = m.isEnd t := e []
  rw [this]
theorem ends_bits : Ends m L fun s => m.ends.getD s 0 := fun s _ t _ e => by
  unfold Mc.isEnd
  have e : m.ends.getD s 0 = m.ends.getD t 0 := e
  rw [e]
end
end Mc
set_option Elab.async false
set_option linter.all false
set_option maxRecDepth 100000
set_option maxHeartbeats 1000000
namespace Lb
open PySem PyProof.Rows L2 MR M
end Lb
set_option Elab.async false
set_option linter.all false
set_option maxRecDepth 100000
set_option maxHeartbeats 1000000
namespace Lb
open PySem PySem.Spec PyProof.Rows L2 MR M
abbrev Mac := Mc.Mc
def ocD : Option Nat → D
  | none => .non
  | some t => .int (t : Nat)
def rwD (r : List (Option Nat)) : D := .tup (r.map ocD)
def tbD (tab : List (List (Option Nat))) : List D := tab.map rwD
def bsD (e : List Nat) : List D := e.map fun (b : Nat) => .int (b : Int)
def moD (m : Mac) : D := .tup [.int (m.l : Nat), .tup (tbD m.tab), .tup (bsD m.ends)]
structure RowsOk (l n : Nat) (tab : List (List (Option Nat))) : Prop where
  row : ∀ r ∈ tab, r.length = l
  ent : ∀ r ∈ tab, ∀ t, some t ∈ r → t < n
theorem RowsOk.snoc {l n : Nat} {tab : List (List (Option Nat))} {r : List (Option Nat)} (h : RowsOk l n tab) (h1 : r.length = l) (h2 : ∀ t, some t ∈ r → t < n) : RowsOk l n (tab ++ [r]) := by
  refine ⟨fun x hx => ?_, fun x hx => ?_⟩
  · rcases List.mem_append.mp hx with hx | hx
    · exact h.row x hx
    · rw [List.mem_singleton.mp hx]; exact h1
  · rcases List.mem_append.mp hx with hx | hx
    · exact h.ent x hx
    · rw [List.mem_singleton.mp hx]; exact h2
end Lb
set_option Elab.async false
set_option linter.all false
set_option maxRecDepth 100000
set_option maxHeartbeats 1000000
namespace Lb
open PySem PySem.Spec PyProof.Rows L2 MR M
def rowAt (m : Mac) (s : Nat) : List (Option Nat) := (m.tab[s]?).getD []
end Lb
set_option Elab.async false
set_option linter.all false
set_option maxRecDepth 100000
set_option maxHeartbeats 1000000
namespace Lb
open PySem PySem.Spec PyProof.Rows L2 MR M
structure Walk (m : Mac) (V : List Nat) : Prop where
  zero : 0 ∈ V
  nd : V.Nodup
  lt : ∀ s ∈ V, s < m.tab.length
  cl : ∀ s ∈ V, ∀ t, some t ∈ rowAt m s → t ∈ V
  ind : ∀ P : Nat → Prop, P 0 → (∀ s t, P s → some t ∈ rowAt m s → P t) → ∀ s ∈ V, P s
theorem mem_go {m : Mac} {s t : Nat} (h : some t ∈ rowAt m s) : ∃ x, m.go s x = some t := by
  obtain ⟨x, hx⟩ := List.getElem?_of_mem h
  refine ⟨x, ?_⟩
  unfold Mc.Mc.go
  unfold rowAt at hx
  rw [hx]
  rfl
theorem Walk.len {m : Mac} {V : List Nat} (h : Walk m V) : V.length ≤ m.tab.length := by
  have := Mc.sub_len h.nd (l2 := List.range m.tab.length) fun x hx => List.mem_range.mpr (h.lt x hx)
  rwa [List.length_range] at this
theorem live_step {m : Mac} {s t : Nat} (h : some t ∈ rowAt m s) (k : ∃ w, m.lang t w = true) : ∃ w, m.lang s w = true := by
  obtain ⟨x, hx⟩ := mem_go h
  obtain ⟨w, hw⟩ := k
  exact ⟨x :: w, by rw [Mc.Mc.lang_cons, hx]; exact hw⟩
theorem live_end {m : Mac} {s : Nat} (h : m.isEnd s = true) : ∃ w, m.lang s w = true := ⟨[], h⟩
theorem mem_take_succ {α : Type} {r : List α} {j : Nat} {y : α} (h : r[j]? = some y) {x : α} (hx : x ∈ r.take (j + 1)) : x ∈ r.take j ∨ x = y := by
  rw [List.take_add_one, h] at hx
  rcases List.mem_append.mp hx with hx | hx
  · exact .inl hx
  · exact .inr (List.mem_singleton.mp hx)
theorem seen_some {r : List (Option Nat)} {j u : Nat} {P : Nat → Prop} (h : r[j]? = some (some u)) (h4 : ∀ t, some t ∈ r.take j → P t) (hu : P u) : ∀ t, some t ∈ r.take (j + 1) → P t := fun t ht => by
  rcases mem_take_succ h ht with h | h
  · exact h4 t h
  · injection h with h; rw [h]; exact hu
structure WalkI (m : Mac) (F : List Nat) : Prop where
  zero : 0 ∈ F
  nd : F.Nodup
  lt : ∀ s ∈ F, s < m.tab.length
  ind : ∀ P : Nat → Prop, P 0 → (∀ s t, P s → some t ∈ rowAt m s → P t) → ∀ s ∈ F, P s
theorem WalkI.one {m : Mac} (ok : m.Ok) : WalkI m [0] := ⟨by simp, by simp, fun s hs => by rw [List.mem_singleton.mp hs]; exact ok.pos, fun P p0 _ s hs => by rw [List.mem_singleton.mp hs]; exact p0⟩
theorem WalkI.snoc {m : Mac} {F : List Nat} (h : WalkI m F) {t u : Nat} (ht : t ∉ F) (hu : u ∈ F) (st : some t ∈ rowAt m u) (lt : t < m.tab.length) : WalkI m (F ++ [t]) := by
  refine ⟨List.mem_append_left _ h.zero, ?_, fun s hs => ?_, fun P p0 pS s hs => ?_⟩
  · rw [List.nodup_append]
    exact ⟨h.nd, by simp, fun a ha b hb e => by rw [List.mem_singleton.mp hb] at e; exact ht (e ▸ ha)⟩
  · rcases List.mem_append.mp hs with hs | hs
    · exact h.lt s hs
    · rw [List.mem_singleton.mp hs]; exact lt
  · rcases List.mem_append.mp hs with hs | hs
    · exact h.ind P p0 pS s hs
    · rw [List.mem_singleton.mp hs]; exact pS u t (h.ind P p0 pS u hu) st
end Lb
set_option Elab.async false
set_option linter.all false
set_option maxRecDepth 100000
set_option maxHeartbeats 1000000
namespace Lb
open PySem PySem.Spec PyProof.Rows L2 MR M
theorem x_pop (ds : List D) (d : D) : kPop (ds ++ [d]) (ds ++ [d]).getLast? = some (d, ds) := by simp [kPop]
end Lb
set_option Elab.async false
set_option linter.all false
set_option maxRecDepth 100000
set_option maxHeartbeats 1000000
namespace Lb
open PySem PySem.Spec PyProof.Rows L2 MR M
def upd {α : Type} (S : Nat → α) (t : Nat) (x : α) : Nat → α := fun i => if i = t then x else S i
structure Src (m : Mac) (k j : Nat) (S : Nat → List Nat) : Prop where
  is : ∀ s t, s ∈ S t → some t ∈ rowAt m s
  all : ∀ s t, s < k → some t ∈ rowAt m s → s ∈ S t
  cur : ∀ t, some t ∈ (rowAt m k).take j → k ∈ S t
  len : ∀ t, (S t).length ≤ k * 16 + j
theorem Src.put {m : Mac} {k j u : Nat} {S : Nat → List Nat} (h : Src m k j S) (ho : (rowAt m k)[j]? = some (some u)) : Src m k (j + 1) (upd S u (S u ++ [k])) := by
  have mono : ∀ s t, s ∈ S t → s ∈ upd S u (S u ++ [k]) t := fun s t hs => by
    unfold upd
    by_cases e : t = u
    · subst e; rw [if_pos rfl]; exact List.mem_append_left _ hs
    · rw [if_neg e]; exact hs
  refine ⟨fun s t hs => ?_, fun s t hs ht => mono s t (h.all s t hs ht), seen_some ho (fun t ht => mono k t (h.cur t ht)) (by simp [upd]), fun t => ?_⟩
  · unfold upd at hs
    by_cases e : t = u
    · subst e
      rw [if_pos rfl] at hs
      rcases List.mem_append.mp hs with hs | hs
      · exact h.is s t hs
      · rw [List.mem_singleton.mp hs]; exact List.mem_of_getElem? ho
    · rw [if_neg e] at hs; exact h.is s t hs
  · unfold upd
    by_cases e : t = u
    · subst e
      rw [if_pos rfl, List.length_append]
      have := h.len t
      show _ + 1 ≤ _
      omega
    · rw [if_neg e]
      have := h.len t
      omega
theorem row_lt {m : Mac} {s t : Nat} (h : some t ∈ rowAt m s) : s < m.tab.length := by
  by_cases z : s < m.tab.length
  · exact z
  · unfold rowAt at h
    rw [List.getElem?_eq_none (by omega)] at h
    cases h
structure EndI (m : Mac) (E : List Nat) : Prop where
  nd : E.Nodup
  lt : ∀ s ∈ E, s < m.tab.length
  yes : ∀ s ∈ E, ∃ w, m.lang s w = true
  fin : ∀ s, s < m.tab.length → m.isEnd s = true → s ∈ E
theorem EndI.snoc {m : Mac} {E : List Nat} (h : EndI m E) {s t : Nat} (hs : s ∉ E) (ht : t ∈ E) (st : some t ∈ rowAt m s) : EndI m (E ++ [s]) := by
  refine ⟨?_, fun x hx => ?_, fun x hx => ?_, fun x hx he => List.mem_append_left _ (h.fin x hx he)⟩
  · rw [List.nodup_append]
    exact ⟨h.nd, by simp, fun a ha b hb e => by rw [List.mem_singleton.mp hb] at e; exact hs (e ▸ ha)⟩
  · rcases List.mem_append.mp hx with hx | hx
    · exact h.lt x hx
    · rw [List.mem_singleton.mp hx]; exact row_lt st
  · rcases List.mem_append.mp hx with hx | hx
    · exact h.yes x hx
    · rw [List.mem_singleton.mp hx]; exact live_step st (h.yes t ht)
end Lb
set_option Elab.async false
set_option linter.all false
set_option maxRecDepth 100000
set_option maxHeartbeats 1000000
namespace Lb
open PySem PySem.Spec PyProof.Rows L2 MR M
end Lb
set_option Elab.async false
set_option linter.all false
set_option maxRecDepth 100000
set_option maxHeartbeats 1000000
namespace Lb
open PySem PySem.Spec PyProof.Rows L2 MR M
structure LiveSt (m : Mac) (V L : List Nat) : Prop where
  W : Walk m V
  nd : L.Nodup
  live : Mc.Live m L (· ∈ V)
structure GoodI (m : Mac) (V G : List Nat) : Prop where
  nd : G.Nodup
  sub : ∀ s ∈ G, s ∈ V
  yes : ∀ s ∈ G, ∃ w, m.lang s w = true
  fin : ∀ s ∈ V, m.isEnd s = true → s ∈ G
theorem GoodI.start {m : Mac} {V : List Nat} (W : Walk m V) : GoodI m V (V.filter fun s => m.isEnd s) :=
  ⟨W.nd.filter _, fun s hs => (List.mem_filter.mp hs).1, fun s hs => live_end (List.mem_filter.mp hs).2, fun s hs he => List.mem_filter.mpr ⟨hs, he⟩⟩
end Lb
set_option Elab.async false
set_option linter.all false
set_option maxRecDepth 100000
set_option maxHeartbeats 1000000
namespace Lb
open PySem PySem.Spec PyProof.Rows L2 MR M
theorem take_at {α : Type} {L : List α} {k : Nat} {s : α} (h : L[k]? = some s) : L.take (k + 1) = L.take k ++ [s] := by
  rw [List.take_add_one, h]
  rfl
end Lb
set_option Elab.async false
set_option linter.all false
set_option maxRecDepth 100000
set_option maxHeartbeats 1000000
namespace Lb
open PySem PySem.Spec PyProof.Rows L2 MR M
/-- what parted keeps: f the parts, n how many, many how many before -/
structure PartI (m : Mac) (L : List Nat) (f : Nat → Nat) (n : Nat) (many : Int) : Prop where
  co : Mc.Coarse m L f
  en : Mc.Ends m L f
  vals : ∃ vs, Mc.Vals L f vs ∧ vs.length = n
  le : n ≤ L.length
  lo : -1 ≤ many
  st : (n : Int) ≤ many → Mc.Stable m L f
theorem PartI.start {m : Mac} (ok : m.Ok) (L : List Nat) : PartI m L (fun s => m.ends.getD s 0) (Mc.valsOf L fun s => m.ends.getD s 0).length (-1) :=
  ⟨Mc.coarse_bits ok, Mc.ends_bits, ⟨_, Mc.valsOf_ok _ _, rfl⟩, by
    have v := Mc.valsOf_ok L fun s => m.ends.getD s 0
    have := Mc.sub_len (l2 := L.map fun s => m.ends.getD s 0) v.nd fun x hx => by
      obtain ⟨s, hs, e⟩ := v.at_ x hx
      exact List.mem_map.mpr ⟨s, hs, e⟩
    rwa [List.length_map] at this, Int.le_refl _, fun h => by omega⟩
end Lb
set_option Elab.async false
set_option linter.all false
set_option maxRecDepth 100000
set_option maxHeartbeats 1000000
namespace Lb
open PySem PySem.Spec PyProof.Rows L2 MR M
def nD (K : List Nat) : Nat → D := fun k => .int ((Mc.ixOf K k : Nat) : Int)
def gC (l : Nat) (K : List Nat) (T : List (List (Option Nat))) (E : List Nat) : C := .obj 17 [(15, .dat (.int (l : Nat))), (21, .dic false (cI K (nD K))), (22, .lst ((bsD K).map .dat)), (23, .lst ((tbD T).map .dat)), (24, .lst ((bsD E).map .dat))]
end Lb
set_option Elab.async false
set_option linter.all false
set_option maxRecDepth 100000
set_option maxHeartbeats 1000000
namespace Lb
open PySem PySem.Spec PyProof.Rows L2 MR M
section
variable (row : Nat → List (Option Nat)) (start : Nat)
def Kn (i : Nat) : List Nat := Mc.known row start i
structure GrowI (i : Nat) : Prop where
  ge : ∀ j, j < i → j < (Kn row start j).length
  cl : ∀ k ∈ (Kn row start i).take i, ∀ x, some x ∈ row k → x ∈ Kn row start i
variable {row start}
theorem GrowI.zero : GrowI row start 0 := ⟨fun j h => absurd h (Nat.not_lt_zero _), fun k h => by simp at h⟩
theorem take_pre {K K' : List Nat} (h : K <+: K') {i k : Nat} (hk : K[i]? = some k) : K'.take (i + 1) = K.take i ++ [k] := by
  obtain ⟨t, rfl⟩ := h
  have := (List.getElem?_eq_some_iff.mp hk).1
  rw [List.take_append_of_le_length (by omega), take_at hk]
theorem Kn_step {i k : Nat} (h : (Kn row start i)[i]? = some k) : Kn row start (i + 1) = Mc.adds (Kn row start i) (row k) := Mc.known_step row h
theorem GrowI.step {i k : Nat} (g : GrowI row start i) (h : (Kn row start i)[i]? = some k) : GrowI row start (i + 1) := by
  have p : Kn row start i <+: Kn row start (i + 1) := Mc.known_pre row start i
  refine ⟨fun j hj => ?_, fun k' hk' x hx => ?_⟩
  · by_cases e : j = i
    · rw [e]; exact (List.getElem?_eq_some_iff.mp h).1
    · exact g.ge j (by omega)
  · rw [take_pre p h] at hk'
    rcases List.mem_append.mp hk' with hk' | hk'
    · exact p.subset (g.cl k' hk' x hx)
    · rw [List.mem_singleton.mp hk'] at hx
      rw [Kn_step h]
      exact Mc.adds_has hx
end
def rep (L : List Nat) (f : Nat → Nat) (k : Nat) : Nat := (L.find? fun s => f s == k).getD 0
end Lb
set_option Elab.async false
set_option linter.all false
set_option maxRecDepth 100000
set_option maxHeartbeats 1000000
namespace Lb
open PySem PySem.Spec PyProof.Rows L2 MR M
end Lb
set_option Elab.async false
set_option linter.all false
set_option maxRecDepth 100000
set_option maxHeartbeats 1000000
namespace Lb
open PySem PySem.Spec PyProof.Rows L2 MR M
/-- small marks -/
def Sm (w : List Int) : Prop := w ≠ [] ∧ w.length ≤ 17 ∧ ∀ x ∈ w, x.natAbs < 1000000
def igD (n : Nat) (g : Nat → Int) : List D := (List.range n).map fun s => .int (g s)
end Lb
set_option Elab.async false
set_option linter.all false
set_option maxRecDepth 100000
set_option maxHeartbeats 1000000
namespace Lb
open PySem PySem.Spec PyProof.Rows L2 MR M
structure LawP (m : Mac) (L : List Nat) (f : Nat → Nat) (many k : Nat) : Prop where
  co : Mc.Coarse m L f
  en : Mc.Ends m L f
  sm : ∀ s ∈ L, f s < 1000000
  ge : k ≤ many
  vs : many = 0 ∨ ∃ vs, Mc.Vals L f vs ∧ vs.length = many
structure FinP (m : Mac) (L : List Nat) (f : Nat → Nat) : Prop where
  co : Mc.Coarse m L f
  en : Mc.Ends m L f
  sm : ∀ s ∈ L, f s < 1000000
  st : Mc.Stable m L f
theorem LawP.start {m : Mac} (ok : m.Ok) (L : List Nat) : LawP m L (fun s => m.ends.getD s 0) 0 0 :=
  ⟨Mc.coarse_bits ok, Mc.ends_bits, fun s _ => by
    show m.ends.getD s 0 < _
    rw [Mc.end_bit ok]
    unfold Mc.bit
    split <;> omega, Nat.le_refl _, .inl rfl⟩
theorem ref_sm {m : Mac} {L : List Nat} {f : Nat → Nat} (hl : L.length ≤ 100) : ∀ s ∈ L, Mc.ref m L f s < 1000000 := fun s hs => by
  have h1 := Mc.ixOf_lt (Mc.mark_has (m := m) (f := f) hs)
  have h2 := Mc.marks_len (m := m) (L := L) f
  unfold Mc.ref
  omega
theorem marks_pos {m : Mac} {L : List Nat} {f : Nat → Nat} {s : Nat} (hs : s ∈ L) : 0 < (Mc.marks m L f).length := List.length_pos_of_mem (Mc.mark_has hs)
theorem LawP.stop {m : Mac} (ok : m.Ok) {V L : List Nat} (S : LiveSt m V L) {f : Nat → Nat} {many k s : Nat} (hs : s ∈ L) (hl : L.length ≤ 100) (h : LawP m L f many k) (e : (Mc.marks m L f).length = many) : FinP m L (Mc.ref m L f) := by
  refine ⟨Mc.coarse_ref ok S.live h.co, Mc.ends_ref h.en, ref_sm hl, ?_⟩
  have p := marks_pos (m := m) (f := f) hs
  rcases h.vs with v | ⟨vs, v1, v2⟩
  · omega
  · exact Mc.stable_of (fun s hs => (S.live.sub s hs).2) v1 (by omega)
theorem LawP.go {m : Mac} (ok : m.Ok) {V L : List Nat} (S : LiveSt m V L) {f : Nat → Nat} {many k s : Nat} (hs : s ∈ L) (hl : L.length ≤ 100) (h : LawP m L f many k) (e : (Mc.marks m L f).length ≠ many) : LawP m L (Mc.ref m L f) (Mc.marks m L f).length (k + 1) := by
  refine ⟨Mc.coarse_ref ok S.live h.co, Mc.ends_ref h.en, ref_sm hl, ?_, .inr ⟨_, Mc.ref_vals f, List.length_range⟩⟩
  have p := marks_pos (m := m) (f := f) hs
  have g := h.ge
  rcases h.vs with v | ⟨vs, v1, v2⟩
  · omega
  · have := (Mc.vals_le (Mc.ref_vals (m := m) f) v1 fun s hs t ht e => Mc.ref_fine hs ht e).1
    rw [List.length_range] at this
    omega
theorem LawP.all {m : Mac} {V L : List Nat} (S : LiveSt m V L) {f : Nat → Nat} {many s : Nat} (hs : s ∈ L) (h : LawP m L f many L.length) : FinP m L f := by
  refine ⟨h.co, h.en, h.sm, ?_⟩
  have p := List.length_pos_of_mem hs
  have g := h.ge
  rcases h.vs with v | ⟨vs, v1, v2⟩
  · omega
  · have hid : Mc.Vals L id L := ⟨S.nd, fun v hv => ⟨v, hv, rfl⟩, fun s hs => hs⟩
    have := (Mc.vals_le hid v1 fun s _ t _ e => by rw [show s = t from e]).2 (by omega)
    exact Mc.stable_inj fun s hs t ht e => this s hs t ht e
def kRow : MS := (mDrop (mLm true lAppend (mVar 15) (mCons (mCB (one bTuple) (mCons (mLc (mISeq (mFz (mIx true (mVar 2) (mVar 9)))) (gNm 14) mYes (mFz (mIfE (mB (mInA false (mVar 14) (mVar 3))) (mIndex (mVar 12) (mFz (mIx true (mVar 4) (mVar 14)))) (mC .non))) [14]) mNil)) mNil)))
end Lb
set_option Elab.async false
set_option linter.all false
set_option maxRecDepth 100000
set_option maxHeartbeats 1000000
namespace Lb
open PySem PySem.Spec PyProof.Rows L2 MR M
def TE (m : Mac) (L : List Nat) (g : Nat → Int) (c5 c6 c7 c8 c9 c10 : C) (O N : List Nat) (c13 c14 : C) : M.Env := [C.dat (moD m), .dat (.int (m.l : Nat)), .dat (.tup (tbD m.tab)), .dat (.lst (bsD L)), .dat (.lst (igD m.tab.length g)), c5, c6, c7, c8, c9, c10, .lst ((bsD O).map .dat), .lst ((bsD N).map .dat), c13, c14, .non]
abbrev kR (m : Mac) (L : List Nat) (f : Nat → Nat) : Nat → List (Option Nat) := Mc.rowQ m (Mc.qOf L f) (rep L f)
def TI (m : Mac) (L : List Nat) (f : Nat → Nat) (g : Nat → Int) (c5 c6 c7 c8 c9 c10 : C) (k : Nat) (e : M.Env) : Prop := ∃ i O c13 c14, c14.own = false ∧ GrowI (kR m L f) (f 0) i ∧ O.map f = Kn (kR m L f) (f 0) i ∧ (∀ s ∈ O, s ∈ L) ∧ i ≤ k ∧ (i = k ∨ (Kn (kR m L f) (f 0) i).length = i) ∧ e = TE m L g c5 c6 c7 c8 c9 c10 O (Kn (kR m L f) (f 0) i) c13 c14
end Lb
set_option Elab.async false
set_option linter.all false
set_option maxRecDepth 100000
set_option maxHeartbeats 1000000
namespace Lb
open PySem PySem.Spec PyProof.Rows L2 MR M
end Lb
set_option Elab.async false
set_option linter.all false
set_option maxRecDepth 100000
set_option maxHeartbeats 1000000
namespace MR
open PySem PySem.Spec PyProof.Rows L2
end MR
namespace M
open PySem PySem.Spec PyProof.Rows L2 MR
end M
set_option Elab.async false
set_option linter.all false
set_option maxRecDepth 100000
set_option maxHeartbeats 1000000
namespace M
open PySem PySem.Spec PyProof.Rows L2 MR
end M
set_option Elab.async false
set_option linter.all false
set_option maxRecDepth 100000
set_option maxHeartbeats 1000000
namespace MR
open PySem PySem.Spec PyProof.Rows L2
end MR
namespace M
open PySem PySem.Spec PyProof.Rows L2 MR
end M
set_option Elab.async false
set_option linter.all false
set_option maxRecDepth 100000
set_option maxHeartbeats 1000000
namespace M
open PySem PySem.Spec PyProof.Rows L2 MR
end M
set_option Elab.async false
set_option linter.all false
set_option maxRecDepth 100000
set_option maxHeartbeats 1000000
namespace MR
open PySem PySem.Spec PyProof.Rows L2
end MR
namespace M
open PySem PySem.Spec PyProof.Rows L2 MR
end M
set_option Elab.async false
set_option linter.all false
set_option maxRecDepth 100000
set_option maxHeartbeats 1000000
namespace M
open PySem PySem.Spec PyProof.Rows L2 MR
end M
set_option Elab.async false
set_option linter.all false
set_option maxRecDepth 100000
set_option maxHeartbeats 1000000
namespace MR
open PySem PySem.Spec PyProof.Rows L2
def lexI : List Int → List Int → Bool
  | [], [] => false
  | [], _ :: _ => true
  | _ :: _, [] => false
  | x :: r, y :: t => decide (x < y) || (!decide (y < x) && lexI r t)
theorem vals_refs : ∀ {ts : List Addr} {us : List Value}, Vals (ts.map V.ref) us → us = ts.map Value.ref
  | [], _, r => by cases r; rfl
  | t :: ts, _, r => by
    cases r with
    | cons a b =>
      cases a
      rw [vals_refs b]
      rfl
variable {X : Cx}
end MR
namespace M
open PySem PySem.Spec PyProof.Rows L2 MR
def leX : List Int → List Int → Bool
  | [], _ => true
  | _ :: _, [] => false
  | x :: r, y :: t => decide (x < y) || (decide (x = y) && leX r t)
theorem leX_lex : ∀ a b : List Int, leX a b = !lexI b a
  | [], [] => rfl
  | [], _ :: _ => rfl
  | _ :: _, [] => rfl
  | x :: r, y :: t => by
    unfold leX lexI
    rw [leX_lex r t, Bool.eq_iff_iff]
    simp only [Bool.or_eq_true, Bool.and_eq_true, decide_eq_true_eq, Bool.not_eq_true', Bool.or_eq_false_iff, decide_eq_false_iff_not, Bool.and_eq_false_imp, Bool.not_eq_true', decide_eq_false_iff_not]
    constructor
    · rintro (h | ⟨h1, h2⟩)
      · exact ⟨by omega, fun z => by omega⟩
      · exact ⟨by omega, fun _ => h2⟩
    · rintro ⟨h1, h2⟩
      by_cases z : x < y
      · exact .inl z
      · exact .inr ⟨by omega, h2 (by omega)⟩
theorem leX_total : ∀ a b : List Int, (leX a b || leX b a) = true
  | [], _ => rfl
  | _ :: _, [] => rfl
  | x :: r, y :: t => by
    have := leX_total r t
    unfold leX
    simp only [Bool.or_eq_true, Bool.and_eq_true, decide_eq_true_eq] at this ⊢
    by_cases z : x < y
    · exact .inl (.inl z)
    · by_cases w : y < x
      · exact .inr (.inl w)
      · have e : x = y := by omega
        exact this.imp (fun h => .inr ⟨e, h⟩) fun h => .inr ⟨e.symm, h⟩
theorem leX_trans : ∀ a b c : List Int, leX a b = true → leX b c = true → leX a c = true
  | [], _, _, _, _ => rfl
  | _ :: _, [], _, h, _ => by cases h
  | _ :: _, _ :: _, [], _, h => by cases h
  | x :: r, y :: t, z :: u, h1, h2 => by
    have ih := leX_trans r t u
    unfold leX at h1 h2 ⊢
    simp only [Bool.or_eq_true, Bool.and_eq_true, decide_eq_true_eq] at h1 h2 ⊢
    rcases h1 with h1 | ⟨h1, k1⟩ <;> rcases h2 with h2 | ⟨h2, k2⟩
    · exact .inl (by omega)
    · exact .inl (by omega)
    · exact .inl (by omega)
    · exact .inr ⟨by omega, ih k1 k2⟩
theorem leX_anti : ∀ a b : List Int, leX a b = true → leX b a = true → a = b
  | [], [], _, _ => rfl
  | [], _ :: _, _, h => by cases h
  | _ :: _, [], h, _ => by cases h
  | x :: r, y :: t, h1, h2 => by
    have ih := leX_anti r t
    unfold leX at h1 h2
    simp only [Bool.or_eq_true, Bool.and_eq_true, decide_eq_true_eq] at h1 h2
    rcases h1 with h1 | ⟨h1, k1⟩
    · rcases h2 with h2 | ⟨h2, k2⟩ <;> omega
    · rcases h2 with h2 | ⟨h2, k2⟩
      · omega
      · rw [h1, ih k1 k2]
def rowsOf : List D → Option (List (List Int))
  | [] => some []
  | .tup es :: ds => (intsOf es).bind fun k => (rowsOf ds).map (k :: ·)
  | _ :: _ => none
def tupI (k : List Int) : D := .tup (k.map D.int)
theorem rowsOf_eq : ∀ {ds : List D} {ks : List (List Int)}, rowsOf ds = some ks → ds = ks.map tupI
  | [], ks, h => by simp [rowsOf] at h; subst h; rfl
  | .tup es :: ds, ks, h => by
    simp only [rowsOf, Option.bind_eq_some_iff, Option.map_eq_some_iff] at h
    obtain ⟨k, h1, ks2, h2, rfl⟩ := h
    rw [List.map_cons, ← rowsOf_eq h2, ints_eq h1]
    rfl
  | .non :: _, _, h => by cases h
  | .bl _ :: _, _, h => by cases h
  | .int _ :: _, _, h => by cases h
  | .str _ :: _, _, h => by cases h
  | .lst _ :: _, _, h => by cases h
  | .src _ :: _, _, h => by cases h
  | .dic _ _ :: _, _, h => by cases h
  | .ndc _ :: _, _, h => by cases h
  | .ins _ _ :: _, _, h => by cases h
  | .ty _ :: _, _, h => by cases h
  | .cls _ :: _, _, h => by cases h
  | .fn _ :: _, _, h => by cases h
def adrV : V → Addr
  | .ref a => a
  | _ => 0
def intV : V → Int
  | .int i => i
  | _ => 0
def keyH (H : Hp) (t : Addr) : List Int := match H t with
  | some (.tup xs) => xs.map intV
  | _ => []
theorem rows_adr {T : Tb} {H : Hp} : ∀ {vs : List V} {ks : List (List Int)}, DdAll T H vs (ks.map tupI) → vs = (vs.map adrV).map V.ref ∧ (∀ t ∈ vs.map adrV, H t = some (.tup ((keyH H t).map V.int))) ∧ (vs.map adrV).map (keyH H) = ks
  | [], [], _ => ⟨rfl, (fun t h => nomatch h), rfl⟩
  | v :: vs, [], h => by cases h
  | [], k :: ks, h => by cases h
  | v :: vs, k :: ks, h => by
    cases h with
    | cons h1 h2 =>
      obtain ⟨i1, i2, i3⟩ := rows_adr h2
      cases h1 with
      | @tup a xs ds e g =>
        have gx := g.ints
        have kh : keyH H a = k := by
          unfold keyH
          rw [e]
          dsimp only
          rw [gx, List.map_map]
          exact List.map_id k
        refine ⟨?_, fun t ht => ?_, ?_⟩
        · rw [List.map_cons, List.map_cons, ← i1]
          rfl
        · rcases List.mem_cons.mp ht with z | z
          · rw [z]
            show H a = some (.tup ((keyH H a).map V.int))
            rw [kh, e, gx]
          · exact i2 t z
        · rw [List.map_cons, List.map_cons, i3]
          show keyH H a :: ks = _
          rw [kh]
end M
set_option Elab.async false
set_option linter.all false
set_option maxRecDepth 100000
set_option maxHeartbeats 1000000
namespace M
open PySem PySem.Spec PyProof.Rows L2 MR RZ
end M
set_option Elab.async false
set_option linter.all false
set_option maxRecDepth 100000
set_option maxHeartbeats 1000000
namespace M
open PySem PySem.Spec PyProof.Rows L2 MR
end M
set_option Elab.async false
set_option linter.all false
set_option maxRecDepth 100000
set_option maxHeartbeats 1000000
namespace MR
open PySem PySem.Spec PyProof.Rows L2
def tk (k : List Int) : PySem.W.Tup Int := ⟨k⟩
theorem lt_tk (a b : List Int) : PySem.W.DatumOrd.lt (tk a) (tk b) = lexI a b := by
  show PySem.W.listLt a b = lexI a b
  induction a generalizing b with
  | nil => cases b <;> rfl
  | cons x r ih =>
    cases b with
    | nil => rfl
    | cons y t =>
      unfold PySem.W.listLt lexI
      rw [ih t]
      show (if x = y then lexI r t else decide (x < y)) = _
      by_cases e : x = y
      · rw [if_pos e, decide_eq_false (show ¬ x < y by omega), decide_eq_false (show ¬ y < x by omega)]
        rfl
      · rw [if_neg e]
        by_cases l : x < y
        · rw [decide_eq_true l]
          rfl
        · rw [decide_eq_false l, decide_eq_true (show y < x by omega)]
          rfl
def minX : List (List Int) → List Int
  | [] => []
  | x :: r => r.foldl (fun a y => if lexI y a = true then y else a) x
theorem minOf_tk (x : List Int) (r : List (List Int)) : PySem.W.minOf (tk x) (r.map tk) = tk (minX (x :: r)) := by
  unfold PySem.W.minOf minX
  induction r generalizing x with
  | nil => rfl
  | cons y r ih =>
    rw [List.map_cons, List.foldl_cons, lt_tk]
    show List.foldl _ _ (r.map tk) = tk (r.foldl (fun a y => if lexI y a = true then y else a) (if lexI y x = true then y else x))
    cases lexI y x
    · exact ih x
    · exact ih y
variable {X : Cx}
theorem holds_tk {K : PySem.W.Frag} {pins : List (Addr × Obj)} {σ : L2.St} {H : Hp} {s : Shared} (hK : X.K = K) (I : Inv X pins σ H s) {t : Addr} {k : List Int} (h : SqT X.K H t (k.map V.int)) : PySem.W.Holds s.heap (.ref t) (tk k) := by
  obtain ⟨ws, w1, ⟨o, ho, hc, n, hd⟩, _⟩ := I.tuple h
  have hi := w1.ints
  have all : ∀ {ws : List Value} {k : List Int}, IntsAre ws k → ReadsAll s.heap ws (k.map PyData.int) [] := fun {ws k} h => by
    induction h with
    | nil => exact .nil
    | cons n t r ih => exact ReadsAll.cons (.int _ _) ih
  exact ⟨_, .tuple ho hc hd (show ReadsAll s.heap ws.toArray.toList (k.map PyData.int) [] from by simpa using all hi)⟩
theorem minT (hc : X.calm = true) (hu : X.A.units + 64 < cLine) : CallR X (.builtin "min") (fun xs H Q => ∃ (a : Addr) (ts : List Addr) (key : Addr → List Int), xs = [.ref a] ∧ SqL X.K H a (ts.map V.ref) ∧ (∀ t ∈ ts, SqT X.K H t ((key t).map V.int)) ∧ ts ≠ [] ∧
    ∀ t ∈ ts, key t = minX (ts.map key) → Q (.ref t) H) := by
  intro pins s σ H xs us Q I r ⟨a, ts, key, ex, hd, hk, ne, q⟩
  subst ex
  obtain ⟨u, rfl, rx⟩ := vals1 r
  cases rx
  obtain ⟨its, rv, hl, lz⟩ := I.list hd
  have eits := vals_refs rv
  subst eits
  cases ts with
  | nil => exact absurd rfl ne
  | cons t0 ts =>
    have hold : PySem.W.HoldAll s.heap ((t0 :: ts).map Value.ref) (tk (key t0) :: (ts.map key).map tk) := by
      have : ∀ l : List Addr, (∀ t ∈ l, SqT X.K H t ((key t).map V.int)) → ∃ as, ReadsAll s.heap (l.map Value.ref) (((l.map key).map tk).map PySem.W.Datum.toD) as := fun l => by
        induction l with
        | nil => exact fun _ => ⟨_, .nil⟩
        | cons t l ih =>
          intro h
          obtain ⟨as, r1⟩ := ih fun u hu => h u (List.mem_cons_of_mem _ hu)
          obtain ⟨bs, r2⟩ := holds_tk rfl I (h t (List.mem_cons_self ..))
          exact ⟨_, .cons r2 r1⟩
      exact this (t0 :: ts) hk
    refine PySem.W.min_list_datum (I.ok.hd hc) hl.isList (by simpa using hold) (by show X.A.units + 1 + 1 < cLine; omega) fun i v h' tkk hi hh hkp => ?_
    have hm : v ∈ (t0 :: ts).map Value.ref := by
      have := List.mem_of_getElem? (by simpa using hi)
      exact this
    obtain ⟨t, ht, rfl⟩ := List.mem_map.mp hm
    refine ⟨.ref t, H, I.kept hkp, rfl, q t ht ?_⟩
    rw [← List.map_map, minOf_tk] at hh
    obtain ⟨as, r1⟩ := hh
    obtain ⟨bs, r2⟩ := PySem.W.Holds.keeps hkp (holds_tk rfl I (hk t ht))
    have e : PyData.tuple ((key t).map PyData.int) = PyData.tuple ((minX (key t0 :: ts.map key)).map PyData.int) := (PyProof.Rows.reads_det (fun _ _ e _ => e) r1 r2).1
    injection e with e
    have inj : ∀ a b : List Int, a.map PyData.int = b.map PyData.int → a = b := fun a => by
      induction a with
      | nil => intro b h; cases b with | nil => rfl | cons _ _ => cases h
      | cons x a ih =>
        intro b h
        cases b with
        | nil => cases h
        | cons y b =>
          rw [List.map_cons, List.map_cons] at h
          injection h with h1 h2
          injection h1 with h1
          rw [h1, ih b h2]
    exact inj _ _ e
end MR
namespace M
open PySem PySem.Spec PyProof.Rows L2 MR
def bMin : D → Option R
  | .lst ds => (rowsOf ds).bind fun ks => if ks.isEmpty = true then none else some (.dat (tupI (minX ks)))
  | _ => none
section
variable {T : Tb} {K : PySem.W.Frag}
theorem rd_minT (hK : T.K = K) : RdC T (fun xs H Q => ∃ (a : Addr) (ts : List Addr) (key : Addr → List Int), xs = [.ref a] ∧ SqL K H a (ts.map V.ref) ∧ (∀ t ∈ ts, SqT K H t ((key t).map V.int)) ∧ ts ≠ [] ∧
    ∀ t ∈ ts, key t = minX (ts.map key) → Q (.ref t) H) (one bMin) := fun H0 H xs ds res s h o Q q => by
  subst hK
  obtain ⟨x, d, rfl, rfl, hx, o⟩ := h.one o
  unfold bMin at o
  split at o
  · rw [Option.bind_eq_some_iff] at o
    obtain ⟨ks, e1, o⟩ := o
    split at o
    · cases o
    rename_i ne
    injection o with o
    subst o
    obtain ⟨a, vs, rfl, h1, h2⟩ := hx.lst_inv s
    rw [rowsOf_eq e1] at h2
    obtain ⟨i1, i2, i3⟩ := rows_adr h2
    refine ⟨a, vs.map adrV, keyH H0, rfl, by rw [← i1]; exact SqL.of h1, fun t ht => SqT.of (s t _ (i2 t ht)), fun z => ne ?_, fun t ht e => ?_⟩
    · rw [z] at i3
      rw [← i3]
      rfl
    · rw [i3] at e
      rw [← e] at q
      exact q _ H0 H (.refl s) (.tup (i2 t ht) DdAll.of_ints)
  · cases o
end
section
variable {X : Cx} {W : Wo}
theorem jc_minT (hc : X.calm = true := by rfl) (hu : X.A.units + 64 < cLine) (hK : W.T.K = X.K := by rfl) : JC X W (.builtin "min") (one bMin) := ⟨_, MR.minT hc hu, rd_minT hK⟩
theorem jc_minB (hc : X.calm = true) (c : Bd X W) : JC X W (.builtin "min") (one bMin) := jc_minT hc (by have := c.un; omega) c.K
end
end M
set_option Elab.async false
set_option linter.all false
set_option maxRecDepth 100000
set_option maxHeartbeats 1000000
namespace Lb
open PySem PySem.Spec PyProof.Rows L2 MR M
/-- all letters in range -/
def Wd (u w : List Int) : Prop := ∀ x ∈ w, 0 ≤ x ∧ x < (u.length : Int)
theorem Wd.app {u a b : List Int} (h : Wd u a) (k : Wd u b) : Wd u (a ++ b) := fun x hx => (List.mem_append.mp hx).elim (h x) (k x)
theorem Wd.left {u a b : List Int} (h : Wd u (a ++ b)) : Wd u a := fun x hx => h x (List.mem_append_left _ hx)
theorem Wd.right {u a b : List Int} (h : Wd u (a ++ b)) : Wd u b := fun x hx => h x (List.mem_append_right _ hx)
theorem Wd.one {u : List Int} {x : Int} (h : 0 ≤ x ∧ x < (u.length : Int)) : Wd u [x] := fun y hy => by rw [List.mem_singleton.mp hy]; exact h
theorem Wd.cons {u w : List Int} {x : Int} (h : 0 ≤ x ∧ x < (u.length : Int)) (k : Wd u w) : Wd u (x :: w) := fun y hy => (List.mem_cons.mp hy).elim (fun e => e ▸ h) (k y)
theorem Wd.head {u w : List Int} {x : Int} (h : Wd u (x :: w)) : 0 ≤ x ∧ x < (u.length : Int) := h x (List.mem_cons_self ..)
theorem Wd.tail {u w : List Int} {x : Int} (h : Wd u (x :: w)) : Wd u w := fun y hy => h y (List.mem_cons_of_mem _ hy)
theorem Wd.last {u w : List Int} {x : Int} (h : Wd u (w ++ [x])) : 0 ≤ x ∧ x < (u.length : Int) := h x (List.mem_append_right _ (List.mem_singleton.mpr rfl))
theorem Wd.free {u w : List Int} (h : Wd u w) : Wd u (freeW u w) := freeW_mem h
theorem Wd.back {u w : List Int} (U : Undo u) (h : Wd u w) : Wd u (backW u w) := backW_rng U h
theorem freeW_snoc (u w : List Int) (x : Int) : freeW u (w ++ [x]) = redStep u (freeW u w) x := by
  unfold freeW
  rw [List.foldl_append]
  rfl
theorem red_fix {u l : List Int} (h : Red u l) : freeW u l = l := freeW_of_red _ l rfl h
theorem Red.cons_snoc {u m : List Int} {y x : Int} (h : Red u (m ++ [y] ++ [x])) : un u y ≠ x := h m.length y x (by rw [List.getElem?_append_left (by simp), List.getElem?_append_right (Nat.le_refl _)]; simp) (by rw [List.getElem?_append_right (by simp)]; simp)
theorem Red.tl {u l : List Int} {x : Int} (h : Red u (x :: l)) : Red u l := fun i a b h1 h2 => h (i + 1) a b (by simpa using h1) (by simpa using h2)
theorem Red.two {u l : List Int} {x y : Int} (h : Red u (x :: y :: l)) : un u x ≠ y := h 0 x y rfl rfl
theorem Red.nil (u : List Int) : Red u [] := fun i a b h _ => by simp at h
theorem Red.cons {u l : List Int} {x : Int} (h : Red u l) (k : ∀ y, l.head? = some y → un u x ≠ y) : Red u (x :: l) := fun i a b h1 h2 => by
  cases i with
  | zero =>
    cases h1
    cases l with
    | nil => simp at h2
    | cons y l =>
      cases h2
      exact k _ rfl
  | succ i => exact h i a b (by simpa using h1) (by simpa using h2)
theorem Red.snoc {u l : List Int} {x : Int} (h : Red u l) (k : ∀ m y, l = m ++ [y] → un u y ≠ x) : Red u (l ++ [x]) := by
  by_cases e : l = []
  · subst e
    exact Red.cons (Red.nil u) fun y hy => by cases hy
  · obtain ⟨m, y, rfl⟩ := snoc_of e
    have := redStep_red (x := x) h
    rw [redStep_snoc, if_neg (k m y rfl)] at this
    exact this
/-- a letter and its undo behind a reduced word -/
theorem redStep_un {u l : List Int} {z : Int} (U : Undo u) (h : Red u l) (hl : Wd u l) (hz : 0 ≤ z ∧ z < (u.length : Int)) : redStep u (redStep u l z) (un u z) = l := by
  by_cases e : l = []
  · subst e
    rw [redStep_nil]
    show redStep u ([] ++ [z]) (un u z) = []
    rw [redStep_snoc, if_pos rfl]
  · obtain ⟨m, y, rfl⟩ := snoc_of e
    rw [redStep_snoc]
    split
    · rename_i c
      have uu : un u z = y := by rw [← c]; exact U.un_un hl.last.1 hl.last.2
      rw [uu]
      by_cases e2 : m = []
      · subst e2
        rfl
      · obtain ⟨k, a, rfl⟩ := snoc_of e2
        rw [redStep_snoc, if_neg h.cons_snoc]
    · rw [redStep_snoc, if_pos rfl]
theorem freeW_mid {u : List Int} (U : Undo u) : ∀ (n : Nat) (t a : List Int), t.length = n → Wd u a → Wd u t → freeW u (a ++ t) = freeW u (a ++ freeW u t) := by
  intro n
  induction n with
  | zero =>
    intro t a ht _ _
    rw [List.eq_nil_of_length_eq_zero ht]
    rfl
  | succ n ih =>
    intro t a ht wa wt
    obtain ⟨s, y, rfl⟩ := snoc_of (l := t) (fun z => by rw [z] at ht; cases ht)
    have hs : s.length = n := by rw [List.length_append] at ht; simpa using ht
    rw [← List.append_assoc, freeW_snoc, ih s a hs wa wt.left, freeW_snoc, ← freeW_snoc u (a ++ freeW u s)]
    have wf : Wd u (freeW u s) := wt.left.free
    have rd := freeW_red u s
    generalize freeW u s = g at wf rd
    by_cases e : g = []
    · subst e
      rw [redStep_nil, List.append_nil]
    · obtain ⟨m, z, rfl⟩ := snoc_of e
      rw [redStep_snoc]
      split
      · rename_i c
        rw [← c, ← List.append_assoc, freeW_snoc, freeW_snoc]
        exact redStep_un U (freeW_red _ _) (wa.app wf.left).free wf.last
      · rw [List.append_assoc]
theorem freeW_cons {u t : List Int} {x : Int} (U : Undo u) (hx : 0 ≤ x ∧ x < (u.length : Int)) (ht : Wd u t) : freeW u (x :: t) = freeW u (x :: freeW u t) := freeW_mid U _ t [x] rfl (Wd.one hx) ht
theorem freeW_un {u g : List Int} {x : Int} (U : Undo u) (hx : 0 ≤ x ∧ x < (u.length : Int)) (h : Red u g) (hg : Wd u g) : freeW u (x :: un u x :: g) = g := by
  rw [show x :: un u x :: g = [x, un u x] ++ g from rfl, ← freeW_app]
  have : freeW u [x, un u x] = [] := by
    show freeW u (([] ++ [x]) ++ [un u x]) = []
    rw [freeW_snoc, freeW_snoc]
    exact redStep_un U (Red.nil u) (fun x hx => by cases hx) hx
  rw [this]
  exact red_fix h
theorem backW_app (u a b : List Int) : backW u (a ++ b) = backW u b ++ backW u a := by
  unfold backW
  rw [List.reverse_append, List.map_append]
theorem backW_one (u : List Int) (x : Int) : backW u [x] = [un u x] := rfl
theorem Red.back {u : List Int} (U : Undo u) : ∀ (n : Nat) (l : List Int), l.length = n → Red u l → Wd u l → Red u (backW u l) := by
  intro n
  induction n with
  | zero =>
    intro l hl _ _
    rw [List.eq_nil_of_length_eq_zero hl]
    exact Red.nil u
  | succ n ih =>
    intro l hl h w
    obtain ⟨m, y, rfl⟩ := snoc_of (l := l) (fun z => by rw [z] at hl; cases hl)
    have hm : m.length = n := by rw [List.length_append] at hl; simpa using hl
    rw [backW_app, backW_one]
    refine Red.cons (ih m hm h.init w.left) fun z hz => ?_
    by_cases e : m = []
    · subst e
      cases hz
    · obtain ⟨k, a, rfl⟩ := snoc_of e
      rw [backW_app, backW_one] at hz
      cases hz
      intro c
      refine h.cons_snoc ?_
      rw [← c]
      exact U.un_un w.last.1 w.last.2
theorem freeW_back {u : List Int} (U : Undo u) : ∀ (n : Nat) (w : List Int), w.length = n → Wd u w → freeW u (backW u w) = backW u (freeW u w) := by
  intro n
  induction n with
  | zero =>
    intro l hl _
    rw [List.eq_nil_of_length_eq_zero hl]
    rfl
  | succ n ih =>
    intro l hl w
    obtain ⟨m, x, rfl⟩ := snoc_of (l := l) (fun z => by rw [z] at hl; cases hl)
    have hm : m.length = n := by rw [List.length_append] at hl; simpa using hl
    have ux := U.un_rng w.last.1 w.last.2
    rw [backW_app, backW_one, List.singleton_append, freeW_cons U ux (w.left.back U), ih m hm w.left, freeW_snoc]
    have wf : Wd u (freeW u m) := w.left.free
    have rd := freeW_red u m
    generalize freeW u m = g at wf rd
    have main : ∀ k, Red u (k ++ [x]) → Wd u (k ++ [x]) → freeW u (un u x :: backW u k) = backW u (k ++ [x]) := fun k h hw => by
      rw [backW_app, backW_one, List.singleton_append]
      refine red_fix ?_
      have := Red.back U _ _ rfl h hw
      rwa [backW_app, backW_one, List.singleton_append] at this
    by_cases e : g = []
    · subst e
      exact main [] (Red.cons (Red.nil u) fun y hy => by cases hy) (Wd.one w.last)
    · obtain ⟨k, z, rfl⟩ := snoc_of e
      rw [redStep_snoc]
      split
      · rename_i c
        have uz := U.un_rng wf.last.1 wf.last.2
        have e1 : un u x = z := by rw [← c]; exact U.un_un wf.last.1 wf.last.2
        rw [backW_app, backW_one, List.singleton_append, e1]
        exact freeW_un U wf.last (Red.back U _ _ rfl rd.init wf.left) (wf.left.back U)
      · rename_i c
        refine main (k ++ [z]) (Red.snoc rd fun m y e => ?_) (wf.app (Wd.one w.last))
        obtain ⟨_, e2⟩ := List.append_inj' e rfl
        cases e2
        exact c
theorem strip_len (l : List Int) (h : 1 < l.length) : l.tail.dropLast.length < l.length := by
  rw [List.length_dropLast, List.length_tail]
  omega
def cyc (u : List Int) (l : List Int) : List Int :=
  if h : 1 < l.length ∧ l.getD 0 0 = un u (l.getD (l.length - 1) 0) then cyc u l.tail.dropLast else l
termination_by l.length
decreasing_by exact strip_len l h.1
theorem cyc_nil (u : List Int) : cyc u [] = [] := by
  rw [cyc, dif_neg (fun h => by simp at h)]
theorem cyc_one (u : List Int) (x : Int) : cyc u [x] = [x] := by
  rw [cyc, dif_neg (fun h => by simp at h)]
theorem cyc_ends (u m : List Int) (x y : Int) : cyc u (x :: m ++ [y]) = if x = un u y then cyc u m else x :: m ++ [y] := by
  rw [cyc]
  have e1 : (x :: m ++ [y]).getD 0 0 = x := rfl
  have e2 : (x :: m ++ [y]).getD ((x :: m ++ [y]).length - 1) 0 = y := by
    rw [List.getD_eq_getElem?_getD, List.length_append]
    show ((x :: m ++ [y])[(x :: m).length]?).getD 0 = y
    rw [List.getElem?_append_right (Nat.le_refl _)]
    simp
  have e3 : (x :: m ++ [y]).tail.dropLast = m := by
    show (m ++ [y]).dropLast = m
    exact List.dropLast_concat
  rw [e1, e2, e3]
  by_cases c : x = un u y
  · rw [if_pos c, dif_pos ⟨by simp, c⟩]
  · rw [if_neg c, dif_neg (fun h => c h.2)]
theorem ends_of {l : List Int} (h : 1 < l.length) : ∃ x m y, l = x :: m ++ [y] := by
  cases l with
  | nil => simp at h
  | cons x l =>
    obtain ⟨m, y, rfl⟩ := snoc_of (l := l) (fun z => by rw [z] at h; simp at h)
    exact ⟨x, m, y, rfl⟩
theorem short_of {l : List Int} (h : ¬ 1 < l.length) : l = [] ∨ ∃ x, l = [x] := by
  cases l with
  | nil => exact .inl rfl
  | cons x l =>
    cases l with
    | nil => exact .inr ⟨x, rfl⟩
    | cons y l => simp at h
theorem cyc_len (u : List Int) : ∀ (n : Nat) (l : List Int), l.length ≤ n → (cyc u l).length ≤ l.length := by
  intro n
  induction n with
  | zero =>
    intro l hl
    rw [List.eq_nil_of_length_eq_zero (Nat.le_zero.mp hl), cyc_nil]
    exact Nat.le_refl _
  | succ n ih =>
    intro l hl
    by_cases h : 1 < l.length
    · obtain ⟨x, m, y, rfl⟩ := ends_of h
      have hm : (x :: m ++ [y]).length = m.length + 2 := by simp
      rw [cyc_ends]
      split
      · have := ih m (by omega)
        omega
      · exact Nat.le_refl _
    · rcases short_of h with rfl | ⟨x, rfl⟩
      · rw [cyc_nil]; exact Nat.le_refl _
      · rw [cyc_one]; exact Nat.le_refl _
theorem Wd.cyc {u : List Int} : ∀ (n : Nat) (l : List Int), l.length ≤ n → Wd u l → Wd u (cyc u l) := by
  intro n
  induction n with
  | zero =>
    intro l hl h
    rw [List.eq_nil_of_length_eq_zero (Nat.le_zero.mp hl), cyc_nil]
    exact fun x hx => by cases hx
  | succ n ih =>
    intro l hl w
    by_cases h : 1 < l.length
    · obtain ⟨x, m, y, rfl⟩ := ends_of h
      have hm : (x :: m ++ [y]).length = m.length + 2 := by simp
      rw [cyc_ends]
      split
      · exact ih m (by omega) (Wd.tail (Wd.left (b := [y]) w))
      · exact w
    · rcases short_of h with rfl | ⟨x, rfl⟩
      · rw [cyc_nil]; exact w
      · rw [cyc_one]; exact w
theorem cyc_back {u : List Int} (U : Undo u) : ∀ (n : Nat) (l : List Int), l.length ≤ n → Wd u l → cyc u (backW u l) = backW u (cyc u l) := by
  intro n
  induction n with
  | zero =>
    intro l hl h
    rw [List.eq_nil_of_length_eq_zero (Nat.le_zero.mp hl)]
    show cyc u [] = backW u (cyc u [])
    rw [cyc_nil]
    rfl
  | succ n ih =>
    intro l hl w
    by_cases h : 1 < l.length
    · obtain ⟨x, m, y, rfl⟩ := ends_of h
      have hm : (x :: m ++ [y]).length = m.length + 2 := by simp
      have wx := Wd.head (Wd.left (b := [y]) w)
      have wy := w.last
      have eb : backW u (x :: m ++ [y]) = un u y :: backW u m ++ [un u x] := by
        rw [backW_app, show x :: m = [x] ++ m from rfl, backW_app, backW_one, backW_one]
        rfl
      rw [eb, cyc_ends, cyc_ends, U.un_un wx.1 wx.2]
      by_cases c : x = un u y
      · rw [if_pos c, if_pos c.symm]
        exact ih m (by omega) (Wd.tail (Wd.left (b := [y]) w))
      · rw [if_neg c, if_neg fun e => c e.symm, eb]
    · rcases short_of h with rfl | ⟨x, rfl⟩
      · show cyc u [] = backW u (cyc u [])
        rw [cyc_nil]; rfl
      · rw [backW_one, cyc_one, cyc_one, backW_one]
def rots (l : List Int) : List (List Int) := (List.range l.length).map fun k => l.drop k ++ l.take k
theorem mem_rots {l r : List Int} : r ∈ rots l ↔ l ≠ [] ∧ ∃ p q, l = p ++ q ∧ r = q ++ p := by
  unfold rots
  rw [List.mem_map]
  constructor
  · rintro ⟨k, hk, rfl⟩
    have hk := List.mem_range.mp hk
    exact ⟨fun e => by rw [e] at hk; simp at hk, l.take k, l.drop k, (List.take_append_drop k l).symm, rfl⟩
  · rintro ⟨hl, p, q, rfl, rfl⟩
    by_cases e : q = []
    · subst e
      rw [List.append_nil] at hl ⊢
      exact ⟨0, List.mem_range.mpr (List.length_pos_iff.mpr hl), by simp⟩
    · have := List.length_pos_iff.mpr e
      exact ⟨p.length, List.mem_range.mpr (by rw [List.length_append]; omega), by simp⟩
def Eqv (a b : List Int) : Prop := ∀ r, r ∈ rots a ↔ r ∈ rots b
theorem Eqv.rfl' (a : List Int) : Eqv a a := fun _ => Iff.rfl
theorem Eqv.symm {a b : List Int} (h : Eqv a b) : Eqv b a := fun r => (h r).symm
theorem Eqv.trans {a b c : List Int} (h : Eqv a b) (k : Eqv b c) : Eqv a c := fun r => (h r).trans (k r)
theorem eqv_turn (x : Int) (t : List Int) : Eqv (x :: t) (t ++ [x]) := fun r => by
  rw [mem_rots, mem_rots]
  constructor
  · rintro ⟨_, p, q, e, rfl⟩
    refine ⟨by simp, ?_⟩
    cases p with
    | nil =>
      rw [List.nil_append] at e
      exact ⟨t, [x], rfl, by rw [← e]; simp⟩
    | cons y p =>
      rw [List.cons_append] at e
      injection e with e1 e2
      subst e1
      exact ⟨p, q ++ [x], by rw [e2]; simp, by simp⟩
  · rintro ⟨_, p, q, e, rfl⟩
    refine ⟨by simp, ?_⟩
    by_cases z : q = []
    · subst z
      rw [List.append_nil] at e
      exact ⟨[x], t, rfl, by rw [← e]; simp⟩
    · obtain ⟨m, y, rfl⟩ := snoc_of z
      rw [← List.append_assoc] at e
      obtain ⟨e1, e2⟩ := List.append_inj' e rfl
      cases e2
      exact ⟨x :: p, m, by rw [e1]; rfl, by simp⟩
/-- what is left when a ring's ends are taken off, of the reduced word -/
def coreW (u w : List Int) : List Int := cyc u (freeW u w)
def EqB (u a b : List Int) : Prop := Eqv a b ∧ Eqv (backW u a) (backW u b)
theorem EqB.rfl' (u a : List Int) : EqB u a a := ⟨.rfl' _, .rfl' _⟩
theorem EqB.trans {u a b c : List Int} (h : EqB u a b) (k : EqB u b c) : EqB u a c := ⟨h.1.trans k.1, h.2.trans k.2⟩
theorem eqB_turn (u : List Int) (x : Int) (t : List Int) : EqB u (x :: t) (t ++ [x]) := by
  refine ⟨eqv_turn x t, ?_⟩
  rw [show x :: t = [x] ++ t from rfl, backW_app, backW_app, backW_one]
  exact (eqv_turn (un u x) (backW u t)).symm
theorem cyc_turn {u : List Int} (U : Undo u) {a : Int} {h : List Int} (h1 : Red u (a :: h)) (h2 : Red u (h ++ [a])) (wa : 0 ≤ a ∧ a < (u.length : Int)) (wh : Wd u h) : EqB u (cyc u (a :: h)) (cyc u (h ++ [a])) := by
  by_cases e : h = []
  · subst e
    exact .rfl' _ _
  · have n1 : cyc u (a :: h) = a :: h := by
      obtain ⟨m, z, rfl⟩ := snoc_of e
      have := h2.cons_snoc
      rw [← List.cons_append, cyc_ends, if_neg fun c => this c.symm]
    have n2 : cyc u (h ++ [a]) = h ++ [a] := by
      cases h with
      | nil => exact absurd rfl e
      | cons y h =>
        have := h1.two
        rw [cyc_ends, if_neg fun c => this c.symm]
    rw [n1, n2]
    exact eqB_turn u a h
theorem core_turn {u t : List Int} {x : Int} (U : Undo u) (hx : 0 ≤ x ∧ x < (u.length : Int)) (ht : Wd u t) : EqB u (coreW u (x :: t)) (coreW u (t ++ [x])) := by
  unfold coreW
  rw [freeW_cons U hx ht, freeW_snoc]
  have wf : Wd u (freeW u t) := ht.free
  have rd := freeW_red u t
  generalize freeW u t = g at wf rd
  have uu := U.un_un hx.1 hx.2
  have ur := U.un_rng hx.1 hx.2
  by_cases hd : ∃ g', g = un u x :: g'
  · obtain ⟨g', rfl⟩ := hd
    rw [freeW_un U hx rd.tl wf.tail]
    by_cases e : g' = []
    · subst e
      have : redStep u [un u x] x = [] := by
        show redStep u ([] ++ [un u x]) x = []
        rw [redStep_snoc, if_pos uu]
      rw [this]
      exact .rfl' _ _
    · obtain ⟨k, z, rfl⟩ := snoc_of e
      have wzz : 0 ≤ z ∧ z < (u.length : Int) := Wd.last (w := k) wf.tail
      rw [← List.cons_append, redStep_snoc]
      split
      · rename_i c
        have ez : z = un u x := by
          rw [← c]
          exact (U.un_un wzz.1 wzz.2).symm
        have rd2 := rd.tl
        have wz := Wd.left (b := [z]) wf.tail
        subst ez
        have rd3 : Red u (un u x :: k) := Red.init (by rw [← List.cons_append] at rd; exact rd)
        have := cyc_turn U rd3 rd2 ur wz
        refine ⟨this.1.symm, this.2.symm⟩
      · have : cyc u (un u x :: k ++ [z] ++ [x]) = cyc u (k ++ [z]) := by
          rw [show un u x :: k ++ [z] ++ [x] = un u x :: (k ++ [z]) ++ [x] by simp, cyc_ends, if_pos rfl]
        rw [this]
        exact .rfl' _ _
  · have rx : Red u (x :: g) := Red.cons rd fun y hy c => hd (by
      cases g with
      | nil => cases hy
      | cons z g =>
        cases hy
        exact ⟨g, by rw [c]⟩)
    rw [red_fix rx]
    by_cases e : g = []
    · subst e
      exact .rfl' _ _
    · obtain ⟨k, z, rfl⟩ := snoc_of e
      rw [redStep_snoc]
      split
      · rename_i c
        rw [← List.cons_append, cyc_ends, if_pos c.symm]
        exact .rfl' _ _
      · rename_i c
        refine cyc_turn U rx (Red.snoc rd fun m y e2 => ?_) hx wf
        obtain ⟨_, e3⟩ := List.append_inj' e2 rfl
        cases e3
        exact c
theorem core_rot {u : List Int} (U : Undo u) : ∀ (p q : List Int), Wd u (p ++ q) → EqB u (coreW u (p ++ q)) (coreW u (q ++ p))
  | [], q, _ => by rw [List.nil_append, List.append_nil]; exact .rfl' _ _
  | x :: p, q, h => by
    have h1 := core_turn U (Wd.head (w := p ++ q) h) (Wd.tail (w := p ++ q) h)
    have h2 := core_rot U p (q ++ [x]) (by rw [← List.append_assoc]; exact (Wd.tail (w := p ++ q) h).app (Wd.one (Wd.head (w := p ++ q) h)))
    rw [List.append_assoc] at h1
    rw [show q ++ x :: p = (q ++ [x]) ++ p by simp]
    exact h1.trans h2
theorem core_back {u w : List Int} (U : Undo u) (h : Wd u w) : coreW u (backW u w) = backW u (coreW u w) := by
  unfold coreW
  rw [freeW_back U _ w rfl h, cyc_back U _ _ (Nat.le_refl _) h.free]
theorem core_wd {u w : List Int} (h : Wd u w) : Wd u (coreW u w) := Wd.cyc _ _ (Nat.le_refl _) h.free
theorem core_len (u w : List Int) : (coreW u w).length ≤ w.length := Nat.le_trans (cyc_len u _ _ (Nat.le_refl _)) (freeW_len u w)
theorem lexI_leX (a b : List Int) : lexI a b = !leX b a := by
  rw [leX_lex, Bool.not_not]
theorem minX_both : ∀ (r : List (List Int)) (x : List Int), minX (x :: r) ∈ x :: r ∧ ∀ y ∈ x :: r, leX (minX (x :: r)) y = true
  | [], x => ⟨List.mem_cons_self .., fun y hy => by
      rw [List.mem_singleton.mp hy]
      have := leX_total x x
      rwa [Bool.or_self] at this⟩
  | b :: r, x => by
    by_cases c : lexI b x = true
    · have e : minX (x :: b :: r) = minX (b :: r) := by
        show r.foldl (fun a y => if lexI y a = true then y else a) (if lexI b x = true then b else x) = r.foldl (fun a y => if lexI y a = true then y else a) b
        rw [if_pos c]
      rw [e]
      obtain ⟨h1, h2⟩ := minX_both r b
      refine ⟨List.mem_cons_of_mem _ h1, fun y hy => ?_⟩
      rcases List.mem_cons.mp hy with rfl | hy
      · refine leX_trans _ b _ (h2 b (List.mem_cons_self ..)) ?_
        rw [lexI_leX] at c
        have := leX_total b y
        cases z : leX b y with
        | true => rfl
        | false =>
          rw [z] at this
          rw [show leX y b = true by simpa using this] at c
          cases c
      · exact h2 y hy
    · have e : minX (x :: b :: r) = minX (x :: r) := by
        show r.foldl (fun a y => if lexI y a = true then y else a) (if lexI b x = true then b else x) = r.foldl (fun a y => if lexI y a = true then y else a) x
        rw [if_neg c]
      rw [e]
      obtain ⟨h1, h2⟩ := minX_both r x
      refine ⟨?_, fun y hy => ?_⟩
      · rcases List.mem_cons.mp h1 with e | h
        · rw [e]; exact List.mem_cons_self ..
        · exact List.mem_cons_of_mem _ (List.mem_cons_of_mem _ h)
      · rcases List.mem_cons.mp hy with rfl | hy
        · exact h2 _ (List.mem_cons_self ..)
        · rcases List.mem_cons.mp hy with rfl | hy
          · refine leX_trans _ x _ (h2 x (List.mem_cons_self ..)) ?_
            rw [lexI_leX] at c
            simpa using c
          · exact h2 y (List.mem_cons_of_mem _ hy)
theorem minX_same {a b : List (List Int)} (h : ∀ r, r ∈ a ↔ r ∈ b) : minX a = minX b := by
  cases a with
  | nil =>
    cases b with
    | nil => rfl
    | cons y b => exact absurd ((h y).mpr (List.mem_cons_self ..)) (by simp)
  | cons x a =>
    cases b with
    | nil => exact absurd ((h x).mp (List.mem_cons_self ..)) (by simp)
    | cons y b =>
      obtain ⟨h1, h2⟩ := minX_both a x
      obtain ⟨k1, k2⟩ := minX_both b y
      exact leX_anti _ _ (h2 _ ((h _).mpr k1)) (k2 _ ((h _).mp h1))
def ringOf (u c : List Int) : List Int := minX (rots c ++ rots (backW u c))
def ringW (u w : List Int) : List Int := ringOf u (coreW u w)
theorem ringOf_same {u a b : List Int} (h : EqB u a b) : ringOf u a = ringOf u b := minX_same fun r => by
  rw [List.mem_append, List.mem_append, h.1 r, h.2 r]
theorem ringW_rot {u p q : List Int} (U : Undo u) (h : Wd u (p ++ q)) : ringW u (q ++ p) = ringW u (p ++ q) := (ringOf_same (core_rot U p q h)).symm
theorem ringW_back {u w : List Int} (U : Undo u) (h : Wd u w) : ringW u (backW u w) = ringW u w := by
  unfold ringW
  rw [core_back U h]
  refine minX_same fun r => ?_
  rw [List.mem_append, List.mem_append, backW_back U (core_wd h)]
  exact Or.comm
end Lb
set_option Elab.async false
set_option linter.all false
set_option maxRecDepth 100000
set_option maxHeartbeats 1000000
namespace K36
open PySem PyProof.Rows L2 MR M
abbrev mF_is_integer : List C → Out R := Lb.mF_is_integer
abbrev mF_is_number : List C → Out R := Lb.mF_is_number
abbrev mF_is_word : List C → Out R := Lb.mF_is_word
abbrev mF_check_word : List C → Out R := Lb.mF_check_word
abbrev mF_undone : List C → Out R := Lb.mF_undone
abbrev mF_freely_reduced : List C → Out R := Lb.mF_freely_reduced
def mB_ring_form : MS :=
  (mSeq (mIf (mNot (mB (mCall mF_is_word (mCons (mFz (mVar 1)) (mCons (mCB (one bLen) (mCons (mVar 0) mNil)) mNil)))))
    (mRaise 4 [7] (mCons (mFz (mVar 1)) mNil))
    mNext)
  (mSeq (mAsg 2 (mFz (mCall mF_freely_reduced (mCons (mFz (mVar 0)) (mCons (mFz (mVar 1)) mNil)))))
  (mSeq (mWhile (mAnd (mB (mOp oGt (mCB (one bLen) (mCons (mVar 2) mNil)) (mC (.int 1)))) (mB (mOp oEq (mIx true (mVar 2) (mC (.int 0))) (mIx true (mVar 0) (mIx true (mVar 2) (mUn uNeg (mC (.int 1))))))))
    (mAsg 2 (mFz (mSl (mVar 2) (mPart (mC (.int 1))) (mPart (mUn uNeg (mC (.int 1))))))))
  (mSeq (mAsg 3 (mFz (mLst (mCons (mTup mNil) mNil))))
  (mSeq (mFor (mISeq (mFz (mTup (mCons (mFz (mVar 2)) (mCons (mFz (mCall mF_undone (mCons (mFz (mVar 0)) (mCons (mFz (mVar 2)) mNil)))) mNil))))) (gNm 4)
    (mAsg 3 (mFz (mOp oAdd (mVar 3) (mLc (mIR1 (mCons (mCB (one bLen) (mCons (mVar 4) mNil)) mNil)) (gNm 5) mYes (mFz (mOp oAdd (mSl (mVar 4) (mPart (mVar 5)) mNoP) (mSl (mVar 4) mNoP (mPart (mVar 5))))) [5])))))
  (mRet (mIfE (mB (mOp oGt (mCB (one bLen) (mCons (mVar 3) mNil)) (mC (.int 1)))) (mCB (one bMin) (mCons (mSl (mVar 3) (mPart (mC (.int 1))) mNoP) mNil)) (mTup mNil))))))))
def mF_ring_form : List C → Out R := mDef 2 4 (fun i => decide (i < 2)) mB_ring_form
abbrev mF_law_box : List C → Out R := Lb.mF_law_box
abbrev mF_law_draw : List C → Out R := Lb.mF_law_draw
abbrev mF_law_number : List C → Out R := Lb.mF_is_integer
abbrev mF_law_undo : List C → Out R := Lb.mF_law_undo
abbrev mF_law_word : List C → Out R := Lb.mF_law_word
abbrev mF_law_is_word : List C → Out R := Lb.mF_law_is_word
def mB_law_thing : MS :=
  (mSeq (mAsg 1 (mFz (mLst (mCons (mC .non) (mCons (mC (.bl true)) (mCons (mC (.bl false)) (mCons (mC (.int 0)) (mCons (mC (.int 1)) (mCons (mUn uNeg (mC (.int 1))) (mCons (mOp oPow (mC (.int 10)) (mC (.int 20))) (mCons (mC (.str "")) (mCons (mC (.str "0")) (mCons (mTup mNil) (mCons (mFz (mLst mNil)) (mCons (mFz (mLst (mCons (mC (.int 0)) mNil))) (mCons (mTup (mCons (mC (.bl true)) mNil)) (mCons (mTup (mCons (mC (.bl false)) (mCons (mC (.int 0)) mNil))) (mCons (mTup (mCons (mTup (mCons (mC (.int 0)) mNil)) mNil)) (mCons (mTup (mCons (mC .non) mNil)) (mCons (mTup (mCons (mC (.str "0")) mNil)) (mCons (mFz (mLst (mCons (mFz (mLst mNil)) mNil))) mNil)))))))))))))))))))))
  (mRet (mIx false (mVar 1) (mCall mF_law_draw (mCons (mVar 0) (mCons (mC (.int 18)) mNil))))))
def mF_law_thing : List C → Out R := mDef 1 1 (fun i => decide (i < 1)) mB_law_thing
def mB_law_spoilt : MS :=
  (mSeq (mAsg 3 (mFz (mCall mF_law_draw (mCons (mVar 0) (mCons (mOp oAdd (mCB (one bLen) (mCons (mVar 1) mNil)) (mC (.int 1))) mNil)))))
  (mSeq (mAsg 4 (mFz (mLst (mCons (mFz (mVar 2)) (mCons (mUn uNeg (mC (.int 1))) (mCons (mC (.bl true)) (mCons (mC (.bl false)) (mCons (mC .non) (mCons (mC (.str "0")) (mCons (mTup (mCons (mC (.int 0)) mNil)) (mCons (mFz (mLst (mCons (mC (.int 0)) mNil))) (mCons (mOp oPow (mC (.int 10)) (mC (.int 20))) (mCons (mOp oAdd (mVar 2) (mC (.int 1))) (mCons (mOp oSub (mVar 2) (mC (.int 1))) mNil))))))))))))))
  (mSeq (mAsg 5 (mFz (mCall mF_law_draw (mCons (mVar 0) (mCons (mC (.int 5)) mNil)))))
  (mSeq (mIf (mB (mOp oEq (mVar 5) (mC (.int 0))))
    (mRet (mIx false (mLst (mCons (mFz (mCB (one bList) (mCons (mVar 1) mNil))) (mCons (mTup (mCons (mFz (mVar 1)) mNil)) (mCons (mFz (mCall mF_law_thing (mCons (mVar 0) mNil))) (mCons (mFz (mStrM sJoin (mC (.str "")) (mCons (mLc (mISeq (mFz (mVar 1))) (gNm 6) mYes (mCB (one bStr) (mCons (mVar 6) mNil)) [6]) mNil))) mNil))))) (mCall mF_law_draw (mCons (mVar 0) (mCons (mC (.int 4)) mNil)))))
    mNext)
  (mSeq (mIf (mB (mOp oEq (mVar 5) (mC (.int 1))))
    (mRet (mOp oAdd (mOp oAdd (mSl (mVar 1) mNoP (mPart (mVar 3))) (mTup (mCons (mFz (mIx false (mVar 4) (mCall mF_law_draw (mCons (mVar 0) (mCons (mC (.int 11)) mNil))))) mNil))) (mSl (mVar 1) (mPart (mVar 3)) mNoP)))
    mNext)
  (mRet (mOp oAdd (mOp oAdd (mSl (mVar 1) mNoP (mPart (mVar 3))) (mTup (mCons (mFz (mIx false (mVar 4) (mCall mF_law_draw (mCons (mVar 0) (mCons (mC (.int 11)) mNil))))) mNil))) (mSl (mVar 1) (mPart (mOp oAdd (mVar 3) (mC (.int 1)))) mNoP))))))))
def mF_law_spoilt : List C → Out R := mDef 3 4 (fun i => decide (i < 3)) mB_law_spoilt
abbrev mF_law_reduced : List C → Out R := Lb.mF_law_reduced
abbrev mF_law_back : List C → Out R := Lb.mF_law_back
def mB_law_ring : MS :=
  (mSeq (mAsg 1 (mFz (mCall mF_law_reduced (mCons (mFz (mVar 0)) (mCons (mFz (mVar 1)) mNil)))))
  (mSeq (mFor (mIR1 (mCons (mCB (one bLen) (mCons (mVar 1) mNil)) mNil)) (gNm 2)
    (mIf (mAnd (mB (mOp oGt (mCB (one bLen) (mCons (mVar 1) mNil)) (mC (.int 1)))) (mB (mOp oEq (mIx true (mVar 0) (mIx true (mVar 1) (mC (.int 0)))) (mIx true (mVar 1) (mUn uNeg (mC (.int 1)))))))
      (mAsg 1 (mFz (mSl (mVar 1) (mPart (mC (.int 1))) (mPart (mUn uNeg (mC (.int 1)))))))
      mNext))
  (mSeq (mIf (mB (mOp oEq (mCB (one bLen) (mCons (mVar 1) mNil)) (mC (.int 0))))
    (mRet (mTup mNil))
    mNext)
  (mSeq (mAsg 3 (mFz (mCall mF_law_back (mCons (mFz (mVar 0)) (mCons (mFz (mVar 1)) mNil)))))
  (mSeq (mAsg 4 (mFz (mOp oAdd (mLc (mIR1 (mCons (mCB (one bLen) (mCons (mVar 1) mNil)) mNil)) (gNm 2) mYes (mFz (mOp oAdd (mSl (mVar 1) (mPart (mVar 2)) mNoP) (mSl (mVar 1) mNoP (mPart (mVar 2))))) [2]) (mLc (mIR1 (mCons (mCB (one bLen) (mCons (mVar 1) mNil)) mNil)) (gNm 2) mYes (mFz (mOp oAdd (mSl (mVar 3) (mPart (mVar 2)) mNoP) (mSl (mVar 3) mNoP (mPart (mVar 2))))) [2]))))
  (mRet (mCB (one bMin) (mCons (mVar 4) mNil))))))))
def mF_law_ring : List C → Out R := mDef 2 3 (fun i => i == 0) mB_law_ring
def mB_law_all : MS :=
  (mSeq (mAsg 1 (mCall mF_law_box (mCons (mFz (mVar 0)) mNil)))
  (mSeq (mFor (mIR1 (mCons (mC (.int 6)) mNil)) (gNm 2)
    (mSeq (mAsg 3 (mFz (mCall mF_law_undo (mCons (mVar 1) (mCons (mC (.int 4)) mNil)))))
    (mSeq (mAsg 4 (mFz (mCall mF_law_word (mCons (mVar 1) (mCons (mCB (one bLen) (mCons (mVar 3) mNil)) (mCons (mFz (mIx false (mLst (mCons (mC (.int 4)) (mCons (mC (.int 8)) (mCons (mC (.int 12)) (mCons (mC (.int 30)) mNil))))) (mCall mF_law_draw (mCons (mVar 1) (mCons (mC (.int 4)) mNil))))) mNil))))))
    (mSeq (mIf (mB (mOp oEq (mCall mF_law_draw (mCons (mVar 1) (mCons (mC (.int 3)) mNil))) (mC (.int 0))))
      (mSeq (mAsg 5 (mFz (mCall mF_law_word (mCons (mVar 1) (mCons (mCB (one bLen) (mCons (mVar 3) mNil)) (mCons (mC (.int 5)) mNil))))))
      (mAsg 4 (mFz (mOp oAdd (mOp oAdd (mVar 5) (mVar 4)) (mCall mF_law_back (mCons (mFz (mVar 3)) (mCons (mFz (mVar 5)) mNil)))))))
      mNext)
    (mSeq (mAsg 6 (mCB (one bRepr) (mCons (mCall mF_law_ring (mCons (mFz (mVar 3)) (mCons (mFz (mVar 4)) mNil))) mNil)))
    (mSeq (mAsg 7 (mFz (mCall mF_law_draw (mCons (mVar 1) (mCons (mOp oAdd (mCB (one bLen) (mCons (mVar 4) mNil)) (mC (.int 1))) mNil)))))
    (mSeq (mIf (mOr (mB (mOp oNe (mCB (one bRepr) (mCons (mCall mF_ring_form (mCons (mFz (mVar 3)) (mCons (mFz (mVar 4)) mNil))) mNil)) (mVar 6))) (mB (mOp oNe (mCB (one bRepr) (mCons (mCallP 2 [1, 0] mF_ring_form (mCons (mFz (mVar 4)) (mCons (mFz (mVar 3)) mNil))) mNil)) (mVar 6))))
      (mRet (mC (.bl false)))
      mNext)
    (mSeq (mIf (mOr (mB (mOp oNe (mCB (one bRepr) (mCons (mCall mF_ring_form (mCons (mFz (mVar 3)) (mCons (mFz (mOp oAdd (mSl (mVar 4) (mPart (mVar 7)) mNoP) (mSl (mVar 4) mNoP (mPart (mVar 7))))) mNil))) mNil)) (mVar 6))) (mB (mOp oNe (mCB (one bRepr) (mCons (mCall mF_ring_form (mCons (mFz (mVar 3)) (mCons (mFz (mCall mF_law_back (mCons (mFz (mVar 3)) (mCons (mFz (mVar 4)) mNil)))) mNil))) mNil)) (mVar 6))))
      (mRet (mC (.bl false)))
      mNext)
    (mSeq (mAsg 8 (mFz (mCall mF_law_spoilt (mCons (mVar 1) (mCons (mFz (mSl (mVar 4) mNoP (mPart (mC (.int 6))))) (mCons (mCB (one bLen) (mCons (mVar 3) mNil)) mNil))))))
    (mIf (mNot (mB (mCall mF_law_is_word (mCons (mFz (mVar 8)) (mCons (mCB (one bLen) (mCons (mVar 3) mNil)) mNil)))))
      (mSeq (mAsg 9 (mCB (one bRepr) (mCons (mVar 8) mNil)))
      (mTry (mSeq (mDrop (mCall mF_ring_form (mCons (mFz (mVar 3)) (mCons (mFz (mVar 8)) mNil))))
        (mRet (mC (.bl false)))) [⟨4, some 10, fun fs => (mIf (mB (mOp oNe (mCB (one bRepr) (mCons (mXf 7 fs) mNil)) (mVar 9)))
          (mRet (mC (.bl false)))
          mNext)⟩]))
      mNext))))))))))
  (mRet (mC (.bl true)))))
def mF_law_all : List C → Out R := mDef 1 10 (fun i => decide (i < 1)) mB_law_all
end K36
set_option Elab.async false
set_option linter.all false
set_option maxRecDepth 100000
set_option maxHeartbeats 1000000
namespace K36
open PySem PySem.Spec PyProof.Rows L2 MR M Lb
theorem cutD_mid (x y : D) (ds : List D) : M.cutD (x :: ds ++ [y]) (some 1) (some (-1)) = ds := by
  have n : (x :: ds ++ [y]).length = ds.length + 2 := by simp
  have e1 : HT.sIx (ds.length + 2) 0 (some 1) = 1 := by
    show min 1 (ds.length + 2) = 1
    omega
  have e2 : HT.sIx (ds.length + 2) (ds.length + 2) (some (-1)) = ds.length + 1 := by
    show (if (-1 : Int) < 0 then (-1 + ((ds.length + 2 : Nat) : Int)).toNat else min (-1 : Int).toNat (ds.length + 2)) = ds.length + 1
    rw [if_pos (by omega)]
    omega
  unfold M.cutD
  rw [n, e1, e2, show ds.length + 1 - 1 = ds.length by omega]
  show (ds ++ [y]).take ds.length = ds
  rw [List.take_left']
  rfl
def rotD (l : List Int) (d : D) : D := match d with | .int k => .tup ((l.drop k.toNat).map D.int ++ (l.take k.toNat).map D.int) | d => d
theorem rots_map (l : List Int) : (rng 0 l.length).map (rotD l) = (rots l).map tw := by
  rw [rng_map]
  unfold rots
  rw [List.map_map]
  refine List.map_congr_left fun k hk => ?_
  show rotD l (.int (k : Nat)) = tw (l.drop k ++ l.take k)
  show D.tup ((l.drop k).map D.int ++ (l.take k).map D.int) = D.tup ((l.drop k ++ l.take k).map D.int)
  rw [List.map_append]
def kRings : MS := (mSeq (mAsg 3 (mFz (mLst (mCons (mTup mNil) mNil))))
      (mSeq
        (mFor
          (mISeq
            (mFz
              (mTup
                (mCons (mFz (mVar 2))
                  (mCons (mFz (mCall mF_undone (mCons (mFz (mVar 0)) (mCons (mFz (mVar 2)) mNil)))) mNil)))))
          (gNm 4)
          (mAsg 3
            (mFz
              (mOp oAdd (mVar 3)
                (mLc (mIR1 (mCons (mCB (one bLen) (mCons (mVar 4) mNil)) mNil)) (gNm 5) mYes
                  (mFz (mOp oAdd (mSl (mVar 4) (mPart (mVar 5)) mNoP) (mSl (mVar 4) mNoP (mPart (mVar 5))))) [5])))))
        (mRet
          (mIfE (mB (mOp oGt (mCB (one bLen) (mCons (mVar 3) mNil)) (mC (D.int 1))))
            (mCB (one bMin) (mCons (mSl (mVar 3) (mPart (mC (D.int 1))) mNoP) mNil)) (mTup mNil)))))
def rg (u c : List Int) (k : Nat) : List (List Int) := [] :: ((if 0 < k then rots c else []) ++ (if 1 < k then rots (backW u c) else []))
theorem oAdd_ls {a b : List D} (h : a.length + b.length ≤ LIM) : oAdd (.lst a) (.lst b) = some (.own (.lst ((a ++ b).map .dat))) := by
  show (if a.length + b.length ≤ LIM then some (R.own (C.lst ((a ++ b).map C.dat))) else none) = _
  rw [if_pos h]
theorem rots_len (l : List Int) : (rots l).length = l.length := by
  unfold rots
  rw [List.length_map, List.length_range]
theorem rg_len (u c : List Int) (k : Nat) (h : c.length ≤ 1000) : (rg u c k).length ≤ 2001 := by
  unfold rg
  have h1 := rots_len c
  have h2 := rots_len (backW u c)
  rw [backW_len] at h2
  rw [List.length_cons, List.length_append]
  split <;> split <;> simp <;> omega
theorem rows_tw : ∀ ks : List (List Int), rowsOf (ks.map tw) = some ks
  | [] => rfl
  | k :: ks => by
    show (intsOf (k.map D.int)).bind (fun k => (rowsOf (ks.map tw)).map (k :: ·)) = _
    rw [rows_tw ks, intsOf_map]
    rfl
theorem bMin_tw {ks : List (List Int)} (h : ks ≠ []) : bMin (.lst (ks.map tw)) = some (.dat (tw (minX ks))) := by
  show (rowsOf (ks.map tw)).bind (fun ks => if ks.isEmpty = true then none else some (R.dat (tupI (minX ks)))) = _
  rw [rows_tw]
  show (if ks.isEmpty = true then none else some (R.dat (tupI (minX ks)))) = _
  rw [if_neg (by simpa using h)]
  rfl
theorem ring_fin {u w c : List Int} {px : PX} (U : Undo u) (cw : Wd u c) (hc : c.length ≤ 1000) : SO.wp { nx := fun e => R.dat D.non = R.dat (tw (ringOf u c)) ∧ outCs [C.dat (tw u), C.dat (tw w)] e = [C.dat (tw u), C.dat (tw w)], rt := fun r e => Out.wp (fun r e => r = R.dat (tw (ringOf u c)) ∧ outCs [C.dat (tw u), C.dat (tw w)] e = [C.dat (tw u), C.dat (tw w)]) (fun x x_1 x_2 => False) (outR (fun i => decide (i < 2)) 2 r e) } px (kRings [C.dat (tw u), C.dat (tw w), C.dat (tw c), .non, .non, .non]) := by
  unfold kRings
  simp -implicitDefEqProofs only [mwAll, kStr1, kIEnum, kIZip, kAsgG, kAsgG2, kRevD, kCallP2, kInD, asB_bl, datR_nil, datR_cons, datR_map, snapR_dat, vw_dat, dats_dat, fzO_dat, fzO_own, fzs_dat, fz, grd_true, ofO_some, permO, getE, getC, setC, Out.bind_ok, Out.bind_ex, Out.bind_bad, bindS_ok, bindS_ex, bindS_bad, seq_nx, seq_rt, seq_bk, seq_ct, seq_ex, seq_bad, Out.wp_ok, Out.wp_ex, Out.wp_bad, SO.wp_nx, SO.wp_rt, SO.wp_bk, SO.wp_ct, SO.wp_ex, SO.wp_bad, turn_nx, turn_ct, turn_bk, turn_rt, turn_ex, turn_bad, List.getElem?_cons_zero, List.getElem?_cons_succ, List.set_cons_zero, List.set_cons_succ, List.length_cons, List.length_nil, List.length_map, List.length_set, List.length_append, List.map_cons, List.map_nil, List.cons_append, List.nil_append, List.replicate_succ, List.replicate_zero, List.append_nil, List.all_cons, List.all_nil, Option.map_some, Option.map_none, Option.bind_some, Option.bind_none, Option.isSome_some, Option.isSome_none, if_true, if_false, reduceIte, reduceCtorEq, decide_true, decide_false, Bool.true_or, Bool.or_true, Bool.or_false, Bool.false_or, Bool.true_and, Bool.and_true, Bool.and_false, Bool.false_and, Bool.not_true, Bool.not_false, Bool.and_self, Nat.reduceLT, Nat.reduceLeDiff, Nat.reduceAdd, Nat.zero_lt_succ, Int.toNat_natCast, get_last1, get_last2, last_map, drop_map, undone_eq cw (show c.length ≤ LIM by unfold LIM; omega)]
  generalize hL : [tw c, tw (backW u c)] = Ls
  have h0 : fzs [C.dat (D.tup [])] = (rg u c 0).map tw := rfl
  rw [h0]
  with_reducible refine wp_forSeq (fun k e => ∃ c4, e = [C.dat (tw u), C.dat (tw w), C.dat (tw c), C.dat (.lst ((rg u c k).map tw)), c4, .non]) ?_ (fun k x e hx h9 => ?_) fun e h9 => ?_
  · exact ⟨_, rfl⟩
  · obtain ⟨c4, he⟩ := h9
    subst he
    subst hL
    have key : ∃ l, x = tw l ∧ l.length ≤ 1000 ∧ rg u c (k + 1) = rg u c k ++ rots l := by
      match k, hx with
      | 0, hx => exact ⟨c, (Option.some.inj hx).symm, hc, by simp [rg]⟩
      | 1, hx => exact ⟨backW u c, (Option.some.inj hx).symm, by rw [backW_len]; exact hc, by simp [rg]⟩
      | k + 2, hx => simp at hx
    obtain ⟨l, rfl, hl, hk⟩ := key
    refine ⟨_, rfl, ?_⟩
    simp -implicitDefEqProofs only [mwAll, kStr1, kIEnum, kIZip, kAsgG, kAsgG2, kRevD, kCallP2, kInD, asB_bl, datR_nil, datR_cons, datR_map, snapR_dat, vw_dat, dats_dat, fzO_dat, fzO_own, fzs_dat, fz, grd_true, ofO_some, permO, getE, getC, setC, Out.bind_ok, Out.bind_ex, Out.bind_bad, bindS_ok, bindS_ex, bindS_bad, seq_nx, seq_rt, seq_bk, seq_ct, seq_ex, seq_bad, Out.wp_ok, Out.wp_ex, Out.wp_bad, SO.wp_nx, SO.wp_rt, SO.wp_bk, SO.wp_ct, SO.wp_ex, SO.wp_bad, turn_nx, turn_ct, turn_bk, turn_rt, turn_ex, turn_bad, List.getElem?_cons_zero, List.getElem?_cons_succ, List.set_cons_zero, List.set_cons_succ, List.length_cons, List.length_nil, List.length_map, List.length_set, List.length_append, List.map_cons, List.map_nil, List.cons_append, List.nil_append, List.replicate_succ, List.replicate_zero, List.append_nil, List.all_cons, List.all_nil, Option.map_some, Option.map_none, Option.bind_some, Option.bind_none, Option.isSome_some, Option.isSome_none, if_true, if_false, reduceIte, reduceCtorEq, decide_true, decide_false, Bool.true_or, Bool.or_true, Bool.or_false, Bool.false_or, Bool.true_and, Bool.and_true, Bool.and_false, Bool.false_and, Bool.not_true, Bool.not_false, Bool.and_self, Nat.reduceLT, Nat.reduceLeDiff, Nat.reduceAdd, Nat.zero_lt_succ, Int.toNat_natCast, get_last1, get_last2, last_map, drop_map]
    have hl2 : l.length ≤ 1000000000 := by omega
    rw [mLc_nm (e0 := [C.dat (tw u), C.dat (tw w), C.dat (tw c), C.dat (D.lst (List.map tw (rg u c k))), C.dat (tw l), C.non]) (xs := rng 0 l.length) (F := rotD l) (by simp -implicitDefEqProofs only [mwAll, kStr1, kIEnum, kIZip, kAsgG, kAsgG2, kRevD, kCallP2, kInD, asB_bl, datR_nil, datR_cons, datR_map, snapR_dat, vw_dat, dats_dat, fzO_dat, fzO_own, fzs_dat, fz, grd_true, ofO_some, permO, getE, getC, setC, Out.bind_ok, Out.bind_ex, Out.bind_bad, bindS_ok, bindS_ex, bindS_bad, seq_nx, seq_rt, seq_bk, seq_ct, seq_ex, seq_bad, Out.wp_ok, Out.wp_ex, Out.wp_bad, SO.wp_nx, SO.wp_rt, SO.wp_bk, SO.wp_ct, SO.wp_ex, SO.wp_bad, turn_nx, turn_ct, turn_bk, turn_rt, turn_ex, turn_bad, List.getElem?_cons_zero, List.getElem?_cons_succ, List.set_cons_zero, List.set_cons_succ, List.length_cons, List.length_nil, List.length_map, List.length_set, List.length_append, List.map_cons, List.map_nil, List.cons_append, List.nil_append, List.replicate_succ, List.replicate_zero, List.append_nil, List.all_cons, List.all_nil, Option.map_some, Option.map_none, Option.bind_some, Option.bind_none, Option.isSome_some, Option.isSome_none, if_true, if_false, reduceIte, reduceCtorEq, decide_true, decide_false, Bool.true_or, Bool.or_true, Bool.or_false, Bool.false_or, Bool.true_and, Bool.and_true, Bool.and_false, Bool.false_and, Bool.not_true, Bool.not_false, Bool.and_self, Nat.reduceLT, Nat.reduceLeDiff, Nat.reduceAdd, Nat.zero_lt_succ, Int.toNat_natCast, get_last1, get_last2, last_map, drop_map, kIR1_nat hl2]) (by rw [rng_len]; unfold LIM; omega) (by rfl) (by rfl) (fun x hx => ?_)]
    · rw [rots_map]
      simp -implicitDefEqProofs only [mwAll, kStr1, kIEnum, kIZip, kAsgG, kAsgG2, kRevD, kCallP2, kInD, asB_bl, datR_nil, datR_cons, datR_map, snapR_dat, vw_dat, dats_dat, fzO_dat, fzO_own, fzs_dat, fz, grd_true, ofO_some, permO, getE, getC, setC, Out.bind_ok, Out.bind_ex, Out.bind_bad, bindS_ok, bindS_ex, bindS_bad, seq_nx, seq_rt, seq_bk, seq_ct, seq_ex, seq_bad, Out.wp_ok, Out.wp_ex, Out.wp_bad, SO.wp_nx, SO.wp_rt, SO.wp_bk, SO.wp_ct, SO.wp_ex, SO.wp_bad, turn_nx, turn_ct, turn_bk, turn_rt, turn_ex, turn_bad, List.getElem?_cons_zero, List.getElem?_cons_succ, List.set_cons_zero, List.set_cons_succ, List.length_cons, List.length_nil, List.length_map, List.length_set, List.length_append, List.map_cons, List.map_nil, List.cons_append, List.nil_append, List.replicate_succ, List.replicate_zero, List.append_nil, List.all_cons, List.all_nil, Option.map_some, Option.map_none, Option.bind_some, Option.bind_none, Option.isSome_some, Option.isSome_none, if_true, if_false, reduceIte, reduceCtorEq, decide_true, decide_false, Bool.true_or, Bool.or_true, Bool.or_false, Bool.false_or, Bool.true_and, Bool.and_true, Bool.and_false, Bool.false_and, Bool.not_true, Bool.not_false, Bool.and_self, Nat.reduceLT, Nat.reduceLeDiff, Nat.reduceAdd, Nat.zero_lt_succ, Int.toNat_natCast, get_last1, get_last2, last_map, drop_map, oAdd_ls (a := (rg u c k).map tw) (b := (rots l).map tw) (by rw [List.length_map, List.length_map, rots_len]; have := rg_len u c k hc; unfold LIM; omega)]
      exact ⟨C.dat (tw l), by rw [hk, List.map_append]⟩
    · obtain ⟨j, hj, rfl⟩ := rng_mem0 hx
      have e1 : D.tup (List.drop j (List.map D.int l)) = tw (l.drop j) := by unfold tw; rw [List.map_drop]
      have e2 : D.tup (List.take j (List.map D.int l)) = tw (l.take j) := by unfold tw; rw [List.map_take]
      have e3 : rotD l (D.int (j : Nat)) = tw (l.drop j ++ l.take j) := by
        show D.tup ((l.drop j).map D.int ++ (l.take j).map D.int) = _
        unfold tw
        rw [List.map_append]
      rw [e3]
      simp -implicitDefEqProofs only [mwAll, kStr1, kIEnum, kIZip, kAsgG, kAsgG2, kRevD, kCallP2, kInD, asB_bl, datR_nil, datR_cons, datR_map, snapR_dat, vw_dat, dats_dat, fzO_dat, fzO_own, fzs_dat, fz, grd_true, ofO_some, permO, getE, getC, setC, Out.bind_ok, Out.bind_ex, Out.bind_bad, bindS_ok, bindS_ex, bindS_bad, seq_nx, seq_rt, seq_bk, seq_ct, seq_ex, seq_bad, Out.wp_ok, Out.wp_ex, Out.wp_bad, SO.wp_nx, SO.wp_rt, SO.wp_bk, SO.wp_ct, SO.wp_ex, SO.wp_bad, turn_nx, turn_ct, turn_bk, turn_rt, turn_ex, turn_bad, List.getElem?_cons_zero, List.getElem?_cons_succ, List.set_cons_zero, List.set_cons_succ, List.length_cons, List.length_nil, List.length_map, List.length_set, List.length_append, List.map_cons, List.map_nil, List.cons_append, List.nil_append, List.replicate_succ, List.replicate_zero, List.append_nil, List.all_cons, List.all_nil, Option.map_some, Option.map_none, Option.bind_some, Option.bind_none, Option.isSome_some, Option.isSome_none, if_true, if_false, reduceIte, reduceCtorEq, decide_true, decide_false, Bool.true_or, Bool.or_true, Bool.or_false, Bool.false_or, Bool.true_and, Bool.and_true, Bool.and_false, Bool.false_and, Bool.not_true, Bool.not_false, Bool.and_self, Nat.reduceLT, Nat.reduceLeDiff, Nat.reduceAdd, Nat.zero_lt_succ, Int.toNat_natCast, get_last1, get_last2, last_map, drop_map, cutD_take, cutD_drop, e1, e2, oAdd_tw (a := l.drop j) (b := l.take j) (by rw [List.length_drop, List.length_take]; unfold LIM; omega)]
  · obtain ⟨c4, he⟩ := h9
    subst he
    subst hL
    have h2 : rg u c [tw c, tw (backW u c)].length = [] :: (rots c ++ rots (backW u c)) := rfl
    rw [h2]
    have ln := rots_len c
    have ln2 := rots_len (backW u c)
    rw [backW_len] at ln2
    by_cases e : c = []
    · subst e
      have hd : decide ((1 : Int) < (((rots []).length + (rots (backW u [])).length + 1 : Nat) : Int)) = false := rfl
      simp -implicitDefEqProofs only [mwAll, kStr1, kIEnum, kIZip, kAsgG, kAsgG2, kRevD, kCallP2, kInD, asB_bl, datR_nil, datR_cons, datR_map, snapR_dat, vw_dat, dats_dat, fzO_dat, fzO_own, fzs_dat, fz, grd_true, ofO_some, permO, getE, getC, setC, Out.bind_ok, Out.bind_ex, Out.bind_bad, bindS_ok, bindS_ex, bindS_bad, seq_nx, seq_rt, seq_bk, seq_ct, seq_ex, seq_bad, Out.wp_ok, Out.wp_ex, Out.wp_bad, SO.wp_nx, SO.wp_rt, SO.wp_bk, SO.wp_ct, SO.wp_ex, SO.wp_bad, turn_nx, turn_ct, turn_bk, turn_rt, turn_ex, turn_bad, List.getElem?_cons_zero, List.getElem?_cons_succ, List.set_cons_zero, List.set_cons_succ, List.length_cons, List.length_nil, List.length_map, List.length_set, List.length_append, List.map_cons, List.map_nil, List.cons_append, List.nil_append, List.replicate_succ, List.replicate_zero, List.append_nil, List.all_cons, List.all_nil, Option.map_some, Option.map_none, Option.bind_some, Option.bind_none, Option.isSome_some, Option.isSome_none, if_true, if_false, reduceIte, reduceCtorEq, decide_true, decide_false, Bool.true_or, Bool.or_true, Bool.or_false, Bool.false_or, Bool.true_and, Bool.and_true, Bool.and_false, Bool.false_and, Bool.not_true, Bool.not_false, Bool.and_self, Nat.reduceLT, Nat.reduceLeDiff, Nat.reduceAdd, Nat.zero_lt_succ, Int.toNat_natCast, get_last1, get_last2, last_map, drop_map, hd, outC0, outC1, x_outR1]
      exact ⟨rfl, trivial⟩
    · have : 0 < c.length := List.length_pos_iff.mpr e
      have hd : decide ((1 : Int) < (((rots c).length + (rots (backW u c)).length + 1 : Nat) : Int)) = true := decide_eq_true (by omega)
      have h3 : M.cutD (tw [] :: (rots c ++ rots (backW u c)).map tw) (some 1) none = (rots c ++ rots (backW u c)).map tw := cutD_drop _ 1
      have hm := bMin_tw (ks := rots c ++ rots (backW u c)) (fun z => by
        have := congrArg List.length z
        rw [List.length_append, List.length_nil] at this
        omega)
      simp -implicitDefEqProofs only [mwAll, kStr1, kIEnum, kIZip, kAsgG, kAsgG2, kRevD, kCallP2, kInD, asB_bl, datR_nil, datR_cons, datR_map, snapR_dat, vw_dat, dats_dat, fzO_dat, fzO_own, fzs_dat, fz, grd_true, ofO_some, permO, getE, getC, setC, Out.bind_ok, Out.bind_ex, Out.bind_bad, bindS_ok, bindS_ex, bindS_bad, seq_nx, seq_rt, seq_bk, seq_ct, seq_ex, seq_bad, Out.wp_ok, Out.wp_ex, Out.wp_bad, SO.wp_nx, SO.wp_rt, SO.wp_bk, SO.wp_ct, SO.wp_ex, SO.wp_bad, turn_nx, turn_ct, turn_bk, turn_rt, turn_ex, turn_bad, List.getElem?_cons_zero, List.getElem?_cons_succ, List.set_cons_zero, List.set_cons_succ, List.length_cons, List.length_nil, List.length_map, List.length_set, List.length_append, List.map_cons, List.map_nil, List.cons_append, List.nil_append, List.replicate_succ, List.replicate_zero, List.append_nil, List.all_cons, List.all_nil, Option.map_some, Option.map_none, Option.bind_some, Option.bind_none, Option.isSome_some, Option.isSome_none, if_true, if_false, reduceIte, reduceCtorEq, decide_true, decide_false, Bool.true_or, Bool.or_true, Bool.or_false, Bool.false_or, Bool.true_and, Bool.and_true, Bool.and_false, Bool.false_and, Bool.not_true, Bool.not_false, Bool.and_self, Nat.reduceLT, Nat.reduceLeDiff, Nat.reduceAdd, Nat.zero_lt_succ, Int.toNat_natCast, get_last1, get_last2, last_map, drop_map, hd, h3, hm, outC0, outC1, x_outR1]
      exact ⟨rfl, trivial⟩
theorem ring_form_ok {u w : List Int} (U : Undo u) (hu : u.length ≤ 1000) (hw : Wd u w) (hl : w.length ≤ 1000) : mF_ring_form [.dat (tw u), .dat (tw w)] = .ok (.dat (tw (ringW u w))) [.dat (tw u), .dat (tw w)] := by
  have hu' : u.length ≤ LIM := by unfold LIM; omega
  have hl' : w.length ≤ LIM := by unfold LIM; omega
  refine ok_of_wp (wp_mDef rfl ?_)
  unfold mB_ring_form
  simp -implicitDefEqProofs only [mwAll, kStr1, kIEnum, kIZip, kAsgG, kAsgG2, kRevD, kCallP2, kInD, asB_bl, datR_nil, datR_cons, datR_map, snapR_dat, vw_dat, dats_dat, fzO_dat, fzO_own, fzs_dat, fz, grd_true, ofO_some, permO, getE, getC, setC, Out.bind_ok, Out.bind_ex, Out.bind_bad, bindS_ok, bindS_ex, bindS_bad, seq_nx, seq_rt, seq_bk, seq_ct, seq_ex, seq_bad, Out.wp_ok, Out.wp_ex, Out.wp_bad, SO.wp_nx, SO.wp_rt, SO.wp_bk, SO.wp_ct, SO.wp_ex, SO.wp_bad, turn_nx, turn_ct, turn_bk, turn_rt, turn_ex, turn_bad, List.getElem?_cons_zero, List.getElem?_cons_succ, List.set_cons_zero, List.set_cons_succ, List.length_cons, List.length_nil, List.length_map, List.length_set, List.length_append, List.map_cons, List.map_nil, List.cons_append, List.nil_append, List.replicate_succ, List.replicate_zero, List.append_nil, List.all_cons, List.all_nil, Option.map_some, Option.map_none, Option.bind_some, Option.bind_none, Option.isSome_some, Option.isSome_none, if_true, if_false, reduceIte, reduceCtorEq, decide_true, decide_false, Bool.true_or, Bool.or_true, Bool.or_false, Bool.false_or, Bool.true_and, Bool.and_true, Bool.and_false, Bool.false_and, Bool.not_true, Bool.not_false, Bool.and_self, Nat.reduceLT, Nat.reduceLeDiff, Nat.reduceAdd, Nat.zero_lt_succ, Int.toNat_natCast, get_last1, get_last2, last_map, drop_map, is_word_eq (tw_pln w) (tw_len hl'), isWord_tw hw, freely_reduced_eq hu' (fun x hx => by obtain ⟨k, hk⟩ := List.getElem?_of_mem hx; exact U.rng k x hk) hw hl']
  have cw : Wd u (coreW u w) := core_wd hw
  have cl : (coreW u w).length ≤ w.length := core_len u w
  have hr : ∀ x ∈ u, 0 ≤ x ∧ x < (u.length : Int) := fun x hx => by obtain ⟨k, hk⟩ := List.getElem?_of_mem hx; exact U.rng k x hk
  have hfin := ring_fin (u := u) (w := w) (px := fun _ _ _ => False) (c := coreW u w) U cw (by omega)
  with_reducible refine wp_whileSeq (fun n e => ∃ l : List Int, l.length ≤ n ∧ Wd u l ∧ l.length ≤ 1000 ∧ cyc u l = coreW u w ∧ e = [C.dat (tw u), C.dat (tw w), C.dat (tw l), .non, .non, .non]) (fun e => e = [C.dat (tw u), C.dat (tw w), C.dat (tw (coreW u w)), .non, .non, .non]) 1000 (by omega) ?_ (fun k e hk h9 => ?_) fun e h9 => ?_
  · exact ⟨freeW u w, Nat.le_trans (freeW_len u w) hl, hw.free, Nat.le_trans (freeW_len u w) hl, rfl, rfl⟩
  · obtain ⟨l, hn, wl, l1, hc, he⟩ := h9
    subst he
    by_cases h : 1 < l.length
    · obtain ⟨x, m, y, rfl⟩ := ends_of h
      have wx := Wd.head (Wd.left (b := [y]) wl)
      have wy := wl.last
      have l2 : (x :: m ++ [y]).length = m.length + 2 := by simp
      have tx : tw (x :: m ++ [y]) = .tup (.int x :: (m.map D.int ++ [.int y])) := by
        unfold tw
        rw [List.map_append]
        rfl
      rw [cyc_ends] at hc
      have hd : decide ((1 : Int) < ((m.length + 1 + 1 : Nat) : Int)) = true := decide_eq_true (by omega)
      have hA : atI (D.int x :: (m.map D.int ++ [D.int y])) (-1) = some (.int y) := atI_neg1 (xs := D.int x :: m.map D.int) _
      have hC : M.cutD (D.int x :: (m.map D.int ++ [D.int y])) (some 1) (some (-1)) = m.map D.int := cutD_mid _ _ _
      have hA0 : atI (D.int x :: (m.map D.int ++ [D.int y])) 0 = some (.int x) := atI_nat (j := 0) rfl
      rw [tx]
      simp -implicitDefEqProofs only [mwAll, kStr1, kIEnum, kIZip, kAsgG, kAsgG2, kRevD, kCallP2, kInD, asB_bl, datR_nil, datR_cons, datR_map, snapR_dat, vw_dat, dats_dat, fzO_dat, fzO_own, fzs_dat, fz, grd_true, ofO_some, permO, getE, getC, setC, Out.bind_ok, Out.bind_ex, Out.bind_bad, bindS_ok, bindS_ex, bindS_bad, seq_nx, seq_rt, seq_bk, seq_ct, seq_ex, seq_bad, Out.wp_ok, Out.wp_ex, Out.wp_bad, SO.wp_nx, SO.wp_rt, SO.wp_bk, SO.wp_ct, SO.wp_ex, SO.wp_bad, turn_nx, turn_ct, turn_bk, turn_rt, turn_ex, turn_bad, List.getElem?_cons_zero, List.getElem?_cons_succ, List.set_cons_zero, List.set_cons_succ, List.length_cons, List.length_nil, List.length_map, List.length_set, List.length_append, List.map_cons, List.map_nil, List.cons_append, List.nil_append, List.replicate_succ, List.replicate_zero, List.append_nil, List.all_cons, List.all_nil, Option.map_some, Option.map_none, Option.bind_some, Option.bind_none, Option.isSome_some, Option.isSome_none, if_true, if_false, reduceIte, reduceCtorEq, decide_true, decide_false, Bool.true_or, Bool.or_true, Bool.or_false, Bool.false_or, Bool.true_and, Bool.and_true, Bool.and_false, Bool.false_and, Bool.not_true, Bool.not_false, Bool.and_self, Nat.reduceLT, Nat.reduceLeDiff, Nat.reduceAdd, Nat.zero_lt_succ, Int.toNat_natCast, get_last1, get_last2, last_map, drop_map, hd, hA0, hA, hC, un_atI wy.1 wy.2]
      by_cases c : x = un u y
      · rw [if_pos c] at hc
        simp -implicitDefEqProofs only [mwAll, kStr1, kIEnum, kIZip, kAsgG, kAsgG2, kRevD, kCallP2, kInD, asB_bl, datR_nil, datR_cons, datR_map, snapR_dat, vw_dat, dats_dat, fzO_dat, fzO_own, fzs_dat, fz, grd_true, ofO_some, permO, getE, getC, setC, Out.bind_ok, Out.bind_ex, Out.bind_bad, bindS_ok, bindS_ex, bindS_bad, seq_nx, seq_rt, seq_bk, seq_ct, seq_ex, seq_bad, Out.wp_ok, Out.wp_ex, Out.wp_bad, SO.wp_nx, SO.wp_rt, SO.wp_bk, SO.wp_ct, SO.wp_ex, SO.wp_bad, turn_nx, turn_ct, turn_bk, turn_rt, turn_ex, turn_bad, List.getElem?_cons_zero, List.getElem?_cons_succ, List.set_cons_zero, List.set_cons_succ, List.length_cons, List.length_nil, List.length_map, List.length_set, List.length_append, List.map_cons, List.map_nil, List.cons_append, List.nil_append, List.replicate_succ, List.replicate_zero, List.append_nil, List.all_cons, List.all_nil, Option.map_some, Option.map_none, Option.bind_some, Option.bind_none, Option.isSome_some, Option.isSome_none, if_true, if_false, reduceIte, reduceCtorEq, decide_true, decide_false, Bool.true_or, Bool.or_true, Bool.or_false, Bool.false_or, Bool.true_and, Bool.and_true, Bool.and_false, Bool.false_and, Bool.not_true, Bool.not_false, Bool.and_self, Nat.reduceLT, Nat.reduceLeDiff, Nat.reduceAdd, Nat.zero_lt_succ, Int.toNat_natCast, get_last1, get_last2, last_map, drop_map, c]
        exact ⟨m.length, by omega, m, Nat.le_refl _, Wd.tail (Wd.left (b := [y]) wl), by omega, hc, rfl⟩
      · rw [if_neg c] at hc
        simp -implicitDefEqProofs only [mwAll, kStr1, kIEnum, kIZip, kAsgG, kAsgG2, kRevD, kCallP2, kInD, asB_bl, datR_nil, datR_cons, datR_map, snapR_dat, vw_dat, dats_dat, fzO_dat, fzO_own, fzs_dat, fz, grd_true, ofO_some, permO, getE, getC, setC, Out.bind_ok, Out.bind_ex, Out.bind_bad, bindS_ok, bindS_ex, bindS_bad, seq_nx, seq_rt, seq_bk, seq_ct, seq_ex, seq_bad, Out.wp_ok, Out.wp_ex, Out.wp_bad, SO.wp_nx, SO.wp_rt, SO.wp_bk, SO.wp_ct, SO.wp_ex, SO.wp_bad, turn_nx, turn_ct, turn_bk, turn_rt, turn_ex, turn_bad, List.getElem?_cons_zero, List.getElem?_cons_succ, List.set_cons_zero, List.set_cons_succ, List.length_cons, List.length_nil, List.length_map, List.length_set, List.length_append, List.map_cons, List.map_nil, List.cons_append, List.nil_append, List.replicate_succ, List.replicate_zero, List.append_nil, List.all_cons, List.all_nil, Option.map_some, Option.map_none, Option.bind_some, Option.bind_none, Option.isSome_some, Option.isSome_none, if_true, if_false, reduceIte, reduceCtorEq, decide_true, decide_false, Bool.true_or, Bool.or_true, Bool.or_false, Bool.false_or, Bool.true_and, Bool.and_true, Bool.and_false, Bool.false_and, Bool.not_true, Bool.not_false, Bool.and_self, Nat.reduceLT, Nat.reduceLeDiff, Nat.reduceAdd, Nat.zero_lt_succ, Int.toNat_natCast, get_last1, get_last2, last_map, drop_map, c]
        rw [← hc, tx]
    · have hc2 : coreW u w = l := by
        rw [← hc]
        rcases short_of h with rfl | ⟨x, rfl⟩
        · exact cyc_nil u
        · exact cyc_one u x
      have hd : decide ((1 : Int) < ((l.length : Nat) : Int)) = false := decide_eq_false (by omega)
      simp -implicitDefEqProofs only [mwAll, kStr1, kIEnum, kIZip, kAsgG, kAsgG2, kRevD, kCallP2, kInD, asB_bl, datR_nil, datR_cons, datR_map, snapR_dat, vw_dat, dats_dat, fzO_dat, fzO_own, fzs_dat, fz, grd_true, ofO_some, permO, getE, getC, setC, Out.bind_ok, Out.bind_ex, Out.bind_bad, bindS_ok, bindS_ex, bindS_bad, seq_nx, seq_rt, seq_bk, seq_ct, seq_ex, seq_bad, Out.wp_ok, Out.wp_ex, Out.wp_bad, SO.wp_nx, SO.wp_rt, SO.wp_bk, SO.wp_ct, SO.wp_ex, SO.wp_bad, turn_nx, turn_ct, turn_bk, turn_rt, turn_ex, turn_bad, List.getElem?_cons_zero, List.getElem?_cons_succ, List.set_cons_zero, List.set_cons_succ, List.length_cons, List.length_nil, List.length_map, List.length_set, List.length_append, List.map_cons, List.map_nil, List.cons_append, List.nil_append, List.replicate_succ, List.replicate_zero, List.append_nil, List.all_cons, List.all_nil, Option.map_some, Option.map_none, Option.bind_some, Option.bind_none, Option.isSome_some, Option.isSome_none, if_true, if_false, reduceIte, reduceCtorEq, decide_true, decide_false, Bool.true_or, Bool.or_true, Bool.or_false, Bool.false_or, Bool.true_and, Bool.and_true, Bool.and_false, Bool.false_and, Bool.not_true, Bool.not_false, Bool.and_self, Nat.reduceLT, Nat.reduceLeDiff, Nat.reduceAdd, Nat.zero_lt_succ, Int.toNat_natCast, get_last1, get_last2, last_map, drop_map, hd, hc2]
  · subst h9
    exact hfin
def kLawRings : MS := (mSeq (mIf (mB (mOp oEq (mCB (one bLen) (mCons (mVar 1) mNil)) (mC (D.int 0)))) (mRet (mTup mNil)) mNext)
      (mSeq (mAsg 3 (mFz (mCall mF_law_back (mCons (mFz (mVar 0)) (mCons (mFz (mVar 1)) mNil)))))
        (mSeq
          (mAsg 4
            (mFz
              (mOp oAdd
                (mLc (mIR1 (mCons (mCB (one bLen) (mCons (mVar 1) mNil)) mNil)) (gNm 2) mYes
                  (mFz (mOp oAdd (mSl (mVar 1) (mPart (mVar 2)) mNoP) (mSl (mVar 1) mNoP (mPart (mVar 2))))) [2])
                (mLc (mIR1 (mCons (mCB (one bLen) (mCons (mVar 1) mNil)) mNil)) (gNm 2) mYes
                  (mFz (mOp oAdd (mSl (mVar 3) (mPart (mVar 2)) mNoP) (mSl (mVar 3) mNoP (mPart (mVar 2))))) [2]))))
          (mRet (mCB (one bMin) (mCons (mVar 4) mNil))))))
theorem law_ring_fin {u w c : List Int} {c2 : C} {px : PX} (o2 : c2.own = false) (cw : Wd u c) (hc : c.length ≤ 1000) : SO.wp { nx := fun e => R.dat D.non = R.dat (tw (ringOf u c)) ∧ outCs [C.dat (tw u), C.dat (tw w)] e = [C.dat (tw u), C.dat (tw w)], rt := fun r e => Out.wp (fun r e => r = R.dat (tw (ringOf u c)) ∧ outCs [C.dat (tw u), C.dat (tw w)] e = [C.dat (tw u), C.dat (tw w)]) (fun x x_1 x_2 => False) (outR (fun i => i == 0) 2 r e) } px (kLawRings [C.dat (tw u), C.dat (tw c), c2, .non, .non]) := by
  have hc2 : c.length ≤ 1000000000 := by omega
  have hd : decide (((c.length : Nat) : Int) = 0) = decide (c = []) := by
    by_cases e : c = []
    · subst e; rfl
    · rw [decide_eq_false e, decide_eq_false]
      have := List.length_pos_iff.mpr e
      omega
  unfold kLawRings
  by_cases e : c = []
  · subst e
    have h0 : decide (((List.length ([] : List Int) : Nat) : Int) = 0) = true := rfl
    simp -implicitDefEqProofs only [mwAll, kStr1, kIEnum, kIZip, kAsgG, kAsgG2, kRevD, kCallP2, kInD, asB_bl, datR_nil, datR_cons, datR_map, snapR_dat, vw_dat, dats_dat, fzO_dat, fzO_own, fzs_dat, fz, grd_true, ofO_some, permO, getE, getC, setC, Out.bind_ok, Out.bind_ex, Out.bind_bad, bindS_ok, bindS_ex, bindS_bad, seq_nx, seq_rt, seq_bk, seq_ct, seq_ex, seq_bad, Out.wp_ok, Out.wp_ex, Out.wp_bad, SO.wp_nx, SO.wp_rt, SO.wp_bk, SO.wp_ct, SO.wp_ex, SO.wp_bad, turn_nx, turn_ct, turn_bk, turn_rt, turn_ex, turn_bad, List.getElem?_cons_zero, List.getElem?_cons_succ, List.set_cons_zero, List.set_cons_succ, List.length_cons, List.length_nil, List.length_map, List.length_set, List.length_append, List.map_cons, List.map_nil, List.cons_append, List.nil_append, List.replicate_succ, List.replicate_zero, List.append_nil, List.all_cons, List.all_nil, Option.map_some, Option.map_none, Option.bind_some, Option.bind_none, Option.isSome_some, Option.isSome_none, if_true, if_false, reduceIte, reduceCtorEq, decide_true, decide_false, Bool.true_or, Bool.or_true, Bool.or_false, Bool.false_or, Bool.true_and, Bool.and_true, Bool.and_false, Bool.false_and, Bool.not_true, Bool.not_false, Bool.and_self, Nat.reduceLT, Nat.reduceLeDiff, Nat.reduceAdd, Nat.zero_lt_succ, Int.toNat_natCast, get_last1, get_last2, last_map, drop_map, h0, outC0, outC1, x_outR1]
    exact ⟨rfl, rfl⟩
  · have h0 : decide (((c.length : Nat) : Int) = 0) = false := by rw [hd]; exact decide_eq_false e
    simp -implicitDefEqProofs only [mwAll, kStr1, kIEnum, kIZip, kAsgG, kAsgG2, kRevD, kCallP2, kInD, asB_bl, datR_nil, datR_cons, datR_map, snapR_dat, vw_dat, dats_dat, fzO_dat, fzO_own, fzs_dat, fz, grd_true, ofO_some, permO, getE, getC, setC, Out.bind_ok, Out.bind_ex, Out.bind_bad, bindS_ok, bindS_ex, bindS_bad, seq_nx, seq_rt, seq_bk, seq_ct, seq_ex, seq_bad, Out.wp_ok, Out.wp_ex, Out.wp_bad, SO.wp_nx, SO.wp_rt, SO.wp_bk, SO.wp_ct, SO.wp_ex, SO.wp_bad, turn_nx, turn_ct, turn_bk, turn_rt, turn_ex, turn_bad, List.getElem?_cons_zero, List.getElem?_cons_succ, List.set_cons_zero, List.set_cons_succ, List.length_cons, List.length_nil, List.length_map, List.length_set, List.length_append, List.map_cons, List.map_nil, List.cons_append, List.nil_append, List.replicate_succ, List.replicate_zero, List.append_nil, List.all_cons, List.all_nil, Option.map_some, Option.map_none, Option.bind_some, Option.bind_none, Option.isSome_some, Option.isSome_none, if_true, if_false, reduceIte, reduceCtorEq, decide_true, decide_false, Bool.true_or, Bool.or_true, Bool.or_false, Bool.false_or, Bool.true_and, Bool.and_true, Bool.and_false, Bool.false_and, Bool.not_true, Bool.not_false, Bool.and_self, Nat.reduceLT, Nat.reduceLeDiff, Nat.reduceAdd, Nat.zero_lt_succ, Int.toNat_natCast, get_last1, get_last2, last_map, drop_map, h0, law_back_eq cw (show c.length ≤ LIM by unfold LIM; omega)]
    have pos := List.length_pos_iff.mpr e
    have body : ∀ (l : List Int) (j : Nat), l.length ≤ 1000 → oAdd (D.tup (List.drop j (List.map D.int l))) (D.tup (List.take j (List.map D.int l))) = some (.dat (rotD l (D.int (j : Nat)))) := fun l j hl => by
      have e1 : D.tup (List.drop j (List.map D.int l)) = tw (l.drop j) := by unfold tw; rw [List.map_drop]
      have e2 : D.tup (List.take j (List.map D.int l)) = tw (l.take j) := by unfold tw; rw [List.map_take]
      have e3 : rotD l (D.int (j : Nat)) = tw (l.drop j ++ l.take j) := by
        show D.tup ((l.drop j).map D.int ++ (l.take j).map D.int) = _
        unfold tw
        rw [List.map_append]
      rw [e1, e2, e3]
      exact oAdd_tw (a := l.drop j) (b := l.take j) (by rw [List.length_drop, List.length_take]; unfold LIM; omega)
    rw [mLc_nm (e0 := [C.dat (tw u), C.dat (tw c), c2, C.dat (tw (backW u c)), .non]) (xs := rng 0 c.length) (F := rotD c) (by simp -implicitDefEqProofs only [mwAll, kStr1, kIEnum, kIZip, kAsgG, kAsgG2, kRevD, kCallP2, kInD, asB_bl, datR_nil, datR_cons, datR_map, snapR_dat, vw_dat, dats_dat, fzO_dat, fzO_own, fzs_dat, fz, grd_true, ofO_some, permO, getE, getC, setC, Out.bind_ok, Out.bind_ex, Out.bind_bad, bindS_ok, bindS_ex, bindS_bad, seq_nx, seq_rt, seq_bk, seq_ct, seq_ex, seq_bad, Out.wp_ok, Out.wp_ex, Out.wp_bad, SO.wp_nx, SO.wp_rt, SO.wp_bk, SO.wp_ct, SO.wp_ex, SO.wp_bad, turn_nx, turn_ct, turn_bk, turn_rt, turn_ex, turn_bad, List.getElem?_cons_zero, List.getElem?_cons_succ, List.set_cons_zero, List.set_cons_succ, List.length_cons, List.length_nil, List.length_map, List.length_set, List.length_append, List.map_cons, List.map_nil, List.cons_append, List.nil_append, List.replicate_succ, List.replicate_zero, List.append_nil, List.all_cons, List.all_nil, Option.map_some, Option.map_none, Option.bind_some, Option.bind_none, Option.isSome_some, Option.isSome_none, if_true, if_false, reduceIte, reduceCtorEq, decide_true, decide_false, Bool.true_or, Bool.or_true, Bool.or_false, Bool.false_or, Bool.true_and, Bool.and_true, Bool.and_false, Bool.false_and, Bool.not_true, Bool.not_false, Bool.and_self, Nat.reduceLT, Nat.reduceLeDiff, Nat.reduceAdd, Nat.zero_lt_succ, Int.toNat_natCast, get_last1, get_last2, last_map, drop_map, kIR1_nat hc2]) (by rw [rng_len]; unfold LIM; omega) (by rfl) o2 (fun x hx => ?_)]
    · rw [rots_map]
      have hb : (backW u c).length = c.length := backW_len u c
      simp -implicitDefEqProofs only [mwAll, kStr1, kIEnum, kIZip, kAsgG, kAsgG2, kRevD, kCallP2, kInD, asB_bl, datR_nil, datR_cons, datR_map, snapR_dat, vw_dat, dats_dat, fzO_dat, fzO_own, fzs_dat, fz, grd_true, ofO_some, permO, getE, getC, setC, Out.bind_ok, Out.bind_ex, Out.bind_bad, bindS_ok, bindS_ex, bindS_bad, seq_nx, seq_rt, seq_bk, seq_ct, seq_ex, seq_bad, Out.wp_ok, Out.wp_ex, Out.wp_bad, SO.wp_nx, SO.wp_rt, SO.wp_bk, SO.wp_ct, SO.wp_ex, SO.wp_bad, turn_nx, turn_ct, turn_bk, turn_rt, turn_ex, turn_bad, List.getElem?_cons_zero, List.getElem?_cons_succ, List.set_cons_zero, List.set_cons_succ, List.length_cons, List.length_nil, List.length_map, List.length_set, List.length_append, List.map_cons, List.map_nil, List.cons_append, List.nil_append, List.replicate_succ, List.replicate_zero, List.append_nil, List.all_cons, List.all_nil, Option.map_some, Option.map_none, Option.bind_some, Option.bind_none, Option.isSome_some, Option.isSome_none, if_true, if_false, reduceIte, reduceCtorEq, decide_true, decide_false, Bool.true_or, Bool.or_true, Bool.or_false, Bool.false_or, Bool.true_and, Bool.and_true, Bool.and_false, Bool.false_and, Bool.not_true, Bool.not_false, Bool.and_self, Nat.reduceLT, Nat.reduceLeDiff, Nat.reduceAdd, Nat.zero_lt_succ, Int.toNat_natCast, get_last1, get_last2, last_map, drop_map]
      rw [mLc_nm (e0 := [C.dat (tw u), C.dat (tw c), c2, C.dat (tw (backW u c)), .non]) (xs := rng 0 c.length) (F := rotD (backW u c)) (by simp -implicitDefEqProofs only [mwAll, kStr1, kIEnum, kIZip, kAsgG, kAsgG2, kRevD, kCallP2, kInD, asB_bl, datR_nil, datR_cons, datR_map, snapR_dat, vw_dat, dats_dat, fzO_dat, fzO_own, fzs_dat, fz, grd_true, ofO_some, permO, getE, getC, setC, Out.bind_ok, Out.bind_ex, Out.bind_bad, bindS_ok, bindS_ex, bindS_bad, seq_nx, seq_rt, seq_bk, seq_ct, seq_ex, seq_bad, Out.wp_ok, Out.wp_ex, Out.wp_bad, SO.wp_nx, SO.wp_rt, SO.wp_bk, SO.wp_ct, SO.wp_ex, SO.wp_bad, turn_nx, turn_ct, turn_bk, turn_rt, turn_ex, turn_bad, List.getElem?_cons_zero, List.getElem?_cons_succ, List.set_cons_zero, List.set_cons_succ, List.length_cons, List.length_nil, List.length_map, List.length_set, List.length_append, List.map_cons, List.map_nil, List.cons_append, List.nil_append, List.replicate_succ, List.replicate_zero, List.append_nil, List.all_cons, List.all_nil, Option.map_some, Option.map_none, Option.bind_some, Option.bind_none, Option.isSome_some, Option.isSome_none, if_true, if_false, reduceIte, reduceCtorEq, decide_true, decide_false, Bool.true_or, Bool.or_true, Bool.or_false, Bool.false_or, Bool.true_and, Bool.and_true, Bool.and_false, Bool.false_and, Bool.not_true, Bool.not_false, Bool.and_self, Nat.reduceLT, Nat.reduceLeDiff, Nat.reduceAdd, Nat.zero_lt_succ, Int.toNat_natCast, get_last1, get_last2, last_map, drop_map, kIR1_nat hc2]) (by rw [rng_len]; unfold LIM; omega) (by rfl) o2 (fun x hx => ?_)]
      · have e9 := rots_map (backW u c)
        rw [hb] at e9
        rw [e9]
        have hm := bMin_tw (ks := rots c ++ rots (backW u c)) (fun z => by
          have := congrArg List.length z
          have ln := rots_len c
          rw [List.length_append, List.length_nil] at this
          omega)
        rw [List.map_append] at hm
        simp -implicitDefEqProofs only [mwAll, kStr1, kIEnum, kIZip, kAsgG, kAsgG2, kRevD, kCallP2, kInD, asB_bl, datR_nil, datR_cons, datR_map, snapR_dat, vw_dat, dats_dat, fzO_dat, fzO_own, fzs_dat, fz, grd_true, ofO_some, permO, getE, getC, setC, Out.bind_ok, Out.bind_ex, Out.bind_bad, bindS_ok, bindS_ex, bindS_bad, seq_nx, seq_rt, seq_bk, seq_ct, seq_ex, seq_bad, Out.wp_ok, Out.wp_ex, Out.wp_bad, SO.wp_nx, SO.wp_rt, SO.wp_bk, SO.wp_ct, SO.wp_ex, SO.wp_bad, turn_nx, turn_ct, turn_bk, turn_rt, turn_ex, turn_bad, List.getElem?_cons_zero, List.getElem?_cons_succ, List.set_cons_zero, List.set_cons_succ, List.length_cons, List.length_nil, List.length_map, List.length_set, List.length_append, List.map_cons, List.map_nil, List.cons_append, List.nil_append, List.replicate_succ, List.replicate_zero, List.append_nil, List.all_cons, List.all_nil, Option.map_some, Option.map_none, Option.bind_some, Option.bind_none, Option.isSome_some, Option.isSome_none, if_true, if_false, reduceIte, reduceCtorEq, decide_true, decide_false, Bool.true_or, Bool.or_true, Bool.or_false, Bool.false_or, Bool.true_and, Bool.and_true, Bool.and_false, Bool.false_and, Bool.not_true, Bool.not_false, Bool.and_self, Nat.reduceLT, Nat.reduceLeDiff, Nat.reduceAdd, Nat.zero_lt_succ, Int.toNat_natCast, get_last1, get_last2, last_map, drop_map, op2_oo, oAdd_ls (a := (rots c).map tw) (b := (rots (backW u c)).map tw) (by rw [List.length_map, List.length_map, rots_len, rots_len, hb]; unfold LIM; omega), hm, outC0, outC1, x_outR1]
        exact ⟨rfl, trivial⟩
      · obtain ⟨j, hj, rfl⟩ := rng_mem0 hx
        simp -implicitDefEqProofs only [mwAll, kStr1, kIEnum, kIZip, kAsgG, kAsgG2, kRevD, kCallP2, kInD, asB_bl, datR_nil, datR_cons, datR_map, snapR_dat, vw_dat, dats_dat, fzO_dat, fzO_own, fzs_dat, fz, grd_true, ofO_some, permO, getE, getC, setC, Out.bind_ok, Out.bind_ex, Out.bind_bad, bindS_ok, bindS_ex, bindS_bad, seq_nx, seq_rt, seq_bk, seq_ct, seq_ex, seq_bad, Out.wp_ok, Out.wp_ex, Out.wp_bad, SO.wp_nx, SO.wp_rt, SO.wp_bk, SO.wp_ct, SO.wp_ex, SO.wp_bad, turn_nx, turn_ct, turn_bk, turn_rt, turn_ex, turn_bad, List.getElem?_cons_zero, List.getElem?_cons_succ, List.set_cons_zero, List.set_cons_succ, List.length_cons, List.length_nil, List.length_map, List.length_set, List.length_append, List.map_cons, List.map_nil, List.cons_append, List.nil_append, List.replicate_succ, List.replicate_zero, List.append_nil, List.all_cons, List.all_nil, Option.map_some, Option.map_none, Option.bind_some, Option.bind_none, Option.isSome_some, Option.isSome_none, if_true, if_false, reduceIte, reduceCtorEq, decide_true, decide_false, Bool.true_or, Bool.or_true, Bool.or_false, Bool.false_or, Bool.true_and, Bool.and_true, Bool.and_false, Bool.false_and, Bool.not_true, Bool.not_false, Bool.and_self, Nat.reduceLT, Nat.reduceLeDiff, Nat.reduceAdd, Nat.zero_lt_succ, Int.toNat_natCast, get_last1, get_last2, last_map, drop_map, cutD_take, cutD_drop, body (backW u c) j (by omega)]
    · obtain ⟨j, hj, rfl⟩ := rng_mem0 hx
      simp -implicitDefEqProofs only [mwAll, kStr1, kIEnum, kIZip, kAsgG, kAsgG2, kRevD, kCallP2, kInD, asB_bl, datR_nil, datR_cons, datR_map, snapR_dat, vw_dat, dats_dat, fzO_dat, fzO_own, fzs_dat, fz, grd_true, ofO_some, permO, getE, getC, setC, Out.bind_ok, Out.bind_ex, Out.bind_bad, bindS_ok, bindS_ex, bindS_bad, seq_nx, seq_rt, seq_bk, seq_ct, seq_ex, seq_bad, Out.wp_ok, Out.wp_ex, Out.wp_bad, SO.wp_nx, SO.wp_rt, SO.wp_bk, SO.wp_ct, SO.wp_ex, SO.wp_bad, turn_nx, turn_ct, turn_bk, turn_rt, turn_ex, turn_bad, List.getElem?_cons_zero, List.getElem?_cons_succ, List.set_cons_zero, List.set_cons_succ, List.length_cons, List.length_nil, List.length_map, List.length_set, List.length_append, List.map_cons, List.map_nil, List.cons_append, List.nil_append, List.replicate_succ, List.replicate_zero, List.append_nil, List.all_cons, List.all_nil, Option.map_some, Option.map_none, Option.bind_some, Option.bind_none, Option.isSome_some, Option.isSome_none, if_true, if_false, reduceIte, reduceCtorEq, decide_true, decide_false, Bool.true_or, Bool.or_true, Bool.or_false, Bool.false_or, Bool.true_and, Bool.and_true, Bool.and_false, Bool.false_and, Bool.not_true, Bool.not_false, Bool.and_self, Nat.reduceLT, Nat.reduceLeDiff, Nat.reduceAdd, Nat.zero_lt_succ, Int.toNat_natCast, get_last1, get_last2, last_map, drop_map, cutD_take, cutD_drop, body c j hc]
theorem law_ring_ok {u w : List Int} (U : Undo u) (hu : u.length ≤ 1000) (hw : Wd u w) (hl : w.length ≤ 1000) : mF_law_ring [.dat (tw u), .dat (tw w)] = .ok (.dat (tw (ringW u w))) [.dat (tw u), .dat (tw w)] := by
  have hu' : u.length ≤ LIM := by unfold LIM; omega
  have hl' : w.length ≤ LIM := by unfold LIM; omega
  have cw : Wd u (coreW u w) := core_wd hw
  have cl : (coreW u w).length ≤ w.length := core_len u w
  have hr : ∀ x ∈ u, 0 ≤ x ∧ x < (u.length : Int) := fun x hx => by obtain ⟨k, hk⟩ := List.getElem?_of_mem hx; exact U.rng k x hk
  have fl := freeW_len u w
  refine ok_of_wp (wp_mDef rfl ?_)
  unfold mB_law_ring
  simp -implicitDefEqProofs only [mwAll, kStr1, kIEnum, kIZip, kAsgG, kAsgG2, kRevD, kCallP2, kInD, asB_bl, datR_nil, datR_cons, datR_map, snapR_dat, vw_dat, dats_dat, fzO_dat, fzO_own, fzs_dat, fz, grd_true, ofO_some, permO, getE, getC, setC, Out.bind_ok, Out.bind_ex, Out.bind_bad, bindS_ok, bindS_ex, bindS_bad, seq_nx, seq_rt, seq_bk, seq_ct, seq_ex, seq_bad, Out.wp_ok, Out.wp_ex, Out.wp_bad, SO.wp_nx, SO.wp_rt, SO.wp_bk, SO.wp_ct, SO.wp_ex, SO.wp_bad, turn_nx, turn_ct, turn_bk, turn_rt, turn_ex, turn_bad, List.getElem?_cons_zero, List.getElem?_cons_succ, List.set_cons_zero, List.set_cons_succ, List.length_cons, List.length_nil, List.length_map, List.length_set, List.length_append, List.map_cons, List.map_nil, List.cons_append, List.nil_append, List.replicate_succ, List.replicate_zero, List.append_nil, List.all_cons, List.all_nil, Option.map_some, Option.map_none, Option.bind_some, Option.bind_none, Option.isSome_some, Option.isSome_none, if_true, if_false, reduceIte, reduceCtorEq, decide_true, decide_false, Bool.true_or, Bool.or_true, Bool.or_false, Bool.false_or, Bool.true_and, Bool.and_true, Bool.and_false, Bool.false_and, Bool.not_true, Bool.not_false, Bool.and_self, Nat.reduceLT, Nat.reduceLeDiff, Nat.reduceAdd, Nat.zero_lt_succ, Int.toNat_natCast, get_last1, get_last2, last_map, drop_map, law_reduced_eq hu' hr hw hl' (fun x h0 h1 => U.un_un h0 h1), kIR1_nat (show (freeW u w).length ≤ 1000000000 by omega)]
  with_reducible refine wp_forSeq (fun k e => ∃ (l : List Int) (c2 : C), c2.own = false ∧ Wd u l ∧ l.length ≤ 1000 ∧ cyc u l = coreW u w ∧ (l = coreW u w ∨ l.length + k ≤ (freeW u w).length) ∧ e = [C.dat (tw u), C.dat (tw l), c2, .non, .non]) ?_ (fun k x e hx h9 => ?_) fun e h9 => ?_
  · exact ⟨freeW u w, _, rfl, hw.free, by omega, rfl, .inr (Nat.le_refl _), rfl⟩
  · obtain ⟨l, c2, o2, wl, l1, hc, hs, he⟩ := h9
    subst he
    refine ⟨_, rfl, ?_⟩
    by_cases h : 1 < l.length
    · obtain ⟨x, m, y, rfl⟩ := ends_of h
      have wx := Wd.head (Wd.left (b := [y]) wl)
      have wy := wl.last
      have l2 : (x :: m ++ [y]).length = m.length + 2 := by simp
      have tx : tw (x :: m ++ [y]) = .tup (.int x :: (m.map D.int ++ [.int y])) := by
        unfold tw
        rw [List.map_append]
        rfl
      rw [cyc_ends] at hc
      have hd : decide ((1 : Int) < ((m.length + 1 + 1 : Nat) : Int)) = true := decide_eq_true (by omega)
      have hA : atI (D.int x :: (m.map D.int ++ [D.int y])) (-1) = some (.int y) := atI_neg1 (xs := D.int x :: m.map D.int) _
      have hC : M.cutD (D.int x :: (m.map D.int ++ [D.int y])) (some 1) (some (-1)) = m.map D.int := cutD_mid _ _ _
      have hA0 : atI (D.int x :: (m.map D.int ++ [D.int y])) 0 = some (.int x) := atI_nat (j := 0) rfl
      rw [tx]
      simp -implicitDefEqProofs only [mwAll, kStr1, kIEnum, kIZip, kAsgG, kAsgG2, kRevD, kCallP2, kInD, asB_bl, datR_nil, datR_cons, datR_map, snapR_dat, vw_dat, dats_dat, fzO_dat, fzO_own, fzs_dat, fz, grd_true, ofO_some, permO, getE, getC, setC, Out.bind_ok, Out.bind_ex, Out.bind_bad, bindS_ok, bindS_ex, bindS_bad, seq_nx, seq_rt, seq_bk, seq_ct, seq_ex, seq_bad, Out.wp_ok, Out.wp_ex, Out.wp_bad, SO.wp_nx, SO.wp_rt, SO.wp_bk, SO.wp_ct, SO.wp_ex, SO.wp_bad, turn_nx, turn_ct, turn_bk, turn_rt, turn_ex, turn_bad, List.getElem?_cons_zero, List.getElem?_cons_succ, List.set_cons_zero, List.set_cons_succ, List.length_cons, List.length_nil, List.length_map, List.length_set, List.length_append, List.map_cons, List.map_nil, List.cons_append, List.nil_append, List.replicate_succ, List.replicate_zero, List.append_nil, List.all_cons, List.all_nil, Option.map_some, Option.map_none, Option.bind_some, Option.bind_none, Option.isSome_some, Option.isSome_none, if_true, if_false, reduceIte, reduceCtorEq, decide_true, decide_false, Bool.true_or, Bool.or_true, Bool.or_false, Bool.false_or, Bool.true_and, Bool.and_true, Bool.and_false, Bool.false_and, Bool.not_true, Bool.not_false, Bool.and_self, Nat.reduceLT, Nat.reduceLeDiff, Nat.reduceAdd, Nat.zero_lt_succ, Int.toNat_natCast, get_last1, get_last2, last_map, drop_map, hd, hA0, hA, hC, un_atI wx.1 wx.2]
      by_cases c : un u x = y
      · have c2 : x = un u y := by rw [← c, U.un_un wx.1 wx.2]
        rw [if_pos c2] at hc
        simp -implicitDefEqProofs only [mwAll, kStr1, kIEnum, kIZip, kAsgG, kAsgG2, kRevD, kCallP2, kInD, asB_bl, datR_nil, datR_cons, datR_map, snapR_dat, vw_dat, dats_dat, fzO_dat, fzO_own, fzs_dat, fz, grd_true, ofO_some, permO, getE, getC, setC, Out.bind_ok, Out.bind_ex, Out.bind_bad, bindS_ok, bindS_ex, bindS_bad, seq_nx, seq_rt, seq_bk, seq_ct, seq_ex, seq_bad, Out.wp_ok, Out.wp_ex, Out.wp_bad, SO.wp_nx, SO.wp_rt, SO.wp_bk, SO.wp_ct, SO.wp_ex, SO.wp_bad, turn_nx, turn_ct, turn_bk, turn_rt, turn_ex, turn_bad, List.getElem?_cons_zero, List.getElem?_cons_succ, List.set_cons_zero, List.set_cons_succ, List.length_cons, List.length_nil, List.length_map, List.length_set, List.length_append, List.map_cons, List.map_nil, List.cons_append, List.nil_append, List.replicate_succ, List.replicate_zero, List.append_nil, List.all_cons, List.all_nil, Option.map_some, Option.map_none, Option.bind_some, Option.bind_none, Option.isSome_some, Option.isSome_none, if_true, if_false, reduceIte, reduceCtorEq, decide_true, decide_false, Bool.true_or, Bool.or_true, Bool.or_false, Bool.false_or, Bool.true_and, Bool.and_true, Bool.and_false, Bool.false_and, Bool.not_true, Bool.not_false, Bool.and_self, Nat.reduceLT, Nat.reduceLeDiff, Nat.reduceAdd, Nat.zero_lt_succ, Int.toNat_natCast, get_last1, get_last2, last_map, drop_map, c, hC]
        refine ⟨m, _, rfl, Wd.tail (Wd.left (b := [y]) wl), by omega, hc, .inr ?_, rfl⟩
        rcases hs with hs | hs
        · have := cyc_len u _ m (Nat.le_refl _)
          rw [hc, ← hs] at this
          omega
        · omega
      · have c2 : ¬ x = un u y := fun z => c (by rw [z, U.un_un wy.1 wy.2])
        rw [if_neg c2] at hc
        simp -implicitDefEqProofs only [mwAll, kStr1, kIEnum, kIZip, kAsgG, kAsgG2, kRevD, kCallP2, kInD, asB_bl, datR_nil, datR_cons, datR_map, snapR_dat, vw_dat, dats_dat, fzO_dat, fzO_own, fzs_dat, fz, grd_true, ofO_some, permO, getE, getC, setC, Out.bind_ok, Out.bind_ex, Out.bind_bad, bindS_ok, bindS_ex, bindS_bad, seq_nx, seq_rt, seq_bk, seq_ct, seq_ex, seq_bad, Out.wp_ok, Out.wp_ex, Out.wp_bad, SO.wp_nx, SO.wp_rt, SO.wp_bk, SO.wp_ct, SO.wp_ex, SO.wp_bad, turn_nx, turn_ct, turn_bk, turn_rt, turn_ex, turn_bad, List.getElem?_cons_zero, List.getElem?_cons_succ, List.set_cons_zero, List.set_cons_succ, List.length_cons, List.length_nil, List.length_map, List.length_set, List.length_append, List.map_cons, List.map_nil, List.cons_append, List.nil_append, List.replicate_succ, List.replicate_zero, List.append_nil, List.all_cons, List.all_nil, Option.map_some, Option.map_none, Option.bind_some, Option.bind_none, Option.isSome_some, Option.isSome_none, if_true, if_false, reduceIte, reduceCtorEq, decide_true, decide_false, Bool.true_or, Bool.or_true, Bool.or_false, Bool.false_or, Bool.true_and, Bool.and_true, Bool.and_false, Bool.false_and, Bool.not_true, Bool.not_false, Bool.and_self, Nat.reduceLT, Nat.reduceLeDiff, Nat.reduceAdd, Nat.zero_lt_succ, Int.toNat_natCast, get_last1, get_last2, last_map, drop_map, c]
        refine ⟨x :: m ++ [y], _, rfl, wl, l1, by rw [cyc_ends, if_neg c2]; exact hc, .inl hc, by rw [tx]⟩
    · have hc2 : coreW u w = l := by
        rw [← hc]
        rcases short_of h with rfl | ⟨x, rfl⟩
        · exact cyc_nil u
        · exact cyc_one u x
      have hd : decide ((1 : Int) < ((l.length : Nat) : Int)) = false := decide_eq_false (by omega)
      simp -implicitDefEqProofs only [mwAll, kStr1, kIEnum, kIZip, kAsgG, kAsgG2, kRevD, kCallP2, kInD, asB_bl, datR_nil, datR_cons, datR_map, snapR_dat, vw_dat, dats_dat, fzO_dat, fzO_own, fzs_dat, fz, grd_true, ofO_some, permO, getE, getC, setC, Out.bind_ok, Out.bind_ex, Out.bind_bad, bindS_ok, bindS_ex, bindS_bad, seq_nx, seq_rt, seq_bk, seq_ct, seq_ex, seq_bad, Out.wp_ok, Out.wp_ex, Out.wp_bad, SO.wp_nx, SO.wp_rt, SO.wp_bk, SO.wp_ct, SO.wp_ex, SO.wp_bad, turn_nx, turn_ct, turn_bk, turn_rt, turn_ex, turn_bad, List.getElem?_cons_zero, List.getElem?_cons_succ, List.set_cons_zero, List.set_cons_succ, List.length_cons, List.length_nil, List.length_map, List.length_set, List.length_append, List.map_cons, List.map_nil, List.cons_append, List.nil_append, List.replicate_succ, List.replicate_zero, List.append_nil, List.all_cons, List.all_nil, Option.map_some, Option.map_none, Option.bind_some, Option.bind_none, Option.isSome_some, Option.isSome_none, if_true, if_false, reduceIte, reduceCtorEq, decide_true, decide_false, Bool.true_or, Bool.or_true, Bool.or_false, Bool.false_or, Bool.true_and, Bool.and_true, Bool.and_false, Bool.false_and, Bool.not_true, Bool.not_false, Bool.and_self, Nat.reduceLT, Nat.reduceLeDiff, Nat.reduceAdd, Nat.zero_lt_succ, Int.toNat_natCast, get_last1, get_last2, last_map, drop_map, hd]
      exact ⟨l, _, rfl, wl, l1, hc, .inl hc2.symm, rfl⟩
  · obtain ⟨l, c2, o2, wl, l1, hc, hs, he⟩ := h9
    have e1 : l = coreW u w := by
      rcases hs with hs | hs
      · exact hs
      · rw [rng_len] at hs
        have : l = [] := List.eq_nil_of_length_eq_zero (by omega)
        rw [← hc, this, cyc_nil]
    subst e1
    subst he
    exact law_ring_fin o2 cw (by omega)
def strI (x : Int) : Str := Str.ofString (toString x)
theorem strI_ok {x : Int} (h0 : 0 ≤ x) (h1 : x < 25) : (strI x).cps.all (· < 0x110000) = true ∧ (strI x).cps.size ≤ 2 := by
  obtain ⟨n, rfl⟩ : ∃ n : Nat, x = n := ⟨x.toNat, by omega⟩
  have : ∀ n : Fin 25, (strI (n.val : Int)).cps.all (· < 0x110000) = true ∧ (strI (n.val : Int)).cps.size ≤ 2 := by decide +kernel
  exact this ⟨n, by omega⟩
theorem join_good : ∀ (w : List Int), (∀ x ∈ w, 0 ≤ x ∧ x < 25) → (Str.join (Str.ofString "") (w.map strI)).cps.all (· < 0x110000) = true ∧ (Str.join (Str.ofString "") (w.map strI)).cps.size ≤ 2 * w.length
  | [], _ => ⟨by decide +kernel, Nat.zero_le _⟩
  | [x], h => strI_ok (h x (List.mem_cons_self ..)).1 (h x (List.mem_cons_self ..)).2
  | x :: y :: w, h => by
    obtain ⟨a1, a2⟩ := strI_ok (h x (List.mem_cons_self ..)).1 (h x (List.mem_cons_self ..)).2
    obtain ⟨b1, b2⟩ := join_good (y :: w) fun z hz => h z (List.mem_cons_of_mem _ hz)
    have e : (Str.join (Str.ofString "") ((x :: y :: w).map strI)).cps = (strI x).cps ++ (Str.ofString "").cps ++ (Str.join (Str.ofString "") ((y :: w).map strI)).cps := rfl
    have e0 : (Str.ofString "").cps = #[] := by decide +kernel
    rw [e, e0, Array.append_empty]
    refine ⟨?_, ?_⟩
    · rw [Array.all_append, a1, b1]
      rfl
    · rw [Array.size_append]
      simp only [List.length_cons] at b2 ⊢
      omega
theorem pow20 : oPow (.int 10) (.int 20) = some (.dat (.int 100000000000000000000)) := by
  unfold oPow
  dsimp only
  rw [if_pos (by decide)]
  rfl
theorem atI_memI {ds : List D} {r : Int} (h0 : 0 ≤ r) (h1 : r < (ds.length : Int)) : ∃ d, atI ds r = some d ∧ d ∈ ds := by
  obtain ⟨k, rfl⟩ : ∃ k : Nat, r = k := ⟨r.toNat, by omega⟩
  have hk : k < ds.length := by omega
  exact ⟨ds[k], atI_nat (List.getElem?_eq_getElem hk), List.getElem_mem hk⟩
def TH : List D := [.non, .bl true, .bl false, .int 0, .int 1, .int (-1), .int 100000000000000000000, .str (Str.ofString ""), .str (Str.ofString "0"), .tup [], .lst [], .lst [.int 0], .tup [.bl true], .tup [.bl false, .int 0], .tup [.tup [.int 0]], .tup [.non], .tup [.str (Str.ofString "0")], .lst [.lst []]]
theorem thing_wp {cs : List C} {P : R → M.Env → Prop} {px : PX} (hb : Bx cs) (k : ∀ (d : D) (cs' : List C), gdB d = true → Bx cs' → P (.dat d) [.lst cs']) : Out.wp P px (mF_law_thing [.lst cs]) := by
  unfold mF_law_thing
  refine wp_mDef rfl ?_
  unfold mB_law_thing
  simp -implicitDefEqProofs only [mwAll, kStr1, kIEnum, kIZip, kAsgG, kAsgG2, kRevD, kCallP2, kInD, asB_bl, datR_nil, datR_cons, datR_map, snapR_dat, vw_dat, dats_dat, fzO_dat, fzO_own, fzs_dat, fz, grd_true, ofO_some, permO, getE, getC, setC, Out.bind_ok, Out.bind_ex, Out.bind_bad, bindS_ok, bindS_ex, bindS_bad, seq_nx, seq_rt, seq_bk, seq_ct, seq_ex, seq_bad, Out.wp_ok, Out.wp_ex, Out.wp_bad, SO.wp_nx, SO.wp_rt, SO.wp_bk, SO.wp_ct, SO.wp_ex, SO.wp_bad, turn_nx, turn_ct, turn_bk, turn_rt, turn_ex, turn_bad, List.getElem?_cons_zero, List.getElem?_cons_succ, List.set_cons_zero, List.set_cons_succ, List.length_cons, List.length_nil, List.length_map, List.length_set, List.length_append, List.map_cons, List.map_nil, List.cons_append, List.nil_append, List.replicate_succ, List.replicate_zero, List.append_nil, List.all_cons, List.all_nil, Option.map_some, Option.map_none, Option.bind_some, Option.bind_none, Option.isSome_some, Option.isSome_none, if_true, if_false, reduceIte, reduceCtorEq, decide_true, decide_false, Bool.true_or, Bool.or_true, Bool.or_false, Bool.false_or, Bool.true_and, Bool.and_true, Bool.and_false, Bool.false_and, Bool.not_true, Bool.not_false, Bool.and_self, Nat.reduceLT, Nat.reduceLeDiff, Nat.reduceAdd, Nat.zero_lt_succ, Int.toNat_natCast, get_last1, get_last2, last_map, drop_map, fzs, pow20, show 18 ≤ LIM by decide]
  repeat (first | rw [wp_seq] | rw [wp_bindS] | rw [Out.wp_bind])
  refine draw_kRb hb (by decide) (by decide) fun x cs1 h0 h1 hb1 => ⟨_, rfl, ?_⟩
  obtain ⟨d, hd, hm⟩ := atI_memI (ds := TH) h0 h1
  have hg : gdB d = true := by
    have : TH.all gdB = true := by decide +kernel
    exact List.all_eq_true.mp this d hm
  unfold TH at hd
  simp -implicitDefEqProofs only [mwAll, kStr1, kIEnum, kIZip, kAsgG, kAsgG2, kRevD, kCallP2, kInD, asB_bl, datR_nil, datR_cons, datR_map, snapR_dat, vw_dat, dats_dat, fzO_dat, fzO_own, fzs_dat, fz, grd_true, ofO_some, permO, getE, getC, setC, Out.bind_ok, Out.bind_ex, Out.bind_bad, bindS_ok, bindS_ex, bindS_bad, seq_nx, seq_rt, seq_bk, seq_ct, seq_ex, seq_bad, Out.wp_ok, Out.wp_ex, Out.wp_bad, SO.wp_nx, SO.wp_rt, SO.wp_bk, SO.wp_ct, SO.wp_ex, SO.wp_bad, turn_nx, turn_ct, turn_bk, turn_rt, turn_ex, turn_bad, List.getElem?_cons_zero, List.getElem?_cons_succ, List.set_cons_zero, List.set_cons_succ, List.length_cons, List.length_nil, List.length_map, List.length_set, List.length_append, List.map_cons, List.map_nil, List.cons_append, List.nil_append, List.replicate_succ, List.replicate_zero, List.append_nil, List.all_cons, List.all_nil, Option.map_some, Option.map_none, Option.bind_some, Option.bind_none, Option.isSome_some, Option.isSome_none, if_true, if_false, reduceIte, reduceCtorEq, decide_true, decide_false, Bool.true_or, Bool.or_true, Bool.or_false, Bool.false_or, Bool.true_and, Bool.and_true, Bool.and_false, Bool.false_and, Bool.not_true, Bool.not_false, Bool.and_self, Nat.reduceLT, Nat.reduceLeDiff, Nat.reduceAdd, Nat.zero_lt_succ, Int.toNat_natCast, get_last1, get_last2, last_map, drop_map, hd, outC0, outC1, x_outR1]
  exact k d cs1 hg hb1
theorem oAdd_tp {a b : List D} (h : a.length + b.length ≤ LIM) : oAdd (.tup a) (.tup b) = some (.dat (.tup (a ++ b))) := by
  show (if a.length + b.length ≤ LIM then some (R.dat (D.tup (a ++ b))) else none) = _
  rw [if_pos h]
theorem chO_own {ds : List D} {k : Int} {d : D} (h : atI ds k = some d) (c : C) (e : M.Env) : chO (.own c) (ds.map C.dat) k e = .ok (.dat d) e := by
  unfold atI at h
  rw [Option.bind_eq_some_iff] at h
  obtain ⟨n, h1, h2⟩ := h
  unfold chO
  rw [List.length_map, h1]
  dsimp only
  rw [List.getElem?_map, h2]
  rfl
theorem ixO_own (c : C) (i : Int) (e : M.Env) (cs : List C) : ixO (.own (.lst cs)) (.dat (.int i)) e = chO (.own (.lst cs)) cs i e := rfl
theorem isD_own (cs : List C) : isDic (some (.lst cs)) = false := rfl
def OT (n : Int) : List D := [.int n, .int (-1), .bl true, .bl false, .non, .str (Str.ofString "0"), .tup [.int 0], .lst [.int 0], .int 100000000000000000000, .int (n + 1), .int (n - 1)]
theorem OT_good {n : Int} (h0 : 0 < n) (h1 : n ≤ 24) : ∀ d ∈ OT n, gdB d = true := by
  have e : (OT n).all gdB = true := by
    obtain ⟨k, rfl⟩ : ∃ k : Nat, n = k := ⟨n.toNat, by omega⟩
    have : ∀ k : Fin 25, (OT (k.val : Int)).all gdB = true := by decide +kernel
    exact this ⟨k, by omega⟩
  exact List.all_eq_true.mp e
/-- a row that is good enough -/
def Sp (d : D) : Prop := d.okk 19 = true ∧ d.wt ≤ 60000
theorem sp_row {ds : List D} (h : ∀ d ∈ ds, d.okk 18 = true ∧ d.wt ≤ 1000) (hl : ds.length ≤ 59) : Sp (.tup ds) ∧ Sp (.lst ds) := by
  have o := okks_all fun d hd => (h d hd).1
  have w := wts_all fun d hd => (h d hd).2
  have : 1001 * ds.length ≤ 59059 := by omega
  refine ⟨⟨?_, ?_⟩, ?_, ?_⟩
  · simp only [D.okk]; exact o
  · simp only [D.wt]; omega
  · simp only [D.okk]; exact o
  · simp only [D.wt]; omega
theorem sp_int {n : Int} (hn : n ≤ 24) {x : Int} (h : 0 ≤ x ∧ x < n) : (D.int x).okk 18 = true ∧ (D.int x).wt ≤ 1000 := by
  refine ⟨?_, by simp only [D.wt]; decide⟩
  simp only [D.okk, decide_eq_true_eq]
  exact Nat.lt_of_lt_of_le (show x.natAbs < 25 by omega) (by decide)
theorem sp_put {w : List Int} {n : Int} {e : D} {a b : Nat} (hab : a ≤ b) (hn : n ≤ 24) (hw : ∀ x ∈ w, 0 ≤ x ∧ x < n) (hl : w.length ≤ 50) (he : gdB e = true) : Sp (.tup ((w.map D.int).take a ++ [e] ++ (w.map D.int).drop b)) := by
  have g := gd_of18 he
  refine (sp_row (fun d hd => ?_) ?_).1
  · have word : d ∈ w.map D.int → d.okk 18 = true ∧ d.wt ≤ 1000 := fun h => by
      obtain ⟨x, hx, rfl⟩ := List.mem_map.mp h
      exact sp_int hn (hw x hx)
    rcases List.mem_append.mp hd with hd | hd
    · rcases List.mem_append.mp hd with hd | hd
      · exact word (List.mem_of_mem_take hd)
      · rw [List.mem_singleton.mp hd]; exact g
    · exact word (List.mem_of_mem_drop hd)
  · rw [List.length_append, List.length_append, List.length_take, List.length_drop, List.length_map]
    show _ + 1 + _ ≤ 59
    omega
def strF : D → D
  | .int i => .str (strI i)
  | d => d
theorem strs_w (w : List Int) : strsOf ((w.map D.int).map strF) = some (w.map strI) := by
  induction w with
  | nil => rfl
  | cons x w ih =>
    show (strsOf ((w.map D.int).map strF)).map (strI x :: ·) = _
    rw [ih]
    rfl
theorem sum_le : ∀ {l : List Nat} {m : Nat}, (∀ x ∈ l, x ≤ m) → l.sum ≤ m * l.length
  | [], m, _ => Nat.zero_le _
  | x :: l, m, h => by
    have h1 := h x (List.mem_cons_self ..)
    have h2 := sum_le (l := l) (m := m) fun y hy => h y (List.mem_cons_of_mem _ hy)
    rw [List.sum_cons, List.length_cons, Nat.mul_succ]
    omega
theorem join_wp {w : List Int} {n : Int} (hn : n ≤ 24) (hw : ∀ x ∈ w, 0 ≤ x ∧ x < n) (hl : w.length ≤ 50) : ∃ s, sJoin (Str.ofString "") [.lst ((w.map D.int).map strF)] = some (.dat (.str s)) ∧ Sp (.str s) := by
  have h25 : ∀ x ∈ w, 0 ≤ x ∧ x < 25 := fun x hx => ⟨(hw x hx).1, by have := (hw x hx).2; omega⟩
  obtain ⟨g1, g2⟩ := join_good w h25
  refine ⟨Str.join (Str.ofString "") (w.map strI), ?_, ?_, ?_⟩
  · unfold sJoin
    show (match strsOf ((w.map D.int).map strF) with
      | some ys => if (ys.map fun (y : Str) => y.length).sum + ys.length * (Str.ofString "").length ≤ 16777216 then some (R.dat (.str (Txt.join (Str.ofString "") ys))) else none
      | none => none) = _
    rw [strs_w]
    have hs : ((w.map strI).map fun (y : Str) => y.length).sum ≤ 2 * ((w.map strI).map fun (y : Str) => y.length).length := sum_le fun x hx => by
      obtain ⟨y, hy, rfl⟩ := List.mem_map.mp hx
      obtain ⟨z, hz, rfl⟩ := List.mem_map.mp hy
      exact (strI_ok (h25 z hz).1 (h25 z hz).2).2
    rw [List.length_map, List.length_map] at hs
    have h0 : (Str.ofString "").length = 0 := by decide +kernel
    dsimp only
    rw [if_pos (by rw [h0, Nat.mul_zero]; omega), TL.join_eq]
  · simp only [D.okk]
    exact g1
  · simp only [D.wt]
    omega
theorem bStr_ok {x : Int} (h0 : 0 ≤ x) (h1 : x < 25) : bStr (.int x) = some (.dat (.str (strI x))) := by
  unfold bStr
  dsimp only
  rw [if_pos]
  · rfl
  · have := Nat.log2_le_self x.natAbs
    omega
theorem spoilt_wp {cs : List C} {w : List Int} {n : Int} {P : R → M.Env → Prop} {px : PX} (hb : Bx cs) (hn : 0 < n) (hn2 : n ≤ 24) (hw : ∀ x ∈ w, 0 ≤ x ∧ x < n) (hl : w.length ≤ 50) (k : ∀ (d : D) (cs' : List C), Sp d → Bx cs' → P (.dat d) [.lst cs', .dat (tw w), .dat (.int n)]) : Out.wp P px (mF_law_spoilt [.lst cs, .dat (tw w), .dat (.int n)]) := by
  unfold mF_law_spoilt
  refine wp_mDef rfl ?_
  unfold mB_law_spoilt
  simp -implicitDefEqProofs only [mwAll, kStr1, kIEnum, kIZip, kAsgG, kAsgG2, kRevD, kCallP2, kInD, asB_bl, datR_nil, datR_cons, datR_map, snapR_dat, vw_dat, dats_dat, fzO_dat, fzO_own, fzs_dat, fz, grd_true, ofO_some, permO, getE, getC, setC, Out.bind_ok, Out.bind_ex, Out.bind_bad, bindS_ok, bindS_ex, bindS_bad, seq_nx, seq_rt, seq_bk, seq_ct, seq_ex, seq_bad, Out.wp_ok, Out.wp_ex, Out.wp_bad, SO.wp_nx, SO.wp_rt, SO.wp_bk, SO.wp_ct, SO.wp_ex, SO.wp_bad, turn_nx, turn_ct, turn_bk, turn_rt, turn_ex, turn_bad, List.getElem?_cons_zero, List.getElem?_cons_succ, List.set_cons_zero, List.set_cons_succ, List.length_cons, List.length_nil, List.length_map, List.length_set, List.length_append, List.map_cons, List.map_nil, List.cons_append, List.nil_append, List.replicate_succ, List.replicate_zero, List.append_nil, List.all_cons, List.all_nil, Option.map_some, Option.map_none, Option.bind_some, Option.bind_none, Option.isSome_some, Option.isSome_none, if_true, if_false, reduceIte, reduceCtorEq, decide_true, decide_false, Bool.true_or, Bool.or_true, Bool.or_false, Bool.false_or, Bool.true_and, Bool.and_true, Bool.and_false, Bool.false_and, Bool.not_true, Bool.not_false, Bool.and_self, Nat.reduceLT, Nat.reduceLeDiff, Nat.reduceAdd, Nat.zero_lt_succ, Int.toNat_natCast, get_last1, get_last2, last_map, drop_map]
  repeat (first | rw [wp_seq] | rw [wp_bindS] | rw [Out.wp_bind])
  refine draw_kRb hb (by omega) (by omega) fun a cs1 a0 a1 hb1 => ⟨_, rfl, ?_⟩
  simp -implicitDefEqProofs only [mwAll, kStr1, kIEnum, kIZip, kAsgG, kAsgG2, kRevD, kCallP2, kInD, asB_bl, datR_nil, datR_cons, datR_map, snapR_dat, vw_dat, dats_dat, fzO_dat, fzO_own, fzs_dat, fz, grd_true, ofO_some, permO, getE, getC, setC, Out.bind_ok, Out.bind_ex, Out.bind_bad, bindS_ok, bindS_ex, bindS_bad, seq_nx, seq_rt, seq_bk, seq_ct, seq_ex, seq_bad, Out.wp_ok, Out.wp_ex, Out.wp_bad, SO.wp_nx, SO.wp_rt, SO.wp_bk, SO.wp_ct, SO.wp_ex, SO.wp_bad, turn_nx, turn_ct, turn_bk, turn_rt, turn_ex, turn_bad, List.getElem?_cons_zero, List.getElem?_cons_succ, List.set_cons_zero, List.set_cons_succ, List.length_cons, List.length_nil, List.length_map, List.length_set, List.length_append, List.map_cons, List.map_nil, List.cons_append, List.nil_append, List.replicate_succ, List.replicate_zero, List.append_nil, List.all_cons, List.all_nil, Option.map_some, Option.map_none, Option.bind_some, Option.bind_none, Option.isSome_some, Option.isSome_none, if_true, if_false, reduceIte, reduceCtorEq, decide_true, decide_false, Bool.true_or, Bool.or_true, Bool.or_false, Bool.false_or, Bool.true_and, Bool.and_true, Bool.and_false, Bool.false_and, Bool.not_true, Bool.not_false, Bool.and_self, Nat.reduceLT, Nat.reduceLeDiff, Nat.reduceAdd, Nat.zero_lt_succ, Int.toNat_natCast, get_last1, get_last2, last_map, drop_map, fzs, pow20]
  repeat (first | rw [wp_seq] | rw [wp_bindS] | rw [Out.wp_bind])
  refine draw_kRb hb1 (by decide) (by decide) fun x cs2 h0 h1 hb2 => ⟨_, rfl, ?_⟩
  by_cases z : x = 0
  · subst z
    simp -implicitDefEqProofs only [mwAll, kStr1, kIEnum, kIZip, kAsgG, kAsgG2, kRevD, kCallP2, kInD, asB_bl, datR_nil, datR_cons, datR_map, snapR_dat, vw_dat, dats_dat, fzO_dat, fzO_own, fzs_dat, fz, grd_true, ofO_some, permO, getE, getC, setC, Out.bind_ok, Out.bind_ex, Out.bind_bad, bindS_ok, bindS_ex, bindS_bad, seq_nx, seq_rt, seq_bk, seq_ct, seq_ex, seq_bad, Out.wp_ok, Out.wp_ex, Out.wp_bad, SO.wp_nx, SO.wp_rt, SO.wp_bk, SO.wp_ct, SO.wp_ex, SO.wp_bad, turn_nx, turn_ct, turn_bk, turn_rt, turn_ex, turn_bad, List.getElem?_cons_zero, List.getElem?_cons_succ, List.set_cons_zero, List.set_cons_succ, List.length_cons, List.length_nil, List.length_map, List.length_set, List.length_append, List.map_cons, List.map_nil, List.cons_append, List.nil_append, List.replicate_succ, List.replicate_zero, List.append_nil, List.all_cons, List.all_nil, Option.map_some, Option.map_none, Option.bind_some, Option.bind_none, Option.isSome_some, Option.isSome_none, if_true, if_false, reduceIte, reduceCtorEq, decide_true, decide_false, Bool.true_or, Bool.or_true, Bool.or_false, Bool.false_or, Bool.true_and, Bool.and_true, Bool.and_false, Bool.false_and, Bool.not_true, Bool.not_false, Bool.and_self, Nat.reduceLT, Nat.reduceLeDiff, Nat.reduceAdd, Nat.zero_lt_succ, Int.toNat_natCast, get_last1, get_last2, last_map, drop_map]
    repeat (first | rw [wp_seq] | rw [wp_bindS] | rw [Out.wp_bind])
    refine wp_kRb (thing_wp hb2 fun d cs3 hg hb3 => ⟨_, rfl, ?_⟩)
    simp -implicitDefEqProofs only [mwAll, kStr1, kIEnum, kIZip, kAsgG, kAsgG2, kRevD, kCallP2, kInD, asB_bl, datR_nil, datR_cons, datR_map, snapR_dat, vw_dat, dats_dat, fzO_dat, fzO_own, fzs_dat, fz, grd_true, ofO_some, permO, getE, getC, setC, Out.bind_ok, Out.bind_ex, Out.bind_bad, bindS_ok, bindS_ex, bindS_bad, seq_nx, seq_rt, seq_bk, seq_ct, seq_ex, seq_bad, Out.wp_ok, Out.wp_ex, Out.wp_bad, SO.wp_nx, SO.wp_rt, SO.wp_bk, SO.wp_ct, SO.wp_ex, SO.wp_bad, turn_nx, turn_ct, turn_bk, turn_rt, turn_ex, turn_bad, List.getElem?_cons_zero, List.getElem?_cons_succ, List.set_cons_zero, List.set_cons_succ, List.length_cons, List.length_nil, List.length_map, List.length_set, List.length_append, List.map_cons, List.map_nil, List.cons_append, List.nil_append, List.replicate_succ, List.replicate_zero, List.append_nil, List.all_cons, List.all_nil, Option.map_some, Option.map_none, Option.bind_some, Option.bind_none, Option.isSome_some, Option.isSome_none, if_true, if_false, reduceIte, reduceCtorEq, decide_true, decide_false, Bool.true_or, Bool.or_true, Bool.or_false, Bool.false_or, Bool.true_and, Bool.and_true, Bool.and_false, Bool.false_and, Bool.not_true, Bool.not_false, Bool.and_self, Nat.reduceLT, Nat.reduceLeDiff, Nat.reduceAdd, Nat.zero_lt_succ, Int.toNat_natCast, get_last1, get_last2, last_map, drop_map]
    rw [mLc_nm (e0 := [C.lst cs3, C.dat (tw w), C.dat (D.int n), C.dat (D.int a), C.dat (.lst (OT n)), C.dat (D.int 0), C.non]) (xs := w.map D.int) (F := strF) (by rfl) (by rw [List.length_map]; unfold LIM; omega) (by rfl) (by rfl) (fun x hx => ?_)]
    · obtain ⟨s, hs, gs⟩ := join_wp hn2 hw hl
      simp -implicitDefEqProofs only [mwAll, kStr1, kIEnum, kIZip, kAsgG, kAsgG2, kRevD, kCallP2, kInD, asB_bl, datR_nil, datR_cons, datR_map, snapR_dat, vw_dat, dats_dat, fzO_dat, fzO_own, fzs_dat, fz, grd_true, ofO_some, permO, getE, getC, setC, Out.bind_ok, Out.bind_ex, Out.bind_bad, bindS_ok, bindS_ex, bindS_bad, seq_nx, seq_rt, seq_bk, seq_ct, seq_ex, seq_bad, Out.wp_ok, Out.wp_ex, Out.wp_bad, SO.wp_nx, SO.wp_rt, SO.wp_bk, SO.wp_ct, SO.wp_ex, SO.wp_bad, turn_nx, turn_ct, turn_bk, turn_rt, turn_ex, turn_bad, List.getElem?_cons_zero, List.getElem?_cons_succ, List.set_cons_zero, List.set_cons_succ, List.length_cons, List.length_nil, List.length_map, List.length_set, List.length_append, List.map_cons, List.map_nil, List.cons_append, List.nil_append, List.replicate_succ, List.replicate_zero, List.append_nil, List.all_cons, List.all_nil, Option.map_some, Option.map_none, Option.bind_some, Option.bind_none, Option.isSome_some, Option.isSome_none, if_true, if_false, reduceIte, reduceCtorEq, decide_true, decide_false, Bool.true_or, Bool.or_true, Bool.or_false, Bool.false_or, Bool.true_and, Bool.and_true, Bool.and_false, Bool.false_and, Bool.not_true, Bool.not_false, Bool.and_self, Nat.reduceLT, Nat.reduceLeDiff, Nat.reduceAdd, Nat.zero_lt_succ, Int.toNat_natCast, get_last1, get_last2, last_map, drop_map, hs]
      repeat (first | rw [wp_seq] | rw [wp_bindS] | rw [Out.wp_bind])
      refine draw_kRb hb3 (by decide) (by decide) fun r cs4 g0 g1 hb4 => ⟨_, rfl, ?_⟩
      obtain ⟨d9, hd9, hm9⟩ := atI_memI (ds := [D.lst (w.map D.int), .tup [tw w], d, .str s]) g0 g1
      have hc := fun c e => chO_own hd9 c e
      simp only [List.map_cons, List.map_nil] at hc
      simp -implicitDefEqProofs only [mwAll, kStr1, kIEnum, kIZip, kAsgG, kAsgG2, kRevD, kCallP2, kInD, asB_bl, datR_nil, datR_cons, datR_map, snapR_dat, vw_dat, dats_dat, fzO_dat, fzO_own, fzs_dat, fz, grd_true, ofO_some, permO, getE, getC, setC, Out.bind_ok, Out.bind_ex, Out.bind_bad, bindS_ok, bindS_ex, bindS_bad, seq_nx, seq_rt, seq_bk, seq_ct, seq_ex, seq_bad, Out.wp_ok, Out.wp_ex, Out.wp_bad, SO.wp_nx, SO.wp_rt, SO.wp_bk, SO.wp_ct, SO.wp_ex, SO.wp_bad, turn_nx, turn_ct, turn_bk, turn_rt, turn_ex, turn_bad, List.getElem?_cons_zero, List.getElem?_cons_succ, List.set_cons_zero, List.set_cons_succ, List.length_cons, List.length_nil, List.length_map, List.length_set, List.length_append, List.map_cons, List.map_nil, List.cons_append, List.nil_append, List.replicate_succ, List.replicate_zero, List.append_nil, List.all_cons, List.all_nil, Option.map_some, Option.map_none, Option.bind_some, Option.bind_none, Option.isSome_some, Option.isSome_none, if_true, if_false, reduceIte, reduceCtorEq, decide_true, decide_false, Bool.true_or, Bool.or_true, Bool.or_false, Bool.false_or, Bool.true_and, Bool.and_true, Bool.and_false, Bool.false_and, Bool.not_true, Bool.not_false, Bool.and_self, Nat.reduceLT, Nat.reduceLeDiff, Nat.reduceAdd, Nat.zero_lt_succ, Int.toNat_natCast, get_last1, get_last2, last_map, drop_map, ixO_own, hc, isD_own, outC0, outC1, outC2, x_outR1]
      refine k d9 cs4 ?_ hb4
      have w18 : ∀ d ∈ w.map D.int, d.okk 18 = true ∧ d.wt ≤ 1000 := fun d hd => by
        obtain ⟨x, hx, rfl⟩ := List.mem_map.mp hd
        exact sp_int hn2 (hw x hx)
      simp only [List.mem_cons, List.not_mem_nil, or_false] at hm9
      rcases hm9 with rfl | rfl | rfl | rfl
      · exact (sp_row w18 (by rw [List.length_map]; omega)).2
      · obtain ⟨t1, t2⟩ := (sp_row w18 (by rw [List.length_map]; omega)).1
        refine ⟨?_, ?_⟩
        · have : (tw w).okk 18 = true := tw_okk (k := 17) fun x hx => small30 (n := n) (by omega) (hw x hx)
          simp only [D.okk, D.okks, Bool.and_eq_true, and_true]
          exact this
        · have := wts_ints w
          simp only [D.wt, D.wts]
          omega
      · have := gd_of18 hg
        exact ⟨okk_mono (by decide) this.1, by omega⟩
      · exact gs
    · obtain ⟨y, hy, rfl⟩ := List.mem_map.mp hx
      have hbs := bStr_ok (x := y) (hw y hy).1 (by have := (hw y hy).2; omega)
      simp -implicitDefEqProofs only [mwAll, kStr1, kIEnum, kIZip, kAsgG, kAsgG2, kRevD, kCallP2, kInD, asB_bl, datR_nil, datR_cons, datR_map, snapR_dat, vw_dat, dats_dat, fzO_dat, fzO_own, fzs_dat, fz, grd_true, ofO_some, permO, getE, getC, setC, Out.bind_ok, Out.bind_ex, Out.bind_bad, bindS_ok, bindS_ex, bindS_bad, seq_nx, seq_rt, seq_bk, seq_ct, seq_ex, seq_bad, Out.wp_ok, Out.wp_ex, Out.wp_bad, SO.wp_nx, SO.wp_rt, SO.wp_bk, SO.wp_ct, SO.wp_ex, SO.wp_bad, turn_nx, turn_ct, turn_bk, turn_rt, turn_ex, turn_bad, List.getElem?_cons_zero, List.getElem?_cons_succ, List.set_cons_zero, List.set_cons_succ, List.length_cons, List.length_nil, List.length_map, List.length_set, List.length_append, List.map_cons, List.map_nil, List.cons_append, List.nil_append, List.replicate_succ, List.replicate_zero, List.append_nil, List.all_cons, List.all_nil, Option.map_some, Option.map_none, Option.bind_some, Option.bind_none, Option.isSome_some, Option.isSome_none, if_true, if_false, reduceIte, reduceCtorEq, decide_true, decide_false, Bool.true_or, Bool.or_true, Bool.or_false, Bool.false_or, Bool.true_and, Bool.and_true, Bool.and_false, Bool.false_and, Bool.not_true, Bool.not_false, Bool.and_self, Nat.reduceLT, Nat.reduceLeDiff, Nat.reduceAdd, Nat.zero_lt_succ, Int.toNat_natCast, get_last1, get_last2, last_map, drop_map, hbs]
      rfl
  · have ak : ∃ k : Nat, a = k := ⟨a.toNat, by omega⟩
    obtain ⟨j, rfl⟩ := ak
    simp -implicitDefEqProofs only [mwAll, kStr1, kIEnum, kIZip, kAsgG, kAsgG2, kRevD, kCallP2, kInD, asB_bl, datR_nil, datR_cons, datR_map, snapR_dat, vw_dat, dats_dat, fzO_dat, fzO_own, fzs_dat, fz, grd_true, ofO_some, permO, getE, getC, setC, Out.bind_ok, Out.bind_ex, Out.bind_bad, bindS_ok, bindS_ex, bindS_bad, seq_nx, seq_rt, seq_bk, seq_ct, seq_ex, seq_bad, Out.wp_ok, Out.wp_ex, Out.wp_bad, SO.wp_nx, SO.wp_rt, SO.wp_bk, SO.wp_ct, SO.wp_ex, SO.wp_bad, turn_nx, turn_ct, turn_bk, turn_rt, turn_ex, turn_bad, List.getElem?_cons_zero, List.getElem?_cons_succ, List.set_cons_zero, List.set_cons_succ, List.length_cons, List.length_nil, List.length_map, List.length_set, List.length_append, List.map_cons, List.map_nil, List.cons_append, List.nil_append, List.replicate_succ, List.replicate_zero, List.append_nil, List.all_cons, List.all_nil, Option.map_some, Option.map_none, Option.bind_some, Option.bind_none, Option.isSome_some, Option.isSome_none, if_true, if_false, reduceIte, reduceCtorEq, decide_true, decide_false, Bool.true_or, Bool.or_true, Bool.or_false, Bool.false_or, Bool.true_and, Bool.and_true, Bool.and_false, Bool.false_and, Bool.not_true, Bool.not_false, Bool.and_self, Nat.reduceLT, Nat.reduceLeDiff, Nat.reduceAdd, Nat.zero_lt_succ, Int.toNat_natCast, get_last1, get_last2, last_map, drop_map, z]
    by_cases z1 : x = 1
    · subst z1
      simp -implicitDefEqProofs only [mwAll, kStr1, kIEnum, kIZip, kAsgG, kAsgG2, kRevD, kCallP2, kInD, asB_bl, datR_nil, datR_cons, datR_map, snapR_dat, vw_dat, dats_dat, fzO_dat, fzO_own, fzs_dat, fz, grd_true, ofO_some, permO, getE, getC, setC, Out.bind_ok, Out.bind_ex, Out.bind_bad, bindS_ok, bindS_ex, bindS_bad, seq_nx, seq_rt, seq_bk, seq_ct, seq_ex, seq_bad, Out.wp_ok, Out.wp_ex, Out.wp_bad, SO.wp_nx, SO.wp_rt, SO.wp_bk, SO.wp_ct, SO.wp_ex, SO.wp_bad, turn_nx, turn_ct, turn_bk, turn_rt, turn_ex, turn_bad, List.getElem?_cons_zero, List.getElem?_cons_succ, List.set_cons_zero, List.set_cons_succ, List.length_cons, List.length_nil, List.length_map, List.length_set, List.length_append, List.map_cons, List.map_nil, List.cons_append, List.nil_append, List.replicate_succ, List.replicate_zero, List.append_nil, List.all_cons, List.all_nil, Option.map_some, Option.map_none, Option.bind_some, Option.bind_none, Option.isSome_some, Option.isSome_none, if_true, if_false, reduceIte, reduceCtorEq, decide_true, decide_false, Bool.true_or, Bool.or_true, Bool.or_false, Bool.false_or, Bool.true_and, Bool.and_true, Bool.and_false, Bool.false_and, Bool.not_true, Bool.not_false, Bool.and_self, Nat.reduceLT, Nat.reduceLeDiff, Nat.reduceAdd, Nat.zero_lt_succ, Int.toNat_natCast, get_last1, get_last2, last_map, drop_map, cutD_take]
      repeat (first | rw [wp_seq] | rw [wp_bindS] | rw [Out.wp_bind])
      refine draw_kRb hb2 (by decide) (by decide) fun r cs3 g0 g1 hb3 => ⟨_, rfl, ?_⟩
      obtain ⟨d, hd, hm⟩ := atI_memI (ds := OT n) g0 g1
      have hg := OT_good hn hn2 d hm
      unfold OT at hd
      have q1 : ((w.map D.int).take j).length + [d].length ≤ LIM := by rw [List.length_take, List.length_map]; unfold LIM; show _ + 1 ≤ _; omega
      have q2 : ((w.map D.int).take j ++ [d]).length + ((w.map D.int).drop j).length ≤ LIM := by rw [List.length_append, List.length_take, List.length_drop, List.length_map]; unfold LIM; show _ + 1 + _ ≤ _; omega
      simp -implicitDefEqProofs only [mwAll, kStr1, kIEnum, kIZip, kAsgG, kAsgG2, kRevD, kCallP2, kInD, asB_bl, datR_nil, datR_cons, datR_map, snapR_dat, vw_dat, dats_dat, fzO_dat, fzO_own, fzs_dat, fz, grd_true, ofO_some, permO, getE, getC, setC, Out.bind_ok, Out.bind_ex, Out.bind_bad, bindS_ok, bindS_ex, bindS_bad, seq_nx, seq_rt, seq_bk, seq_ct, seq_ex, seq_bad, Out.wp_ok, Out.wp_ex, Out.wp_bad, SO.wp_nx, SO.wp_rt, SO.wp_bk, SO.wp_ct, SO.wp_ex, SO.wp_bad, turn_nx, turn_ct, turn_bk, turn_rt, turn_ex, turn_bad, List.getElem?_cons_zero, List.getElem?_cons_succ, List.set_cons_zero, List.set_cons_succ, List.length_cons, List.length_nil, List.length_map, List.length_set, List.length_append, List.map_cons, List.map_nil, List.cons_append, List.nil_append, List.replicate_succ, List.replicate_zero, List.append_nil, List.all_cons, List.all_nil, Option.map_some, Option.map_none, Option.bind_some, Option.bind_none, Option.isSome_some, Option.isSome_none, if_true, if_false, reduceIte, reduceCtorEq, decide_true, decide_false, Bool.true_or, Bool.or_true, Bool.or_false, Bool.false_or, Bool.true_and, Bool.and_true, Bool.and_false, Bool.false_and, Bool.not_true, Bool.not_false, Bool.and_self, Nat.reduceLT, Nat.reduceLeDiff, Nat.reduceAdd, Nat.zero_lt_succ, Int.toNat_natCast, get_last1, get_last2, last_map, drop_map, hd, cutD_drop, oAdd_tp q1, oAdd_tp q2, outC0, outC1, outC2, x_outR1]
      exact k _ cs3 (sp_put (Nat.le_refl _) hn2 hw hl hg) hb3
    · simp -implicitDefEqProofs only [mwAll, kStr1, kIEnum, kIZip, kAsgG, kAsgG2, kRevD, kCallP2, kInD, asB_bl, datR_nil, datR_cons, datR_map, snapR_dat, vw_dat, dats_dat, fzO_dat, fzO_own, fzs_dat, fz, grd_true, ofO_some, permO, getE, getC, setC, Out.bind_ok, Out.bind_ex, Out.bind_bad, bindS_ok, bindS_ex, bindS_bad, seq_nx, seq_rt, seq_bk, seq_ct, seq_ex, seq_bad, Out.wp_ok, Out.wp_ex, Out.wp_bad, SO.wp_nx, SO.wp_rt, SO.wp_bk, SO.wp_ct, SO.wp_ex, SO.wp_bad, turn_nx, turn_ct, turn_bk, turn_rt, turn_ex, turn_bad, List.getElem?_cons_zero, List.getElem?_cons_succ, List.set_cons_zero, List.set_cons_succ, List.length_cons, List.length_nil, List.length_map, List.length_set, List.length_append, List.map_cons, List.map_nil, List.cons_append, List.nil_append, List.replicate_succ, List.replicate_zero, List.append_nil, List.all_cons, List.all_nil, Option.map_some, Option.map_none, Option.bind_some, Option.bind_none, Option.isSome_some, Option.isSome_none, if_true, if_false, reduceIte, reduceCtorEq, decide_true, decide_false, Bool.true_or, Bool.or_true, Bool.or_false, Bool.false_or, Bool.true_and, Bool.and_true, Bool.and_false, Bool.false_and, Bool.not_true, Bool.not_false, Bool.and_self, Nat.reduceLT, Nat.reduceLeDiff, Nat.reduceAdd, Nat.zero_lt_succ, Int.toNat_natCast, get_last1, get_last2, last_map, drop_map, z1, cutD_take]
      repeat (first | rw [wp_seq] | rw [wp_bindS] | rw [Out.wp_bind])
      refine draw_kRb hb2 (by decide) (by decide) fun r cs3 g0 g1 hb3 => ⟨_, rfl, ?_⟩
      obtain ⟨d, hd, hm⟩ := atI_memI (ds := OT n) g0 g1
      have hg := OT_good hn hn2 d hm
      unfold OT at hd
      have q1 : ((w.map D.int).take j).length + [d].length ≤ LIM := by rw [List.length_take, List.length_map]; unfold LIM; show _ + 1 ≤ _; omega
      have q2 : ((w.map D.int).take j ++ [d]).length + ((w.map D.int).drop (j + 1)).length ≤ LIM := by rw [List.length_append, List.length_take, List.length_drop, List.length_map]; unfold LIM; show _ + 1 + _ ≤ _; omega
      have ej : (j : Int) + 1 = ((j + 1 : Nat) : Int) := rfl
      simp -implicitDefEqProofs only [mwAll, kStr1, kIEnum, kIZip, kAsgG, kAsgG2, kRevD, kCallP2, kInD, asB_bl, datR_nil, datR_cons, datR_map, snapR_dat, vw_dat, dats_dat, fzO_dat, fzO_own, fzs_dat, fz, grd_true, ofO_some, permO, getE, getC, setC, Out.bind_ok, Out.bind_ex, Out.bind_bad, bindS_ok, bindS_ex, bindS_bad, seq_nx, seq_rt, seq_bk, seq_ct, seq_ex, seq_bad, Out.wp_ok, Out.wp_ex, Out.wp_bad, SO.wp_nx, SO.wp_rt, SO.wp_bk, SO.wp_ct, SO.wp_ex, SO.wp_bad, turn_nx, turn_ct, turn_bk, turn_rt, turn_ex, turn_bad, List.getElem?_cons_zero, List.getElem?_cons_succ, List.set_cons_zero, List.set_cons_succ, List.length_cons, List.length_nil, List.length_map, List.length_set, List.length_append, List.map_cons, List.map_nil, List.cons_append, List.nil_append, List.replicate_succ, List.replicate_zero, List.append_nil, List.all_cons, List.all_nil, Option.map_some, Option.map_none, Option.bind_some, Option.bind_none, Option.isSome_some, Option.isSome_none, if_true, if_false, reduceIte, reduceCtorEq, decide_true, decide_false, Bool.true_or, Bool.or_true, Bool.or_false, Bool.false_or, Bool.true_and, Bool.and_true, Bool.and_false, Bool.false_and, Bool.not_true, Bool.not_false, Bool.and_self, Nat.reduceLT, Nat.reduceLeDiff, Nat.reduceAdd, Nat.zero_lt_succ, Int.toNat_natCast, get_last1, get_last2, last_map, drop_map, hd, ej, cutD_drop, oAdd_tp q1, oAdd_tp q2, outC0, outC1, outC2, x_outR1]
      exact k _ cs3 (sp_put (Nat.le_succ _) hn2 hw hl hg) hb3
theorem minX_memD {ks : List (List Int)} : minX ks = [] ∨ minX ks ∈ ks := by
  cases ks with
  | nil => exact .inl rfl
  | cons x r => exact .inr (minX_both r x).1
theorem ring_word {u w : List Int} (U : Undo u) (hw : Wd u w) : Wd u (ringW u w) ∧ (ringW u w).length ≤ w.length := by
  have cw : Wd u (coreW u w) := core_wd hw
  have cl : (coreW u w).length ≤ w.length := core_len u w
  have one : ∀ c : List Int, Wd u c → ∀ r ∈ rots c, Wd u r ∧ r.length = c.length := fun c wc r hr => by
    obtain ⟨_, p, q, rfl, rfl⟩ := mem_rots.mp hr
    exact ⟨wc.right.app wc.left, by rw [List.length_append, List.length_append]; omega⟩
  unfold ringW ringOf
  rcases minX_memD (ks := rots (coreW u w) ++ rots (backW u (coreW u w))) with h | h
  · rw [h]
    exact ⟨(fun x hx => by cases hx), Nat.zero_le _⟩
  · rcases List.mem_append.mp h with h | h
    · obtain ⟨h1, h2⟩ := one _ cw _ h
      exact ⟨h1, by omega⟩
    · obtain ⟨h1, h2⟩ := one _ (cw.back U) _ h
      rw [backW_len] at h2
      exact ⟨h1, by omega⟩
theorem ring_form_no {u : List Int} {d : D} (h : Gd d) (hw : isWordD d u.length = false) : mF_ring_form [.dat (tw u), .dat d] = .ex 4 [(7, d)] [.dat (tw u), .dat d] := by
  refine ex_of_wp ?_
  unfold mF_ring_form
  with_reducible refine wp_mDef rfl ?_
  unfold mB_ring_form
  simp -implicitDefEqProofs only [mwAll, kStr1, kIEnum, kIZip, kAsgG, kAsgG2, kRevD, kCallP2, kInD, asB_bl, datR_nil, datR_cons, datR_map, snapR_dat, vw_dat, dats_dat, fzO_dat, fzO_own, fzs_dat, fz, grd_true, ofO_some, permO, getE, getC, setC, Out.bind_ok, Out.bind_ex, Out.bind_bad, bindS_ok, bindS_ex, bindS_bad, seq_nx, seq_rt, seq_bk, seq_ct, seq_ex, seq_bad, Out.wp_ok, Out.wp_ex, Out.wp_bad, SO.wp_nx, SO.wp_rt, SO.wp_bk, SO.wp_ct, SO.wp_ex, SO.wp_bad, turn_nx, turn_ct, turn_bk, turn_rt, turn_ex, turn_bad, List.getElem?_cons_zero, List.getElem?_cons_succ, List.set_cons_zero, List.set_cons_succ, List.length_cons, List.length_nil, List.length_map, List.length_set, List.length_append, List.map_cons, List.map_nil, List.cons_append, List.nil_append, List.replicate_succ, List.replicate_zero, List.append_nil, List.all_cons, List.all_nil, Option.map_some, Option.map_none, Option.bind_some, Option.bind_none, Option.isSome_some, Option.isSome_none, if_true, if_false, reduceIte, reduceCtorEq, decide_true, decide_false, Bool.true_or, Bool.or_true, Bool.or_false, Bool.false_or, Bool.true_and, Bool.and_true, Bool.and_false, Bool.false_and, Bool.not_true, Bool.not_false, Bool.and_self, Nat.reduceLT, Nat.reduceLeDiff, Nat.reduceAdd, Nat.zero_lt_succ, Int.toNat_natCast, get_last1, get_last2, last_map, drop_map, is_word_eq h.pln h.lim, hw]
  exact ⟨trivial, rfl, rfl⟩
theorem sp_gd {d : D} (h : Sp d) : Gd d := ⟨okk_mono (by decide) h.1, by have := h.2; omega⟩
theorem ne_rp (s : Str) : oNe (.str s) (.str s) = some (.dat (.bl false)) := by simp [oNe, D.isS, eqD, D.py, PyData.eqv]
theorem okx_of_wp {o : Out R} {r : R} (h : Out.wp (fun r' _ => r' = r) (fun _ _ _ => False) o) : ∃ cs, o = .ok r cs := by
  cases o with
  | ok a e => exact ⟨e, by rw [show a = r from h]⟩
  | ex => cases h
  | bad => cases h
theorem all_true : ∀ ns : List Int, ns.length ≤ 63 → ∃ cs : M.Env, mF_law_all [.dat (.src (ns.map D.int))] = Out.ok (R.dat (.bl true)) cs := fun ns hns => by
  have LM : LIM = 1000000 := rfl
  refine okx_of_wp ?_
  unfold mF_law_all
  refine wp_mDef rfl ?_
  unfold mB_law_all
  obtain ⟨c0, hc0, eb⟩ := law_box_eq (ns := ns) hns
  obtain ⟨cs0, rfl, hb0⟩ := hc0.lst
  simp -implicitDefEqProofs only [mwAll, kStr1, kIEnum, kIZip, kAsgG, kAsgG2, kRevD, kCallP2, kInD, asB_bl, datR_nil, datR_cons, datR_map, snapR_dat, vw_dat, dats_dat, fzO_dat, fzO_own, fzs_dat, fz, grd_true, ofO_some, permO, getE, getC, setC, Out.bind_ok, Out.bind_ex, Out.bind_bad, bindS_ok, bindS_ex, bindS_bad, seq_nx, seq_rt, seq_bk, seq_ct, seq_ex, seq_bad, Out.wp_ok, Out.wp_ex, Out.wp_bad, SO.wp_nx, SO.wp_rt, SO.wp_bk, SO.wp_ct, SO.wp_ex, SO.wp_bad, turn_nx, turn_ct, turn_bk, turn_rt, turn_ex, turn_bad, List.getElem?_cons_zero, List.getElem?_cons_succ, List.set_cons_zero, List.set_cons_succ, List.length_cons, List.length_nil, List.length_map, List.length_set, List.length_append, List.map_cons, List.map_nil, List.cons_append, List.nil_append, List.replicate_succ, List.replicate_zero, List.append_nil, List.all_cons, List.all_nil, Option.map_some, Option.map_none, Option.bind_some, Option.bind_none, Option.isSome_some, Option.isSome_none, if_true, if_false, reduceIte, reduceCtorEq, decide_true, decide_false, Bool.true_or, Bool.or_true, Bool.or_false, Bool.false_or, Bool.true_and, Bool.and_true, Bool.and_false, Bool.false_and, Bool.not_true, Bool.not_false, Bool.and_self, Nat.reduceLT, Nat.reduceLeDiff, Nat.reduceAdd, Nat.zero_lt_succ, Int.toNat_natCast, get_last1, get_last2, last_map, drop_map, eb, kIR1_ok (n := 6) (by decide) (by decide)]
  refine wp_forSeq (fun _ e => ∃ (cs : List C) (a b c d f g h i j : C), Bx cs ∧ e = [C.dat (.src (ns.map D.int)), C.lst cs, a, b, c, d, f, g, h, i, j]) ⟨_, _, _, _, _, _, _, _, _, _, hb0, rfl⟩ (fun k0 x e hx ⟨cs, a, b, c, d, f, g, h, i, j, hb, he⟩ => ?_) fun e ⟨cs, a, b, c, d, f, g, h, i, j, hb, he⟩ => ?_
  rotate_left
  · subst he
    simp -implicitDefEqProofs only [mwAll, kStr1, kIEnum, kIZip, kAsgG, kAsgG2, kRevD, kCallP2, kInD, asB_bl, datR_nil, datR_cons, datR_map, snapR_dat, vw_dat, dats_dat, fzO_dat, fzO_own, fzs_dat, fz, grd_true, ofO_some, permO, getE, getC, setC, Out.bind_ok, Out.bind_ex, Out.bind_bad, bindS_ok, bindS_ex, bindS_bad, seq_nx, seq_rt, seq_bk, seq_ct, seq_ex, seq_bad, Out.wp_ok, Out.wp_ex, Out.wp_bad, SO.wp_nx, SO.wp_rt, SO.wp_bk, SO.wp_ct, SO.wp_ex, SO.wp_bad, turn_nx, turn_ct, turn_bk, turn_rt, turn_ex, turn_bad, List.getElem?_cons_zero, List.getElem?_cons_succ, List.set_cons_zero, List.set_cons_succ, List.length_cons, List.length_nil, List.length_map, List.length_set, List.length_append, List.map_cons, List.map_nil, List.cons_append, List.nil_append, List.replicate_succ, List.replicate_zero, List.append_nil, List.all_cons, List.all_nil, Option.map_some, Option.map_none, Option.bind_some, Option.bind_none, Option.isSome_some, Option.isSome_none, if_true, if_false, reduceIte, reduceCtorEq, decide_true, decide_false, Bool.true_or, Bool.or_true, Bool.or_false, Bool.false_or, Bool.true_and, Bool.and_true, Bool.and_false, Bool.false_and, Bool.not_true, Bool.not_false, Bool.and_self, Nat.reduceLT, Nat.reduceLeDiff, Nat.reduceAdd, Nat.zero_lt_succ, Int.toNat_natCast, get_last1, get_last2, last_map, drop_map, outC0, outC1, x_outR1]
  subst he
  refine ⟨_, rfl, ?_⟩
  simp -implicitDefEqProofs only [mwAll, kStr1, kIEnum, kIZip, kAsgG, kAsgG2, kRevD, kCallP2, kInD, asB_bl, datR_nil, datR_cons, datR_map, snapR_dat, vw_dat, dats_dat, fzO_dat, fzO_own, fzs_dat, fz, grd_true, ofO_some, permO, getE, getC, setC, Out.bind_ok, Out.bind_ex, Out.bind_bad, bindS_ok, bindS_ex, bindS_bad, seq_nx, seq_rt, seq_bk, seq_ct, seq_ex, seq_bad, Out.wp_ok, Out.wp_ex, Out.wp_bad, SO.wp_nx, SO.wp_rt, SO.wp_bk, SO.wp_ct, SO.wp_ex, SO.wp_bad, turn_nx, turn_ct, turn_bk, turn_rt, turn_ex, turn_bad, List.getElem?_cons_zero, List.getElem?_cons_succ, List.set_cons_zero, List.set_cons_succ, List.length_cons, List.length_nil, List.length_map, List.length_set, List.length_append, List.map_cons, List.map_nil, List.cons_append, List.nil_append, List.replicate_succ, List.replicate_zero, List.append_nil, List.all_cons, List.all_nil, Option.map_some, Option.map_none, Option.bind_some, Option.bind_none, Option.isSome_some, Option.isSome_none, if_true, if_false, reduceIte, reduceCtorEq, decide_true, decide_false, Bool.true_or, Bool.or_true, Bool.or_false, Bool.false_or, Bool.true_and, Bool.and_true, Bool.and_false, Bool.false_and, Bool.not_true, Bool.not_false, Bool.and_self, Nat.reduceLT, Nat.reduceLeDiff, Nat.reduceAdd, Nat.zero_lt_succ, Int.toNat_natCast, get_last1, get_last2, last_map, drop_map]
  repeat (first | rw [wp_seq] | rw [wp_bindS] | rw [Out.wp_bind])
  refine wp_kRb (undo_wp hb (by decide) (by decide) fun u cs1 U hu hb1 => ⟨_, rfl, ?_⟩)
  have hu : u.length ≤ 4 := by omega
  have up := U.pos
  simp -implicitDefEqProofs only [mwAll, kStr1, kIEnum, kIZip, kAsgG, kAsgG2, kRevD, kCallP2, kInD, asB_bl, datR_nil, datR_cons, datR_map, snapR_dat, vw_dat, dats_dat, fzO_dat, fzO_own, fzs_dat, fz, grd_true, ofO_some, permO, getE, getC, setC, Out.bind_ok, Out.bind_ex, Out.bind_bad, bindS_ok, bindS_ex, bindS_bad, seq_nx, seq_rt, seq_bk, seq_ct, seq_ex, seq_bad, Out.wp_ok, Out.wp_ex, Out.wp_bad, SO.wp_nx, SO.wp_rt, SO.wp_bk, SO.wp_ct, SO.wp_ex, SO.wp_bad, turn_nx, turn_ct, turn_bk, turn_rt, turn_ex, turn_bad, List.getElem?_cons_zero, List.getElem?_cons_succ, List.set_cons_zero, List.set_cons_succ, List.length_cons, List.length_nil, List.length_map, List.length_set, List.length_append, List.map_cons, List.map_nil, List.cons_append, List.nil_append, List.replicate_succ, List.replicate_zero, List.append_nil, List.all_cons, List.all_nil, Option.map_some, Option.map_none, Option.bind_some, Option.bind_none, Option.isSome_some, Option.isSome_none, if_true, if_false, reduceIte, reduceCtorEq, decide_true, decide_false, Bool.true_or, Bool.or_true, Bool.or_false, Bool.false_or, Bool.true_and, Bool.and_true, Bool.and_false, Bool.false_and, Bool.not_true, Bool.not_false, Bool.and_self, Nat.reduceLT, Nat.reduceLeDiff, Nat.reduceAdd, Nat.zero_lt_succ, Int.toNat_natCast, get_last1, get_last2, last_map, drop_map]
  repeat (first | rw [wp_seq] | rw [wp_bindS] | rw [Out.wp_bind])
  refine draw_kRb hb1 (by decide) (by decide) fun y cs2 y0 y1 hb2 => ⟨_, rfl, ?_⟩
  obtain ⟨m9, hm9, hmm⟩ := atI_memI (ds := [D.int 4, .int 8, .int 12, .int 30]) y0 y1
  obtain ⟨m, rfl, hm⟩ : ∃ m : Int, m9 = .int m ∧ 0 ≤ m ∧ m ≤ 30 := by
    simp only [List.mem_cons, List.not_mem_nil, or_false] at hmm
    rcases hmm with rfl | rfl | rfl | rfl <;> exact ⟨_, rfl, by decide, by decide⟩
  have hc := fun c e => chO_own hm9 c e
  simp only [List.map_cons, List.map_nil] at hc
  simp -implicitDefEqProofs only [mwAll, kStr1, kIEnum, kIZip, kAsgG, kAsgG2, kRevD, kCallP2, kInD, asB_bl, datR_nil, datR_cons, datR_map, snapR_dat, vw_dat, dats_dat, fzO_dat, fzO_own, fzs_dat, fz, grd_true, ofO_some, permO, getE, getC, setC, Out.bind_ok, Out.bind_ex, Out.bind_bad, bindS_ok, bindS_ex, bindS_bad, seq_nx, seq_rt, seq_bk, seq_ct, seq_ex, seq_bad, Out.wp_ok, Out.wp_ex, Out.wp_bad, SO.wp_nx, SO.wp_rt, SO.wp_bk, SO.wp_ct, SO.wp_ex, SO.wp_bad, turn_nx, turn_ct, turn_bk, turn_rt, turn_ex, turn_bad, List.getElem?_cons_zero, List.getElem?_cons_succ, List.set_cons_zero, List.set_cons_succ, List.length_cons, List.length_nil, List.length_map, List.length_set, List.length_append, List.map_cons, List.map_nil, List.cons_append, List.nil_append, List.replicate_succ, List.replicate_zero, List.append_nil, List.all_cons, List.all_nil, Option.map_some, Option.map_none, Option.bind_some, Option.bind_none, Option.isSome_some, Option.isSome_none, if_true, if_false, reduceIte, reduceCtorEq, decide_true, decide_false, Bool.true_or, Bool.or_true, Bool.or_false, Bool.false_or, Bool.true_and, Bool.and_true, Bool.and_false, Bool.false_and, Bool.not_true, Bool.not_false, Bool.and_self, Nat.reduceLT, Nat.reduceLeDiff, Nat.reduceAdd, Nat.zero_lt_succ, Int.toNat_natCast, get_last1, get_last2, last_map, drop_map, ixO_own, hc, isD_own]
  repeat (first | rw [wp_seq] | rw [wp_bindS] | rw [Out.wp_bind])
  refine wp_kRb (word_wp hb2 (by omega) (by omega) hm.1 (by omega) fun w cs3 hw hl hb3 => ⟨_, rfl, ?_⟩)
  simp -implicitDefEqProofs only [mwAll, kStr1, kIEnum, kIZip, kAsgG, kAsgG2, kRevD, kCallP2, kInD, asB_bl, datR_nil, datR_cons, datR_map, snapR_dat, vw_dat, dats_dat, fzO_dat, fzO_own, fzs_dat, fz, grd_true, ofO_some, permO, getE, getC, setC, Out.bind_ok, Out.bind_ex, Out.bind_bad, bindS_ok, bindS_ex, bindS_bad, seq_nx, seq_rt, seq_bk, seq_ct, seq_ex, seq_bad, Out.wp_ok, Out.wp_ex, Out.wp_bad, SO.wp_nx, SO.wp_rt, SO.wp_bk, SO.wp_ct, SO.wp_ex, SO.wp_bad, turn_nx, turn_ct, turn_bk, turn_rt, turn_ex, turn_bad, List.getElem?_cons_zero, List.getElem?_cons_succ, List.set_cons_zero, List.set_cons_succ, List.length_cons, List.length_nil, List.length_map, List.length_set, List.length_append, List.map_cons, List.map_nil, List.cons_append, List.nil_append, List.replicate_succ, List.replicate_zero, List.append_nil, List.all_cons, List.all_nil, Option.map_some, Option.map_none, Option.bind_some, Option.bind_none, Option.isSome_some, Option.isSome_none, if_true, if_false, reduceIte, reduceCtorEq, decide_true, decide_false, Bool.true_or, Bool.or_true, Bool.or_false, Bool.false_or, Bool.true_and, Bool.and_true, Bool.and_false, Bool.false_and, Bool.not_true, Bool.not_false, Bool.and_self, Nat.reduceLT, Nat.reduceLeDiff, Nat.reduceAdd, Nat.zero_lt_succ, Int.toNat_natCast, get_last1, get_last2, last_map, drop_map]
  refine wp_cut (fun e => ∃ (cs : List C) (w : List Int) (d : C), Bx cs ∧ Wd u w ∧ w.length ≤ 40 ∧ e = [C.dat (.src (ns.map D.int)), C.lst cs, C.dat x, C.dat (tw u), C.dat (tw w), d, f, g, h, i, j]) ?_ fun e ⟨cs5, w, d, hb5, hw, hl, he⟩ => ?_
  · repeat (first | rw [wp_seq] | rw [wp_bindS] | rw [Out.wp_bind])
    refine draw_kRb hb3 (by decide) (by decide) fun z cs4 z0 z1 hb4 => ⟨_, rfl, ?_⟩
    by_cases e : z = 0
    · subst e
      simp -implicitDefEqProofs only [mwAll, kStr1, kIEnum, kIZip, kAsgG, kAsgG2, kRevD, kCallP2, kInD, asB_bl, datR_nil, datR_cons, datR_map, snapR_dat, vw_dat, dats_dat, fzO_dat, fzO_own, fzs_dat, fz, grd_true, ofO_some, permO, getE, getC, setC, Out.bind_ok, Out.bind_ex, Out.bind_bad, bindS_ok, bindS_ex, bindS_bad, seq_nx, seq_rt, seq_bk, seq_ct, seq_ex, seq_bad, Out.wp_ok, Out.wp_ex, Out.wp_bad, SO.wp_nx, SO.wp_rt, SO.wp_bk, SO.wp_ct, SO.wp_ex, SO.wp_bad, turn_nx, turn_ct, turn_bk, turn_rt, turn_ex, turn_bad, List.getElem?_cons_zero, List.getElem?_cons_succ, List.set_cons_zero, List.set_cons_succ, List.length_cons, List.length_nil, List.length_map, List.length_set, List.length_append, List.map_cons, List.map_nil, List.cons_append, List.nil_append, List.replicate_succ, List.replicate_zero, List.append_nil, List.all_cons, List.all_nil, Option.map_some, Option.map_none, Option.bind_some, Option.bind_none, Option.isSome_some, Option.isSome_none, if_true, if_false, reduceIte, reduceCtorEq, decide_true, decide_false, Bool.true_or, Bool.or_true, Bool.or_false, Bool.false_or, Bool.true_and, Bool.and_true, Bool.and_false, Bool.false_and, Bool.not_true, Bool.not_false, Bool.and_self, Nat.reduceLT, Nat.reduceLeDiff, Nat.reduceAdd, Nat.zero_lt_succ, Int.toNat_natCast, get_last1, get_last2, last_map, drop_map]
      repeat (first | rw [wp_seq] | rw [wp_bindS] | rw [Out.wp_bind])
      refine wp_kRb (word_wp hb4 (by omega) (by omega) (by decide) (by decide) fun v cs5 hv lv hb5 => ⟨_, rfl, ?_⟩)
      have hlb := backW_len u v
      simp -implicitDefEqProofs only [mwAll, kStr1, kIEnum, kIZip, kAsgG, kAsgG2, kRevD, kCallP2, kInD, asB_bl, datR_nil, datR_cons, datR_map, snapR_dat, vw_dat, dats_dat, fzO_dat, fzO_own, fzs_dat, fz, grd_true, ofO_some, permO, getE, getC, setC, Out.bind_ok, Out.bind_ex, Out.bind_bad, bindS_ok, bindS_ex, bindS_bad, seq_nx, seq_rt, seq_bk, seq_ct, seq_ex, seq_bad, Out.wp_ok, Out.wp_ex, Out.wp_bad, SO.wp_nx, SO.wp_rt, SO.wp_bk, SO.wp_ct, SO.wp_ex, SO.wp_bad, turn_nx, turn_ct, turn_bk, turn_rt, turn_ex, turn_bad, List.getElem?_cons_zero, List.getElem?_cons_succ, List.set_cons_zero, List.set_cons_succ, List.length_cons, List.length_nil, List.length_map, List.length_set, List.length_append, List.map_cons, List.map_nil, List.cons_append, List.nil_append, List.replicate_succ, List.replicate_zero, List.append_nil, List.all_cons, List.all_nil, Option.map_some, Option.map_none, Option.bind_some, Option.bind_none, Option.isSome_some, Option.isSome_none, if_true, if_false, reduceIte, reduceCtorEq, decide_true, decide_false, Bool.true_or, Bool.or_true, Bool.or_false, Bool.false_or, Bool.true_and, Bool.and_true, Bool.and_false, Bool.false_and, Bool.not_true, Bool.not_false, Bool.and_self, Nat.reduceLT, Nat.reduceLeDiff, Nat.reduceAdd, Nat.zero_lt_succ, Int.toNat_natCast, get_last1, get_last2, last_map, drop_map, oAdd_tw (a := v) (b := w) (by omega), law_back_eq hv (show v.length ≤ LIM by omega), oAdd_tw (a := v ++ w) (b := backW u v) (by rw [List.length_append]; omega)]
      exact ⟨_, v ++ w ++ backW u v, _, hb5, Wd.app (Wd.app hv hw) (Wd.back U hv), by rw [List.length_append, List.length_append]; omega, rfl⟩
    · simp -implicitDefEqProofs only [mwAll, kStr1, kIEnum, kIZip, kAsgG, kAsgG2, kRevD, kCallP2, kInD, asB_bl, datR_nil, datR_cons, datR_map, snapR_dat, vw_dat, dats_dat, fzO_dat, fzO_own, fzs_dat, fz, grd_true, ofO_some, permO, getE, getC, setC, Out.bind_ok, Out.bind_ex, Out.bind_bad, bindS_ok, bindS_ex, bindS_bad, seq_nx, seq_rt, seq_bk, seq_ct, seq_ex, seq_bad, Out.wp_ok, Out.wp_ex, Out.wp_bad, SO.wp_nx, SO.wp_rt, SO.wp_bk, SO.wp_ct, SO.wp_ex, SO.wp_bad, turn_nx, turn_ct, turn_bk, turn_rt, turn_ex, turn_bad, List.getElem?_cons_zero, List.getElem?_cons_succ, List.set_cons_zero, List.set_cons_succ, List.length_cons, List.length_nil, List.length_map, List.length_set, List.length_append, List.map_cons, List.map_nil, List.cons_append, List.nil_append, List.replicate_succ, List.replicate_zero, List.append_nil, List.all_cons, List.all_nil, Option.map_some, Option.map_none, Option.bind_some, Option.bind_none, Option.isSome_some, Option.isSome_none, if_true, if_false, reduceIte, reduceCtorEq, decide_true, decide_false, Bool.true_or, Bool.or_true, Bool.or_false, Bool.false_or, Bool.true_and, Bool.and_true, Bool.and_false, Bool.false_and, Bool.not_true, Bool.not_false, Bool.and_self, Nat.reduceLT, Nat.reduceLeDiff, Nat.reduceAdd, Nat.zero_lt_succ, Int.toNat_natCast, get_last1, get_last2, last_map, drop_map, e]
      exact ⟨_, w, _, hb4, hw, by omega, rfl⟩
  · subst he
    obtain ⟨r1, r2⟩ := ring_word U hw
    have gr : Gd (tw (ringW u w)) := Gd.word (by omega) fun x hx => small30 (n := u.length) (by omega) (r1 x hx)
    simp -implicitDefEqProofs only [mwAll, kStr1, kIEnum, kIZip, kAsgG, kAsgG2, kRevD, kCallP2, kInD, asB_bl, datR_nil, datR_cons, datR_map, snapR_dat, vw_dat, dats_dat, fzO_dat, fzO_own, fzs_dat, fz, grd_true, ofO_some, permO, getE, getC, setC, Out.bind_ok, Out.bind_ex, Out.bind_bad, bindS_ok, bindS_ex, bindS_bad, seq_nx, seq_rt, seq_bk, seq_ct, seq_ex, seq_bad, Out.wp_ok, Out.wp_ex, Out.wp_bad, SO.wp_nx, SO.wp_rt, SO.wp_bk, SO.wp_ct, SO.wp_ex, SO.wp_bad, turn_nx, turn_ct, turn_bk, turn_rt, turn_ex, turn_bad, List.getElem?_cons_zero, List.getElem?_cons_succ, List.set_cons_zero, List.set_cons_succ, List.length_cons, List.length_nil, List.length_map, List.length_set, List.length_append, List.map_cons, List.map_nil, List.cons_append, List.nil_append, List.replicate_succ, List.replicate_zero, List.append_nil, List.all_cons, List.all_nil, Option.map_some, Option.map_none, Option.bind_some, Option.bind_none, Option.isSome_some, Option.isSome_none, if_true, if_false, reduceIte, reduceCtorEq, decide_true, decide_false, Bool.true_or, Bool.or_true, Bool.or_false, Bool.false_or, Bool.true_and, Bool.and_true, Bool.and_false, Bool.false_and, Bool.not_true, Bool.not_false, Bool.and_self, Nat.reduceLT, Nat.reduceLeDiff, Nat.reduceAdd, Nat.zero_lt_succ, Int.toNat_natCast, get_last1, get_last2, last_map, drop_map, law_ring_ok U (by omega) hw (by omega), gr.repr]
    repeat (first | rw [wp_seq] | rw [wp_bindS] | rw [Out.wp_bind])
    refine draw_kRb hb5 (by omega) (by omega) fun t cs6 t0 t1 hb6 => ⟨_, rfl, ?_⟩
    obtain ⟨k, rfl⟩ : ∃ k : Nat, t = k := ⟨t.toNat, by omega⟩
    have hsp : Wd u (w.take k ++ w.drop k) := by rw [List.take_append_drop]; exact hw
    have f1 := ring_form_ok U (by omega) hw (by omega)
    have f2 := ring_form_ok U (by omega) (hsp.right.app hsp.left) (by rw [List.length_append, List.length_take, List.length_drop]; omega)
    have e2 := ringW_rot U hsp
    rw [List.take_append_drop] at e2
    rw [e2] at f2
    have f3 := ring_form_ok U (by omega) (hw.back U) (by rw [backW_len]; omega)
    rw [ringW_back U hw] at f3
    have ed : D.tup (List.drop k (List.map D.int w)) = tw (w.drop k) := by unfold tw; rw [List.map_drop]
    have et : D.tup (List.take k (List.map D.int w)) = tw (w.take k) := by unfold tw; rw [List.map_take]
    have h6 : M.cutD (w.map D.int) none (some 6) = (w.take 6).map D.int := by
      have := cutD_take (w.map D.int) 6
      rw [← List.map_take] at this
      exact this
    have pm : ∀ a b : R, perm [1, 0] [a, b] = [b, a] := fun _ _ => rfl
    simp -implicitDefEqProofs only [mwAll, kStr1, kIEnum, kIZip, kAsgG, kAsgG2, kRevD, kCallP2, kInD, asB_bl, datR_nil, datR_cons, datR_map, snapR_dat, vw_dat, dats_dat, fzO_dat, fzO_own, fzs_dat, fz, grd_true, ofO_some, permO, getE, getC, setC, Out.bind_ok, Out.bind_ex, Out.bind_bad, bindS_ok, bindS_ex, bindS_bad, seq_nx, seq_rt, seq_bk, seq_ct, seq_ex, seq_bad, Out.wp_ok, Out.wp_ex, Out.wp_bad, SO.wp_nx, SO.wp_rt, SO.wp_bk, SO.wp_ct, SO.wp_ex, SO.wp_bad, turn_nx, turn_ct, turn_bk, turn_rt, turn_ex, turn_bad, List.getElem?_cons_zero, List.getElem?_cons_succ, List.set_cons_zero, List.set_cons_succ, List.length_cons, List.length_nil, List.length_map, List.length_set, List.length_append, List.map_cons, List.map_nil, List.cons_append, List.nil_append, List.replicate_succ, List.replicate_zero, List.append_nil, List.all_cons, List.all_nil, Option.map_some, Option.map_none, Option.bind_some, Option.bind_none, Option.isSome_some, Option.isSome_none, if_true, if_false, reduceIte, reduceCtorEq, decide_true, decide_false, Bool.true_or, Bool.or_true, Bool.or_false, Bool.false_or, Bool.true_and, Bool.and_true, Bool.and_false, Bool.false_and, Bool.not_true, Bool.not_false, Bool.and_self, Nat.reduceLT, Nat.reduceLeDiff, Nat.reduceAdd, Nat.zero_lt_succ, Int.toNat_natCast, get_last1, get_last2, last_map, drop_map, pm, f1, gr.repr, ne_rp, cutD_take, cutD_drop, ed, et, oAdd_tw (a := w.drop k) (b := w.take k) (by rw [List.length_take, List.length_drop]; omega), f2, law_back_eq hw (show w.length ≤ LIM by omega), f3, h6]
    repeat (first | rw [wp_seq] | rw [wp_bindS] | rw [Out.wp_bind])
    refine wp_kRb (spoilt_wp (n := (u.length : Nat)) (w := w.take 6) hb6 (by omega) (by omega) (fun x hx => hw x (List.mem_of_mem_take hx)) (by rw [List.length_take]; omega) fun v cs7 hv hb7 => ⟨_, rfl, ?_⟩)
    have gv := sp_gd hv
    cases hwd : isWordD v u.length with
    | true =>
      simp -implicitDefEqProofs only [mwAll, kStr1, kIEnum, kIZip, kAsgG, kAsgG2, kRevD, kCallP2, kInD, asB_bl, datR_nil, datR_cons, datR_map, snapR_dat, vw_dat, dats_dat, fzO_dat, fzO_own, fzs_dat, fz, grd_true, ofO_some, permO, getE, getC, setC, Out.bind_ok, Out.bind_ex, Out.bind_bad, bindS_ok, bindS_ex, bindS_bad, seq_nx, seq_rt, seq_bk, seq_ct, seq_ex, seq_bad, Out.wp_ok, Out.wp_ex, Out.wp_bad, SO.wp_nx, SO.wp_rt, SO.wp_bk, SO.wp_ct, SO.wp_ex, SO.wp_bad, turn_nx, turn_ct, turn_bk, turn_rt, turn_ex, turn_bad, List.getElem?_cons_zero, List.getElem?_cons_succ, List.set_cons_zero, List.set_cons_succ, List.length_cons, List.length_nil, List.length_map, List.length_set, List.length_append, List.map_cons, List.map_nil, List.cons_append, List.nil_append, List.replicate_succ, List.replicate_zero, List.append_nil, List.all_cons, List.all_nil, Option.map_some, Option.map_none, Option.bind_some, Option.bind_none, Option.isSome_some, Option.isSome_none, if_true, if_false, reduceIte, reduceCtorEq, decide_true, decide_false, Bool.true_or, Bool.or_true, Bool.or_false, Bool.false_or, Bool.true_and, Bool.and_true, Bool.and_false, Bool.false_and, Bool.not_true, Bool.not_false, Bool.and_self, Nat.reduceLT, Nat.reduceLeDiff, Nat.reduceAdd, Nat.zero_lt_succ, Int.toNat_natCast, get_last1, get_last2, last_map, drop_map, law_is_word_eq gv.pln gv.lim, hwd]
      exact ⟨_, _, _, _, _, _, _, _, _, _, hb7, rfl⟩
    | false =>
      simp -implicitDefEqProofs only [mwAll, kStr1, kIEnum, kIZip, kAsgG, kAsgG2, kRevD, kCallP2, kInD, asB_bl, datR_nil, datR_cons, datR_map, snapR_dat, vw_dat, dats_dat, fzO_dat, fzO_own, fzs_dat, fz, grd_true, ofO_some, permO, getE, getC, setC, Out.bind_ok, Out.bind_ex, Out.bind_bad, bindS_ok, bindS_ex, bindS_bad, seq_nx, seq_rt, seq_bk, seq_ct, seq_ex, seq_bad, Out.wp_ok, Out.wp_ex, Out.wp_bad, SO.wp_nx, SO.wp_rt, SO.wp_bk, SO.wp_ct, SO.wp_ex, SO.wp_bad, turn_nx, turn_ct, turn_bk, turn_rt, turn_ex, turn_bad, List.getElem?_cons_zero, List.getElem?_cons_succ, List.set_cons_zero, List.set_cons_succ, List.length_cons, List.length_nil, List.length_map, List.length_set, List.length_append, List.map_cons, List.map_nil, List.cons_append, List.nil_append, List.replicate_succ, List.replicate_zero, List.append_nil, List.all_cons, List.all_nil, Option.map_some, Option.map_none, Option.bind_some, Option.bind_none, Option.isSome_some, Option.isSome_none, if_true, if_false, reduceIte, reduceCtorEq, decide_true, decide_false, Bool.true_or, Bool.or_true, Bool.or_false, Bool.false_or, Bool.true_and, Bool.and_true, Bool.and_false, Bool.false_and, Bool.not_true, Bool.not_false, Bool.and_self, Nat.reduceLT, Nat.reduceLeDiff, Nat.reduceAdd, Nat.zero_lt_succ, Int.toNat_natCast, get_last1, get_last2, last_map, drop_map, law_is_word_eq gv.pln gv.lim, hwd, gv.repr, ring_form_no gv hwd]
      have eT4 : excTag 4 = true := rfl
      have eS44 : excSub 4 4 = true := rfl
      simp -implicitDefEqProofs only [mwAll, kStr1, kIEnum, kIZip, kAsgG, kAsgG2, kRevD, kCallP2, kInD, asB_bl, datR_nil, datR_cons, datR_map, snapR_dat, vw_dat, dats_dat, fzO_dat, fzO_own, fzs_dat, fz, grd_true, ofO_some, permO, getE, getC, setC, Out.bind_ok, Out.bind_ex, Out.bind_bad, bindS_ok, bindS_ex, bindS_bad, seq_nx, seq_rt, seq_bk, seq_ct, seq_ex, seq_bad, Out.wp_ok, Out.wp_ex, Out.wp_bad, SO.wp_nx, SO.wp_rt, SO.wp_bk, SO.wp_ct, SO.wp_ex, SO.wp_bad, turn_nx, turn_ct, turn_bk, turn_rt, turn_ex, turn_bad, List.getElem?_cons_zero, List.getElem?_cons_succ, List.set_cons_zero, List.set_cons_succ, List.length_cons, List.length_nil, List.length_map, List.length_set, List.length_append, List.map_cons, List.map_nil, List.cons_append, List.nil_append, List.replicate_succ, List.replicate_zero, List.append_nil, List.all_cons, List.all_nil, Option.map_some, Option.map_none, Option.bind_some, Option.bind_none, Option.isSome_some, Option.isSome_none, if_true, if_false, reduceIte, reduceCtorEq, decide_true, decide_false, Bool.true_or, Bool.or_true, Bool.or_false, Bool.false_or, Bool.true_and, Bool.and_true, Bool.and_false, Bool.false_and, Bool.not_true, Bool.not_false, Bool.and_self, Nat.reduceLT, Nat.reduceLeDiff, Nat.reduceAdd, Nat.zero_lt_succ, Int.toNat_natCast, get_last1, get_last2, last_map, drop_map, mxAll, mxB, Nat.reduceBEq, Nat.reduceEqDiff, List.contains_cons, List.contains_nil, eT4, eS44, x_hGo1, x_clr2, x_mXf, lookup_one, gv.repr, ne_rp]
      exact ⟨_, _, _, _, _, _, _, _, _, _, hb7, rfl⟩
end K36
set_option Elab.async false
set_option linter.all false
set_option maxRecDepth 100000
set_option maxHeartbeats 4000000
namespace K36
open PySem PySem.Spec PyProof.Rows L2 MR M
def topS (i : Nat) : Stmt := PySem.Challenge.pw_normalwords_k36_ring_forms.main.body.getD i (.Pass ⟨0, 0, 0, 0⟩)
abbrev s_is_integer : Stmt := topS 4
theorem sc_is_integer : FnScope ["value"] ["value"] (defScope s_is_integer) := ⟨rfl, rfl, rfl, by decide +kernel, rfl, by decide +kernel, by decide +kernel⟩
abbrev s_is_number : Stmt := topS 5
theorem sc_is_number : FnScope ["value"] ["value"] (defScope s_is_number) := ⟨rfl, rfl, rfl, by decide +kernel, rfl, by decide +kernel, by decide +kernel⟩
abbrev s_is_word : Stmt := topS 6
theorem sc_is_word : FnScope ["value", "letters", "letter"] ["value", "letters"] (defScope s_is_word) := ⟨rfl, rfl, rfl, by decide +kernel, rfl, by decide +kernel, by decide +kernel⟩
abbrev s_check_word : Stmt := topS 7
theorem sc_check_word : FnScope ["word", "letters"] ["word", "letters"] (defScope s_check_word) := ⟨rfl, rfl, rfl, by decide +kernel, rfl, by decide +kernel, by decide +kernel⟩
abbrev s_undone : Stmt := topS 8
theorem sc_undone : FnScope ["undo", "word", "letter"] ["undo", "word"] (defScope s_undone) := ⟨rfl, rfl, rfl, by decide +kernel, rfl, by decide +kernel, by decide +kernel⟩
abbrev s_freely_reduced : Stmt := topS 9
theorem sc_freely_reduced : FnScope ["undo", "word", "left", "letter"] ["undo", "word"] (defScope s_freely_reduced) := ⟨rfl, rfl, rfl, by decide +kernel, rfl, by decide +kernel, by decide +kernel⟩
abbrev s_ring_form : Stmt := topS 11
theorem sc_ring_form : FnScope ["undo", "word", "left", "rings", "one", "place"] ["undo", "word"] (defScope s_ring_form) := ⟨rfl, rfl, rfl, by decide +kernel, rfl, by decide +kernel, by decide +kernel⟩
abbrev s_law_box : Stmt := topS 13
theorem sc_law_box : FnScope ["script", "cell"] ["script"] (defScope s_law_box) := ⟨rfl, rfl, rfl, by decide +kernel, rfl, by decide +kernel, by decide +kernel⟩
abbrev s_law_draw : Stmt := topS 14
theorem sc_law_draw : FnScope ["box", "limit", "cells", "k", "digit", "cell", "mixed"] ["box", "limit"] (defScope s_law_draw) := ⟨rfl, rfl, rfl, by decide +kernel, rfl, by decide +kernel, by decide +kernel⟩
abbrev s_law_number : Stmt := topS 15
theorem sc_law_number : FnScope ["value"] ["value"] (defScope s_law_number) := ⟨rfl, rfl, rfl, by decide +kernel, rfl, by decide +kernel, by decide +kernel⟩
abbrev s_law_undo : Stmt := topS 16
theorem sc_law_undo : FnScope ["box", "most", "size", "undo", "k", "a", "b"] ["box", "most"] (defScope s_law_undo) := ⟨rfl, rfl, rfl, by decide +kernel, rfl, by decide +kernel, by decide +kernel⟩
abbrev s_law_word : Stmt := topS 17
theorem sc_law_word : FnScope ["box", "letters", "most", "k"] ["box", "letters", "most"] (defScope s_law_word) := ⟨rfl, rfl, rfl, by decide +kernel, rfl, by decide +kernel, by decide +kernel⟩
abbrev s_law_is_word : Stmt := topS 18
theorem sc_law_is_word : FnScope ["value", "letters", "x"] ["value", "letters"] (defScope s_law_is_word) := ⟨rfl, rfl, rfl, by decide +kernel, rfl, by decide +kernel, by decide +kernel⟩
abbrev s_law_thing : Stmt := topS 19
theorem sc_law_thing : FnScope ["box", "things"] ["box"] (defScope s_law_thing) := ⟨rfl, rfl, rfl, by decide +kernel, rfl, by decide +kernel, by decide +kernel⟩
abbrev s_law_spoilt : Stmt := topS 20
theorem sc_law_spoilt : FnScope ["box", "word", "letters", "at", "others", "shape", "x"] ["box", "word", "letters"] (defScope s_law_spoilt) := ⟨rfl, rfl, rfl, by decide +kernel, rfl, by decide +kernel, by decide +kernel⟩
abbrev s_law_reduced : Stmt := topS 21
theorem sc_law_reduced : FnScope ["undo", "word", "left", "x"] ["undo", "word"] (defScope s_law_reduced) := ⟨rfl, rfl, rfl, by decide +kernel, rfl, by decide +kernel, by decide +kernel⟩
abbrev s_law_back : Stmt := topS 22
theorem sc_law_back : FnScope ["undo", "word", "k"] ["undo", "word"] (defScope s_law_back) := ⟨rfl, rfl, rfl, by decide +kernel, rfl, by decide +kernel, by decide +kernel⟩
abbrev s_law_ring : Stmt := topS 23
theorem sc_law_ring : FnScope ["undo", "word", "k", "turned", "rounds"] ["undo", "word"] (defScope s_law_ring) := ⟨rfl, rfl, rfl, by decide +kernel, rfl, by decide +kernel, by decide +kernel⟩
abbrev s_law_all : Stmt := topS 24
theorem sc_law_all : FnScope ["script", "box", "k", "undo", "word", "half", "due", "at", "value", "kept", "e"] ["script"] (defScope s_law_all) := ⟨rfl, rfl, rfl, by decide +kernel, rfl, by decide +kernel, by decide +kernel⟩
abbrev s_law : Stmt := topS 25
theorem sc_law : FnScope ["script"] ["script"] (defScope s_law) := ⟨rfl, rfl, rfl, by decide +kernel, rfl, by decide +kernel, by decide +kernel⟩
abbrev s_init_InvalidWord : Stmt := inClass (topS 2) 0
theorem sc_init_InvalidWord : FnScope ["self", "value"] ["self", "value"] (defScope s_init_InvalidWord) := ⟨rfl, rfl, rfl, by decide +kernel, rfl, by decide +kernel, by decide +kernel⟩
structure Txt (K : PySem.W.Frag) (mg : Str → Option Value) where
  f_is_integer : Addr
  d_is_integer : FuncData
  F_is_integer : Fun K "is_integer" "is_integer" s_is_integer f_is_integer d_is_integer
  b_is_integer : L2.Binds K d_is_integer ["value"] []
  g_is_integer : mg "is_integer" = some (.ref f_is_integer)
  f_is_number : Addr
  d_is_number : FuncData
  F_is_number : Fun K "is_number" "is_number" s_is_number f_is_number d_is_number
  b_is_number : L2.Binds K d_is_number ["value"] []
  g_is_number : mg "is_number" = some (.ref f_is_number)
  f_is_word : Addr
  d_is_word : FuncData
  F_is_word : Fun K "is_word" "is_word" s_is_word f_is_word d_is_word
  b_is_word : L2.Binds K d_is_word ["value", "letters"] []
  g_is_word : mg "is_word" = some (.ref f_is_word)
  f_check_word : Addr
  d_check_word : FuncData
  F_check_word : Fun K "check_word" "check_word" s_check_word f_check_word d_check_word
  b_check_word : L2.Binds K d_check_word ["word", "letters"] []
  g_check_word : mg "check_word" = some (.ref f_check_word)
  f_undone : Addr
  d_undone : FuncData
  F_undone : Fun K "undone" "undone" s_undone f_undone d_undone
  b_undone : L2.Binds K d_undone ["undo", "word"] []
  g_undone : mg "undone" = some (.ref f_undone)
  f_freely_reduced : Addr
  d_freely_reduced : FuncData
  F_freely_reduced : Fun K "freely_reduced" "freely_reduced" s_freely_reduced f_freely_reduced d_freely_reduced
  b_freely_reduced : L2.Binds K d_freely_reduced ["undo", "word"] []
  g_freely_reduced : mg "freely_reduced" = some (.ref f_freely_reduced)
  f_ring_form : Addr
  d_ring_form : FuncData
  F_ring_form : Fun K "ring_form" "ring_form" s_ring_form f_ring_form d_ring_form
  b_ring_form : L2.Binds K d_ring_form ["undo", "word"] []
  g_ring_form : mg "ring_form" = some (.ref f_ring_form)
  f_law_box : Addr
  d_law_box : FuncData
  F_law_box : Fun K "_law_box" "_law_box" s_law_box f_law_box d_law_box
  b_law_box : L2.Binds K d_law_box ["script"] []
  g_law_box : mg "_law_box" = some (.ref f_law_box)
  f_law_draw : Addr
  d_law_draw : FuncData
  F_law_draw : Fun K "_law_draw" "_law_draw" s_law_draw f_law_draw d_law_draw
  b_law_draw : L2.Binds K d_law_draw ["box", "limit"] []
  g_law_draw : mg "_law_draw" = some (.ref f_law_draw)
  f_law_number : Addr
  d_law_number : FuncData
  F_law_number : Fun K "_law_number" "_law_number" s_law_number f_law_number d_law_number
  b_law_number : L2.Binds K d_law_number ["value"] []
  g_law_number : mg "_law_number" = some (.ref f_law_number)
  f_law_undo : Addr
  d_law_undo : FuncData
  F_law_undo : Fun K "_law_undo" "_law_undo" s_law_undo f_law_undo d_law_undo
  b_law_undo : L2.Binds K d_law_undo ["box", "most"] []
  g_law_undo : mg "_law_undo" = some (.ref f_law_undo)
  f_law_word : Addr
  d_law_word : FuncData
  F_law_word : Fun K "_law_word" "_law_word" s_law_word f_law_word d_law_word
  b_law_word : L2.Binds K d_law_word ["box", "letters", "most"] []
  g_law_word : mg "_law_word" = some (.ref f_law_word)
  f_law_is_word : Addr
  d_law_is_word : FuncData
  F_law_is_word : Fun K "_law_is_word" "_law_is_word" s_law_is_word f_law_is_word d_law_is_word
  b_law_is_word : L2.Binds K d_law_is_word ["value", "letters"] []
  g_law_is_word : mg "_law_is_word" = some (.ref f_law_is_word)
  f_law_thing : Addr
  d_law_thing : FuncData
  F_law_thing : Fun K "_law_thing" "_law_thing" s_law_thing f_law_thing d_law_thing
  b_law_thing : L2.Binds K d_law_thing ["box"] []
  g_law_thing : mg "_law_thing" = some (.ref f_law_thing)
  f_law_spoilt : Addr
  d_law_spoilt : FuncData
  F_law_spoilt : Fun K "_law_spoilt" "_law_spoilt" s_law_spoilt f_law_spoilt d_law_spoilt
  b_law_spoilt : L2.Binds K d_law_spoilt ["box", "word", "letters"] []
  g_law_spoilt : mg "_law_spoilt" = some (.ref f_law_spoilt)
  f_law_reduced : Addr
  d_law_reduced : FuncData
  F_law_reduced : Fun K "_law_reduced" "_law_reduced" s_law_reduced f_law_reduced d_law_reduced
  b_law_reduced : L2.Binds K d_law_reduced ["undo", "word"] []
  g_law_reduced : mg "_law_reduced" = some (.ref f_law_reduced)
  f_law_back : Addr
  d_law_back : FuncData
  F_law_back : Fun K "_law_back" "_law_back" s_law_back f_law_back d_law_back
  b_law_back : L2.Binds K d_law_back ["undo", "word"] []
  g_law_back : mg "_law_back" = some (.ref f_law_back)
  f_law_ring : Addr
  d_law_ring : FuncData
  F_law_ring : Fun K "_law_ring" "_law_ring" s_law_ring f_law_ring d_law_ring
  b_law_ring : L2.Binds K d_law_ring ["undo", "word"] []
  g_law_ring : mg "_law_ring" = some (.ref f_law_ring)
  f_law_all : Addr
  d_law_all : FuncData
  F_law_all : Fun K "_law_all" "_law_all" s_law_all f_law_all d_law_all
  b_law_all : L2.Binds K d_law_all ["script"] []
  g_law_all : mg "_law_all" = some (.ref f_law_all)
  f_law : Addr
  d_law : FuncData
  F_law : Fun K "law" "law" s_law f_law d_law
  b_law : L2.Binds K d_law ["script"] []
  g_law : mg "law" = some (.ref f_law)
  z_abs : mg "abs" = none
  z_all : mg "all" = none
  z_bool : mg "bool" = none
  z_int : mg "int" = none
  z_isinstance : mg "isinstance" = none
  z_len : mg "len" = none
  z_list : mg "list" = none
  z_min : mg "min" = none
  z_range : mg "range" = none
  z_repr : mg "repr" = none
  z_str : mg "str" = none
  z_tuple : mg "tuple" = none
  a_InvalidWord : Addr
  gc_InvalidWord : mg "InvalidWord" = some (.ref a_InvalidWord)
  i_InvalidWord : Addr
  di_InvalidWord : FuncData
  x_InvalidWord : ExC K mg "InvalidWord" ["value"] a_InvalidWord i_InvalidWord
  Fi_InvalidWord : Fun K "__init__" "InvalidWord.__init__" s_init_InvalidWord i_InvalidWord di_InvalidWord
  bi_InvalidWord : L2.Binds K di_InvalidWord ["self", "value"] []
  te_InvalidWord_InvalidWord : PySem.W.exmOne K (.ref a_InvalidWord) (.ref a_InvalidWord) = some true
  nod : ([a_InvalidWord] : List Addr).Nodup
section
variable {K : PySem.W.Frag} {mg : Str → Option Value}
@[reducible] def Txt.tb (T : Txt K mg) (P : Program) (w : World) : Tb := mkTb P w K [(4, T.a_InvalidWord)] [] [4] T.nod
  (List.forall_mem_cons.mpr ⟨(List.forall_mem_cons.mpr ⟨(fun _ _ => T.te_InvalidWord_InvalidWord), fun _ z => nomatch z⟩), fun _ z => nomatch z⟩)
  (List.forall_mem_cons.mpr ⟨(fun f z => by cases z), fun _ z => nomatch z⟩)
theorem Txt.cl_InvalidWord {P : Program} {w : World} (T : Txt K mg) : (T.tb P w).cl 4 = some T.a_InvalidWord := rfl
end
section
variable {P : Program} {w : World} {K : PySem.W.Frag} {mg : Str → Option Value} {base : Heap}
theorem ok_init_InvalidWord (T : Txt K mg) : FnOk P w K mg base CX0 1 T.i_InvalidWord T.di_InvalidWord ["self", "value"] (spIn T.a_InvalidWord ["value"]) := by
  refine Fun.ok T.Fi_InvalidWord sc_init_InvalidWord (fun vs H Q E h => ?_) (fun cdv A outer s H vs Q E hr h => ⟨_, pss_one (ps_ost (pv 0) (pv 1)), init1 T.x_InvalidWord.T (T.x_InvalidWord.no _ (by simp)) h _ rfl⟩)
  obtain ⟨a, ws, rfl, hl, _⟩ := h
  rw [List.length_cons, hl]
  rfl
set_option maxHeartbeats 4000000 in
theorem ok_is_integer (T : Txt K mg) : Cal P w K mg base (T.tb P w) 1 1 T.f_is_integer T.d_is_integer ["value"] mF_is_integer :=
  cal_of (k := 0) (z := 0) rfl rfl rfl T.F_is_integer T.b_is_integer sc_is_integer rfl rfl fun cdv A outer s H E c =>
    (jss_one (js_ret (je_and (je_callB jc_isi (by rfl) T.z_isinstance (by decide +kernel) (ja_cons (je_var 0) (ja_cons (je_ty (n := "int") T.z_int (by rfl) (by decide +kernel)) ja_nil))) (je_one (je_not (je_callB jc_isi (by rfl) T.z_isinstance (by decide +kernel) (ja_cons (je_var 0) (ja_cons (je_ty (n := "bool") T.z_bool (by rfl) (by decide +kernel)) ja_nil))))))))
set_option maxHeartbeats 4000000 in
theorem ok_is_number (T : Txt K mg) : Cal P w K mg base (T.tb P w) 2 1 T.f_is_number T.d_is_number ["value"] mF_is_number :=
  cal_of (k := 1) (z := 0) rfl rfl rfl T.F_is_number T.b_is_number sc_is_number rfl rfl fun cdv A outer s H E c =>
    (jss_one (js_ret (je_and (je_call (ok_is_integer T) T.g_is_integer c.toBc (by decide) (by rfl) (ja_cons (je_fz (je_var 0)) ja_nil)) (je_one (je_cmp jo_ge (je_var 0) je_int (nomark _))))))
set_option maxHeartbeats 4000000 in
theorem ok_is_word (T : Txt K mg) : Cal P w K mg base (T.tb P w) 3 2 T.f_is_word T.d_is_word ["value", "letters"] mF_is_word :=
  cal_of (k := 2) (z := 1) rfl rfl rfl T.F_is_word T.b_is_word sc_is_word rfl rfl fun cdv A outer s H E c =>
    (jss_cons (js_if (jt_not (jt_val (je_callB jc_isi (by rfl) T.z_isinstance (by decide +kernel) (ja_cons (je_var 0) (ja_cons (je_ty (n := "tuple") T.z_tuple (by rfl) (by decide +kernel)) ja_nil)))))
    (jss_one (js_ret je_bl))
    jss_nil)
    (jss_one (js_ret (je_callB (jc_all (hK := c.K)) (by rfl) T.z_all (by decide +kernel) (ja_cons (je_lc (own := [("letter", 2)]) c.toBc (ji_seq (je_var 0) c.K) (blkOk_by (N := ["value", "letters", "letter"]) (sc := defScope s_is_word) (by decide +kernel)) (fun _ c => (jg_name (i := 2) c.nd rfl (by first | exact .inl rfl | exact .inr rfl))) (fun _ c => jts_nil) (fun _ c => (je_and (je_call (ok_is_number T) T.g_is_number c (by decide) (by rfl) (ja_cons (je_fz (je_var 2)) ja_nil)) (je_one (je_cmp (jo_ltB c.toBd) (je_var 2) (je_var 1) (nomark _)))))) ja_nil)))))
set_option maxHeartbeats 4000000 in
theorem ok_check_word (T : Txt K mg) : Cal P w K mg base (T.tb P w) 4 2 T.f_check_word T.d_check_word ["word", "letters"] mF_check_word :=
  cal_of (k := 3) (z := 0) rfl rfl rfl T.F_check_word T.b_check_word sc_check_word rfl rfl fun cdv A outer s H E c =>
    (jss_one (js_if (jt_not (jt_val (je_call (ok_is_word T) T.g_is_word c.toBc (by decide) (by rfl) (ja_cons (je_fz (je_var 0)) (ja_cons (je_fz (je_var 1)) ja_nil)))))
    (jss_one (js_raise (cn := 4) T.x_InvalidWord (ok_init_InvalidWord T) T.bi_InvalidWord T.cl_InvalidWord (fts := [7]) rfl c (by decide) (by rfl) (ja_cons (je_fz (je_var 0)) ja_nil)))
    jss_nil))
set_option maxHeartbeats 4000000 in
theorem ok_undone (T : Txt K mg) : Cal P w K mg base (T.tb P w) 5 2 T.f_undone T.d_undone ["undo", "word"] mF_undone :=
  cal_of (k := 4) (z := 1) rfl rfl rfl T.F_undone T.b_undone sc_undone rfl rfl fun cdv A outer s H E c =>
    (jss_cons (js_expr (je_call (ok_check_word T) T.g_check_word c.toBc (by decide) (by rfl) (ja_cons (je_fz (je_var 1)) (ja_cons (je_callB (jc_len c.K c.P c.w) (by rfl) T.z_len (by decide +kernel) (ja_cons (je_var 0) ja_nil)) ja_nil))))
    (jss_one (js_ret (je_callTy (jc_tuple c.K) (by rfl) T.z_tuple (by decide +kernel) (ja_cons (je_lc (own := [("letter", 2)]) c.toBc (ji_seq (je_revT c.toBd (je_var 1)) c.K) (blkOk_by (N := ["undo", "word", "letter"]) (sc := defScope s_undone) (by decide +kernel)) (fun _ c => (jg_name (i := 2) c.nd rfl (by first | exact .inl rfl | exact .inr rfl))) (fun _ c => jts_nil) (fun _ c => (je_fz (je_ixB (pb := true) true c.toBd (je_var 0) (je_var 2))))) ja_nil)))))
set_option maxHeartbeats 4000000 in
theorem ok_freely_reduced (T : Txt K mg) : Cal P w K mg base (T.tb P w) 5 2 T.f_freely_reduced T.d_freely_reduced ["undo", "word"] mF_freely_reduced :=
  cal_of (k := 4) (z := 2) rfl rfl rfl T.F_freely_reduced T.b_freely_reduced sc_freely_reduced rfl rfl fun cdv A outer s H E c =>
    (jss_cons (js_expr (je_call (ok_check_word T) T.g_check_word c.toBc (by decide) (by rfl) (ja_cons (je_fz (je_var 1)) (ja_cons (je_callB (jc_len c.K c.P c.w) (by rfl) T.z_len (by decide +kernel) (ja_cons (je_var 0) ja_nil)) ja_nil))))
    (jss_cons (js_set (i := 2) c.toBd (je_lst ja_nil))
    (jss_cons (js_for (vs := [3]) c (ji_seq (je_var 1) c.K) (jg_name (i := 3) c.nd rfl (by first | exact .inl rfl | exact .inr rfl))
    (jss_one (js_if (jt_w (jw_and (jt_cmp jo_gt (je_callB (jc_len c.K c.P c.w) (by rfl) T.z_len (by decide +kernel) (ja_cons (je_var 2) ja_nil)) je_int (nomark _)) (jw_and1 (jt_cmp (jo_eqB c.toBd) (je_ixB (pb := true) true c.toBd (je_var 0) (je_ixB (pb := true) true c.toBd (je_var 2) (je_neg je_int))) (je_var 3) (nomark _)))))
    (jss_one (js_expr (je_lm0 PySem.F.slot_list_pop PySem.F.type_list_pop jm_pop (je_var 2))))
    (jss_one (js_expr (je_lm (pb := true) true PySem.F.slot_list_append PySem.F.type_list_append jm_append (je_var 2) (ja_cons (je_fz (je_var 3)) ja_nil)))))))
    (jss_one (js_ret (je_callTy (jc_tuple c.K) (by rfl) T.z_tuple (by decide +kernel) (ja_cons (je_var 2) ja_nil)))))))
set_option maxHeartbeats 4000000 in
theorem ok_ring_form (T : Txt K mg) : Cal P w K mg base (T.tb P w) 6 2 T.f_ring_form T.d_ring_form ["undo", "word"] mF_ring_form :=
  cal_of (k := 5) (z := 4) rfl rfl rfl T.F_ring_form T.b_ring_form sc_ring_form rfl rfl fun cdv A outer s H E c =>
    (jss_cons (js_if (jt_not (jt_val (je_call (ok_is_word T) T.g_is_word c.toBc (by decide) (by rfl) (ja_cons (je_fz (je_var 1)) (ja_cons (je_callB (jc_len c.K c.P c.w) (by rfl) T.z_len (by decide +kernel) (ja_cons (je_var 0) ja_nil)) ja_nil)))))
    (jss_one (js_raise (cn := 4) T.x_InvalidWord (ok_init_InvalidWord T) T.bi_InvalidWord T.cl_InvalidWord (fts := [7]) rfl c (by decide) (by rfl) (ja_cons (je_fz (je_var 1)) ja_nil)))
    jss_nil)
    (jss_cons (js_set (i := 2) c.toBd (je_fz (je_call (ok_freely_reduced T) T.g_freely_reduced c.toBc (by decide) (by rfl) (ja_cons (je_fz (je_var 0)) (ja_cons (je_fz (je_var 1)) ja_nil)))))
    (jss_cons (js_while c (jt_w (jw_and (jt_cmp jo_gt (je_callB (jc_len c.K c.P c.w) (by rfl) T.z_len (by decide +kernel) (ja_cons (je_var 2) ja_nil)) je_int (nomark _)) (jw_and1 (jt_cmp (jo_eqB c.toBd) (je_ixB (pb := true) true c.toBd (je_var 2) je_int) (je_ixB (pb := true) true c.toBd (je_var 0) (je_ixB (pb := true) true c.toBd (je_var 2) (je_neg je_int))) (nomark _)))))
    (jss_one (js_set (i := 2) c.toBd (je_fz (je_sl (je_var 2) (jp_some je_int) (jp_some (je_neg je_int)) c.K)))))
    (jss_cons (js_set (i := 3) c.toBd (je_fz (je_lst (ja_cons (je_tup ja_nil) ja_nil))))
    (jss_cons (js_for (vs := [4]) c (ji_seq (je_tup (ja_cons (je_fz (je_var 2)) (ja_cons (je_fz (je_call (ok_undone T) T.g_undone c.toBc (by decide) (by rfl) (ja_cons (je_fz (je_var 0)) (ja_cons (je_fz (je_var 2)) ja_nil)))) ja_nil))) c.K) (jg_name (i := 4) c.nd rfl (by first | exact .inl rfl | exact .inr rfl))
    (jss_one (js_set (i := 3) c.toBd (je_fz (je_op (jo_add c.K) (je_var 3) (je_lc (own := [("place", 5)]) c.toBc (ji_rng1 (by rfl) T.z_range (ja_cons (je_callB (jc_len c.K c.P c.w) (by rfl) T.z_len (by decide +kernel) (ja_cons (je_var 4) ja_nil)) ja_nil)) (blkOk_by (N := ["undo", "word", "left", "rings", "one", "place"]) (sc := defScope s_ring_form) (by decide +kernel)) (fun _ c => (jg_name (i := 5) c.nd rfl (by first | exact .inl rfl | exact .inr rfl))) (fun _ c => jts_nil) (fun _ c => (je_fz (je_op (jo_add c.K) (je_sl (je_var 4) (jp_some (je_var 5)) jp_none c.K) (je_sl (je_var 4) jp_none (jp_some (je_var 5)) c.K))))))))))
    (jss_one (js_ret (je_if (jt_cmp jo_gt (je_callB (jc_len c.K c.P c.w) (by rfl) T.z_len (by decide +kernel) (ja_cons (je_var 3) ja_nil)) je_int (nomark _)) (je_callB (jc_minB c.calm c.toBd) (by rfl) T.z_min (by decide +kernel) (ja_cons (je_sl (je_var 3) (jp_some je_int) jp_none c.K) ja_nil)) (je_tup ja_nil)))))))))
set_option maxHeartbeats 4000000 in
theorem ok_law_box (T : Txt K mg) : Cal P w K mg base (T.tb P w) 1 1 T.f_law_box T.d_law_box ["script"] mF_law_box :=
  cal_of (k := 0) (z := 1) rfl rfl rfl T.F_law_box T.b_law_box sc_law_box rfl rfl fun cdv A outer s H E c =>
    (jss_one (js_ret (je_lst (ja_cons (je_fz (je_lc (own := [("cell", 1)]) c.toBc (ji_seq (je_var 0) c.K) (blkOk_by (N := ["script", "cell"]) (sc := defScope s_law_box) (by decide +kernel)) (fun _ c => (jg_name (i := 1) c.nd rfl (by first | exact .inl rfl | exact .inr rfl))) (fun _ c => jts_nil) (fun _ c => (je_callTy jc_int (by rfl) T.z_int (by decide +kernel) (ja_cons (je_var 1) ja_nil))))) (ja_cons je_int (ja_cons je_int (ja_cons je_int ja_nil)))))))
set_option maxHeartbeats 4000000 in
theorem ok_law_draw (T : Txt K mg) : Cal P w K mg base (T.tb P w) 1 2 T.f_law_draw T.d_law_draw ["box", "limit"] mF_law_draw :=
  cal_of (k := 0) (z := 5) rfl rfl rfl T.F_law_draw T.b_law_draw sc_law_draw rfl rfl fun cdv A outer s H E c =>
    (jss_cons (js_set (i := 2) c.toBd (je_fz (je_ixB (pb := true) true c.toBd (je_var 0) je_int)))
    (jss_cons (js_sub (pb := true) true c.toBd (je_op (jo_add c.K) (je_ixB (pb := true) true c.toBd (je_var 0) je_int) je_int) (je_var 0) je_int)
    (jss_cons (js_for (vs := [3]) c (ji_rng1 (by rfl) T.z_range (ja_cons (je_callB (jc_len c.K c.P c.w) (by rfl) T.z_len (by decide +kernel) (ja_cons (je_var 2) ja_nil)) ja_nil)) (jg_name (i := 3) c.nd rfl (by first | exact .inl rfl | exact .inr rfl))
    (jss_one (js_if (jt_w (jw_and (jt_cmp (jo_eqB c.toBd) (je_ixB (pb := true) true c.toBd (je_var 0) je_int) je_int (nomark _)) (jw_and1 (jt_cmp (jo_ltB c.toBd) (je_ixB (pb := true) true c.toBd (je_var 0) je_int) (je_callB (jc_len c.K c.P c.w) (by rfl) T.z_len (by decide +kernel) (ja_cons (je_var 2) ja_nil)) (nomark _)))))
    (jss_cons (js_if (jt_cmp jo_ge (je_callB jc_abs (by rfl) T.z_abs (by decide +kernel) (ja_cons (je_ixB (pb := true) true c.toBd (je_var 2) (je_ixB (pb := true) true c.toBd (je_var 0) je_int)) ja_nil)) (je_op jo_pow je_int je_int) (nomark _))
    (jss_one (js_sub (pb := true) true c.toBd (je_callB jc_abs (by rfl) T.z_abs (by decide +kernel) (ja_cons (je_ixB (pb := true) true c.toBd (je_var 2) (je_ixB (pb := true) true c.toBd (je_var 0) je_int)) ja_nil)) (je_var 0) je_int))
    jss_nil)
    (jss_one (js_sub (pb := true) true c.toBd (je_op (jo_add c.K) (je_ixB (pb := true) true c.toBd (je_var 0) je_int) je_int) (je_var 0) je_int)))
    (jss_one js_break))))
    (jss_cons (js_if (jt_cmp jo_gt (je_ixB (pb := true) true c.toBd (je_var 0) je_int) je_int (nomark _))
    (jss_cons (js_set (i := 4) c.toBd (je_op jo_mod (je_callTy jc_int (by rfl) T.z_int (by decide +kernel) (ja_cons (je_ixB (pb := true) true c.toBd (je_var 0) je_int) ja_nil)) (je_var 1)))
    (jss_cons (js_sub (pb := true) true c.toBd (je_op jo_div (je_ixB (pb := true) true c.toBd (je_var 0) je_int) (je_var 1)) (je_var 0) je_int)
    (jss_one (js_ret (je_var 4)))))
    jss_nil)
    (jss_cons (js_set (i := 5) c.toBd je_int)
    (jss_cons (js_if (jt_cmp jo_gt (je_callB (jc_len c.K c.P c.w) (by rfl) T.z_len (by decide +kernel) (ja_cons (je_var 2) ja_nil)) je_int (nomark _))
    (jss_one (js_set (i := 5) c.toBd (je_callB jc_abs (by rfl) T.z_abs (by decide +kernel) (ja_cons (je_ixB (pb := true) true c.toBd (je_var 2) (je_op jo_mod (je_callTy jc_int (by rfl) T.z_int (by decide +kernel) (ja_cons (je_ixB (pb := true) true c.toBd (je_var 0) je_int) ja_nil)) (je_callB (jc_len c.K c.P c.w) (by rfl) T.z_len (by decide +kernel) (ja_cons (je_var 2) ja_nil)))) ja_nil))))
    jss_nil)
    (jss_cons (js_set (i := 6) c.toBd (je_op jo_mod (je_callTy jc_int (by rfl) T.z_int (by decide +kernel) (ja_cons (je_op (jo_add c.K) (je_op (jo_add c.K) (je_op (jo_mul c.K) (je_var 5) je_int) (je_op (jo_mul c.K) (je_ixB (pb := true) true c.toBd (je_var 0) je_int) je_int)) je_int) ja_nil)) je_int))
    (jss_cons (js_set (i := 6) c.toBd (je_op jo_mod (je_callTy jc_int (by rfl) T.z_int (by decide +kernel) (ja_cons (je_op (jo_add c.K) (je_op (jo_add c.K) (je_op (jo_mul c.K) (je_var 6) (je_var 6)) (je_op (jo_mul c.K) (je_ixB (pb := true) true c.toBd (je_var 0) je_int) je_int)) (je_var 5)) ja_nil)) je_int))
    (jss_cons (js_set (i := 6) c.toBd (je_op jo_mod (je_callTy jc_int (by rfl) T.z_int (by decide +kernel) (ja_cons (je_op (jo_add c.K) (je_op (jo_add c.K) (je_op (jo_mul c.K) (je_op (jo_mul c.K) (je_var 6) (je_var 6)) je_int) (je_op jo_div (je_var 5) je_int)) je_int) ja_nil)) je_int))
    (jss_one (js_ret (je_op jo_mod (je_callTy jc_int (by rfl) T.z_int (by decide +kernel) (ja_cons (je_op jo_div (je_var 6) je_int) ja_nil)) (je_var 1)))))))))))))
set_option maxHeartbeats 4000000 in
theorem ok_law_number (T : Txt K mg) : Cal P w K mg base (T.tb P w) 1 1 T.f_law_number T.d_law_number ["value"] mF_law_number :=
  cal_of (k := 0) (z := 0) rfl rfl rfl T.F_law_number T.b_law_number sc_law_number rfl rfl fun cdv A outer s H E c =>
    (jss_one (js_ret (je_and (je_callB jc_isi (by rfl) T.z_isinstance (by decide +kernel) (ja_cons (je_var 0) (ja_cons (je_ty (n := "int") T.z_int (by rfl) (by decide +kernel)) ja_nil))) (je_one (je_not (je_callB jc_isi (by rfl) T.z_isinstance (by decide +kernel) (ja_cons (je_var 0) (ja_cons (je_ty (n := "bool") T.z_bool (by rfl) (by decide +kernel)) ja_nil))))))))
set_option maxHeartbeats 4000000 in
theorem ok_law_undo (T : Txt K mg) : Cal P w K mg base (T.tb P w) 2 2 T.f_law_undo T.d_law_undo ["box", "most"] mF_law_undo :=
  cal_of (k := 1) (z := 5) rfl rfl rfl T.F_law_undo T.b_law_undo sc_law_undo rfl rfl fun cdv A outer s H E c =>
    (jss_cons (js_set (i := 2) c.toBd (je_op (jo_add c.K) je_int (je_call (ok_law_draw T) T.g_law_draw c.toBc (by decide) (by rfl) (ja_cons (je_var 0) (ja_cons (je_fz (je_var 1)) ja_nil)))))
    (jss_cons (js_setLc (i := 3) (own := [("k", 4)]) false c.toBc (ji_rng1 (by rfl) T.z_range (ja_cons (je_var 2) ja_nil)) (blkOk_by (N := ["box", "most", "size", "undo", "k", "a", "b"]) (sc := defScope s_law_undo) (by decide +kernel)) (fun _ c => (jg_name (i := 4) c.nd rfl (by first | exact .inl rfl | exact .inr rfl))) (fun _ c => jts_nil) (fun _ c => (je_fz (je_var 4))))
    (jss_cons (js_for (vs := [4]) c (ji_rng1 (by rfl) T.z_range (ja_cons (je_call (ok_law_draw T) T.g_law_draw c.toBc (by decide) (by rfl) (ja_cons (je_var 0) (ja_cons je_int ja_nil))) ja_nil)) (jg_name (i := 4) c.nd rfl (by first | exact .inl rfl | exact .inr rfl))
    (jss_cons (js_set (i := 5) c.toBd (je_fz (je_call (ok_law_draw T) T.g_law_draw c.toBc (by decide) (by rfl) (ja_cons (je_var 0) (ja_cons (je_fz (je_var 2)) ja_nil)))))
    (jss_cons (js_set (i := 6) c.toBd (je_fz (je_call (ok_law_draw T) T.g_law_draw c.toBc (by decide) (by rfl) (ja_cons (je_var 0) (ja_cons (je_fz (je_var 2)) ja_nil)))))
    (jss_one (js_if (jt_w (jw_and (jt_cmp (jo_eqB c.toBd) (je_ixB (pb := true) true c.toBd (je_var 3) (je_var 5)) (je_var 5) (nomark _)) (jw_and1 (jt_cmp (jo_eqB c.toBd) (je_ixB (pb := true) true c.toBd (je_var 3) (je_var 6)) (je_var 6) (nomark _)))))
    (jss_cons (js_sub (pb := true) true c.toBd (je_fz (je_var 6)) (je_var 3) (je_var 5))
    (jss_one (js_sub (pb := true) true c.toBd (je_fz (je_var 5)) (je_var 3) (je_var 6))))
    jss_nil)))))
    (jss_one (js_ret (je_callTy (jc_tuple c.K) (by rfl) T.z_tuple (by decide +kernel) (ja_cons (je_var 3) ja_nil)))))))
set_option maxHeartbeats 4000000 in
theorem ok_law_word (T : Txt K mg) : Cal P w K mg base (T.tb P w) 2 3 T.f_law_word T.d_law_word ["box", "letters", "most"] mF_law_word :=
  cal_of (k := 1) (z := 1) rfl rfl rfl T.F_law_word T.b_law_word sc_law_word rfl rfl fun cdv A outer s H E c =>
    (jss_one (js_ret (je_callTy (jc_tuple c.K) (by rfl) T.z_tuple (by decide +kernel) (ja_cons (je_lc (own := [("k", 3)]) c.toBc (ji_rng1 (by rfl) T.z_range (ja_cons (je_call (ok_law_draw T) T.g_law_draw c.toBc (by decide) (by rfl) (ja_cons (je_var 0) (ja_cons (je_op (jo_add c.K) (je_var 2) je_int) ja_nil))) ja_nil)) (blkOk_by (N := ["box", "letters", "most", "k"]) (sc := defScope s_law_word) (by decide +kernel)) (fun _ c => (jg_name (i := 3) c.nd rfl (by first | exact .inl rfl | exact .inr rfl))) (fun _ c => jts_nil) (fun _ c => (je_fz (je_call (ok_law_draw T) T.g_law_draw c (by decide) (by rfl) (ja_cons (je_var 0) (ja_cons (je_fz (je_var 1)) ja_nil)))))) ja_nil))))
set_option maxHeartbeats 4000000 in
theorem ok_law_is_word (T : Txt K mg) : Cal P w K mg base (T.tb P w) 2 2 T.f_law_is_word T.d_law_is_word ["value", "letters"] mF_law_is_word :=
  cal_of (k := 1) (z := 1) rfl rfl rfl T.F_law_is_word T.b_law_is_word sc_law_is_word rfl rfl fun cdv A outer s H E c =>
    (jss_cons (js_if (jt_not (jt_val (je_callB jc_isi (by rfl) T.z_isinstance (by decide +kernel) (ja_cons (je_var 0) (ja_cons (je_ty (n := "tuple") T.z_tuple (by rfl) (by decide +kernel)) ja_nil)))))
    (jss_one (js_ret je_bl))
    jss_nil)
    (jss_one (js_ret (je_notin c.toBd je_bl (je_lc (own := [("x", 2)]) c.toBc (ji_seq (je_var 0) c.K) (blkOk_by (N := ["value", "letters", "x"]) (sc := defScope s_law_is_word) (by decide +kernel)) (fun _ c => (jg_name (i := 2) c.nd rfl (by first | exact .inl rfl | exact .inr rfl))) (fun _ c => jts_nil) (fun _ c => (je_and (je_call (ok_law_number T) T.g_law_number c (by decide) (by rfl) (ja_cons (je_fz (je_var 2)) ja_nil)) (je_one (je_chain jo_le (jo_ltB c.toBd) je_int (je_var 2) (je_var 1))))))))))
set_option maxHeartbeats 4000000 in
theorem ok_law_thing (T : Txt K mg) : Cal P w K mg base (T.tb P w) 2 1 T.f_law_thing T.d_law_thing ["box"] mF_law_thing :=
  cal_of (k := 1) (z := 1) rfl rfl rfl T.F_law_thing T.b_law_thing sc_law_thing rfl rfl fun cdv A outer s H E c =>
    (jss_cons (js_set (i := 1) c.toBd (je_fz (je_lst (ja_cons je_non (ja_cons je_bl (ja_cons je_bl (ja_cons je_int (ja_cons je_int (ja_cons (je_neg je_int) (ja_cons (je_op jo_pow je_int je_int) (ja_cons je_str (ja_cons je_str (ja_cons (je_tup ja_nil) (ja_cons (je_fz (je_lst ja_nil)) (ja_cons (je_fz (je_lst (ja_cons je_int ja_nil))) (ja_cons (je_tup (ja_cons je_bl ja_nil)) (ja_cons (je_tup (ja_cons je_bl (ja_cons je_int ja_nil))) (ja_cons (je_tup (ja_cons (je_tup (ja_cons je_int ja_nil)) ja_nil)) (ja_cons (je_tup (ja_cons je_non ja_nil)) (ja_cons (je_tup (ja_cons je_str ja_nil)) (ja_cons (je_fz (je_lst (ja_cons (je_fz (je_lst ja_nil)) ja_nil))) ja_nil)))))))))))))))))))))
    (jss_one (js_ret (je_ixB (pb := false) false c.toBd (je_var 1) (je_call (ok_law_draw T) T.g_law_draw c.toBc (by decide) (by rfl) (ja_cons (je_var 0) (ja_cons je_int ja_nil)))))))
set_option maxHeartbeats 4000000 in
theorem ok_law_spoilt (T : Txt K mg) : Cal P w K mg base (T.tb P w) 3 3 T.f_law_spoilt T.d_law_spoilt ["box", "word", "letters"] mF_law_spoilt :=
  cal_of (k := 2) (z := 4) rfl rfl rfl T.F_law_spoilt T.b_law_spoilt sc_law_spoilt rfl rfl fun cdv A outer s H E c =>
    (jss_cons (js_set (i := 3) c.toBd (je_fz (je_call (ok_law_draw T) T.g_law_draw c.toBc (by decide) (by rfl) (ja_cons (je_var 0) (ja_cons (je_op (jo_add c.K) (je_callB (jc_len c.K c.P c.w) (by rfl) T.z_len (by decide +kernel) (ja_cons (je_var 1) ja_nil)) je_int) ja_nil)))))
    (jss_cons (js_set (i := 4) c.toBd (je_fz (je_lst (ja_cons (je_fz (je_var 2)) (ja_cons (je_neg je_int) (ja_cons je_bl (ja_cons je_bl (ja_cons je_non (ja_cons je_str (ja_cons (je_tup (ja_cons je_int ja_nil)) (ja_cons (je_fz (je_lst (ja_cons je_int ja_nil))) (ja_cons (je_op jo_pow je_int je_int) (ja_cons (je_op (jo_add c.K) (je_var 2) je_int) (ja_cons (je_op jo_sub (je_var 2) je_int) ja_nil))))))))))))))
    (jss_cons (js_set (i := 5) c.toBd (je_fz (je_call (ok_law_draw T) T.g_law_draw c.toBc (by decide) (by rfl) (ja_cons (je_var 0) (ja_cons je_int ja_nil)))))
    (jss_cons (js_if (jt_cmp (jo_eqB c.toBd) (je_var 5) je_int (nomark _))
    (jss_one (js_ret (je_ixB (pb := false) false c.toBd (je_lst (ja_cons (je_fz (je_callTy (jc_list c.calm c.K) (by rfl) T.z_list (by decide +kernel) (ja_cons (je_var 1) ja_nil))) (ja_cons (je_tup (ja_cons (je_fz (je_var 1)) ja_nil)) (ja_cons (je_fz (je_call (ok_law_thing T) T.g_law_thing c.toBc (by decide) (by rfl) (ja_cons (je_var 0) ja_nil))) (ja_cons (je_fz (je_join c.toBd je_str (ja_cons (je_lc (own := [("x", 6)]) c.toBc (ji_seq (je_var 1) c.K) (blkOk_by (N := ["box", "word", "letters", "at", "others", "shape", "x"]) (sc := defScope s_law_spoilt) (by decide +kernel)) (fun _ c => (jg_name (i := 6) c.nd rfl (by first | exact .inl rfl | exact .inr rfl))) (fun _ c => jts_nil) (fun _ c => (je_callTy jc_str (by rfl) T.z_str (by decide +kernel) (ja_cons (je_var 6) ja_nil)))) ja_nil))) ja_nil))))) (je_call (ok_law_draw T) T.g_law_draw c.toBc (by decide) (by rfl) (ja_cons (je_var 0) (ja_cons je_int ja_nil))))))
    jss_nil)
    (jss_cons (js_if (jt_cmp (jo_eqB c.toBd) (je_var 5) je_int (nomark _))
    (jss_one (js_ret (je_op (jo_add c.K) (je_op (jo_add c.K) (je_sl (je_var 1) jp_none (jp_some (je_var 3)) c.K) (je_tup (ja_cons (je_fz (je_ixB (pb := false) false c.toBd (je_var 4) (je_call (ok_law_draw T) T.g_law_draw c.toBc (by decide) (by rfl) (ja_cons (je_var 0) (ja_cons je_int ja_nil))))) ja_nil))) (je_sl (je_var 1) (jp_some (je_var 3)) jp_none c.K))))
    jss_nil)
    (jss_one (js_ret (je_op (jo_add c.K) (je_op (jo_add c.K) (je_sl (je_var 1) jp_none (jp_some (je_var 3)) c.K) (je_tup (ja_cons (je_fz (je_ixB (pb := false) false c.toBd (je_var 4) (je_call (ok_law_draw T) T.g_law_draw c.toBc (by decide) (by rfl) (ja_cons (je_var 0) (ja_cons je_int ja_nil))))) ja_nil))) (je_sl (je_var 1) (jp_some (je_op (jo_add c.K) (je_var 3) je_int)) jp_none c.K)))))))))
set_option maxHeartbeats 4000000 in
theorem ok_law_reduced (T : Txt K mg) : Cal P w K mg base (T.tb P w) 1 2 T.f_law_reduced T.d_law_reduced ["undo", "word"] mF_law_reduced :=
  cal_of (k := 0) (z := 2) rfl rfl rfl T.F_law_reduced T.b_law_reduced sc_law_reduced rfl rfl fun cdv A outer s H E c =>
    (jss_cons (js_set (i := 2) c.toBd (je_lst ja_nil))
    (jss_cons (js_for (vs := [3]) c (ji_seq (je_var 1) c.K) (jg_name (i := 3) c.nd rfl (by first | exact .inl rfl | exact .inr rfl))
    (jss_one (js_if (jt_w (jw_and (jt_cmp jo_gt (je_callB (jc_len c.K c.P c.w) (by rfl) T.z_len (by decide +kernel) (ja_cons (je_var 2) ja_nil)) je_int (nomark _)) (jw_and1 (jt_cmp (jo_eqB c.toBd) (je_ixB (pb := true) true c.toBd (je_var 2) (je_neg je_int)) (je_ixB (pb := true) true c.toBd (je_var 0) (je_var 3)) (nomark _)))))
    (jss_one (js_expr (je_lm0 PySem.F.slot_list_pop PySem.F.type_list_pop jm_pop (je_var 2))))
    (jss_one (js_expr (je_lm (pb := true) true PySem.F.slot_list_append PySem.F.type_list_append jm_append (je_var 2) (ja_cons (je_fz (je_var 3)) ja_nil)))))))
    (jss_one (js_ret (je_callTy (jc_tuple c.K) (by rfl) T.z_tuple (by decide +kernel) (ja_cons (je_var 2) ja_nil))))))
set_option maxHeartbeats 4000000 in
theorem ok_law_back (T : Txt K mg) : Cal P w K mg base (T.tb P w) 1 2 T.f_law_back T.d_law_back ["undo", "word"] mF_law_back :=
  cal_of (k := 0) (z := 1) rfl rfl rfl T.F_law_back T.b_law_back sc_law_back rfl rfl fun cdv A outer s H E c =>
    (jss_one (js_ret (je_callTy (jc_tuple c.K) (by rfl) T.z_tuple (by decide +kernel) (ja_cons (je_lc (own := [("k", 2)]) c.toBc (ji_rng1 (by rfl) T.z_range (ja_cons (je_callB (jc_len c.K c.P c.w) (by rfl) T.z_len (by decide +kernel) (ja_cons (je_var 1) ja_nil)) ja_nil)) (blkOk_by (N := ["undo", "word", "k"]) (sc := defScope s_law_back) (by decide +kernel)) (fun _ c => (jg_name (i := 2) c.nd rfl (by first | exact .inl rfl | exact .inr rfl))) (fun _ c => jts_nil) (fun _ c => (je_fz (je_ixB (pb := true) true c.toBd (je_var 0) (je_ixB (pb := true) true c.toBd (je_var 1) (je_op jo_sub (je_op jo_sub (je_callB (jc_len c.K c.P c.w) (by rfl) T.z_len (by decide +kernel) (ja_cons (je_var 1) ja_nil)) je_int) (je_var 2))))))) ja_nil))))
set_option maxHeartbeats 4000000 in
theorem ok_law_ring (T : Txt K mg) : Cal P w K mg base (T.tb P w) 2 2 T.f_law_ring T.d_law_ring ["undo", "word"] mF_law_ring :=
  cal_of (k := 1) (z := 3) rfl rfl rfl T.F_law_ring T.b_law_ring sc_law_ring rfl rfl fun cdv A outer s H E c =>
    (jss_cons (js_set (i := 1) c.toBd (je_fz (je_call (ok_law_reduced T) T.g_law_reduced c.toBc (by decide) (by rfl) (ja_cons (je_fz (je_var 0)) (ja_cons (je_fz (je_var 1)) ja_nil)))))
    (jss_cons (js_for (vs := [2]) c (ji_rng1 (by rfl) T.z_range (ja_cons (je_callB (jc_len c.K c.P c.w) (by rfl) T.z_len (by decide +kernel) (ja_cons (je_var 1) ja_nil)) ja_nil)) (jg_name (i := 2) c.nd rfl (by first | exact .inl rfl | exact .inr rfl))
    (jss_one (js_if (jt_w (jw_and (jt_cmp jo_gt (je_callB (jc_len c.K c.P c.w) (by rfl) T.z_len (by decide +kernel) (ja_cons (je_var 1) ja_nil)) je_int (nomark _)) (jw_and1 (jt_cmp (jo_eqB c.toBd) (je_ixB (pb := true) true c.toBd (je_var 0) (je_ixB (pb := true) true c.toBd (je_var 1) je_int)) (je_ixB (pb := true) true c.toBd (je_var 1) (je_neg je_int)) (nomark _)))))
    (jss_one (js_set (i := 1) c.toBd (je_fz (je_sl (je_var 1) (jp_some je_int) (jp_some (je_neg je_int)) c.K))))
    jss_nil)))
    (jss_cons (js_if (jt_cmp (jo_eqB c.toBd) (je_callB (jc_len c.K c.P c.w) (by rfl) T.z_len (by decide +kernel) (ja_cons (je_var 1) ja_nil)) je_int (nomark _))
    (jss_one (js_ret (je_tup ja_nil)))
    jss_nil)
    (jss_cons (js_set (i := 3) c.toBd (je_fz (je_call (ok_law_back T) T.g_law_back c.toBc (by decide) (by rfl) (ja_cons (je_fz (je_var 0)) (ja_cons (je_fz (je_var 1)) ja_nil)))))
    (jss_cons (js_set (i := 4) c.toBd (je_fz (je_op (jo_add c.K) (je_lc (own := [("k", 2)]) c.toBc (ji_rng1 (by rfl) T.z_range (ja_cons (je_callB (jc_len c.K c.P c.w) (by rfl) T.z_len (by decide +kernel) (ja_cons (je_var 1) ja_nil)) ja_nil)) (blkOk_by (N := ["undo", "word", "k", "turned", "rounds"]) (sc := defScope s_law_ring) (by decide +kernel)) (fun _ c => (jg_name (i := 2) c.nd rfl (by first | exact .inl rfl | exact .inr rfl))) (fun _ c => jts_nil) (fun _ c => (je_fz (je_op (jo_add c.K) (je_sl (je_var 1) (jp_some (je_var 2)) jp_none c.K) (je_sl (je_var 1) jp_none (jp_some (je_var 2)) c.K))))) (je_lc (own := [("k", 2)]) c.toBc (ji_rng1 (by rfl) T.z_range (ja_cons (je_callB (jc_len c.K c.P c.w) (by rfl) T.z_len (by decide +kernel) (ja_cons (je_var 1) ja_nil)) ja_nil)) (blkOk_by (N := ["undo", "word", "k", "turned", "rounds"]) (sc := defScope s_law_ring) (by decide +kernel)) (fun _ c => (jg_name (i := 2) c.nd rfl (by first | exact .inl rfl | exact .inr rfl))) (fun _ c => jts_nil) (fun _ c => (je_fz (je_op (jo_add c.K) (je_sl (je_var 3) (jp_some (je_var 2)) jp_none c.K) (je_sl (je_var 3) jp_none (jp_some (je_var 2)) c.K))))))))
    (jss_one (js_ret (je_callB (jc_minB c.calm c.toBd) (by rfl) T.z_min (by decide +kernel) (ja_cons (je_var 4) ja_nil)))))))))
set_option maxHeartbeats 4000000 in
theorem ok_law_all (T : Txt K mg) : Cal P w K mg base (T.tb P w) 7 1 T.f_law_all T.d_law_all ["script"] mF_law_all :=
  cal_of (k := 6) (z := 10) rfl rfl rfl T.F_law_all T.b_law_all sc_law_all rfl rfl fun cdv A outer s H E c =>
    (jss_cons (js_set (i := 1) c.toBd (je_call (ok_law_box T) T.g_law_box c.toBc (by decide) (by rfl) (ja_cons (je_fz (je_var 0)) ja_nil)))
    (jss_cons (js_for (vs := [2]) c (ji_rng1 (by rfl) T.z_range (ja_cons je_int ja_nil)) (jg_name (i := 2) c.nd rfl (by first | exact .inl rfl | exact .inr rfl))
    (jss_cons (js_set (i := 3) c.toBd (je_fz (je_call (ok_law_undo T) T.g_law_undo c.toBc (by decide) (by rfl) (ja_cons (je_var 1) (ja_cons je_int ja_nil)))))
    (jss_cons (js_set (i := 4) c.toBd (je_fz (je_call (ok_law_word T) T.g_law_word c.toBc (by decide) (by rfl) (ja_cons (je_var 1) (ja_cons (je_callB (jc_len c.K c.P c.w) (by rfl) T.z_len (by decide +kernel) (ja_cons (je_var 3) ja_nil)) (ja_cons (je_fz (je_ixB (pb := false) false c.toBd (je_lst (ja_cons je_int (ja_cons je_int (ja_cons je_int (ja_cons je_int ja_nil))))) (je_call (ok_law_draw T) T.g_law_draw c.toBc (by decide) (by rfl) (ja_cons (je_var 1) (ja_cons je_int ja_nil))))) ja_nil))))))
    (jss_cons (js_if (jt_cmp (jo_eqB c.toBd) (je_call (ok_law_draw T) T.g_law_draw c.toBc (by decide) (by rfl) (ja_cons (je_var 1) (ja_cons je_int ja_nil))) je_int (nomark _))
    (jss_cons (js_set (i := 5) c.toBd (je_fz (je_call (ok_law_word T) T.g_law_word c.toBc (by decide) (by rfl) (ja_cons (je_var 1) (ja_cons (je_callB (jc_len c.K c.P c.w) (by rfl) T.z_len (by decide +kernel) (ja_cons (je_var 3) ja_nil)) (ja_cons je_int ja_nil))))))
    (jss_one (js_set (i := 4) c.toBd (je_fz (je_op (jo_add c.K) (je_op (jo_add c.K) (je_var 5) (je_var 4)) (je_call (ok_law_back T) T.g_law_back c.toBc (by decide) (by rfl) (ja_cons (je_fz (je_var 3)) (ja_cons (je_fz (je_var 5)) ja_nil))))))))
    jss_nil)
    (jss_cons (js_set (i := 6) c.toBd (je_callB (jc_reprB c.toBd) (by rfl) T.z_repr (by decide +kernel) (ja_cons (je_call (ok_law_ring T) T.g_law_ring c.toBc (by decide) (by rfl) (ja_cons (je_fz (je_var 3)) (ja_cons (je_fz (je_var 4)) ja_nil))) ja_nil)))
    (jss_cons (js_set (i := 7) c.toBd (je_fz (je_call (ok_law_draw T) T.g_law_draw c.toBc (by decide) (by rfl) (ja_cons (je_var 1) (ja_cons (je_op (jo_add c.K) (je_callB (jc_len c.K c.P c.w) (by rfl) T.z_len (by decide +kernel) (ja_cons (je_var 4) ja_nil)) je_int) ja_nil)))))
    (jss_cons (js_if (jt_w (jw_or (jt_cmp (jo_neB c.toBd) (je_callB (jc_reprB c.toBd) (by rfl) T.z_repr (by decide +kernel) (ja_cons (je_call (ok_ring_form T) T.g_ring_form c.toBc (by decide) (by rfl) (ja_cons (je_fz (je_var 3)) (ja_cons (je_fz (je_var 4)) ja_nil))) ja_nil)) (je_var 6) (nomark _)) (jw_or1 (jt_cmp (jo_neB c.toBd) (je_callB (jc_reprB c.toBd) (by rfl) T.z_repr (by decide +kernel) (ja_cons (je_callP (ok_ring_form T) T.g_ring_form c.toBc (by decide) (by rfl) (T.F_ring_form.kw (ks := ["word", "undo"]) (ix := [1, 0]) fun _ _ _ _ _ _ ws hl => match ws, hl with | [_, _], _ => rfl) (jk_cons (je_fz (je_var 4)) (jk_cons (je_fz (je_var 3)) jk_nil))) ja_nil)) (je_var 6) (nomark _)))))
    (jss_one (js_ret je_bl))
    jss_nil)
    (jss_cons (js_if (jt_w (jw_or (jt_cmp (jo_neB c.toBd) (je_callB (jc_reprB c.toBd) (by rfl) T.z_repr (by decide +kernel) (ja_cons (je_call (ok_ring_form T) T.g_ring_form c.toBc (by decide) (by rfl) (ja_cons (je_fz (je_var 3)) (ja_cons (je_fz (je_op (jo_add c.K) (je_sl (je_var 4) (jp_some (je_var 7)) jp_none c.K) (je_sl (je_var 4) jp_none (jp_some (je_var 7)) c.K))) ja_nil))) ja_nil)) (je_var 6) (nomark _)) (jw_or1 (jt_cmp (jo_neB c.toBd) (je_callB (jc_reprB c.toBd) (by rfl) T.z_repr (by decide +kernel) (ja_cons (je_call (ok_ring_form T) T.g_ring_form c.toBc (by decide) (by rfl) (ja_cons (je_fz (je_var 3)) (ja_cons (je_fz (je_call (ok_law_back T) T.g_law_back c.toBc (by decide) (by rfl) (ja_cons (je_fz (je_var 3)) (ja_cons (je_fz (je_var 4)) ja_nil)))) ja_nil))) ja_nil)) (je_var 6) (nomark _)))))
    (jss_one (js_ret je_bl))
    jss_nil)
    (jss_cons (js_set (i := 8) c.toBd (je_fz (je_call (ok_law_spoilt T) T.g_law_spoilt c.toBc (by decide) (by rfl) (ja_cons (je_var 1) (ja_cons (je_fz (je_sl (je_var 4) jp_none (jp_some je_int) c.K)) (ja_cons (je_callB (jc_len c.K c.P c.w) (by rfl) T.z_len (by decide +kernel) (ja_cons (je_var 3) ja_nil)) ja_nil))))))
    (jss_one (js_if (jt_not (jt_val (je_call (ok_law_is_word T) T.g_law_is_word c.toBc (by decide) (by rfl) (ja_cons (je_fz (je_var 8)) (ja_cons (je_callB (jc_len c.K c.P c.w) (by rfl) T.z_len (by decide +kernel) (ja_cons (je_var 3) ja_nil)) ja_nil)))))
    (jss_cons (js_set (i := 9) c.toBd (je_callB (jc_reprB c.toBd) (by rfl) T.z_repr (by decide +kernel) (ja_cons (je_var 8) ja_nil)))
    (jss_one (js_try c (fun Wx pn xe c => (jss_cons (js_expr (je_call (ok_ring_form T) T.g_ring_form c.toBc (by decide) (by rfl) (ja_cons (je_fz (je_var 3)) (ja_cons (je_fz (je_var 8)) ja_nil))))
    (jss_one (js_ret je_bl)))) (.as (h := 4) (i := 10) ⟨rfl, by decide, Or.inl T.gc_InvalidWord⟩ rfl rfl T.cl_InvalidWord (by exact (by decide : 4 ∈ [4])) rfl (fun a A d oe pn fs cc hA hs hz hv c => (jss_one (js_if (jt_cmp (jo_neB c) (je_callB (jc_reprB c) (by rfl) T.z_repr (by decide +kernel) (ja_cons (je_xf2 (f := 7) rfl T.cl_InvalidWord hA hs (by decide) T.x_InvalidWord.X (T.x_InvalidWord.no _ (by simp)) hz hv) ja_nil)) (je_var 9) (nomark _))
    (jss_one (js_ret je_bl))
    jss_nil))) .nil))))
    jss_nil)))))))))))
    (jss_one (js_ret je_bl))))
theorem ok_law (T : Txt K mg) (all : ∀ ns : List Int, ns.length ≤ 63 → ∃ cs : M.Env, mF_law_all [.dat (.src (ns.map D.int))] = Out.ok (R.dat (.bl true)) cs) : FnG P w K mg base CX0 8 T.f_law T.d_law ["script"] (M.spAll K) := by
  refine okG T.F_law sc_law (fun vs H Q E h => ?_) (fun cdv A outer s H vs Q E hG hr h => ?_)
  · obtain ⟨a, ns, rfl, _⟩ := h
    rfl
  obtain ⟨a, ns, rfl, hS, hl, q⟩ := h
  refine ⟨_, pss_one (ps_try_thru0 (pss_one (ps_ret (pe_callG (ok_law_all T).ok hG (hr.mono (by decide)) (by rfl) T.g_law_all T.F_law_all.kp T.b_law_all MR.passL (pa_cons (pv 0) pa_nil))))), ?_⟩
  exact ⟨.ref a, rfl, law_end rfl hS (all ns hl) q⟩
end
end K36
set_option Elab.async false
set_option linter.all false
set_option maxRecDepth 100000
set_option maxHeartbeats 4000000
namespace K36
open PySem PySem.Spec PyProof.Rows L2 MR M
theorem all_mk (all : ∀ ns : List Int, ns.length ≤ 63 → ∃ cs : M.Env, mF_law_all [.dat (.src (ns.map D.int))] = Out.ok (R.dat (.bl true)) cs) {l : PySem.W.OpenLaw} {w : World} {K : PySem.W.Frag} {h : Heap} {mg : Str → Option Value} {fa : Addr} (X : K.In h) (G : h.Ns mainGlobals mg) (hfa : mg "law" = some (.ref fa))
    {C_InvalidWord : Addr}
    {x0 : Addr} {od0 an0 : Option Addr} {sl0 : Array (Option Value)} {oc0 kV0 dc0 pm0 cd0 ct0 : Value}
    {x1 : Addr} {od1 an1 : Option Addr} {sl1 : Array (Option Value)} {oc1 kV1 dc1 pm1 cd1 ct1 : Value}
    {x2 : Addr} {od2 an2 : Option Addr} {sl2 : Array (Option Value)} {oc2 kV2 dc2 pm2 cd2 ct2 : Value}
    {x3 : Addr} {od3 an3 : Option Addr} {sl3 : Array (Option Value)} {oc3 kV3 dc3 pm3 cd3 ct3 : Value}
    {x4 : Addr} {od4 an4 : Option Addr} {sl4 : Array (Option Value)} {oc4 kV4 dc4 pm4 cd4 ct4 : Value}
    {x5 : Addr} {od5 an5 : Option Addr} {sl5 : Array (Option Value)} {oc5 kV5 dc5 pm5 cd5 ct5 : Value}
    {x6 : Addr} {od6 an6 : Option Addr} {sl6 : Array (Option Value)} {oc6 kV6 dc6 pm6 cd6 ct6 : Value}
    {x7 : Addr} {od7 an7 : Option Addr} {sl7 : Array (Option Value)} {oc7 kV7 dc7 pm7 cd7 ct7 : Value}
    {x8 : Addr} {od8 an8 : Option Addr} {sl8 : Array (Option Value)} {oc8 kV8 dc8 pm8 cd8 ct8 : Value}
    {x9 : Addr} {od9 an9 : Option Addr} {sl9 : Array (Option Value)} {oc9 kV9 dc9 pm9 cd9 ct9 : Value}
    {x10 : Addr} {od10 an10 : Option Addr} {sl10 : Array (Option Value)} {oc10 kV10 dc10 pm10 cd10 ct10 : Value}
    {x11 : Addr} {od11 an11 : Option Addr} {sl11 : Array (Option Value)} {oc11 kV11 dc11 pm11 cd11 ct11 : Value}
    {x12 : Addr} {od12 an12 : Option Addr} {sl12 : Array (Option Value)} {oc12 kV12 dc12 pm12 cd12 ct12 : Value}
    {x13 : Addr} {od13 an13 : Option Addr} {sl13 : Array (Option Value)} {oc13 kV13 dc13 pm13 cd13 ct13 : Value}
    {x14 : Addr} {od14 an14 : Option Addr} {sl14 : Array (Option Value)} {oc14 kV14 dc14 pm14 cd14 ct14 : Value}
    {x15 : Addr} {od15 an15 : Option Addr} {sl15 : Array (Option Value)} {oc15 kV15 dc15 pm15 cd15 ct15 : Value}
    {x16 : Addr} {od16 an16 : Option Addr} {sl16 : Array (Option Value)} {oc16 kV16 dc16 pm16 cd16 ct16 : Value}
    {x17 : Addr} {od17 an17 : Option Addr} {sl17 : Array (Option Value)} {oc17 kV17 dc17 pm17 cd17 ct17 : Value}
    {x18 : Addr} {od18 an18 : Option Addr} {sl18 : Array (Option Value)} {oc18 kV18 dc18 pm18 cd18 ct18 : Value}
    {x19 : Addr} {od19 an19 : Option Addr} {sl19 : Array (Option Value)} {oc19 kV19 dc19 pm19 cd19 ct19 : Value}
    {fI_InvalidWord B0_InvalidWord N_InvalidWord : Addr} {nm_InvalidWord q_InvalidWord : Str} {bs_InvalidWord : List Value} {sn_InvalidWord : List Str} {sub_InvalidWord : List Value} {ab_InvalidWord : Bool} {col_InvalidWord : Option Bool} {dd_InvalidWord : Option Addr} {m0_InvalidWord m1_InvalidWord m2_InvalidWord m3_InvalidWord m5_InvalidWord : Option Value}
    {od_InvalidWord an_InvalidWord : Option Addr} {sl_InvalidWord : Array (Option Value)} {oc_InvalidWord kV_InvalidWord dc_InvalidWord pm_InvalidWord cd_InvalidWord ct_InvalidWord : Value}
    (aC_InvalidWord : PySem.W.nsIn K mainGlobals "InvalidWord" = some (some (.ref C_InvalidWord)))
    (a0 : PySem.W.nsIn K mainGlobals "is_integer" = some (some (.ref x0)))
    (l0 : K.lookup x0 = some ⟨oc0, od0, .func (PySem.W.fnOf "is_integer" "is_integer" (defArgs s_is_integer) (defBody s_is_integer) (defScope s_is_integer) .none kV0 dc0 pm0 an0 cd0 ct0), sl0⟩)
    (c0 : PySem.W.codeIn K cd0 "is_integer" = true) (k0 : PySem.W.keepIn K (.ref x0) = true)
    (a1 : PySem.W.nsIn K mainGlobals "is_number" = some (some (.ref x1)))
    (l1 : K.lookup x1 = some ⟨oc1, od1, .func (PySem.W.fnOf "is_number" "is_number" (defArgs s_is_number) (defBody s_is_number) (defScope s_is_number) .none kV1 dc1 pm1 an1 cd1 ct1), sl1⟩)
    (c1 : PySem.W.codeIn K cd1 "is_number" = true) (k1 : PySem.W.keepIn K (.ref x1) = true)
    (a2 : PySem.W.nsIn K mainGlobals "is_word" = some (some (.ref x2)))
    (l2 : K.lookup x2 = some ⟨oc2, od2, .func (PySem.W.fnOf "is_word" "is_word" (defArgs s_is_word) (defBody s_is_word) (defScope s_is_word) .none kV2 dc2 pm2 an2 cd2 ct2), sl2⟩)
    (c2 : PySem.W.codeIn K cd2 "is_word" = true) (k2 : PySem.W.keepIn K (.ref x2) = true)
    (a3 : PySem.W.nsIn K mainGlobals "check_word" = some (some (.ref x3)))
    (l3 : K.lookup x3 = some ⟨oc3, od3, .func (PySem.W.fnOf "check_word" "check_word" (defArgs s_check_word) (defBody s_check_word) (defScope s_check_word) .none kV3 dc3 pm3 an3 cd3 ct3), sl3⟩)
    (c3 : PySem.W.codeIn K cd3 "check_word" = true) (k3 : PySem.W.keepIn K (.ref x3) = true)
    (a4 : PySem.W.nsIn K mainGlobals "undone" = some (some (.ref x4)))
    (l4 : K.lookup x4 = some ⟨oc4, od4, .func (PySem.W.fnOf "undone" "undone" (defArgs s_undone) (defBody s_undone) (defScope s_undone) .none kV4 dc4 pm4 an4 cd4 ct4), sl4⟩)
    (c4 : PySem.W.codeIn K cd4 "undone" = true) (k4 : PySem.W.keepIn K (.ref x4) = true)
    (a5 : PySem.W.nsIn K mainGlobals "freely_reduced" = some (some (.ref x5)))
    (l5 : K.lookup x5 = some ⟨oc5, od5, .func (PySem.W.fnOf "freely_reduced" "freely_reduced" (defArgs s_freely_reduced) (defBody s_freely_reduced) (defScope s_freely_reduced) .none kV5 dc5 pm5 an5 cd5 ct5), sl5⟩)
    (c5 : PySem.W.codeIn K cd5 "freely_reduced" = true) (k5 : PySem.W.keepIn K (.ref x5) = true)
    (a6 : PySem.W.nsIn K mainGlobals "ring_form" = some (some (.ref x6)))
    (l6 : K.lookup x6 = some ⟨oc6, od6, .func (PySem.W.fnOf "ring_form" "ring_form" (defArgs s_ring_form) (defBody s_ring_form) (defScope s_ring_form) .none kV6 dc6 pm6 an6 cd6 ct6), sl6⟩)
    (c6 : PySem.W.codeIn K cd6 "ring_form" = true) (k6 : PySem.W.keepIn K (.ref x6) = true)
    (a7 : PySem.W.nsIn K mainGlobals "_law_box" = some (some (.ref x7)))
    (l7 : K.lookup x7 = some ⟨oc7, od7, .func (PySem.W.fnOf "_law_box" "_law_box" (defArgs s_law_box) (defBody s_law_box) (defScope s_law_box) .none kV7 dc7 pm7 an7 cd7 ct7), sl7⟩)
    (c7 : PySem.W.codeIn K cd7 "_law_box" = true) (k7 : PySem.W.keepIn K (.ref x7) = true)
    (a8 : PySem.W.nsIn K mainGlobals "_law_draw" = some (some (.ref x8)))
    (l8 : K.lookup x8 = some ⟨oc8, od8, .func (PySem.W.fnOf "_law_draw" "_law_draw" (defArgs s_law_draw) (defBody s_law_draw) (defScope s_law_draw) .none kV8 dc8 pm8 an8 cd8 ct8), sl8⟩)
    (c8 : PySem.W.codeIn K cd8 "_law_draw" = true) (k8 : PySem.W.keepIn K (.ref x8) = true)
    (a9 : PySem.W.nsIn K mainGlobals "_law_number" = some (some (.ref x9)))
    (l9 : K.lookup x9 = some ⟨oc9, od9, .func (PySem.W.fnOf "_law_number" "_law_number" (defArgs s_law_number) (defBody s_law_number) (defScope s_law_number) .none kV9 dc9 pm9 an9 cd9 ct9), sl9⟩)
    (c9 : PySem.W.codeIn K cd9 "_law_number" = true) (k9 : PySem.W.keepIn K (.ref x9) = true)
    (a10 : PySem.W.nsIn K mainGlobals "_law_undo" = some (some (.ref x10)))
    (l10 : K.lookup x10 = some ⟨oc10, od10, .func (PySem.W.fnOf "_law_undo" "_law_undo" (defArgs s_law_undo) (defBody s_law_undo) (defScope s_law_undo) .none kV10 dc10 pm10 an10 cd10 ct10), sl10⟩)
    (c10 : PySem.W.codeIn K cd10 "_law_undo" = true) (k10 : PySem.W.keepIn K (.ref x10) = true)
    (a11 : PySem.W.nsIn K mainGlobals "_law_word" = some (some (.ref x11)))
    (l11 : K.lookup x11 = some ⟨oc11, od11, .func (PySem.W.fnOf "_law_word" "_law_word" (defArgs s_law_word) (defBody s_law_word) (defScope s_law_word) .none kV11 dc11 pm11 an11 cd11 ct11), sl11⟩)
    (c11 : PySem.W.codeIn K cd11 "_law_word" = true) (k11 : PySem.W.keepIn K (.ref x11) = true)
    (a12 : PySem.W.nsIn K mainGlobals "_law_is_word" = some (some (.ref x12)))
    (l12 : K.lookup x12 = some ⟨oc12, od12, .func (PySem.W.fnOf "_law_is_word" "_law_is_word" (defArgs s_law_is_word) (defBody s_law_is_word) (defScope s_law_is_word) .none kV12 dc12 pm12 an12 cd12 ct12), sl12⟩)
    (c12 : PySem.W.codeIn K cd12 "_law_is_word" = true) (k12 : PySem.W.keepIn K (.ref x12) = true)
    (a13 : PySem.W.nsIn K mainGlobals "_law_thing" = some (some (.ref x13)))
    (l13 : K.lookup x13 = some ⟨oc13, od13, .func (PySem.W.fnOf "_law_thing" "_law_thing" (defArgs s_law_thing) (defBody s_law_thing) (defScope s_law_thing) .none kV13 dc13 pm13 an13 cd13 ct13), sl13⟩)
    (c13 : PySem.W.codeIn K cd13 "_law_thing" = true) (k13 : PySem.W.keepIn K (.ref x13) = true)
    (a14 : PySem.W.nsIn K mainGlobals "_law_spoilt" = some (some (.ref x14)))
    (l14 : K.lookup x14 = some ⟨oc14, od14, .func (PySem.W.fnOf "_law_spoilt" "_law_spoilt" (defArgs s_law_spoilt) (defBody s_law_spoilt) (defScope s_law_spoilt) .none kV14 dc14 pm14 an14 cd14 ct14), sl14⟩)
    (c14 : PySem.W.codeIn K cd14 "_law_spoilt" = true) (k14 : PySem.W.keepIn K (.ref x14) = true)
    (a15 : PySem.W.nsIn K mainGlobals "_law_reduced" = some (some (.ref x15)))
    (l15 : K.lookup x15 = some ⟨oc15, od15, .func (PySem.W.fnOf "_law_reduced" "_law_reduced" (defArgs s_law_reduced) (defBody s_law_reduced) (defScope s_law_reduced) .none kV15 dc15 pm15 an15 cd15 ct15), sl15⟩)
    (c15 : PySem.W.codeIn K cd15 "_law_reduced" = true) (k15 : PySem.W.keepIn K (.ref x15) = true)
    (a16 : PySem.W.nsIn K mainGlobals "_law_back" = some (some (.ref x16)))
    (l16 : K.lookup x16 = some ⟨oc16, od16, .func (PySem.W.fnOf "_law_back" "_law_back" (defArgs s_law_back) (defBody s_law_back) (defScope s_law_back) .none kV16 dc16 pm16 an16 cd16 ct16), sl16⟩)
    (c16 : PySem.W.codeIn K cd16 "_law_back" = true) (k16 : PySem.W.keepIn K (.ref x16) = true)
    (a17 : PySem.W.nsIn K mainGlobals "_law_ring" = some (some (.ref x17)))
    (l17 : K.lookup x17 = some ⟨oc17, od17, .func (PySem.W.fnOf "_law_ring" "_law_ring" (defArgs s_law_ring) (defBody s_law_ring) (defScope s_law_ring) .none kV17 dc17 pm17 an17 cd17 ct17), sl17⟩)
    (c17 : PySem.W.codeIn K cd17 "_law_ring" = true) (k17 : PySem.W.keepIn K (.ref x17) = true)
    (a18 : PySem.W.nsIn K mainGlobals "_law_all" = some (some (.ref x18)))
    (l18 : K.lookup x18 = some ⟨oc18, od18, .func (PySem.W.fnOf "_law_all" "_law_all" (defArgs s_law_all) (defBody s_law_all) (defScope s_law_all) .none kV18 dc18 pm18 an18 cd18 ct18), sl18⟩)
    (c18 : PySem.W.codeIn K cd18 "_law_all" = true) (k18 : PySem.W.keepIn K (.ref x18) = true)
    (a19 : PySem.W.nsIn K mainGlobals "law" = some (some (.ref x19)))
    (l19 : K.lookup x19 = some ⟨oc19, od19, .func (PySem.W.fnOf "law" "law" (defArgs s_law) (defBody s_law) (defScope s_law) .none kV19 dc19 pm19 an19 cd19 ct19), sl19⟩)
    (c19 : PySem.W.codeIn K cd19 "law" = true) (k19 : PySem.W.keepIn K (.ref x19) = true)
    (z_abs : PySem.W.nsIn K mainGlobals "abs" = some none)
    (z_all : PySem.W.nsIn K mainGlobals "all" = some none)
    (z_bool : PySem.W.nsIn K mainGlobals "bool" = some none)
    (z_int : PySem.W.nsIn K mainGlobals "int" = some none)
    (z_isinstance : PySem.W.nsIn K mainGlobals "isinstance" = some none)
    (z_len : PySem.W.nsIn K mainGlobals "len" = some none)
    (z_list : PySem.W.nsIn K mainGlobals "list" = some none)
    (z_min : PySem.W.nsIn K mainGlobals "min" = some none)
    (z_range : PySem.W.nsIn K mainGlobals "range" = some none)
    (z_repr : PySem.W.nsIn K mainGlobals "repr" = some none)
    (z_str : PySem.W.nsIn K mainGlobals "str" = some none)
    (z_tuple : PySem.W.nsIn K mainGlobals "tuple" = some none)
    (xL_InvalidWord : K.lookup C_InvalidWord = some (excClassObj nm_InvalidWord q_InvalidWord C_InvalidWord N_InvalidWord bs_InvalidWord [.ref B0_InvalidWord, .type "ValueError", .type "Exception", .type "BaseException", .type "object"] true sn_InvalidWord sub_InvalidWord ab_InvalidWord col_InvalidWord dd_InvalidWord m0_InvalidWord m1_InvalidWord m2_InvalidWord m3_InvalidWord m5_InvalidWord "ValueError.__new__"))
    (sa_InvalidWord : PySem.W.findIn K (.ref C_InvalidWord) "__setattr__" = some (some (.builtin "object.__setattr__")))
    (ga_InvalidWord : PySem.W.findIn K (.ref C_InvalidWord) "__getattribute__" = some (some (.builtin "BaseException.__getattribute__")))
    (gg_InvalidWord : PySem.W.findIn K (.ref C_InvalidWord) "__getattr__" = some none)
    (n0_InvalidWord : PySem.W.findIn K (.ref C_InvalidWord) "value" = some none)
    (iC_InvalidWord : PySem.W.findIn K (.ref C_InvalidWord) "__init__" = some (some (.ref fI_InvalidWord)))
    (tI_InvalidWord : PySem.W.typeIn K (.ref fI_InvalidWord) = some (.type "function"))
    (lI_InvalidWord : K.lookup fI_InvalidWord = some ⟨oc_InvalidWord, od_InvalidWord, .func (PySem.W.fnOf "__init__" "InvalidWord.__init__" (defArgs s_init_InvalidWord) (defBody s_init_InvalidWord) (defScope s_init_InvalidWord) .none kV_InvalidWord dc_InvalidWord pm_InvalidWord an_InvalidWord cd_InvalidWord ct_InvalidWord), sl_InvalidWord⟩)
    (cI_InvalidWord : PySem.W.codeIn K cd_InvalidWord "InvalidWord.__init__" = true)
    (kI_InvalidWord : PySem.W.keepIn K (.ref fI_InvalidWord) = true)
    (kC_InvalidWord : PySem.W.keepIn K (.ref C_InvalidWord) = true)
    (eC_InvalidWord : PySem.W.subIn K (.ref C_InvalidWord) (.type "BaseException") = some true)
    (tC_InvalidWord : PySem.W.typeIn K (.ref C_InvalidWord) = some (.type "type"))
    (hC_InvalidWord : PySem.W.hasDictIn K C_InvalidWord = true)
    (iS_InvalidWord : PySem.W.isClsIn K C_InvalidWord = true)
    (sC_InvalidWord_InvalidWord : PySem.W.subIn K (.ref C_InvalidWord) (.ref C_InvalidWord) = some true)
    (nod : ([C_InvalidWord] : List Addr).Nodup) :
    ∃ fd : FuncData, (∀ (s : Shared) (v : Value), BindsTo s fd ⟨[v], []⟩ [("script", v)]) ∧ ∀ base : Heap, K.In base → base.Ns mainGlobals mg → FnG l.prog w K mg base CX0 8 fa fd ["script"] (M.spAll K) := by
  have e := hfa.symm.trans (PySem.W.mg_of X G a19)
  cases e
  let T : Txt K mg := {
    f_is_integer := x0, d_is_integer := _, F_is_integer := fun_mk (st := s_is_integer) l0 c0 k0, b_is_integer := (fun_mk (st := s_is_integer) l0 c0 k0).binds (ps := ["value"]) fun _ _ _ _ _ _ us hl => (match us, hl with | [_], _ => rfl),
    g_is_integer := PySem.W.mg_of X G a0,
    f_is_number := x1, d_is_number := _, F_is_number := fun_mk (st := s_is_number) l1 c1 k1, b_is_number := (fun_mk (st := s_is_number) l1 c1 k1).binds (ps := ["value"]) fun _ _ _ _ _ _ us hl => (match us, hl with | [_], _ => rfl),
    g_is_number := PySem.W.mg_of X G a1,
    f_is_word := x2, d_is_word := _, F_is_word := fun_mk (st := s_is_word) l2 c2 k2, b_is_word := (fun_mk (st := s_is_word) l2 c2 k2).binds (ps := ["value", "letters"]) fun _ _ _ _ _ _ us hl => (match us, hl with | [_, _], _ => rfl),
    g_is_word := PySem.W.mg_of X G a2,
    f_check_word := x3, d_check_word := _, F_check_word := fun_mk (st := s_check_word) l3 c3 k3, b_check_word := (fun_mk (st := s_check_word) l3 c3 k3).binds (ps := ["word", "letters"]) fun _ _ _ _ _ _ us hl => (match us, hl with | [_, _], _ => rfl),
    g_check_word := PySem.W.mg_of X G a3,
    f_undone := x4, d_undone := _, F_undone := fun_mk (st := s_undone) l4 c4 k4, b_undone := (fun_mk (st := s_undone) l4 c4 k4).binds (ps := ["undo", "word"]) fun _ _ _ _ _ _ us hl => (match us, hl with | [_, _], _ => rfl),
    g_undone := PySem.W.mg_of X G a4,
    f_freely_reduced := x5, d_freely_reduced := _, F_freely_reduced := fun_mk (st := s_freely_reduced) l5 c5 k5, b_freely_reduced := (fun_mk (st := s_freely_reduced) l5 c5 k5).binds (ps := ["undo", "word"]) fun _ _ _ _ _ _ us hl => (match us, hl with | [_, _], _ => rfl),
    g_freely_reduced := PySem.W.mg_of X G a5,
    f_ring_form := x6, d_ring_form := _, F_ring_form := fun_mk (st := s_ring_form) l6 c6 k6, b_ring_form := (fun_mk (st := s_ring_form) l6 c6 k6).binds (ps := ["undo", "word"]) fun _ _ _ _ _ _ us hl => (match us, hl with | [_, _], _ => rfl),
    g_ring_form := PySem.W.mg_of X G a6,
    f_law_box := x7, d_law_box := _, F_law_box := fun_mk (st := s_law_box) l7 c7 k7, b_law_box := (fun_mk (st := s_law_box) l7 c7 k7).binds (ps := ["script"]) fun _ _ _ _ _ _ us hl => (match us, hl with | [_], _ => rfl),
    g_law_box := PySem.W.mg_of X G a7,
    f_law_draw := x8, d_law_draw := _, F_law_draw := fun_mk (st := s_law_draw) l8 c8 k8, b_law_draw := (fun_mk (st := s_law_draw) l8 c8 k8).binds (ps := ["box", "limit"]) fun _ _ _ _ _ _ us hl => (match us, hl with | [_, _], _ => rfl),
    g_law_draw := PySem.W.mg_of X G a8,
    f_law_number := x9, d_law_number := _, F_law_number := fun_mk (st := s_law_number) l9 c9 k9, b_law_number := (fun_mk (st := s_law_number) l9 c9 k9).binds (ps := ["value"]) fun _ _ _ _ _ _ us hl => (match us, hl with | [_], _ => rfl),
    g_law_number := PySem.W.mg_of X G a9,
    f_law_undo := x10, d_law_undo := _, F_law_undo := fun_mk (st := s_law_undo) l10 c10 k10, b_law_undo := (fun_mk (st := s_law_undo) l10 c10 k10).binds (ps := ["box", "most"]) fun _ _ _ _ _ _ us hl => (match us, hl with | [_, _], _ => rfl),
    g_law_undo := PySem.W.mg_of X G a10,
    f_law_word := x11, d_law_word := _, F_law_word := fun_mk (st := s_law_word) l11 c11 k11, b_law_word := (fun_mk (st := s_law_word) l11 c11 k11).binds (ps := ["box", "letters", "most"]) fun _ _ _ _ _ _ us hl => (match us, hl with | [_, _, _], _ => rfl),
    g_law_word := PySem.W.mg_of X G a11,
    f_law_is_word := x12, d_law_is_word := _, F_law_is_word := fun_mk (st := s_law_is_word) l12 c12 k12, b_law_is_word := (fun_mk (st := s_law_is_word) l12 c12 k12).binds (ps := ["value", "letters"]) fun _ _ _ _ _ _ us hl => (match us, hl with | [_, _], _ => rfl),
    g_law_is_word := PySem.W.mg_of X G a12,
    f_law_thing := x13, d_law_thing := _, F_law_thing := fun_mk (st := s_law_thing) l13 c13 k13, b_law_thing := (fun_mk (st := s_law_thing) l13 c13 k13).binds (ps := ["box"]) fun _ _ _ _ _ _ us hl => (match us, hl with | [_], _ => rfl),
    g_law_thing := PySem.W.mg_of X G a13,
    f_law_spoilt := x14, d_law_spoilt := _, F_law_spoilt := fun_mk (st := s_law_spoilt) l14 c14 k14, b_law_spoilt := (fun_mk (st := s_law_spoilt) l14 c14 k14).binds (ps := ["box", "word", "letters"]) fun _ _ _ _ _ _ us hl => (match us, hl with | [_, _, _], _ => rfl),
    g_law_spoilt := PySem.W.mg_of X G a14,
    f_law_reduced := x15, d_law_reduced := _, F_law_reduced := fun_mk (st := s_law_reduced) l15 c15 k15, b_law_reduced := (fun_mk (st := s_law_reduced) l15 c15 k15).binds (ps := ["undo", "word"]) fun _ _ _ _ _ _ us hl => (match us, hl with | [_, _], _ => rfl),
    g_law_reduced := PySem.W.mg_of X G a15,
    f_law_back := x16, d_law_back := _, F_law_back := fun_mk (st := s_law_back) l16 c16 k16, b_law_back := (fun_mk (st := s_law_back) l16 c16 k16).binds (ps := ["undo", "word"]) fun _ _ _ _ _ _ us hl => (match us, hl with | [_, _], _ => rfl),
    g_law_back := PySem.W.mg_of X G a16,
    f_law_ring := x17, d_law_ring := _, F_law_ring := fun_mk (st := s_law_ring) l17 c17 k17, b_law_ring := (fun_mk (st := s_law_ring) l17 c17 k17).binds (ps := ["undo", "word"]) fun _ _ _ _ _ _ us hl => (match us, hl with | [_, _], _ => rfl),
    g_law_ring := PySem.W.mg_of X G a17,
    f_law_all := x18, d_law_all := _, F_law_all := fun_mk (st := s_law_all) l18 c18 k18, b_law_all := (fun_mk (st := s_law_all) l18 c18 k18).binds (ps := ["script"]) fun _ _ _ _ _ _ us hl => (match us, hl with | [_], _ => rfl),
    g_law_all := PySem.W.mg_of X G a18,
    f_law := fa, d_law := _, F_law := fun_mk (st := s_law) l19 c19 k19, b_law := (fun_mk (st := s_law) l19 c19 k19).binds (ps := ["script"]) fun _ _ _ _ _ _ us hl => (match us, hl with | [_], _ => rfl),
    g_law := PySem.W.mg_of X G a19,
    z_abs := PySem.W.mg_none_of X G z_abs,
    z_all := PySem.W.mg_none_of X G z_all,
    z_bool := PySem.W.mg_none_of X G z_bool,
    z_int := PySem.W.mg_none_of X G z_int,
    z_isinstance := PySem.W.mg_none_of X G z_isinstance,
    z_len := PySem.W.mg_none_of X G z_len,
    z_list := PySem.W.mg_none_of X G z_list,
    z_min := PySem.W.mg_none_of X G z_min,
    z_range := PySem.W.mg_none_of X G z_range,
    z_repr := PySem.W.mg_none_of X G z_repr,
    z_str := PySem.W.mg_none_of X G z_str,
    z_tuple := PySem.W.mg_none_of X G z_tuple,
    a_InvalidWord := C_InvalidWord, gc_InvalidWord := PySem.W.mg_of X G aC_InvalidWord,
    i_InvalidWord := fI_InvalidWord, di_InvalidWord := _, x_InvalidWord := { gC := PySem.W.mg_of X G aC_InvalidWord, T := { cls := ⟨nm_InvalidWord, q_InvalidWord, N_InvalidWord, bs_InvalidWord, _, sn_InvalidWord, sub_InvalidWord, ab_InvalidWord, col_InvalidWord, dd_InvalidWord, m0_InvalidWord, m1_InvalidWord, m2_InvalidWord, m3_InvalidWord, m5_InvalidWord, xL_InvalidWord, (show PySem.HandSPX.refsVE [.type "ValueError", .type "Exception", .type "BaseException", .type "object"] = true from by decide +kernel)⟩, sa := sa_InvalidWord, exC := eC_InvalidWord, tyC := tC_InvalidWord, kC := kC_InvalidWord }, X := { ga := ga_InvalidWord, gg := gg_InvalidWord, exC := eC_InvalidWord, hdC := hC_InvalidWord }, no := (fun f hf => by simp only [List.mem_cons, List.not_mem_nil, or_false] at hf; subst hf; exact n0_InvalidWord), iC := iC_InvalidWord, tI := tI_InvalidWord },
    Fi_InvalidWord := fun_mk (st := s_init_InvalidWord) lI_InvalidWord cI_InvalidWord kI_InvalidWord, bi_InvalidWord := (fun_mk (st := s_init_InvalidWord) lI_InvalidWord cI_InvalidWord kI_InvalidWord).binds (ps := ["self", "value"]) fun _ _ _ _ _ _ us hl => (match us, hl with | [_, _], _ => rfl),
    te_InvalidWord_InvalidWord := exm_own eC_InvalidWord iS_InvalidWord tC_InvalidWord sC_InvalidWord_InvalidWord eC_InvalidWord iS_InvalidWord tC_InvalidWord,
    nod := nod }
  exact ⟨_, fun s v => .of_eq rfl, fun base _ _ => ok_law T all⟩
end K36
open PySem PySem.W PyProof.Rows
set_option maxHeartbeats 0 in
theorem PySem.Challenge.cw_normalwords_k36_ring_forms_holds : PySem.Challenge.rw_normalwords_k36_ring_forms.Holds := by
  w_on; o_law; k_head; (case hw => w_witness2)
  k_fill
  refine M.walkG (l := PySem.Challenge.rw_normalwords_k36_ring_forms) (n := 63) (k := 8) (x := "script") (CX := fun _ => L2.CX0) (sp := fun w => M.spAll _) rfl (by decide) rfl ⟨rfl, by decide, by decide⟩ (fun w h Y => PySem.W.kIn_of Y) ?F (fun _ _ a ns hl _ hS => ⟨a, ns, rfl, hS, hl, fun _ => rfl⟩) (fun _ _ _ _ _ h => h)
  case F =>
    intro w mg fa h KX G hmg
    refine' K36.all_mk K36.all_true KX G hmg ?aC_InvalidWord ?a0 ?l0 ?c0 ?k0 ?a1 ?l1 ?c1 ?k1 ?a2 ?l2 ?c2 ?k2 ?a3 ?l3 ?c3 ?k3 ?a4 ?l4 ?c4 ?k4 ?a5 ?l5 ?c5 ?k5 ?a6 ?l6 ?c6 ?k6 ?a7 ?l7 ?c7 ?k7 ?a8 ?l8 ?c8 ?k8 ?a9 ?l9 ?c9 ?k9 ?a10 ?l10 ?c10 ?k10 ?a11 ?l11 ?c11 ?k11 ?a12 ?l12 ?c12 ?k12 ?a13 ?l13 ?c13 ?k13 ?a14 ?l14 ?c14 ?k14 ?a15 ?l15 ?c15 ?k15 ?a16 ?l16 ?c16 ?k16 ?a17 ?l17 ?c17 ?k17 ?a18 ?l18 ?c18 ?k18 ?a19 ?l19 ?c19 ?k19 ?z_abs ?z_all ?z_bool ?z_int ?z_isinstance ?z_len ?z_list ?z_min ?z_range ?z_repr ?z_str ?z_tuple ?xL_InvalidWord ?sa_InvalidWord ?ga_InvalidWord ?gg_InvalidWord ?n0_InvalidWord ?iC_InvalidWord ?tI_InvalidWord ?lI_InvalidWord ?cI_InvalidWord ?kI_InvalidWord ?kC_InvalidWord ?eC_InvalidWord ?tC_InvalidWord ?hC_InvalidWord ?iS_InvalidWord ?sC_InvalidWord_InvalidWord ?nod
    (case aC_InvalidWord => first | (as_aux_lemma => k_is) | k_is)
    (case a0 => first | (as_aux_lemma => k_is) | k_is)
    (case l0 => first | (as_aux_lemma => k_is) | k_is)
    (case c0 => first | (as_aux_lemma => k_is) | k_is)
    (case k0 => first | (as_aux_lemma => k_is) | k_is)
    (case a1 => first | (as_aux_lemma => k_is) | k_is)
    (case l1 => first | (as_aux_lemma => k_is) | k_is)
    (case c1 => first | (as_aux_lemma => k_is) | k_is)
    (case k1 => first | (as_aux_lemma => k_is) | k_is)
    (case a2 => first | (as_aux_lemma => k_is) | k_is)
    (case l2 => first | (as_aux_lemma => k_is) | k_is)
    (case c2 => first | (as_aux_lemma => k_is) | k_is)
    (case k2 => first | (as_aux_lemma => k_is) | k_is)
    (case a3 => first | (as_aux_lemma => k_is) | k_is)
    (case l3 => first | (as_aux_lemma => k_is) | k_is)
    (case c3 => first | (as_aux_lemma => k_is) | k_is)
    (case k3 => first | (as_aux_lemma => k_is) | k_is)
    (case a4 => first | (as_aux_lemma => k_is) | k_is)
    (case l4 => first | (as_aux_lemma => k_is) | k_is)
    (case c4 => first | (as_aux_lemma => k_is) | k_is)
    (case k4 => first | (as_aux_lemma => k_is) | k_is)
    (case a5 => first | (as_aux_lemma => k_is) | k_is)
    (case l5 => first | (as_aux_lemma => k_is) | k_is)
    (case c5 => first | (as_aux_lemma => k_is) | k_is)
    (case k5 => first | (as_aux_lemma => k_is) | k_is)
    (case a6 => first | (as_aux_lemma => k_is) | k_is)
    (case l6 => first | (as_aux_lemma => k_is) | k_is)
    (case c6 => first | (as_aux_lemma => k_is) | k_is)
    (case k6 => first | (as_aux_lemma => k_is) | k_is)
    (case a7 => first | (as_aux_lemma => k_is) | k_is)
    (case l7 => first | (as_aux_lemma => k_is) | k_is)
    (case c7 => first | (as_aux_lemma => k_is) | k_is)
    (case k7 => first | (as_aux_lemma => k_is) | k_is)
    (case a8 => first | (as_aux_lemma => k_is) | k_is)
    (case l8 => first | (as_aux_lemma => k_is) | k_is)
    (case c8 => first | (as_aux_lemma => k_is) | k_is)
    (case k8 => first | (as_aux_lemma => k_is) | k_is)
    (case a9 => first | (as_aux_lemma => k_is) | k_is)
    (case l9 => first | (as_aux_lemma => k_is) | k_is)
    (case c9 => first | (as_aux_lemma => k_is) | k_is)
    (case k9 => first | (as_aux_lemma => k_is) | k_is)
    (case a10 => first | (as_aux_lemma => k_is) | k_is)
    (case l10 => first | (as_aux_lemma => k_is) | k_is)
    (case c10 => first | (as_aux_lemma => k_is) | k_is)
    (case k10 => first | (as_aux_lemma => k_is) | k_is)
    (case a11 => first | (as_aux_lemma => k_is) | k_is)
    (case l11 => first | (as_aux_lemma => k_is) | k_is)
    (case c11 => first | (as_aux_lemma => k_is) | k_is)
    (case k11 => first | (as_aux_lemma => k_is) | k_is)
    (case a12 => first | (as_aux_lemma => k_is) | k_is)
    (case l12 => first | (as_aux_lemma => k_is) | k_is)
    (case c12 => first | (as_aux_lemma => k_is) | k_is)
    (case k12 => first | (as_aux_lemma => k_is) | k_is)
    (case a13 => first | (as_aux_lemma => k_is) | k_is)
    (case l13 => first | (as_aux_lemma => k_is) | k_is)
    (case c13 => first | (as_aux_lemma => k_is) | k_is)
    (case k13 => first | (as_aux_lemma => k_is) | k_is)
    (case a14 => first | (as_aux_lemma => k_is) | k_is)
    (case l14 => first | (as_aux_lemma => k_is) | k_is)
    (case c14 => first | (as_aux_lemma => k_is) | k_is)
    (case k14 => first | (as_aux_lemma => k_is) | k_is)
    (case a15 => first | (as_aux_lemma => k_is) | k_is)
    (case l15 => first | (as_aux_lemma => k_is) | k_is)
    (case c15 => first | (as_aux_lemma => k_is) | k_is)
    (case k15 => first | (as_aux_lemma => k_is) | k_is)
    (case a16 => first | (as_aux_lemma => k_is) | k_is)
    (case l16 => first | (as_aux_lemma => k_is) | k_is)
    (case c16 => first | (as_aux_lemma => k_is) | k_is)
    (case k16 => first | (as_aux_lemma => k_is) | k_is)
    (case a17 => first | (as_aux_lemma => k_is) | k_is)
    (case l17 => first | (as_aux_lemma => k_is) | k_is)
    (case c17 => first | (as_aux_lemma => k_is) | k_is)
    (case k17 => first | (as_aux_lemma => k_is) | k_is)
    (case a18 => first | (as_aux_lemma => k_is) | k_is)
    (case l18 => first | (as_aux_lemma => k_is) | k_is)
    (case c18 => first | (as_aux_lemma => k_is) | k_is)
    (case k18 => first | (as_aux_lemma => k_is) | k_is)
    (case a19 => first | (as_aux_lemma => k_is) | k_is)
    (case l19 => first | (as_aux_lemma => k_is) | k_is)
    (case c19 => first | (as_aux_lemma => k_is) | k_is)
    (case k19 => first | (as_aux_lemma => k_is) | k_is)
    (case z_abs => first | (as_aux_lemma => k_is) | k_is)
    (case z_all => first | (as_aux_lemma => k_is) | k_is)
    (case z_bool => first | (as_aux_lemma => k_is) | k_is)
    (case z_int => first | (as_aux_lemma => k_is) | k_is)
    (case z_isinstance => first | (as_aux_lemma => k_is) | k_is)
    (case z_len => first | (as_aux_lemma => k_is) | k_is)
    (case z_list => first | (as_aux_lemma => k_is) | k_is)
    (case z_min => first | (as_aux_lemma => k_is) | k_is)
    (case z_range => first | (as_aux_lemma => k_is) | k_is)
    (case z_repr => first | (as_aux_lemma => k_is) | k_is)
    (case z_str => first | (as_aux_lemma => k_is) | k_is)
    (case z_tuple => first | (as_aux_lemma => k_is) | k_is)
    (case xL_InvalidWord => first | (as_aux_lemma => k_is) | k_is)
    (case sa_InvalidWord => first | (as_aux_lemma => k_is) | k_is)
    (case ga_InvalidWord => first | (as_aux_lemma => k_is) | k_is)
    (case gg_InvalidWord => first | (as_aux_lemma => k_is) | k_is)
    (case n0_InvalidWord => first | (as_aux_lemma => k_is) | k_is)
    (case iC_InvalidWord => first | (as_aux_lemma => k_is) | k_is)
    (case tI_InvalidWord => first | (as_aux_lemma => k_is) | k_is)
    (case lI_InvalidWord => first | (as_aux_lemma => k_is) | k_is)
    (case cI_InvalidWord => first | (as_aux_lemma => k_is) | k_is)
    (case kI_InvalidWord => first | (as_aux_lemma => k_is) | k_is)
    (case kC_InvalidWord => first | (as_aux_lemma => k_is) | k_is)
    (case eC_InvalidWord => first | (as_aux_lemma => k_is) | k_is)
    (case tC_InvalidWord => first | (as_aux_lemma => k_is) | k_is)
    (case hC_InvalidWord => first | (as_aux_lemma => k_is) | k_is)
    (case iS_InvalidWord => first | (as_aux_lemma => k_is) | k_is)
    (case sC_InvalidWord_InvalidWord => first | (as_aux_lemma => k_is) | k_is)
    (case nod => decide +kernel)
