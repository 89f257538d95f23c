import PyProof.Rows.All
import Wide.All
import OpenK.AllK
import Wide.FinOn
import HandS.ForMost
import HandS.Walk
import KE.KeyNested
import KE.DataEq
import KE.DataCmp
import HandS.EndBits
import HandS.TupAny
import HandS.TupMul
import HandS.More
import KE.GoesEnum
import KE.GoesMore
import HandS.Gcd
import KE.SortData
import KE.DataMinMax
import KE.KMathGC
import KE.KTupSum
import HandS.SortKw
import KE.SortCalls
import PyProof.ReprRoads
import KE.KIndexOf
import KE.DataFind
import KE.KDictDisplayH
import HandS.TupLen
import HandS.WordsDict
import HandS.Conv
import HandS.RevRange
import HandS.Star
import HandS.SetFor
import HandS.Strs
import HandS.Style
import HandS.IsInst
import HandS.Text
import HandS.Replace
import HandS.Codes
import KE.KRevSl
import PyProof.ReprLen
import PyProof.FitsInt
import PySem.Challenge.RW_squareworlds_k13_walks_done
set_option Elab.async false
set_option linter.all false
set_option maxRecDepth 100000
/-! VD1: heaps with hidden addresses, slots, what they hold. -/
namespace VD
open PySem PySem.Spec PyProof.Rows L2

abbrev D := PyData
abbrev AP := Addr → Prop
abbrev St := L2.St

/-! ### the heap without what is owned -/
open Classical in
noncomputable def hid (W : AP) (H : Hp) : Hp := fun a => if W a then none else H a
theorem hid_some {W : AP} {H : Hp} {a : Addr} {o : HO} : hid W H a = some o ↔ ¬ W a ∧ H a = some o := by
  unfold hid
  by_cases h : W a
  · rw [if_pos h]
    exact ⟨(fun e => by cases e), fun e => absurd h e.1⟩
  · rw [if_neg h]
    exact ⟨fun e => ⟨h, e⟩, fun e => e.2⟩
theorem hid_sub {W : AP} {H : Hp} : Same (hid W H) H := fun _ _ e => (hid_some.mp e).2
theorem hid_anti {W W' : AP} {H : Hp} (h : ∀ a, W' a → W a) : Same (hid W H) (hid W' H) := fun a o e =>
  hid_some.mpr ⟨fun z => (hid_some.mp e).1 (h a z), (hid_some.mp e).2⟩
theorem hid_upd_own {W : AP} {H : Hp} {a : Addr} {o : HO} (h : W a) : hid W (upd H a o) = hid W H := by
  funext b
  unfold hid
  by_cases hb : W b
  · rw [if_pos hb, if_pos hb]
  · rw [if_neg hb, if_neg hb]
    exact upd_ne fun e => hb (e ▸ h)
theorem hid_laid {W : AP} {H : Hp} {p : Addr} {o : HO} (h : H p = none) : Same (hid W H) (hid W (upd H p o)) := fun a u e => by
  obtain ⟨e1, e2⟩ := hid_some.mp e
  refine hid_some.mpr ⟨e1, ?_⟩
  rw [upd_ne (ne_of_none e2 h)]
  exact e2
/-- p joins what is owned -/
def addW (W : AP) (p : Addr) : AP := fun a => W a ∨ a = p
def delW (W : AP) (p : Addr) : AP := fun a => W a ∧ a ≠ p
theorem hid_laidW {W : AP} {H : Hp} {p : Addr} {o : HO} (h : H p = none) : Same (hid W H) (hid (addW W p) (upd H p o)) := fun a u e => by
  obtain ⟨e1, e2⟩ := hid_some.mp e
  have hne := ne_of_none e2 h
  refine hid_some.mpr ⟨fun z => z.elim e1 hne, ?_⟩
  rw [upd_ne hne]
  exact e2

/-! ### data at a heap -/
/-- a tuple that is known to the object: it has no dict -/
def TupAt (K : PySem.W.Frag) (H : Hp) (a : Addr) (xs : List V) : Prop :=
  (∃ o, H a = some (.frz o (.tup xs)) ∧ o.dict = none) ∨
    ∃ (o : Obj) (its : Array Value) (n : Nat), K.lookup a = some o ∧ o.cls = .type "tuple" ∧ o.dict = none ∧ o.data = .seq its n ∧ its.size ≤ sizeLine ∧ Vals xs its.toList
theorem TupAt.sq {K : PySem.W.Frag} {H : Hp} {a : Addr} {xs : List V} (h : TupAt K H a xs) : SqT K H a xs := by
  rcases h with ⟨o, h, _⟩ | ⟨o, its, n, h1, h2, _, h3, h4, h5⟩
  · exact .inl (.inr ⟨o, h⟩)
  · exact .inr ⟨o, its, n, h1, h2, h3, h4, h5⟩
theorem TupAt.same {K : PySem.W.Frag} {H H' : Hp} {a : Addr} {xs : List V} (e : Same H H') (h : TupAt K H a xs) : TupAt K H' a xs := by
  rcases h with ⟨o, h, q⟩ | h
  · exact .inl ⟨o, e _ _ h, q⟩
  · exact .inr h
mutual
inductive Dp (K : PySem.W.Frag) (H : Hp) : V → PyData → Prop
  | non : Dp K H .non .none
  | bl (b : Bool) : Dp K H (.bl b) (.bool b)
  | int (i : Int) : Dp K H (.int i) (.int i)
  | str (x : Str) : Dp K H (.str x) (.str x)
  | lst {a : Addr} {xs : List V} {ds : List PyData} : SqL K H a xs → DpAll K H xs ds → Dp K H (.ref a) (.list ds)
  | tup {a : Addr} {xs : List V} {ds : List PyData} : TupAt K H a xs → DpAll K H xs ds → Dp K H (.ref a) (.tuple ds)
inductive DpAll (K : PySem.W.Frag) (H : Hp) : List V → List PyData → Prop
  | nil : DpAll K H [] []
  | cons {v : V} {vs : List V} {d : PyData} {ds : List PyData} : Dp K H v d → DpAll K H vs ds → DpAll K H (v :: vs) (d :: ds)
end
mutual
theorem Dp.l2 {K : PySem.W.Frag} {H : Hp} : ∀ (d : PyData) (v : V), Dp K H v d → L2.Dp K H v d
  | .none, _, x => by cases x; exact .non
  | .bool _, _, x => by cases x; exact .bl _
  | .int _, _, x => by cases x; exact .int _
  | .str _, _, x => by cases x; exact .str _
  | .list ds, _, x => by
    cases x with
    | lst hs ha => exact .lst hs (DpAll.l2 ds _ ha)
  | .tuple ds, _, x => by
    cases x with
    | tup hs ha => exact .tup hs.sq (DpAll.l2 ds _ ha)
  | .dict _, _, x => by cases x
theorem DpAll.l2 {K : PySem.W.Frag} {H : Hp} : ∀ (ds : List PyData) (vs : List V), DpAll K H vs ds → L2.DpAll K H vs ds
  | [], _, x => by cases x; exact .nil
  | d :: ds, _, x => by
    cases x with
    | cons a b => exact .cons (Dp.l2 d _ a) (DpAll.l2 ds _ b)
end
theorem seqT {K : PySem.W.Frag} {H H' : Hp} {a : Addr} {xs : List V} (e : Same H H') (h : SqT K H a xs) : SqT K H' a xs := by
  rcases h with (h | ⟨o, h⟩) | h
  · exact .inl (.inl (e _ _ h))
  · exact .inl (.inr ⟨o, e _ _ h⟩)
  · exact .inr h
mutual
theorem dp_mono {K : PySem.W.Frag} {H H' : Hp} (h : Same H H') : ∀ (d : D) (v : V), Dp K H v d → Dp K H' v d
  | .none, _, x => by cases x; exact .non
  | .bool _, _, x => by cases x; exact .bl _
  | .int _, _, x => by cases x; exact .int _
  | .str _, _, x => by cases x; exact .str _
  | .list ds, _, x => by
    cases x with
    | lst hs ha => exact .lst (h.seq hs) (dpAll_mono h ds _ ha)
  | .tuple ds, _, x => by
    cases x with
    | tup hs ha => exact .tup (hs.same h) (dpAll_mono h ds _ ha)
  | .dict _, _, x => by cases x
theorem dpAll_mono {K : PySem.W.Frag} {H H' : Hp} (h : Same H H') : ∀ (ds : List D) (vs : List V), DpAll K H vs ds → DpAll K H' vs ds
  | [], _, x => by cases x; exact .nil
  | d :: ds, _, x => by
    cases x with
    | cons a b => exact .cons (dp_mono h d _ a) (dpAll_mono h ds _ b)
end
theorem _root_.L2.Same.dp {K : PySem.W.Frag} {H H' : Hp} (h : Same H H') {d : D} {v : V} (x : Dp K H v d) : Dp K H' v d := dp_mono h d v x
theorem _root_.L2.Same.dps {K : PySem.W.Frag} {H H' : Hp} (h : Same H H') {ds : List D} {vs : List V} (x : DpAll K H vs ds) : DpAll K H' vs ds := dpAll_mono h ds vs x
section
variable {K : PySem.W.Frag} {H : Hp}
theorem dps_length : ∀ {vs : List V} {ds : List D}, DpAll K H vs ds → vs.length = ds.length
  | _, _, .nil => rfl
  | _, _, .cons _ t => by rw [List.length_cons, List.length_cons, dps_length t]
theorem dps_append : ∀ {vs ws : List V} {ds es : List D}, DpAll K H vs ds → DpAll K H ws es → DpAll K H (vs ++ ws) (ds ++ es)
  | _, _, _, _, .nil, s => s
  | _, _, _, _, .cons r t, s => .cons r (dps_append t s)
theorem dps_one {v : V} {d : D} (h : Dp K H v d) : DpAll K H [v] [d] := .cons h .nil
theorem dps_get : ∀ {vs : List V} {ds : List D} {i : Nat} {d : D}, DpAll K H vs ds → ds[i]? = some d → ∃ v, vs[i]? = some v ∧ Dp K H v d
  | _, _, _, _, .nil, e => by simp at e
  | _, _, 0, _, .cons r _, e => by simp at e; subst e; exact ⟨_, rfl, r⟩
  | _, _, i + 1, d, .cons _ t, e => by
    obtain ⟨v, h1, h2⟩ := dps_get (i := i) (d := d) t (by simpa using e)
    exact ⟨v, by simpa using h1, h2⟩
theorem dps_take : ∀ {vs : List V} {ds : List D} (n : Nat), DpAll K H vs ds → DpAll K H (vs.take n) (ds.take n)
  | _, _, 0, _ => .nil
  | _, _, _ + 1, .nil => .nil
  | _, _, n + 1, .cons r t => .cons r (dps_take n t)
theorem dps_drop : ∀ {vs : List V} {ds : List D} (n : Nat), DpAll K H vs ds → DpAll K H (vs.drop n) (ds.drop n)
  | _, _, 0, r => r
  | _, _, _ + 1, .nil => .nil
  | _, _, n + 1, .cons _ t => dps_drop n t
theorem dps_set : ∀ {vs : List V} {ds : List D} {v : V} {d : D} (n : Nat), DpAll K H vs ds → Dp K H v d → DpAll K H (vs.set n v) (ds.set n d)
  | _, _, _, _, _, .nil, _ => .nil
  | _, _, _, _, 0, .cons _ t, q => .cons q t
  | _, _, _, _, n + 1, .cons r t, q => .cons r (dps_set n t q)
theorem dps_reverse : ∀ {vs : List V} {ds : List D}, DpAll K H vs ds → DpAll K H vs.reverse ds.reverse
  | _, _, .nil => .nil
  | _, _, .cons r t => by
    rw [List.reverse_cons, List.reverse_cons]
    exact dps_append (dps_reverse t) (dps_one r)
theorem dps_rep {vs : List V} {ds : List D} (h : DpAll K H vs ds) : ∀ n : Nat, DpAll K H (List.replicate n vs).flatten (List.replicate n ds).flatten
  | 0 => .nil
  | n + 1 => by
    rw [List.replicate_succ, List.replicate_succ, List.flatten_cons, List.flatten_cons]
    exact dps_append h (dps_rep h n)
theorem dps_dropLast {vs : List V} {ds : List D} (h : DpAll K H vs ds) : DpAll K H vs.dropLast ds.dropLast := by
  rw [List.dropLast_eq_take, List.dropLast_eq_take, dps_length h]
  exact dps_take _ h
theorem dps_ints : ∀ (ns : List Int), DpAll K H (ns.map V.int) (ns.map PyData.int)
  | [] => .nil
  | n :: ns => .cons (.int n) (dps_ints ns)
theorem dps_of_ints : ∀ {vs : List V} {ns : List Int}, DpAll K H vs (ns.map PyData.int) → vs = ns.map V.int
  | _, [], .nil => rfl
  | _, n :: ns, .cons r t => by
    cases r
    rw [List.map_cons, dps_of_ints t]
/-- no dict within -/
theorem dp_plain : ∀ {d : D} {v : V}, Dp K H v d → d.plain = true ∧ True := by
  intro d v h
  refine ⟨?_, trivial⟩
  refine Dp.rec (motive_1 := fun v d _ => d.plain = true) (motive_2 := fun vs ds _ => PyData.plainAll ds = true) ?_ ?_ ?_ ?_ ?_ ?_ ?_ ?_ h
  · rfl
  · intro _; rfl
  · intro _; rfl
  · intro _; rfl
  · intro _ _ _ _ _ ih; simpa [PyData.plain] using ih
  · intro _ _ _ _ _ ih; simpa [PyData.plain] using ih
  · rfl
  · intro _ _ _ _ _ _ h1 h2; simp [PyData.plainAll, h1, h2]
end

/-! ### what slots hold -/
inductive Ob where
  | lst (ds : List D)
  | dk (kvs : List (Key × D))
  | dn (kvs : List (NestedKey × D))
inductive SS where
  | un
  | fz (d : D)
  | ow (l : Bool) (o : Ob)
  /-- a dict that is not written again -/
  | fd (o : Ob)
abbrev Sl := List SS
inductive RV where
  | dt (d : D)
  | fr (o : Ob)
inductive Out where
  | nx (S : Sl)
  | rt (r : RV) (S : Sl)
  | bk (S : Sl)
  | ct (S : Sl)
/-- a def's entry: the heap, what is lent, what the result must not touch, the arguments -/
structure Cc where
  H0 : Hp
  L0 : AP
  Z0 : AP
  vs0 : List V

section
variable (P : Program) (w : World) (K : PySem.W.Frag)
/-- a dict whose keys are tuples, by its entries -/
def rawD (a : Addr) (xs : List (NestedKey × Addr × Value)) : HO := .ext fun h => (a == sysModules) = false ∧ xs.length ≤ sizeLine ∧ (xs.map (·.1)).Nodup ∧ (∀ x ∈ xs, x.1.depth ≤ 8) ∧
  ∃ o es ep, h.get? a = some o ∧ o.ExactDict ∧ o.data = .dict es ep ∧ es.toList = xs.map (entryOfKey (nestedKind P w))
def ObAt (G H : Hp) (a : Addr) : Ob → Prop
  | .lst ds => ∃ xs, H a = some (.lst xs) ∧ DpAll K G xs ds
  | .dk kvs => ∃ ks, H a = some (.dK ks) ∧ Paired (fun (p : Key × V) (q : Key × D) => p.1 = q.1 ∧ Dp K G p.2 q.2) ks kvs
  | .dn kvs => ∃ xs, H a = some (rawD P w a xs) ∧ Paired (fun (x : NestedKey × Addr × Value) (q : NestedKey × D) => x.1 = q.1 ∧ Dp K G (.ref x.2.1) x.1.data ∧ ∃ v, RelV v x.2.2 ∧ Dp K G v q.2) xs kvs
def ObFz (G : Hp) (a : Addr) : Ob → Prop
  | .lst _ => False
  | .dk kvs => ∃ od ks, G a = some (.frz od (.dK ks)) ∧ Paired (fun (p : Key × V) (q : Key × D) => p.1 = q.1 ∧ Dp K G p.2 q.2) ks kvs
  | .dn kvs => ∃ od xs, G a = some (.frz od (rawD P w a xs)) ∧ Paired (fun (x : NestedKey × Addr × Value) (q : NestedKey × D) => x.1 = q.1 ∧ Dp K G (.ref x.2.1) x.1.data ∧ ∃ v, RelV v x.2.2 ∧ Dp K G v q.2) xs kvs
def SlotAt (c : Cc) (G H : Hp) (W : AP) (i : Nat) (v : Option (Option V)) : SS → Prop
  | .un => True
  | .fd o => ∃ a, v = some (some (.ref a)) ∧ ObFz P w K G a o
  | .fz d => ∃ x, v = some (some x) ∧ Dp K G x d
  | .ow l o => ∃ a, v = some (some (.ref a)) ∧ W a ∧ ObAt P w K G H a o ∧ (if l = true then c.vs0[i]? = some (.ref a) ∧ c.L0 a else c.H0 a = none)
structure Rep (c : Cc) (S : Sl) (W : AP) (σ : St) (H : Hp) : Prop where
  len : S.length = σ.length
  slot : ∀ (i : Nat) (s : SS), S[i]? = some s → SlotAt P w K c (hid W H) H W i σ[i]? s
  dist : ∀ (i j : Nat) (a : Addr) (l : Bool) (o : Ob) (l' : Bool) (o' : Ob), i ≠ j → S[i]? = some (.ow l o) → S[j]? = some (.ow l' o') → σ[i]? = some (some (.ref a)) → σ[j]? ≠ some (some (.ref a))
  z0 : ∀ a, c.Z0 a → W a
  zh : ∀ a, c.Z0 a → ∃ o, c.H0 a = some o
  lz : ∀ a, c.L0 a → c.Z0 a
  al : ∀ a, W a → ∃ o, H a = some o
  ent : ∀ a o, c.H0 a = some o → ¬ c.L0 a → H a = some o
end

section
variable {P : Program} {w : World} {K : PySem.W.Frag} {c : Cc} {S : Sl} {W W' : AP} {σ : St} {H H' : Hp} {a : Addr} {i : Nat}
theorem ObAt.move {G G' : Hp} {o : Ob} (h : ObAt P w K G H a o) (hg : Same G G') (ho : ∀ u, H a = some u → H' a = some u) : ObAt P w K G' H' a o := by
  cases o with
  | lst ds =>
    obtain ⟨xs, e, x⟩ := h
    exact ⟨xs, ho _ e, hg.dps x⟩
  | dk kvs =>
    obtain ⟨ks, e, x⟩ := h
    exact ⟨ks, ho _ e, Paired.mapP x fun _ _ z => ⟨z.1, hg.dp z.2⟩⟩
  | dn kvs =>
    obtain ⟨xs, e, x⟩ := h
    exact ⟨xs, ho _ e, Paired.mapP x fun _ _ z => ⟨z.1, hg.dp z.2.1, z.2.2.elim fun v q => ⟨v, q.1, hg.dp q.2⟩⟩⟩
theorem ObAt.there {G : Hp} {o : Ob} (h : ObAt P w K G H a o) : ∃ u, H a = some u := by
  cases o with
  | lst ds => exact ⟨_, h.choose_spec.1⟩
  | dk kvs => exact ⟨_, h.choose_spec.1⟩
  | dn kvs => exact ⟨_, h.choose_spec.1⟩
theorem ObFz.move {G G' : Hp} {o : Ob} (h : ObFz P w K G a o) (hg : Same G G') : ObFz P w K G' a o := by
  cases o with
  | lst ds => exact h
  | dk kvs =>
    obtain ⟨od, ks, e, x⟩ := h
    exact ⟨od, ks, hg _ _ e, Paired.mapP x fun _ _ z => ⟨z.1, hg.dp z.2⟩⟩
  | dn kvs =>
    obtain ⟨od, xs, e, x⟩ := h
    exact ⟨od, xs, hg _ _ e, Paired.mapP x fun _ _ z => ⟨z.1, hg.dp z.2.1, z.2.2.elim fun v q => ⟨v, q.1, hg.dp q.2⟩⟩⟩
/-- the heap and what is owned have changed, no owned object has -/
theorem Rep.move (R : Rep P w K c S W σ H) (h : Same (hid W H) (hid W' H')) (ho : ∀ a o, W a → H a = some o → H' a = some o ∧ W' a) (z : ∀ a, W' a → ∃ o, H' a = some o) : Rep P w K c S W' σ H' := by
  refine ⟨R.len, fun i s e => ?_, R.dist, fun a q => ?_, R.zh, R.lz, z, fun a o q n => ?_⟩
  · have q := R.slot i s e
    cases s with
    | un => trivial
    | fz d =>
      obtain ⟨x, e1, e2⟩ := q
      exact ⟨x, e1, h.dp e2⟩
    | fd o =>
      obtain ⟨x, e1, e2⟩ := q
      exact ⟨x, e1, e2.move h⟩
    | ow l o =>
      obtain ⟨a, e1, e2, e3, e4⟩ := q
      obtain ⟨u, hu⟩ := e3.there
      exact ⟨a, e1, (ho a u e2 hu).2, e3.move h fun u' hu' => (ho a u' e2 hu').1, e4⟩
  · obtain ⟨o, q'⟩ := R.al a (R.z0 a q)
    exact (ho a o (R.z0 a q) q').2
  · have q' := R.ent a o q n
    by_cases hw : W a
    · exact (ho a o hw q').1
    · exact (hid_some.mp (h a o (hid_some.mpr ⟨hw, q'⟩))).2
theorem Rep.laid {p : Addr} {o : HO} (R : Rep P w K c S W σ H) (h : H p = none) : Rep P w K c S W σ (upd H p o) :=
  R.move (hid_laid h) (fun a u hw e => ⟨by rw [upd_ne (ne_of_none e h)]; exact e, hw⟩) fun a hw => by
    obtain ⟨u, e⟩ := R.al a hw
    exact ⟨u, by rw [upd_ne (ne_of_none e h)]; exact e⟩
theorem Rep.laidW {p : Addr} {o : HO} (R : Rep P w K c S W σ H) (h : H p = none) : Rep P w K c S (addW W p) σ (upd H p o) :=
  R.move (hid_laidW h) (fun a u hw e => ⟨by rw [upd_ne (ne_of_none e h)]; exact e, .inl hw⟩) fun a hw => by
    rcases hw with hw | rfl
    · obtain ⟨u, e⟩ := R.al a hw
      exact ⟨u, by rw [upd_ne (ne_of_none e h)]; exact e⟩
    · exact ⟨o, upd_same⟩
/-- new addresses stand in no slot -/
theorem Rep.newFree {p : Addr} (R : Rep P w K c S W σ H) (h : H p = none) : ∀ (i : Nat) (l : Bool) (o : Ob), S[i]? = some (.ow l o) → σ[i]? ≠ some (some (.ref p)) := fun i l o e q => by
  obtain ⟨a, e1, e2, e3, _⟩ := R.slot i _ e
  rw [e1] at q
  cases q
  obtain ⟨u, hu⟩ := R.al _ e2
  rw [h] at hu
  cases hu
theorem Rep.new0 {p : Addr} (R : Rep P w K c S W σ H) (h : H p = none) : c.H0 p = none := by
  cases q : c.H0 p with
  | none => rfl
  | some o =>
    by_cases hl : c.L0 p
    · obtain ⟨u, hu⟩ := R.al p (R.z0 p (R.lz p hl))
      rw [h] at hu
      cases hu
    · rw [R.ent p o q hl] at h
      cases h
theorem Rep.lt (R : Rep P w K c S W σ H) {s : SS} (e : S[i]? = some s) : i < σ.length := by
  rw [← R.len]
  exact (List.getElem?_eq_some_iff.mp e).1
/-- a slot gets data -/
theorem Rep.setfz {v : V} {d : D} (R : Rep P w K c S W σ H) (x : Dp K (hid W H) v d) : Rep P w K c (S.set i (.fz d)) W (σ.set i (some v)) H := by
  refine ⟨by simpa using R.len, fun j s e => ?_, fun j k a l o l' o' hne e1 e2 e3 e4 => ?_, R.z0, R.zh, R.lz, R.al, R.ent⟩
  · by_cases hj : j = i
    · subst hj
      have hl : j < S.length := by
        have := (List.getElem?_eq_some_iff.mp e).1
        simpa using this
      rw [List.getElem?_set_self hl] at e
      cases e
      rw [List.getElem?_set_self (by rw [← R.len]; exact hl)]
      exact ⟨v, rfl, x⟩
    · rw [List.getElem?_set_ne (Ne.symm hj)] at e ⊢
      exact R.slot j s e
  · have n1 : j ≠ i := fun z => by
      subst z
      by_cases hl : j < S.length
      · rw [List.getElem?_set_self hl] at e1
        cases e1
      · rw [List.getElem?_eq_none (by simpa using hl)] at e1
        cases e1
    have n2 : k ≠ i := fun z => by
      subst z
      by_cases hl : k < S.length
      · rw [List.getElem?_set_self hl] at e2
        cases e2
      · rw [List.getElem?_eq_none (by simpa using hl)] at e2
        cases e2
    rw [List.getElem?_set_ne (Ne.symm n1)] at e1 e3
    rw [List.getElem?_set_ne (Ne.symm n2)] at e2 e4
    exact R.dist j k a l o l' o' hne e1 e2 e3 e4
/-- a slot gets an object of its own -/
theorem Rep.setow {o : Ob} (R : Rep P w K c S W σ H) (hw : W a) (hf : ∀ (i : Nat) (l : Bool) (o : Ob), S[i]? = some (.ow l o) → σ[i]? ≠ some (some (.ref a))) (ho : ObAt P w K (hid W H) H a o) (h0 : c.H0 a = none) :
    Rep P w K c (S.set i (.ow false o)) W (σ.set i (some (.ref a))) H := by
  refine ⟨by simpa using R.len, fun j s e => ?_, fun j k b l u l' u' hne e1 e2 e3 e4 => ?_, R.z0, R.zh, R.lz, R.al, R.ent⟩
  · by_cases hj : j = i
    · subst hj
      have hl : j < S.length := by
        have := (List.getElem?_eq_some_iff.mp e).1
        simpa using this
      rw [List.getElem?_set_self hl] at e
      cases e
      rw [List.getElem?_set_self (by rw [← R.len]; exact hl)]
      exact ⟨a, rfl, hw, ho, by rw [if_neg (by decide)]; exact h0⟩
    · rw [List.getElem?_set_ne (Ne.symm hj)] at e ⊢
      exact R.slot j s e
  · by_cases n1 : j = i
    · have n2 : k ≠ i := fun z => hne (n1.trans z.symm)
      subst n1
      have hl : j < S.length := by
        have := (List.getElem?_eq_some_iff.mp e1).1
        simpa using this
      rw [List.getElem?_set_self (by rw [← R.len]; exact hl)] at e3
      cases e3
      rw [List.getElem?_set_ne (Ne.symm n2)] at e2 e4
      exact hf k l' u' e2 e4
    · rw [List.getElem?_set_ne (Ne.symm n1)] at e1 e3
      by_cases n2 : k = i
      · subst n2
        have hl : k < S.length := by
          have := (List.getElem?_eq_some_iff.mp e2).1
          simpa using this
        rw [List.getElem?_set_self (by rw [← R.len]; exact hl)] at e4
        cases e4
        exact hf j l u e1 e3
      · rw [List.getElem?_set_ne (Ne.symm n2)] at e2 e4
        exact R.dist j k b l u l' u' hne e1 e2 e3 e4
/-- an owned object is changed -/
theorem Rep.write {l0 : Bool} {o o' : Ob} {ho : HO} (R : Rep P w K c S W σ H) (e : S[i]? = some (.ow l0 o)) (hs : σ[i]? = some (some (.ref a))) (hn : ObAt P w K (hid W H) (upd H a ho) a o') :
    Rep P w K c (S.set i (.ow l0 o')) W σ (upd H a ho) := by
  obtain ⟨b, e1, e2, e3, e4⟩ := R.slot i _ e
  rw [hs] at e1
  cases e1
  have hg : hid W (upd H a ho) = hid W H := hid_upd_own e2
  refine ⟨by simpa using R.len, fun j s q => ?_, fun j k b l u l' u' hne q1 q2 q3 q4 => ?_, R.z0, R.zh, R.lz, fun b q => ?_, fun b u q n => ?_⟩
  · rw [hg]
    by_cases hj : j = i
    · subst hj
      rw [List.getElem?_set_self (by rw [R.len]; exact R.lt e)] at q
      cases q
      exact ⟨a, hs, e2, hn, e4⟩
    · rw [List.getElem?_set_ne (Ne.symm hj)] at q
      have z := R.slot j s q
      cases s with
      | un => trivial
      | fz d => exact z
      | fd o => exact z
      | ow l' u =>
        obtain ⟨b, z1, z2, z3, z4⟩ := z
        have hne : b ≠ a := fun y => by
          subst y
          exact R.dist j i b _ _ _ _ hj q e z1 hs
        exact ⟨b, z1, z2, z3.move (Same.refl _) fun u' hu' => by rw [upd_ne hne]; exact hu', z4⟩
  · have get : ∀ {j : Nat} {l : Bool} {u : Ob}, (S.set i (.ow l0 o'))[j]? = some (.ow l u) → ∃ l'' u'', S[j]? = some (.ow l'' u'') := fun {j l u} q => by
      by_cases hj : j = i
      · subst hj
        exact ⟨_, _, e⟩
      · rw [List.getElem?_set_ne (Ne.symm hj)] at q
        exact ⟨_, _, q⟩
    obtain ⟨_, _, r1⟩ := get q1
    obtain ⟨_, _, r2⟩ := get q2
    exact R.dist j k b _ _ _ _ hne r1 r2 q3 q4
  · by_cases hb : b = a
    · subst hb
      exact ⟨ho, upd_same⟩
    · obtain ⟨u, q'⟩ := R.al b q
      exact ⟨u, by rw [upd_ne hb]; exact q'⟩
  · have hne : b ≠ a := fun y => by
      subst y
      split at e4
      · exact n e4.2
      · rw [q] at e4
        cases e4
    rw [upd_ne hne]
    exact R.ent b u q n
/-- an owned list becomes data -/
theorem Rep.freeze {ds : List D} (R : Rep P w K c S W σ H) (e : S[i]? = some (.ow false (.lst ds))) (hs : σ[i]? = some (some (.ref a))) :
    Rep P w K c (S.set i (.fz (.list ds))) (delW W a) σ H ∧ Same (hid W H) (hid (delW W a) H) ∧ Dp K (hid (delW W a) H) (.ref a) (.list ds) := by
  obtain ⟨b, e1, e2, e3, e4⟩ := R.slot i _ e
  rw [hs] at e1
  cases e1
  rw [if_neg (by decide)] at e4
  have hsm : Same (hid W H) (hid (delW W a) H) := hid_anti fun b z => z.1
  obtain ⟨xs, q1, q2⟩ := e3
  have hd : Dp K (hid (delW W a) H) (.ref a) (.list ds) := .lst (.inl (.inl (hid_some.mpr ⟨fun z => z.2 rfl, q1⟩))) (hsm.dps q2)
  refine ⟨⟨by simpa using R.len, fun j s q => ?_, fun j k b l u l' u' hne q1 q2 q3 q4 => ?_, fun b q => ⟨R.z0 b q, fun y => ?_⟩, R.zh, R.lz, fun b q => R.al b q.1, R.ent⟩, hsm, hd⟩
  · by_cases hj : j = i
    · subst hj
      rw [List.getElem?_set_self (by rw [R.len]; exact R.lt e)] at q
      cases q
      exact ⟨_, hs, hd⟩
    · rw [List.getElem?_set_ne (Ne.symm hj)] at q
      have z := R.slot j s q
      cases s with
      | un => trivial
      | fz d =>
        obtain ⟨x, z1, z2⟩ := z
        exact ⟨x, z1, hsm.dp z2⟩
      | fd o =>
        obtain ⟨x, z1, z2⟩ := z
        exact ⟨x, z1, z2.move hsm⟩
      | ow l' u =>
        obtain ⟨b, z1, z2, z3, z4⟩ := z
        have hne : b ≠ a := fun y => by
          subst y
          exact R.dist j i b _ _ _ _ hj q e z1 hs
        exact ⟨b, z1, ⟨z2, hne⟩, z3.move hsm fun u' hu' => hu', z4⟩
  · have get : ∀ {j : Nat} {l : Bool} {u : Ob}, (S.set i (.fz (.list ds)))[j]? = some (.ow l u) → S[j]? = some (.ow l u) := fun {j l u} q => by
      by_cases hj : j = i
      · subst hj
        rw [List.getElem?_set_self (by rw [R.len]; exact R.lt e)] at q
        cases q
      · rw [List.getElem?_set_ne (Ne.symm hj)] at q
        exact q
    exact R.dist j k b _ _ _ _ hne (get q1) (get q2) q3 q4
  · subst y
    obtain ⟨u, z⟩ := R.zh b q
    rw [z] at e4
    cases e4
/-- slots are forgotten -/
def unS (S : Sl) : List Nat → Sl
  | [] => S
  | i :: is => (unS S is).set i .un
theorem unS_length (S : Sl) : ∀ is : List Nat, (unS S is).length = S.length
  | [] => rfl
  | i :: is => by unfold unS; rw [List.length_set, unS_length S is]
theorem unS_get (S : Sl) {j : Nat} {s : SS} : ∀ {is : List Nat}, (unS S is)[j]? = some s → s = .un ∨ (S[j]? = some s ∧ j ∉ is)
  | [], e => .inr ⟨e, by simp⟩
  | i :: is, e => by
    unfold unS at e
    by_cases hj : i = j
    · subst hj
      by_cases hl : i < (unS S is).length
      · rw [List.getElem?_set_self hl] at e
        cases e
        exact .inl rfl
      · rw [List.getElem?_eq_none (by simpa using hl)] at e
        cases e
    · rw [List.getElem?_set_ne hj] at e
      rcases unS_get S e with h | ⟨h1, h2⟩
      · exact .inl h
      · exact .inr ⟨h1, by simp only [List.mem_cons, not_or]; exact ⟨fun z => hj z.symm, h2⟩⟩
theorem Rep.forget (R : Rep P w K c S W σ H) (is : List Nat) : Rep P w K c (unS S is) W σ H := by
  refine ⟨(unS_length S is).trans R.len, fun j s q => ?_, fun j k b l u l' u' hne q1 q2 q3 q4 => ?_, R.z0, R.zh, R.lz, R.al, R.ent⟩
  · rcases unS_get S q with rfl | ⟨q, _⟩
    · trivial
    · exact R.slot j s q
  · rcases unS_get S q1 with h | ⟨r1, _⟩
    · cases h
    · rcases unS_get S q2 with h | ⟨r2, _⟩
      · cases h
      · exact R.dist j k b _ _ _ _ hne r1 r2 q3 q4
/-- .. and their values too -/
theorem Rep.wiped (R : Rep P w K c S W σ H) (is : List Nat) : Rep P w K c (unS S is) W (wipe σ is) H := by
  have keep : ∀ {j : Nat}, j ∉ is → (wipe σ is)[j]? = σ[j]? := fun {j} h => wipe_out h
  refine ⟨(unS_length S is).trans (R.len.trans (wipe_length σ is).symm), fun j s q => ?_, fun j k b l u l' u' hne q1 q2 q3 q4 => ?_, R.z0, R.zh, R.lz, R.al, R.ent⟩
  · rcases unS_get S q with rfl | ⟨q, hn⟩
    · trivial
    · rw [keep hn]
      exact R.slot j s q
  · rcases unS_get S q1 with h | ⟨r1, n1⟩
    · cases h
    · rcases unS_get S q2 with h | ⟨r2, n2⟩
      · cases h
      · rw [keep n1] at q3
        rw [keep n2] at q4
        exact R.dist j k b _ _ _ _ hne r1 r2 q3 q4
/-- back from wiped values -/
theorem Rep.unwiped {is : List Nat} (R : Rep P w K c S W (wipe σ is) H) : Rep P w K c (unS S is) W σ H := by
  have keep : ∀ {j : Nat}, j ∉ is → (wipe σ is)[j]? = σ[j]? := fun {j} h => wipe_out h
  refine ⟨(unS_length S is).trans (R.len.trans (wipe_length σ is)), fun j s q => ?_, fun j k b l u l' u' hne q1 q2 q3 q4 => ?_, R.z0, R.zh, R.lz, R.al, R.ent⟩
  · rcases unS_get S q with rfl | ⟨q, hn⟩
    · trivial
    · rw [← keep hn]
      exact R.slot j s q
  · rcases unS_get S q1 with h | ⟨r1, n1⟩
    · cases h
    · rcases unS_get S q2 with h | ⟨r2, n2⟩
      · cases h
      · rw [← keep n1] at q3
        rw [← keep n2] at q4
        exact R.dist j k b _ _ _ _ hne r1 r2 q3 q4
end
end VD
/-! VD2: judgements, expressions. -/
namespace VD
open PySem PySem.Spec PyProof.Rows L2

/-! ### weakening -/
theorem pe_imp {X : Cx} {e : Expr} {t t' : TE} (h : PE X e t) (hi : ∀ σ H Q, t' σ H Q → t σ H Q) : PE X e t' := ⟨fun pins s σ H Q I q => h.run pins s σ H Q I (hi _ _ _ q)⟩
theorem pt_imp {X : Cx} {e : Expr} {t t' : TT} (h : PT X e t) (hi : ∀ σ H Q, t' σ H Q → t σ H Q) : PT X e t' := ⟨fun pins s σ H Q I q => h.run pins s σ H Q I (hi _ _ _ q)⟩
theorem pts_imp {X : Cx} {e : List Expr} {t t' : TT} (h : PTs X e t) (hi : ∀ σ H Q, t' σ H Q → t σ H Q) : PTs X e t' := ⟨fun pins s σ H Q I q => h.run pins s σ H Q I (hi _ _ _ q)⟩
theorem pw_imp {X : Cx} {e : Expr} {t t' : TT} (h : PW X e t) (hi : ∀ σ H Q, t' σ H Q → t σ H Q) : PW X e t' := ⟨fun wh pins s σ H Q I q => h.run wh pins s σ H Q I (hi _ _ _ q)⟩
theorem pa_imp {X : Cx} {e : List Expr} {t t' : TA} (h : PA X e t) (hi : ∀ σ H Q, t' σ H Q → t σ H Q) : PA X e t' := ⟨fun pos pins s σ H Q I q => h.run pos pins s σ H Q I (hi _ _ _ q)⟩
theorem ps_imp {X : Cx} {e : Stmt} {t t' : TS} (h : PS X e t) (hi : ∀ D σ H, t' D σ H → t D σ H) : PS X e t' := ⟨fun pins s σ H D I q => h.run pins s σ H D I (hi _ _ _ q)⟩
theorem pss_imp {X : Cx} {e : List Stmt} {t t' : TS} (h : PSs X e t) (hi : ∀ D σ H, t' D σ H → t D σ H) : PSs X e t' := ⟨fun pins s σ H D I q => h.run pins s σ H D I (hi _ _ _ q)⟩
theorem pi_imp {X : Cx} {tg e : Expr} {t t' : TI} (h : PI X tg e t) (hi : ∀ σ H R, t' σ H R → t σ H R) : PI X tg e t' := ⟨fun pins s σ H R I q => h.run pins s σ H R I (hi _ _ _ q)⟩
theorem pg_imp {X : Cx} {tg : Expr} {t t' : TG} (h : PG X tg t) (hi : ∀ v σ H Q, t' v σ H Q → t v σ H Q) : PG X tg t' := ⟨fun pins s σ H v u Q I r q => h.run pins s σ H v u Q I r (hi _ _ _ _ q)⟩

structure Fit (X : Cx) : Prop where
  calm : X.calm = true
  nd : X.N.Nodup
  un : X.A.units + 200 < cLine
  hd : X.A.handled = none

/-! ### what is readable now: data, or an owned list -/
def DpB (K : PySem.W.Frag) (W : AP) (H : Hp) (v : V) (d : D) : Prop := Dp K (hid W H) v d ∨ ∃ a xs ds, v = .ref a ∧ d = .list ds ∧ H a = some (.lst xs) ∧ DpAll K (hid W H) xs ds
theorem DpB.list {K : PySem.W.Frag} {W : AP} {H : Hp} {v : V} {ds : List D} (h : DpB K W H v (.list ds)) : ∃ a xs, v = .ref a ∧ SqL K H a xs ∧ DpAll K (hid W H) xs ds := by
  rcases h with h | ⟨a, xs, es, rfl, e, h1, h2⟩
  · cases h with
    | lst hs ha => exact ⟨_, _, rfl, hid_sub.seq hs, ha⟩
  · cases e
    exact ⟨a, xs, rfl, .inl (.inl h1), h2⟩
theorem DpB.tuple {K : PySem.W.Frag} {W : AP} {H : Hp} {v : V} {ds : List D} (h : DpB K W H v (.tuple ds)) : ∃ a xs, v = .ref a ∧ SqT K H a xs ∧ DpAll K (hid W H) xs ds := by
  rcases h with h | ⟨a, xs, es, rfl, e, h1, h2⟩
  · cases h with
    | tup hs ha => exact ⟨_, _, rfl, seqT hid_sub hs.sq, ha⟩
  · cases e
theorem DpB.tupleAt {K : PySem.W.Frag} {W : AP} {H : Hp} {v : V} {ds : List D} (h : DpB K W H v (.tuple ds)) : ∃ a xs, v = .ref a ∧ TupAt K H a xs ∧ DpAll K (hid W H) xs ds := by
  rcases h with h | ⟨a, xs, es, rfl, e, h1, h2⟩
  · cases h with
    | tup hs ha => exact ⟨_, _, rfl, hs.same hid_sub, ha⟩
  · cases e
theorem DpB.str {K : PySem.W.Frag} {W : AP} {H : Hp} {v : V} {x : Str} (h : DpB K W H v (.str x)) : v = .str x := by
  rcases h with h | ⟨a, xs, es, rfl, e, h1, h2⟩
  · cases h; rfl
  · cases e
theorem DpB.int {K : PySem.W.Frag} {W : AP} {H : Hp} {v : V} {x : Int} (h : DpB K W H v (.int x)) : v = .int x := by
  rcases h with h | ⟨a, xs, es, rfl, e, h1, h2⟩
  · cases h; rfl
  · cases e
theorem DpB.bool {K : PySem.W.Frag} {W : AP} {H : Hp} {v : V} {x : Bool} (h : DpB K W H v (.bool x)) : v = .bl x := by
  rcases h with h | ⟨a, xs, es, rfl, e, h1, h2⟩
  · cases h; rfl
  · cases e
/-- .. in the whole heap -/
theorem DpB.dp {K : PySem.W.Frag} {W : AP} {H : Hp} {v : V} {d : D} (h : DpB K W H v d) : Dp K H v d := by
  rcases h with h | ⟨a, xs, es, rfl, rfl, h1, h2⟩
  · exact hid_sub.dp h
  · exact .lst (.inl (.inl h1)) (hid_sub.dps h2)

/-- what an expression keeps: what is visible, and owned objects that no slot owns; slots only lose what they own -/
structure Ks (σ : St) (S : Sl) (W : AP) (H : Hp) (S' : Sl) (W' : AP) (H' : Hp) : Prop where
  vis : Same (hid W H) (hid W' H')
  sl : ∀ (i : Nat) (l : Bool) (o : Ob), S'[i]? = some (.ow l o) → ∃ l' o', S[i]? = some (.ow l' o')
  own : ∀ a u, W a → H a = some u → (∀ (i : Nat) (l : Bool) (o : Ob), S[i]? = some (.ow l o) → σ[i]? ≠ some (some (.ref a))) → H' a = some u ∧ W' a
  there : ∀ a u, H a = some u → ∃ u', H' a = some u'
theorem Ks.refl (σ : St) (S : Sl) (W : AP) (H : Hp) : Ks σ S W H S W H := ⟨Same.refl _, fun _ l o e => ⟨l, o, e⟩, fun _ _ h1 h2 _ => ⟨h2, h1⟩, fun _ u h => ⟨u, h⟩⟩
theorem Ks.rfl {σ : St} {S : Sl} {W : AP} {H : Hp} : Ks σ S W H S W H := Ks.refl σ S W H
theorem Ks.trans {σ : St} {S S1 S2 : Sl} {W W1 W2 : AP} {H H1 H2 : Hp} (a : Ks σ S W H S1 W1 H1) (b : Ks σ S1 W1 H1 S2 W2 H2) : Ks σ S W H S2 W2 H2 :=
  ⟨a.vis.trans b.vis, fun i l o e => let ⟨l', o', e'⟩ := b.sl i l o e; a.sl i l' o' e', fun p u h1 h2 h3 => by
    obtain ⟨q1, q2⟩ := a.own p u h1 h2 h3
    exact b.own p u q2 q1 fun i l o e => let ⟨l', o', e'⟩ := a.sl i l o e; h3 i l' o' e', fun p u h => let ⟨u', h'⟩ := a.there p u h; b.there p u' h'⟩
theorem Ks.laid {σ : St} {S : Sl} {W : AP} {H : Hp} {p : Addr} {o : HO} (h : H p = none) : Ks σ S W H S W (upd H p o) := ⟨hid_laid h, fun _ l o e => ⟨l, o, e⟩, fun a u h1 h2 _ => ⟨by rw [upd_ne (ne_of_none h2 h)]; exact h2, h1⟩, fun a u h2 => ⟨u, by rw [upd_ne (ne_of_none h2 h)]; exact h2⟩⟩
theorem Ks.laidW {σ : St} {S : Sl} {W : AP} {H : Hp} {p : Addr} {o : HO} (h : H p = none) : Ks σ S W H S (addW W p) (upd H p o) := ⟨hid_laidW h, fun _ l o e => ⟨l, o, e⟩, fun a u h1 h2 _ => ⟨by rw [upd_ne (ne_of_none h2 h)]; exact h2, .inl h1⟩, fun a u h2 => ⟨u, by rw [upd_ne (ne_of_none h2 h)]; exact h2⟩⟩
/-- what was not there ahead is not there -/
theorem Ks.was {σ : St} {S S' : Sl} {W W' : AP} {H H' : Hp} {p : Addr} (s : Ks σ S W H S' W' H') (h : H' p = none) : H p = none := by
  cases q : H p with
  | none => rfl
  | some o =>
    obtain ⟨u, hu⟩ := s.there p o q
    rw [h] at hu
    cases hu

/-! ### judgements -/
section
variable (P : Program) (w : World) (K : PySem.W.Frag) (c : Cc)
def RE (f : Sl → Option (D × Sl)) : TE := fun σ H Q => ∃ S W d S', Rep P w K c S W σ H ∧ f S = some (d, S') ∧ ∀ v H' W', Rep P w K c S' W' σ H' → Ks σ S W H S' W' H' → Dp K (hid W' H') v d → Q v H'
def RB (f : Sl → Option (D × Sl)) : TE := fun σ H Q => ∃ S W d S', Rep P w K c S W σ H ∧ f S = some (d, S') ∧ ∀ v H' W', Rep P w K c S' W' σ H' → Ks σ S W H S' W' H' → DpB K W' H' v d → Q v H'
def RT (f : Sl → Option (Bool × Sl)) : TT := fun σ H Q => ∃ S W b S', Rep P w K c S W σ H ∧ f S = some (b, S') ∧ ∀ H' W', Rep P w K c S' W' σ H' → Ks σ S W H S' W' H' → Q b H'
/-- a new object -/
def RF (f : Sl → Option (Ob × Sl)) : TE := fun σ H Q => ∃ S W o S', Rep P w K c S W σ H ∧ f S = some (o, S') ∧ ∀ a H' W', Rep P w K c S' W' σ H' → Ks σ S W H S' W' H' →
  H a = none → W' a → (∀ (i : Nat) (l : Bool) (o : Ob), S'[i]? = some (.ow l o) → σ[i]? ≠ some (some (.ref a))) → ObAt P w K (hid W' H') H' a o → c.H0 a = none → Q (.ref a) H'
/-- arguments: data, or the slot of an object that is lent -/
def ArgAt (G : Hp) (σ : St) (v : V) : D ⊕ Nat → Prop
  | .inl d => Dp K G v d
  | .inr i => σ[i]? = some (some v)
def RA (f : Sl → Option (List (D ⊕ Nat) × Sl)) : TA := fun σ H Q => ∃ S W as S', Rep P w K c S W σ H ∧ f S = some (as, S') ∧ ∀ vs H' W', Rep P w K c S' W' σ H' → Ks σ S W H S' W' H' → Paired (fun v a => ArgAt K (hid W' H') σ v a) vs as → Q vs H'
end
abbrev SE (X : Cx) (c : Cc) (e : Expr) (f : Sl → Option (D × Sl)) : Prop := PE X e (RE X.prog X.w X.K c f)
abbrev SB (X : Cx) (c : Cc) (e : Expr) (f : Sl → Option (D × Sl)) : Prop := PE X e (RB X.prog X.w X.K c f)
abbrev ST (X : Cx) (c : Cc) (e : Expr) (f : Sl → Option (Bool × Sl)) : Prop := PT X e (RT X.prog X.w X.K c f)
abbrev SW (X : Cx) (c : Cc) (e : Expr) (f : Sl → Option (Bool × Sl)) : Prop := PW X e (RT X.prog X.w X.K c f)
abbrev SF (X : Cx) (c : Cc) (e : Expr) (f : Sl → Option (Ob × Sl)) : Prop := PE X e (RF X.prog X.w X.K c f)
abbrev SA (X : Cx) (c : Cc) (es : List Expr) (f : Sl → Option (List (D ⊕ Nat) × Sl)) : Prop := PA X es (RA X.prog X.w X.K c f)

/-! ### semantic functions -/
def kC (d : D) : Sl → Option (D × Sl) := fun S => some (d, S)
/-- a slot as it may be read -/
def vw (S : Sl) (i : Nat) : Option D := match S[i]? with
  | some (.fz d) => some d
  | some (.ow _ (.lst ds)) => some (.list ds)
  | _ => none
def kB (i : Nat) : Sl → Option (D × Sl) := fun S => (vw S i).map fun d => (d, S)
/-- a slot's data (an owned list is then data for good) -/
def kV (i : Nat) : Sl → Option (D × Sl) := fun S => match S[i]? with
  | some (.fz d) => some (d, S)
  | some (.ow false (.lst ds)) => some (.list ds, S.set i (.fz (.list ds)))
  | _ => none
def k1 (g : D → Option D) (f : Sl → Option (D × Sl)) : Sl → Option (D × Sl) := fun S => (f S).bind fun r => (g r.1).bind fun d => some (d, r.2)
def k2 (g : D → D → Option D) (f1 f2 : Sl → Option (D × Sl)) : Sl → Option (D × Sl) := fun S => (f1 S).bind fun r => (f2 r.2).bind fun q => (g r.1 q.1).bind fun d => some (d, q.2)
/-- .. the first a slot that is read in place -/
def k2v (g : D → D → Option D) (i : Nat) (f2 : Sl → Option (D × Sl)) : Sl → Option (D × Sl) := fun S => (vw S i).bind fun _ => (f2 S).bind fun q => (vw q.2 i).bind fun x => (g x q.1).bind fun d => some (d, q.2)
/-- .. the second -/
def k2w (g : D → D → Option D) (f1 : Sl → Option (D × Sl)) (i : Nat) : Sl → Option (D × Sl) := fun S => (f1 S).bind fun r => (vw r.2 i).bind fun x => (g r.1 x).bind fun d => some (d, r.2)
def asBool : D → Option Bool
  | .bool b => some b
  | _ => none
def kT (f : Sl → Option (D × Sl)) : Sl → Option (Bool × Sl) := fun S => (f S).bind fun r => (asBool r.1).bind fun b => some (b, r.2)
def kNot (f : Sl → Option (Bool × Sl)) : Sl → Option (Bool × Sl) := fun S => (f S).bind fun r => some (!r.1, r.2)
def kAnd (f g : Sl → Option (Bool × Sl)) : Sl → Option (Bool × Sl) := fun S => (f S).bind fun r => if r.1 = true then g r.2 else some (false, r.2)
def kOr (f g : Sl → Option (Bool × Sl)) : Sl → Option (Bool × Sl) := fun S => (f S).bind fun r => if r.1 = true then some (true, r.2) else g r.2
/-- a test as a value -/
def kTV (f : Sl → Option (Bool × Sl)) : Sl → Option (D × Sl) := fun S => (f S).bind fun r => some (.bool r.1, r.2)
def kIf (t : Sl → Option (Bool × Sl)) (f g : Sl → Option (D × Sl)) : Sl → Option (D × Sl) := fun S => (t S).bind fun r => if r.1 = true then f r.2 else g r.2
def kFL (f : Sl → Option (Ob × Sl)) : Sl → Option (D × Sl) := fun S => (f S).bind fun r => match r.1 with
  | .lst ds => some (.list ds, r.2)
  | _ => none

section
variable {X : Cx} {c : Cc} {e a b : Expr} {f f1 f2 : Sl → Option (D × Sl)} {pos : Pos} {i : Nat}
theorem vw_get {P : Program} {w : World} {K : PySem.W.Frag} {S : Sl} {W : AP} {σ : St} {H : Hp} {d : D} (R : Rep P w K c S W σ H) (e : vw S i = some d) : ∃ v, σ[i]? = some (some v) ∧ DpB K W H v d := by
  unfold vw at e
  split at e
  · rename_i d' q
    cases e
    obtain ⟨x, e1, e2⟩ := R.slot i _ q
    exact ⟨x, e1, .inl e2⟩
  · rename_i l ds q
    cases e
    obtain ⟨x, e1, e2, ⟨xs, e3, e4⟩, _⟩ := R.slot i _ q
    exact ⟨_, e1, .inr ⟨x, xs, ds, rfl, rfl, e3, e4⟩⟩
  · cases e
theorem s_C {v : V} {d : D} (h : PE X e (tC v)) (hd : ∀ H, Dp X.K H v d) : SE X c e (kC d) := pe_imp h fun σ H Q ⟨S, W, d', S', R, e, k⟩ => by
  cases e
  exact k v H W R Ks.rfl (hd _)
theorem s_int {i j pos} : SE X c (.Constant (.int i) j pos) (kC (.int i)) := s_C pe_int fun _ => .int i
theorem s_bl {b j pos} : SE X c (.Constant (.bool b) j pos) (kC (.bool b)) := s_C pe_bl fun _ => .bl b
theorem s_non {j pos} : SE X c (.Constant .none j pos) (kC .none) := s_C pe_non fun _ => .non
theorem s_str {x j pos} : SE X c (.Constant (.str x) j pos) (kC (.str x)) := s_C pe_str fun _ => .str x
theorem b_v (h : PE X e (tVar i)) : SB X c e (kB i) := pe_imp h fun σ H Q ⟨S, W, d', S', R, e, k⟩ => by
  unfold kB at e
  cases q : vw S i with
  | none => rw [q] at e; cases e
  | some d =>
    rw [q] at e
    cases e
    obtain ⟨v, e1, e2⟩ := vw_get R q
    exact ⟨v, e1, k v H W R Ks.rfl e2⟩
theorem b_s (h : SE X c e f) : SB X c e f := pe_imp h fun σ H Q ⟨S, W, d', S', R, e, k⟩ => ⟨S, W, d', S', R, e, fun v H' W' R' s x => k v H' W' R' s (.inl x)⟩
theorem s_v (h : PE X e (tVar i)) : SE X c e (kV i) := pe_imp h fun σ H Q ⟨S, W, d', S', R, e, k⟩ => by
  unfold kV at e
  split at e
  · rename_i d q
    cases e
    obtain ⟨x, e1, e2⟩ := R.slot i _ q
    exact ⟨x, e1, k x H W R Ks.rfl e2⟩
  · rename_i ds q
    cases e
    obtain ⟨x, e1, _⟩ := R.slot i _ q
    obtain ⟨R', s, hd⟩ := R.freeze q e1
    refine ⟨_, e1, k _ H _ R' ⟨s, fun j l o e => ?_, fun a u h1 h2 h3 => ⟨h2, h1, fun z => ?_⟩, fun _ u h => ⟨u, h⟩⟩ hd⟩
    · by_cases hj : j = i
      · subst hj
        exact ⟨_, _, q⟩
      · rw [List.getElem?_set_ne (Ne.symm hj)] at e
        exact ⟨l, o, e⟩
    · subst z
      exact h3 i _ _ q e1
  · cases e
/-- a new list as data -/
theorem s_f {ff : Sl → Option (Ob × Sl)} (h : SF X c e ff) : SE X c e (kFL ff) := pe_imp h fun σ H Q ⟨S, W, d', S', R, e, k⟩ => by
  unfold kFL at e
  cases q : ff S with
  | none => rw [q] at e; cases e
  | some r =>
    obtain ⟨o, S1⟩ := r
    rw [q] at e
    cases o with
    | dk _ => cases e
    | dn _ => cases e
    | lst ds =>
      cases e
      refine ⟨S, W, _, _, R, q, fun p H' W' R' s hp0 hw hf ho h0 => ?_⟩
      have hsm : Same (hid W' H') (hid (delW W' p) H') := hid_anti fun b z => z.1
      obtain ⟨xs, q1, q2⟩ := ho
      refine k (.ref p) H' (delW W' p) ⟨R'.len, fun j t q => ?_, R'.dist, fun b q => ⟨R'.z0 b q, fun y => ?_⟩, R'.zh, R'.lz, fun b q => R'.al b q.1, R'.ent⟩ ⟨s.vis.trans hsm, s.sl, fun b u h1 h2 h3 => ⟨(s.own b u h1 h2 h3).1, (s.own b u h1 h2 h3).2, fun z => by rw [z, hp0] at h2; cases h2⟩, s.there⟩
        (.lst (.inl (.inl (hid_some.mpr ⟨fun z => z.2 rfl, q1⟩))) (hsm.dps q2))
      · have z := R'.slot j t q
        cases t with
        | un => trivial
        | fz d =>
          obtain ⟨x, z1, z2⟩ := z
          exact ⟨x, z1, hsm.dp z2⟩
        | fd o =>
          obtain ⟨x, z1, z2⟩ := z
          exact ⟨x, z1, z2.move hsm⟩
        | ow l' u =>
          obtain ⟨b, z1, z2, z3, z4⟩ := z
          have hne : b ≠ p := fun y => by
            subst y
            exact hf j _ _ q z1
          exact ⟨b, z1, ⟨z2, hne⟩, z3.move hsm fun u' hu' => hu', z4⟩
      · subst y
        obtain ⟨u, z⟩ := R'.zh b q
        rw [z] at h0
        cases h0

/-! ### one and two operands -/
/-- what is owned is there -/
def AlW (W : AP) (H : Hp) : Prop := ∀ a, W a → ∃ o, H a = some o
theorem AlW.no {W : AP} {H : Hp} {p : Addr} (h : AlW W H) (hp : H p = none) : ¬ W p := fun z => by
  obtain ⟨u, hu⟩ := h p z
  rw [hp] at hu
  cases hu
/-- an operation on readable values; the heap may grow -/
def rG1 (K : PySem.W.Frag) (g : D → Option D) : V → Hp → VK → Prop := fun x H Q => ∃ W d r, AlW W H ∧ DpB K W H x d ∧ g d = some r ∧ ∀ v H', (H' = H ∨ ∃ p o, H p = none ∧ H' = upd H p o) → Dp K (hid W H') v r → Q v H'
def rG2 (K : PySem.W.Frag) (g : D → D → Option D) : R2 := fun x y H Q => ∃ W d d' r, AlW W H ∧ DpB K W H x d ∧ DpB K W H y d' ∧ g d d' = some r ∧ ∀ v H', (H' = H ∨ ∃ p o, H p = none ∧ H' = upd H p o) → Dp K (hid W H') v r → Q v H'
theorem Rep.grown {P : Program} {w : World} {K : PySem.W.Frag} {S : Sl} {W : AP} {σ : St} {H H' : Hp} (R : Rep P w K c S W σ H) (h : H' = H ∨ ∃ p o, H p = none ∧ H' = upd H p o) : Rep P w K c S W σ H' ∧ Ks σ S W H S W H' := by
  rcases h with rfl | ⟨p, o, h, rfl⟩
  · exact ⟨R, Ks.rfl⟩
  · exact ⟨R.laid h, Ks.laid h⟩
theorem re_k1 {P : Program} {w : World} {K : PySem.W.Frag} {g : D → Option D} {σ : St} {H : Hp} {Q : VK} (h : RE P w K c (k1 g f) σ H Q) : RB P w K c f σ H fun x H1 => rG1 K g x H1 Q := by
  obtain ⟨S, W, d, S', R, e, k⟩ := h
  unfold k1 at e
  obtain ⟨⟨d1, S1⟩, e1, e⟩ := Option.bind_eq_some_iff.mp e
  obtain ⟨d2, e2, e⟩ := Option.bind_eq_some_iff.mp e
  cases e
  refine ⟨S, W, d1, S1, R, e1, fun v H1 W1 R1 s1 x1 => ⟨W1, d1, d, R1.al, x1, e2, fun v' H' hg hd => ?_⟩⟩
  obtain ⟨R2, s2⟩ := R1.grown hg
  exact k v' H' W1 R2 (s1.trans s2) hd
theorem DpB.same {K : PySem.W.Frag} {W W' : AP} {H H' : Hp} {v : V} {d : D} (h : Dp K (hid W H) v d) (s : Same (hid W H) (hid W' H')) : DpB K W' H' v d := .inl (s.dp h)
theorem re_k2 {P : Program} {w : World} {K : PySem.W.Frag} {g : D → D → Option D} {σ : St} {H : Hp} {Q : VK} (h : RE P w K c (k2 g f1 f2) σ H Q) : RE P w K c f1 σ H fun x H1 => RB P w K c f2 σ H1 fun y H2 => rG2 K g x y H2 Q := by
  obtain ⟨S, W, d, S', R, e, k⟩ := h
  unfold k2 at e
  obtain ⟨⟨d1, S1⟩, e1, e⟩ := Option.bind_eq_some_iff.mp e
  obtain ⟨⟨d2, S2⟩, e2, e⟩ := Option.bind_eq_some_iff.mp e
  obtain ⟨d3, e3, e⟩ := Option.bind_eq_some_iff.mp e
  cases e
  refine ⟨S, W, d1, S1, R, e1, fun v H1 W1 R1 s1 x1 => ⟨S1, W1, d2, S2, R1, e2, fun u H2 W2 R2 s2 x2 => ⟨W2, d1, d2, d, R2.al, .inl (s2.vis.dp x1), x2, e3, fun v' H' hg hd => ?_⟩⟩⟩
  obtain ⟨R3, s3⟩ := R2.grown hg
  exact k v' H' W2 R3 (s1.trans (s2.trans s3)) hd
theorem re_k2v {P : Program} {w : World} {K : PySem.W.Frag} {g : D → D → Option D} {σ : St} {H : Hp} {Q : VK} (h : RE P w K c (k2v g i f2) σ H Q) : tVar i σ H fun x H1 => RB P w K c f2 σ H1 fun y H2 => rG2 K g x y H2 Q := by
  obtain ⟨S, W, d, S', R, e, k⟩ := h
  unfold k2v at e
  obtain ⟨d0, e0, e⟩ := Option.bind_eq_some_iff.mp e
  obtain ⟨⟨d2, S2⟩, e2, e⟩ := Option.bind_eq_some_iff.mp e
  obtain ⟨d1, e1, e⟩ := Option.bind_eq_some_iff.mp e
  obtain ⟨d3, e3, e⟩ := Option.bind_eq_some_iff.mp e
  cases e
  obtain ⟨v, hv, _⟩ := vw_get R e0
  refine ⟨v, hv, S, W, d2, S2, R, e2, fun u H2 W2 R2 s2 x2 => ?_⟩
  obtain ⟨v', hv', x1⟩ := vw_get R2 e1
  rw [hv] at hv'
  cases hv'
  refine ⟨W2, d1, d2, d, R2.al, x1, x2, e3, fun v' H' hg hd => ?_⟩
  obtain ⟨R3, s3⟩ := R2.grown hg
  exact k v' H' W2 R3 (s2.trans s3) hd
theorem s_un {op : UnaryOp} {g : D → Option D} (ho : UnR X (unaryOp op) (rG1 X.K g)) (ha : SE X c a f) : SE X c (.UnaryOp op a pos) (k1 g f) := pe_imp (pe_un ho (b_s ha)) fun _ _ _ h => re_k1 h
theorem s_bin {op : Operator} {g : D → D → Option D} (ho : OpR X (binaryOp op) (rG2 X.K g)) (ha : SE X c a f1) (hb : SB X c b f2) : SE X c (.BinOp a op b pos) (k2 g f1 f2) := pe_imp (pe_op ho ha hb) fun _ _ _ h => re_k2 h
theorem s_binv {op : Operator} {g : D → D → Option D} (ho : OpR X (binaryOp op) (rG2 X.K g)) (ha : PE X a (tVar i)) (hb : SB X c b f2) : SE X c (.BinOp a op b pos) (k2v g i f2) := pe_imp (pe_op ho ha hb) fun _ _ _ h => re_k2v h
theorem s_cmp {op : CmpOp} {g : D → D → Option D} (ho : OpR X (compareOp op) (rG2 X.K g)) (ha : SE X c a f1) (hb : SB X c b f2) (hm : behindInMarks op b = false) : SE X c (.Compare a [op] [b] pos) (k2 g f1 f2) := pe_imp (pe_cmpR ho ha hb hm) fun _ _ _ h => re_k2 h
theorem s_cmpv {op : CmpOp} {g : D → D → Option D} (ho : OpR X (compareOp op) (rG2 X.K g)) (ha : PE X a (tVar i)) (hb : SB X c b f2) (hm : behindInMarks op b = false) : SE X c (.Compare a [op] [b] pos) (k2v g i f2) := pe_imp (pe_cmpR ho ha hb hm) fun _ _ _ h => re_k2v h
theorem s_ix {g : D → D → Option D} (ho : IxR X (rG2 X.K g)) (ha : SE X c a f1) (hb : SB X c b f2) (hs : PlainIx b) : SE X c (.Subscript a b pos) (k2 g f1 f2) := pe_imp (pe_ix ho ha hb hs) fun _ _ _ h => re_k2 h
theorem s_ixv {g : D → D → Option D} (ho : IxR X (rG2 X.K g)) (ha : PE X a (tVar i)) (hb : SB X c b f2) (hs : PlainIx b) : SE X c (.Subscript a b pos) (k2v g i f2) := pe_imp (pe_ix ho ha hb hs) fun _ _ _ h => re_k2v h

/-! ### tests -/
variable {t t1 t2 : Sl → Option (Bool × Sl)} {op : CmpOp} {r : R2}
theorem asBool_dp {K : PySem.W.Frag} {H : Hp} {v : V} {d : D} {k : Bool} (h : Dp K H v d) (e : asBool d = some k) : v = .bl k := by
  cases h <;> cases e
  rfl
theorem rt_kT {P : Program} {w : World} {K : PySem.W.Frag} {σ : St} {H : Hp} {Q : Bool → Hp → Prop} (h : RT P w K c (kT f) σ H Q) : RE P w K c f σ H fun x H1 => ∃ k, x = .bl k ∧ Q k H1 := by
  obtain ⟨S, W, d, S', R, e, k⟩ := h
  unfold kT at e
  obtain ⟨⟨d1, S1⟩, e1, e⟩ := Option.bind_eq_some_iff.mp e
  obtain ⟨d2, e2, e⟩ := Option.bind_eq_some_iff.mp e
  cases e
  exact ⟨S, W, d1, S1, R, e1, fun v H1 W1 R1 s1 x1 => ⟨_, asBool_dp x1 e2, k H1 W1 R1 s1⟩⟩
theorem t_s (h : SE X c e f) (he : ∀ whole, isTrue e X.env whole = (do let v ← whole; standAt e.pos; holding [v] (truthy v))) : ST X c e (kT f) := pt_imp (pt_val h he) fun _ _ _ h => rt_kT h
theorem t_cmp {g : D → D → Option D} (ho : OpR X (compareOp op) (rG2 X.K g)) (ha : SE X c a f1) (hb : SB X c b f2) (hm : behindInMarks op b = false) : ST X c (.Compare a [op] [b] pos) (kT (k2 g f1 f2)) := by
  refine pt_imp (pt_cmpR ho ha hb hm) fun σ H Q h => ?_
  exact re_k2 (rt_kT h)
theorem t_cmpv {g : D → D → Option D} (ho : OpR X (compareOp op) (rG2 X.K g)) (ha : PE X a (tVar i)) (hb : SB X c b f2) (hm : behindInMarks op b = false) : ST X c (.Compare a [op] [b] pos) (kT (k2v g i f2)) := by
  refine pt_imp (pt_cmpR ho ha hb hm) fun σ H Q h => ?_
  exact re_k2v (rt_kT h)
theorem t_not (ha : ST X c a t) : ST X c (.UnaryOp .Not a pos) (kNot t) := pt_imp (pt_not ha) fun σ H Q ⟨S, W, d, S', R, e, k⟩ => by
  unfold kNot at e
  obtain ⟨⟨d1, S1⟩, e1, e⟩ := Option.bind_eq_some_iff.mp e
  cases e
  exact ⟨S, W, d1, S1, R, e1, fun H1 W1 R1 s1 => k H1 W1 R1 s1⟩
theorem rt_and {P : Program} {w : World} {K : PySem.W.Frag} {σ : St} {H : Hp} {Q : Bool → Hp → Prop} (h : RT P w K c (kAnd t1 t2) σ H Q) : tAnd (RT P w K c t1) (RT P w K c t2) σ H Q := by
  obtain ⟨S, W, d, S', R, e, k⟩ := h
  unfold kAnd at e
  obtain ⟨⟨d1, S1⟩, e1, e⟩ := Option.bind_eq_some_iff.mp e
  refine ⟨S, W, d1, S1, R, e1, fun H1 W1 R1 s1 => ?_⟩
  cases d1 with
  | true => exact iteT ⟨S1, W1, d, S', R1, e, fun H2 W2 R2 s2 => k H2 W2 R2 (s1.trans s2)⟩
  | false =>
    cases e
    exact iteF (k H1 W1 R1 s1)
theorem rt_or {P : Program} {w : World} {K : PySem.W.Frag} {σ : St} {H : Hp} {Q : Bool → Hp → Prop} (h : RT P w K c (kOr t1 t2) σ H Q) : tOr (RT P w K c t1) (RT P w K c t2) σ H Q := by
  obtain ⟨S, W, d, S', R, e, k⟩ := h
  unfold kOr at e
  obtain ⟨⟨d1, S1⟩, e1, e⟩ := Option.bind_eq_some_iff.mp e
  refine ⟨S, W, d1, S1, R, e1, fun H1 W1 R1 s1 => ?_⟩
  cases d1 with
  | false => exact iteF ⟨S1, W1, d, S', R1, e, fun H2 W2 R2 s2 => k H2 W2 R2 (s1.trans s2)⟩
  | true =>
    cases e
    exact iteT (k H1 W1 R1 s1)
theorem w_and1 (ha : ST X c a t) : SW X c (.BoolOp .And [a] pos) t := pw_and1 ha
theorem w_or1 (ha : ST X c a t) : SW X c (.BoolOp .Or [a] pos) t := pw_or1 ha
theorem w_and {rest : List Expr} (ha : ST X c a t1) (hb : SW X c (.BoolOp .And (b :: rest) pos) t2) : SW X c (.BoolOp .And (a :: b :: rest) pos) (kAnd t1 t2) := pw_imp (pw_and ha hb) fun _ _ _ h => rt_and h
theorem w_or {rest : List Expr} (ha : ST X c a t1) (hb : SW X c (.BoolOp .Or (b :: rest) pos) t2) : SW X c (.BoolOp .Or (a :: b :: rest) pos) (kOr t1 t2) := pw_imp (pw_or ha hb) fun _ _ _ h => rt_or h
theorem t_w (h : SW X c e t) : ST X c e t := h.pt
/-- and, or of tests as values: each part a bool -/
def kAndV (f g : Sl → Option (D × Sl)) : Sl → Option (D × Sl) := fun S => (f S).bind fun r => (asBool r.1).bind fun k => if k = true then g r.2 else some (.bool false, r.2)
def kOrV (f g : Sl → Option (D × Sl)) : Sl → Option (D × Sl) := fun S => (f S).bind fun r => (asBool r.1).bind fun k => if k = true then some (.bool true, r.2) else g r.2
theorem s_one {op} (h : SE X c a f) : SE X c (.BoolOp op [a] pos) f := pe_one h
theorem s_and {rest : List Expr} (ha : SE X c a f1) (hb : SE X c (.BoolOp .And (b :: rest) pos) f2) : SE X c (.BoolOp .And (a :: b :: rest) pos) (kAndV f1 f2) := pe_imp (pe_and ha hb) fun σ H Q ⟨S, W, d, S', R, e, k⟩ => by
  unfold kAndV at e
  obtain ⟨⟨d1, S1⟩, e1, e⟩ := Option.bind_eq_some_iff.mp e
  obtain ⟨d2, e2, e⟩ := Option.bind_eq_some_iff.mp e
  refine ⟨S, W, d1, S1, R, e1, fun v H1 W1 R1 s1 x1 => ⟨d2, asBool_dp x1 e2, ?_⟩⟩
  cases d2 with
  | true => exact iteT ⟨S1, W1, d, S', R1, e, fun v H2 W2 R2 s2 x2 => k v H2 W2 R2 (s1.trans s2) x2⟩
  | false =>
    cases e
    exact iteF (k _ H1 W1 R1 s1 (.bl false))
theorem s_or {rest : List Expr} (ha : SE X c a f1) (hb : SE X c (.BoolOp .Or (b :: rest) pos) f2) : SE X c (.BoolOp .Or (a :: b :: rest) pos) (kOrV f1 f2) := pe_imp (pe_or ha hb) fun σ H Q ⟨S, W, d, S', R, e, k⟩ => by
  unfold kOrV at e
  obtain ⟨⟨d1, S1⟩, e1, e⟩ := Option.bind_eq_some_iff.mp e
  obtain ⟨d2, e2, e⟩ := Option.bind_eq_some_iff.mp e
  refine ⟨S, W, d1, S1, R, e1, fun v H1 W1 R1 s1 x1 => ⟨d2, asBool_dp x1 e2, ?_⟩⟩
  cases d2 with
  | false => exact iteF ⟨S1, W1, d, S', R1, e, fun v H2 W2 R2 s2 x2 => k v H2 W2 R2 (s1.trans s2) x2⟩
  | true =>
    cases e
    exact iteT (k _ H1 W1 R1 s1 (.bl true))
def kNotV (f : Sl → Option (D × Sl)) : Sl → Option (D × Sl) := fun S => (f S).bind fun r => (asBool r.1).bind fun k => some (.bool (!k), r.2)
theorem s_not (ha : SE X c a f) : SE X c (.UnaryOp .Not a pos) (kNotV f) := pe_imp (pe_not ha) fun σ H Q ⟨S, W, d, S', R, e, k⟩ => by
  unfold kNotV at e
  obtain ⟨⟨d1, S1⟩, e1, e⟩ := Option.bind_eq_some_iff.mp e
  obtain ⟨d2, e2, e⟩ := Option.bind_eq_some_iff.mp e
  cases e
  exact ⟨S, W, d1, S1, R, e1, fun v H1 W1 R1 s1 x1 => ⟨d2, asBool_dp x1 e2, k _ H1 W1 R1 s1 (.bl _)⟩⟩
theorem s_if {cc : Expr} (hc : ST X c cc t) (ha : SE X c a f1) (hb : SE X c b f2) : SE X c (.IfExp cc a b pos) (kIf t f1 f2) := pe_imp (pe_ifExp hc ha hb) fun σ H Q ⟨S, W, d, S', R, e, k⟩ => by
  unfold kIf at e
  obtain ⟨⟨d1, S1⟩, e1, e⟩ := Option.bind_eq_some_iff.mp e
  refine ⟨S, W, d1, S1, R, e1, fun H1 W1 R1 s1 => ?_⟩
  cases d1 with
  | true => exact iteT ⟨S1, W1, d, S', R1, e, fun v H2 W2 R2 s2 x2 => k v H2 W2 R2 (s1.trans s2) x2⟩
  | false => exact iteF ⟨S1, W1, d, S', R1, e, fun v H2 W2 R2 s2 x2 => k v H2 W2 R2 (s1.trans s2) x2⟩
/-- a < b < c -/
def kCh (g g' : D → D → Option D) (f1 f2 f3 : Sl → Option (D × Sl)) : Sl → Option (D × Sl) := fun S => (f1 S).bind fun r1 => (f2 r1.2).bind fun r2 => (g r1.1 r2.1).bind fun z => (asBool z).bind fun k =>
  if k = true then (f3 r2.2).bind fun r3 => (g' r2.1 r3.1).bind fun d => some (d, r3.2) else some (.bool false, r2.2)
theorem re_ch {P : Program} {w : World} {K : PySem.W.Frag} {g g' : D → D → Option D} {f3 : Sl → Option (D × Sl)} {σ : St} {H : Hp} {Q : VK} (h : RE P w K c (kCh g g' f1 f2 f3) σ H Q) : tChain (rG2 K g) (rG2 K g') (RE P w K c f1) (RE P w K c f2) (RE P w K c f3) σ H Q := by
  obtain ⟨S, W, d, S', R, e, k⟩ := h
  unfold kCh at e
  obtain ⟨⟨d1, S1⟩, e1, e⟩ := Option.bind_eq_some_iff.mp e
  obtain ⟨⟨d2, S2⟩, e2, e⟩ := Option.bind_eq_some_iff.mp e
  obtain ⟨z, e3, e⟩ := Option.bind_eq_some_iff.mp e
  obtain ⟨b, e4, e⟩ := Option.bind_eq_some_iff.mp e
  refine ⟨S, W, d1, S1, R, e1, fun v H1 W1 R1 s1 x1 => ⟨S1, W1, d2, S2, R1, e2, fun u H2 W2 R2 s2 x2 => ⟨W2, d1, d2, z, R2.al, .inl (s2.vis.dp x1), .inl x2, e3, fun v' H3 hg hd => ⟨b, asBool_dp hd e4, ?_⟩⟩⟩⟩
  obtain ⟨R3, s3⟩ := R2.grown hg
  cases b with
  | true =>
    obtain ⟨⟨d3, S3⟩, e5, e⟩ := Option.bind_eq_some_iff.mp e
    obtain ⟨d4, e6, e⟩ := Option.bind_eq_some_iff.mp e
    cases e
    refine iteT ⟨S2, W2, d3, S3, R3, e5, fun v4 H4 W4 R4 s4 x4 => ⟨W4, d2, d3, d, R4.al, .inl ((s3.trans s4).vis.dp x2), .inl x4, e6, fun v5 H5 hg5 hd5 => ?_⟩⟩
    obtain ⟨R5, s5⟩ := R4.grown hg5
    exact k v5 H5 W4 R5 (s1.trans (s2.trans (s3.trans (s4.trans s5)))) hd5
  | false =>
    cases e
    exact iteF (k _ H3 W2 R3 (s1.trans (s2.trans s3)) (.bl false))
theorem s_ch {op' : CmpOp} {cc : Expr} {f3 : Sl → Option (D × Sl)} {g g' : D → D → Option D} (ho : OpR X (compareOp op) (rG2 X.K g)) (ho' : OpR X (compareOp op') (rG2 X.K g')) (ha : SE X c a f1) (hb : SE X c b f2) (hc : SE X c cc f3)
    (hm : lastMarks [op, op'] [b, cc] = false := by with_unfolding_all rfl) : SE X c (.Compare a [op, op'] [b, cc] pos) (kCh g g' f1 f2 f3) := pe_imp (pe_chain ho ho' ha hb hc hm) fun _ _ _ h => re_ch h
theorem t_ch {op' : CmpOp} {cc : Expr} {f3 : Sl → Option (D × Sl)} {g g' : D → D → Option D} (ho : OpR X (compareOp op) (rG2 X.K g)) (ho' : OpR X (compareOp op') (rG2 X.K g')) (ha : SE X c a f1) (hb : SE X c b f2) (hc : SE X c cc f3)
    (hm : lastMarks [op, op'] [b, cc] = false := by with_unfolding_all rfl) : ST X c (.Compare a [op, op'] [b, cc] pos) (kT (kCh g g' f1 f2 f3)) := pt_imp (pt_chain ho ho' ha hb hc hm) fun σ H Q h => by
  have h' := rt_kT h
  exact re_ch h'
end
end VD
/-! VD3: lists of values, displays, targets, statements, defs and calls. -/
namespace VD
open PySem PySem.Spec PyProof.Rows L2

/-! ### rows of values: data or new objects -/
section
variable (P : Program) (w : World) (K : PySem.W.Frag) (c : Cc)
def RVAt (Hs G H : Hp) (W : AP) (σ : St) (S : Sl) (v : V) : RV → Prop
  | .dt d => Dp K G v d
  | .fr o => ∃ a, v = .ref a ∧ Hs a = none ∧ W a ∧ (∀ (i : Nat) (l : Bool) (o : Ob), S[i]? = some (.ow l o) → σ[i]? ≠ some (some (.ref a))) ∧ ObAt P w K G H a o ∧ c.H0 a = none
/-- the new ones stand apart -/
def Apart : List V → List RV → Prop
  | v :: vs, .fr _ :: rs => (∀ (i : Nat) (o : Ob), rs[i]? = some (.fr o) → vs[i]? ≠ some v) ∧ Apart vs rs
  | _ :: vs, .dt _ :: rs => Apart vs rs
  | _, _ => True
def RM (f : Sl → Option (List RV × Sl)) : TA := fun σ H Q => ∃ S W rs S', Rep P w K c S W σ H ∧ f S = some (rs, S') ∧ ∀ vs H' W', Rep P w K c S' W' σ H' → Ks σ S W H S' W' H' → Paired (fun v r => RVAt P w K c H (hid W' H') H' W' σ S' v r) vs rs → Apart vs rs → Q vs H'
def RL (f : Sl → Option (List D × Sl)) : TA := fun σ H Q => ∃ S W ds S', Rep P w K c S W σ H ∧ f S = some (ds, S') ∧ ∀ vs H' W', Rep P w K c S' W' σ H' → Ks σ S W H S' W' H' → DpAll K (hid W' H') vs ds → Q vs H'
end
abbrev SM (X : Cx) (c : Cc) (es : List Expr) (f : Sl → Option (List RV × Sl)) : Prop := PA X es (RM X.prog X.w X.K c f)
abbrev SL (X : Cx) (c : Cc) (es : List Expr) (f : Sl → Option (List D × Sl)) : Prop := PA X es (RL X.prog X.w X.K c f)
def kNil {α : Type} : Sl → Option (List α × Sl) := fun S => some ([], S)
def kCons (f : Sl → Option (D × Sl)) (g : Sl → Option (List D × Sl)) : Sl → Option (List D × Sl) := fun S => (f S).bind fun r => (g r.2).bind fun q => some (r.1 :: q.1, q.2)
/-- the object slots of S are as in S', by place -/
def kConsM (f : Sl → Option (D × Sl)) (g : Sl → Option (List RV × Sl)) : Sl → Option (List RV × Sl) := fun S => (f S).bind fun r => (g r.2).bind fun q => some (.dt r.1 :: q.1, q.2)
def kConsF (f : Sl → Option (Ob × Sl)) (g : Sl → Option (List RV × Sl)) : Sl → Option (List RV × Sl) := fun S => (f S).bind fun r => (g r.2).bind fun q => some (.fr r.1 :: q.1, q.2)
section
variable {X : Cx} {c : Cc} {e : Expr} {es : List Expr} {f : Sl → Option (D × Sl)} {pos : Pos} {i : Nat}
theorem l_nil : SL X c [] kNil := pa_imp pa_nil fun σ H Q ⟨S, W, d, S', R, e, k⟩ => by
  cases e
  exact k [] H W R Ks.rfl .nil
theorem l_cons {g : Sl → Option (List D × Sl)} (h : SE X c e f) (hr : SL X c es g) (hs : starEach (e :: es) X.env = (false, eval e X.env) :: starEach es X.env := by rfl) : SL X c (e :: es) (kCons f g) := pa_imp (pa_cons h hr hs) fun σ H Q ⟨S, W, d, S', R, e, k⟩ => by
  unfold kCons at e
  obtain ⟨⟨d1, S1⟩, e1, e⟩ := Option.bind_eq_some_iff.mp e
  obtain ⟨⟨d2, S2⟩, e2, e⟩ := Option.bind_eq_some_iff.mp e
  cases e
  exact ⟨S, W, d1, S1, R, e1, fun v H1 W1 R1 s1 x1 => ⟨S1, W1, d2, S2, R1, e2, fun vs H2 W2 R2 s2 x2 => k _ H2 W2 R2 (s1.trans s2) (.cons (s2.vis.dp x1) x2)⟩⟩
/-! displays -/
def kTup (f : Sl → Option (List D × Sl)) : Sl → Option (D × Sl) := fun S => (f S).bind fun r => if r.1.length ≤ 1000000 then some (.tuple r.1, r.2) else none
def kLst (f : Sl → Option (List D × Sl)) : Sl → Option (Ob × Sl) := fun S => (f S).bind fun r => if r.1.length ≤ 1000000 then some (.lst r.1, r.2) else none
theorem line_of {n : Nat} (h : n ≤ 1000000) : n ≤ sizeLine := Nat.le_trans h (by decide)
theorem line_lt {n : Nat} (h : n < 1000000) : n < sizeLine := Nat.lt_of_lt_of_le h (by decide)
/-- a tuple of written items, known to the object -/
def tTupF (t : TA) : TE := fun σ H Q => t σ H fun xs H1 => xs.length ≤ sizeLine ∧ ∀ p o, H1 p = none → o.dict = none → Q (.ref p) (upd H1 p (.frz o (.tup xs)))
theorem pe_tupF {t : TA} {x1} (h : PA X es t) : PE X (.Tuple es x1 pos) (tTupF t) := by
  refine ⟨fun pins s σ H Q I hq => ?_⟩
  refine wpAny_Tuple_spliced (thn (h.run pos pins s σ H _ I hq) fun us s1 ⟨xs, H1, I1, r, z, q⟩ => ⟨by rw [← r.length]; exact z, ?_⟩)
  have hf : H1 s1.heap.objs.size = none := I1.hok.fresh (Nat.le_refl _)
  refine ⟨.ref s1.heap.objs.size, upd H1 s1.heap.objs.size (.frz { cls := .type "tuple", data := .seq us.toArray } (.tup xs)), I1.laid (t' := s1.toks) (fun b u e => Heap.get?_push_of_some _ e) (Nat.le_refl _) ?_, rfl, q _ _ hf rfl⟩
  exact ⟨Heap.get?_push_size _ rfl, z, us, r, ⟨_, Heap.get?_push_size _ rfl, rfl, _, rfl⟩⟩
theorem dp_tupF {K : PySem.W.Frag} {W : AP} {H : Hp} {vs : List V} {ds : List D} {p : Addr} {o : Obj} (h : DpAll K (hid W H) vs ds) (hp : H p = none) (hw : ¬ W p) (hd : o.dict = none) : Dp K (hid W (upd H p (.frz o (.tup vs)))) (.ref p) (.tuple ds) :=
  .tup (.inl ⟨o, hid_some.mpr ⟨hw, upd_same⟩, hd⟩) ((hid_laid hp).dps h)
theorem s_tup {x1} {g : Sl → Option (List D × Sl)} (h : SL X c es g) : SE X c (.Tuple es x1 pos) (kTup g) := pe_imp (pe_tupF h) fun σ H Q ⟨S, W, d, S', R, e, k⟩ => by
  unfold kTup at e
  obtain ⟨⟨d1, S1⟩, e1, e⟩ := Option.bind_eq_some_iff.mp e
  split at e
  · rename_i hl
    cases e
    refine ⟨S, W, d1, S1, R, e1, fun vs H1 W1 R1 s1 x1 => ⟨by rw [dps_length x1]; exact line_of hl, fun p o hp ho => ?_⟩⟩
    refine k (.ref p) _ W1 (R1.laid hp) (s1.trans (Ks.laid hp)) (dp_tupF x1 hp (fun hw => ?_) ho)
    obtain ⟨u, hu⟩ := R1.al p hw
    rw [hp] at hu
    cases hu
  · cases e
/-- a new list at p -/
theorem rf_new {P : Program} {w : World} {K : PySem.W.Frag} {S' : Sl} {W1 : AP} {σ : St} {H1 : Hp} {vs : List V} {ds : List D} {p : Addr} (R1 : Rep P w K c S' W1 σ H1) (hp : H1 p = none) (x1 : DpAll K (hid W1 H1) vs ds) :
    Rep P w K c S' (addW W1 p) σ (upd H1 p (.lst vs)) ∧ Ks σ S' W1 H1 S' (addW W1 p) (upd H1 p (.lst vs)) ∧ addW W1 p p ∧ (∀ (i : Nat) (l : Bool) (o : Ob), S'[i]? = some (.ow l o) → σ[i]? ≠ some (some (.ref p))) ∧
      ObAt P w K (hid (addW W1 p) (upd H1 p (.lst vs))) (upd H1 p (.lst vs)) p (.lst ds) ∧ c.H0 p = none :=
  ⟨R1.laidW hp, Ks.laidW hp, .inr rfl, R1.newFree hp, ⟨vs, upd_same, (hid_laidW hp).dps x1⟩, R1.new0 hp⟩
theorem f_lst {g : Sl → Option (List D × Sl)} (h : SL X c es g) : SF X c (.List es pos) (kLst g) := pe_imp (pe_lst h) fun σ H Q ⟨S, W, d, S', R, e, k⟩ => by
  unfold kLst at e
  obtain ⟨⟨d1, S1⟩, e1, e⟩ := Option.bind_eq_some_iff.mp e
  split at e
  · rename_i hl
    cases e
    refine ⟨S, W, d1, S1, R, e1, fun vs H1 W1 R1 s1 x1 => ⟨by rw [dps_length x1]; exact line_of hl, fun p hp => ?_⟩⟩
    obtain ⟨q1, q2, q3, q4, q5, q6⟩ := rf_new R1 hp x1
    exact k p _ _ q1 (s1.trans q2) (s1.was hp) q3 q4 q5 q6
  · cases e
def kDk : Sl → Option (Ob × Sl) := fun S => some (.dk [], S)
theorem f_dk : SF X c (.Dict [] [] pos) kDk := pe_imp pe_dnewK fun σ H Q ⟨S, W, d, S', R, e, k⟩ => by
  cases e
  intro p hp
  exact k p _ _ (R.laidW hp) (Ks.laidW hp) hp (.inr rfl) (R.newFree hp) ⟨[], upd_same, .nil⟩ (R.new0 hp)
/-! rows with new objects -/
theorem RVAt.early {P : Program} {w : World} {K : PySem.W.Frag} {S S1 S2 : Sl} {W W1 W2 : AP} {σ : St} {H H1 H2 : Hp} {v : V} {r : RV} (h : RVAt P w K c H1 (hid W2 H2) H2 W2 σ S2 v r) (s : Ks σ S W H S1 W1 H1) : RVAt P w K c H (hid W2 H2) H2 W2 σ S2 v r := by
  cases r with
  | dt d => exact h
  | fr o =>
    obtain ⟨a, h1, h2, h3⟩ := h
    exact ⟨a, h1, s.was h2, h3⟩
theorem m_nil : SM X c [] kNil := pa_imp pa_nil fun σ H Q ⟨S, W, d, S', R, e, k⟩ => by
  cases e
  exact k [] H W R Ks.rfl .nil trivial
theorem m_cons {g : Sl → Option (List RV × Sl)} (h : SE X c e f) (hr : SM X c es g) (hs : starEach (e :: es) X.env = (false, eval e X.env) :: starEach es X.env := by rfl) : SM X c (e :: es) (kConsM f g) := pa_imp (pa_cons h hr hs) fun σ H Q ⟨S, W, d, S', R, e, k⟩ => by
  unfold kConsM at e
  obtain ⟨⟨d1, S1⟩, e1, e⟩ := Option.bind_eq_some_iff.mp e
  obtain ⟨⟨d2, S2⟩, e2, e⟩ := Option.bind_eq_some_iff.mp e
  cases e
  exact ⟨S, W, d1, S1, R, e1, fun v H1 W1 R1 s1 x1 => ⟨S1, W1, d2, S2, R1, e2, fun vs H2 W2 R2 s2 x2 a2 => k _ H2 W2 R2 (s1.trans s2) (.cons (s2.vis.dp x1) (Paired.mapP x2 fun _ _ z => z.early s1)) a2⟩⟩
end

theorem paired_get' {α β : Type} {G : α → β → Prop} : ∀ {l₁ : List α} {l₂ : List β} {i : Nat} {b : β}, Paired G l₁ l₂ → l₂[i]? = some b → ∃ a, l₁[i]? = some a ∧ G a b
  | _, _, _, _, .nil, e => by simp at e
  | _, _, 0, _, .cons r _, e => by simp at e; subst e; exact ⟨_, rfl, r⟩
  | _, _, i + 1, b, .cons _ t, e => by
    obtain ⟨v, h1, h2⟩ := paired_get' (i := i) (b := b) t (by simpa using e)
    exact ⟨v, by simpa using h1, h2⟩
/-- a new object, held while the rest of the row runs -/
theorem m_consF {X : Cx} {c : Cc} {e : Expr} {es : List Expr} {f : Sl → Option (Ob × Sl)} {g : Sl → Option (List RV × Sl)} (h : SF X c e f) (hr : SM X c es g) (hs : starEach (e :: es) X.env = (false, eval e X.env) :: starEach es X.env := by rfl) : SM X c (e :: es) (kConsF f g) := pa_imp (pa_cons h hr hs) fun σ H Q ⟨S, W, d, S', R, e, k⟩ => by
  unfold kConsF at e
  obtain ⟨⟨d1, S1⟩, e1, e⟩ := Option.bind_eq_some_iff.mp e
  obtain ⟨⟨d2, S2⟩, e2, e⟩ := Option.bind_eq_some_iff.mp e
  cases e
  refine ⟨S, W, d1, S1, R, e1, fun a H1 W1 R1 s1 n1 w1 f1 o1 z1 => ⟨S1, W1, d2, S2, R1, e2, fun vs H2 W2 R2 s2 x2 a2 => k _ H2 W2 R2 (s1.trans s2) (.cons ⟨a, rfl, n1, ?_, fun i l o q => ?_, ?_, z1⟩ (Paired.mapP x2 fun _ _ z => z.early s1)) ⟨fun i o q r => ?_, a2⟩⟩⟩
  · obtain ⟨u, hu⟩ := o1.there
    exact (s2.own a u w1 hu f1).2
  · obtain ⟨l', o', q'⟩ := s2.sl i l o q
    exact f1 i l' o' q'
  · exact o1.move s2.vis fun u hu => (s2.own a u w1 hu f1).1
  · obtain ⟨y, hy, z⟩ := paired_get' x2 q
    rw [r] at hy
    cases hy
    obtain ⟨b, hb, nb, _⟩ := z
    cases hb
    obtain ⟨u, hu⟩ := o1.there
    rw [nb] at hu
    cases hu

/-! ### targets -/
section
variable (P : Program) (w : World) (K : PySem.W.Frag) (c : Cc)
/-- a target that stores data to the slots ts, and does nothing else -/
def RN (ts : List Nat) (tg : D → Sl → Option Sl) : TG := fun v σ H Q => ∃ S W d S', Rep P w K c S W σ H ∧ Dp K (hid W H) v d ∧ tg d S = some S' ∧ ∀ σ', Rep P w K c S' W σ' H → (∀ j, j ∉ ts → σ'[j]? = σ[j]?) → σ'.length = σ.length →
  (∀ (i : Nat) (l : Bool) (o : Ob), S'[i]? = some (.ow l o) → i ∉ ts ∧ S[i]? = some (.ow l o)) → Q σ' H
def RNs (ts : List Nat) (tg : List D → Sl → Option Sl) : TGs := fun vs σ H Q => ∃ S W ds S', Rep P w K c S W σ H ∧ DpAll K (hid W H) vs ds ∧ tg ds S = some S' ∧ ∀ σ', Rep P w K c S' W σ' H → (∀ j, j ∉ ts → σ'[j]? = σ[j]?) → σ'.length = σ.length →
  (∀ (i : Nat) (l : Bool) (o : Ob), S'[i]? = some (.ow l o) → i ∉ ts ∧ S[i]? = some (.ow l o)) → Q σ' H
/-- any target -/
def RG (tg : D → Sl → Option Sl) : TG := fun v σ H Q => ∃ S W d S', Rep P w K c S W σ H ∧ Dp K (hid W H) v d ∧ tg d S = some S' ∧ ∀ σ' H' W', Rep P w K c S' W' σ' H' → Same (hid W H) (hid W' H') → Q σ' H'
def RGs (tg : List D → Sl → Option Sl) : TGs := fun vs σ H Q => ∃ S W ds S', Rep P w K c S W σ H ∧ DpAll K (hid W H) vs ds ∧ tg ds S = some S' ∧ ∀ σ' H' W', Rep P w K c S' W' σ' H' → Same (hid W H) (hid W' H') → Q σ' H'
end
abbrev SN (X : Cx) (c : Cc) (e : Expr) (ts : List Nat) (tg : D → Sl → Option Sl) : Prop := PG X e (RN X.prog X.w X.K c ts tg)
abbrev SNs (X : Cx) (c : Cc) (es : List Expr) (ts : List Nat) (tg : List D → Sl → Option Sl) : Prop := PGs X es (RNs X.prog X.w X.K c ts tg)
abbrev SG (X : Cx) (c : Cc) (e : Expr) (tg : D → Sl → Option Sl) : Prop := PG X e (RG X.prog X.w X.K c tg)
abbrev SGs (X : Cx) (c : Cc) (es : List Expr) (tg : List D → Sl → Option Sl) : Prop := PGs X es (RGs X.prog X.w X.K c tg)
def gN (i : Nat) : D → Sl → Option Sl := fun d S => some (S.set i (.fz d))
def gsN : List D → Sl → Option Sl := fun ds S => match ds with
  | [] => some S
  | _ => none
def gsC (t : D → Sl → Option Sl) (u : List D → Sl → Option Sl) : List D → Sl → Option Sl := fun ds S => match ds with
  | d :: ds => (t d S).bind fun S1 => u ds S1
  | [] => none
def gT (n : Nat) (t : List D → Sl → Option Sl) : D → Sl → Option Sl := fun d S => match d with
  | .tuple ds => if ds.length = n then t ds S else none
  | _ => none
section
variable {X : Cx} {c : Cc} {e : Expr} {es : List Expr} {pos : Pos} {i : Nat}
theorem pg_ix {v : V} {σ : St} {j : Nat} (h : j ∉ [i]) : (σ.set i (some v))[j]? = σ[j]? := List.getElem?_set_ne (fun e => h (by simp [e]))
theorem n_name (h : PG X e (gName i)) : SN X c e [i] (gN i) := pg_imp h fun v σ H Q ⟨S, W, d, S', R, x, e, k⟩ => by
  cases e
  refine k _ (R.setfz x) (fun j hj => pg_ix hj) (by simp) fun j l o q => ?_
  by_cases hj : j = i
  · subst hj
    by_cases hl : j < S.length
    · rw [List.getElem?_set_self hl] at q
      cases q
    · rw [List.getElem?_eq_none (by simpa using hl)] at q
      cases q
  · rw [List.getElem?_set_ne (Ne.symm hj)] at q
    exact ⟨by simpa using hj, q⟩
theorem pgs_imp {X : Cx} {tg : List Expr} {t t' : TGs} (h : PGs X tg t) (hi : ∀ v σ H Q, t' v σ H Q → t v σ H Q) : PGs X tg t' := ⟨fun pins s σ H v u Q I r q => h.run pins s σ H v u Q I r (hi _ _ _ _ q)⟩
theorem ns_nil : SNs X c [] [] gsN := pgs_imp pgs_nil fun v σ H Q ⟨S, W, d, S', R, x, e, k⟩ => by
  cases x with
  | nil =>
    cases e
    exact ⟨rfl, k _ R (fun _ _ => rfl) rfl fun _ _ _ q => ⟨by simp, q⟩⟩
  | cons _ _ => cases e
theorem ns_cons {ts us : List Nat} {t : D → Sl → Option Sl} {u : List D → Sl → Option Sl} (h1 : SN X c e ts t) (h2 : SNs X c es us u) (hs : (assignEach (e :: es) X.env).map (·.2) = assign e X.env :: (assignEach es X.env).map (·.2) := by rfl) : SNs X c (e :: es) (ts ++ us) (gsC t u) := pgs_imp (pgs_cons h1 h2 hs) fun vs σ H Q ⟨S, W, d, S', R, x, e, k⟩ => by
  cases x with
  | nil => cases e
  | cons x1 x2 =>
    obtain ⟨S1, e1, e⟩ := Option.bind_eq_some_iff.mp e
    refine ⟨_, _, rfl, S, W, _, S1, R, x1, e1, fun σ1 R1 n1 l1 o1 => ⟨S1, W, _, S', R1, x2, e, fun σ2 R2 n2 l2 o2 => k σ2 R2 (fun j hj => ?_) (l2.trans l1) fun j l o q => ?_⟩⟩
    · rw [List.mem_append, not_or] at hj
      exact (n2 j hj.2).trans (n1 j hj.1)
    · obtain ⟨q1, q2⟩ := o2 j l o q
      obtain ⟨q3, q4⟩ := o1 j l o q2
      exact ⟨by rw [List.mem_append, not_or]; exact ⟨q3, q1⟩, q4⟩
theorem n_tup {ts : List Nat} {t : List D → Sl → Option Sl} {k n : Nat} (hc : X.calm = true) (h : SNs X c es ts t)
    (hn : (assignEach es X.env).length = n := by rfl) (hst : (assignEach es X.env).findIdx? (·.1) = none := by rfl) : SN X c (.Tuple es k pos) ts (gT n t) := pg_imp (pg_tup hc h hn hst) fun v σ H Q ⟨S, W, d, S', R, x, e, k⟩ => by
  cases d <;> try cases e
  rename_i ds
  unfold gT at e
  simp only at e
  split at e
  · rename_i hl
    cases x with
    | tup hs ha => exact ⟨_, _, rfl, seqT hid_sub hs.sq, (dps_length ha).trans hl, S, W, ds, S', R, ha, e, k⟩
  · cases e
theorem g_of {ts : List Nat} {t : D → Sl → Option Sl} (h : SN X c e ts t) : SG X c e t := pg_imp h fun v σ H Q ⟨S, W, d, S', R, x, e, k⟩ => ⟨S, W, d, S', R, x, e, fun σ' R' _ _ _ => k σ' H W R' (Same.refl _)⟩
theorem gs_nil : SGs X c [] gsN := pgs_imp pgs_nil fun v σ H Q ⟨S, W, d, S', R, x, e, k⟩ => by
  cases x with
  | nil =>
    cases e
    exact ⟨rfl, k _ H W R (Same.refl _)⟩
  | cons _ _ => cases e
theorem gs_cons {t : D → Sl → Option Sl} {u : List D → Sl → Option Sl} (h1 : SG X c e t) (h2 : SGs X c es u) (hs : (assignEach (e :: es) X.env).map (·.2) = assign e X.env :: (assignEach es X.env).map (·.2) := by rfl) : SGs X c (e :: es) (gsC t u) := pgs_imp (pgs_cons h1 h2 hs) fun vs σ H Q ⟨S, W, d, S', R, x, e, k⟩ => by
  cases x with
  | nil => cases e
  | cons x1 x2 =>
    obtain ⟨S1, e1, e⟩ := Option.bind_eq_some_iff.mp e
    exact ⟨_, _, rfl, S, W, _, S1, R, x1, e1, fun σ1 H1 W1 R1 s1 => ⟨S1, W1, _, S', R1, s1.dps x2, e, fun σ2 H2 W2 R2 s2 => k σ2 H2 W2 R2 (s1.trans s2)⟩⟩
theorem g_tup {t : List D → Sl → Option Sl} {k n : Nat} (hc : X.calm = true) (h : SGs X c es t)
    (hn : (assignEach es X.env).length = n := by rfl) (hst : (assignEach es X.env).findIdx? (·.1) = none := by rfl) : SG X c (.Tuple es k pos) (gT n t) := pg_imp (pg_tup hc h hn hst) fun v σ H Q ⟨S, W, d, S', R, x, e, k⟩ => by
  cases d <;> try cases e
  rename_i ds
  unfold gT at e
  simp only at e
  split at e
  · rename_i hl
    cases x with
    | tup hs ha => exact ⟨_, _, rfl, seqT hid_sub hs.sq, (dps_length ha).trans hl, S, W, ds, S', R, ha, e, k⟩
  · cases e
end

/-! ### statements -/
section
variable (P : Program) (w : World) (K : PySem.W.Frag) (c : Cc)
def PostS (W : AP) (H : Hp) (D : Ends) : Out → Prop
  | .nx S' => ∀ σ' H' W', Rep P w K c S' W' σ' H' → Same (hid W H) (hid W' H') → D.nx σ' H'
  | .bk S' => ∀ σ' H' W', Rep P w K c S' W' σ' H' → Same (hid W H) (hid W' H') → D.bk σ' H'
  | .ct S' => ∀ σ' H' W', Rep P w K c S' W' σ' H' → Same (hid W H) (hid W' H') → D.ct σ' H'
  | .rt (.dt d) S' => ∀ v σ' H' W', Rep P w K c S' W' σ' H' → Same (hid W H) (hid W' H') → Dp K (hid W' H') v d → D.rt v H'
  | .rt (.fr o) S' => ∀ a σ' H' W', Rep P w K c S' W' σ' H' → Same (hid W H) (hid W' H') → W' a → (∀ (i : Nat) (l : Bool) (o : Ob), S'[i]? = some (.ow l o) → σ'[i]? ≠ some (some (.ref a))) → ObAt P w K (hid W' H') H' a o → c.H0 a = none → D.rt (.ref a) H'
def RS (f : Sl → Option Out) : TS := fun D σ H => ∃ S W r, Rep P w K c S W σ H ∧ f S = some r ∧ PostS P w K c W H D r
end
abbrev SS1 (X : Cx) (c : Cc) (st : Stmt) (f : Sl → Option Out) : Prop := PS X st (RS X.prog X.w X.K c f)
abbrev SSs (X : Cx) (c : Cc) (st : List Stmt) (f : Sl → Option Out) : Prop := PSs X st (RS X.prog X.w X.K c f)
def kNx : Sl → Option Out := fun S => some (.nx S)
def kSeq (f g : Sl → Option Out) : Sl → Option Out := fun S => (f S).bind fun r => match r with
  | .nx S1 => g S1
  | .rt r S1 => some (.rt r S1)
  | .bk S1 => some (.bk S1)
  | .ct S1 => some (.ct S1)
def kBk : Sl → Option Out := fun S => some (.bk S)
def kCt : Sl → Option Out := fun S => some (.ct S)
def kDrop (f : Sl → Option (D × Sl)) : Sl → Option Out := fun S => (f S).bind fun r => some (.nx r.2)
def kRet (f : Sl → Option (D × Sl)) : Sl → Option Out := fun S => (f S).bind fun r => some (.rt (.dt r.1) r.2)
def kRetF (f : Sl → Option (Ob × Sl)) : Sl → Option Out := fun S => (f S).bind fun r => some (.rt (.fr r.1) r.2)
def kIfS (t : Sl → Option (Bool × Sl)) (f g : Sl → Option Out) : Sl → Option Out := fun S => (t S).bind fun r => if r.1 = true then f r.2 else g r.2
def kSet (i : Nat) (f : Sl → Option (D × Sl)) : Sl → Option Out := fun S => (f S).bind fun r => some (.nx (r.2.set i (.fz r.1)))
def kSetF (i : Nat) (f : Sl → Option (Ob × Sl)) : Sl → Option Out := fun S => (f S).bind fun r => some (.nx (r.2.set i (.ow false r.1)))
def kAsg (f : Sl → Option (D × Sl)) (tg : D → Sl → Option Sl) : Sl → Option Out := fun S => (f S).bind fun r => (tg r.1 r.2).bind fun S1 => some (.nx S1)
/-- slots that are not read again -/
def kUn (is : List Nat) (f : Sl → Option Out) : Sl → Option Out := fun S => (f S).bind fun r => match r with
  | .nx S1 => some (.nx (unS S1 is))
  | .rt r S1 => some (.rt r S1)
  | .bk S1 => some (.bk (unS S1 is))
  | .ct S1 => some (.ct (unS S1 is))
section
variable {X : Cx} {c : Cc} {e : Expr} {st : Stmt} {rest : List Stmt} {f g : Sl → Option Out} {pos : Pos} {i : Nat} {fe : Sl → Option (D × Sl)} {ff : Sl → Option (Ob × Sl)}
theorem PostS.after {P : Program} {w : World} {K : PySem.W.Frag} {W W1 : AP} {H H1 : Hp} {D : Ends} {r : Out} (h : PostS P w K c W H D r) (s : Same (hid W H) (hid W1 H1)) : PostS P w K c W1 H1 D r := by
  cases r with
  | nx S => exact fun σ' H' W' R s' => h σ' H' W' R (s.trans s')
  | bk S => exact fun σ' H' W' R s' => h σ' H' W' R (s.trans s')
  | ct S => exact fun σ' H' W' R s' => h σ' H' W' R (s.trans s')
  | rt r S =>
    cases r with
    | dt d => exact fun v σ' H' W' R s' x => h v σ' H' W' R (s.trans s') x
    | fr o => exact fun a σ' H' W' R s' => h a σ' H' W' R (s.trans s')
theorem ss_nil : SSs X c [] kNx := pss_imp pss_nil fun D σ H ⟨S, W, r, R, e, k⟩ => by
  cases e
  exact k σ H W R (Same.refl _)
theorem rs_seq {P : Program} {w : World} {K : PySem.W.Frag} {D : Ends} {σ : St} {H : Hp} (h : RS P w K c (kSeq f g) D σ H) : RS P w K c f { D with nx := RS P w K c g D } σ H := by
  obtain ⟨S, W, r, R, e, k⟩ := h
  unfold kSeq at e
  obtain ⟨r1, e1, e⟩ := Option.bind_eq_some_iff.mp e
  refine ⟨S, W, r1, R, e1, ?_⟩
  cases r1 with
  | nx S1 => exact fun σ' H' W' R' s' => ⟨S1, W', r, R', e, k.after s'⟩
  | bk S1 => cases e; exact k
  | ct S1 => cases e; exact k
  | rt r1 S1 =>
    cases e
    cases r1 <;> exact k
theorem ss_cons (h1 : SS1 X c st f) (h2 : SSs X c rest g) : SSs X c (st :: rest) (kSeq f g) := pss_imp (pss_cons h1 h2) fun _ _ _ h => rs_seq h
theorem ss_one (h1 : SS1 X c st f) : SSs X c [st] f := pss_one h1
theorem p_pass : SS1 X c (.Pass pos) kNx := ps_imp ps_pass fun D σ H ⟨S, W, r, R, e, k⟩ => by
  cases e
  exact k σ H W R (Same.refl _)
theorem p_break : SS1 X c (.Break pos) kBk := ps_imp ps_break fun D σ H ⟨S, W, r, R, e, k⟩ => by
  cases e
  exact k σ H W R (Same.refl _)
theorem p_continue : SS1 X c (.Continue pos) kCt := ps_imp ps_continue fun D σ H ⟨S, W, r, R, e, k⟩ => by
  cases e
  exact k σ H W R (Same.refl _)
/-- never come to -/
def kNo : Sl → Option Out := fun _ => none
theorem p_no : SS1 X c st kNo := ps_imp ps_never fun D σ H ⟨S, W, r, R, e, k⟩ => by cases e
theorem p_expr (he : SE X c e fe) (hs : swapsWith e none pos.line X.env = pure false := by rfl) : SS1 X c (.Expr e pos) (kDrop fe) := ps_imp (ps_expr he hs) fun D σ H ⟨S, W, r, R, e, k⟩ => by
  unfold kDrop at e
  obtain ⟨⟨d1, S1⟩, e1, e⟩ := Option.bind_eq_some_iff.mp e
  cases e
  exact ⟨S, W, d1, S1, R, e1, fun v H' W' R' s' _ => k σ H' W' R' s'.vis⟩
theorem p_ret (he : SE X c e fe) : SS1 X c (.Return (some e) pos) (kRet fe) := ps_imp (ps_ret he) fun D σ H ⟨S, W, r, R, e, k⟩ => by
  unfold kRet at e
  obtain ⟨⟨d1, S1⟩, e1, e⟩ := Option.bind_eq_some_iff.mp e
  cases e
  exact ⟨S, W, d1, S1, R, e1, fun v H' W' R' s' x => k v σ H' W' R' s'.vis x⟩
theorem p_retF (he : SF X c e ff) : SS1 X c (.Return (some e) pos) (kRetF ff) := ps_imp (ps_ret he) fun D σ H ⟨S, W, r, R, e, k⟩ => by
  unfold kRetF at e
  obtain ⟨⟨d1, S1⟩, e1, e⟩ := Option.bind_eq_some_iff.mp e
  cases e
  exact ⟨S, W, d1, S1, R, e1, fun a H' W' R' s' x0 x1 x2 x3 x4 => k a σ H' W' R' s'.vis x1 x2 x3 x4⟩
theorem p_retN : SS1 X c (.Return none pos) (kRet (kC .none)) := ps_imp ps_retN fun D σ H ⟨S, W, r, R, e, k⟩ => by
  cases e
  exact k .non σ H W R (Same.refl _) .non
theorem p_if {cc : Expr} {a b : List Stmt} {t : Sl → Option (Bool × Sl)} (hc : ST X c cc t) (ha : SSs X c a f) (hb : SSs X c b g) : SS1 X c (.If cc a b pos) (kIfS t f g) := ps_imp (ps_if hc ha hb) fun D σ H ⟨S, W, r, R, e, k⟩ => by
  unfold kIfS at e
  obtain ⟨⟨d1, S1⟩, e1, e⟩ := Option.bind_eq_some_iff.mp e
  refine ⟨S, W, d1, S1, R, e1, fun H1 W1 R1 s1 => ?_⟩
  cases d1 with
  | true => exact iteT ⟨S1, W1, r, R1, e, k.after s1.vis⟩
  | false => exact iteF ⟨S1, W1, r, R1, e, k.after s1.vis⟩
theorem rs_un {P : Program} {w : World} {K : PySem.W.Frag} {is : List Nat} {D : Ends} {σ : St} {H : Hp} (h : RS P w K c (kUn is f) D σ H) : RS P w K c f D σ H := by
  obtain ⟨S, W, r, R, e, k⟩ := h
  unfold kUn at e
  obtain ⟨r1, e1, e⟩ := Option.bind_eq_some_iff.mp e
  refine ⟨S, W, r1, R, e1, ?_⟩
  cases r1 with
  | nx S1 => cases e; exact fun σ' H' W' R' s' => k σ' H' W' (R'.forget is) s'
  | bk S1 => cases e; exact fun σ' H' W' R' s' => k σ' H' W' (R'.forget is) s'
  | ct S1 => cases e; exact fun σ' H' W' R' s' => k σ' H' W' (R'.forget is) s'
  | rt r1 S1 => cases e; cases r1 <;> exact k
theorem p_un (is : List Nat) (h : SS1 X c st f) : SS1 X c st (kUn is f) := ps_imp h fun _ _ _ h => rs_un h
theorem ss_un (is : List Nat) (h : SSs X c rest f) : SSs X c rest (kUn is f) := pss_imp h fun _ _ _ h => rs_un h
theorem re_set {P : Program} {w : World} {K : PySem.W.Frag} {D : Ends} {σ : St} {H : Hp} (h : RS P w K c (kSet i fe) D σ H) : tAsg (RE P w K c fe) (gName i) D σ H := by
  obtain ⟨S, W, r, R, e, k⟩ := h
  unfold kSet at e
  obtain ⟨⟨d1, S1⟩, e1, e⟩ := Option.bind_eq_some_iff.mp e
  cases e
  exact ⟨S, W, d1, S1, R, e1, fun v H' W' R' s' x => k _ H' W' (R'.setfz x) s'.vis⟩
theorem re_setF {P : Program} {w : World} {K : PySem.W.Frag} {D : Ends} {σ : St} {H : Hp} (h : RS P w K c (kSetF i ff) D σ H) : tAsg (RF P w K c ff) (gName i) D σ H := by
  obtain ⟨S, W, r, R, e, k⟩ := h
  unfold kSetF at e
  obtain ⟨⟨d1, S1⟩, e1, e⟩ := Option.bind_eq_some_iff.mp e
  cases e
  exact ⟨S, W, d1, S1, R, e1, fun a H' W' R' s' x0 x1 x2 x3 x4 => k _ H' W' (R'.setow x1 x2 x3 x4) s'.vis⟩
theorem p_set {x : Str} {pos' : Pos} (hN : X.N.Nodup) (hi : X.N[i]? = some x) (hx : Loc X.env.scope x) (he : SE X c e fe) (hs : swapsWith e (some (.Name x pos')) pos.line X.env = pure false := by rfl) (hf : X.fn x = true ∨ X.env.scope.names.lookup x = some .local := by first | exact .inl rfl | exact .inr rfl | assumption) :
    SS1 X c (.Assign [.Name x pos'] e pos) (kSet i fe) := ps_imp (ps_set hN hi hx he hs hf) fun _ _ _ h => re_set h
theorem p_setF {x : Str} {pos' : Pos} (hN : X.N.Nodup) (hi : X.N[i]? = some x) (hx : Loc X.env.scope x) (he : SF X c e ff) (hs : swapsWith e (some (.Name x pos')) pos.line X.env = pure false := by rfl) (hf : X.fn x = true ∨ X.env.scope.names.lookup x = some .local := by first | exact .inl rfl | exact .inr rfl | assumption) :
    SS1 X c (.Assign [.Name x pos'] e pos) (kSetF i ff) := ps_imp (ps_set hN hi hx he hs hf) fun _ _ _ h => re_setF h
theorem p_asg {tg : Expr} {t : D → Sl → Option Sl} (he : SE X c e fe) (hg : SG X c tg t) (hs : swapsWithSole [tg] e pos.line X.env = pure false := by rfl) (hw : swappedStores [tg] e X.env = pure none := by rfl)
    (h1 : (assignEach [tg] X.env).map (·.2) = [assign tg X.env] := by rfl) : SS1 X c (.Assign [tg] e pos) (kAsg fe t) := ps_imp (ps_asg he hg hs hw h1) fun D σ H ⟨S, W, r, R, e, k⟩ => by
  unfold kAsg at e
  obtain ⟨⟨d1, S1⟩, e1, e⟩ := Option.bind_eq_some_iff.mp e
  obtain ⟨S2, e2, e⟩ := Option.bind_eq_some_iff.mp e
  cases e
  exact ⟨S, W, d1, S1, R, e1, fun v H' W' R' s' x => ⟨S1, W', d1, S2, R', x, e2, fun σ2 H2 W2 R2 s2 => k σ2 H2 W2 R2 (s'.vis.trans s2)⟩⟩
end
end VD
/-! VDG: what a def promises where no guard stands (for repr), its calls, the end. -/
namespace VD
open PySem PySem.Spec PyProof.Rows L2

structure RoomG (k : Nat) (A : Around) : Prop where
  room : Room k A
  gu : A.guards = some []
theorem RoomG.mono {j k : Nat} {A : Around} (r : RoomG k A) (h : j ≤ k) : RoomG j A := ⟨r.room.mono h, r.gu⟩
theorem RoomG.deeper {k : Nat} {A : Around} (r : RoomG (k + 1) A) (env : Env) : RoomG k (A.deeper env) := ⟨r.room.deeper env, r.gu⟩
structure FnG (P : Program) (w : World) (K : PySem.W.Frag) (mg : Str → Option Value) (base : Heap) (k : Nat) (f : Addr) (fd : FuncData) (ps : List Str) (sp : Sp) : Prop where
  len : ∀ vs H Q E, sp vs H Q E → vs.length = ps.length
  run : ∀ (A : Around) (outer : List Env) (s : Shared) (H : Hp) (args : Args) (us : List Value) (vs : List V) (Q : VK) (E : XK), RoomG k A → Env0 P w K mg base A outer s H → BindsTo s fd args (ps.zip us) → Vals vs us → sp vs H Q E →
    codeAny (model P w) A (.call (.ref f) args) (CR CX0 outer P w H s Q E) s
theorem FnG.mono {P : Program} {w : World} {K : PySem.W.Frag} {mg : Str → Option Value} {base : Heap} {j k : Nat} {f : Addr} {fd : FuncData} {ps : List Str} {sp : Sp} (F : FnG P w K mg base j f fd ps sp) (h : j ≤ k) : FnG P w K mg base k f fd ps sp :=
  ⟨F.len, fun A outer s H args us vs Q E hr => F.run A outer s H args us vs Q E (hr.mono h)⟩
theorem FnG.imp {P : Program} {w : World} {K : PySem.W.Frag} {mg : Str → Option Value} {base : Heap} {k : Nat} {f : Addr} {fd : FuncData} {ps : List Str} {sp sp' : Sp} (F : FnG P w K mg base k f fd ps sp) (h : ∀ vs H Q E, sp' vs H Q E → sp vs H Q E) :
    FnG P w K mg base k f fd ps sp' := ⟨fun vs H Q E q => F.len vs H Q E (h _ _ _ _ q), fun A outer s H args us vs Q E hr he hb hv hs => F.run A outer s H args us vs Q E hr he hb hv (h _ _ _ _ hs)⟩
section
variable {X : Cx} {k : Nat} {f : Addr} {fd : FuncData} {ps ks : List Str} {sp : Sp} {E : XK} {x : Str} {p pos : Pos} {e : Expr} {es : List Expr} {kws : List Keyword} {t tk : TA}
theorem run_g {pins : List (Addr × Obj)} {σ : St} {H : Hp} {s : Shared} {Q : VK} {args : Args} {us : List Value} {vs : List V} (F : FnG X.prog X.w X.K X.mg X.base k f fd ps sp) (hr : RoomG k X.A) (hb : BindsTo s fd args (ps.zip us)) (hx : Passes CX0 X E)
    (I : Inv X pins σ H s) (r : Vals vs us) (h : sp vs H Q E) : codeAny (model X.prog X.w) X.A (.call (.ref f) args) (fun r s' => match r with | .ok (.ret u) => EP X pins σ Q u s' | .ok _ => False | .error e => X.xe e s') s := by
  refine codeAny_mono (F.run X.A X.stack s H args us vs Q E hr I.env0 hb r h) fun r s' hq => ?_
  cases r with
  | error e => exact hx pins σ H s e s' I hq
  | ok fl =>
    cases fl with
    | ret u => exact I.after hq
    | next => exact False.elim hq
    | brk => exact False.elim hq
    | cont => exact False.elim hq
theorem call_g {pins : List (Addr × Obj)} {σ : St} {H : Hp} {s : Shared} {Q : VK} {us : List Value} {kw : List (Str × Value)} {ws : List Value} {vs : List V} (F : FnG X.prog X.w X.K X.mg X.base k f fd ps sp) (hr : RoomG k X.A) (hb : BindsTo s fd ⟨us, kw⟩ (ps.zip ws)) (hx : Passes CX0 X E)
    (I : Inv X pins σ H s) (r : Vals vs ws) (h : sp vs H Q E) : wpAny (model X.prog X.w) X.A (call (.ref f) us kw) (EP X pins σ Q) X.xe s := by
  refine wpAny_call (codeAny_mono (run_g F hr hb hx I r h) fun r s' hq => ?_)
  cases r with
  | error e => exact hq
  | ok fl =>
    cases fl with
    | ret u => exact hq
    | next => exact False.elim hq
    | brk => exact False.elim hq
    | cont => exact False.elim hq
theorem pe_callG (F : FnG X.prog X.w X.K X.mg X.base k f fd ps sp) (hr : RoomG k X.A) (hg : Gl X x) (hm : X.mg x = some (.ref f)) (hk : PySem.W.keepIn X.K (.ref f) = true) (hb : Binds X.K fd ps []) (hx : Passes CX0 X E)
    (ha : PA X (e :: es) t) (hdb : (x == ("__debug__" : Str)) = false := by decide) (he : starEach (e :: es) X.env = (false, eval e X.env) :: starEach es X.env := by rfl) (hpl : (backTo pos (starEach es X.env)).any (·.1) = false := by rfl) :
    PE X (.Call (.Name x p) (e :: es) [] pos) (tCall sp [] E t) := by
  refine ⟨fun pins s σ H Q I h => wpAny_Call_Name_kw (ld_glob I hg hm ?_ hdb)⟩
  refine PySem.W.callWith_K (h₀ := X.base) I.ok.mod.kin hk (thn (ha.run pos pins s σ H _ I h) fun us s1 ⟨vs, H1, I1, r, q⟩ => ⟨I1.kIn, ?_⟩) he hpl
  replace q : sp (vs ++ []) H1 Q E := q
  rw [List.append_nil] at q
  have hl : (us ++ []).length = ps.length := by rw [List.append_nil, ← r.length]; exact F.len _ _ _ _ q
  have := hb s1 us I1.kIn hl
  rw [List.append_nil] at this
  exact call_g F hr this hx I1 r q
theorem pe_callG0 (F : FnG X.prog X.w X.K X.mg X.base k f fd ps sp) (hr : RoomG k X.A) (hg : Gl X x) (hm : X.mg x = some (.ref f)) (hk : PySem.W.keepIn X.K (.ref f) = true) (hb : Binds X.K fd ps []) (hx : Passes CX0 X E)
    (hdb : (x == ("__debug__" : Str)) = false := by decide) : PE X (.Call (.Name x p) [] [] pos) (tCall sp [] E tNil) := by
  refine ⟨fun pins s σ H Q I h => wpAny_Call_Name_kw (ld_glob I hg hm ?_ hdb)⟩
  have h' : sp [] H Q E := h
  refine PySem.W.callWith_K0 I.kIn hk (call_g (us := []) (ws := []) F hr (hb s [] I.kIn (F.len _ _ _ _ h').symm.symm) hx I .nil h')
theorem pe_callGK {g : List Value → List Value → List Value} {gV : List V → List V → List V} (F : FnG X.prog X.w X.K X.mg X.base k f fd ps sp) (hr : RoomG k X.A) (hg : Gl X x) (hm : X.mg x = some (.ref f)) (hk : PySem.W.keepIn X.K (.ref f) = true)
    (hb : KBinds X.K fd ps ks g gV) (hx : Passes CX0 X E) (ha : PA X (e :: es) t) (hkw : PK X kws tk) (hall : (backToKw pos (keywordEach kws X.env)).all (·.1.isSome) = true := by rfl) (hks : (backToKw pos (keywordEach kws X.env)).filterMap (·.1) = ks := by rfl)
    (hdb : (x == ("__debug__" : Str)) = false := by decide) (he : starEach (e :: es) X.env = (false, eval e X.env) :: starEach es X.env := by rfl)
    (hpl : ((backTo pos (starEach (e :: es) X.env)).any (·.1) || (backToKw pos (keywordEach kws X.env)).any (·.1.isNone)) = false := by rfl) :
    PE X (.Call (.Name x p) (e :: es) kws pos) (tCallK sp gV E t tk) := by
  refine ⟨fun pins s σ H Q I h => wpAny_Call_Name_kw (ld_glob I hg hm ?_ hdb)⟩
  refine PySem.W.callWith_KW (h₀ := X.base) I.ok.mod.kin hk hall (thn (ha.run pos pins s σ H _ I h) fun us s1 ⟨vs, H1, I1, r, q⟩ => ?_) hpl he
  refine thn (hkw.run pos pins s1 σ H1 _ I1 q) fun ws s2 ⟨zs, H2, I2, rz, q2⟩ => ⟨I2.kIn, ?_⟩
  rw [hks]
  have r2 := hb.rel r rz
  exact call_g F hr (hb.to s2 us ws I2.kIn (by rw [← r2.length]; exact F.len _ _ _ _ q2)) hx I2 r2 q2
end

/-- a def by its body -/
theorem fn_g {P : Program} {w : World} {K : PySem.W.Frag} {mg : Str → Option Value} {base : Heap} {x qual : Str} {st : Stmt} {f : Addr} {fd : FuncData} {N ps : List Str} {k : Nat} {sp : Sp} (F : Fun K x qual st f fd) (S : FnScope N ps (defScope st))
    (len : ∀ vs H Q E, sp vs H Q E → vs.length = ps.length)
    (hbody : ∀ (cdv : Value) (A : Around) (outer : List Env) (s : Shared) (H : Hp) (vs : List V) (Q : VK) (E : XK), RoomG k (A.deeper (envOfC qual (defScope st) s.heap.objs.size f cdv)) → sp vs H Q E →
      ∃ t, PSs (cxOf CX0 P w K mg base N qual (defScope st) f cdv A outer s H E).nox (defBody st) t ∧ t { nx := fun _ H' => Q .non H', rt := Q } (start N vs) H) : FnG P w K mg base (k + 1) f fd ps sp := by
  obtain ⟨oc, od, kV, doc, pm, an, cdv, ct, osl, rfl, lk, hcd⟩ := F.ex
  refine ⟨len, fun A outer s H args us vs Q E hr e0 hb r hsp => ?_⟩
  have hl := len _ _ _ _ hsp
  have KX : K.In s.heap := e0.mod.kin.keeps fun b o e => (e0.bs b o e).1
  have lim : s.heap.NoLimit := e0.mod.nolimit.keeps fun b o e => (e0.bs b o e).1
  have hkind : ∀ y ∈ ps.zip us, (defScope st).names.lookup y.1 = some .local ∨ ((defScope st).names.lookup y.1 = some .cell ∧ ((cellsFrom (s.heap.objs.size + 1) (defScope st).names []).lookup y.1).isSome = true) := fun ⟨n, v⟩ hy =>
    (S.par n (List.of_mem_zip hy).1).elim .inl fun q => .inr ⟨q, PySem.W.cellsFrom_some _ _ _ (.inl q)⟩
  refine codeAny_call_function hr.room.depth (KX _ _ lk) rfl S.co S.gen rfl (PySem.W.codeRec_of KX hcd) (hb _ _ _ _ ?_)
  refine wpAny_newFunctionEnv_cells S.kind hkind fun env he s1 x => ?_
  subst he
  refine ⟨lim.keeps x.toInCall.keep, codeAny_func ?_⟩
  obtain ⟨t, ht, hq⟩ := hbody cdv A outer s H vs Q E (hr.deeper _) hsp
  have I : Inv (cxOf CX0 P w K mg base N qual (defScope st) f cdv A outer s H E) [] (start N vs) H s1 := inv_start S hr.room.hd e0 hl r x
  refine wpAny_mono (ht.nox.run [] s1 (start N vs) H _ I hq) (fun fl s' hs => ?_) fun e s' hs => hs
  cases fl with
  | ret u =>
    obtain ⟨v, σ', H', J, rv, q⟩ := hs
    exact ⟨v, H', J.os, J.bare, J.base, J.hok, rv, q⟩
  | next =>
    obtain ⟨σ', H', J, q⟩ := hs
    exact ⟨.non, H', J.os, J.bare, J.base, J.hok, rfl, q⟩
  | brk => exact hs.choose_spec.choose_spec.2.elim
  | cont => exact hs.choose_spec.choose_spec.2.elim

/-- the script lies at an abstract heap that holds it alone -/
theorem law_g {P : Program} {w : World} {K : PySem.W.Frag} {mg mb : Str → Option Value} {k : Nat} {fa a : Addr} {fd : FuncData} {x : Str} {sp : Sp} {s₁ : Shared} {vs : List Value} {ns : List Int}
    (KX : K.In s₁.heap) (hns : s₁.heap.Ns mainGlobals mg) (hb : s₁.heap.Ns builtinsNs mb) (hbb : ∀ x : Str, x ≠ "__name__" → mb x = bootBuiltins x) (hlim : s₁.heap.NoLimit) (hg : s₁.gens = #[])
    (ha : s₁.heap.get? a = some { cls := .type "list", data := .seq vs.toArray }) (hi : IntsAre vs ns) (hl : ns.length ≤ sizeLine) (hr : RoomG k callerA)
    (F : ∀ base : Heap, K.In base → base.Ns mainGlobals mg → FnG P w K mg base k fa fd [x] sp) (hbind : ∀ (s : Shared) (u : Value), BindsTo s fd ⟨[u], []⟩ [(x, u)])
    (hsp : ∀ H : Hp, Only H → SqL K H a (ns.map V.int) → sp [.ref a] H (fun v _ => v = .bl true) fun _ _ _ => False) :
    codeAny (model P w) callerA (.call (.ref fa) ⟨[.ref a], []⟩) (fun r s' => r = .ok (.ret (.bool true)) ∧ OldK s₁.heap s'.heap ∧ s'.os = s₁.os ∧ AllBare s'.gens) s₁ := by
  have core : ∀ H : Hp, Only H → SqL K H a (ns.map V.int) → HOk P w H s₁.heap → (∀ b, H b ≠ none → b = a) → (H a ≠ none → K.lookup a = none) →
      codeAny (model P w) callerA (.call (.ref fa) ⟨[.ref a], []⟩) (fun r s' => r = .ok (.ret (.bool true)) ∧ OldK s₁.heap s'.heap ∧ s'.os = s₁.os ∧ AllBare s'.gens) s₁ := by
    intro H hO hS hok hA hK
    have noA : ∀ {b : Addr} {o : Obj} {es : Array DictEntry} {ep : Nat}, s₁.heap.get? b = some o → o.data = .dict es ep → H b = none := fun {b o es ep} e d => by
      cases q : H b with
      | none => rfl
      | some u =>
        have e' : b = a := hA b (by rw [q]; simp)
        subst e'
        rw [ha] at e; cases e
        exact nomatch (show Data.seq vs.toArray _ = Data.dict es ep from d)
    have nsK : ∀ {b : Addr} {m : Str → Option Value}, s₁.heap.Ns b m → (hidT s₁.heap H).Ns b m := fun {b m} ⟨o, es, ep, e, d, r⟩ => ⟨o, es, ep, hidT_get e (noA e d), d, r⟩
    have hKb : K.In (hidT s₁.heap H) := fun b o e => hidT_get (KX b o e) (by
      cases q : H b with
      | none => rfl
      | some u =>
        have e' : b = a := hA b (by rw [q]; simp)
        subst e'
        rw [hK (by rw [q]; simp)] at e; cases e)
    have hM : Mod K mg (hidT s₁.heap H) := ⟨hKb, nsK hns, ⟨mb, nsK hb, hbb⟩, let ⟨mc, h1, h2⟩ := hlim; ⟨mc, nsK h1, h2⟩⟩
    have e0 : Env0 P w K mg (hidT s₁.heap H) callerA [] s₁ H := ⟨rfl, hM, fun b o e => of_hidT e, Nat.le_of_eq (hidT_size _ _), trivial, fun b hb => absurd (show b ∈ ([] : List Addr) from hb) (by simp), hok, .of_eq hg⟩
    refine codeAny_mono ((F _ hKb (nsK hns)).run callerA [] s₁ H ⟨[.ref a], []⟩ [.ref a] [.ref a] _ _ hr e0 (hbind s₁ (.ref a)) (.cons rfl .nil) (hsp H hO hS)) fun r s' h => ?_
    cases r with
    | error e => exact (show False from h).elim
    | ok fl =>
      cases fl with
      | next => exact False.elim h
      | brk => exact False.elim h
      | cont => exact False.elim h
      | ret u =>
        obtain ⟨v, H', os, bare, un, hok', r', q⟩ := h
        obtain rfl : v = .bl true := q
        obtain rfl : u = Value.bool true := r'
        refine ⟨rfl, OldK.of_keep fun b o e => ?_, os, bare⟩
        cases q : H b with
        | none => exact un.keep b o e q (by intro z; exact absurd (show b ∈ ([] : List Addr) from z) (by simp)) (by simp)
        | some u =>
          rcases hO b with z | ⟨ob, xs, z⟩
          · rw [q] at z; cases z
          · obtain ⟨e1, _⟩ := hok b _ z
            obtain ⟨e2, _⟩ := hok' b _ (un.frzs b ob _ z)
            rw [e] at e1; cases e1
            exact e2
  have rv := vals_ints hi
  cases hk : K.lookup a with
  | some o =>
    have e := KX a o hk
    rw [ha] at e
    cases e
    exact core (fun _ => none) (fun _ => .inl rfl) (.inr ⟨_, vs.toArray, _, hk, rfl, rfl, rfl, by rw [List.size_toArray, hi.length]; exact hl, by simpa using rv⟩) (fun b u z => nomatch (show (none : Option HO) = some u from z)) (fun b z => absurd rfl z) fun z => absurd rfl z
  | none =>
    refine core (fun b => if b = a then some (.frz { cls := .type "list", data := .seq vs.toArray } (.lst (ns.map V.int))) else none) (fun b => ?_) (.inl (.inr ⟨_, if_pos rfl⟩)) (fun b u z => ?_) (fun b z => Classical.byContradiction fun hb => z (if_neg hb)) fun _ => hk
    · by_cases hb : b = a
      · exact .inr ⟨_, _, if_pos hb⟩
      · exact .inl (if_neg hb)
    · by_cases hb : b = a
      · have z' := (if_pos hb).symm.trans z
        cases z'
        subst hb
        exact ⟨ha, by rw [List.length_map]; exact hl, vs, _, rv, ha⟩
      · exact nomatch (if_neg hb).symm.trans z
theorem roomG_caller {k : Nat} (h : Room k callerA) : RoomG k callerA := ⟨h, rfl⟩
/-- the end of a law -/
theorem walk_g {l : PySem.W.OpenLaw} {n k : Nat} {q : Program} {loose : List Str} {XP : (Str → Option Value) → Heap → Prop} {YP : World → Heap → Prop} {d : DefRec} {K : Params → PySem.W.Frag} {sp : World → Sp} {x : Str}
    (hn : l.most = some n) (hn2 : n ≤ sizeLine) (hdf : d.params.defaults = []) (hr : Room k callerA)
    (hY : ∀ (w : World) (h : Heap), YP w h → (K w.params).In h)
    (F : ∀ (w : World) (mg : Str → Option Value) (fa : Addr) (h : Heap), (K w.params).In h → h.Ns mainGlobals mg → mg d.name = some (.ref fa) →
      ∃ fd : FuncData, (∀ (s : Shared) (u : Value), BindsTo s fd ⟨[u], []⟩ [(x, u)]) ∧
        ∀ base : Heap, (K w.params).In base → base.Ns mainGlobals mg → FnG l.prog w (K w.params) mg base k fa fd [x] (sp w))
    (hsp : ∀ (w : World) (H : Hp) (a : Addr) (ns : List Int), ns.length ≤ n → (∀ z ∈ ns, Builtin.Int.intBits z ≤ 1048576) → Only H → SqL (K w.params) H a (ns.map V.int) → sp w [.ref a] H (fun v _ => v = .bl true) fun _ _ _ => False) :
    PySem.W.WalkO q loose XP YP l.row.toRowW d [] (fun f vs => PySem.call f vs) := by
  refine Att.attach_callB hn hdf fun w s₀ s₁ mg mb fa o pm cd doc a vs ns G Y ho hd hcd hmg hobj hints hlen hbits hg => ?_
  have KX := hY w _ Y
  obtain ⟨fd, hb, hF⟩ := F w mg fa _ KX G.T.g hmg
  exact law_g KX G.T.g G.T.b G.T.builtins G.T.nolimit hg hobj hints (Nat.le_trans hlen hn2) (roomG_caller hr) hF hb fun H hO hS => hsp w H a ns hlen hbits hO hS
end VD
/-! VD4: defs and calls, parallel stores, loops, comprehensions. -/
namespace VD
open PySem PySem.Spec PyProof.Rows L2

/-! ### a def's promise over data -/
section
variable (P : Program) (w : World) (K : PySem.W.Frag)
structure AsAt (Z : AP) (H : Hp) (as : List SS) (vs : List V) : Prop where
  len : as.length = vs.length
  at_ : ∀ (i : Nat) (s : SS), as[i]? = some s → ∃ v, vs[i]? = some v ∧ match s with
    | .un => False
    | .fd _ => False
    | .fz d => Dp K (hid Z H) v d
    | .ow l o => l = true ∧ ∃ a, v = .ref a ∧ Z a ∧ ObAt P w K (hid Z H) H a o
  dist : ∀ (i j : Nat) (a : Addr) (l : Bool) (o : Ob) (l' : Bool) (o' : Ob), i ≠ j → as[i]? = some (.ow l o) → as[j]? = some (.ow l' o') → vs[i]? = some (.ref a) → vs[j]? ≠ some (.ref a)
  al : ∀ a, Z a → ∃ o, H a = some o
def Lent (as : List SS) (vs : List V) : AP := fun a => ∃ (i : Nat) (l : Bool) (o : Ob), as[i]? = some (.ow l o) ∧ vs[i]? = some (.ref a)
structure Back (Z : AP) (H : Hp) (as outs : List SS) (vs : List V) (Z' : AP) (H' : Hp) : Prop where
  vis : Same (hid Z H) (hid Z' H')
  old : ∀ a o, H a = some o → ¬ Lent as vs a → H' a = some o
  out : ∀ (i : Nat) (l : Bool) (o : Ob), as[i]? = some (.ow l o) → ∃ a l' o', vs[i]? = some (.ref a) ∧ outs[i]? = some (.ow l' o') ∧ ObAt P w K (hid Z' H') H' a o'
def spD (F : List SS → Option (RV × List SS)) : Sp := fun vs H Q _ => ∃ Z as r outs, AsAt P w K Z H as vs ∧ F as = some (r, outs) ∧ match r with
  | .dt d => ∀ v H', Back P w K Z H as outs vs Z H' → Dp K (hid Z H') v d → Q v H'
  | .fr o => ∀ a H', H a = none → Back P w K Z H as outs vs (addW Z a) H' → ObAt P w K (hid (addW Z a) H') H' a o → Q (.ref a) H'
end
/-- what the lent objects have become -/
def outsOf : List SS → Sl → Option (List SS)
  | [], _ => some []
  | .ow _ _ :: r, s :: S => match s with
    | .ow true o => (outsOf r S).map fun z => .ow true o :: z
    | _ => none
  | .fz d :: r, _ :: S => (outsOf r S).map fun z => .fz d :: z
  | .un :: _, _ :: _ => none
  | .fd _ :: _, _ :: _ => none
  | _ :: _, [] => none
def flow (as : List SS) : Out → Option (RV × List SS)
  | .rt r S => (outsOf as S).map fun z => (r, z)
  | .nx S => (outsOf as S).map fun z => (.dt .none, z)
  | _ => none
/-- a def of n parameters and N slots -/
def kDef (n N : Nat) (body : Sl → Option Out) : List SS → Option (RV × List SS) := fun as => if as.length = n then (body (as ++ List.replicate (N - n) .un)).bind (flow as) else none
theorem outsOf_get : ∀ {as : List SS} {S : Sl} {outs : List SS}, outsOf as S = some outs → ∀ (i : Nat) (l : Bool) (o : Ob), as[i]? = some (.ow l o) → ∃ o', S[i]? = some (.ow true o') ∧ outs[i]? = some (.ow true o')
  | [], _, _, _, i, l, o, h => by simp at h
  | .ow _ _ :: r, [], _, e, _, _, _, _ => by simp [outsOf] at e
  | .ow l0 o0 :: r, s :: S, outs, e, i, l, o, h => by
    unfold outsOf at e
    split at e
    · rename_i o1
      cases q : outsOf r S with
      | none => rw [q] at e; cases e
      | some z =>
        rw [q] at e
        cases e
        cases i with
        | zero => exact ⟨o1, rfl, rfl⟩
        | succ i => exact outsOf_get q i l o (by simpa using h)
    · cases e
  | .fz d :: r, [], _, e, _, _, _, _ => by simp [outsOf] at e
  | .fz d :: r, s :: S, outs, e, i, l, o, h => by
    unfold outsOf at e
    cases q : outsOf r S with
    | none => rw [q] at e; cases e
    | some z =>
      rw [q] at e
      cases e
      cases i with
      | zero => simp at h
      | succ i => exact outsOf_get q i l o (by simpa using h)
  | .un :: _, [], _, e, _, _, _, _ => by simp [outsOf] at e
  | .un :: _, _ :: _, _, e, _, _, _, _ => by simp [outsOf] at e
  | .fd _ :: _, [], _, e, _, _, _, _ => by simp [outsOf] at e
  | .fd _ :: _, _ :: _, _, e, _, _, _, _ => by simp [outsOf] at e
section
variable {P : Program} {w : World} {K : PySem.W.Frag} {mg : Str → Option Value} {base : Heap}
theorem rep_start {Z : AP} {H : Hp} {as : List SS} {vs : List V} {N : List Str} (A : AsAt P w K Z H as vs) (hl : vs.length ≤ N.length) :
    Rep P w K ⟨H, Lent as vs, Z, vs⟩ (as ++ List.replicate (N.length - as.length) .un) Z (L2.start N vs) H := by
  have hlen := A.len
  have hstart : ∀ i, i < vs.length → (L2.start N vs)[i]? = vs[i]?.map some := fun i hi => by
    unfold L2.start
    rw [List.getElem?_append_left (by simpa using hi), List.getElem?_map]
  have hold : ∀ {i : Nat} {s : SS}, (as ++ List.replicate (N.length - as.length) SS.un)[i]? = some s → s = .un ∨ (i < as.length ∧ as[i]? = some s) := fun {i s} e => by
    by_cases hi : i < as.length
    · rw [List.getElem?_append_left hi] at e
      exact .inr ⟨hi, e⟩
    · rw [List.getElem?_append_right (by omega), List.getElem?_replicate] at e
      split at e
      · cases e; exact .inl rfl
      · cases e
  refine ⟨?_, fun i s e => ?_, fun i j a l o l' o' hne e1 e2 e3 e4 => ?_, fun _ h => h, A.al, fun a ⟨i, l, o, h1, h2⟩ => ?_, A.al, fun a o h _ => h⟩
  · unfold L2.start
    rw [List.length_append, List.length_replicate, List.length_append, List.length_map, List.length_replicate]
    omega
  · rcases hold e with rfl | ⟨hi, q⟩
    · trivial
    · obtain ⟨v, hv, x⟩ := A.at_ i s q
      have hs : (L2.start N vs)[i]? = some (some v) := by
        rw [hstart i (by omega), hv]
        rfl
      cases s with
      | un => exact x.elim
      | fd o => exact x.elim
      | fz d => exact ⟨v, hs, x⟩
      | ow l o =>
        obtain ⟨rfl, a, rfl, hz, ho⟩ := x
        refine ⟨a, hs, hz, ho, ?_⟩
        rw [if_pos rfl]
        exact ⟨hv, i, true, o, q, hv⟩
  · rcases hold e1 with h | ⟨hi, q1⟩
    · cases h
    rcases hold e2 with h | ⟨hj, q2⟩
    · cases h
    rw [hstart i (by omega)] at e3
    rw [hstart j (by omega)] at e4
    have f3 : vs[i]? = some (.ref a) := by
      cases q : vs[i]? with
      | none => rw [q] at e3; cases e3
      | some z => rw [q] at e3; cases e3; rfl
    have f4 : vs[j]? = some (.ref a) := by
      cases q : vs[j]? with
      | none => rw [q] at e4; cases e4
      | some z => rw [q] at e4; cases e4; rfl
    exact A.dist i j a l o l' o' hne q1 q2 f3 f4
  · obtain ⟨v, hv, x⟩ := A.at_ i _ h1
    obtain ⟨_, b, rfl, hz, _⟩ := x
    rw [h2] at hv
    cases hv
    exact hz
/-- THE RULE for a def -/
theorem fn_d {x qual : Str} {st : Stmt} {f : Addr} {fd : FuncData} {N ps : List Str} {k : Nat} {body : Sl → Option Out} (F : Fun K x qual st f fd) (S : FnScope N ps (defScope st))
    (hbody : ∀ (cdv : Value) (A : Around) (outer : List Env) (s : Shared) (H : Hp) (E : XK) (c : Cc), RoomG k (A.deeper (envOfC qual (defScope st) s.heap.objs.size f cdv)) →
      SSs (cxOf CX0 P w K mg base N qual (defScope st) f cdv A outer s H E).nox c (defBody st) body) : FnG P w K mg base (k + 1) f fd ps (spD P w K (kDef ps.length N.length body)) := by
  have hpl : ps.length ≤ N.length := by have := congrArg List.length S.pre; rw [List.length_take] at this; omega
  refine fn_g F S (fun vs H Q E h => ?_) (fun cdv A outer s H vs Q E hr h => ?_)
  · obtain ⟨Z, as, r, outs, hA, e, _⟩ := h
    unfold kDef at e
    split at e
    · rename_i hl
      rw [← hA.len]
      exact hl
    · cases e
  · obtain ⟨Z, as, r, outs, hA, e, q⟩ := h
    unfold kDef at e
    split at e
    case isFalse => cases e
    rename_i hl
    obtain ⟨o, e1, e2⟩ := Option.bind_eq_some_iff.mp e
    have hvl : vs.length = ps.length := by rw [← hA.len]; exact hl
    refine ⟨_, hbody cdv A outer s H E ⟨H, Lent as vs, Z, vs⟩ hr, _, Z, o, by
      have := rep_start (N := N) hA (by omega)
      rw [hl] at this
      exact this, e1, ?_⟩
    have back : ∀ {S' : Sl} {σ' : St} {H' : Hp} {W' Z' : AP}, outsOf as S' = some outs → Rep P w K ⟨H, Lent as vs, Z, vs⟩ S' W' σ' H' → Same (hid Z H) (hid W' H') → (∀ a, Z' a → W' a) → Back P w K Z H as outs vs Z' H' := fun {S' σ' H' W' Z'} ho R s hz => by
      have hsm : Same (hid W' H') (hid Z' H') := hid_anti hz
      refine ⟨s.trans hsm, fun a o h n => R.ent a o h n, fun i l o hi => ?_⟩
      obtain ⟨o', h1, h2⟩ := outsOf_get ho i l o hi
      obtain ⟨a, _, _, ha, hb⟩ := R.slot i _ h1
      rw [if_pos rfl] at hb
      exact ⟨a, true, o', hb.1, h2, ha.move hsm fun u hu => hu⟩
    cases o with
    | bk S' => cases e2
    | ct S' => cases e2
    | nx S' =>
      cases ho : outsOf as S' with
      | none => rw [flow, ho] at e2; cases e2
      | some z =>
        rw [flow, ho] at e2
        cases e2
        intro σ' H' W' R s'
        exact q .non H' (back ho R s' R.z0) .non
    | rt rr S' =>
      cases ho : outsOf as S' with
      | none => rw [flow, ho] at e2; cases e2
      | some z =>
        rw [flow, ho] at e2
        cases e2
        cases r with
        | dt d =>
          intro v σ' H' W' R s' x
          exact q v H' (back ho R s' R.z0) ((hid_anti R.z0).dp x)
        | fr o =>
          intro a σ' H' W' R s' hw hf hob h0
          have hz : ∀ b, addW Z a b → W' b := fun b hb => hb.elim (R.z0 b) fun e => e ▸ hw
          exact q a H' h0 (back ho R s' hz) (hob.move (hid_anti hz) fun u hu => hu)
/-- a stronger promise in the place of a weaker one -/
theorem FnD.imp {k : Nat} {f : Addr} {fd : FuncData} {ps : List Str} {F F' : List SS → Option (RV × List SS)} (h : FnG P w K mg base k f fd ps (spD P w K F)) (hi : ∀ as r, F' as = some r → F as = some r) : FnG P w K mg base k f fd ps (spD P w K F') :=
  h.imp fun vs H Q E ⟨Z, as, r, outs, hA, e, q⟩ => ⟨Z, as, r, outs, hA, hi _ _ e, q⟩
end

/-! ### calls -/
def lentIx : List (D ⊕ Nat) → List Nat
  | [] => []
  | .inl _ :: r => lentIx r
  | .inr i :: r => i :: lentIx r
def lentAll (S : Sl) : List (D ⊕ Nat) → Option (List SS)
  | [] => some []
  | .inl d :: r => (lentAll S r).map fun z => .fz d :: z
  | .inr i :: r => match S[i]? with
    | some (.ow _ o) => (lentAll S r).map fun z => .ow true o :: z
    | _ => none
def backS (S : Sl) : List (D ⊕ Nat) → List SS → Option Sl
  | [], _ => some S
  | .inl _ :: r, _ :: outs => backS S r outs
  | .inr i :: r, .ow _ o :: outs => match S[i]? with
    | some (.ow l _) => backS (S.set i (.ow l o)) r outs
    | _ => none
  | _ :: _, _ => none
def kCall (F : List SS → Option (RV × List SS)) (fa : Sl → Option (List (D ⊕ Nat) × Sl)) : Sl → Option (RV × Sl) := fun S => (fa S).bind fun q => if (lentIx q.1).Nodup then (lentAll q.2 q.1).bind fun as => (F as).bind fun r => (backS q.2 q.1 r.2).bind fun S' => some (r.1, S') else none
def rvE (f : Sl → Option (RV × Sl)) : Sl → Option (D × Sl) := fun S => (f S).bind fun r => match r.1 with
  | .dt d => some (d, r.2)
  | .fr (.lst ds) => some (.list ds, r.2)
  | _ => none
def rvF (f : Sl → Option (RV × Sl)) : Sl → Option (Ob × Sl) := fun S => (f S).bind fun r => match r.1 with
  | .fr o => some (o, r.2)
  | _ => none
theorem lentAll_get {S : Sl} : ∀ {as : List (D ⊕ Nat)} {ss : List SS}, lentAll S as = some ss → ss.length = as.length ∧ ∀ (k : Nat) (s : SS), ss[k]? = some s → (∃ d, as[k]? = some (.inl d) ∧ s = .fz d) ∨ (∃ (i : Nat) (l : Bool) (o : Ob), as[k]? = some (.inr i) ∧ S[i]? = some (.ow l o) ∧ s = .ow true o)
  | [], ss, e => by
    cases e
    exact ⟨rfl, fun k s h => by simp at h⟩
  | .inl d :: r, ss, e => by
    unfold lentAll at e
    cases q : lentAll S r with
    | none => rw [q] at e; cases e
    | some z =>
      rw [q] at e
      cases e
      obtain ⟨h1, h2⟩ := lentAll_get q
      refine ⟨by simp [h1], fun k s h => ?_⟩
      cases k with
      | zero => cases h; exact .inl ⟨d, rfl, rfl⟩
      | succ k => exact h2 k s (by simpa using h)
  | .inr i :: r, ss, e => by
    unfold lentAll at e
    split at e
    · rename_i l o hs
      cases q : lentAll S r with
      | none => rw [q] at e; cases e
      | some z =>
        rw [q] at e
        cases e
        obtain ⟨h1, h2⟩ := lentAll_get q
        refine ⟨by simp [h1], fun k s h => ?_⟩
        cases k with
        | zero => cases h; exact .inr ⟨i, l, o, rfl, hs, rfl⟩
        | succ k => exact h2 k s (by simpa using h)
    · cases e
theorem mem_lentIx : ∀ {as : List (D ⊕ Nat)} {k i : Nat}, as[k]? = some (.inr i) → i ∈ lentIx as
  | [], _, _, h => by simp at h
  | .inl _ :: r, 0, _, h => by simp at h
  | .inl _ :: r, k + 1, i, h => mem_lentIx (as := r) (k := k) (by simpa using h)
  | .inr j :: r, 0, i, h => by simp at h; subst h; exact List.mem_cons_self
  | .inr j :: r, k + 1, i, h => List.mem_cons_of_mem _ (mem_lentIx (as := r) (k := k) (by simpa using h))
theorem of_lentIx : ∀ {as : List (D ⊕ Nat)} {i : Nat}, i ∈ lentIx as → ∃ (k : Nat), as[k]? = some (.inr i)
  | [], _, h => by simp [lentIx] at h
  | .inl _ :: r, i, h => let ⟨k, e⟩ := of_lentIx (as := r) h; ⟨k + 1, by simpa using e⟩
  | .inr j :: r, i, h => by
    rcases List.mem_cons.mp h with rfl | h
    · exact ⟨0, rfl⟩
    · obtain ⟨k, e⟩ := of_lentIx (as := r) h
      exact ⟨k + 1, by simpa using e⟩
theorem lentIx_inj : ∀ {as : List (D ⊕ Nat)} {k m i : Nat}, (lentIx as).Nodup → as[k]? = some (.inr i) → as[m]? = some (.inr i) → k = m
  | [], _, _, _, _, h, _ => by simp at h
  | .inl _ :: r, 0, _, _, _, h, _ => by simp at h
  | .inl _ :: r, _ + 1, 0, _, _, _, h => by simp at h
  | .inl _ :: r, k + 1, m + 1, i, nd, h1, h2 => congrArg (· + 1) (lentIx_inj (as := r) (k := k) (m := m) nd (by simpa using h1) (by simpa using h2))
  | .inr j :: r, 0, 0, _, _, _, _ => rfl
  | .inr j :: r, 0, m + 1, i, nd, h1, h2 => by
    simp at h1
    subst h1
    exact absurd (mem_lentIx (as := r) (k := m) (by simpa using h2)) (List.nodup_cons.mp nd).1
  | .inr j :: r, k + 1, 0, i, nd, h1, h2 => by
    simp at h2
    subst h2
    exact absurd (mem_lentIx (as := r) (k := k) (by simpa using h1)) (List.nodup_cons.mp nd).1
  | .inr j :: r, k + 1, m + 1, i, nd, h1, h2 => congrArg (· + 1) (lentIx_inj (as := r) (k := k) (m := m) (List.nodup_cons.mp nd).2 (by simpa using h1) (by simpa using h2))
theorem backS_get : ∀ {as : List (D ⊕ Nat)} {S S' : Sl} {outs : List SS}, (lentIx as).Nodup → backS S as outs = some S' → S'.length = S.length ∧ (∀ j, j ∉ lentIx as → S'[j]? = S[j]?) ∧
    ∀ (k i : Nat), as[k]? = some (.inr i) → ∃ (l l' : Bool) (o o' : Ob), S[i]? = some (.ow l o) ∧ outs[k]? = some (.ow l' o') ∧ S'[i]? = some (.ow l o')
  | [], S, S', outs, nd, e => by
    unfold backS at e
    cases e
    exact ⟨rfl, fun _ _ => rfl, fun k i h => by simp at h⟩
  | .inl d :: r, S, S', [], nd, e => by simp [backS] at e
  | .inl d :: r, S, S', o :: outs, nd, e => by
    unfold backS at e
    obtain ⟨h0, h1, h2⟩ := backS_get (as := r) nd e
    refine ⟨h0, h1, fun k i h => ?_⟩
    cases k with
    | zero => simp at h
    | succ k =>
      obtain ⟨l, l', o1, o2, q1, q2, q3⟩ := h2 k i (by simpa using h)
      exact ⟨l, l', o1, o2, q1, by simpa using q2, q3⟩
  | .inr j :: r, S, S', [], nd, e => by simp [backS] at e
  | .inr j :: r, S, S', .un :: outs, nd, e => by simp [backS] at e
  | .inr j :: r, S, S', .fz _ :: outs, nd, e => by simp [backS] at e
  | .inr j :: r, S, S', .fd _ :: outs, nd, e => by simp [backS] at e
  | .inr j :: r, S, S', .ow l0 o0 :: outs, nd, e => by
    unfold backS at e
    split at e
    · rename_i l o hs
      have hj : j < S.length := (List.getElem?_eq_some_iff.mp hs).1
      obtain ⟨nj, nd'⟩ := List.nodup_cons.mp nd
      obtain ⟨h0, h1, h2⟩ := backS_get (as := r) nd' e
      refine ⟨by simpa using h0, fun i hi => ?_, fun k i h => ?_⟩
      · have hi' : i ≠ j ∧ i ∉ lentIx r := by
          refine ⟨fun z => hi (z ▸ List.mem_cons_self), fun z => hi (List.mem_cons_of_mem _ z)⟩
        rw [h1 i hi'.2, List.getElem?_set_ne (Ne.symm hi'.1)]
      · cases k with
        | zero =>
          simp at h
          subst h
          refine ⟨l, l0, o, o0, hs, rfl, ?_⟩
          rw [h1 j nj, List.getElem?_set_self hj]
        | succ k =>
          have hk : r[k]? = some (.inr i) := by simpa using h
          have hne : i ≠ j := fun z => nj (z ▸ mem_lentIx hk)
          obtain ⟨l1, l2, o1, o2, q1, q2, q3⟩ := h2 k i hk
          rw [List.getElem?_set_ne (Ne.symm hne)] at q1
          exact ⟨l1, l2, o1, o2, q1, by simpa using q2, q3⟩
    · cases e

section
variable {X : Cx} {c : Cc} {e : Expr} {es : List Expr} {f : Sl → Option (D × Sl)} {pos : Pos} {i : Nat}
def kANil : Sl → Option (List (D ⊕ Nat) × Sl) := fun S => some ([], S)
def kACons (f : Sl → Option (D × Sl)) (g : Sl → Option (List (D ⊕ Nat) × Sl)) : Sl → Option (List (D ⊕ Nat) × Sl) := fun S => (f S).bind fun r => (g r.2).bind fun q => some (.inl r.1 :: q.1, q.2)
def kALent (i : Nat) (g : Sl → Option (List (D ⊕ Nat) × Sl)) : Sl → Option (List (D ⊕ Nat) × Sl) := fun S => match S[i]? with
  | some (.ow _ _) => (g S).bind fun q => some (.inr i :: q.1, q.2)
  | _ => none
theorem a_nil : SA X c [] kANil := pa_imp pa_nil fun σ H Q ⟨S, W, d, S', R, e, k⟩ => by
  cases e
  exact k [] H W R Ks.rfl .nil
theorem a_cons {g : Sl → Option (List (D ⊕ Nat) × Sl)} (h : SE X c e f) (hr : SA X c es g) (hs : starEach (e :: es) X.env = (false, eval e X.env) :: starEach es X.env := by rfl) : SA X c (e :: es) (kACons f g) := pa_imp (pa_cons h hr hs) fun σ H Q ⟨S, W, d, S', R, e, k⟩ => by
  unfold kACons at e
  obtain ⟨⟨d1, S1⟩, e1, e⟩ := Option.bind_eq_some_iff.mp e
  obtain ⟨⟨d2, S2⟩, e2, e⟩ := Option.bind_eq_some_iff.mp e
  cases e
  exact ⟨S, W, d1, S1, R, e1, fun v H1 W1 R1 s1 x1 => ⟨S1, W1, d2, S2, R1, e2, fun vs H2 W2 R2 s2 x2 => k _ H2 W2 R2 (s1.trans s2) (.cons (s2.vis.dp x1) x2)⟩⟩
theorem a_lent {g : Sl → Option (List (D ⊕ Nat) × Sl)} (h : PE X e (tVar i)) (hr : SA X c es g) (hs : starEach (e :: es) X.env = (false, eval e X.env) :: starEach es X.env := by rfl) : SA X c (e :: es) (kALent i g) := pa_imp (pa_cons h hr hs) fun σ H Q ⟨S, W, d, S', R, e, k⟩ => by
  unfold kALent at e
  split at e
  · rename_i l o q
    obtain ⟨⟨d2, S2⟩, e2, e⟩ := Option.bind_eq_some_iff.mp e
    cases e
    obtain ⟨a, h1, _⟩ := R.slot i _ q
    exact ⟨_, h1, S, W, d2, S2, R, e2, fun vs H2 W2 R2 s2 x2 => k _ H2 W2 R2 s2 (.cons h1 x2)⟩
  · cases e

/-- what a call leaves -/
theorem rep_back {P : Program} {w : World} {K : PySem.W.Frag} {S1 S2 : Sl} {W1 Z' : AP} {σ : St} {H1 H' : Hp} {as : List (D ⊕ Nat)} {ss outs : List SS} {vs : List V} (R : Rep P w K c S1 W1 σ H1) (nd : (lentIx as).Nodup) (hl : lentAll S1 as = some ss)
    (hp : Paired (fun v a => ArgAt K (hid W1 H1) σ v a) vs as) (hb : backS S1 as outs = some S2) (B : Back P w K W1 H1 ss outs vs Z' H') (hz : ∀ a, W1 a → Z' a) (hz' : ∀ a, Z' a → W1 a ∨ ∃ o, H' a = some o) :
    Rep P w K c S2 Z' σ H' ∧ Ks σ S1 W1 H1 S2 Z' H' := by
  obtain ⟨hll, hget⟩ := lentAll_get hl
  obtain ⟨b0, b1, b2⟩ := backS_get nd hb
  -- a lent address stands in its slot
  have lent_slot : ∀ {k : Nat} {l : Bool} {o : Ob} {a : Addr}, ss[k]? = some (.ow l o) → vs[k]? = some (.ref a) → ∃ (i : Nat) (l' : Bool), as[k]? = some (.inr i) ∧ S1[i]? = some (.ow l' o) ∧ σ[i]? = some (some (.ref a)) := fun {k l o a} h1 h2 => by
    rcases hget k _ h1 with ⟨d, q1, q2⟩ | ⟨i, l', o', q1, q2, q3⟩
    · cases q2
    · cases q3
      obtain ⟨v, hv, x⟩ := paired_get' hp q1
      rw [h2] at hv
      cases hv
      exact ⟨i, l', q1, q2, x⟩
  have lent_of : ∀ {i : Nat} {l : Bool} {o : Ob} {a : Addr}, S1[i]? = some (.ow l o) → σ[i]? = some (some (.ref a)) → Lent ss vs a → i ∈ lentIx as := fun {i l o a} h1 h2 ⟨k, l', o', h3, h4⟩ => by
    obtain ⟨j, l'', q1, q2, q3⟩ := lent_slot h3 h4
    by_cases hij : j = i
    · subst hij
      exact mem_lentIx q1
    · exact absurd q3 (R.dist i j a _ _ _ _ (Ne.symm hij) h1 q2 h2)
  have there : ∀ a u, H1 a = some u → ∃ u', H' a = some u' := fun a u h => by
    by_cases hL : Lent ss vs a
    · obtain ⟨k, l, o, h1, h2⟩ := hL
      obtain ⟨b, l', o', q1, q2, q3⟩ := B.out k l o h1
      rw [h2] at q1
      cases q1
      exact q3.there
    · exact ⟨u, B.old a u h hL⟩
  -- a slot of S2: lent, or as it was
  have cases2 : ∀ {j : Nat} {s : SS}, S2[j]? = some s → (j ∉ lentIx as ∧ S1[j]? = some s) ∨ (∃ (k : Nat) (l l' : Bool) (o o' : Ob), as[k]? = some (.inr j) ∧ S1[j]? = some (.ow l o) ∧ outs[k]? = some (.ow l' o') ∧ s = .ow l o') := fun {j s} h => by
    by_cases hj : j ∈ lentIx as
    · obtain ⟨k, hk⟩ := of_lentIx hj
      obtain ⟨l, l', o, o', q1, q2, q3⟩ := b2 k j hk
      rw [q3] at h
      cases h
      exact .inr ⟨k, l, l', o, o', hk, q1, q2, rfl⟩
    · rw [b1 j hj] at h
      exact .inl ⟨hj, h⟩
  have owned : ∀ {j : Nat} {l : Bool} {o : Ob}, S2[j]? = some (.ow l o) → ∃ o', S1[j]? = some (.ow l o') := fun {j l o} h => by
    rcases cases2 h with ⟨_, q⟩ | ⟨k, l1, l', o1, o', q1, q2, q3, q4⟩
    · exact ⟨o, q⟩
    · cases q4
      exact ⟨o1, q2⟩
  refine ⟨⟨b0.trans R.len, fun j s h => ?_, fun i j a l o l' o' hne h1 h2 h3 h4 => ?_, fun a h => hz a (R.z0 a h), R.zh, R.lz, fun a h => ?_, fun a o h n => ?_⟩, ⟨B.vis, fun j l o h => ?_, fun a u h1 h2 h3 => ?_, there⟩⟩
  · rcases cases2 h with ⟨hj, q⟩ | ⟨k, l1, l', o1, o', q1, q2, q3, q4⟩
    · have z := R.slot j s q
      cases s with
      | un => trivial
      | fz d =>
        obtain ⟨x, z1, z2⟩ := z
        exact ⟨x, z1, B.vis.dp z2⟩
      | fd o =>
        obtain ⟨x, z1, z2⟩ := z
        exact ⟨x, z1, z2.move B.vis⟩
      | ow l o =>
        obtain ⟨a, z1, z2, z3, z4⟩ := z
        refine ⟨a, z1, hz a z2, z3.move B.vis fun u hu => B.old a u hu fun hL => hj (lent_of q z1 hL), z4⟩
    · subst q4
      obtain ⟨a, z1, z2, z3, z4⟩ := R.slot j _ q2
      have hss : ∃ l o, ss[k]? = some (.ow l o) := by
        have hk : k < ss.length := by rw [hll]; exact (List.getElem?_eq_some_iff.mp q1).1
        rcases hget k _ (List.getElem?_eq_getElem hk) with ⟨d, r1, r2⟩ | ⟨i, l', o', r1, r2, r3⟩
        · rw [r1] at q1
          cases q1
        · exact ⟨_, _, by rw [List.getElem?_eq_getElem hk, r3]⟩
      obtain ⟨lk, ok, hss⟩ := hss
      obtain ⟨b, lb, ob, r1, r2, r3⟩ := B.out k _ _ hss
      rw [q3] at r2
      cases r2
      obtain ⟨i', l2, t1, t2, t3⟩ := lent_slot hss r1
      rw [q1] at t1
      cases t1
      rw [z1] at t3
      cases t3
      exact ⟨a, z1, hz a z2, r3, z4⟩
  · obtain ⟨_, r1⟩ := owned h1
    obtain ⟨_, r2⟩ := owned h2
    exact R.dist i j a _ _ _ _ hne r1 r2 h3 h4
  · rcases hz' a h with q | q
    · obtain ⟨u, hu⟩ := R.al a q
      exact there a u hu
    · exact q
  · have q := R.ent a o h n
    refine B.old a o q fun ⟨k, l, o', h1, h2⟩ => ?_
    obtain ⟨i, l', q1, q2, q3⟩ := lent_slot h1 h2
    obtain ⟨b, z1, z2, z3, z4⟩ := R.slot i _ q2
    rw [q3] at z1
    cases z1
    split at z4
    · exact n z4.2
    · rw [h] at z4
      cases z4
  · obtain ⟨o', q⟩ := owned h
    exact ⟨l, o', q⟩
  · refine ⟨B.old a u h2 fun ⟨k, l, o', q1, q2⟩ => ?_, hz a h1⟩
    obtain ⟨i, l', t1, t2, t3⟩ := lent_slot q1 q2
    exact h3 i l' o' t2 t3
theorem asAt_of {P : Program} {w : World} {K : PySem.W.Frag} {S1 : Sl} {W1 : AP} {σ : St} {H1 : Hp} {as : List (D ⊕ Nat)} {ss : List SS} {vs : List V} (R : Rep P w K c S1 W1 σ H1) (nd : (lentIx as).Nodup) (hl : lentAll S1 as = some ss)
    (hp : Paired (fun v a => ArgAt K (hid W1 H1) σ v a) vs as) : AsAt P w K W1 H1 ss vs := by
  obtain ⟨hll, hget⟩ := lentAll_get hl
  refine ⟨hll.trans hp.length.symm, fun k s h => ?_, fun i j a l o l' o' hne h1 h2 h3 h4 => ?_, R.al⟩
  · rcases hget k s h with ⟨d, q1, rfl⟩ | ⟨i, l, o, q1, q2, rfl⟩
    · obtain ⟨v, hv, x⟩ := paired_get' hp q1
      exact ⟨v, hv, x⟩
    · obtain ⟨v, hv, x⟩ := paired_get' hp q1
      obtain ⟨a, z1, z2, z3, z4⟩ := R.slot i _ q2
      have x' : σ[i]? = some (some v) := x
      rw [z1] at x'
      cases x'
      exact ⟨_, hv, rfl, a, rfl, z2, z3⟩
  · rcases hget i _ h1 with ⟨d, q1, q2⟩ | ⟨i1, l1, o1, q1, q2, q3⟩
    · cases q2
    rcases hget j _ h2 with ⟨d, r1, r2⟩ | ⟨i2, l2, o2, r1, r2, r3⟩
    · cases r2
    have hi : i1 ≠ i2 := fun z => by
      subst z
      exact hne (lentIx_inj nd q1 r1)
    obtain ⟨v1, hv1, x1⟩ := paired_get' hp q1
    obtain ⟨v2, hv2, x2⟩ := paired_get' hp r1
    rw [h3] at hv1
    cases hv1
    rw [h4] at hv2
    cases hv2
    exact R.dist i1 i2 a _ _ _ _ hi q2 r2 x1 x2
variable {CX : CXT} {k : Nat} {g : Addr} {fd : FuncData} {ps : List Str} {F : List SS → Option (RV × List SS)} {fa : Sl → Option (List (D ⊕ Nat) × Sl)} {x : Str} {p : Pos}
theorem re_call {P : Program} {w : World} {K : PySem.W.Frag} {σ : St} {H : Hp} {Q : VK} {E : XK} (h : RE P w K c (rvE (kCall F fa)) σ H Q) : tCall (spD P w K F) [] E (RA P w K c fa) σ H Q := by
  obtain ⟨S, W, d, S', R, e, k⟩ := h
  unfold rvE kCall at e
  obtain ⟨⟨rv, S2⟩, e1, e⟩ := Option.bind_eq_some_iff.mp e
  obtain ⟨⟨as, S1⟩, e2, e1⟩ := Option.bind_eq_some_iff.mp e1
  split at e1
  case isFalse => cases e1
  rename_i nd
  obtain ⟨ss, e3, e1⟩ := Option.bind_eq_some_iff.mp e1
  obtain ⟨⟨r, outs⟩, e4, e1⟩ := Option.bind_eq_some_iff.mp e1
  obtain ⟨S2', e5, e1⟩ := Option.bind_eq_some_iff.mp e1
  cases e1
  refine ⟨S, W, as, S1, R, e2, fun vs H1 W1 R1 s1 hp => ?_⟩
  show spD P w K F (vs ++ []) H1 Q E
  rw [List.append_nil]
  refine ⟨W1, ss, r, outs, asAt_of R1 nd e3 hp, e4, ?_⟩
  cases r with
  | dt d0 =>
    cases e
    intro v H' B hd
    obtain ⟨R2, s2⟩ := rep_back R1 nd e3 hp e5 B (fun _ h => h) fun _ h => .inl h
    exact k v H' W1 R2 (s1.trans s2) hd
  | fr o =>
    cases o with
    | dk _ => cases e
    | dn _ => cases e
    | lst ds =>
      cases e
      intro a H' hn B ho
      obtain ⟨R2, s2⟩ := rep_back R1 nd e3 hp e5 B (fun _ h => .inl h) fun b hb => hb.elim .inl fun z => .inr (z ▸ ho.there)
      -- a is let go
      have na : ∀ b u, H1 b = some u → b ≠ a := fun b u h z => by
        rw [z, hn] at h
        cases h
      have hsm : Same (hid (addW W1 a) H') (hid W1 H') := hid_anti fun b hb => .inl hb
      obtain ⟨xs, q1, q2⟩ := ho
      have naW : ¬ W1 a := fun z => by
        obtain ⟨u, hu⟩ := R1.al a z
        rw [hn] at hu
        cases hu
      have R3 : Rep P w K c S2 W1 σ H' := by
        refine ⟨R2.len, fun j t q => ?_, R2.dist, fun b q => R1.z0 b q, R2.zh, R2.lz, fun b q => R2.al b (.inl q), R2.ent⟩
        have z := R2.slot j t q
        cases t with
        | un => trivial
        | fz d =>
          obtain ⟨x, z1, z2⟩ := z
          exact ⟨x, z1, hsm.dp z2⟩
        | fd o =>
          obtain ⟨x, z1, z2⟩ := z
          exact ⟨x, z1, z2.move hsm⟩
        | ow l' u =>
          obtain ⟨b, z1, z2, z3, z4⟩ := z
          refine ⟨b, z1, z2.elim id fun y => ?_, z3.move hsm fun u' hu' => hu', z4⟩
          obtain ⟨l3, o3, q3⟩ := s2.sl j l' u q
          exact absurd (y ▸ z1) (R1.newFree hn j l3 o3 q3)
      exact k (.ref a) H' W1 R3 (s1.trans ⟨s2.vis.trans hsm, s2.sl, fun b u h1 h2 h3 => ⟨(s2.own b u h1 h2 h3).1, h1⟩, s2.there⟩)
        (.lst (.inl (.inl (hid_some.mpr ⟨naW, q1⟩))) (hsm.dps q2))
theorem rf_call {P : Program} {w : World} {K : PySem.W.Frag} {σ : St} {H : Hp} {Q : VK} {E : XK} (h : RF P w K c (rvF (kCall F fa)) σ H Q) : tCall (spD P w K F) [] E (RA P w K c fa) σ H Q := by
  obtain ⟨S, W, d, S', R, e, k⟩ := h
  unfold rvF kCall at e
  obtain ⟨⟨rv, S2⟩, e1, e⟩ := Option.bind_eq_some_iff.mp e
  obtain ⟨⟨as, S1⟩, e2, e1⟩ := Option.bind_eq_some_iff.mp e1
  split at e1
  case isFalse => cases e1
  rename_i nd
  obtain ⟨ss, e3, e1⟩ := Option.bind_eq_some_iff.mp e1
  obtain ⟨⟨r, outs⟩, e4, e1⟩ := Option.bind_eq_some_iff.mp e1
  obtain ⟨S2', e5, e1⟩ := Option.bind_eq_some_iff.mp e1
  cases e1
  refine ⟨S, W, as, S1, R, e2, fun vs H1 W1 R1 s1 hp => ?_⟩
  show spD P w K F (vs ++ []) H1 Q E
  rw [List.append_nil]
  refine ⟨W1, ss, r, outs, asAt_of R1 nd e3 hp, e4, ?_⟩
  cases r with
  | dt d0 => cases e
  | fr o =>
    cases e
    intro a H' hn B ho
    obtain ⟨R2, s2⟩ := rep_back R1 nd e3 hp e5 B (fun _ h => .inl h) fun b hb => hb.elim .inl fun z => .inr (z ▸ ho.there)
    exact k a H' _ R2 (s1.trans s2) (s1.was hn) (.inr rfl) (fun j l o q => by
      obtain ⟨l3, o3, q3⟩ := s2.sl j l o q
      exact R1.newFree hn j l3 o3 q3) ho (R1.new0 hn)
theorem s_call (F' : FnG X.prog X.w X.K X.mg X.base k g fd ps (spD X.prog X.w X.K F)) (hr : RoomG k X.A) (hg : Gl X x) (hm : X.mg x = some (.ref g)) (hk : PySem.W.keepIn X.K (.ref g) = true) (hb : Binds X.K fd ps [])
    (ha : SA X c (e :: es) fa) (hdb : (x == ("__debug__" : Str)) = false := by decide) (he : starEach (e :: es) X.env = (false, eval e X.env) :: starEach es X.env := by rfl) (hpl : (backTo pos (starEach es X.env)).any (·.1) = false := by rfl) :
    SE X c (.Call (.Name x p) (e :: es) [] pos) (rvE (kCall F fa)) := pe_imp (pe_callG F' hr hg hm hk hb pass0 ha hdb he hpl) fun _ _ _ h => re_call h
theorem f_call (F' : FnG X.prog X.w X.K X.mg X.base k g fd ps (spD X.prog X.w X.K F)) (hr : RoomG k X.A) (hg : Gl X x) (hm : X.mg x = some (.ref g)) (hk : PySem.W.keepIn X.K (.ref g) = true) (hb : Binds X.K fd ps [])
    (ha : SA X c (e :: es) fa) (hdb : (x == ("__debug__" : Str)) = false := by decide) (he : starEach (e :: es) X.env = (false, eval e X.env) :: starEach es X.env := by rfl) (hpl : (backTo pos (starEach es X.env)).any (·.1) = false := by rfl) :
    SF X c (.Call (.Name x p) (e :: es) [] pos) (rvF (kCall F fa)) := pe_imp (pe_callG F' hr hg hm hk hb pass0 ha hdb he hpl) fun _ _ _ h => rf_call h
end
end VD
/-! VD5: parallel stores, loops, comprehensions. -/
namespace VD
open PySem PySem.Spec PyProof.Rows L2

/-! ### a, b = .., .. -/
def setRV (i : Nat) (r : RV) (S : Sl) : Sl := match r with
  | .dt d => S.set i (.fz d)
  | .fr o => S.set i (.ow false o)
def setAll (S : Sl) : List Nat → List RV → Sl
  | i :: is, r :: rs => setAll (setRV i r S) is rs
  | _, _ => S
def sset (σ : St) : List Nat → List V → St
  | i :: is, v :: vs => sset (σ.set i (some v)) is vs
  | _, _ => σ
def kPar (is : List Nat) (f : Sl → Option (List RV × Sl)) : Sl → Option Out := fun S => (f S).bind fun r => if r.1.length = is.length then some (.nx (setAll r.2 is r.1)) else none
section
variable {P : Program} {w : World} {K : PySem.W.Frag} {c : Cc}
theorem rep_setAll : ∀ {is : List Nat} {vs : List V} {rs : List RV} {S : Sl} {W : AP} {σ : St} {H Hs : Hp}, Rep P w K c S W σ H → Paired (fun v r => RVAt P w K c Hs (hid W H) H W σ S v r) vs rs → Apart vs rs → Rep P w K c (setAll S is rs) W (sset σ is vs) H
  | [], _, _, _, _, _, _, _, R, _, _ => by unfold setAll sset; exact R
  | _ :: _, [], [], _, _, _, _, _, R, _, _ => by unfold setAll sset; exact R
  | i :: is, v :: vs, r :: rs, S, W, σ, H, Hs, R, .cons x xs, ap => by
    unfold setAll sset
    have rest : ∀ {S' : Sl}, S' = setRV i r S → (∀ (j : Nat) (l : Bool) (o : Ob), S'[j]? = some (.ow l o) → j ≠ i → S[j]? = some (.ow l o)) → (∀ (k : Nat) (o : Ob) (b : Addr), rs[k]? = some (.fr o) → vs[k]? = some (.ref b) → (∃ l u, S'[i]? = some (.ow l u)) → v ≠ .ref b) →
        Paired (fun v' r => RVAt P w K c Hs (hid W H) H W (σ.set i (some v)) S' v' r) vs rs := fun {S'} hS h1 h2 => by
      have all : ∀ (k : Nat) (u : V) (q : RV), vs[k]? = some u → rs[k]? = some q → RVAt P w K c Hs (hid W H) H W σ S u q → RVAt P w K c Hs (hid W H) H W (σ.set i (some v)) S' u q := fun k u q e1 e2 z => by
        cases q with
        | dt d => exact z
        | fr o =>
          obtain ⟨a, rfl, n0, n1, n2, n3, n4⟩ := z
          refine ⟨a, rfl, n0, n1, fun j l o' e3 e4 => ?_, n3, n4⟩
          by_cases hj : j = i
          · subst hj
            have hlt : j < σ.length := by
              have := (List.getElem?_eq_some_iff.mp e4).1
              simpa using this
            rw [List.getElem?_set_self hlt] at e4
            cases e4
            exact h2 k o a e2 e1 ⟨_, _, e3⟩ rfl
          · rw [List.getElem?_set_ne (Ne.symm hj)] at e4
            exact n2 j l o' (h1 j l o' e3 hj) e4
      clear h1 h2 ap
      induction xs with
      | nil => exact .nil
      | cons y ys ih => exact .cons (all 0 _ _ rfl rfl y) (ih fun k u q e1 e2 z => all (k + 1) u q (by simpa using e1) (by simpa using e2) z)
    cases r with
    | dt d =>
      refine rep_setAll (Hs := Hs) (R.setfz (i := i) x) (rest rfl (fun j l o e hj => ?_) fun k o b _ _ ⟨l, u, e⟩ => ?_) ap
      · rw [show setRV i (.dt d) S = S.set i (.fz d) from rfl, List.getElem?_set_ne (Ne.symm hj)] at e
        exact e
      · rw [show setRV i (.dt d) S = S.set i (.fz d) from rfl] at e
        by_cases hl : i < S.length
        · rw [List.getElem?_set_self hl] at e
          cases e
        · rw [List.getElem?_eq_none (by simpa using hl)] at e
          cases e
    | fr o =>
      obtain ⟨a, rfl, n0, n1, n2, n3, n4⟩ := x
      refine rep_setAll (Hs := Hs) (R.setow (i := i) n1 n2 n3 n4) (rest rfl (fun j l o e hj => ?_) fun k o b e1 e2 _ z => ?_) ap.2
      · rw [show ∀ o', setRV i (.fr o') S = S.set i (.ow false o') from fun _ => rfl, List.getElem?_set_ne (Ne.symm hj)] at e
        exact e
      · exact ap.1 k o e1 (by rw [e2, z])
end
section
variable {X : Cx} {c : Cc} {pos : Pos} {i j : Nat} {fm : Sl → Option (List RV × Sl)}
theorem rm_par {P : Program} {w : World} {K : PySem.W.Frag} {is : List Nat} {D : Ends} {σ : St} {H : Hp} (h : RS P w K c (kPar is fm) D σ H) : RM P w K c fm σ H fun vs H1 => vs.length = is.length ∧ D.nx (sset σ is vs) H1 := by
  obtain ⟨S, W, r, R, e, k⟩ := h
  unfold kPar at e
  obtain ⟨⟨rs, S1⟩, e1, e⟩ := Option.bind_eq_some_iff.mp e
  split at e
  · rename_i hl
    cases e
    exact ⟨S, W, rs, S1, R, e1, fun vs H1 W1 R1 s1 x a => ⟨x.length.trans hl, k _ H1 W1 (rep_setAll R1 x a) s1.vis⟩⟩
  · cases e
theorem p_par2 {x y : Str} {a b : Expr} {px py pt : Pos} {kt k2 pt2} (hc : X.calm = true) (hN : X.N.Nodup) (hi : X.N[i]? = some x) (hj : X.N[j]? = some y) (hij : i ≠ j)
    (hx : X.env.scope.names.lookup x = some .local) (hy : X.env.scope.names.lookup y = some .local) (ha : SM X c [a, b] fm)
    (hw : swappedStores [.Tuple [.Name x px, .Name y py] kt pt] (.Tuple [a, b] k2 pt2) X.env = pure (some [x, y]))
    (hs : swapsWithSole [.Tuple [.Name x px, .Name y py] kt pt] (.Tuple [a, b] k2 pt2) pos.line X.env = pure false := by rfl) :
    SS1 X c (.Assign [.Tuple [.Name x px, .Name y py] kt pt] (.Tuple [a, b] k2 pt2) pos) (kPar [i, j] fm) := ps_imp (ps_par hc hN hi hj hij hx hy ha hw hs) fun D σ H h => by
  obtain ⟨S, W, rs, S1, R, e1, k⟩ := rm_par h
  refine ⟨S, W, rs, S1, R, e1, fun vs H1 W1 R1 s1 x a => ?_⟩
  obtain ⟨hl, q⟩ := k vs H1 W1 R1 s1 x a
  match vs, hl, q with
  | [v, u], _, q => exact ⟨v, u, rfl, q⟩
/-- names alone, one after the other -/
def gNames (is : List Nat) : TGs := fun vs σ H Q => vs.length = is.length ∧ Q (sset σ is vs) H
theorem ng_nil : PGs X [] (gNames []) := pgs_imp pgs_nil fun vs σ H Q ⟨hl, q⟩ => by
  match vs, hl, q with
  | [], _, q => exact ⟨rfl, q⟩
theorem ng_cons {e : Expr} {es : List Expr} {is : List Nat} (h1 : PG X e (gName i)) (h2 : PGs X es (gNames is)) (hs : (assignEach (e :: es) X.env).map (·.2) = assign e X.env :: (assignEach es X.env).map (·.2) := by rfl) : PGs X (e :: es) (gNames (i :: is)) := pgs_imp (pgs_cons h1 h2 hs) fun vs σ H Q ⟨hl, q⟩ => by
  match vs, hl, q with
  | v :: vs, hl, q => exact ⟨v, vs, rfl, by simpa using hl, q⟩
theorem p_parT {es ts : List Expr} {k kt : Nat} {x1} {pt pe : Pos} {is : List Nat} (hc : X.calm = true) (ha : SM X c es fm) (hg : PGs X ts (gNames is)) (hn : (assignEach ts X.env).length = is.length := by rfl) (hst : (assignEach ts X.env).findIdx? (·.1) = none := by rfl)
    (hs : swapsWithSole [.Tuple ts kt pt] (.Tuple es x1 pe) pos.line X.env = pure false := by rfl) (hw : swappedStores [.Tuple ts kt pt] (.Tuple es x1 pe) X.env = pure none := by rfl) (h1 : (assignEach [.Tuple ts kt pt] X.env).map (·.2) = [assign (.Tuple ts kt pt) X.env] := by rfl) (hsz : is.length ≤ 1000) :
    SS1 X c (.Assign [.Tuple ts kt pt] (.Tuple es x1 pe) pos) (kPar is fm) := ps_imp (ps_asg (pe_tup ha) (pg_tup hc hg hn hst) hs hw h1) fun D σ H h => by
  obtain ⟨S, W, r, R, e, k⟩ := h
  unfold kPar at e
  obtain ⟨⟨rs, S1⟩, e1, e⟩ := Option.bind_eq_some_iff.mp e
  split at e
  case isFalse => cases e
  rename_i hl
  cases e
  refine ⟨S, W, rs, S1, R, e1, fun vs H1 W1 R1 s1 x a => ⟨?_, fun p hp => ?_⟩⟩
  · rw [x.length, hl]
    exact line_of (Nat.le_trans hsz (by decide))
  · have hvl : vs.length = is.length := x.length.trans hl
    refine ⟨p, vs, rfl, .inl (.inl upd_same), hvl, hvl, ?_⟩
    have R2 : Rep X.prog X.w X.K c S1 W1 σ (upd H1 p (.tup vs)) := R1.laid hp
    exact k _ _ W1 (rep_setAll (Hs := H) R2 (Paired.mapP x fun v r z => by
      cases r with
      | dt d => exact (hid_laid hp).dp z
      | fr o =>
        obtain ⟨b, z1, z2, z3, z4, z5, z6⟩ := z
        exact ⟨b, z1, z2, z3, z4, z5.move (hid_laid hp) fun u hu => by rw [upd_ne (ne_of_none hu hp)]; exact hu, z6⟩) a) (s1.vis.trans (hid_laid hp))
end

/-! ### what is walked -/
structure WkD (K : PySem.W.Frag) (J : It) (W : AP) (H : Hp) (ds : List D) : Prop where
  go : ∀ (i : Nat) (W2 : AP) (H2 : Hp), Same (hid W H) (hid W2 H2) → i < ds.length → J.go i H2
  stop : ∀ (W2 : AP) (H2 : Hp), Same (hid W H) (hid W2 H2) → J.stop ds.length H2
  yld : ∀ (i : Nat) (W2 : AP) (H2 : Hp) (x : V) (H3 : Hp), AlW W2 H2 → Same (hid W H) (hid W2 H2) → i < ds.length → J.yld i H2 x H3 → (H3 = H2 ∨ ∃ p o, H2 p = none ∧ H3 = upd H2 p o) ∧ ∃ d, ds[i]? = some d ∧ Dp K (hid W2 H3) x d
section
variable (P : Program) (w : World) (K : PySem.W.Frag) (c : Cc)
def RI (f : Sl → Option (List D × Sl)) : TI := fun σ H Q => ∃ S W ds S', Rep P w K c S W σ H ∧ f S = some (ds, S') ∧ ∀ J H' W', Rep P w K c S' W' σ H' → Ks σ S W H S' W' H' → WkD K J W' H' ds → Q J H'
end
abbrev SI (X : Cx) (c : Cc) (tg e : Expr) (f : Sl → Option (List D × Sl)) : Prop := PI X tg e (RI X.prog X.w X.K c f)
def forS (tg : D → Sl → Option Sl) (body : Sl → Option Out) : List D → Sl → Option Out
  | [], S => some (.nx S)
  | d :: ds, S => (tg d S).bind fun S1 => (body S1).bind fun o => match o with
    | .nx S2 => forS tg body ds S2
    | .ct S2 => forS tg body ds S2
    | .bk S2 => some (.nx S2)
    | .rt r S2 => some (.rt r S2)
def kFor (fi : Sl → Option (List D × Sl)) (tg : D → Sl → Option Sl) (body : Sl → Option Out) : Sl → Option Out := fun S => (fi S).bind fun q => forS tg body q.1 q.2
def whileS (t : Sl → Option (Bool × Sl)) (body : Sl → Option Out) : Nat → Sl → Option Out
  | 0, _ => none
  | n + 1, S => (t S).bind fun q => if q.1 = true then (body q.2).bind fun o => match o with
    | .nx S2 => whileS t body n S2
    | .ct S2 => whileS t body n S2
    | .bk S2 => some (.nx S2)
    | .rt r S2 => some (.rt r S2) else some (.nx q.2)
section
variable {X : Cx} {c : Cc} {pos : Pos} {tg iter : Expr} {fi : Sl → Option (List D × Sl)} {tgf : D → Sl → Option Sl} {body : List Stmt} {fb : Sl → Option Out} {t : Sl → Option (Bool × Sl)}
theorem p_for (hp : PassesOwn (model X.prog X.w) X.A X.env X.xe) (hc : X.calm = true) (hi : SI X c tg iter fi) (hg : SG X c tg tgf) (hb : SSs X c body fb)
    (hs : ∀ x, foldedSetIterable iter X.env x = pure x := by intro _; rfl) : SS1 X c (.For tg iter body [] pos) (kFor fi tgf fb) := ps_imp (ps_for hp hc hi hg hb hs) fun D σ H ⟨S, W, r, R, e, k⟩ => by
  unfold kFor at e
  obtain ⟨⟨ds, S1⟩, e1, e⟩ := Option.bind_eq_some_iff.mp e
  refine ⟨S, W, ds, S1, R, e1, fun J H1 W1 R1 s1 wk => ?_⟩
  refine ⟨fun i m σ' H' => m = ds.length - i ∧ i ≤ ds.length ∧ ∃ S' W' r', Rep X.prog X.w X.K c S' W' σ' H' ∧ Same (hid W1 H1) (hid W' H') ∧ forS tgf fb (ds.drop i) S' = some r' ∧ PostS X.prog X.w X.K c W' H' D r',
    ⟨ds.length, by simp, Nat.zero_le _, S1, W1, r, R1, Same.refl _, by simpa using e, k.after s1.vis⟩, ?_⟩
  rintro i m σ' H' ⟨rfl, hi', S', W', r', R', s', e', k'⟩
  by_cases hlt : i < ds.length
  · refine .inr ⟨wk.go i W' H' s' hlt, fun σ'' H'' => ∃ S'' W'' r'', Rep X.prog X.w X.K c S'' W'' σ'' H'' ∧ Same (hid W1 H1) (hid W'' H'') ∧ forS tgf fb (ds.drop (i + 1)) S'' = some r'' ∧ PostS X.prog X.w X.K c W'' H'' D r'', fun σ'' H'' hn => ⟨ds.length - (i + 1), by omega, rfl, hlt, hn⟩, fun x H3 hy => ?_⟩
    obtain ⟨hg3, d, hd, xd⟩ := wk.yld i W' H' x H3 R'.al s' hlt hy
    have hdrop : ds.drop i = d :: ds.drop (i + 1) := by
      rw [List.drop_eq_getElem_cons hlt]
      have := List.getElem?_eq_getElem hlt
      rw [this] at hd
      cases hd
      rfl
    rw [hdrop] at e'
    unfold forS at e'
    obtain ⟨S2, e2, e'⟩ := Option.bind_eq_some_iff.mp e'
    obtain ⟨o, e3, e'⟩ := Option.bind_eq_some_iff.mp e'
    obtain ⟨R3, s3⟩ := R'.grown hg3
    refine ⟨S', W', d, S2, R3, xd, e2, fun σ4 H4 W4 R4 s4 => ⟨S2, W4, o, R4, e3, ?_⟩⟩
    have s14 := s'.trans (s3.vis.trans s4)
    have k4 := (k'.after (s3.vis.trans s4))
    cases o with
    | nx S5 => exact fun σ5 H5 W5 R5 s5 => ⟨S5, W5, r', R5, s14.trans s5, e', k4.after s5⟩
    | ct S5 => exact fun σ5 H5 W5 R5 s5 => ⟨S5, W5, r', R5, s14.trans s5, e', k4.after s5⟩
    | bk S5 => cases e'; exact fun σ5 H5 W5 R5 s5 => k4 σ5 H5 W5 R5 s5
    | rt rr S5 => cases e'; cases rr <;> exact k4
  · have hi'' : i = ds.length := by omega
    subst hi''
    rw [List.drop_length] at e'
    cases e'
    exact .inl ⟨wk.stop W' H' s', k' σ' H' W' R' (Same.refl _)⟩
theorem p_while {cc : Expr} (n : Nat) (hp : PassesOwn (model X.prog X.w) X.A X.env X.xe) (hc : ST X c cc t) (hb : SSs X c body fb) : SS1 X c (.While cc body [] pos) (whileS t fb n) := ps_imp (ps_while hp hc hb) fun D σ H ⟨S, W, r, R, e, k⟩ => by
  refine ⟨fun m σ' H' => ∃ S' W' r', Rep X.prog X.w X.K c S' W' σ' H' ∧ whileS t fb m S' = some r' ∧ PostS X.prog X.w X.K c W' H' D r', ⟨n, S, W, r, R, e, k⟩, ?_⟩
  rintro m σ' H' ⟨S', W', r', R', e', k'⟩
  cases m with
  | zero => cases e'
  | succ m =>
    unfold whileS at e'
    obtain ⟨⟨b, S2⟩, e2, e'⟩ := Option.bind_eq_some_iff.mp e'
    refine ⟨S', W', b, S2, R', e2, fun H2 W2 R2 s2 => ?_⟩
    have k2 := k'.after s2.vis
    cases b with
    | false =>
      have e4 : some (Out.nx S2) = some r' := e'
      cases e4
      exact iteF (k2 σ' H2 W2 R2 (Same.refl _))
    | true =>
      obtain ⟨o, e3, e'⟩ := Option.bind_eq_some_iff.mp (show (fb S2).bind _ = some r' from e')
      refine iteT ⟨fun σ'' H'' => ∃ S'' W'' r'', Rep X.prog X.w X.K c S'' W'' σ'' H'' ∧ whileS t fb m S'' = some r'' ∧ PostS X.prog X.w X.K c W'' H'' D r'', fun σ'' H'' hn => ⟨m, Nat.lt_succ_self m, hn⟩, S2, W2, o, R2, e3, ?_⟩
      cases o with
      | nx S5 => exact fun σ5 H5 W5 R5 s5 => ⟨S5, W5, r', R5, e', k2.after s5⟩
      | ct S5 => exact fun σ5 H5 W5 R5 s5 => ⟨S5, W5, r', R5, e', k2.after s5⟩
      | bk S5 => cases e'; exact fun σ5 H5 W5 R5 s5 => k2 σ5 H5 W5 R5 s5
      | rt rr S5 => cases e'; cases rr <;> exact k2
end

/-! ### comprehensions -/
def kYes : Sl → Option (Bool × Sl) := fun S => some (true, S)
def lcS (tg : D → Sl → Option Sl) (tt : Sl → Option (Bool × Sl)) (te : Sl → Option (D × Sl)) (vs : List Nat) : List D → List D → Sl → Option (List D × Sl)
  | [], acc, S => some (acc, S)
  | d :: ds, acc, S => (tg d S).bind fun S1 => (tt S1).bind fun q => if q.1 = true then (te q.2).bind fun r => if acc.length < 1000000 then lcS tg tt te vs ds (acc ++ [r.1]) (unS r.2 vs) else none else lcS tg tt te vs ds acc (unS q.2 vs)
def kLC (fi : Sl → Option (List D × Sl)) (tg : D → Sl → Option Sl) (tt : Sl → Option (Bool × Sl)) (te : Sl → Option (D × Sl)) (vs : List Nat) : Sl → Option (Ob × Sl) := fun S => (fi S).bind fun q => (lcS tg tt te vs q.1 [] (unS q.2 vs)).bind fun r => some (.lst r.1, unS r.2 vs)
theorem wipe_eq_of {σ σ' : St} (hl : σ'.length = σ.length) : ∀ {vs : List Nat}, (∀ j, j ∉ vs → σ'[j]? = σ[j]?) → wipe σ' vs = wipe σ vs := fun {vs} h => by
  apply List.ext_getElem?
  intro j
  by_cases hj : j ∈ vs
  · have none_at : ∀ (ρ : St) (us : List Nat), j ∈ us → (wipe ρ us)[j]? = if j < ρ.length then some none else none := fun ρ us => by
      induction us with
      | nil => intro h; simp at h
      | cons u us ih =>
        intro hm
        unfold wipe
        by_cases hu : u = j
        · subst hu
          split
          · rename_i hl
            rw [List.getElem?_set_self (by rw [wipe_length]; exact hl)]
          · rename_i hl
            rw [List.getElem?_eq_none (by rw [List.length_set, wipe_length]; omega)]
        · rw [List.getElem?_set_ne hu]
          exact ih ((List.mem_cons.mp hm).resolve_left fun e => hu e.symm)
    rw [none_at σ' vs hj, none_at σ vs hj, hl]
  · rw [wipe_out hj, wipe_out hj]
    exact h j hj
section
variable {P : Program} {w : World} {K : PySem.W.Frag} {c : Cc} {fi : Sl → Option (List D × Sl)} {tgf : D → Sl → Option Sl} {t : Sl → Option (Bool × Sl)} {fe : Sl → Option (D × Sl)}
theorem Ks.updNew {σ : St} {S S' : Sl} {W W' : AP} {H H' : Hp} {p : Addr} {o : HO} (s : Ks σ S W H S' W' H') (h0 : H p = none) (hw : W' p) : Ks σ S W H S' W' (upd H' p o) := by
  refine ⟨by rw [hid_upd_own hw]; exact s.vis, s.sl, fun a u h1 h2 h3 => ?_, fun a u h => ?_⟩
  · rw [upd_ne (ne_of_none h2 h0)]
    exact s.own a u h1 h2 h3
  · by_cases ha : a = p
    · subst ha
      exact ⟨_, upd_same⟩
    · rw [upd_ne ha]
      exact s.there a u h
theorem Rep.updFree {S : Sl} {W : AP} {σ : St} {H : Hp} {p : Addr} {o : HO} (R : Rep P w K c S W σ H) (hw : W p) (hf : ∀ (i : Nat) (l : Bool) (o : Ob), S[i]? = some (.ow l o) → σ[i]? ≠ some (some (.ref p))) (h0 : c.H0 p = none) : Rep P w K c S W σ (upd H p o) := by
  have hg : hid W (upd H p o) = hid W H := hid_upd_own hw
  refine ⟨R.len, fun j t q => ?_, R.dist, R.z0, R.zh, R.lz, fun b q => ?_, fun b u q n => ?_⟩
  · rw [hg]
    have z := R.slot j t q
    cases t with
    | un => trivial
    | fz d => exact z
    | fd o => exact z
    | ow l u =>
      obtain ⟨b, z1, z2, z3, z4⟩ := z
      have hne : b ≠ p := fun y => hf j l u q (y ▸ z1)
      exact ⟨b, z1, z2, z3.move (Same.refl _) fun u' hu' => by rw [upd_ne hne]; exact hu', z4⟩
  · by_cases hb : b = p
    · subst hb
      exact ⟨_, upd_same⟩
    · obtain ⟨u, q'⟩ := R.al b q
      exact ⟨u, by rw [upd_ne hb]; exact q'⟩
  · rw [upd_ne (ne_of_none q h0)]
    exact R.ent b u q n
theorem wipe_wipe (σ : St) (vs : List Nat) : wipe (wipe σ vs) vs = wipe σ vs := wipe_eq_of (wipe_length σ vs) fun j hj => wipe_out hj
theorem rf_lc {ts vs : List Nat} (hts : ∀ j, j ∈ ts → j ∈ vs) {σ : St} {H : Hp} {Q : VK} (h : RF P w K c (kLC fi tgf t fe vs) σ H Q) : tLc (RI P w K c fi) (RN P w K c ts tgf) (RT P w K c t) (RE P w K c fe) vs σ H Q := by
  obtain ⟨S, W, ob, S', R, e, k⟩ := h
  unfold kLC at e
  obtain ⟨⟨ds, S1⟩, e1, e⟩ := Option.bind_eq_some_iff.mp e
  obtain ⟨⟨out, Sf⟩, e2, e⟩ := Option.bind_eq_some_iff.mp e
  cases e
  refine ⟨S, W, ds, S1, R, e1, fun J H1 W1 R1 s1 wk D0 hD => ?_⟩
  have hD0 : H D0 = none := s1.was hD
  refine ⟨fun i m H' => m = ds.length - i ∧ i ≤ ds.length ∧ ∃ S' W' acc accD, Rep P w K c S' W' (wipe σ vs) H' ∧ Ks σ S W H S' W' H' ∧ Same (hid W1 H1) (hid W' H') ∧ W' D0 ∧ H' D0 = some (.lst acc) ∧ DpAll K (hid W' H') acc accD ∧
      (∀ (i : Nat) (l : Bool) (o : Ob), S'[i]? = some (.ow l o) → (wipe σ vs)[i]? ≠ some (some (.ref D0))) ∧ lcS tgf t fe vs (ds.drop i) accD S' = some (out, Sf), ⟨ds.length, by simp, Nat.zero_le _, ?_⟩, ?_⟩
  · refine ⟨unS S1 vs, addW W1 D0, [], [], (R1.laidW hD).wiped vs, ?_, hid_laidW hD, .inr rfl, upd_same, .nil, fun i l o q => ((R1.wiped vs).newFree hD) i l o q, by simpa using e2⟩
    refine s1.trans ⟨hid_laidW hD, fun i l o q => ?_, fun a u h1 h2 _ => ⟨by rw [upd_ne (ne_of_none h2 hD)]; exact h2, .inl h1⟩, fun a u h2 => ⟨u, by rw [upd_ne (ne_of_none h2 hD)]; exact h2⟩⟩
    rcases unS_get S1 q with z | ⟨z, _⟩
    · cases z
    · exact ⟨l, o, z⟩
  · rintro i m H' ⟨rfl, hi', S', W', acc, accD, R', sk, s', hw, hl, hx, hf, e'⟩
    by_cases hlt : i < ds.length
    · refine .inr ⟨wk.go i W' H' s' hlt, fun H'' => ∃ S'' W'' acc accD, Rep P w K c S'' W'' (wipe σ vs) H'' ∧ Ks σ S W H S'' W'' H'' ∧ Same (hid W1 H1) (hid W'' H'') ∧ W'' D0 ∧ H'' D0 = some (.lst acc) ∧ DpAll K (hid W'' H'') acc accD ∧
        (∀ (i : Nat) (l : Bool) (o : Ob), S''[i]? = some (.ow l o) → (wipe σ vs)[i]? ≠ some (some (.ref D0))) ∧ lcS tgf t fe vs (ds.drop (i + 1)) accD S'' = some (out, Sf), fun H'' hn => ⟨ds.length - (i + 1), by omega, rfl, hlt, hn⟩, fun x H3 hy => ?_⟩
      obtain ⟨hg3, d, hd, xd⟩ := wk.yld i W' H' x H3 R'.al s' hlt hy
      have hdrop : ds.drop i = d :: ds.drop (i + 1) := by
        rw [List.drop_eq_getElem_cons hlt]
        have := List.getElem?_eq_getElem hlt
        rw [this] at hd
        cases hd
        rfl
      rw [hdrop] at e'
      unfold lcS at e'
      obtain ⟨S2, e2', e'⟩ := Option.bind_eq_some_iff.mp e'
      obtain ⟨⟨b, S3⟩, e3, e'⟩ := Option.bind_eq_some_iff.mp e'
      obtain ⟨R3, s3⟩ := R'.grown hg3
      have s3' : Ks σ S' W' H' S' W' H3 := by
        rcases hg3 with rfl | ⟨p, o, hp, rfl⟩
        · exact Ks.rfl
        · exact Ks.laid hp
      have h3D : H3 D0 = some (.lst acc) := by
        rcases hg3 with rfl | ⟨p, o, hp, rfl⟩
        · exact hl
        · rw [upd_ne (ne_of_none hl hp)]
          exact hl
      refine ⟨S', W', d, S2, R3, xd, e2', fun σ4 R4 n4 l4 o4 => ⟨wipe_eq_of (by rw [l4, wipe_length]) (fun j hj => (n4 j fun z => hj (hts j z)).trans (wipe_out hj)), S2, W', b, S3, R4, e3, fun H5 W5 R5 s5 => ?_⟩⟩
      have hwipe : wipe σ4 vs = wipe σ vs := wipe_eq_of (by rw [l4, wipe_length]) fun j hj => (n4 j fun z => hj (hts j z)).trans (wipe_out hj)
      -- slots at σ4: as at the wiped ones where they own
      have f4 : ∀ (i : Nat) (l : Bool) (o : Ob), S2[i]? = some (.ow l o) → σ4[i]? ≠ some (some (.ref D0)) := fun i l o q z => by
        obtain ⟨q1, q2⟩ := o4 i l o q
        rw [n4 i q1] at z
        exact hf i l o q2 z
      obtain ⟨u5, w5⟩ := s5.own D0 _ hw h3D f4
      have f5 : ∀ (i : Nat) (l : Bool) (o : Ob), S3[i]? = some (.ow l o) → σ4[i]? ≠ some (some (.ref D0)) := fun i l o q z => by
        obtain ⟨l', o', q'⟩ := s5.sl i l o q
        exact f4 i l' o' q' z
      -- what is kept, told over σ
      have toσ : ∀ {S6 : Sl} {W6 : AP} {H6 : Hp}, Ks σ4 S2 W' H3 S6 W6 H6 → Ks σ S W H (unS S6 vs) W6 H6 := fun {S6 W6 H6} s6 => by
        refine sk.trans (s3'.trans ⟨s6.vis, fun i l o q => ?_, fun a u h1 h2 h3 => s6.own a u h1 h2 fun i l o q z => ?_, s6.there⟩)
        · rcases unS_get S6 q with z | ⟨z, _⟩
          · cases z
          · obtain ⟨l', o', q'⟩ := s6.sl i l o z
            exact ⟨_, _, (o4 i l' o' q').2⟩
        · obtain ⟨q1, q2⟩ := o4 i l o q
          rw [n4 i q1] at z
          by_cases hv : i ∈ vs
          · obtain ⟨a', z1, _⟩ := R'.slot i _ q2
            rw [z1] at z
            cases z
            have := wipe_some z1
            exact this.2 hv
          · rw [wipe_out hv] at z
            exact h3 i l o q2 z
      cases b with
      | false =>
        refine iteF ⟨unS S3 vs, W5, acc, accD, ?_, toσ s5, s'.trans (s3.vis.trans s5.vis), w5, u5, (s3.vis.trans s5.vis).dps hx, fun i l o q z => ?_, e'⟩
        · have := R5.wiped vs
          rw [hwipe] at this
          exact this
        · rcases unS_get S3 q with y | ⟨y, hv⟩
          · cases y
          · rw [wipe_out hv] at z
            refine f5 i l o y ?_
            have : (wipe σ4 vs)[i]? = (wipe σ vs)[i]? := by rw [hwipe]
            rw [wipe_out hv, wipe_out hv] at this
            rw [this]
            exact z
      | true =>
        obtain ⟨⟨y, S4⟩, e4, e'⟩ := Option.bind_eq_some_iff.mp (show (fe S3).bind _ = some (out, Sf) from e')
        refine iteT ⟨S3, W5, y, S4, R5, e4, fun v H6 W6 R6 s6 x6 => ?_⟩
        split at e'
        case isFalse => cases e'
        rename_i hlen
        obtain ⟨u6, w6⟩ := s6.own D0 _ w5 u5 f5
        have f6 : ∀ (i : Nat) (l : Bool) (o : Ob), S4[i]? = some (.ow l o) → σ4[i]? ≠ some (some (.ref D0)) := fun i l o q z => by
          obtain ⟨l', o', q'⟩ := s6.sl i l o q
          exact f5 i l' o' q' z
        have hal : acc.length = accD.length := dps_length hx
        have hG : hid W6 (upd H6 D0 (.lst (acc ++ [v]))) = hid W6 H6 := hid_upd_own w6
        have hz : ∀ (i : Nat) (l : Bool) (o : Ob), (unS S4 vs)[i]? = some (.ow l o) → (wipe σ vs)[i]? ≠ some (some (.ref D0)) := fun i l o q z => by
          rcases unS_get S4 q with y | ⟨y, hv⟩
          · cases y
          · rw [wipe_out hv] at z
            refine f6 i l o y ?_
            have : (wipe σ4 vs)[i]? = (wipe σ vs)[i]? := by rw [hwipe]
            rw [wipe_out hv, wipe_out hv] at this
            rw [this]
            exact z
        have R7 : Rep P w K c (unS S4 vs) W6 (wipe σ vs) H6 := by
          have := R6.wiped vs
          rw [hwipe] at this
          exact this
        refine ⟨acc, u6, by rw [hal]; exact line_lt hlen, unS S4 vs, W6, acc ++ [v], accD ++ [y], R7.updFree w6 hz (R.new0 hD0), (toσ (s5.trans s6)).updNew hD0 w6, ?_, w6, upd_same, ?_, hz, e'⟩
        · rw [hG]
          exact s'.trans (s3.vis.trans (s5.vis.trans s6.vis))
        · rw [hG]
          exact dps_append ((s3.vis.trans (s5.vis.trans s6.vis)).dps hx) (dps_one x6)
    · have hi'' : i = ds.length := by omega
      subst hi''
      rw [List.drop_length] at e'
      cases e'
      refine .inl ⟨wk.stop W' H' s', k D0 H' W' R'.unwiped ?_ hD0 hw (fun i l o q z => ?_) ⟨acc, hl, hx⟩ (R.new0 hD0)⟩
      · refine sk.trans ⟨Same.refl _, fun i l o q => ?_, fun a u h1 h2 _ => ⟨h2, h1⟩, fun _ u h => ⟨u, h⟩⟩
        rcases unS_get _ q with z | ⟨z, _⟩
        · cases z
        · exact ⟨l, o, z⟩
      · rcases unS_get _ q with y | ⟨y, hv⟩
        · cases y
        · exact hf i l o y (by rw [wipe_out hv]; exact z)
end
section
variable {X : Cx} {c : Cc} {fi : Sl → Option (List D × Sl)} {tgf : D → Sl → Option Sl} {t : Sl → Option (Bool × Sl)} {fe : Sl → Option (D × Sl)} {elt tg iter : Expr} {ifs : List Expr} {scope : Scope} {own : List (Str × Nat)} {ts : List Nat} {pos : Pos}
theorem ts_nil : PTs X [] (RT X.prog X.w X.K c kYes) := pts_imp pts_nil fun σ H Q ⟨S, W, d, S', R, e, k⟩ => by
  cases e
  exact k H W R Ks.rfl
theorem ts_one {cc : Expr} (h : ST X c cc t) : PTs X [cc] (RT X.prog X.w X.K c t) := pts_one h
theorem f_lc (hc : X.calm = true) (hN : X.N.Nodup) (hi : SI X c tg iter fi) (ok : BlkOk X.N X.env.scope scope own) (hts : ∀ j, j ∈ ts → j ∈ own.map (·.2))
    (hg : ∀ (s : Shared) (H : Hp) (C : Addr) (cl : List (Str × Addr)) (fp : List Addr), SN (X.blk s H scope (compEnvC scope cl C X.env) fp) c tg ts tgf)
    (ht : ∀ (s : Shared) (H : Hp) (C : Addr) (cl : List (Str × Addr)) (fp : List Addr), PTs (X.blk s H scope (compEnvC scope cl C X.env) fp) ifs (RT X.prog X.w X.K c t))
    (he : ∀ (s : Shared) (H : Hp) (C : Addr) (cl : List (Str × Addr)) (fp : List Addr), SE (X.blk s H scope (compEnvC scope cl C X.env) fp) c elt fe) (hs : ∀ x, foldedSetIterable iter X.env x = pure x := by intro _; rfl) :
    SF X c (.ListComp elt [⟨tg, iter, ifs, 0⟩] scope pos) (kLC fi tgf t fe (own.map (·.2))) := pe_imp (pe_lc hc hN hi ok hg ht he hs) fun σ H Q h => rf_lc hts h
theorem p_setLC {i : Nat} {y : Str} {py spos : Pos} (hc : X.calm = true) (hN : X.N.Nodup) (hy : X.N[i]? = some y) (hyl : X.env.scope.names.lookup y = some .local)
    (hsw : swapsWith (.ListComp elt [⟨tg, iter, ifs, 0⟩] scope pos) (some (.Name y py)) spos.line X.env = pure true) (hi : SI X c tg iter fi) (ok : BlkOk X.N X.env.scope scope own) (hts : ∀ j, j ∈ ts → j ∈ own.map (·.2))
    (hg : ∀ (s : Shared) (H : Hp) (C : Addr) (cl : List (Str × Addr)) (fp : List Addr), SN (X.blk s H scope (compEnvC scope cl C X.env) fp) c tg ts tgf)
    (ht : ∀ (s : Shared) (H : Hp) (C : Addr) (cl : List (Str × Addr)) (fp : List Addr), PTs (X.blk s H scope (compEnvC scope cl C X.env) fp) ifs (RT X.prog X.w X.K c t))
    (he : ∀ (s : Shared) (H : Hp) (C : Addr) (cl : List (Str × Addr)) (fp : List Addr), SE (X.blk s H scope (compEnvC scope cl C X.env) fp) c elt fe) (hs : ∀ x, foldedSetIterable iter X.env x = pure x := by intro _; rfl) :
    SS1 X c (.Assign [.Name y py] (.ListComp elt [⟨tg, iter, ifs, 0⟩] scope pos) spos) (kSetF i (kLC fi tgf t fe (own.map (·.2)))) := ps_imp (ps_setLc hc hN hy hyl hsw hi ok hg ht he hs) fun D σ H h => by
  obtain ⟨S, W, r, R, e, k⟩ := h
  unfold kSetF at e
  obtain ⟨⟨d1, S1⟩, e1, e⟩ := Option.bind_eq_some_iff.mp e
  cases e
  exact rf_lc hts ⟨S, W, d1, S1, R, e1, fun a H' W' R' s' x0 x1 x2 x3 x4 => k _ H' W' (R'.setow x1 x2 x3 x4) s'.vis⟩
end
end VD
/-! VD6: operations on data. -/
namespace VD
open PySem PySem.Spec PyProof.Rows L2

/-! ### what the operations compute -/
def gAdd : D → D → Option D
  | .int i, .int j => some (.int (i + j))
  | .list a, .list b => if a.length + b.length ≤ 1000000 then some (.list (a ++ b)) else none
  | .tuple a, .tuple b => if a.length + b.length ≤ 1000000 then some (.tuple (a ++ b)) else none
  | .str x, .str y => if x.length + y.length ≤ 1000000 then some (.str (x ++ y)) else none
  | _, _ => none
def gSub : D → D → Option D
  | .int i, .int j => some (.int (i - j))
  | _, _ => none
def gMul : D → D → Option D
  | .int i, .int j => if i.natAbs < 2 ^ 64 ∨ j.natAbs < 2 ^ 64 then some (.int (i * j)) else none
  | .list a, .int k => if a.length * k.toNat ≤ 1000000 ∧ k.natAbs < 2 ^ 62 then some (.list (List.replicate k.toNat a).flatten) else none
  | .tuple a, .int k => if a ≠ [] ∧ a.length ≤ 1000 ∧ k.natAbs ≤ 1000 then some (.tuple (List.replicate k.toNat a).flatten) else none
  | _, _ => none
def gDiv : D → D → Option D
  | .int i, .int j => if 0 < j ∧ j < 1073741824 then some (.int (i / j)) else if j ≠ 0 ∧ j.natAbs < 1073741824 then some (.int (i.fdiv j)) else none
  | _, _ => none
def gMod : D → D → Option D
  | .int i, .int j => if 0 < j then some (.int (i % j)) else if j ≠ 0 then some (.int (i.fmod j)) else none
  | _, _ => none
def gPow : D → D → Option D
  | .int i, .int j => if 0 ≤ j ∧ j ≤ 1000000 ∧ i.natAbs < 2 ^ 64 then some (.int (i ^ j.toNat)) else none
  | _, _ => none
def gNeg : D → Option D
  | .int i => some (.int (-i))
  | _ => none
def gEq : D → D → Option D := fun a b => if a.depth ≤ 60 ∨ b.depth ≤ 60 then some (.bool (PyData.eqv a b)) else none
def gNe : D → D → Option D := fun a b => if a.depth ≤ 60 ∨ b.depth ≤ 60 then some (.bool (!PyData.eqv a b)) else none
def gCmp (r : Int → Int → Bool) : D → D → Option D
  | .int i, .int j => some (.bool (r i j))
  | _, _ => none
def gLt := gCmp fun i j => decide (i < j)
def gLe := gCmp fun i j => decide (i ≤ j)
def gGt := gCmp fun i j => decide (j < i)
def gGe := gCmp fun i j => decide (j ≤ i)
def gIsN : D → D → Option D := fun a b => match b with
  | .none => some (.bool (match a with | .none => true | _ => false))
  | _ => none
def gNotN : D → D → Option D := fun a b => match b with
  | .none => some (.bool (match a with | .none => false | _ => true))
  | _ => none
/-- x in c -/
def inD (x : D) : D → Option Bool
  | .list ds => if PyData.depthAll ds ≤ 60 ∨ x.depth ≤ 60 then some (ds.any fun d => PyData.eqv d x) else none
  | .tuple ds => if PyData.depthAll ds ≤ 60 ∨ x.depth ≤ 60 then some (ds.any fun d => PyData.eqv d x) else none
  | .str z => match x with
    | .str y => some (!(Builtin.Str.occurrences z y 0 z.length 1).isEmpty)
    | _ => none
  | _ => none
def gIn : D → D → Option D := fun x y => (inD x y).map fun b => .bool b
def gNotIn : D → D → Option D := fun x y => (inD x y).map fun b => .bool (!b)
def gIx : D → D → Option D
  | .list ds, .int i => atI ds i
  | .tuple ds, .int i => atI ds i
  | .str z, .int i => if z.length ≤ 1000000 then (atI z.cps.toList i).map fun ch => .str ⟨#[ch]⟩ else none
  | _, _ => none

section
variable {X : Cx}
/-- from a rule for values -/
theorem og2 {f : Value → Value → Sem Value} {g : D → D → Option D} {r : R2} (ho : OpR X f r)
    (h : ∀ (W : AP) (H : Hp) (x y : V) (d d' z : D) (Q : VK), AlW W H → DpB X.K W H x d → DpB X.K W H y d' → g d d' = some z → (∀ v H', (H' = H ∨ ∃ p o, H p = none ∧ H' = upd H p o) → Dp X.K (hid W H') v z → Q v H') → r x y H Q) : OpR X f (rG2 X.K g) :=
  fun pins s σ H x y v u Q I rx ry ⟨W, d, d', z, h0, h1, h2, h3, h4⟩ => ho pins s σ H x y v u Q I rx ry (h W H x y d d' z Q h0 h1 h2 h3 h4)
/-- by the kinds of both -/
theorem og2_or {f : Value → Value → Sem Value} {g g1 g2 : D → D → Option D} (h1 : OpR X f (rG2 X.K g1)) (h2 : OpR X f (rG2 X.K g2)) (h : ∀ a b z, g a b = some z → g1 a b = some z ∨ g2 a b = some z) : OpR X f (rG2 X.K g) :=
  fun pins s σ H x y v u Q I rx ry ⟨W, d, d', z, k0, k1, k2, k3, k4⟩ => by
    rcases h d d' z k3 with q | q
    · exact h1 pins s σ H x y v u Q I rx ry ⟨W, d, d', z, k0, k1, k2, q, k4⟩
    · exact h2 pins s σ H x y v u Q I rx ry ⟨W, d, d', z, k0, k1, k2, q, k4⟩
/-- two ints -/
theorem og_int {f : Value → Value → Sem Value} {g : D → D → Option D} {C : Int → Int → Prop} {k : Int → Int → V} (ho : OpR X f (rI C k)) (hg : ∀ a b z, g a b = some z → ∃ i j, a = .int i ∧ b = .int j ∧ C i j ∧ ∀ K H, Dp K H (k i j) z) : OpR X f (rG2 X.K g) :=
  og2 ho fun W H x y d d' z Q h0 h1 h2 h3 h4 => by
    obtain ⟨i, j, rfl, rfl, hc, hd⟩ := hg _ _ _ h3
    exact ⟨i, j, h1.int, h2.int, hc, h4 _ H (.inl rfl) (hd _ _)⟩
theorem og_int0 {f : Value → Value → Sem Value} {g : D → D → Option D} {k : Int → Int → V} (ho : OpR X f (rI0 k)) (hg : ∀ a b z, g a b = some z → ∃ i j, a = .int i ∧ b = .int j ∧ ∀ K H, Dp K H (k i j) z) : OpR X f (rG2 X.K g) :=
  og2 ho fun W H x y d d' z Q h0 h1 h2 h3 h4 => by
    obtain ⟨i, j, rfl, rfl, hd⟩ := hg _ _ _ h3
    exact ⟨i, j, h1.int, h2.int, h4 _ H (.inl rfl) (hd _ _)⟩
/-- list + list, whatever bears them -/
def rCatL (K : PySem.W.Frag) : R2 := fun x y H Q => ∃ l b xs zs, x = .ref l ∧ y = .ref b ∧ SqL K H l xs ∧ SqL K H b zs ∧ xs.length + zs.length ≤ sizeLine ∧ ∀ p, H p = none → Q (.ref p) (upd H p (.lst (xs ++ zs)))
theorem plain_obj {h : Heap} {a : Addr} {its : Array Value} (x : PlainL h a its) : ∃ (n : Nat) (sl : Array (Option Value)), h.get? a = some { cls := .type "list", data := .seq its n, slots := sl } := by
  obtain ⟨⟨cls, dd, data, sl⟩, n, e, h1, h2, h3⟩ := x
  simp only at h1 h2 h3
  subst h1 h2 h3
  exact ⟨n, sl, e⟩
theorem op_catL : OpR X (binaryOp .Add) (rCatL X.K) := by
  intro pins s σ H x y v u Q I rx ry h
  obtain ⟨l, b, xs, zs, rfl, rfl, hL, hB, hz, q⟩ := h
  cases rx
  cases ry
  obtain ⟨its, r, p1, z1⟩ := I.list hL
  obtain ⟨its2, r2, p2, z2⟩ := I.list hB
  obtain ⟨n, sl, e⟩ := plain_obj p1
  obtain ⟨n2, sl2, e2⟩ := plain_obj p2
  have hl := r.length
  have hl2 := r2.length
  have ea : its.toArray ++ its2.toArray = (its ++ its2).toArray := by simp
  refine concat_meets ⟨_, e, rfl⟩ ⟨_, e2, rfl⟩ noFill_list_add seq_list_add PySem.F.slot_list_add PySem.F.entry_list_add (PySem.F.args_list_add_2 _ _) (list_addW l b its.toArray its2.toArray n n2 none none sl sl2 (by simp; omega)) ⟨e, e2, ?_⟩
  rw [ea]
  exact ⟨.ref _, _, I.lnew (t' := s.toks) (r.append r2) (by rw [List.length_append]; omega), rfl, q _ I.fresh⟩
theorem dpB_tup {K : PySem.W.Frag} {W : AP} {H : Hp} {vs : List V} {ds : List D} {p : Addr} {o : Obj} (h : DpAll K (hid W H) vs ds) (hp : H p = none) (hw : ¬ W p) (hd : o.dict = none) : Dp K (hid W (upd H p (.frz o (.tup vs)))) (.ref p) (.tuple ds) := dp_tupF h hp hw hd
/-- a new tuple known to the object -/
theorem Inv.frzT {pins : List (Addr × Obj)} {σ : St} {H : Hp} {s : Shared} {xs : List V} {its : List Value} {t : Nat} (I : L2.Inv X pins σ H s) (r : Vals xs its) (hz : xs.length ≤ sizeLine) :
    L2.Inv X pins σ (upd H s.heap.objs.size (.frz { cls := .type "tuple", data := .seq its.toArray } (.tup xs))) { s with heap := s.heap.push { cls := .type "tuple", data := .seq its.toArray }, toks := t } :=
  I.laid (t' := t) (fun b ob q => Heap.get?_push_of_some _ q) (Nat.le_refl _) ⟨Heap.get?_push_size _ rfl, hz, its, r, IsTup.new _ _⟩
def rCatF (K : PySem.W.Frag) : R2 := fun x y H Q => ∃ a b xs ys, x = .ref a ∧ y = .ref b ∧ SqT K H a xs ∧ SqT K H b ys ∧ xs.length + ys.length ≤ sizeLine ∧
  (xs = [] → Q (.ref b) H) ∧ (xs ≠ [] → ys = [] → Q (.ref a) H) ∧ (xs ≠ [] → ys ≠ [] → ∀ p o, H p = none → o.dict = none → Q (.ref p) (upd H p (.frz o (.tup (xs ++ ys)))))
theorem op_catF : OpR X (binaryOp .Add) (rCatF X.K) := by
  intro pins s σ H x y v u Q I rx ry h
  obtain ⟨a, b, xs, ys, rfl, rfl, ha, hb, hz, q0, q1, q2⟩ := h
  cases rx
  cases ry
  obtain ⟨its, r1, p1, _⟩ := I.tuple ha
  obtain ⟨its2, r2, p2, _⟩ := I.tuple hb
  by_cases hx : xs = []
  · subst hx
    cases r1
    exact cat_tup0 p1 p2 ⟨.ref b, H, I, rfl, q0 rfl⟩
  · refine HT.cat_tup p1 p2 (fun z => hx (r1.nil_iff.mp z)) (fun z => ⟨.ref a, H, I, rfl, q1 hx (r2.nil_iff.mp z)⟩) (fun z => ?_) (by rw [← r1.length, ← r2.length]; exact hz)
    exact ⟨.ref s.heap.objs.size, _, Inv.frzT (t := s.toks) I (r1.append r2) (by rw [List.length_append]; exact hz), rfl, q2 hx (fun w => z (r2.nil_iff.mpr w)) _ _ (I.hok.fresh (Nat.le_refl _)) rfl⟩
theorem dpB_lst {K : PySem.W.Frag} {W : AP} {H : Hp} {vs : List V} {ds : List D} {p : Addr} (h : DpAll K (hid W H) vs ds) (hp : H p = none) (hw : ¬ W p) : Dp K (hid W (upd H p (.lst vs))) (.ref p) (.list ds) :=
  .lst (.inl (.inl (hid_some.mpr ⟨hw, upd_same⟩))) ((hid_laid hp).dps h)
/-! ### + - * // % ** -/
theorem g_add : OpR X (binaryOp .Add) (rG2 X.K gAdd) := by
  intro pins s σ H x y v u Q I rx ry ⟨W, d, d', z, h0, h1, h2, h3, h4⟩
  unfold gAdd at h3
  split at h3
  · cases h3
    exact op_add pins s σ H x y v u Q I rx ry ⟨_, _, h1.int, h2.int, h4 _ H (.inl rfl) (.int _)⟩
  · split at h3
    · rename_i hl
      cases h3
      obtain ⟨a, xs, rfl, hs, ha⟩ := h1.list
      obtain ⟨b, ys, rfl, hs', hb⟩ := h2.list
      refine op_catL pins s σ H _ _ v u Q I rx ry ⟨a, b, xs, ys, rfl, rfl, hs, hs', by rw [dps_length ha, dps_length hb]; exact line_of hl, fun p hp => h4 _ _ (.inr ⟨p, _, hp, rfl⟩) (dpB_lst (dps_append ha hb) hp (h0.no hp))⟩
    · cases h3
  · split at h3
    · rename_i hl
      cases h3
      obtain ⟨a, xs, rfl, hs, ha⟩ := h1.tuple
      obtain ⟨b, ys, rfl, hs', hb⟩ := h2.tuple
      refine op_catF pins s σ H _ _ v u Q I rx ry ⟨a, b, xs, ys, rfl, rfl, hs, hs', by rw [dps_length ha, dps_length hb]; exact line_of hl, fun e => ?_, fun _ e => ?_, fun _ _ p o hp ho => h4 _ _ (.inr ⟨p, _, hp, rfl⟩) (dpB_tup (dps_append ha hb) hp (h0.no hp) ho)⟩
      · subst e
        cases ha
        refine h4 _ H (.inl rfl) ?_
        rcases h2 with h2 | ⟨_, _, _, _, q, _⟩
        · simpa using h2
        · cases q
      · subst e
        cases hb
        refine h4 _ H (.inl rfl) ?_
        rcases h1 with h1 | ⟨_, _, _, _, q, _⟩
        · simpa using h1
        · cases q
    · cases h3
  · split at h3
    · rename_i hl
      cases h3
      exact op_add_str pins s σ H x y v u Q I rx ry ⟨_, _, h1.str, h2.str, line_of hl, h4 _ H (.inl rfl) (.str _)⟩
    · cases h3
  · cases h3
theorem g_sub : OpR X (binaryOp .Sub) (rG2 X.K gSub) := og_int0 op_sub fun a b z h => by
  unfold gSub at h
  split at h
  · cases h; exact ⟨_, _, rfl, rfl, fun _ _ => .int _⟩
  · cases h
theorem g_div : OpR X (binaryOp .FloorDiv) (rG2 X.K gDiv) := by
  intro pins s σ H x y v u Q I rx ry ⟨W, d, d', z, h0, h1, h2, h3, h4⟩
  unfold gDiv at h3
  split at h3
  · split at h3
    · rename_i hc
      cases h3
      exact op_fdiv pins s σ H x y v u Q I rx ry ⟨_, _, h1.int, h2.int, hc, h4 _ H (.inl rfl) (.int _)⟩
    · split at h3
      · rename_i hc
        cases h3
        exact op_fdivN pins s σ H x y v u Q I rx ry ⟨_, _, h1.int, h2.int, hc, h4 _ H (.inl rfl) (.int _)⟩
      · cases h3
  · cases h3
theorem g_mod : OpR X (binaryOp .Mod) (rG2 X.K gMod) := by
  intro pins s σ H x y v u Q I rx ry ⟨W, d, d', z, h0, h1, h2, h3, h4⟩
  unfold gMod at h3
  split at h3
  · split at h3
    · rename_i hc
      cases h3
      exact op_mod pins s σ H x y v u Q I rx ry ⟨_, _, h1.int, h2.int, hc, h4 _ H (.inl rfl) (.int _)⟩
    · split at h3
      · rename_i hc
        cases h3
        exact op_modN pins s σ H x y v u Q I rx ry ⟨_, _, h1.int, h2.int, hc, h4 _ H (.inl rfl) (.int _)⟩
      · cases h3
  · cases h3
theorem g_pow : OpR X (binaryOp .Pow) (rG2 X.K gPow) := og_int op_pow fun a b z h => by
  unfold gPow at h
  split at h
  · split at h
    · rename_i hc
      cases h
      exact ⟨_, _, rfl, rfl, hc, fun _ _ => .int _⟩
    · cases h
  · cases h
theorem g_neg : UnR X (unaryOp .USub) (rG1 X.K gNeg) := by
  intro pins s σ H x v Q I rx ⟨W, d, z, h0, h1, h3, h4⟩
  unfold gNeg at h3
  split at h3
  · cases h3
    exact un_neg pins s σ H x v Q I rx ⟨_, h1.int, h4 _ H (.inl rfl) (.int _)⟩
  · cases h3
/-! ### comparisons -/
theorem g_cmp {op : CmpOp} {r : Int → Int → Bool} (ho : OpR X (compareOp op) (rI0 fun i j => .bl (r i j))) : OpR X (compareOp op) (rG2 X.K (gCmp r)) := og_int0 ho fun a b z h => by
  unfold gCmp at h
  split at h
  · cases h; exact ⟨_, _, rfl, rfl, fun _ _ => .bl _⟩
  · cases h
theorem g_lt : OpR X (compareOp .Lt) (rG2 X.K gLt) := g_cmp op_lt
theorem g_le : OpR X (compareOp .LtE) (rG2 X.K gLe) := g_cmp op_le
theorem g_gt : OpR X (compareOp .Gt) (rG2 X.K gGt) := g_cmp op_gt
theorem g_ge : OpR X (compareOp .GtE) (rG2 X.K gGe) := g_cmp op_ge
theorem DpB.reads {pins : List (Addr × Obj)} {s : Shared} {σ : St} {H : Hp} {W : AP} {v : V} {u : Value} {d : D} (h : DpB X.K W H v d) (I : Inv X pins σ H s) (r : RelV v u) : (∃ as, Reads s.heap u d as) ∧ d.plain = true := ⟨L2.Dp.reads I d v u (Dp.l2 _ _ h.dp) r, (dp_plain h.dp).1⟩
theorem min60 {a b u : Nat} (h : a ≤ 60 ∨ b ≤ 60) (hu : u + 200 < cLine) : u + min a b < cLine := by
  have : min a b ≤ 60 := by
    rcases h with h | h
    · exact Nat.le_trans (Nat.min_le_left _ _) h
    · exact Nat.le_trans (Nat.min_le_right _ _) h
  omega
theorem g_eq (hu : X.A.units + 200 < cLine) : OpR X (compareOp .Eq) (rG2 X.K gEq) := by
  intro pins s σ H x y v u Q I rx ry ⟨W, d, d', z, h0, h1, h2, h3, h4⟩
  unfold gEq at h3
  split at h3
  · rename_i hd
    cases h3
    obtain ⟨⟨as, r1⟩, p1⟩ := h1.reads I rx
    obtain ⟨⟨bs, r2⟩, p2⟩ := h2.reads I ry
    exact SeqAt.eq_plain r1 r2 p1 p2 (min60 hd hu) ⟨.bl _, H, I, rfl, h4 _ H (.inl rfl) (.bl _)⟩
  · cases h3
theorem g_ne (hu : X.A.units + 200 < cLine) : OpR X (compareOp .NotEq) (rG2 X.K gNe) := by
  intro pins s σ H x y v u Q I rx ry ⟨W, d, d', z, h0, h1, h2, h3, h4⟩
  unfold gNe at h3
  split at h3
  · rename_i hd
    cases h3
    obtain ⟨⟨as, r1⟩, p1⟩ := h1.reads I rx
    obtain ⟨⟨bs, r2⟩, p2⟩ := h2.reads I ry
    exact SeqAt.ne_plain r1 r2 p1 p2 (min60 hd hu) ⟨.bl _, H, I, rfl, h4 _ H (.inl rfl) (.bl _)⟩
  · cases h3
theorem g_isN : OpR X (compareOp .Is) (rG2 X.K gIsN) := by
  intro pins s σ H x y v u Q I rx ry ⟨W, d, d', z, h0, h1, h2, h3, h4⟩
  unfold gIsN at h3
  split at h3
  · cases h3
    refine op_isN pins s σ H x y v u Q I rx ry ⟨?_, h4 _ H (.inl rfl) ?_⟩
    · have := h2.dp
      cases this
      rfl
    · have := h1.dp
      cases this <;> exact .bl _
  · cases h3
theorem g_notN : OpR X (compareOp .IsNot) (rG2 X.K gNotN) := by
  intro pins s σ H x y v u Q I rx ry ⟨W, d, d', z, h0, h1, h2, h3, h4⟩
  unfold gNotN at h3
  split at h3
  · cases h3
    refine op_notN pins s σ H x y v u Q I rx ry ⟨?_, h4 _ H (.inl rfl) ?_⟩
    · have := h2.dp
      cases this
      rfl
    · have := h1.dp
      cases this <;> exact .bl _
  · cases h3
end
end VD
/-! VD7: products of sequences, in, items, slices. -/
namespace VD
open PySem PySem.Spec PyProof.Rows L2
open PySem.Sem (wp)
theorem tuple_mul1 (l : Addr) (items : Array Value) (n : Nat) (dd : Option Addr) (sl : Array (Option Value)) (x : Int) (u : Tok) (c0 : (decide (x < -(2 ^ 63)) || decide (x ≥ 2 ^ 63)) = false) (c1 : (items.isEmpty || x == 1) = true) :
    Meets (Builtin.«tuple.__mul__» ⟨[.ref l, .int x u], []⟩) (fun _ R s => s.heap.get? l = some { cls := .type "tuple", dict := dd, data := .seq items n, slots := sl } ∧ R (.ok (.ret (Value.ref l))) s) :=
  .of_wp fun prog w A R s h => by
    obtain ⟨hp, g, d, tk, os⟩ := s
    obtain ⟨hl, h⟩ := h
    have f1 := AutoSeq1.idx_int
    wp_walk using wpAny_loadPart' hl
    repeat (first
      | (refine wpAny_ite_false (decide_eq_false (by rw [c0]; exact Bool.false_ne_true)) ?_; wp_walk using wpAny_loadPart' hl)
      | (refine wpAny_ite_true (decide_eq_true c1) ?_; wp_walk using wpAny_loadPart' hl))
    exact ⟨_, rfl, h⟩
theorem tuple_mul0 (l : Addr) (items : Array Value) (n : Nat) (dd : Option Addr) (sl : Array (Option Value)) (x : Int) (u : Tok) (c0 : (decide (x < -(2 ^ 63)) || decide (x ≥ 2 ^ 63)) = false) (c1 : (items.isEmpty || x == 1) = false) (c2 : (decide (x ≤ 0) || items.isEmpty) = true) :
    Meets (Builtin.«tuple.__mul__» ⟨[.ref l, .int x u], []⟩) (fun _ R s => s.heap.get? l = some { cls := .type "tuple", dict := dd, data := .seq items n, slots := sl } ∧ R (.ok (.ret (Value.ref s.heap.objs.size))) { s with heap := s.heap.push { cls := Value.type "tuple", data := Data.seq #[] }, toks := s.toks }) :=
  .of_wp fun prog w A R s h => by
    obtain ⟨hp, g, d, tk, os⟩ := s
    obtain ⟨hl, h⟩ := h
    have f1 := AutoSeq1.idx_int
    wp_walk using wpAny_loadPart' hl
    repeat (first
      | (refine wpAny_ite_false (decide_eq_false (by rw [c0]; exact Bool.false_ne_true)) ?_; wp_walk using wpAny_loadPart' hl)
      | (refine wpAny_ite_false (decide_eq_false (by rw [c1]; exact Bool.false_ne_true)) ?_; wp_walk using wpAny_loadPart' hl)
      | (refine wpAny_ite_true (decide_eq_true c2) ?_; wp_walk using wpAny_loadPart' hl))
    exact ⟨_, rfl, h⟩
section
variable {X : Cx}
/-- a tuple times an int -/
def rRepA (K : PySem.W.Frag) : R2 := fun x y H Q => ∃ l k xs, x = .ref l ∧ y = .int k ∧ SqT K H l xs ∧ xs ≠ [] ∧ -1000 ≤ k ∧ k ≤ 1000 ∧ xs.length ≤ 1000 ∧ (k = 1 → Q (.ref l) H) ∧ (k ≠ 1 → ∀ p o, H p = none → o.dict = none → Q (.ref p) (upd H p (.frz o (.tup (List.replicate k.toNat xs).flatten))))
theorem op_repA : OpR X (binaryOp .Mult) (rRepA X.K) := by
  intro pins s σ H x y v u Q I rx ry h
  obtain ⟨l, k, xs, rfl, rfl, hT, hne, h1, h2, hz, q1, q2⟩ := h
  cases rx
  obtain ⟨t, rfl⟩ := ry
  obtain ⟨its, r, ⟨⟨cls, dd, data, sl⟩, ho, hc, n, hd⟩, hs⟩ := I.tuple hT
  simp only at hc hd
  subst hc hd
  have hle : its.length = xs.length := r.length.symm
  have hn : its ≠ [] := fun e => hne (by
    rw [e] at hle
    exact List.eq_nil_of_length_eq_zero hle.symm)
  have hi : its.toArray.isEmpty = false := by
    cases its with
    | nil => exact absurd rfl hn
    | cons a b => rfl
  have c0 : (decide (k < -(2 ^ 63)) || decide (k ≥ 2 ^ 63)) = false := by
    rw [decide_eq_false (by omega), decide_eq_false (by omega)] <;> rfl
  by_cases hk1 : k = 1
  · have c1 : (its.toArray.isEmpty || k == 1) = true := by
      rw [hi, Bool.false_or]
      exact beq_iff_eq.mpr hk1
    refine wpAny_binaryOp_repeat_ref (T := "tuple") (U := "int") (by decide) ⟨_, ho, rfl⟩ (fun s' => typeIs_int s' k t) noFill_tuple_mul PySem.F.fills_int_mul PySem.F.slot_int_rmul repeat_tuple PySem.F.slot_int_index.lookup
      (call_meets PySem.F.slot_int_rmul (typeIs_int s k t) PySem.F.entry_int_rmul (PySem.F.args_int_rmul_2 _ _) (int_rmul_tuple k t l its.toArray n dd sl)
        ⟨ho, rfl, ⟨_, ho, rfl⟩, call_meets PySem.F.slot_tuple_mul ⟨_, ho, rfl⟩ PySem.F.entry_tuple_mul (PySem.F.args_tuple_mul_2 _ _) (tuple_mul1 l its.toArray n dd sl k t c0 c1) ⟨ho, ?_⟩⟩)
    exact ⟨.ref l, H, I, rfl, q1 hk1⟩
  have c1 : (its.toArray.isEmpty || k == 1) = false := by
    rw [hi, Bool.false_or]
    exact beq_eq_false_iff_ne.mpr hk1
  by_cases hk : 2 ≤ k
  · have hsz0 : its.toArray.size = xs.length := by rw [List.size_toArray, hle]
    have hm : ((its.toArray.size : Nat) : Int) * k ≤ 1000000 := by
      rw [hsz0]
      have a1 : ((xs.length : Nat) : Int) * k ≤ 1000 * k := Int.mul_le_mul_of_nonneg_right (by omega) (by omega)
      omega
    have flen : (List.replicate k.toNat its).flatten.length ≤ sizeLine := by
      rw [PyProof.Rows.lm_len_rep_flat, hle, sizeLine_eq]
      have a1 : k.toNat * xs.length ≤ 1000 * 1000 := Nat.mul_le_mul (by omega) hz
      omega
    have c2 : (decide (k ≤ 0) || its.toArray.isEmpty) = false := by
      rw [hi, Bool.or_false]
      exact decide_eq_false (by omega)
    have c4 : Builtin.Tuple.tupleTooMany (((its.toArray.size : Nat) : Int) * k) = false := by
      unfold Builtin.Tuple.tupleTooMany
      rw [sizeLine_eq]
      exact decide_eq_false (by omega)
    refine wpAny_binaryOp_repeat_ref (T := "tuple") (U := "int") (by decide) ⟨_, ho, rfl⟩ (fun s' => typeIs_int s' k t) noFill_tuple_mul PySem.F.fills_int_mul PySem.F.slot_int_rmul repeat_tuple PySem.F.slot_int_index.lookup
      (call_meets PySem.F.slot_int_rmul (typeIs_int s k t) PySem.F.entry_int_rmul (PySem.F.args_int_rmul_2 _ _) (int_rmul_tuple k t l its.toArray n dd sl)
        ⟨ho, rfl, ⟨_, ho, rfl⟩, call_meets PySem.F.slot_tuple_mul ⟨_, ho, rfl⟩ PySem.F.entry_tuple_mul (PySem.F.args_tuple_mul_2 _ _) (tuple_mulW l its.toArray n dd sl k t c0 c1 c2 (by omega) c4 (by rw [size_rep, List.size_toArray]; exact flen)) ⟨ho, ?_⟩⟩)
    rw [size_rep]
    exact ⟨.ref s.heap.objs.size, _, Inv.frzT (t := s.toks) I (r.rep k.toNat) (by rw [PyProof.Rows.lm_len_rep_flat, sizeLine_eq]; have a1 : k.toNat * xs.length ≤ 1000 * 1000 := Nat.mul_le_mul (by omega) hz; omega), rfl, q2 hk1 _ _ (I.hok.fresh (Nat.le_refl _)) rfl⟩
  · have c2 : (decide (k ≤ 0) || its.toArray.isEmpty) = true := by
      rw [decide_eq_true (by omega)]
      rfl
    refine wpAny_binaryOp_repeat_ref (T := "tuple") (U := "int") (by decide) ⟨_, ho, rfl⟩ (fun s' => typeIs_int s' k t) noFill_tuple_mul PySem.F.fills_int_mul PySem.F.slot_int_rmul repeat_tuple PySem.F.slot_int_index.lookup
      (call_meets PySem.F.slot_int_rmul (typeIs_int s k t) PySem.F.entry_int_rmul (PySem.F.args_int_rmul_2 _ _) (int_rmul_tuple k t l its.toArray n dd sl)
        ⟨ho, rfl, ⟨_, ho, rfl⟩, call_meets PySem.F.slot_tuple_mul ⟨_, ho, rfl⟩ PySem.F.entry_tuple_mul (PySem.F.args_tuple_mul_2 _ _) (tuple_mul0 l its.toArray n dd sl k t c0 c1 c2) ⟨ho, ?_⟩⟩)
    have e0 : k.toNat = 0 := by omega
    have q3 := q2 hk1 s.heap.objs.size { cls := .type "tuple", data := .seq ([] : List Value).toArray } (I.hok.fresh (Nat.le_refl _)) rfl
    rw [e0] at q3
    exact ⟨.ref s.heap.objs.size, _, Inv.frzT (t := s.toks) (its := []) I .nil (Nat.zero_le _), rfl, q3⟩
def gMulA : D → D → Option D
  | .int i, .int j => if i.natAbs < 2 ^ 64 ∨ j.natAbs < 2 ^ 64 then some (.int (i * j)) else none
  | .tuple a, .int k => if a ≠ [] ∧ a.length ≤ 1000 ∧ k.natAbs ≤ 1000 then some (.tuple (List.replicate k.toNat a).flatten) else none
  | .str x, .int k => if x.length ≤ 1000 ∧ 0 ≤ k ∧ k ≤ 1000 then none else none
  | _, _ => none
theorem g_mul : OpR X (binaryOp .Mult) (rG2 X.K gMulA) := by
  intro pins s σ H x y v u Q I rx ry ⟨W, d, d', z, h0, h1, h2, h3, h4⟩
  unfold gMulA at h3
  split at h3
  · split at h3
    · rename_i hc
      cases h3
      refine op_mul pins s σ H x y v u Q I rx ry ⟨_, _, h1.int, h2.int, ?_, h4 _ H (.inl rfl) (.int _)⟩
      unfold CMul
      rcases hc with hc | hc
      · exact .inl ⟨by omega, by omega⟩
      · exact .inr ⟨by omega, by omega⟩
    · cases h3
  · split at h3
    · rename_i hc
      cases h3
      obtain ⟨a, xs, rfl, hs, ha⟩ := h1.tuple
      have hl := dps_length ha
      refine op_repA pins s σ H _ _ v u Q I rx ry ⟨a, _, xs, rfl, h2.int, hs, fun e => hc.1 ?_, by omega, by omega, by omega, fun e => h4 _ H (.inl rfl) ?_, fun _ p o hp ho => h4 _ _ (.inr ⟨p, _, hp, rfl⟩) (dpB_tup (dps_rep ha _) hp (h0.no hp) ho)⟩
      · subst e
        cases ha
        rfl
      · subst e
        rcases h1 with h1 | ⟨_, _, _, _, q, _⟩
        · simpa using h1
        · cases q
    · cases h3
  · split at h3 <;> cases h3
  · cases h3
/-! ### in, not in -/
theorem g_in (hu : X.A.units + 200 < cLine) : OpR X (compareOp .In) (rG2 X.K gIn) := by
  intro pins s σ H x y v u Q I rx ry ⟨W, d, d', z, h0, h1, h2, h3, h4⟩
  obtain ⟨⟨as, r1⟩, p1⟩ := h1.reads I rx
  obtain ⟨⟨bs, r2⟩, p2⟩ := h2.reads I ry
  unfold gIn inD at h3
  split at h3
  · split at h3
    · rename_i hd
      cases h3
      exact SeqAt.in_list_data r2 r1 (by simpa [PyData.plain] using p2) p1 (by have := min60 hd hu; have hm : min (PyData.depthAll _) d.depth ≤ 60 := (by rcases hd with hd | hd; exact Nat.le_trans (Nat.min_le_left _ _) hd; exact Nat.le_trans (Nat.min_le_right _ _) hd); omega) ⟨.bl _, H, I, rfl, h4 _ H (.inl rfl) (.bl _)⟩
    · cases h3
  · split at h3
    · rename_i hd
      cases h3
      exact SeqAt.in_tuple_data r2 r1 (by simpa [PyData.plain] using p2) p1 (by have := min60 hd hu; have hm : min (PyData.depthAll _) d.depth ≤ 60 := (by rcases hd with hd | hd; exact Nat.le_trans (Nat.min_le_left _ _) hd; exact Nat.le_trans (Nat.min_le_right _ _) hd); omega) ⟨.bl _, H, I, rfl, h4 _ H (.inl rfl) (.bl _)⟩
    · cases h3
  · split at h3
    · cases h3
      exact op_in_str pins s σ H x y v u Q I rx ry ⟨_, _, h1.str, h2.str, h4 _ H (.inl rfl) (.bl _)⟩
    · cases h3
  · cases h3
theorem g_notIn (hu : X.A.units + 200 < cLine) : OpR X (compareOp .NotIn) (rG2 X.K gNotIn) := by
  intro pins s σ H x y v u Q I rx ry ⟨W, d, d', z, h0, h1, h2, h3, h4⟩
  obtain ⟨⟨as, r1⟩, p1⟩ := h1.reads I rx
  obtain ⟨⟨bs, r2⟩, p2⟩ := h2.reads I ry
  unfold gNotIn inD at h3
  split at h3
  · split at h3
    · rename_i hd
      cases h3
      exact SeqAt.notIn_list_data r2 r1 (by simpa [PyData.plain] using p2) p1 (by have hm : min (PyData.depthAll _) d.depth ≤ 60 := (by rcases hd with hd | hd; exact Nat.le_trans (Nat.min_le_left _ _) hd; exact Nat.le_trans (Nat.min_le_right _ _) hd); omega) ⟨.bl _, H, I, rfl, h4 _ H (.inl rfl) (.bl _)⟩
    · cases h3
  · split at h3
    · rename_i hd
      cases h3
      exact SeqAt.notIn_tuple_data r2 r1 (by simpa [PyData.plain] using p2) p1 (by have hm : min (PyData.depthAll _) d.depth ≤ 60 := (by rcases hd with hd | hd; exact Nat.le_trans (Nat.min_le_left _ _) hd; exact Nat.le_trans (Nat.min_le_right _ _) hd); omega) ⟨.bl _, H, I, rfl, h4 _ H (.inl rfl) (.bl _)⟩
    · cases h3
  · split at h3
    · cases h3
      exact op_notin_str pins s σ H x y v u Q I rx ry ⟨_, _, h1.str, h2.str, h4 _ H (.inl rfl) (.bl _)⟩
    · cases h3
  · cases h3
/-! ### items -/
theorem atI_dps {K : PySem.W.Frag} {H : Hp} {vs : List V} {ds : List D} {i : Int} {d : D} (h : DpAll K H vs ds) (e : atI ds i = some d) : ∃ v, atI vs i = some v ∧ Dp K H v d := by
  unfold atI at e ⊢
  obtain ⟨j, e1, e2⟩ := Option.bind_eq_some_iff.mp e
  obtain ⟨v, h1, h2⟩ := dps_get h e2
  exact ⟨v, by rw [dps_length h, e1]; exact h1, h2⟩
theorem g_ix : IxR X (rG2 X.K gIx) := by
  intro ve se pins s σ H x y v u Q I rx ry ⟨W, d, d', z, h0, h1, h2, h3, h4⟩ hsub
  unfold gIx at h3
  split at h3
  · obtain ⟨a, xs, rfl, hs, ha⟩ := h1.list
    obtain ⟨w', e1, e2⟩ := atI_dps ha h3
    exact ix_list ve se pins s σ H _ y v u Q I rx ry ⟨a, xs, _, w', rfl, h2.int, hs, e1, h4 _ H (.inl rfl) e2⟩ hsub
  · obtain ⟨a, xs, rfl, hs, ha⟩ := h1.tuple
    obtain ⟨w', e1, e2⟩ := atI_dps ha h3
    exact ix_tup ve se pins s σ H _ y v u Q I rx ry ⟨a, xs, _, w', rfl, h2.int, hs, e1, h4 _ H (.inl rfl) e2⟩ hsub
  · split at h3
    · rename_i hl
      cases e : atI _ _ with
      | none => rw [e] at h3; cases h3
      | some ch =>
        rw [e] at h3
        cases h3
        exact ix_str ve se pins s σ H x y v u Q I rx ry ⟨_, _, ch, h1.str, h2.int, line_of hl, e, h4 _ H (.inl rfl) (.str _)⟩ hsub
    · cases h3
  · cases h3
/-! ### slices -/
def cutD (ds : List D) (lo hi : Option Int) : List D := (ds.drop (HT.sIx ds.length 0 lo)).take (HT.sIx ds.length ds.length hi - HT.sIx ds.length 0 lo)
def gSl : D → Option Int → Option Int → Option D
  | .list ds, lo, hi => some (.list (cutD ds lo hi))
  | .tuple ds, lo, hi => some (.tuple (cutD ds lo hi))
  | .str z, lo, hi => if z.length ≤ 1000000 then some (.str (cutS z lo hi)) else none
  | _, _, _ => none
theorem dps_cut {K : PySem.W.Frag} {H : Hp} {vs : List V} {ds : List D} {lo hi : Option Int} (h : DpAll K H vs ds) : DpAll K H (cutV vs lo hi) (cutD ds lo hi) := by
  unfold cutV cutD
  rw [dps_length h]
  exact dps_take _ (dps_drop _ h)
def rSlF (K : PySem.W.Frag) : V → Option Int → Option Int → Hp → VK → Prop := fun x lo hi H Q => ∃ a xs, x = .ref a ∧ SqT K H a xs ∧
  (HT.sIx xs.length 0 lo = 0 ∧ HT.sIx xs.length xs.length hi = xs.length → Q (.ref a) H) ∧ (¬ (HT.sIx xs.length 0 lo = 0 ∧ HT.sIx xs.length xs.length hi = xs.length) → ∀ p o, H p = none → o.dict = none → Q (.ref p) (upd H p (.frz o (.tup (cutV xs lo hi)))))
theorem sl_tupF : SlR X (rSlF X.K) := by
  intro pins s σ H x v vl vu lo hi sl Q I rx hs pl pu h
  obtain ⟨a, xs, rfl, hx, q1, q2⟩ := h
  cases rx
  obtain ⟨its, r, ht, hz⟩ := I.tuple hx
  have hlen : its.toArray.size = xs.length := by rw [List.size_toArray]; exact r.length.symm
  refine ⟨"tuple", _, PyProof.Rows.slot_tuple_getitem.lookup, ht.typeIs, ?_⟩
  by_cases hw : HT.sIx xs.length 0 lo = 0 ∧ HT.sIx xs.length xs.length hi = xs.length
  · exact getItem_tuple_whole ht hs pl pu (by rw [hlen]; exact hw) ⟨.ref a, H, I, rfl, q1 hw⟩
  · refine HT.getItem_tuple_cut ht hs pl pu (by rw [hlen]; exact hw) ?_ (by rw [hlen]; exact hz)
    rw [hlen]
    exact ⟨.ref s.heap.objs.size, _, Inv.frzT (t := s.toks) I ((r.drop (HT.sIx xs.length 0 lo)).take (HT.sIx xs.length xs.length hi - HT.sIx xs.length 0 lo)) (Nat.le_trans (cutV_length xs lo hi) hz), rfl, q2 hw _ _ (I.hok.fresh (Nat.le_refl _)) rfl⟩
def rSl (K : PySem.W.Frag) : V → Option Int → Option Int → Hp → VK → Prop := fun x lo hi H Q => ∃ W d r, AlW W H ∧ DpB K W H x d ∧ gSl d lo hi = some r ∧ ∀ v H', (H' = H ∨ ∃ p o, H p = none ∧ H' = upd H p o) → Dp K (hid W H') v r → Q v H'
theorem g_sl : SlR X (rSl X.K) := by
  intro pins s σ H x v vl vu lo hi sl Q I rx hs pl pu ⟨W, d, r, h0, h1, h3, h4⟩
  unfold gSl at h3
  split at h3
  · cases h3
    obtain ⟨a, xs, rfl, hs', ha⟩ := h1.list
    exact sl_list pins s σ H _ v vl vu lo hi sl Q I rx hs pl pu ⟨a, xs, rfl, hs', fun p hp => h4 _ _ (.inr ⟨p, _, hp, rfl⟩) (dpB_lst (dps_cut ha) hp (h0.no hp))⟩
  · cases h3
    rename_i ds
    obtain ⟨a, xs, rfl, hs', ha⟩ := h1.tuple
    refine sl_tupF pins s σ H _ v vl vu lo hi sl Q I rx hs pl pu ⟨a, xs, rfl, hs', fun e => h4 _ H (.inl rfl) ?_, fun _ p o hp ho => h4 _ _ (.inr ⟨p, _, hp, rfl⟩) (dpB_tup (dps_cut ha) hp (h0.no hp) ho)⟩
    have hl := dps_length ha
    have : cutD ds lo hi = ds := by
      unfold cutD
      rw [← hl, e.1, e.2]
      simp [hl]
    rw [this]
    rcases h1 with h1 | ⟨_, _, _, _, q, _⟩
    · exact h1
    · cases q
  · split at h3
    · rename_i hl
      cases h3
      exact sl_str pins s σ H x v vl vu _ _ sl Q I rx hs pl pu ⟨_, h1.str, line_of hl, h4 _ H (.inl rfl) (.str _)⟩
    · cases h3
  · cases h3
section
variable (P : Program) (w : World) (K : PySem.W.Frag) (c : Cc)
def RO (f : Sl → Option (Option Int × Sl)) : TO := fun σ H Q => ∃ S W o S', Rep P w K c S W σ H ∧ f S = some (o, S') ∧ ∀ H' W', Rep P w K c S' W' σ H' → Ks σ S W H S' W' H' → Q o H'
end
abbrev SO (X : Cx) (c : Cc) (e : Option Expr) (f : Sl → Option (Option Int × Sl)) : Prop := PO X e (RO X.prog X.w X.K c f)
theorem po_imp {X : Cx} {e : Option Expr} {t t' : TO} (h : PO X e t) (hi : ∀ σ H Q, t' σ H Q → t σ H Q) : PO X e t' := ⟨fun pins s σ H Q I q => h.run pins s σ H Q I (hi _ _ _ q)⟩
def kO0 : Sl → Option (Option Int × Sl) := fun S => some (none, S)
def kO1 (f : Sl → Option (D × Sl)) : Sl → Option (Option Int × Sl) := fun S => (f S).bind fun r => match r.1 with
  | .int i => some (some i, r.2)
  | _ => none
variable {c : Cc} {e : Expr} {f : Sl → Option (D × Sl)} {pos p2 : Pos} {i : Nat} {lo hi : Option Expr} {fl fh : Sl → Option (Option Int × Sl)}
theorem o_none : SO X c none kO0 := po_imp po_none fun σ H Q ⟨S, W, d, S', R, e, k⟩ => by
  cases e
  exact k H W R Ks.rfl
theorem o_some (h : SE X c e f) : SO X c (some e) (kO1 f) := po_imp (po_some h) fun σ H Q ⟨S, W, d, S', R, e, k⟩ => by
  unfold kO1 at e
  obtain ⟨⟨d1, S1⟩, e1, e⟩ := Option.bind_eq_some_iff.mp e
  simp only at e
  split at e
  · cases e
    refine ⟨S, W, _, _, R, e1, fun v H1 W1 R1 s1 x1 => ⟨_, ?_, k H1 W1 R1 s1⟩⟩
    cases x1
    rfl
  · cases e
def kSl (f : Sl → Option (D × Sl)) (fl fh : Sl → Option (Option Int × Sl)) : Sl → Option (D × Sl) := fun S => (f S).bind fun r => (fl r.2).bind fun l => (fh l.2).bind fun h => (gSl r.1 l.1 h.1).bind fun d => some (d, h.2)
theorem s_sl (h : SE X c e f) (hl : SO X c lo fl) (hh : SO X c hi fh) : SE X c (.Subscript e (.Slice lo hi none p2) pos) (kSl f fl fh) := pe_imp (pe_slice g_sl h hl hh) fun σ H Q ⟨S, W, d, S', R, e, k⟩ => by
  unfold kSl at e
  obtain ⟨⟨d1, S1⟩, e1, e⟩ := Option.bind_eq_some_iff.mp e
  obtain ⟨⟨l, S2⟩, e2, e⟩ := Option.bind_eq_some_iff.mp e
  obtain ⟨⟨h, S3⟩, e3, e⟩ := Option.bind_eq_some_iff.mp e
  obtain ⟨r, e4, e⟩ := Option.bind_eq_some_iff.mp e
  cases e
  refine ⟨S, W, d1, S1, R, e1, fun v H1 W1 R1 s1 x1 => ⟨S1, W1, l, S2, R1, e2, fun H2 W2 R2 s2 => ⟨S2, W2, h, S3, R2, e3, fun H3 W3 R3 s3 => ⟨W3, d1, d, R3.al, .inl ((s2.trans s3).vis.dp x1), e4, fun v' H' hg hd => ?_⟩⟩⟩⟩
  obtain ⟨R4, s4⟩ := R3.grown hg
  exact k v' H' W3 R4 (s1.trans (s2.trans (s3.trans s4))) hd
/-- a slot's slice -/
def kSlv (i : Nat) (fl fh : Sl → Option (Option Int × Sl)) : Sl → Option (D × Sl) := fun S => (vw S i).bind fun _ => (fl S).bind fun l => (fh l.2).bind fun h => (vw h.2 i).bind fun x => (gSl x l.1 h.1).bind fun d => some (d, h.2)
theorem s_slv (h : PE X e (tVar i)) (hl : SO X c lo fl) (hh : SO X c hi fh) : SE X c (.Subscript e (.Slice lo hi none p2) pos) (kSlv i fl fh) := pe_imp (pe_slice g_sl h hl hh) fun σ H Q ⟨S, W, d, S', R, e, k⟩ => by
  unfold kSlv at e
  obtain ⟨d0, e0, e⟩ := Option.bind_eq_some_iff.mp e
  obtain ⟨⟨l, S2⟩, e2, e⟩ := Option.bind_eq_some_iff.mp e
  obtain ⟨⟨h, S3⟩, e3, e⟩ := Option.bind_eq_some_iff.mp e
  obtain ⟨d1, e1, e⟩ := Option.bind_eq_some_iff.mp e
  obtain ⟨r, e4, e⟩ := Option.bind_eq_some_iff.mp e
  cases e
  obtain ⟨v, hv, _⟩ := vw_get R e0
  refine ⟨v, hv, S, W, l, S2, R, e2, fun H2 W2 R2 s2 => ⟨S2, W2, h, S3, R2, e3, fun H3 W3 R3 s3 => ?_⟩⟩
  obtain ⟨v', hv', x1⟩ := vw_get R3 e1
  rw [hv] at hv'
  cases hv'
  refine ⟨W3, d1, d, R3.al, x1, e4, fun v' H' hg hd => ?_⟩
  obtain ⟨R4, s4⟩ := R3.grown hg
  exact k v' H' W3 R4 (s2.trans (s3.trans s4)) hd
end
end VD
/-! VD8: what is walked: lists, tuples, texts, ranges, enumerate. -/
namespace VD
open PySem PySem.Spec PyProof.Rows L2
open PySem.Sem (wp)

/-! ### enumerate(v): its two new cells -/
set_option maxHeartbeats 1000000 in
theorem meets_enum1 {v : Value} {o : Obj} {H : Heap → Prop} (B : Begins v o H) :
    Meets (Builtin.«enumerate.__new__» ⟨[.type "enumerate", v], []⟩) (fun _ R s => H s.heap ∧
      R (.ok (.ret (.ref (s.heap.push o).objs.size))) { s with heap := (s.heap.push o).push { cls := .type "enumerate", data := .fields #[.none, .bool false, .ref s.heap.objs.size, rawInt 0, .none, .none] } }) :=
  .of_wp fun prog w A R s h => by
    obtain ⟨hp, g, d, tk, os⟩ := s; obtain ⟨h1, h⟩ := h
    have hsub := sub_enumerate
    have q1 : ∀ {A' : Around} {E : Value → Shared → Prop} {Q : Value → Shared → Prop}, Q (.ref hp.objs.size) ⟨hp.push o, g, d, tk, os⟩ → wpAny (model prog w) A' (pyIter v) Q E ⟨hp, g, d, tk, os⟩ :=
      fun q => B.iter prog w _ _ ⟨hp, g, d, tk, os⟩ _ h1 q
    wp_walk using q1
    refine wpAny_stack_any fun st => wpAny_pure ?_
    split
    · rename_i c _ _ _ _ _
      cases (c == Value.type "enumerate")
      · wp_walk using q1
        exact ⟨_, rfl, h⟩
      · wp_walk using q1
        exact ⟨_, rfl, h⟩
    · wp_walk using q1
      exact ⟨_, rfl, h⟩
theorem enum_begins1 {prog : Program} {w : World} {A : Around} {E : Value → Shared → Prop} {s : Shared} {v : Value} {o : Obj} {H : Heap → Prop} {Q : Value → Shared → Prop} (B : Begins v o H) (h1 : H s.heap)
    (h : ∀ h', IsEnum h' (s.heap.objs.size + 1) s.heap.objs.size 0 .none → h'.get? s.heap.objs.size = some o → h'.objs.size = s.heap.objs.size + 2 →
      (∀ b o, s.heap.get? b = some o → h'.get? b = some o) → Q (.ref (s.heap.objs.size + 1)) { s with heap := h' }) :
    wpAny (model prog w) A (call (.type "enumerate") [v]) Q E s := by
  refine callType_new PySem.F.called_enumerate (by decide) (PySem.F.typeCall_enumerate_1 _) (PySem.F.newCall_enumerate_1 _) (fun obj => PySem.F.args_object_init_2 obj _) PySem.F.entry_enumerate_new
    (meets_enum1 B) ⟨h1, ?_⟩
  have hz : (s.heap.push o).objs.size = s.heap.objs.size + 1 := Heap.size_push ..
  show _ ∧ _
  rw [hz]
  have he : IsEnum ((s.heap.push o).push { cls := .type "enumerate", data := .fields #[.none, .bool false, .ref s.heap.objs.size, rawInt 0, .none, .none] }) (s.heap.objs.size + 1) s.heap.objs.size 0 .none := by
    have := Heap.get?_push_size (s.heap.push o) (o := { cls := .type "enumerate", data := .fields #[.none, .bool false, .ref s.heap.objs.size, rawInt 0, .none, .none] }) rfl
    rw [hz] at this; exact this
  refine ⟨⟨_, he, rfl⟩, h _ he (Heap.get?_push_of_some _ (Heap.get?_push_size _ B.free)) (by rw [Heap.size_push, hz]) fun b o x => Heap.get?_push_of_some _ (Heap.get?_push_of_some _ x)⟩

/-- an own cell of a walk is no object that is read -/
theorem fp_ne {X : Cx} {pins : List (Addr × Obj)} {σ : St} {H : Hp} {s : Shared} {a b : Addr} {xs : List V} (I : Inv X pins σ H s) (f : FpOk X pins H b) (h : SqT X.K H a xs) : b ≠ a := fun e => by
  subst e
  obtain ⟨f0, f1, f2, f3, f4, f5⟩ := f
  rcases h with (h | ⟨o, h⟩) | ⟨o, its, n, hk, _⟩
  · rw [f0] at h; cases h
  · rw [f0] at h; cases h
  · have hb : X.base.get? b = some o := I.ok.mod.kin b o hk
    rcases f3 with z | z
    · exact I.ok.noex b o hb z
    · exact absurd (Nat.lt_of_lt_of_le (Heap.lt_size hb) (Nat.le_trans I.ok.bsz z)) (Nat.lt_irrefl _)
theorem fp_neL {X : Cx} {pins : List (Addr × Obj)} {σ : St} {H : Hp} {s : Shared} {a b : Addr} {xs : List V} (I : Inv X pins σ H s) (f : FpOk X pins H b) (h : SqL X.K H a xs) : b ≠ a := fun e => by
  subst e
  obtain ⟨f0, f1, f2, f3, f4, f5⟩ := f
  rcases h with (h | ⟨o, h⟩) | ⟨o, its, n, hk, _⟩
  · rw [f0] at h; cases h
  · rw [f0] at h; cases h
  · have hb : X.base.get? b = some o := I.ok.mod.kin b o hk
    rcases f3 with z | z
    · exact I.ok.noex b o hb z
    · exact absurd (Nat.lt_of_lt_of_le (Heap.lt_size hb) (Nat.le_trans I.ok.bsz z)) (Nat.lt_irrefl _)
/-- the state of an enumerate over a list; a tuple; a text -/
def IteL (K : PySem.W.Frag) (a : Addr) (xs : List V) : It :=
  ⟨fun i H => SqL K H a xs ∧ i < xs.length, fun i H v H' => ∃ T o x, v = .ref T ∧ H T = none ∧ o.dict = none ∧ H' = upd H T (.frz o (.tup [.int (i : Nat), x])) ∧ xs[i]? = some x, fun i H => SqL K H a xs ∧ i = xs.length⟩
def IteT (K : PySem.W.Frag) (a : Addr) (xs : List V) : It :=
  ⟨fun i H => SqT K H a xs ∧ i < xs.length, fun i H v H' => ∃ T o x, v = .ref T ∧ H T = none ∧ o.dict = none ∧ H' = upd H T (.frz o (.tup [.int (i : Nat), x])) ∧ xs[i]? = some x, fun i H => SqT K H a xs ∧ i = xs.length⟩
def IteS (z : Str) : It :=
  ⟨fun i H => i < z.cps.size, fun i H v H' => ∃ T o c, v = .ref T ∧ H T = none ∧ o.dict = none ∧ H' = upd H T (.frz o (.tup [.int (i : Nat), .str ⟨#[c]⟩])) ∧ z.cps[i]? = some c, fun i H => i = z.cps.size⟩
/-- one turn of an enumerate, by what its source draws -/
theorem enum_item {X : Cx} {elts : List Expr} {kk : Nat} {tpos : Pos} {pins : List (Addr × Obj)} {s : Shared} {σ : St} {H : Hp} {E : Value → Shared → Prop} {e it : Addr} {fp : List Addr} {n i : Nat} {Pd : Nat → Value → Prop} {St : Nat → Heap → Prop} {R : V → Hp → Shared → Prop}
    (I : Inv X pins σ H s) (hf : ∀ b ∈ [e, it], FpOk X pins H b) (D : Draws X.prog X.w X.A.in1 it fp n Pd St) (he : ∃ old, IsEnum s.heap e it ((i : Nat) : Int) old) (st : St i s.heap) (hei : e ≠ it) (hef : e ∉ fp) (hi : i < n)
    (h : ∀ (u : Value) (h'' : Heap) (tk : Nat) (T : Addr) (o : Obj), Pd i u → H T = none → o.dict = none → (∀ x, RelV x u → Inv X pins σ (upd H T (.frz o (.tup [.int (i : Nat), x]))) { s with heap := h'', toks := tk }) → (∃ old, IsEnum h'' e it (((i + 1 : Nat)) : Int) old) → St (i + 1) h'' → s.heap.objs.size ≤ T →
      ∃ x, RelV x u ∧ R (.ref T) (upd H T (.frz o (.tup [.int (i : Nat), x]))) { s with heap := h'', toks := tk }) :
    wpAny (model X.prog X.w) X.A (pyNext (.ref e)) (fun r s1 => ∃ u, r = some u ∧ wpAny (model X.prog X.w) X.A (letOwnedTupleGo (.Tuple elts kk tpos) (.ref e) u) (fun _ s2 => ∃ x H', RelV x u ∧ R x H' s2) E s1) E s := by
  obtain ⟨old, he⟩ := he
  have hel : e < s.heap.objs.size := Heap.lt_size he
  refine wpAny_pyNext_enum_itemC D he st hi hei hef fun x h' tk hP ho hs' hT hsz hk => ⟨_, rfl, ?_⟩
  refine wpAny_letOwnedTupleGo_enum (s := { s with heap := h', toks := tk + 1 }) ho fun h'' he' sb => ?_
  have hT2 : h''.get? s.heap.objs.size = some { cls := .type "tuple", data := .seq #[.int i tk, x] } := (sb.2 _ (Nat.ne_of_gt hel)).trans hT
  have hn : H s.heap.objs.size = none := I.hok.fresh (Nat.le_refl _)
  have hst : St (i + 1) h'' := D.frame _ _ _ hs' fun b hb o y => (sb.2 b fun q => hef (q ▸ hb)).trans y
  obtain ⟨x', r', q⟩ := h x h'' (tk + 1) s.heap.objs.size _ hP hn rfl (fun y ry => I.turnedNew (ch := [e, it]) (fun b ob hb q => (sb.2 b (fun z => hb (by simp [z]))).trans (hk b ob (fun z => hb (by simp [z])) (fun z => hb (by simp [z])) q)) hf (Nat.le_refl _)
    ⟨hT2, by show 2 ≤ sizeLine; decide, [.int i tk, x], .cons ⟨_, rfl⟩ (.cons ry .nil), ⟨_, hT2, rfl, _, rfl⟩⟩) ⟨x, by have e1 : ((i + 1 : Nat) : Int) = (i : Int) + 1 := (by omega); rw [e1]; exact he'⟩ hst (Nat.le_refl _)
  exact ⟨.ref s.heap.objs.size, _, rfl, q⟩
theorem turn_enumT {P : Program} {w : World} {K : PySem.W.Frag} {elts : List Expr} {kk : Nat} {tpos : Pos} (a e it : Addr) (xs : List V) :
    Turn P w K (.Tuple elts kk tpos) (IteT K a xs) [e, it] e (fun i h => (∃ old, IsEnum h e it ((i : Nat) : Int) old) ∧ h.IsTupleIter it a i ∧ e ≠ it) where
  mem := by simp
  obj := fun i h st b hb => by
    obtain ⟨⟨old, he⟩, ⟨o, ho, hc, hd⟩, _⟩ := st
    have e' : b = e ∨ b = it := by simpa using hb
    rcases e' with z | z
    · rw [z]; exact ⟨_, he, fun v q => nomatch q⟩
    · rw [z]; exact ⟨o, ho, fun v q => by rw [hd] at q; cases q⟩
  keep := fun i h h' st k => let ⟨⟨old, he⟩, hi, hne⟩ := st; ⟨⟨old, k e (by simp) _ he⟩, hi.at fun o q => k it (by simp) o q, hne⟩
  item := by
    intro X hP hw hK hc i pins s σ H E I hf st hg
    subst hP hw hK
    obtain ⟨he, hit, hne⟩ := st
    obtain ⟨hq, hlt⟩ := hg
    obtain ⟨its, rv, p, hz⟩ := I.tuple hq
    have hl := rv.length
    have ne1 : e ≠ a := fp_ne I (hf e (by simp)) hq
    have ne2 : it ≠ a := fp_ne I (hf it (by simp)) hq
    have D := Draws.tuple (prog := X.prog) (w := X.w) (A := X.A.in1) (I.ok.hd hc) it a (Ne.symm ne2) its.toArray
    refine wpAny_mono (enum_item (R := fun x H' s2 => Inv X pins σ H' s2 ∧ (IteT X.K a xs).yld i H x H' ∧ ((∃ old, IsEnum s2.heap e it (((i + 1 : Nat)) : Int) old) ∧ s2.heap.IsTupleIter it a (i + 1) ∧ e ≠ it) ∧ ∀ b ∈ [e, it], H' b = none)
      I hf D he ⟨hit, p⟩ hne (by simp; exact ⟨hne, ne1⟩) (by simp; omega) fun u h'' tk T o hu hn hod hI he' hst hsz => ?_) (fun r s1 ⟨u, e1, h2⟩ => ⟨u, e1, thn h2 fun _ s2 ⟨x, H', rx, h3, h4, h5, h6⟩ => ⟨x, H', h3, rx, h4, h5, h6⟩⟩) fun _ _ z => z
    have hu' : its[i]? = some u := by simpa using hu
    obtain ⟨x, hx, rx⟩ : ∃ x, xs[i]? = some x ∧ RelV x u := by
      have hx := List.getElem?_eq_getElem hlt
      obtain ⟨u', hu2, ru⟩ := rv.get hx
      rw [hu'] at hu2
      cases hu2
      exact ⟨_, hx, ru⟩
    refine ⟨x, rx, hI x rx, ⟨T, o, x, rfl, hn, hod, rfl, hx⟩, ⟨he', hst.1, hne⟩, fun b hb => ?_⟩
    have hb' : b < s.heap.objs.size := by
      have e' : b = e ∨ b = it := by simpa using hb
      rcases e' with z | z
      · rw [z]; obtain ⟨old, q⟩ := he; exact Heap.lt_size q
      · rw [z]; obtain ⟨_, q, _⟩ := hit; exact Heap.lt_size q
    rw [upd_ne (Nat.ne_of_lt (Nat.lt_of_lt_of_le hb' hsz))]
    exact (hf b hb).1
  done := by
    intro X hP hw hK hc i pins s σ H E I hf st hg
    subst hP hw hK
    obtain ⟨⟨old, he⟩, hit, hne⟩ := st
    obtain ⟨hq, hlt⟩ := hg
    obtain ⟨its, rv, p, hz⟩ := I.tuple hq
    have hl := rv.length
    have ne1 : e ≠ a := fp_ne I (hf e (by simp)) hq
    have ne2 : it ≠ a := fp_ne I (hf it (by simp)) hq
    have D := Draws.tuple (prog := X.prog) (w := X.w) (A := X.A.in1) (I.ok.hd hc) it a (Ne.symm ne2) its.toArray
    have W := WalksT.enumFrom (A := X.A) 0 D e hne (by simp; exact ⟨hne, ne1⟩) (by simp)
    have hi : i = its.toArray.size := by simp; omega
    refine W.done s _ E ⟨⟨old, by rw [← hi, show (0 : Int) + (i : Int) = (i : Int) by omega]; exact he⟩, by rw [← hi]; exact hit, p⟩ fun h' tk hk => ⟨rfl, ?_⟩
    exact I.turnedL (ch := [e, it]) (fun b o hb q => hk b o hb q) hf
  self := fun A i s Q E st h => let ⟨⟨_, he⟩, _⟩ := st; wpAny_pyIter_enum he h
theorem turn_enumL {P : Program} {w : World} {K : PySem.W.Frag} {elts : List Expr} {kk : Nat} {tpos : Pos} (a e it : Addr) (xs : List V) :
    Turn P w K (.Tuple elts kk tpos) (IteL K a xs) [e, it] e (fun i h => (∃ old, IsEnum h e it ((i : Nat) : Int) old) ∧ h.IsListIter it a i ∧ e ≠ it) where
  mem := by simp
  obj := fun i h st b hb => by
    obtain ⟨⟨old, he⟩, ⟨o, ho, hc, hd⟩, _⟩ := st
    have e' : b = e ∨ b = it := by simpa using hb
    rcases e' with z | z
    · rw [z]; exact ⟨_, he, fun v q => nomatch q⟩
    · rw [z]; exact ⟨o, ho, fun v q => by rw [hd] at q; cases q⟩
  keep := fun i h h' st k => let ⟨⟨old, he⟩, hi, hne⟩ := st; ⟨⟨old, k e (by simp) _ he⟩, hi.at fun o q => k it (by simp) o q, hne⟩
  item := by
    intro X hP hw hK hc i pins s σ H E I hf st hg
    subst hP hw hK
    obtain ⟨he, hit, hne⟩ := st
    obtain ⟨hq, hlt⟩ := hg
    obtain ⟨its, rv, p, hz⟩ := I.list hq
    have hl := rv.length
    have ne1 : e ≠ a := fp_neL I (hf e (by simp)) hq
    have ne2 : it ≠ a := fp_neL I (hf it (by simp)) hq
    have D := Draws.list (prog := X.prog) (w := X.w) (A := X.A.in1) (I.ok.hd hc) it a (Ne.symm ne2) its.toArray
    refine wpAny_mono (enum_item (R := fun x H' s2 => Inv X pins σ H' s2 ∧ (IteL X.K a xs).yld i H x H' ∧ ((∃ old, IsEnum s2.heap e it (((i + 1 : Nat)) : Int) old) ∧ s2.heap.IsListIter it a (i + 1) ∧ e ≠ it) ∧ ∀ b ∈ [e, it], H' b = none)
      I hf D he ⟨hit, p.isList⟩ hne (by simp; exact ⟨hne, ne1⟩) (by simp; omega) fun u h'' tk T o hu hn hod hI he' hst hsz => ?_) (fun r s1 ⟨u, e1, h2⟩ => ⟨u, e1, thn h2 fun _ s2 ⟨x, H', rx, h3, h4, h5, h6⟩ => ⟨x, H', h3, rx, h4, h5, h6⟩⟩) fun _ _ z => z
    have hu' : its[i]? = some u := by simpa using hu
    obtain ⟨x, hx, rx⟩ : ∃ x, xs[i]? = some x ∧ RelV x u := by
      have hx := List.getElem?_eq_getElem hlt
      obtain ⟨u', hu2, ru⟩ := rv.get hx
      rw [hu'] at hu2
      cases hu2
      exact ⟨_, hx, ru⟩
    refine ⟨x, rx, hI x rx, ⟨T, o, x, rfl, hn, hod, rfl, hx⟩, ⟨he', hst.1, hne⟩, fun b hb => ?_⟩
    have hb' : b < s.heap.objs.size := by
      have e' : b = e ∨ b = it := by simpa using hb
      rcases e' with z | z
      · rw [z]; obtain ⟨old, q⟩ := he; exact Heap.lt_size q
      · rw [z]; obtain ⟨_, q, _⟩ := hit; exact Heap.lt_size q
    rw [upd_ne (Nat.ne_of_lt (Nat.lt_of_lt_of_le hb' hsz))]
    exact (hf b hb).1
  done := by
    intro X hP hw hK hc i pins s σ H E I hf st hg
    subst hP hw hK
    obtain ⟨⟨old, he⟩, hit, hne⟩ := st
    obtain ⟨hq, hlt⟩ := hg
    obtain ⟨its, rv, p, hz⟩ := I.list hq
    have hl := rv.length
    have ne1 : e ≠ a := fp_neL I (hf e (by simp)) hq
    have ne2 : it ≠ a := fp_neL I (hf it (by simp)) hq
    have D := Draws.list (prog := X.prog) (w := X.w) (A := X.A.in1) (I.ok.hd hc) it a (Ne.symm ne2) its.toArray
    have W := WalksT.enumFrom (A := X.A) 0 D e hne (by simp; exact ⟨hne, ne1⟩) (by simp)
    have hi : i = its.toArray.size := by simp; omega
    refine W.done s _ E ⟨⟨old, by rw [← hi, show (0 : Int) + (i : Int) = (i : Int) by omega]; exact he⟩, by rw [← hi]; exact hit, p.isList⟩ fun h' tk hk => ⟨rfl, ?_⟩
    exact I.turnedL (ch := [e, it]) (fun b o hb q => hk b o hb q) hf
  self := fun A i s Q E st h => let ⟨⟨_, he⟩, _⟩ := st; wpAny_pyIter_enum he h
theorem turn_enumS {P : Program} {w : World} {K : PySem.W.Frag} {elts : List Expr} {kk : Nat} {tpos : Pos} (e it : Addr) (z : Str) (t : Tok) :
    Turn P w K (.Tuple elts kk tpos) (IteS z) [e, it] e (fun i h => (∃ old, IsEnum h e it ((i : Nat) : Int) old) ∧ h.IsStrIter it (strIterType z) z t i ∧ e ≠ it) where
  mem := by simp
  obj := fun i h st b hb => by
    obtain ⟨⟨old, he⟩, ⟨o, ho, hc, hd⟩, _⟩ := st
    have e' : b = e ∨ b = it := by simpa using hb
    rcases e' with z | z
    · rw [z]; exact ⟨_, he, fun v q => nomatch q⟩
    · rw [z]; exact ⟨o, ho, fun v q => by rw [hd] at q; cases q⟩
  keep := fun i h h' st k => let ⟨⟨old, he⟩, hi, hne⟩ := st; ⟨⟨old, k e (by simp) _ he⟩, let ⟨o, h1, h2, h3⟩ := hi; ⟨o, k it (by simp) o h1, h2, h3⟩, hne⟩
  item := by
    intro X hP hw hK hc i pins s σ H E I hf st hg
    subst hP hw hK
    obtain ⟨he, hit, hne⟩ := st
    have hlt : i < z.cps.size := hg
    have D := Draws.text (prog := X.prog) (w := X.w) (A := X.A.in1) (I.ok.hd hc) it z t
    refine wpAny_mono (enum_item (R := fun x H' s2 => Inv X pins σ H' s2 ∧ (IteS z).yld i H x H' ∧ ((∃ old, IsEnum s2.heap e it (((i + 1 : Nat)) : Int) old) ∧ s2.heap.IsStrIter it (strIterType z) z t (i + 1) ∧ e ≠ it) ∧ ∀ b ∈ [e, it], H' b = none)
      I hf D he hit hne (by simp; exact hne) hlt fun u h'' tk T o hu hn hod hI he' hst hsz => ?_) (fun r s1 ⟨u, e1, h2⟩ => ⟨u, e1, thn h2 fun _ s2 ⟨x, H', rx, h3, h4, h5, h6⟩ => ⟨x, H', h3, rx, h4, h5, h6⟩⟩) fun _ _ z => z
    obtain ⟨ch, t', hch, rfl⟩ := hu
    refine ⟨.str ⟨#[ch]⟩, ⟨_, rfl⟩, hI _ ⟨_, rfl⟩, ⟨T, o, ch, rfl, hn, hod, rfl, hch⟩, ⟨he', hst, hne⟩, fun b hb => ?_⟩
    have hb' : b < s.heap.objs.size := by
      have e' : b = e ∨ b = it := by simpa using hb
      rcases e' with z | z
      · rw [z]; obtain ⟨old, q⟩ := he; exact Heap.lt_size q
      · rw [z]; obtain ⟨_, q, _⟩ := hit; exact Heap.lt_size q
    rw [upd_ne (Nat.ne_of_lt (Nat.lt_of_lt_of_le hb' hsz))]
    exact (hf b hb).1
  done := by
    intro X hP hw hK hc i pins s σ H E I hf st hg
    subst hP hw hK
    obtain ⟨⟨old, he⟩, hit, hne⟩ := st
    have hi : i = z.cps.size := hg
    have D := Draws.text (prog := X.prog) (w := X.w) (A := X.A.in1) (I.ok.hd hc) it z t
    have W := WalksT.enumFrom (A := X.A) 0 D e hne (by simp; exact hne) (by simp)
    refine W.done s _ E ⟨⟨old, by rw [← hi, show (0 : Int) + (i : Int) = (i : Int) by omega]; exact he⟩, by rw [← hi]; exact hit⟩ fun h' tk hk => ⟨rfl, ?_⟩
    exact I.turnedL (ch := [e, it]) (fun b o hb q => hk b o hb q) hf
  self := fun A i s Q E st h => let ⟨⟨_, he⟩, _⟩ := st; wpAny_pyIter_enum he h
/-! ### by the kind of what is walked -/
def iEnumD (K : PySem.W.Frag) (ta : TA) : TI := fun σ H R => ta σ H fun vs H1 => (∃ a xs, vs = [.ref a] ∧ SqL K H1 a xs ∧ R (IteL K a xs) H1) ∨ (∃ a xs, vs = [.ref a] ∧ SqT K H1 a xs ∧ R (IteT K a xs) H1) ∨ (∃ z, vs = [.str z] ∧ R (IteS z) H1)
theorem pi_enumD {X : Cx} {e : Expr} {ta : TA} {p pos tpos : Pos} {elts : List Expr} {kk : Nat} (hg : Gl X "enumerate") (hm : X.mg "enumerate" = none) (ha : PA X [e] ta) (hs : starEach [e] X.env = [(false, eval e X.env)] := by rfl) :
    PI X (.Tuple elts kk tpos) (.Call (.Name "enumerate" p) [e] [] pos) (iEnumD X.K ta) := by
  refine ⟨fun pins s σ H R I h => ?_⟩
  refine Call_ (ld_blt I hg hm boot_enumerate (PyProof.Rows.callWith_type1 (thn (ha.run pos pins s σ H _ I h) fun us s1 ⟨vs, H1, I1, r1, q1⟩ => ?_) hs rfl))
  have own : ∀ b, b ∈ [s1.heap.objs.size + 1, s1.heap.objs.size] → FpOk X pins H1 b := fun b hb => by
    have e' : b = s1.heap.objs.size + 1 ∨ b = s1.heap.objs.size := by simpa using hb
    have hle : s1.heap.objs.size ≤ b := by
      rcases e' with z | z
      · rw [z]; exact Nat.le_add_right _ _
      · rw [z]; exact Nat.le_refl _
    exact I1.fpOk hle (I1.hok.fresh hle)
  rcases q1 with ⟨a, xs, ex, hq, q⟩ | ⟨a, xs, ex, hq, q⟩ | ⟨z, ex, q⟩
  · subst ex
    cases r1 with
    | cons r rr =>
      cases rr
      cases r
      obtain ⟨its, rv, p', hz⟩ := I1.list hq
      refine call_enumerate_list p'.isList fun h' he hit hsz hk => wpAny_pyIter_enum he ?_
      have I2 : Inv X pins σ H1 { s1 with heap := h' } := I1.kept (t' := s1.toks) hk
      exact ⟨s1.heap.objs.size + 1, [s1.heap.objs.size + 1, s1.heap.objs.size], _, _, H1, rfl, I2, turn_enumL a (s1.heap.objs.size + 1) s1.heap.objs.size xs, ⟨⟨.none, he⟩, hit, Nat.succ_ne_self _⟩, own, q⟩
  · subst ex
    cases r1 with
    | cons r rr =>
      cases rr
      cases r
      obtain ⟨its, rv, p', hz⟩ := I1.tuple hq
      refine enum_begins1 (begins_tuple a its.toArray) p' fun h' he hit hsz hk => wpAny_pyIter_enum he ?_
      have I2 : Inv X pins σ H1 { s1 with heap := h' } := I1.kept (t' := s1.toks) hk
      exact ⟨s1.heap.objs.size + 1, [s1.heap.objs.size + 1, s1.heap.objs.size], _, _, H1, rfl, I2, turn_enumT a (s1.heap.objs.size + 1) s1.heap.objs.size xs, ⟨⟨.none, he⟩, ⟨_, hit, rfl, rfl⟩, Nat.succ_ne_self _⟩, own, q⟩
  · subst ex
    cases r1 with
    | cons r rr =>
      cases rr
      obtain ⟨t, rfl⟩ := r
      refine enum_begins1 (begins_text z t) trivial fun h' he hit hsz hk => wpAny_pyIter_enum he ?_
      have I2 : Inv X pins σ H1 { s1 with heap := h' } := I1.kept (t' := s1.toks) hk
      exact ⟨s1.heap.objs.size + 1, [s1.heap.objs.size + 1, s1.heap.objs.size], _, _, H1, rfl, I2, turn_enumS (s1.heap.objs.size + 1) s1.heap.objs.size z t, ⟨⟨.none, he⟩, ⟨_, hit, rfl, rfl⟩, Nat.succ_ne_self _⟩, own, q⟩
/-- lists, tuples, texts -/
def iDat (K : PySem.W.Frag) (te : TE) : TI := fun σ H R => te σ H fun v H1 => (∃ a xs, v = .ref a ∧ SqL K H1 a xs ∧ R (Itl K a) H1) ∨ (∃ a xs, v = .ref a ∧ SqT K H1 a xs ∧ R (Itt K a) H1) ∨ (∃ z, v = .str z ∧ R (Its z) H1)
theorem pi_dat {X : Cx} {tg e : Expr} {te : TE} (he : PE X e te) : PI X tg e (iDat X.K te) := by
  refine ⟨fun pins s σ H R I h => ?_⟩
  refine thn (he.run pins s σ H _ I h) fun v s1 ⟨x, H1, I1, r1, q1⟩ => ?_
  rcases q1 with ⟨a, xs, rfl, hq, q⟩ | ⟨a, xs, rfl, hq, q⟩ | ⟨z, rfl, q⟩
  · cases r1
    obtain ⟨its, rv, p, hz⟩ := I1.list hq
    refine wpAny_pyIter_list p.isList ?_
    refine ⟨s1.heap.objs.size, [s1.heap.objs.size], _, _, H1, rfl, I1.kept (t' := s1.toks) fun b o e => Heap.get?_push_of_some _ e, turn_list a _, ⟨_, Heap.get?_push_size _ rfl, rfl, rfl⟩, fun b hb => ?_, q⟩
    have e : b = s1.heap.objs.size := by simpa using hb
    subst e
    exact I1.fpOk (Nat.le_refl _) (I1.hok.fresh (Nat.le_refl _))
  · cases r1
    obtain ⟨its, rv, p, hz⟩ := I1.tuple hq
    refine wpAny_pyIter_tuple (show s1.heap.IsTuple a its.toArray from p) ?_
    refine ⟨s1.heap.objs.size, [s1.heap.objs.size], _, _, H1, rfl, I1.kept (t' := s1.toks) fun b o e => Heap.get?_push_of_some _ e, turn_tuple a _, ⟨_, Heap.get?_push_size _ rfl, rfl, rfl⟩, fun b hb => ?_, q⟩
    have e : b = s1.heap.objs.size := by simpa using hb
    subst e
    exact I1.fpOk (Nat.le_refl _) (I1.hok.fresh (Nat.le_refl _))
  · obtain ⟨t, rfl⟩ := r1
    cases ha : z.cps.all (· < 128)
    · exact wpAny_pyIter_wide ha (pi_one (tk := s1.toks) I1 _ (turn_str _ z t "str_iterator" (.inr rfl)) ⟨_, Heap.get?_push_size _ rfl, rfl, rfl⟩ q)
    · exact wpAny_pyIter_ascii ha (pi_one (tk := s1.toks) I1 _ (turn_str _ z t "str_ascii_iterator" (.inl rfl)) ⟨_, Heap.get?_push_size _ rfl, rfl, rfl⟩ q)

/-! ### walks over data -/
def signsD (z : Str) : List D := z.cps.toList.map fun ch => .str ⟨#[ch]⟩
def itemsD : D → Option (List D)
  | .list ds => some ds
  | .tuple ds => some ds
  | .str z => some (signsD z)
  | _ => none
def rangeD (lo : Int) (n : Nat) : List D := (List.range n).map fun i => .int (lo + (i : Nat))
def enumD (ds : List D) : List D := ds.zipIdx.map fun p => .tuple [.int (p.2 : Nat), p.1]
theorem signs_get {z : Str} {i : Nat} : (signsD z)[i]? = (z.cps[i]?).map fun ch => .str ⟨#[ch]⟩ := by
  unfold signsD
  rw [List.getElem?_map, Array.getElem?_toList]
theorem signs_len (z : Str) : (signsD z).length = z.cps.size := by simp [signsD]
theorem enumD_get {ds : List D} {i : Nat} : (enumD ds)[i]? = (ds[i]?).map fun d => .tuple [.int (i : Nat), d] := by
  unfold enumD
  rw [List.getElem?_map, List.getElem?_zipIdx]
  cases ds[i]? <;> simp
theorem enumD_len (ds : List D) : (enumD ds).length = ds.length := by simp [enumD]
section
variable {K : PySem.W.Frag} {W : AP} {H : Hp} {a : Addr} {xs : List V} {ds : List D}
/-- data stay readable -/
theorem sql_hid {W2 : AP} {H2 : Hp} (s : Same (hid W H) (hid W2 H2)) (h : SqL K (hid W H) a xs) : SqL K H2 a xs := hid_sub.seq (s.seq h)
theorem sqt_hid {W2 : AP} {H2 : Hp} (s : Same (hid W H) (hid W2 H2)) (h : SqT K (hid W H) a xs) : SqT K H2 a xs := seqT hid_sub (seqT s h)
theorem at_some {α : Type} {l : List α} {i : Nat} (h : i < l.length) : ∃ x, l[i]? = some x := ⟨_, List.getElem?_eq_getElem h⟩
theorem wk_list (hs : SqL K (hid W H) a xs) (ha : DpAll K (hid W H) xs ds) : WkD K (Itl K a) W H ds where
  go := fun i W2 H2 s hi => by
    obtain ⟨d, hd⟩ := at_some hi
    obtain ⟨v, hv, _⟩ := dps_get ha hd
    exact ⟨xs, v, sql_hid s hs, hv⟩
  stop := fun W2 H2 s => ⟨xs, sql_hid s hs, by rw [dps_length ha]; exact Nat.le_refl _⟩
  yld := fun i W2 H2 x H3 al s hi ⟨e, hy⟩ => by
    subst e
    obtain ⟨d, hd⟩ := at_some hi
    obtain ⟨v, hv, x'⟩ := dps_get ha hd
    have hx := hy xs (sql_hid s hs)
    rw [hv] at hx
    cases hx
    exact ⟨.inl rfl, d, hd, s.dp x'⟩
theorem wk_tuple (hs : SqT K (hid W H) a xs) (ha : DpAll K (hid W H) xs ds) : WkD K (Itt K a) W H ds where
  go := fun i W2 H2 s hi => by
    obtain ⟨d, hd⟩ := at_some hi
    obtain ⟨v, hv, _⟩ := dps_get ha hd
    exact ⟨xs, v, sqt_hid s hs, hv⟩
  stop := fun W2 H2 s => ⟨xs, sqt_hid s hs, by rw [dps_length ha]; exact Nat.le_refl _⟩
  yld := fun i W2 H2 x H3 al s hi ⟨e, hy⟩ => by
    subst e
    obtain ⟨d, hd⟩ := at_some hi
    obtain ⟨v, hv, x'⟩ := dps_get ha hd
    have hx := hy xs (sqt_hid s hs)
    rw [hv] at hx
    cases hx
    exact ⟨.inl rfl, d, hd, s.dp x'⟩
theorem wk_str (z : Str) : WkD K (Its z) W H (signsD z) where
  go := fun i W2 H2 s hi => by rw [signs_len] at hi; exact hi
  stop := fun W2 H2 s => by rw [signs_len]; exact Nat.le_refl _
  yld := fun i W2 H2 x H3 al s hi ⟨e, ch, hc, hx⟩ => by
    subst e hx
    exact ⟨.inl rfl, _, by rw [signs_get, hc]; rfl, .str _⟩
theorem wk_range (lo : Int) (n : Nat) : WkD K (Itr lo n) W H (rangeD lo n) where
  go := fun i W2 H2 s hi => by simp [rangeD] at hi; exact hi
  stop := fun W2 H2 s => by simp [rangeD]; exact Nat.le_refl _
  yld := fun i W2 H2 x H3 al s hi ⟨e, hx⟩ => by
    subst e hx
    have hi' : i < n := by simpa [rangeD] using hi
    exact ⟨.inl rfl, .int (lo + (i : Nat)), by simp [rangeD, hi'], .int _⟩
/-- a new pair -/
theorem pair_dp {H2 : Hp} {T : Addr} {i : Nat} {x : V} {d : D} {o : Obj} (hT : H2 T = none) (ho : o.dict = none) (hw : ¬ W T) (x' : Dp K (hid W H2) x d) : Dp K (hid W (upd H2 T (.frz o (.tup [.int (i : Nat), x])))) (.ref T) (.tuple [.int (i : Nat), d]) :=
  dpB_tup (.cons (.int _) (.cons x' .nil)) hT hw ho
theorem wk_enumL (hs : SqL K (hid W H) a xs) (ha : DpAll K (hid W H) xs ds) : WkD K (IteL K a xs) W H (enumD ds) where
  go := fun i W2 H2 s hi => by
    rw [enumD_len] at hi
    exact ⟨sql_hid s hs, by rw [dps_length ha]; exact hi⟩
  stop := fun W2 H2 s => ⟨sql_hid s hs, by rw [enumD_len, dps_length ha]⟩
  yld := fun i W2 H2 x H3 al s hi ⟨T, o, y, e1, e2, ho, e3, hy⟩ => by
    subst e1 e3
    rw [enumD_len] at hi
    obtain ⟨d, hd⟩ := at_some hi
    obtain ⟨v, hv, x'⟩ := dps_get ha hd
    rw [hv] at hy
    cases hy
    exact ⟨.inr ⟨T, _, e2, rfl⟩, .tuple [.int (i : Nat), d], by rw [enumD_get, hd]; rfl, pair_dp e2 ho (al.no e2) (s.dp x')⟩
theorem wk_enumT (hs : SqT K (hid W H) a xs) (ha : DpAll K (hid W H) xs ds) : WkD K (IteT K a xs) W H (enumD ds) where
  go := fun i W2 H2 s hi => by
    rw [enumD_len] at hi
    exact ⟨sqt_hid s hs, by rw [dps_length ha]; exact hi⟩
  stop := fun W2 H2 s => ⟨sqt_hid s hs, by rw [enumD_len, dps_length ha]⟩
  yld := fun i W2 H2 x H3 al s hi ⟨T, o, y, e1, e2, ho, e3, hy⟩ => by
    subst e1 e3
    rw [enumD_len] at hi
    obtain ⟨d, hd⟩ := at_some hi
    obtain ⟨v, hv, x'⟩ := dps_get ha hd
    rw [hv] at hy
    cases hy
    exact ⟨.inr ⟨T, _, e2, rfl⟩, .tuple [.int (i : Nat), d], by rw [enumD_get, hd]; rfl, pair_dp e2 ho (al.no e2) (s.dp x')⟩
theorem wk_enumS (z : Str) : WkD K (IteS z) W H (enumD (signsD z)) where
  go := fun i W2 H2 s hi => by rw [enumD_len, signs_len] at hi; exact hi
  stop := fun W2 H2 s => by show (enumD (signsD z)).length = _; rw [enumD_len, signs_len]
  yld := fun i W2 H2 x H3 al s hi ⟨T, o, ch, e1, e2, ho, e3, hy⟩ => by
    subst e1 e3
    exact ⟨.inr ⟨T, _, e2, rfl⟩, .tuple [.int (i : Nat), .str ⟨#[ch]⟩], by rw [enumD_get, signs_get, hy]; rfl, pair_dp e2 ho (al.no e2) (.str _)⟩
end
def kI (f : Sl → Option (D × Sl)) : Sl → Option (List D × Sl) := fun S => (f S).bind fun r => (itemsD r.1).bind fun ds => some (ds, r.2)
def kEn (f : Sl → Option (D × Sl)) : Sl → Option (List D × Sl) := fun S => (f S).bind fun r => (itemsD r.1).bind fun ds => some (enumD ds, r.2)
def kR1 (f : Sl → Option (List D × Sl)) : Sl → Option (List D × Sl) := fun S => (f S).bind fun r => match r.1 with
  | [.int j] => if j.natAbs < 2 ^ 60 then some (rangeD 0 j.toNat, r.2) else none
  | _ => none
def kR2 (f : Sl → Option (List D × Sl)) : Sl → Option (List D × Sl) := fun S => (f S).bind fun r => match r.1 with
  | [.int i, .int j] => if i.natAbs < 2 ^ 60 ∧ j.natAbs < 2 ^ 60 then some (rangeD i (j - i).toNat, r.2) else none
  | _ => none
section
variable {X : Cx} {c : Cc} {tg e e2 : Expr} {f f2 : Sl → Option (D × Sl)} {p pos tpos : Pos} {elts : List Expr} {kk : Nat}
theorem i_dat (h : SE X c e f) : SI X c tg e (kI f) := pi_imp (pi_dat h) fun σ H Q ⟨S, W, d, S', R, e, k⟩ => by
  unfold kI at e
  obtain ⟨⟨d1, S1⟩, e1, e⟩ := Option.bind_eq_some_iff.mp e
  obtain ⟨ds, e2, e⟩ := Option.bind_eq_some_iff.mp e
  cases e
  refine ⟨S, W, d1, S1, R, e1, fun v H1 W1 R1 s1 x1 => ?_⟩
  replace e2 : itemsD d1 = some _ := e2
  unfold itemsD at e2
  split at e2
  · cases e2
    cases x1 with
    | lst hs ha => exact .inl ⟨_, _, rfl, hid_sub.seq hs, k _ H1 W1 R1 s1 (wk_list hs ha)⟩
  · cases e2
    cases x1 with
    | tup hs ha => exact .inr (.inl ⟨_, _, rfl, seqT hid_sub hs.sq, k _ H1 W1 R1 s1 (wk_tuple hs.sq ha)⟩)
  · cases e2
    cases x1
    exact .inr (.inr ⟨_, rfl, k _ H1 W1 R1 s1 (wk_str _)⟩)
  · cases e2
theorem i_enum (hg : Gl X "enumerate") (hm : X.mg "enumerate" = none) (h : SE X c e f) (hs : starEach [e] X.env = [(false, eval e X.env)] := by rfl) : SI X c (.Tuple elts kk tpos) (.Call (.Name "enumerate" p) [e] [] pos) (kEn f) := pi_imp (pi_enumD hg hm (pa_cons h pa_nil hs) hs) fun σ H Q ⟨S, W, d, S', R, e, k⟩ => by
  unfold kEn at e
  obtain ⟨⟨d1, S1⟩, e1, e⟩ := Option.bind_eq_some_iff.mp e
  obtain ⟨ds, e2, e⟩ := Option.bind_eq_some_iff.mp e
  cases e
  refine ⟨S, W, d1, S1, R, e1, fun v H1 W1 R1 s1 x1 => ?_⟩
  replace e2 : itemsD d1 = some _ := e2
  unfold itemsD at e2
  split at e2
  · cases e2
    cases x1 with
    | lst hs ha => exact .inl ⟨_, _, rfl, hid_sub.seq hs, k _ H1 W1 R1 s1 (wk_enumL hs ha)⟩
  · cases e2
    cases x1 with
    | tup hs ha => exact .inr (.inl ⟨_, _, rfl, seqT hid_sub hs.sq, k _ H1 W1 R1 s1 (wk_enumT hs.sq ha)⟩)
  · cases e2
    cases x1
    exact .inr (.inr ⟨_, rfl, k _ H1 W1 R1 s1 (wk_enumS _)⟩)
  · cases e2
theorem i_range1 {fl : Sl → Option (List D × Sl)} (hg : Gl X "range") (hm : X.mg "range" = none) (h : SL X c [e] fl) (hs : starEach [e] X.env = [(false, eval e X.env)] := by rfl) : SI X c tg (.Call (.Name "range" p) [e] [] pos) (kR1 fl) := pi_imp (pi_range1 hg hm h hs) fun σ H Q ⟨S, W, d, S', R, e, k⟩ => by
  unfold kR1 at e
  obtain ⟨⟨d1, S1⟩, e1, e⟩ := Option.bind_eq_some_iff.mp e
  simp only at e
  split at e
  · split at e
    · rename_i hb
      cases e
      refine ⟨S, W, _, _, R, e1, fun v H1 W1 R1 s1 x1 => ?_⟩
      cases x1 with
      | cons y ys =>
        cases ys
        cases y
        exact ⟨_, rfl, by omega, by omega, k _ H1 W1 R1 s1 (wk_range _ _)⟩
    · cases e
  · cases e
theorem i_range2 {fl : Sl → Option (List D × Sl)} (hg : Gl X "range") (hm : X.mg "range" = none) (h : SL X c [e, e2] fl) (hs : starEach [e, e2] X.env = [(false, eval e X.env), (false, eval e2 X.env)] := by rfl) (hs2 : starEach [e2] X.env = [(false, eval e2 X.env)] := by rfl) : SI X c tg (.Call (.Name "range" p) [e, e2] [] pos) (kR2 fl) := pi_imp (pi_range2 hg hm h hs hs2) fun σ H Q ⟨S, W, d, S', R, e, k⟩ => by
  unfold kR2 at e
  obtain ⟨⟨d1, S1⟩, e1, e⟩ := Option.bind_eq_some_iff.mp e
  simp only at e
  split at e
  · split at e
    · rename_i hb
      cases e
      refine ⟨S, W, _, _, R, e1, fun v H1 W1 R1 s1 x1 => ?_⟩
      cases x1 with
      | cons y ys =>
        cases ys with
        | cons y2 ys =>
          cases ys
          cases y
          cases y2
          exact ⟨_, _, rfl, ⟨by omega, by omega, by omega, by omega⟩, k _ H1 W1 R1 s1 (wk_range _ _)⟩
    · cases e
  · cases e
end
end VD
/-! VD9: calls of built-ins. -/
namespace VD
open PySem PySem.Spec PyProof.Rows L2 PySem.SeqAt PySem.W
theorem rb_mono {P : Program} {w : World} {K : PySem.W.Frag} {c : Cc} {f : Sl → Option (D × Sl)} {σ : St} {H : Hp} {Q Q' : VK} (h : RB P w K c f σ H Q) (hi : ∀ v H, Q v H → Q' v H) : RB P w K c f σ H Q' := by
  obtain ⟨S, W, d, S', R, e, k⟩ := h
  exact ⟨S, W, d, S', R, e, fun v H' W' R' s x => hi _ _ (k v H' W' R' s x)⟩
theorem re_mono {P : Program} {w : World} {K : PySem.W.Frag} {c : Cc} {f : Sl → Option (D × Sl)} {σ : St} {H : Hp} {Q Q' : VK} (h : RE P w K c f σ H Q) (hi : ∀ v H, Q v H → Q' v H) : RE P w K c f σ H Q' := by
  obtain ⟨S, W, d, S', R, e, k⟩ := h
  exact ⟨S, W, d, S', R, e, fun v H' W' R' s x => hi _ _ (k v H' W' R' s x)⟩
/-- f(x): by data -/
def rB1 (K : PySem.W.Frag) (g : D → Option D) : List V → Hp → VK → Prop := fun xs H Q => ∃ x, xs = [x] ∧ rG1 K g x H Q
def rB2 (K : PySem.W.Frag) (g : D → D → Option D) : List V → Hp → VK → Prop := fun xs H Q => ∃ x y, xs = [x, y] ∧ rG2 K g x y H Q
/-- a new list of what g tells -/
def rF1 (K : PySem.W.Frag) (g : D → Option (List D)) : List V → Hp → VK → Prop := fun xs H Q => ∃ x W d ds, xs = [x] ∧ AlW W H ∧ DpB K W H x d ∧ g d = some ds ∧ ∀ p ys, H p = none → DpAll K (hid W H) ys ds → Q (.ref p) (upd H p (.lst ys))
def kF1 (g : D → Option (List D)) (f : Sl → Option (D × Sl)) : Sl → Option (Ob × Sl) := fun S => (f S).bind fun r => (g r.1).bind fun ds => some (.lst ds, r.2)
section
variable {X : Cx} {c : Cc} {e a b : Expr} {f f1 f2 : Sl → Option (D × Sl)} {x : Str} {p pos : Pos} {id T : String} {g : D → Option D} {g2 : D → D → Option D} {gl : D → Option (List D)}
theorem rf_f1 {P : Program} {w : World} {K : PySem.W.Frag} {σ : St} {H : Hp} {Q : VK} (h : RF P w K c (kF1 gl f) σ H Q) : RB P w K c f σ H fun x H1 => rF1 K gl [x] H1 Q := by
  obtain ⟨S, W, d, S', R, e, k⟩ := h
  unfold kF1 at e
  obtain ⟨⟨d1, S1⟩, e1, e⟩ := Option.bind_eq_some_iff.mp e
  obtain ⟨ds, e2, e⟩ := Option.bind_eq_some_iff.mp e
  cases e
  refine ⟨S, W, d1, S1, R, e1, fun v H1 W1 R1 s1 x1 => ⟨v, W1, d1, ds, rfl, R1.al, x1, e2, fun p ys hp hy => ?_⟩⟩
  obtain ⟨q1, q2, q3, q4, q5, q6⟩ := rf_new R1 hp hy
  exact k p _ _ q1 (s1.trans q2) (s1.was hp) q3 q4 q5 q6
theorem s_b1 (hc : CallR X (.builtin id) (rB1 X.K g)) (hg : Gl X x) (hm : X.mg x = none) (hv : bootBuiltins x = some (.builtin id)) (ha : SB X c e f) (hn : x ≠ "__name__" := by decide) (hdb : (x == ("__debug__" : Str)) = false := by decide)
    (he : starEach (e :: []) X.env = (false, eval e X.env) :: starEach [] X.env := by rfl) (hpl : (backTo pos (starEach [] X.env)).any (·.1) = false := by rfl) : SE X c (.Call (.Name x p) [e] [] pos) (k1 g f) :=
  pe_imp (pe_callB hc hg hm hv (pa_cons ha pa_nil he) hn hdb he hpl) fun _ _ _ h => rb_mono (re_k1 h) fun _ _ q => ⟨_, rfl, q⟩
theorem s_t1 (hc : CallR X (.type T) (rB1 X.K g)) (hg : Gl X x) (hm : X.mg x = none) (hv : bootBuiltins x = some (.type T)) (ha : SB X c e f) (hn : x ≠ "__name__" := by decide) (hdb : (x == ("__debug__" : Str)) = false := by decide)
    (he : starEach (e :: []) X.env = (false, eval e X.env) :: starEach [] X.env := by rfl) (hpl : (backTo pos (starEach [] X.env)).any (·.1) = false := by rfl) : SE X c (.Call (.Name x p) [e] [] pos) (k1 g f) :=
  pe_imp (pe_callTy hc hg hm hv (pa_cons ha pa_nil he) hn hdb he hpl) fun _ _ _ h => rb_mono (re_k1 h) fun _ _ q => ⟨_, rfl, q⟩
theorem s_g1 (hc : CallR X (.builtin id) (rB1 X.K g)) (hg : Gl X x) (hm : X.mg x = some (.builtin id)) (ha : SB X c e f) (hdb : (x == ("__debug__" : Str)) = false := by decide)
    (he : starEach (e :: []) X.env = (false, eval e X.env) :: starEach [] X.env := by rfl) (hpl : (backTo pos (starEach [] X.env)).any (·.1) = false := by rfl) : SE X c (.Call (.Name x p) [e] [] pos) (k1 g f) :=
  pe_imp (pe_callBfun hc hg hm (pa_cons ha pa_nil he) hdb he hpl) fun _ _ _ h => rb_mono (re_k1 h) fun _ _ q => ⟨_, rfl, q⟩
theorem s_b2 (hc : CallR X (.builtin id) (rB2 X.K g2)) (hg : Gl X x) (hm : X.mg x = none) (hv : bootBuiltins x = some (.builtin id)) (ha : SE X c a f1) (hb : SB X c b f2) (hn : x ≠ "__name__" := by decide) (hdb : (x == ("__debug__" : Str)) = false := by decide)
    (he2 : starEach [b] X.env = (false, eval b X.env) :: starEach [] X.env := by rfl) (he : starEach [a, b] X.env = (false, eval a X.env) :: starEach [b] X.env := by rfl) (hpl : (backTo pos (starEach [b] X.env)).any (·.1) = false := by rfl) : SE X c (.Call (.Name x p) [a, b] [] pos) (k2 g2 f1 f2) :=
  pe_imp (pe_callB hc hg hm hv (pa_cons ha (pa_cons hb pa_nil he2) he) hn hdb he hpl) fun _ _ _ h => re_mono (re_k2 h) fun _ _ q => rb_mono q fun _ _ q => ⟨_, _, rfl, q⟩
theorem s_g2 (hc : CallR X (.builtin id) (rB2 X.K g2)) (hg : Gl X x) (hm : X.mg x = some (.builtin id)) (ha : SE X c a f1) (hb : SB X c b f2) (hdb : (x == ("__debug__" : Str)) = false := by decide)
    (he2 : starEach [b] X.env = (false, eval b X.env) :: starEach [] X.env := by rfl) (he : starEach [a, b] X.env = (false, eval a X.env) :: starEach [b] X.env := by rfl) (hpl : (backTo pos (starEach [b] X.env)).any (·.1) = false := by rfl) : SE X c (.Call (.Name x p) [a, b] [] pos) (k2 g2 f1 f2) :=
  pe_imp (pe_callBfun hc hg hm (pa_cons ha (pa_cons hb pa_nil he2) he) hdb he hpl) fun _ _ _ h => re_mono (re_k2 h) fun _ _ q => rb_mono q fun _ _ q => ⟨_, _, rfl, q⟩
theorem f_b1 (hc : CallR X (.builtin id) (rF1 X.K gl)) (hg : Gl X x) (hm : X.mg x = none) (hv : bootBuiltins x = some (.builtin id)) (ha : SB X c e f) (hn : x ≠ "__name__" := by decide) (hdb : (x == ("__debug__" : Str)) = false := by decide)
    (he : starEach (e :: []) X.env = (false, eval e X.env) :: starEach [] X.env := by rfl) (hpl : (backTo pos (starEach [] X.env)).any (·.1) = false := by rfl) : SF X c (.Call (.Name x p) [e] [] pos) (kF1 gl f) :=
  pe_imp (pe_callB hc hg hm hv (pa_cons ha pa_nil he) hn hdb he hpl) fun _ _ _ h => rf_f1 h
theorem f_t1 (hc : CallR X (.type T) (rF1 X.K gl)) (hg : Gl X x) (hm : X.mg x = none) (hv : bootBuiltins x = some (.type T)) (ha : SB X c e f) (hn : x ≠ "__name__" := by decide) (hdb : (x == ("__debug__" : Str)) = false := by decide)
    (he : starEach (e :: []) X.env = (false, eval e X.env) :: starEach [] X.env := by rfl) (hpl : (backTo pos (starEach [] X.env)).any (·.1) = false := by rfl) : SF X c (.Call (.Name x p) [e] [] pos) (kF1 gl f) :=
  pe_imp (pe_callTy hc hg hm hv (pa_cons ha pa_nil he) hn hdb he hpl) fun _ _ _ h => rf_f1 h
end
/-! ### each -/
def gLen : D → Option D
  | .list ds => some (.int ds.length)
  | .tuple ds => some (.int ds.length)
  | .str z => if z.length ≤ 1000000 then some (.int z.length) else none
  | _ => none
def gTuple : D → Option D
  | .list ds => some (.tuple ds)
  | .tuple ds => some (.tuple ds)
  | _ => none
def gList : D → Option (List D)
  | .list ds => some ds
  | .tuple ds => some ds
  | _ => none
def intsOf : List D → Option (List Int)
  | [] => some []
  | .int i :: r => (intsOf r).bind fun z => some (i :: z)
  | _ :: _ => none
def boolsOf : List D → Option (List Bool)
  | [] => some []
  | .bool i :: r => (boolsOf r).bind fun z => some (i :: z)
  | _ :: _ => none
def gSum : D → Option D
  | .list ds => (intsOf ds).bind fun ns => some (.int ns.sum)
  | .tuple ds => (intsOf ds).bind fun ns => some (.int ns.sum)
  | _ => none
def gAll : D → Option D
  | .list ds => (boolsOf ds).bind fun ns => some (.bool (ns.all id))
  | _ => none
def gAny : D → Option D
  | .list ds => (boolsOf ds).bind fun ns => some (.bool (ns.any id))
  | _ => none
def gAbs : D → Option D
  | .int i => some (.int (if i < 0 then -i else i))
  | _ => none
def gInt : D → Option D
  | .int i => some (.int i)
  | .bool k => some (.int (if k then 1 else 0))
  | _ => none
def gMin2 : D → D → Option D
  | .int i, .int j => some (.int (if j < i then j else i))
  | _, _ => none
def gMax2 : D → D → Option D
  | .int i, .int j => some (.int (if j > i then j else i))
  | _, _ => none
def gGcd : D → D → Option D
  | .int i, .int j => some (.int ((Nat.gcd i.natAbs j.natAbs : Nat) : Int))
  | _, _ => none
def gFac : D → Option D
  | .int i => if 0 ≤ i ∧ i ≤ 1000 then some (.int ((Builtin.Math.factorialNat i.toNat : Nat) : Int)) else none
  | _ => none
def gComb : D → D → Option D
  | .int i, .int j => if 0 ≤ i ∧ 0 ≤ j ∧ i ≤ 1000 then some (.int (mcComb i j)) else none
  | _, _ => none
def isNo : D → Bool
  | .none => true
  | _ => false
def alikeB (ds : List D) : Bool := ds.all fun x => ds.all fun y => alike x y
def noNone (ds : List D) : Bool := ds.all fun x => !isNo x
def gMin : D → Option D
  | .list (x :: xs) => if alikeB (x :: xs) = true ∧ noNone (x :: xs) = true ∧ PyData.depthAll (x :: xs) ≤ 60 then some (minD x xs) else none
  | .tuple (x :: xs) => if alikeB (x :: xs) = true ∧ noNone (x :: xs) = true ∧ PyData.depthAll (x :: xs) ≤ 60 then some (minD x xs) else none
  | _ => none
def gMax : D → Option D
  | .list (x :: xs) => if alikeB (x :: xs) = true ∧ noNone (x :: xs) = true ∧ PyData.depthAll (x :: xs) ≤ 60 then some (maxD x xs) else none
  | .tuple (x :: xs) => if alikeB (x :: xs) = true ∧ noNone (x :: xs) = true ∧ PyData.depthAll (x :: xs) ≤ 60 then some (maxD x xs) else none
  | _ => none
theorem isNo_iff {d : D} (h : isNo d = false) : d ≠ .none := fun e => by subst e; cases h
theorem alikeAll_of {ds : List D} (h1 : alikeB ds = true) (h2 : noNone ds = true) : AlikeAll ds := by
  unfold alikeB at h1
  unfold noNone at h2
  rw [List.all_eq_true] at h1 h2
  refine ⟨fun x hx y hy => ?_, fun x hx => ?_⟩
  · have := h1 x hx
    rw [List.all_eq_true] at this
    exact this y hy
  · have := h2 x hx
    exact isNo_iff (by simpa using this)
theorem intsOf_eq : ∀ {ds : List D} {ns : List Int}, intsOf ds = some ns → ds = ns.map PyData.int
  | [], ns, h => by cases h; rfl
  | .int i :: r, ns, h => by
    unfold intsOf at h
    obtain ⟨z, h1, h2⟩ := Option.bind_eq_some_iff.mp h
    cases h2
    rw [intsOf_eq h1, List.map_cons]
  | .none :: _, _, h => by cases h
  | .bool _ :: _, _, h => by cases h
  | .str _ :: _, _, h => by cases h
  | .list _ :: _, _, h => by cases h
  | .tuple _ :: _, _, h => by cases h
  | .dict _ :: _, _, h => by cases h
theorem boolsOf_eq : ∀ {ds : List D} {ns : List Bool}, boolsOf ds = some ns → ds = ns.map PyData.bool
  | [], ns, h => by cases h; rfl
  | .bool i :: r, ns, h => by
    unfold boolsOf at h
    obtain ⟨z, h1, h2⟩ := Option.bind_eq_some_iff.mp h
    cases h2
    rw [boolsOf_eq h1, List.map_cons]
  | .none :: _, _, h => by cases h
  | .int _ :: _, _, h => by cases h
  | .str _ :: _, _, h => by cases h
  | .list _ :: _, _, h => by cases h
  | .tuple _ :: _, _, h => by cases h
  | .dict _ :: _, _, h => by cases h
theorem dps_of_bools {K : PySem.W.Frag} {H : Hp} : ∀ {vs : List V} {ns : List Bool}, DpAll K H vs (ns.map PyData.bool) → vs = ns.map V.bl
  | _, [], .nil => rfl
  | _, n :: ns, .cons r t => by
    cases r
    rw [List.map_cons, dps_of_bools t]
section
variable {X : Cx}
theorem cr_len : CallR X (.builtin "len") (rB1 X.K gLen) := by
  intro pins s σ H xs us Q I r ⟨x, ex, W, d, z, h0, h1, h3, h4⟩
  subst ex
  unfold gLen at h3
  split at h3
  · cases h3
    obtain ⟨a, ys, rfl, hs, ha⟩ := h1.list
    exact call_len_seq pins s σ H _ us Q I r ⟨a, ys, rfl, .inl hs, by rw [dps_length ha]; exact h4 _ H (.inl rfl) (.int _)⟩
  · cases h3
    obtain ⟨a, ys, rfl, hs, ha⟩ := h1.tuple
    exact call_len_seq pins s σ H _ us Q I r ⟨a, ys, rfl, .inr hs, by rw [dps_length ha]; exact h4 _ H (.inl rfl) (.int _)⟩
  · split at h3
    · rename_i hl
      cases h3
      have := h1.str
      subst this
      exact call_len_str pins s σ H _ us Q I r ⟨_, rfl, line_of hl, h4 _ H (.inl rfl) (.int _)⟩
    · cases h3
  · cases h3
theorem call_tupleF : CallR X (.type "tuple") (fun xs H Q => ∃ p ys, xs = [.ref p] ∧ ((SqL X.K H p ys ∧ ∀ l o, H l = none → o.dict = none → Q (.ref l) (upd H l (.frz o (.tup ys)))) ∨ (SqT X.K H p ys ∧ Q (.ref p) H))) := by
  intro pins s σ H xs us Q I r h
  obtain ⟨p, ys, rfl, h⟩ := h
  obtain ⟨u, rfl, rx⟩ := vals1 r
  cases rx
  rcases h with ⟨hq, q⟩ | ⟨hq, q⟩
  · obtain ⟨its, r', pl, hz⟩ := I.list hq
    have hlen := r'.length
    refine call_tuple_list pl.isList (fun h' kp => ?_) (by simp only [List.size_toArray] <;> omega)
    have I1 : L2.Inv X pins σ H { s with heap := h' } := I.kept (t' := s.toks) kp
    exact ⟨.ref h'.objs.size, _, Inv.frzT (t := s.toks) I1 r' hz, rfl, q _ _ (I1.hok.fresh (Nat.le_refl _)) rfl⟩
  · obtain ⟨its, r', pl, hz⟩ := I.tuple hq
    exact call_tuple_same pl ⟨.ref p, H, I, rfl, q⟩
theorem cr_tuple : CallR X (.type "tuple") (rB1 X.K gTuple) := by
  intro pins s σ H xs us Q I r ⟨x, ex, W, d, z, h0, h1, h3, h4⟩
  subst ex
  unfold gTuple at h3
  split at h3
  · cases h3
    obtain ⟨a, ys, rfl, hs, ha⟩ := h1.list
    exact call_tupleF pins s σ H _ us Q I r ⟨a, ys, rfl, .inl ⟨hs, fun l o hl ho => h4 _ _ (.inr ⟨l, _, hl, rfl⟩) (dpB_tup ha hl (h0.no hl) ho)⟩⟩
  · cases h3
    obtain ⟨a, ys, rfl, hs, ha⟩ := h1.tuple
    refine call_tupleF pins s σ H _ us Q I r ⟨a, ys, rfl, .inr ⟨hs, h4 _ H (.inl rfl) ?_⟩⟩
    rcases h1 with h1 | ⟨_, _, _, _, q, _⟩
    · exact h1
    · cases q
  · cases h3
theorem cr_list : CallR X (.type "list") (rF1 X.K gList) := by
  intro pins s σ H xs us Q I r ⟨x, W, d, ds, ex, h0, h1, h3, h4⟩
  subst ex
  unfold gList at h3
  split at h3
  · cases h3
    obtain ⟨a, ys, rfl, hs, ha⟩ := h1.list
    exact call_list_of pins s σ H _ us Q I r ⟨a, ys, rfl, .inl hs, fun l hl => h4 l ys hl ha⟩
  · cases h3
    obtain ⟨a, ys, rfl, hs, ha⟩ := h1.tuple
    exact call_list_of pins s σ H _ us Q I r ⟨a, ys, rfl, .inr hs, fun l hl => h4 l ys hl ha⟩
  · cases h3
theorem cr_sumD (hc : X.calm = true) : CallR X (.builtin "sum") (rB1 X.K gSum) := by
  intro pins s σ H xs us Q I r ⟨x, ex, W, d, z, h0, h1, h3, h4⟩
  subst ex
  unfold gSum at h3
  split at h3
  · obtain ⟨ns, e1, e2⟩ := Option.bind_eq_some_iff.mp h3
    cases e2
    have := intsOf_eq e1
    subst this
    obtain ⟨a, ys, rfl, hs, ha⟩ := h1.list
    have := dps_of_ints ha
    subst this
    exact L2.cr_sum hc pins s σ H _ us Q I r ⟨a, ns, rfl, hs, h4 _ H (.inl rfl) (.int _)⟩
  · obtain ⟨ns, e1, e2⟩ := Option.bind_eq_some_iff.mp h3
    cases e2
    have := intsOf_eq e1
    subst this
    obtain ⟨a, ys, rfl, hs, ha⟩ := h1.tuple
    have := dps_of_ints ha
    subst this
    rw [Vals.ref1 r]
    obtain ⟨its, rv, pl, _⟩ := I.tuple hs
    obtain ⟨zs, hz⟩ := rv.ints.allInts.items
    have hn : numsOf (intItems zs).toList = ns := by rw [← hz]; exact rv.ints.numsOf
    rw [nums_intItems] at hn
    have ht : s.heap.IsTuple a (intItems zs) := by rw [← hz]; exact ⟨_, pl.choose_spec.1, pl.choose_spec.2⟩
    refine PySem.W.ktm_sumG (I.ok.hd hc) ht fun h' tk t' hk => ⟨.int ns.sum, H, I.kept hk, ⟨t', ?_⟩, h4 _ H (.inl rfl) (.int _)⟩
    rw [preSum_eq, List.take_of_length_le (by simp), hn]
  · cases h3
theorem cr_allD (hc : X.calm = true) : CallR X (.builtin "all") (rB1 X.K gAll) := by
  intro pins s σ H xs us Q I r ⟨x, ex, W, d, z, h0, h1, h3, h4⟩
  subst ex
  unfold gAll at h3
  split at h3
  · obtain ⟨ns, e1, e2⟩ := Option.bind_eq_some_iff.mp h3
    cases e2
    have := boolsOf_eq e1
    subst this
    obtain ⟨a, ys, rfl, hs, ha⟩ := h1.list
    have := dps_of_bools ha
    subst this
    exact L2.cr_all hc pins s σ H _ us Q I r ⟨a, ns, rfl, hs, h4 _ H (.inl rfl) (.bl _)⟩
  · cases h3
theorem cr_anyD (hc : X.calm = true) : CallR X (.builtin "any") (rB1 X.K gAny) := by
  intro pins s σ H xs us Q I r ⟨x, ex, W, d, z, h0, h1, h3, h4⟩
  subst ex
  unfold gAny at h3
  split at h3
  · obtain ⟨ns, e1, e2⟩ := Option.bind_eq_some_iff.mp h3
    cases e2
    have := boolsOf_eq e1
    subst this
    obtain ⟨a, ys, rfl, hs, ha⟩ := h1.list
    have := dps_of_bools ha
    subst this
    exact L2.cr_any hc pins s σ H _ us Q I r ⟨a, ns, rfl, hs, h4 _ H (.inl rfl) (.bl _)⟩
  · cases h3
theorem cr_absD : CallR X (.builtin "abs") (rB1 X.K gAbs) := by
  intro pins s σ H xs us Q I r ⟨x, ex, W, d, z, h0, h1, h3, h4⟩
  subst ex
  unfold gAbs at h3
  split at h3
  · cases h3
    have := h1.int
    subst this
    exact call_abs pins s σ H _ us Q I r ⟨_, rfl, h4 _ H (.inl rfl) (.int _)⟩
  · cases h3
theorem cr_intD : CallR X (.type "int") (rB1 X.K gInt) := by
  intro pins s σ H xs us Q I r ⟨x, ex, W, d, z, h0, h1, h3, h4⟩
  subst ex
  unfold gInt at h3
  split at h3
  · cases h3
    have := h1.int
    subst this
    exact call_int1 pins s σ H _ us Q I r (.inl ⟨_, rfl, h4 _ H (.inl rfl) (.int _)⟩)
  · cases h3
    have := h1.bool
    subst this
    exact call_int1 pins s σ H _ us Q I r (.inr ⟨_, rfl, h4 _ H (.inl rfl) (.int _)⟩)
  · cases h3
theorem cr_min2 (hc : X.calm = true) : CallR X (.builtin "min") (rB2 X.K gMin2) := by
  intro pins s σ H xs us Q I r ⟨x, y, ex, W, d, d', z, h0, h1, h2, h3, h4⟩
  subst ex
  unfold gMin2 at h3
  split at h3
  · cases h3
    have := h1.int
    subst this
    have := h2.int
    subst this
    exact call_min2 hc pins s σ H _ us Q I r ⟨_, _, rfl, h4 _ H (.inl rfl) (.int _)⟩
  · cases h3
theorem cr_max2 (hc : X.calm = true) : CallR X (.builtin "max") (rB2 X.K gMax2) := by
  intro pins s σ H xs us Q I r ⟨x, y, ex, W, d, d', z, h0, h1, h2, h3, h4⟩
  subst ex
  unfold gMax2 at h3
  split at h3
  · cases h3
    have := h1.int
    subst this
    have := h2.int
    subst this
    exact call_max2 hc pins s σ H _ us Q I r ⟨_, _, rfl, h4 _ H (.inl rfl) (.int _)⟩
  · cases h3
theorem cr_gcdD : CallR X (.builtin "math.gcd") (rB2 X.K gGcd) := by
  intro pins s σ H xs us Q I r ⟨x, y, ex, W, d, d', z, h0, h1, h2, h3, h4⟩
  subst ex
  unfold gGcd at h3
  split at h3
  · cases h3
    have := h1.int
    subst this
    have := h2.int
    subst this
    exact cr_gcd pins s σ H _ us Q I r ⟨_, _, rfl, h4 _ H (.inl rfl) (.int _)⟩
  · cases h3
theorem cr_facD : CallR X (.builtin "math.factorial") (rB1 X.K gFac) := by
  intro pins s σ H xs us Q I r ⟨x, ex, W, d, z, h0, h1, h3, h4⟩
  subst ex
  unfold gFac at h3
  split at h3
  · split at h3
    · rename_i hb
      cases h3
      have := h1.int
      subst this
      obtain ⟨u, rfl, t, rfl⟩ := vals1 r
      exact PySem.W.mc_factorial hb.1 (by omega) fun _ => ⟨.int _, H, I.tok _, ⟨_, rfl⟩, h4 _ H (.inl rfl) (.int _)⟩
    · cases h3
  · cases h3
theorem cr_combD : CallR X (.builtin "math.comb") (rB2 X.K gComb) := by
  intro pins s σ H xs us Q I r ⟨x, y, ex, W, d, d', z, h0, h1, h2, h3, h4⟩
  subst ex
  unfold gComb at h3
  split at h3
  · split at h3
    · rename_i hb
      cases h3
      have := h1.int
      subst this
      have := h2.int
      subst this
      obtain ⟨t, u, rfl⟩ := Vals.int2 r
      exact PySem.W.mc_comb hb.1 hb.2.1 (by omega) (.inr (by omega)) fun _ => ⟨.int _, H, I.tok _, ⟨_, rfl⟩, h4 _ H (.inl rfl) (.int _)⟩
    · cases h3
  · cases h3
end
end VD
/-! VD10: sorted, min, max, repr over data. -/
namespace VD
open PySem PySem.Spec PyProof.Rows L2 PySem.SeqAt PySem.W PySem.Calls

/-! ### sorted of a list or a tuple -/
section
variable {prog : Program} {w : World} {A : Around} {E : Value → Shared → Prop} {s : Shared}
theorem collectS {T : String} (hT : T = "list" ∨ T = "tuple") {l : Addr} {o : Obj} {vs : List Value} {n : Nat} {Q : List Value → Shared → Prop} (ho : s.heap.get? l = some o) (hc : o.cls = .type T) (hd : o.data = .seq vs.toArray n)
    (h : Q vs { s with heap := (s.heap.push (seqObj "list" #[] 0)).update s.heap.objs.size (Obj.mapSeq (· ++ vs.toArray)) }) (hsz : vs.length ≤ sizeLine) : wpAny (model prog w) A (collect (.ref l)) Q E s := by
  unfold collect
  refine wpAny_bind (wpAny_runValue (codeAny_builtin entry_proto_collect' ?_))
  show wpAny _ _ (do again (.builtin "list.__iadd__" ⟨[← newList [], .ref l], []⟩)) _ _ s
  refine wpAny_bind (wpAny_newList (wpAny_pure ⟨Code.quiet_builtin _ (by decide +kernel), codeAny_builtin entry_list_iadd' ?_⟩))
  have ho' : (s.heap.push (seqObj "list" #[] 0)).get? l = some o := Heap.get?_push_of_some _ ho
  show wpAny _ _ (Builtin.List.listExtendWith (.ref s.heap.objs.size) (.ref l) (.ref s.heap.objs.size)) _ _ { s with heap := s.heap.push (seqObj "list" #[] 0) }
  unfold Builtin.List.listExtendWith
  refine wpAny_bind (wpAny_typeOf (T := T) ⟨o, ho', hc⟩ ?_)
  rw [if_pos (by rcases hT with rfl | rfl <;> simp)]
  refine wpAny_bind (listItems_at ho' hd ?_)
  refine wpAny_bind (listItems_at (xs := #[]) (n := 0) (Heap.get?_push_size _ rfl) rfl ?_)
  rw [if_neg (by simp)]
  refine wpAny_bind (listUpdate_at (xs := #[]) (n := 0) (Heap.get?_push_size _ rfl) rfl ?_ (Nat.zero_le _) (by show (#[] ++ vs.toArray).size ≤ sizeLine + 1; simp only [Array.size_append, List.size_toArray, List.length_nil]; omega))
  refine wpAny_pure ?_
  show wpAny (model prog w) A (do
      let o ← load s.heap.objs.size
      match o.data with
      | .seq xs _ => pure xs.toList
      | _ => unsupported "internal:collect") Q E { s with heap := (s.heap.push (seqObj "list" #[] 0)).update s.heap.objs.size (Obj.mapSeq (· ++ vs.toArray)) }
  refine wpAny_bind (wpAny_load (get?_update_seq (Heap.get?_push_size _ rfl) _) ?_)
  show wpAny _ _ (pure ((#[] : Array Value) ++ vs.toArray).toList) Q E _
  rw [show ((#[] : Array Value) ++ vs.toArray).toList = vs by simp]
  exact wpAny_pure h
theorem sortedS {T : String} (hT : T = "list" ∨ T = "tuple") {l : Addr} {o : Obj} {vs : List Value} {n : Nat} {kw : List (Str × Value)} {Q : Value → Shared → Prop} (ho : s.heap.get? l = some o) (hc : o.cls = .type T) (hd : o.data = .seq vs.toArray n)
    (hL : vs.length ≤ sizeLine) (ha1 : argsOk "sorted" ⟨[.ref l], kw⟩) (ha2 : ∀ x, argsOk "list.sort" ⟨[.ref x], kw⟩)
    (body : ∀ E' : Value → Shared → Prop, wpAny (model prog w) A.in1.in1 (Builtin.«list.sort» ⟨[.ref (s.heap.objs.size + 1)], kw⟩) (fun f s' => f = .done (.ret .none) ∧ Q (.ref (s.heap.objs.size + 1)) s') E' { s with heap := copyHeap s.heap vs }) :
    wpAny (model prog w) A (call (.builtin "sorted") [.ref l] kw) Q E s := by
  refine call_function_entry_kw kind_sorted plain_sorted entry_sorted ha1 ?_
  unfold Builtin.«sorted»
  refine wpAny_bind (m := checkCount "sorted" 1 1 _) (wpAny_pure ?_)
  refine wpAny_bind (collectS hT ho hc hd ?_ hL)
  refine wpAny_bind (wpAny_newList ?_ hL)
  have hsz : ((s.heap.push (seqObj "list" #[] 0)).update s.heap.objs.size (Obj.mapSeq (· ++ vs.toArray))).objs.size = s.heap.objs.size + 1 := by
    rw [Heap.size_update, size_push']
  show wpAny _ _ _ _ _ { s with heap := copyHeap s.heap vs }
  rw [hsz]
  refine wpAny_bind (wpAny_holding (wpAny_call_entry_kw slot_list_sort ⟨_, copyHeap_at s.heap vs, rfl⟩ entry_list_sort ?body (ha2 _)))
  case body =>
    show wpAny (model prog w) A.in1.in1 (Builtin.«list.sort» ⟨[.ref (s.heap.objs.size + 1)], kw⟩) _ _ _
    refine wpAny_mono (body _) (fun f s' hf => ?_) fun _ _ e => e
    obtain ⟨rfl, hq⟩ := hf
    exact ⟨_, rfl, wpAny_pure ⟨_, rfl, hq⟩⟩
/-- one item at most: whatever it is -/
theorem sortsFew {vs : List Value} {ds : List PyData} (e : EachIs (fun v d => ∃ as, Reads s.heap v d as) vs ds) (hal : AllAlike ds) (hn : ∀ d ∈ ds, d ≠ .none) (hl : ds.length ≤ 1) (hu : ∀ d, d ∈ ds → A.units + d.depth < cLine) : SortsAt prog w A s (dataKind s.heap ds) vs := by
  refine ⟨fun v hv => ?_, general', ?_, fun h2 => ?_⟩
  · obtain ⟨d, hd, as, r⟩ := e.left v hv
    exact ⟨_, dataKind_some hal hd r⟩
  · intro E x y a b Q ha hb hq
    obtain ⟨d, as, hd, ra, rfl⟩ := dataKind_inv ha
    obtain ⟨d', as', hd', rb, rfl⟩ := dataKind_inv hb
    show wpAny _ _ (oneLt' false x y) _ _ _
    exact oneLt_alike (fun z => nomatch z) ra rb (hal d hd d' hd') (hn d hd) (Nat.lt_of_le_of_lt (Nat.add_le_add_left (Nat.min_le_left _ _) _) (hu d hd)) hq
  · have := e.length
    omega
end
/-! the plain side -/
def tupsB (ds : List D) : Bool := ds.all fun d => match d with
  | .tuple (_ :: _) => true
  | _ => false
def noTupB (ds : List D) : Bool := ds.all fun d => match d with
  | .tuple _ => false
  | _ => true
def insBy {α : Type} (le : α → α → Bool) (a : α) : List α → List α
  | [] => [a]
  | b :: r => if le a b = true then a :: b :: r else b :: insBy le a r
def isort {α : Type} (le : α → α → Bool) : List α → List α
  | [] => []
  | a :: l => insBy le a (isort le l)
theorem insBy_at {α : Type} {le : α → α → Bool} {a : α} : ∀ {l₁ l₂ : List α}, (∀ b ∈ l₁, (!le a b) = true) → (∀ b ∈ l₂, le a b = true) → insBy le a (l₁ ++ l₂) = l₁ ++ a :: l₂
  | [], [], _, _ => rfl
  | [], b :: r, _, h => by
    show (if le a b = true then a :: b :: r else _) = _
    rw [if_pos (h b List.mem_cons_self)]
    rfl
  | b :: l, l₂, h1, h2 => by
    have hb := h1 b List.mem_cons_self
    show (if le a b = true then _ else b :: insBy le a (l ++ l₂)) = _
    rw [if_neg (by simpa using hb), insBy_at (fun x hx => h1 x (List.mem_cons_of_mem _ hx)) h2]
    rfl
theorem isort_eq {α : Type} {le : α → α → Bool} (tr : ∀ a b c, le a b = true → le b c = true → le a c = true) (tot : ∀ a b, (le a b || le b a) = true) : ∀ l : List α, isort le l = l.mergeSort le
  | [] => by simp [isort]
  | a :: l => by
    obtain ⟨l₁, l₂, h1, h2, h3⟩ := List.mergeSort_cons tr tot a l
    have hs := List.pairwise_mergeSort tr tot (a :: l)
    rw [h1] at hs
    show insBy le a (isort le l) = _
    rw [isort_eq tr tot l, h2, h1]
    exact insBy_at h3 fun b hb => (List.pairwise_cons.mp (List.pairwise_append.mp hs).2.1).1 b hb
theorem isort_dat (rev : Bool) (ds : List D) : isort (dataLe rev id) ds = ds.mergeSort (dataLe rev id) := by
  have h := sortLe_total (PyProof.Rows.listOrd itemOrd) rev (fun b : D => keyToks b)
  exact isort_eq h.trans (fun a b => by simpa using h.total a b) ds
def sortG (rev : Bool) (ds : List D) : Option (List D) := if alikeB ds = true ∧ noNone ds = true ∧ (ds.length ≤ 1 ∨ tupsB ds = true ∨ noTupB ds = true) ∧ PyData.depthAll ds ≤ 60 ∧ ds.length ≤ 1000000 then some (isort (dataLe rev id) ds) else none
def gSort (rev : Bool) : D → Option (List D)
  | .list ds => sortG rev ds
  | .tuple ds => sortG rev ds
  | _ => none
theorem allAlike_of {ds : List D} (h : alikeB ds = true) : AllAlike ds := fun d hd d' hd' => by
  unfold alikeB at h
  rw [List.all_eq_true] at h
  have := h d hd
  rw [List.all_eq_true] at this
  exact this d' hd'
theorem noNone_of {ds : List D} (h : noNone ds = true) : ∀ d ∈ ds, d ≠ .none := fun d hd => by
  unfold noNone at h
  rw [List.all_eq_true] at h
  have := h d hd
  exact isNo_iff (by simpa using this)
theorem sortable_of {ds : List D} (hn : noNone ds = true) (h : tupsB ds = true ∨ noTupB ds = true) : Sortable ds := by
  rcases h with h | h
  · refine .inl fun d hd => ?_
    unfold tupsB at h
    rw [List.all_eq_true] at h
    have := h d hd
    split at this
    · exact ⟨_, _, rfl⟩
    · cases this
  · refine .inr fun d hd => ⟨noNone_of hn d hd, fun xs e => ?_⟩
    unfold noTupB at h
    rw [List.all_eq_true] at h
    have := h d hd
    subst e
    cases this
theorem depth_mem : ∀ {ds : List D} {d : D}, d ∈ ds → d.depth ≤ PyData.depthAll ds
  | [], _, h => by cases h
  | x :: xs, d, h => by
    rw [PyData.depthAll]
    rcases List.mem_cons.mp h with rfl | h
    · exact Nat.le_max_left _ _
    · exact Nat.le_trans (depth_mem h) (Nat.le_max_right _ _)
theorem each_zip {K : PySem.W.Frag} {H : Hp} : ∀ {xs : List V} {ds : List D} {its : List Value}, DpAll K H xs ds → Vals xs its → EachIs (fun (v : Value) (b : V × D) => RelV b.1 v ∧ Dp K H b.1 b.2) its (xs.zip ds)
  | _, _, _, .nil, .nil => .nil
  | _, _, _, .cons d t, .cons r u => .cons ⟨r, d⟩ (each_zip t u)
theorem each_out {K : PySem.W.Frag} {H : Hp} : ∀ {bs : List (V × D)} {out : List Value}, EachIs (fun (v : Value) (b : V × D) => RelV b.1 v ∧ Dp K H b.1 b.2) out bs → Vals (bs.map (·.1)) out ∧ DpAll K H (bs.map (·.1)) (bs.map (·.2))
  | _, _, .nil => ⟨.nil, .nil⟩
  | _, _, .cons h t => ⟨.cons h.1 (each_out t).1, .cons h.2 (each_out t).2⟩
theorem zip_snd {K : PySem.W.Frag} {H : Hp} : ∀ {xs : List V} {ds : List D}, DpAll K H xs ds → (xs.zip ds).map (·.2) = ds
  | _, _, .nil => rfl
  | _, _, .cons d t => by simp [zip_snd t]
section
variable {X : Cx}
theorem sorted_dat {rev : Bool} {kw : List (Str × Value)} {pins : List (Addr × Obj)} {s : Shared} {σ : St} {H : Hp} {W : AP} {a : Addr} {xs : List V} {ds out : List D} {Q : VK} (hun : X.A.units + 200 < cLine) (I : Inv X pins σ H s) (hs : SqL X.K H a xs ∨ SqT X.K H a xs) (hd : DpAll X.K (hid W H) xs ds) (hg : sortG rev ds = some out)
    (hk : ∀ a, Builtin.«list.sort» ⟨[.ref a], kw⟩ = Builtin.«list.sort» ⟨[.ref a], [(Str.ofString "reverse", .bool rev)]⟩) (ha1 : argsOk "sorted" ⟨[.ref a], kw⟩) (ha2 : ∀ a, argsOk "list.sort" ⟨[a], kw⟩)
    (q : ∀ p ys, H p = none → DpAll X.K (hid W H) ys out → Q (.ref p) (upd H p (.lst ys))) : wpAny (model X.prog X.w) X.A (call (.builtin "sorted") [.ref a] kw) (EP X pins σ Q) X.xe s := by
  unfold sortG at hg
  split at hg
  case isFalse => cases hg
  rename_i hc
  obtain ⟨c1, c2, c3, c4, c5⟩ := hc
  cases hg
  obtain ⟨its, rv, T, hT, o, ho, hcl, n, hdat⟩ : ∃ its : List Value, Vals xs its ∧ ∃ T, (T = "list" ∨ T = "tuple") ∧ ∃ o, s.heap.get? a = some o ∧ o.cls = .type T ∧ ∃ n, o.data = .seq its.toArray n := by
    rcases hs with hs | hs
    · obtain ⟨its, rv, pl, _⟩ := I.list hs
      obtain ⟨o, ho, h1, n, h2⟩ := pl.isList
      exact ⟨its, rv, "list", .inl rfl, o, ho, h1, n, h2⟩
    · obtain ⟨its, rv, pl, _⟩ := I.tuple hs
      obtain ⟨o, ho, h1, n, h2⟩ := pl
      exact ⟨its, rv, "tuple", .inr rfl, o, ho, h1, n, h2⟩
  have hz : its.length = ds.length := by rw [← rv.length, dps_length hd]
  have hL : its.length ≤ sizeLine := by rw [hz]; exact line_of c5
  have e := each_zip hd rv
  have er : EachIs (fun (v : Value) (b : V × D) => ∃ as, Reads s.heap v b.2 as) its (xs.zip ds) := e.mono fun v b ⟨r, d⟩ => L2.Dp.reads I b.2 b.1 v (Dp.l2 _ _ (hid_sub.dp d)) r
  have hmap := zip_snd hd
  have hal : AllAlike ((xs.zip ds).map (·.2)) := by rw [hmap]; exact allAlike_of c1
  have hu : ∀ d, d ∈ ds → X.A.in1.in1.units + d.depth < cLine := fun d hm => by
    have := depth_mem hm
    show X.A.units + 1 + 1 + d.depth < cLine
    omega
  have S : ∀ h', (∀ b o, s.heap.get? b = some o → h'.get? b = some o) → SortsAt X.prog X.w X.A.in1.in1 { s with heap := h' } (dataKind h' ds) its := fun h' k => by
    have er' : EachIs (fun v d => ∃ as, Reads h' v d as) its ds := by
      have := each_map (R := fun v d => ∃ as, Reads h' v d as) (fun b : V × D => b.2) (er.mono fun _ _ ⟨as, r⟩ => ⟨as, PyProof.Rows.Reads.keeps k r⟩)
      rw [hmap] at this
      exact this
    rcases c3 with c3 | c3
    · exact sortsFew (s := { s with heap := h' }) er' (allAlike_of c1) (noNone_of c2) c3 hu
    · exact SortsAt.data (s := { s with heap := h' }) er' (allAlike_of c1) (sortable_of c2 c3) hu
  refine sortedS hT ho hcl hdat hL ha1 (fun x => ha2 _) fun E' => ?_
  rw [hk]
  refine list_sort_rev_vals (s := { s with heap := copyHeap s.heap its }) (copyHeap_at s.heap its) (S _ fun _ _ => sorting_copy_old) hL ⟨rfl, ?_⟩
  have hout := sortVals_data (h' := sortingHeap (copyHeap s.heap its) (s.heap.objs.size + 1) its) rev e (er.mono fun _ _ ⟨as, r⟩ => ⟨as, PyProof.Rows.Reads.keeps (fun _ _ => sorting_copy_old) r⟩) hal
  rw [hmap] at hout
  obtain ⟨r1, d1⟩ := each_out hout
  have hsnd : ((xs.zip ds).mergeSort (dataLe rev fun b : V × D => b.2)).map (·.2) = ds.mergeSort (dataLe rev id) := by
    rw [List.map_mergeSort (r := dataLe rev fun b : V × D => b.2) (s := dataLe rev id) (f := fun b : V × D => b.2), hmap]
    intro a _ b _
    rfl
  rw [hsnd, ← isort_dat] at d1
  obtain ⟨ep, he'⟩ := PyProof.Rows.sortedAll_at s.heap its (sortVals (dataKind (sortingHeap (copyHeap s.heap its) (s.heap.objs.size + 1) its) ds) rev its its).toArray
  have hlen : (((xs.zip ds).mergeSort (dataLe rev fun b : V × D => b.2)).map (·.1)).length ≤ sizeLine := by
    rw [r1.length, sortVals_length rev rfl]
    exact hL
  exact ⟨.ref _, upd H (s.heap.objs.size + 1) (.lst (((xs.zip ds).mergeSort (dataLe rev fun b : V × D => b.2)).map (·.1))), I.laid (t' := s.toks) (fun _ _ => PyProof.Rows.sortedAll_old) (Nat.le_succ _) ⟨hlen, _, ep, r1, he'⟩, rfl, q _ _ (I.hok.fresh (Nat.le_succ _)) d1⟩
theorem cr_sortedD (hun : X.A.units + 200 < cLine) : CallR X (.builtin "sorted") (rF1 X.K (gSort false)) := by
  intro pins s σ H xs us Q I r ⟨x, W, d, ds, ex, h0, h1, h3, h4⟩
  subst ex
  unfold gSort at h3
  split at h3
  · obtain ⟨a, ys, rfl, hs, ha⟩ := h1.list
    obtain rfl := Vals.ref1 r
    exact sorted_dat hun I (.inl hs) ha h3 (fun a => plain_is_rev a) (args_sorted1 _) (fun _ => args_list_sort _) h4
  · obtain ⟨a, ys, rfl, hs, ha⟩ := h1.tuple
    obtain rfl := Vals.ref1 r
    exact sorted_dat hun I (.inr hs) ha h3 (fun a => plain_is_rev a) (args_sorted1 _) (fun _ => args_list_sort _) h4
  · cases h3
def rF1K (K : PySem.W.Frag) (zs0 : List V) (g : D → Option (List D)) : List V → List V → Hp → VK → Prop := fun xs zs H Q => zs = zs0 ∧ rF1 K g xs H Q
theorem cr_sortedRevD (hun : X.A.units + 200 < cLine) {b : Bool} : CallRK X (.builtin "sorted") [Str.ofString "reverse"] (rF1K X.K [.bl b] (gSort b)) := by
  intro pins s σ H vs zs us ws Q I r rz ⟨ez, x, W, d, ds, ex, h0, h1, h3, h4⟩
  subst ex
  subst ez
  obtain ⟨w1, rfl, e1⟩ := vals1 rz
  obtain rfl : w1 = Value.bool b := e1
  unfold gSort at h3
  split at h3
  · obtain ⟨a, ys, rfl, hs, ha⟩ := h1.list
    obtain rfl := Vals.ref1 r
    exact sorted_dat hun I (.inl hs) ha h3 (fun a => rfl) (args_sorted_rev _ _) (fun _ => args_list_sort_rev _ _) h4
  · obtain ⟨a, ys, rfl, hs, ha⟩ := h1.tuple
    obtain rfl := Vals.ref1 r
    exact sorted_dat hun I (.inr hs) ha h3 (fun a => rfl) (args_sorted_rev _ _) (fun _ => args_list_sort_rev _ _) h4
  · cases h3
variable {c : Cc} {e : Expr} {f : Sl → Option (D × Sl)} {p pos : Pos}
/-- sorted(e, reverse=b) -/
theorem f_sortedRev {b : Bool} {kws : List Keyword} (hun : X.A.units + 200 < cLine) (hg : Gl X "sorted") (hm : X.mg "sorted" = none) (ha : SB X c e f) (hk : PK X kws (tCons (tC (.bl b)) tNil))
    (he : starEach [e] X.env = (false, eval e X.env) :: starEach [] X.env := by rfl) (he2 : backTo pos (starEach [e] X.env) = (false, eval e X.env) :: backTo pos (starEach [] X.env) := by rfl) (hpl : (backTo pos (starEach [e] X.env)).any (·.1) = false := by rfl)
    (hall : (backToKw pos (keywordEach kws X.env)).all (·.1.isSome) = true := by rfl) (hnone : (backToKw pos (keywordEach kws X.env)).any (·.1.isNone) = false := by rfl) (hks : (backToKw pos (keywordEach kws X.env)).filterMap (·.1) = [Str.ofString "reverse"] := by rfl) :
    SF X c (.Call (.Name "sorted" p) [e] kws pos) (kF1 (gSort b) f) := by
  refine pe_imp (pe_callBK (cr_sortedRevD hun (b := b)) hg hm (by decide +kernel) (pa_cons ha pa_nil he) hk (by decide) (by decide) he2 hpl hall hnone hks) fun σ H Q h => ?_
  exact rb_mono (rf_f1 h) fun v H h => ⟨rfl, h⟩
end
end VD
/-! VD11: min, max of one, repr. -/
namespace VD
open PySem PySem.Spec PyProof.Rows L2 PySem.SeqAt PySem.W PySem.Calls
section
variable {X : Cx}
theorem vals_back : ∀ {xs : List V} {us : List Value} {i : Nat} {u : Value}, Vals xs us → us[i]? = some u → ∃ x, xs[i]? = some x ∧ RelV x u
  | _, _, _, _, .nil, e => by simp at e
  | _, _, 0, _, .cons r _, e => by simp at e; subst e; exact ⟨_, rfl, r⟩
  | _, _, i + 1, u, .cons _ t, e => by
    obtain ⟨x, h1, h2⟩ := vals_back (i := i) (u := u) t (by simpa using e)
    exact ⟨x, by simpa using h1, h2⟩
theorem dps_back {K : PySem.W.Frag} {H : Hp} : ∀ {vs : List V} {ds : List D} {i : Nat} {v : V}, DpAll K H vs ds → vs[i]? = some v → ∃ d, ds[i]? = some d ∧ Dp K H v d
  | _, _, _, _, .nil, e => by simp at e
  | _, _, 0, _, .cons r _, e => by simp at e; subst e; exact ⟨_, rfl, r⟩
  | _, _, i + 1, v, .cons _ t, e => by
    obtain ⟨d, h1, h2⟩ := dps_back (i := i) (v := v) t (by simpa using e)
    exact ⟨d, by simpa using h1, h2⟩
theorem best_at {pins : List (Addr × Obj)} {s : Shared} {σ : St} {H : Hp} {W : AP} {xs : List V} {ds : List D} {its : List Value} {Q : VK} (I : Inv X pins σ H s) (rv : Vals xs its) (hd : DpAll X.K (hid W H) xs ds) {b : D} {i : Nat} {v : Value} {h' : Heap} {tk : Tok} {bs : List Addr}
    (hv : its.toArray[i]? = some v) (hr : Reads h' v b bs) (hk : ∀ b o, s.heap.get? b = some o → h'.get? b = some o) (q : ∀ v, Dp X.K (hid W H) v b → Q v H) : EP X pins σ Q v { s with heap := h', toks := tk } := by
  obtain ⟨x, hx, rx⟩ := vals_back rv (by simpa using hv)
  obtain ⟨d, _, dx⟩ := dps_back hd hx
  obtain ⟨as, ra⟩ := L2.Dp.reads I d x v (Dp.l2 _ _ (hid_sub.dp dx)) rx
  have e := PySem.SeqAt.plain_unique d b v as bs (dp_plain dx).1 (PyProof.Rows.Reads.keeps hk ra) hr
  subst e
  exact ⟨x, H, I.kept (t' := tk) hk, rx, q x dx⟩
theorem reads_all {pins : List (Addr × Obj)} {s : Shared} {σ : St} {H : Hp} {W : AP} {xs : List V} {ds : List D} {its : List Value} (I : Inv X pins σ H s) (rv : Vals xs its) (hd : DpAll X.K (hid W H) xs ds) : ∃ as, ReadsAll s.heap its ds as := by
  have := each_readsAll (h := s.heap) (fun b : V × D => b.2) ((each_zip hd rv).mono fun v b ⟨r, d⟩ => L2.Dp.reads I b.2 b.1 v (Dp.l2 _ _ (hid_sub.dp d)) r)
  rw [zip_snd hd] at this
  exact this
theorem cr_min1 (hun : X.A.units + 200 < cLine) (hh : X.A.handled = none) : CallR X (.builtin "min") (rB1 X.K gMin) := by
  intro pins s σ H xs us Q I r ⟨x, ex, W, d, z, h0, h1, h3, h4⟩
  subst ex
  unfold gMin at h3
  split at h3
  · rename_i y ys
    split at h3
    case isFalse => cases h3
    rename_i hc
    cases h3
    obtain ⟨a, vs, rfl, hs, ha⟩ := h1.list
    obtain rfl := Vals.ref1 r
    obtain ⟨its, rv, pl, _⟩ := I.list hs
    obtain ⟨as, ra⟩ := reads_all I rv ha
    exact min_list_data hh pl.isList (by simpa using ra) (alikeAll_of hc.1 hc.2.1) (by omega) fun i v h' tk bs hv hr hk => best_at I rv ha hv hr hk fun v dv => h4 v H (.inl rfl) dv
  · rename_i y ys
    split at h3
    case isFalse => cases h3
    rename_i hc
    cases h3
    obtain ⟨a, vs, rfl, hs, ha⟩ := h1.tuple
    obtain rfl := Vals.ref1 r
    obtain ⟨its, rv, pl, _⟩ := I.tuple hs
    obtain ⟨as, ra⟩ := reads_all I rv ha
    exact min_tuple_data hh ⟨_, pl.choose_spec.1, pl.choose_spec.2⟩ (by simpa using ra) (alikeAll_of hc.1 hc.2.1) (by omega) fun i v h' tk bs hv hr hk => best_at I rv ha hv hr hk fun v dv => h4 v H (.inl rfl) dv
  · cases h3
theorem cr_max1 (hun : X.A.units + 200 < cLine) (hh : X.A.handled = none) : CallR X (.builtin "max") (rB1 X.K gMax) := by
  intro pins s σ H xs us Q I r ⟨x, ex, W, d, z, h0, h1, h3, h4⟩
  subst ex
  unfold gMax at h3
  split at h3
  · rename_i y ys
    split at h3
    case isFalse => cases h3
    rename_i hc
    cases h3
    obtain ⟨a, vs, rfl, hs, ha⟩ := h1.list
    obtain rfl := Vals.ref1 r
    obtain ⟨its, rv, pl, _⟩ := I.list hs
    obtain ⟨as, ra⟩ := reads_all I rv ha
    exact max_list_data hh pl.isList (by simpa using ra) (alikeAll_of hc.1 hc.2.1) (by omega) fun i v h' tk bs hv hr hk => best_at I rv ha hv hr hk fun v dv => h4 v H (.inl rfl) dv
  · rename_i y ys
    split at h3
    case isFalse => cases h3
    rename_i hc
    cases h3
    obtain ⟨a, vs, rfl, hs, ha⟩ := h1.tuple
    obtain rfl := Vals.ref1 r
    obtain ⟨its, rv, pl, _⟩ := I.tuple hs
    obtain ⟨as, ra⟩ := reads_all I rv ha
    exact max_tuple_data hh ⟨_, pl.choose_spec.1, pl.choose_spec.2⟩ (by simpa using ra) (alikeAll_of hc.1 hc.2.1) (by omega) fun i v h' tk bs hv hr hk => best_at I rv ha hv hr hk fun v dv => h4 v H (.inl rfl) dv
  · cases h3
/-! repr -/
def gRepr (d : D) : Option D := if d.showable = true ∧ d.depth ≤ 60 ∧ d.shown.length ≤ 1000000 then some (.str d.shown) else none
theorem plain_noDict : ∀ (d : D), d.plain = true → d.hasDict = false := by
  intro d
  refine PyData.rec (motive_1 := fun d => d.plain = true → d.hasDict = false) (motive_2 := fun ds => PyData.plainAll ds = true → PyData.hasDictAll ds = false) (motive_3 := fun _ => True) (motive_4 := fun _ => True) ?_ ?_ ?_ ?_ ?_ ?_ ?_ ?_ ?_ ?_ ?_ ?_ d
  · intro _; rfl
  · intro _ _; rfl
  · intro _ _; rfl
  · intro _ _; rfl
  · intro ds ih h; simpa [PyData.hasDict] using ih (by simpa [PyData.plain] using h)
  · intro ds ih h; simpa [PyData.hasDict] using ih (by simpa [PyData.plain] using h)
  · intro _ _ h; simp [PyData.plain] at h
  · intro _; rfl
  · intro x xs h1 h2 h
    simp only [PyData.plainAll, Bool.and_eq_true] at h
    simp [PyData.hasDictAll, h1 h.1, h2 h.2]
  · trivial
  · intro _ _ _ _; trivial
  · intro _ _ _ _; trivial
theorem cr_repr (hun : X.A.units + 200 < cLine) (hgu : X.A.guards = some []) : CallR X (.builtin "repr") (rB1 X.K gRepr) := by
  intro pins s σ H xs us Q I r ⟨x, ex, W, d, z, h0, h1, h3, h4⟩
  subst ex
  unfold gRepr at h3
  split at h3
  case isFalse => cases h3
  rename_i hc
  obtain ⟨c1, c2, c3⟩ := hc
  cases h3
  obtain ⟨u, rfl, rx⟩ := vals1 r
  obtain ⟨⟨as, ra⟩, hp⟩ := h1.reads I rx
  have hdp := h1.dp
  have fin : ∀ h' u tk, (∀ b o, s.heap.get? b = some o → h'.get? b = some o) → EP X pins σ Q (.str d.shown u) { s with heap := h', toks := tk } := fun h' u tk hk =>
    ⟨.str d.shown, H, I.kept (t' := tk) hk, ⟨u, rfl⟩, h4 _ H (.inl rfl) (.str _)⟩
  have rr : ∀ {a : Addr} {d : D} {as : List Addr}, Reads s.heap (.ref a) d as → d.plain = true → d.showable = true → d.depth ≤ 60 → d.shown.length ≤ 1000000 → (∀ h' u tk, (∀ b o, s.heap.get? b = some o → h'.get? b = some o) → EP X pins σ Q (.str d.shown u) { s with heap := h', toks := tk }) →
      wpAny (model X.prog X.w) X.A (call (.builtin "repr") [.ref a]) (EP X pins σ Q) X.xe s := fun {a d as} ra hp c1 c2 c3 fin =>
    repr_of_reads' ra c1 (PyData.noDict_hsm (plain_noDict _ hp)) hgu (by omega) (fun _ _ e => e) fin (line_of c3)
  cases hdp with
  | non =>
    cases rx
    exact PySem.P.repr_of_none (fin s.heap _ _ fun _ _ e => e)
  | bl b =>
    cases rx
    have q := fin s.heap s.toks (s.toks + 1) fun _ _ e => e
    cases b with
    | true => exact PySem.P.repr_of_bool q
    | false => exact PySem.P.repr_of_bool q
  | int i =>
    obtain ⟨t, rfl⟩ := rx
    exact PySem.P.repr_of_int (by simpa [PyData.showable] using c1) (fin s.heap _ _ fun _ _ e => e)
  | str x =>
    obtain ⟨t, rfl⟩ := rx
    exact PySem.P.repr_of_str (fin s.heap _ _ fun _ _ e => e) (line_of c3)
  | lst hs ha =>
    cases rx
    exact rr ra hp c1 c2 c3 fin
  | tup hs ha =>
    cases rx
    exact rr ra hp c1 c2 c3 fin
end
end VD
/-! VD12: methods, new lists. -/
namespace VD
open PySem PySem.Spec PyProof.Rows L2 PySem.SeqAt PySem.W PySem.Calls
section
variable {X : Cx} {c : Cc}
def isTy (X : Cx) (T : String) (x : V) (H : Hp) : Prop := ∀ (pins : List (Addr × Obj)) (σ : St) (s : Shared) (v : Value), L2.Inv X pins σ H s → RelV x v → s.TypeIs v T ∧ ∀ a, v = .ref a → ∃ ob, s.heap.get? a = some ob ∧ ob.dict = none
def tBMD (X : Cx) (T : String) (r : V → List V → Hp → VK → Prop) (to : TE) (t : TA) : TE := fun σ H Q => to σ H fun x H1 => isTy X T x H1 ∧ t σ H1 fun xs H2 => r x xs H2 Q
variable {o e : Expr} {es : List Expr} {to : TE} {t : TA} {name : Str} {apos cpos pos : Pos} {T id : String} {r : V → List V → Hp → VK → Prop}
theorem pe_bmD (pa : PlainAttrs T) (slot : Slot T name id) (hty : typeOf (.builtin id) = pure (.type "method_descriptor")) (hm : MtM X id r) (ho : PE X o to) (ha : PA X (e :: es) t)
    (hbase : attributeBase o name X.env (eval o X.env) = eval o X.env := by rfl)
    (hfew : ((backTo cpos (starEach (e :: es) X.env)).all (fun x => !x.1) && (backToKw cpos (keywordEach [] X.env)).all (fun x => x.1.isSome)
      && decide ((e :: es).length + ([] : List Keyword).length + (if ([] : List Keyword).isEmpty then 0 else 1) < 30)) = true := by rfl)
    (hline : (apos.endLine == cpos.line) = true := by rfl) (hs : starEach (e :: es) X.env = (false, eval e X.env) :: starEach es X.env := by rfl) (hplain : (backTo cpos (starEach es X.env)).any (·.1) = false := by rfl) :
    PE X (.Call (.Attribute o name apos) (e :: es) [] cpos) (tBMD X T r to t) := by
  refine ⟨fun pins s σ H Q I h => ?_⟩
  refine wpAny_Call_method_late hbase hfew hline rfl (thn (ho.run pins s σ H _ I h) fun v s1 ⟨x, H1, I1, r1, ty, q1⟩ => ?_)
  obtain ⟨h1, h2⟩ := ty pins σ s1 v I1 r1
  refine ⟨T, id, pa, slot, hty, h1, h2, ?_⟩
  have hA := ha.run cpos pins s1 σ H1 _ I1 q1
  rw [hs] at hA ⊢
  refine Calls.callWith_builtin (by show (false || (backTo cpos (starEach es X.env)).any (·.1)) = false; rw [hplain] <;> rfl) (Calls.evalArgs_plain ?_)
  exact thn hA fun us s2 ⟨vs, H2, I2, r2, q2⟩ => hm pins s2 σ H2 x vs v us Q I2 r1 r2 q2
def tyD (T : String) : D → Bool
  | .list _ => T == "list"
  | .tuple _ => T == "tuple"
  | .str _ => T == "str"
  | _ => false
theorem isTy_of {W : AP} {H : Hp} {v : V} {d : D} (h : DpB X.K W H v d) (e : tyD T d = true) : isTy X T v H := by
  intro pins σ s u I r
  cases d with
  | list ds =>
    obtain rfl : T = "list" := by simpa [tyD] using e
    obtain ⟨a, xs, rfl, hs, _⟩ := h.list
    cases r
    obtain ⟨its, _, pl, _⟩ := I.list hs
    refine ⟨pl.isList.typeIs, fun a e => ?_⟩
    cases e
    obtain ⟨o, n, e, c, hd, _⟩ := pl
    exact ⟨o, e, hd⟩
  | tuple ds =>
    obtain rfl : T = "tuple" := by simpa [tyD] using e
    obtain ⟨a, xs, rfl, hs, _⟩ := h.tupleAt
    cases r
    obtain ⟨its, _, pl, _⟩ := I.tuple hs.sq
    rcases hs with ⟨o, ho, hd⟩ | ⟨o, its, n, ho, hc, hd, _⟩
    · obtain ⟨z, _⟩ := I.hok a _ ho
      refine ⟨⟨_, pl.choose_spec.1, pl.choose_spec.2.1⟩, fun b e => ?_⟩
      cases e
      exact ⟨o, z, hd⟩
    · refine ⟨⟨_, pl.choose_spec.1, pl.choose_spec.2.1⟩, fun b e => ?_⟩
      cases e
      exact ⟨o, I.kIn _ o ho, hd⟩
  | str x =>
    obtain rfl : T = "str" := by simpa [tyD] using e
    have := h.str
    subst this
    obtain ⟨t, rfl⟩ := r
    exact ⟨typeIs_str s x t, fun _ e => nomatch e⟩
  | none => cases e
  | bool _ => cases e
  | int _ => cases e
  | dict _ => cases e
/-- o.m(a), o any value or a slot read in place -/
def kM (T : String) (g : D → D → Option D) (f1 f2 : Sl → Option (D × Sl)) : Sl → Option (D × Sl) := fun S => (f1 S).bind fun r => if tyD T r.1 = true then (f2 r.2).bind fun q => (g r.1 q.1).bind fun d => some (d, q.2) else none
def kMv (T : String) (g : D → D → Option D) (i : Nat) (f2 : Sl → Option (D × Sl)) : Sl → Option (D × Sl) := fun S => (vw S i).bind fun y => if tyD T y = true then (f2 S).bind fun q => (vw q.2 i).bind fun x => (g x q.1).bind fun d => some (d, q.2) else none
def rM1 (K : PySem.W.Frag) (g : D → D → Option D) : V → List V → Hp → VK → Prop := fun x xs H Q => ∃ y, xs = [y] ∧ rG2 K g x y H Q
variable {f1 f2 f : Sl → Option (D × Sl)} {i : Nat} {g : D → D → Option D}
theorem s_m (pa : PlainAttrs T) (slot : Slot T name id) (hty : typeOf (.builtin id) = pure (.type "method_descriptor")) (hm : MtM X id (rM1 X.K g)) (ho : SE X c o f1) (ha : SB X c e f2)
    (hbase : attributeBase o name X.env (eval o X.env) = eval o X.env := by rfl)
    (hfew : ((backTo cpos (starEach [e] X.env)).all (fun x => !x.1) && (backToKw cpos (keywordEach [] X.env)).all (fun x => x.1.isSome) && decide (([e] : List Expr).length + ([] : List Keyword).length + (if ([] : List Keyword).isEmpty then 0 else 1) < 30)) = true := by rfl)
    (hline : (apos.endLine == cpos.line) = true := by rfl) (hs : starEach [e] X.env = (false, eval e X.env) :: starEach [] X.env := by rfl) (hplain : (backTo cpos (starEach [] X.env)).any (·.1) = false := by rfl) :
    SE X c (.Call (.Attribute o name apos) [e] [] cpos) (kM T g f1 f2) := pe_imp (pe_bmD pa slot hty hm ho (pa_cons ha pa_nil hs) hbase hfew hline hs hplain) fun σ H Q ⟨S, W, d, S', R, e, k⟩ => by
  unfold kM at e
  obtain ⟨⟨d1, S1⟩, e1, e⟩ := Option.bind_eq_some_iff.mp e
  split at e
  case isFalse => cases e
  rename_i ht
  obtain ⟨⟨d2, S2⟩, e2, e⟩ := Option.bind_eq_some_iff.mp e
  obtain ⟨d3, e3, e⟩ := Option.bind_eq_some_iff.mp e
  cases e
  refine ⟨S, W, d1, S1, R, e1, fun v H1 W1 R1 s1 x1 => ⟨isTy_of (.inl x1) ht, S1, W1, d2, S2, R1, e2, fun u H2 W2 R2 s2 x2 => ⟨u, rfl, W2, d1, d2, d, R2.al, .inl (s2.vis.dp x1), x2, e3, fun v' H' hg hd => ?_⟩⟩⟩
  obtain ⟨R3, s3⟩ := R2.grown hg
  exact k v' H' W2 R3 (s1.trans (s2.trans s3)) hd
theorem s_mv (pa : PlainAttrs T) (slot : Slot T name id) (hty : typeOf (.builtin id) = pure (.type "method_descriptor")) (hm : MtM X id (rM1 X.K g)) (ho : PE X o (tVar i)) (ha : SB X c e f2)
    (hbase : attributeBase o name X.env (eval o X.env) = eval o X.env := by rfl)
    (hfew : ((backTo cpos (starEach [e] X.env)).all (fun x => !x.1) && (backToKw cpos (keywordEach [] X.env)).all (fun x => x.1.isSome) && decide (([e] : List Expr).length + ([] : List Keyword).length + (if ([] : List Keyword).isEmpty then 0 else 1) < 30)) = true := by rfl)
    (hline : (apos.endLine == cpos.line) = true := by rfl) (hs : starEach [e] X.env = (false, eval e X.env) :: starEach [] X.env := by rfl) (hplain : (backTo cpos (starEach [] X.env)).any (·.1) = false := by rfl) :
    SE X c (.Call (.Attribute o name apos) [e] [] cpos) (kMv T g i f2) := pe_imp (pe_bmD pa slot hty hm ho (pa_cons ha pa_nil hs) hbase hfew hline hs hplain) fun σ H Q ⟨S, W, d, S', R, e, k⟩ => by
  unfold kMv at e
  obtain ⟨d0, e0, e⟩ := Option.bind_eq_some_iff.mp e
  split at e
  case isFalse => cases e
  rename_i ht
  obtain ⟨⟨d2, S2⟩, e2, e⟩ := Option.bind_eq_some_iff.mp e
  obtain ⟨d1, e1, e⟩ := Option.bind_eq_some_iff.mp e
  obtain ⟨d3, e3, e⟩ := Option.bind_eq_some_iff.mp e
  cases e
  obtain ⟨v, hv, x0⟩ := vw_get R e0
  refine ⟨v, hv, isTy_of x0 ht, S, W, d2, S2, R, e2, fun u H2 W2 R2 s2 x2 => ?_⟩
  obtain ⟨v', hv', x1⟩ := vw_get R2 e1
  rw [hv] at hv'
  cases hv'
  refine ⟨u, rfl, W2, d1, d2, d, R2.al, x1, x2, e3, fun v' H' hg hd => ?_⟩
  obtain ⟨R3, s3⟩ := R2.grown hg
  exact k v' H' W2 R3 (s2.trans s3) hd

/-! index, count -/
def gIndexL : D → D → Option D
  | .list ds, .int k => (intsOf ds).bind fun ns => if k ∈ ns ∧ ns.length ≤ 1000000 then some (.int (ns.idxOf k : Nat)) else none
  | _, _ => none
def gIndexT : D → D → Option D
  | .tuple ds, .int k => (intsOf ds).bind fun ns => if k ∈ ns then some (.int (ns.idxOf k : Nat)) else none
  | _, _ => none
def gCountL : D → D → Option D
  | .list ds, d => if d.depth ≤ 60 then some (.int ((ds.countP fun y => PyData.eqv y d : Nat) : Int)) else none
  | _, _ => none
def gCountT : D → D → Option D
  | .tuple ds, d => if d.depth ≤ 60 then some (.int ((ds.countP fun y => PyData.eqv y d : Nat) : Int)) else none
  | _, _ => none
theorem ints_are : ∀ {ns : List Int} {its : List Value}, Vals (ns.map V.int) its → IntsAre its ns
  | [], _, .nil => .nil
  | n :: ns, _, .cons h t => by
    obtain ⟨u, rfl⟩ := h
    exact .cons _ _ (ints_are t)
theorem mt_indexT : MtM X "tuple.index" (rM1 X.K gIndexT) := by
  intro pins s σ H x vs v us Q I rx rv ⟨y, ey, W, d, d', z, h0, h1, h2, h3, h4⟩
  subst ey
  obtain ⟨u, rfl, ru⟩ := rv.one
  unfold gIndexT at h3
  split at h3
  · rename_i ds k
    obtain ⟨ns, e1, e2⟩ := Option.bind_eq_some_iff.mp h3
    split at e2
    case isFalse => cases e2
    rename_i hk
    cases e2
    have := intsOf_eq e1
    subst this
    obtain ⟨a, ys, rfl, hs, ha⟩ := h1.tuple
    have := dps_of_ints ha
    subst this
    have := h2.int
    subst this
    cases rx
    obtain ⟨t, rfl⟩ := ru
    obtain ⟨its, rv', pl, _⟩ := I.tuple hs
    exact tuple_index_ints ⟨_, pl.choose_spec.1, pl.choose_spec.2⟩ (ints_are rv') hk ⟨.int _, H, I.tok _, ⟨_, rfl⟩, h4 _ H (.inl rfl) (.int _)⟩
  · cases h3
theorem mt_indexL : MtM X "list.index" (rM1 X.K gIndexL) := by
  intro pins s σ H x vs v us Q I rx rv ⟨y, ey, W, d, d', z, h0, h1, h2, h3, h4⟩
  subst ey
  obtain ⟨u, rfl, ru⟩ := rv.one
  unfold gIndexL at h3
  split at h3
  · rename_i ds k
    obtain ⟨ns, e1, e2⟩ := Option.bind_eq_some_iff.mp h3
    split at e2
    case isFalse => cases e2
    rename_i hk
    cases e2
    have := intsOf_eq e1
    subst this
    obtain ⟨a, ys, rfl, hs, ha⟩ := h1.list
    have := dps_of_ints ha
    subst this
    have := h2.int
    subst this
    cases rx
    obtain ⟨t, rfl⟩ := ru
    obtain ⟨its, rv', pl, _⟩ := I.list hs
    exact list_index_ints pl.isList (ints_are rv') (line_of hk.2) hk.1 ⟨.int _, H, I.tok _, ⟨_, rfl⟩, h4 _ H (.inl rfl) (.int _)⟩
  · cases h3
theorem plainAll_of {K : PySem.W.Frag} {H : Hp} : ∀ {vs : List V} {ds : List D}, DpAll K H vs ds → PyData.plainAll ds = true
  | _, _, .nil => rfl
  | _, _, .cons h t => by simp [PyData.plainAll, (dp_plain h).1, plainAll_of t]
theorem mt_countT (hun : X.A.units + 200 < cLine) : MtM X "tuple.count" (rM1 X.K gCountT) := by
  intro pins s σ H x vs v us Q I rx rv ⟨y, ey, W, d, d', z, h0, h1, h2, h3, h4⟩
  subst ey
  obtain ⟨u, rfl, ru⟩ := rv.one
  unfold gCountT at h3
  split at h3
  · rename_i ds d
    split at h3
    case isFalse => cases h3
    rename_i hd
    cases h3
    obtain ⟨a, ys, rfl, hs, ha⟩ := h1.tuple
    cases rx
    obtain ⟨its, rv', pl, _⟩ := I.tuple hs
    obtain ⟨as, ra⟩ := reads_all I rv' ha
    obtain ⟨⟨bs, rb⟩, hp⟩ := h2.reads I ru
    exact count_tuple_data ⟨_, pl.choose_spec.1, pl.choose_spec.2⟩ (by simpa using ra) rb (plainAll_of ha) hp (Nat.lt_of_le_of_lt (Nat.add_le_add_left (Nat.min_le_right _ _) _) (by omega)) ⟨.int _, H, I.tok _, ⟨_, rfl⟩, h4 _ H (.inl rfl) (.int _)⟩
  · cases h3
theorem mt_countL (hun : X.A.units + 200 < cLine) : MtM X "list.count" (rM1 X.K gCountL) := by
  intro pins s σ H x vs v us Q I rx rv ⟨y, ey, W, d, d', z, h0, h1, h2, h3, h4⟩
  subst ey
  obtain ⟨u, rfl, ru⟩ := rv.one
  unfold gCountL at h3
  split at h3
  · rename_i ds d
    split at h3
    case isFalse => cases h3
    rename_i hd
    cases h3
    obtain ⟨a, ys, rfl, hs, ha⟩ := h1.list
    cases rx
    obtain ⟨its, rv', pl, _⟩ := I.list hs
    obtain ⟨as, ra⟩ := reads_all I rv' ha
    obtain ⟨⟨bs, rb⟩, hp⟩ := h2.reads I ru
    exact count_list_data pl.isList (by simpa using ra) rb (plainAll_of ha) hp (Nat.lt_of_le_of_lt (Nat.add_le_add_left (Nat.min_le_right _ _) _) (by omega)) ⟨.int _, H, I.tok _, ⟨_, rfl⟩, h4 _ H (.inl rfl) (.int _)⟩
  · cases h3

/-! new lists: a + b, [x] * n -/
def kCatF (f1 f2 : Sl → Option (D × Sl)) : Sl → Option (Ob × Sl) := fun S => (f1 S).bind fun r => (f2 r.2).bind fun q => match r.1, q.1 with
  | .list xs, .list ys => if xs.length + ys.length ≤ 1000000 then some (.lst (xs ++ ys), q.2) else none
  | _, _ => none
theorem f_cat {a b : Expr} (ha : SE X c a f1) (hb : SB X c b f2) : SF X c (.BinOp a .Add b pos) (kCatF f1 f2) := pe_imp (pe_op op_catL ha hb) fun σ H Q ⟨S, W, d, S', R, e, k⟩ => by
  unfold kCatF at e
  obtain ⟨⟨d1, S1⟩, e1, e⟩ := Option.bind_eq_some_iff.mp e
  obtain ⟨⟨d2, S2⟩, e2, e⟩ := Option.bind_eq_some_iff.mp e
  dsimp only at e
  split at e
  · rename_i xs ys
    split at e
    case isFalse => cases e
    rename_i hl
    cases e
    refine ⟨S, W, _, S1, R, e1, fun v H1 W1 R1 s1 x1 => ⟨S1, W1, _, _, R1, e2, fun u H2 W2 R2 s2 x2 => ?_⟩⟩
    obtain ⟨a, vs, rfl, hs, hd⟩ := (DpB.list (W := W2) (.inl (s2.vis.dp x1)))
    obtain ⟨b, ws, rfl, ht, hd2⟩ := x2.list
    refine ⟨a, b, vs, ws, rfl, rfl, hs, ht, by rw [dps_length hd, dps_length hd2]; exact line_of hl, fun p hp => ?_⟩
    obtain ⟨q1, q2, q3, q4, q5, q6⟩ := rf_new R2 hp (dps_append hd hd2)
    exact k p _ _ q1 (s1.trans (s2.trans q2)) ((s1.trans s2).was hp) q3 q4 q5 q6
  · cases e
def kRepF (ff : Sl → Option (Ob × Sl)) (f2 : Sl → Option (D × Sl)) : Sl → Option (Ob × Sl) := fun S => (ff S).bind fun r => (f2 r.2).bind fun q => match r.1, q.1 with
  | .lst xs, .int k => if -1000 ≤ k ∧ k ≤ 1000 ∧ xs.length ≤ 1000 then some (.lst (List.replicate k.toNat xs).flatten, q.2) else none
  | _, _ => none
theorem f_rep {a b : Expr} {ff : Sl → Option (Ob × Sl)} (ha : SF X c a ff) (hb : SB X c b f2) : SF X c (.BinOp a .Mult b pos) (kRepF ff f2) := pe_imp (pe_op op_rep ha hb) fun σ H Q ⟨S, W, d, S', R, e, k⟩ => by
  unfold kRepF at e
  obtain ⟨⟨d1, S1⟩, e1, e⟩ := Option.bind_eq_some_iff.mp e
  obtain ⟨⟨d2, S2⟩, e2, e⟩ := Option.bind_eq_some_iff.mp e
  dsimp only at e
  split at e
  · rename_i xs n e0
    split at e
    case isFalse => cases e
    rename_i hl
    cases e
    refine ⟨S, W, _, S1, R, e1, fun a H1 W1 R1 s1 hn hw hf ho h0 => ⟨S1, W1, _, _, R1, e2, fun u H2 W2 R2 s2 x2 => ?_⟩⟩
    obtain ⟨vs, hv, hd⟩ := ho
    obtain ⟨hv2, hw2⟩ := s2.own a _ hw hv hf
    have := x2.int
    subst this
    have hlen := dps_length hd
    refine ⟨a, n, vs, rfl, rfl, hv2, by omega, by omega, ?_, fun p hp => ?_⟩
    · rw [hlen]
      refine line_of (Nat.le_trans (Nat.mul_le_mul hl.2.2 (show n.toNat ≤ 1000 by omega)) (by decide))
    · obtain ⟨q1, q2, q3, q4, q5, q6⟩ := rf_new R2 hp (dps_rep (s2.vis.dps hd) n.toNat)
      exact k p _ _ q1 (s1.trans (s2.trans q2)) ((s1.trans s2).was hp) q3 q4 q5 q6
  · cases e

/-! x.append(e), x.extend(..), x.pop() -/
def kApp (i : Nat) (f : Sl → Option (D × Sl)) : Sl → Option Out := fun S => (vw S i).bind fun y => if tyD "list" y = true then (f S).bind fun q => match q.2[i]? with
  | some (.ow l (.lst ds)) => if ds.length < 1000000 then some (.nx (q.2.set i (.ow l (.lst (ds ++ [q.1]))))) else none
  | _ => none
  else none
theorem p_append (ho : PE X o (tVar i)) (ha : SE X c e f)
    (hbase : attributeBase o "append" X.env (eval o X.env) = eval o X.env := by rfl)
    (hfew : ((backTo cpos (starEach [e] X.env)).all (fun x => !x.1) && (backToKw cpos (keywordEach [] X.env)).all (fun x => x.1.isSome) && decide (([e] : List Expr).length + ([] : List Keyword).length + (if ([] : List Keyword).isEmpty then 0 else 1) < 30)) = true := by rfl)
    (hline : (apos.endLine == cpos.line) = true := by rfl) (hs : starEach [e] X.env = (false, eval e X.env) :: starEach [] X.env := by rfl) (hplain : (backTo cpos (starEach [] X.env)).any (·.1) = false := by rfl)
    (hsw : swapsWith (.Call (.Attribute o "append" apos) [e] [] cpos) none pos.line X.env = pure false := by rfl) :
    SS1 X c (.Expr (.Call (.Attribute o "append" apos) [e] [] cpos) pos) (kApp i f) := ps_imp (ps_expr (pe_bmD PySem.F.plainAttrs_list PySem.F.slot_list_append (by rfl) mt_append ho (pa_cons ha pa_nil hs) hbase hfew hline hs hplain) hsw) fun D σ H ⟨S, W, r, R, e, k⟩ => by
  unfold kApp at e
  obtain ⟨d0, e0, e⟩ := Option.bind_eq_some_iff.mp e
  split at e
  case isFalse => cases e
  rename_i ht
  obtain ⟨⟨d2, S2⟩, e2, e⟩ := Option.bind_eq_some_iff.mp e
  dsimp only at e
  split at e
  · rename_i l ds q
    split at e
    case isFalse => cases e
    rename_i hl
    cases e
    obtain ⟨v, hv, x0⟩ := vw_get R e0
    refine ⟨v, hv, isTy_of x0 ht, S, W, d2, S2, R, e2, fun u H2 W2 R2 s2 x2 => ?_⟩
    obtain ⟨a, z1, z2, ⟨xs, z3, z4⟩, z5⟩ := R2.slot i _ q
    rw [hv] at z1
    cases z1
    refine ⟨a, xs, u, rfl, rfl, z3, by rw [dps_length z4]; exact line_lt hl, ?_⟩
    refine k σ _ W2 (R2.write q hv ⟨xs ++ [u], upd_same, dps_append z4 (dps_one x2)⟩) (s2.vis.trans ?_)
    rw [hid_upd_own z2]
    exact Same.refl _
  · cases e
def kExt (i : Nat) (ff : Sl → Option (Ob × Sl)) : Sl → Option Out := fun S => (vw S i).bind fun y => if tyD "list" y = true then (ff S).bind fun q => match q.1, q.2[i]? with
  | .lst es, some (.ow l (.lst ds)) => if ds.length + es.length ≤ 1000000 then some (.nx (q.2.set i (.ow l (.lst (ds ++ es))))) else none
  | _, _ => none
  else none
theorem p_extend {ff : Sl → Option (Ob × Sl)} (ho : PE X o (tVar i)) (ha : SF X c e ff)
    (hbase : attributeBase o "extend" X.env (eval o X.env) = eval o X.env := by rfl)
    (hfew : ((backTo cpos (starEach [e] X.env)).all (fun x => !x.1) && (backToKw cpos (keywordEach [] X.env)).all (fun x => x.1.isSome) && decide (([e] : List Expr).length + ([] : List Keyword).length + (if ([] : List Keyword).isEmpty then 0 else 1) < 30)) = true := by rfl)
    (hline : (apos.endLine == cpos.line) = true := by rfl) (hs : starEach [e] X.env = (false, eval e X.env) :: starEach [] X.env := by rfl) (hplain : (backTo cpos (starEach [] X.env)).any (·.1) = false := by rfl)
    (hsw : swapsWith (.Call (.Attribute o "extend" apos) [e] [] cpos) none pos.line X.env = pure false := by rfl) :
    SS1 X c (.Expr (.Call (.Attribute o "extend" apos) [e] [] cpos) pos) (kExt i ff) := ps_imp (ps_expr (pe_bmD PySem.F.plainAttrs_list PySem.F.slot_list_extend (by rfl) mt_extend ho (pa_cons ha pa_nil hs) hbase hfew hline hs hplain) hsw) fun D σ H ⟨S, W, r, R, e, k⟩ => by
  unfold kExt at e
  obtain ⟨d0, e0, e⟩ := Option.bind_eq_some_iff.mp e
  split at e
  case isFalse => cases e
  rename_i ht
  obtain ⟨⟨d2, S2⟩, e2, e⟩ := Option.bind_eq_some_iff.mp e
  dsimp only at e
  split at e
  · rename_i es l ds hd2 q
    split at e
    case isFalse => cases e
    rename_i hl
    cases e
    obtain ⟨v, hv, x0⟩ := vw_get R e0
    refine ⟨v, hv, isTy_of x0 ht, S, W, _, S2, R, e2, fun b H2 W2 R2 s2 hn hw hf hob h0 => ?_⟩
    obtain ⟨a, z1, z2, ⟨xs, z3, z4⟩, z5⟩ := R2.slot i _ q
    rw [hv] at z1
    cases z1
    obtain ⟨ys, y1, y2⟩ := hob
    refine ⟨a, b, xs, ys, rfl, rfl, z3, y1, by rw [dps_length z4, dps_length y2]; exact line_of hl, ?_⟩
    refine k σ _ W2 (R2.write q hv ⟨xs ++ ys, upd_same, dps_append z4 y2⟩) (s2.vis.trans ?_)
    rw [hid_upd_own z2]
    exact Same.refl _
  · cases e
end
end VD
/-! VD13: dicts, the state. -/
namespace VD
open PySem PySem.Spec PyProof.Rows L2

/-! ### keys -/
def keyK : D → Option Key
  | .int i => some (.inl i)
  | .str x => some (.inr x)
  | _ => none
mutual
def nkOf : D → Option NestedKey
  | .none => some .none
  | .int i => some (.num i)
  | .str x => some (.text x)
  | .tuple ds => (nkAll ds).map .tup
  | .bool _ => none
  | .list _ => none
  | .dict _ => none
def nkAll : List D → Option (List NestedKey)
  | [] => some []
  | d :: ds => (nkOf d).bind fun k => (nkAll ds).map fun ks => k :: ks
end
mutual
theorem nk_data : ∀ (d : D) (k : NestedKey), nkOf d = some k → k.data = d
  | .none, k, h => by cases h; rfl
  | .int i, k, h => by cases h; rfl
  | .str x, k, h => by cases h; rfl
  | .tuple ds, k, h => by
    unfold nkOf at h
    obtain ⟨ks, h1, h2⟩ := Option.map_eq_some_iff.mp h
    subst h2
    show PyData.tuple (NestedKey.datas ks) = _
    rw [nk_datas ds ks h1]
  | .bool _, k, h => by cases h
  | .list _, k, h => by cases h
  | .dict _, k, h => by cases h
theorem nk_datas : ∀ (ds : List D) (ks : List NestedKey), nkAll ds = some ks → NestedKey.datas ks = ds
  | [], ks, h => by cases h; rfl
  | d :: ds, ks, h => by
    unfold nkAll at h
    obtain ⟨k, h1, h2⟩ := Option.bind_eq_some_iff.mp h
    obtain ⟨ls, h3, h4⟩ := Option.map_eq_some_iff.mp h2
    subst h4
    show NestedKey.data k :: NestedKey.datas ls = _
    rw [nk_data d k h1, nk_datas ds ls h3]
end
section
variable {X : Cx} {pins : List (Addr × Obj)} {σ : St} {H : Hp} {s : Shared}
mutual
theorem nested_is (I : L2.Inv X pins σ H s) : ∀ (k : NestedKey) (v : V) (u : Value), RelV v u → Dp X.K H v k.data → NestedIs s.heap k u
  | .none, v, u, r, d => by cases d; cases r; exact .none
  | .num i, v, u, r, d => by cases d; obtain ⟨t, rfl⟩ := r; exact .int i t
  | .text x, v, u, r, d => by cases d; obtain ⟨t, rfl⟩ := r; exact .text x t
  | .tup ks, v, u, r, d => by
    have d' : Dp X.K H v (.tuple (NestedKey.datas ks)) := d
    cases d' with
    | tup hs ha =>
      cases r
      obtain ⟨its, rv, pl, _⟩ := I.tuple hs.sq
      obtain ⟨o, ho, hc, n, hd⟩ := pl
      exact .tup ho hc hd (by simpa using nested_all I ks _ _ rv ha)
theorem nested_all (I : L2.Inv X pins σ H s) : ∀ (ks : List NestedKey) (vs : List V) (us : List Value), Vals vs us → DpAll X.K H vs (NestedKey.datas ks) → NestedAll s.heap ks us
  | [], vs, us, r, d => by
    cases d
    cases r
    exact .nil
  | k :: ks, vs, us, r, d => by
    cases d with
    | cons d1 d2 =>
      cases r with
      | cons r1 r2 => exact .cons (nested_is I k _ _ r1 d1) (nested_all I ks _ _ r2 d2)
end
end

/-! ### plain dict operations -/
section
variable {κ : Type} [DecidableEq κ]
def dget (l : List (κ × D)) (k : κ) : Option D := (l.find? fun p => decide (p.1 = k)).map (·.2)
def dput (l : List (κ × D)) (k : κ) (d : D) : List (κ × D) := if (l.any fun p => decide (p.1 = k)) = true then l.map (fun p => if p.1 = k then (p.1, d) else p) else l ++ [(k, d)]
end
def obGet : Ob → D → Option (Option D)
  | .dk kvs, d => (keyK d).map fun k => dget kvs k
  | .dn kvs, .tuple ds => (nkOf (.tuple ds)).bind fun k => if k.depth ≤ 8 then some (dget kvs k) else none
  | _, _ => none
def obPut : Ob → D → D → Option Ob
  | .dk kvs, d, v => (keyK d).bind fun k => if kvs.length < 1000000 then some (.dk (dput kvs k v)) else none
  | .dn kvs, .tuple ds, v => (nkOf (.tuple ds)).bind fun k => if k.depth ≤ 8 ∧ kvs.length < 1000000 then some (.dn (dput kvs k v)) else none
  | _, _, _ => none
def keyD : Key → D
  | .inl i => .int i
  | .inr x => .str x
def obKeys : Ob → Option (List D)
  | .dk kvs => some (kvs.map fun p => keyD p.1)
  | .dn kvs => some (kvs.map fun p => p.1.data)
  | .lst _ => none

/-! ### dicts at the heap -/
section
variable (P : Program) (w : World) (K : PySem.W.Frag)
abbrev KP (G : Hp) : Key × V → Key × D → Prop := fun p q => p.1 = q.1 ∧ Dp K G p.2 q.2
abbrev NP (G : Hp) : NestedKey × Addr × Value → NestedKey × D → Prop := fun x q => x.1 = q.1 ∧ Dp K G (.ref x.2.1) x.1.data ∧ ∃ v, RelV v x.2.2 ∧ Dp K G v q.2
def DA (G H : Hp) (a : Addr) : Ob → Prop
  | .lst _ => False
  | .dk kvs => ∃ ks, Rd H a (.dK ks) ∧ Paired (KP K G) ks kvs
  | .dn kvs => ∃ xs, Rd H a (rawD P w a xs) ∧ Paired (NP K G) xs kvs
end
section
variable {P : Program} {w : World} {K : PySem.W.Frag} {G G' H H' : Hp} {a : Addr} {o : Ob} {c : Cc}
def isD : Ob → Bool
  | .lst _ => false
  | _ => true
theorem ObAt.da (h : ObAt P w K G H a o) (hd : isD o = true) : DA P w K G H a o := by
  cases o with
  | lst _ => cases hd
  | dk kvs => obtain ⟨ks, e, x⟩ := h; exact ⟨ks, .inl e, x⟩
  | dn kvs => obtain ⟨ks, e, x⟩ := h; exact ⟨ks, .inl e, x⟩
theorem ObFz.da (h : ObFz P w K G a o) (hg : Same G H) : DA P w K G H a o := by
  cases o with
  | lst _ => exact h
  | dk kvs => obtain ⟨od, ks, e, x⟩ := h; exact ⟨ks, .inr ⟨od, hg _ _ e⟩, x⟩
  | dn kvs => obtain ⟨od, ks, e, x⟩ := h; exact ⟨ks, .inr ⟨od, hg _ _ e⟩, x⟩
/-- a slot's dict, to be read -/
def vd (S : Sl) (i : Nat) : Option Ob := match S[i]? with
  | some (.fd o) => some o
  | some (.ow _ o) => if isD o = true then some o else none
  | _ => none
theorem vd_get {S : Sl} {W : AP} {σ : St} {i : Nat} (R : Rep P w K c S W σ H) (e : vd S i = some o) : ∃ a, σ[i]? = some (some (.ref a)) ∧ DA P w K (hid W H) H a o := by
  unfold vd at e
  split at e
  · rename_i o' q
    cases e
    obtain ⟨a, e1, e2⟩ := R.slot i _ q
    exact ⟨a, e1, e2.da hid_sub⟩
  · rename_i l o' q
    split at e
    · rename_i hd
      cases e
      obtain ⟨a, e1, e2, e3, _⟩ := R.slot i _ q
      exact ⟨a, e1, e3.da hd⟩
    · cases e
  · cases e
theorem find_k {κ : Type} [DecidableEq κ] {α : Type} {F : κ × α → κ × D → Prop} (hF : ∀ p q, F p q → p.1 = q.1) (k : κ) : ∀ {l : List (κ × α)} {m : List (κ × D)}, Paired F l m →
    match m.find? fun p => decide (p.1 = k) with
    | some q => ∃ p, (l.find? fun p => decide (p.1 = k)) = some p ∧ F p q
    | none => (l.find? fun p => decide (p.1 = k)) = none
  | _, _, .nil => rfl
  | p :: l, q :: m, .cons h t => by
    have hp := hF p q h
    rw [List.find?_cons, List.find?_cons]
    by_cases e : q.1 = k
    · rw [decide_eq_true e, decide_eq_true (hp.trans e)]
      exact ⟨p, rfl, h⟩
    · rw [decide_eq_false e, decide_eq_false (fun z => e (hp.symm.trans z))]
      exact find_k hF k t
theorem valV_get {ks : List (Key × V)} {kvs : List (Key × D)} (x : Paired (KP K G) ks kvs) (k : Key) : match dget kvs k with
    | some d => ∃ v, valV ks k = some v ∧ Dp K G v d
    | none => valV ks k = none := by
  have := find_k (fun p q h => h.1) k x
  unfold dget valV
  cases e : kvs.find? fun p => decide (p.1 = k) with
  | none =>
    rw [e] at this
    show (ks.find? fun kv => decide (kv.1 = k)).map (·.2) = none
    rw [show (ks.find? fun kv => decide (kv.1 = k)) = none from this]
    rfl
  | some q =>
    rw [e] at this
    obtain ⟨p, h1, h2⟩ := this
    exact ⟨p.2, by rw [h1]; rfl, h2.2⟩
theorem atKey_get {xs : List (NestedKey × Addr × Value)} {kvs : List (NestedKey × D)} (x : Paired (NP K G) xs kvs) (k : NestedKey) : match dget kvs k with
    | some d => ∃ p v, atKey xs k = some p ∧ RelV v p.2 ∧ Dp K G v d
    | none => atKey xs k = none := by
  have := find_k (fun p q h => h.1) k x
  unfold dget atKey
  cases e : kvs.find? fun p => decide (p.1 = k) with
  | none =>
    rw [e] at this
    show (xs.find? fun kv => decide (kv.1 = k)).map (·.2) = none
    rw [show (xs.find? fun kv => decide (kv.1 = k)) = none from this]
    rfl
  | some q =>
    rw [e] at this
    obtain ⟨p, h1, _, _, v, h2, h3⟩ := this
    exact ⟨p.2, v, by rw [h1]; rfl, h2, h3⟩
end
section
variable {X : Cx} {pins : List (Addr × Obj)} {σ : St} {G H : Hp} {s : Shared} {a : Addr} {y v : V} {u r : Value} {o o' : Ob} {A : Around} {E : Value → Shared → Prop} {d e : D} {rr : Option D}
theorem rawD_at {xs : List (NestedKey × Addr × Value)} (I : L2.Inv X pins σ H s) (h : Rd H a (rawD X.prog X.w a xs)) (hd : ∀ x ∈ xs, Dp X.K H (.ref x.2.1) x.1.data) : (a == sysModules) = false ∧ xs.length ≤ sizeLine ∧ s.heap.DictOfH (nestedKind X.prog X.w) a xs ∧ (∀ x ∈ xs, x.1.depth ≤ 8) := by
  obtain ⟨⟨h1, h2, h3, h4, ob, es, ep, h5, h6, h7, h8⟩, _, _⟩ := (show ObjOk X.prog X.w H s.heap a (rawD X.prog X.w a xs) from h.ok I.hok)
  exact ⟨h1, h2, ⟨ob, es, ep, h5, h6, h7, h8, fun x hx => ⟨nested_is I x.1 (.ref x.2.1) _ (show L2.RelV (.ref x.2.1) (.ref x.2.1) from rfl) (hd x hx), h4 x hx⟩, h3⟩, h4⟩
theorem np_dp {K : PySem.W.Frag} : ∀ {xs : List (NestedKey × Addr × Value)} {kvs : List (NestedKey × D)}, Paired (NP K G) xs kvs → ∀ x ∈ xs, Dp K G (.ref x.2.1) x.1.data
  | _, _, .nil, x, h => nomatch h
  | _, _, .cons p t, x, h => by
    rcases List.mem_cons.mp h with rfl | h
    · exact p.2.1
    · exact np_dp t x h
theorem key_rel {k : Key} (h : keyK e = some k) (dy : Dp X.K H y e) : y = L2.kV k := by
  cases e <;> cases h <;> cases dy <;> rfl
theorem da_type (I : L2.Inv X pins σ H s) (g : DA X.prog X.w X.K G H a o) (hg : Same G H) : s.TypeIs (.ref a) "dict" ∧ (∀ b, Value.ref a = .ref b → ∃ ob, s.heap.get? b = some ob ∧ ob.dict = none) ∧ (a == sysModules) = false := by
  cases o with
  | lst _ => exact g.elim
  | dk kvs =>
    obtain ⟨ks, e, x⟩ := g
    exact isD_at I (.inl ⟨ks, e⟩)
  | dn kvs =>
    obtain ⟨xs, e, x⟩ := g
    obtain ⟨h1, h2, h3, _⟩ := rawD_at I e fun z hz => hg.dp (np_dp x z hz)
    exact ⟨h3.typeIs, dictOfH_noDict h3, h1⟩
/-- what a dict told its keys and values: rr the semantic answer -/
theorem da_get {Q : Value → Shared → Prop} (hu : A.units + 200 < cLine) (I : L2.Inv X pins σ H s) (g : DA X.prog X.w X.K G H a o) (hg : Same G H) (ry : RelV y u) (dy : Dp X.K H y e) (q : obGet o e = some (some d))
    (h : ∀ v w' s', L2.Inv X pins σ H s' → RelV v w' → Dp X.K G v d → Q w' s') : wpAny (model X.prog X.w) A (getItem (.ref a) u) Q E s := by
  cases o with
  | lst _ => exact g.elim
  | dk kvs =>
    obtain ⟨ks, e1, x⟩ := g
    obtain ⟨k, hk, hr⟩ := Option.map_eq_some_iff.mp (show (keyK e).map _ = _ from q)
    have := valV_get x k
    rw [hr] at this
    obtain ⟨v, h1, h2⟩ := this
    exact d_getItem (by omega) I (.inl ⟨ks, k, e1, key_rel (X := X) (H := H) hk dy, h1.symm⟩) ry fun w' s' I' rw' => h v w' s' I' rw' h2
  | dn kvs =>
    obtain ⟨xs, e1, x⟩ := g
    cases e with
    | tuple ds =>
      obtain ⟨k, hk, hr⟩ := Option.bind_eq_some_iff.mp (show (nkOf (.tuple ds)).bind _ = _ from q)
      split at hr
      case isFalse => cases hr
      rename_i hdp
      have := atKey_get x k
      cases hr' : dget kvs k with
      | none => rw [hr'] at hr; cases hr
      | some d' =>
        rw [hr'] at hr this
        cases hr
        obtain ⟨p, v, h1, h2, h3⟩ := this
        obtain ⟨z1, z2, z3, _⟩ := rawD_at I e1 fun z hz => hg.dp (np_dp x z hz)
        have hdat := nk_data _ _ hk
        have hn := nested_is I k y u ry (by rw [hdat]; exact dy)
        cases dy with
        | tup _ _ =>
          cases ry
          exact wpAny_getItem_heap (knd := nestedKind X.prog X.w) (show A.units + 1 + 8 < cLine by omega) ⟨hn, hdp⟩ z3 h1 (h v _ _ (I.tok _) h2 h3)
    | _ => cases q
theorem da_in {Q : Value → Shared → Prop} (hu : A.units + 200 < cLine) (I : L2.Inv X pins σ H s) (g : DA X.prog X.w X.K G H a o) (hg : Same G H) (ry : RelV y u) (dy : Dp X.K H y e) (q : obGet o e = some rr)
    (h : ∀ s', L2.Inv X pins σ H s' → Q (.bool rr.isSome) s') : wpAny (model X.prog X.w) A (compareOp .In u (.ref a)) Q E s := by
  cases o with
  | lst _ => exact g.elim
  | dk kvs =>
    obtain ⟨ks, e1, x⟩ := g
    obtain ⟨k, hk, hr⟩ := Option.map_eq_some_iff.mp (show (keyK e).map _ = _ from q)
    have := valV_get x k
    have e2 : (valV ks k).isSome = rr.isSome := by
      rw [hr] at this
      cases rr with
      | none => rw [show valV ks k = none from this]; rfl
      | some d => obtain ⟨v, h1, _⟩ := this; rw [h1]; rfl
    exact d_in (by omega) I (.inl ⟨ks, k, e1, key_rel (X := X) (H := H) hk dy, rfl⟩) ry fun s' I' => by rw [e2]; exact h s' I'
  | dn kvs =>
    obtain ⟨xs, e1, x⟩ := g
    cases e with
    | tuple ds =>
      obtain ⟨k, hk, hr⟩ := Option.bind_eq_some_iff.mp (show (nkOf (.tuple ds)).bind _ = _ from q)
      split at hr
      case isFalse => cases hr
      rename_i hdp
      cases hr
      have := atKey_get x k
      have e2 : (atKey xs k).isSome = (dget kvs k).isSome := by
        cases hh : dget kvs k with
        | none => rw [hh] at this; rw [show atKey xs k = none from this]; rfl
        | some d => rw [hh] at this; obtain ⟨p, v, h1, _⟩ := this; rw [h1]; rfl
      obtain ⟨z1, z2, z3, _⟩ := rawD_at I e1 fun z hz => hg.dp (np_dp x z hz)
      have hn := nested_is I k y u ry (by rw [nk_data _ _ hk]; exact dy)
      cases dy with
      | tup _ _ =>
        cases ry
        exact wpAny_in_heap (knd := nestedKind X.prog X.w) (show A.units + 1 + 8 < cLine by omega) ⟨hn, hdp⟩ z1 z3 (by rw [e2]; exact h _ (I.tok _))
    | _ => cases q
theorem da_notIn {Q : Value → Shared → Prop} (hu : A.units + 200 < cLine) (I : L2.Inv X pins σ H s) (g : DA X.prog X.w X.K G H a o) (hg : Same G H) (ry : RelV y u) (dy : Dp X.K H y e) (q : obGet o e = some rr)
    (h : ∀ s', L2.Inv X pins σ H s' → Q (.bool (!rr.isSome)) s') : wpAny (model X.prog X.w) A (compareOp .NotIn u (.ref a)) Q E s := by
  cases o with
  | lst _ => exact g.elim
  | dk kvs =>
    obtain ⟨ks, e1, x⟩ := g
    obtain ⟨k, hk, hr⟩ := Option.map_eq_some_iff.mp (show (keyK e).map _ = _ from q)
    have := valV_get x k
    have e2 : (valV ks k).isSome = rr.isSome := by
      rw [hr] at this
      cases rr with
      | none => rw [show valV ks k = none from this]; rfl
      | some d => obtain ⟨v, h1, _⟩ := this; rw [h1]; rfl
    exact d_notIn (by omega) I (.inl ⟨ks, k, e1, key_rel (X := X) (H := H) hk dy, rfl⟩) ry fun s' I' => by rw [e2]; exact h s' I'
  | dn kvs =>
    obtain ⟨xs, e1, x⟩ := g
    cases e with
    | tuple ds =>
      obtain ⟨k, hk, hr⟩ := Option.bind_eq_some_iff.mp (show (nkOf (.tuple ds)).bind _ = _ from q)
      split at hr
      case isFalse => cases hr
      rename_i hdp
      cases hr
      have := atKey_get x k
      have e2 : (atKey xs k).isSome = (dget kvs k).isSome := by
        cases hh : dget kvs k with
        | none => rw [hh] at this; rw [show atKey xs k = none from this]; rfl
        | some d => rw [hh] at this; obtain ⟨p, v, h1, _⟩ := this; rw [h1]; rfl
      obtain ⟨z1, z2, z3, _⟩ := rawD_at I e1 fun z hz => hg.dp (np_dp x z hz)
      have hn := nested_is I k y u ry (by rw [nk_data _ _ hk]; exact dy)
      cases dy with
      | tup _ _ =>
        cases ry
        exact wpAny_notIn_heap (knd := nestedKind X.prog X.w) (show A.units + 1 + 8 < cLine by omega) ⟨hn, hdp⟩ z1 z3 (by rw [e2]; exact h _ (I.tok _))
    | _ => cases q
def OrD (K : PySem.W.Frag) (G : Hp) (v z : V) : Option D → Prop
  | some d => Dp K G v d
  | none => v = z
/-- d.get(y, z) -/
theorem da_get2 {Q : Value → Shared → Prop} {z : V} (hu : A.units + 200 < cLine) (I : L2.Inv X pins σ H s) (g : DA X.prog X.w X.K G H a o) (hg : Same G H) (ry : RelV y u) (rz : RelV z r) (dy : Dp X.K H y e) (q : obGet o e = some rr)
    (h : ∀ v w' s', L2.Inv X pins σ H s' → RelV v w' → OrD X.K G v z rr → Q w' s') : wpAny (model X.prog X.w) A (call (.builtin "dict.get") [.ref a, u, r]) Q E s := by
  cases o with
  | lst _ => exact g.elim
  | dk kvs =>
    obtain ⟨ks, e1, x⟩ := g
    obtain ⟨k, hk, hr⟩ := Option.map_eq_some_iff.mp (show (keyK e).map _ = _ from q)
    have := valV_get x k
    rw [hr] at this
    refine d_get2 (by omega) I (.inl ⟨ks, k, e1, key_rel (X := X) (H := H) hk dy, rfl⟩) ry rz fun w' s' I' rw' => h _ w' s' I' rw' ?_
    cases rr with
    | none =>
      show (valV ks k).getD z = z
      rw [show valV ks k = none from this]
      rfl
    | some d =>
      obtain ⟨v, h1, h2⟩ := this
      show Dp X.K G ((valV ks k).getD z) d
      rw [h1]
      exact h2
  | dn kvs =>
    obtain ⟨xs, e1, x⟩ := g
    cases e with
    | tuple ds =>
      obtain ⟨k, hk, hr⟩ := Option.bind_eq_some_iff.mp (show (nkOf (.tuple ds)).bind _ = _ from q)
      split at hr
      case isFalse => cases hr
      rename_i hdp
      cases hr
      have := atKey_get x k
      obtain ⟨z1, z2, z3, _⟩ := rawD_at I e1 fun z hz => hg.dp (np_dp x z hz)
      have hn := nested_is I k y u ry (by rw [nk_data _ _ hk]; exact dy)
      cases dy with
      | tup _ _ =>
        cases ry
        refine call_meetsIn PySem.F.slot_dict_get z3.typeIs PySem.F.entry_dict_get (PySem.F.args_dict_get_3 _ _ _) (meetsH_dict_get_default (nestedKind X.prog X.w) a _ z1 r) ⟨show A.units + 1 + 8 < cLine by omega, k, xs, ⟨hn, hdp⟩, z3, ?_⟩
        cases hh : dget kvs k with
        | none =>
          rw [hh] at this h
          rw [show atKey xs k = none from this]
          exact h z r _ (I.tok _) rz rfl
        | some d =>
          rw [hh] at this h
          obtain ⟨p, v, h1, h2, h3⟩ := this
          rw [h1]
          exact h v _ _ (I.tok _) h2 h3
    | _ => cases q
end
end VD
/-! VD14: dicts, the rules. -/
namespace VD
open PySem PySem.Spec PyProof.Rows L2

theorem paired_snoc {α β : Type} {F : α → β → Prop} : ∀ {l : List α} {m : List β} {a : α} {b : β}, Paired F l m → F a b → Paired F (l ++ [a]) (m ++ [b])
  | _, _, _, _, .nil, h => .cons h .nil
  | _, _, _, _, .cons g t, h => .cons g (paired_snoc t h)
theorem paired_map2 {α β : Type} {F : α → β → Prop} {f : α → α} {g : β → β} (hf : ∀ a b, F a b → F (f a) (g b)) : ∀ {l : List α} {m : List β}, Paired F l m → Paired F (l.map f) (m.map g)
  | _, _, .nil => .nil
  | _, _, .cons h t => .cons (hf _ _ h) (paired_map2 hf t)
theorem any_find {κ α : Type} [DecidableEq κ] (k : κ) : ∀ l : List (κ × α), (l.any fun p => decide (p.1 = k)) = ((l.find? fun p => decide (p.1 = k)).map (·.2)).isSome
  | [] => rfl
  | p :: l => by
    rw [List.any_cons, List.find?_cons]
    by_cases e : p.1 = k
    · rw [decide_eq_true e]; rfl
    · rw [decide_eq_false e, Bool.false_or]; exact any_find k l
section
variable {K : PySem.W.Frag} {G : Hp}
theorem put_k {ks : List (Key × V)} {kvs : List (Key × D)} (x : Paired (KP K G) ks kvs) (k : Key) {v : V} {d : D} (h : Dp K G v d) : Paired (KP K G) (putK ks k v) (dput kvs k d) := by
  have e : (ks.any fun kv => decide (kv.1 = k)) = (kvs.any fun p => decide (p.1 = k)) := by
    rw [any_find, any_find]
    have := valV_get x k
    unfold dget valV at this
    cases q : ((kvs.find? fun p => decide (p.1 = k)).map (·.2)) with
    | none => rw [q] at this; rw [show Option.map (fun x => x.snd) (List.find? (fun kv => decide (kv.fst = k)) ks) = none from this]; rfl
    | some d => rw [q] at this; obtain ⟨v, h1, _⟩ := this; rw [h1]; rfl
  unfold putK dput
  rw [e]
  split
  · refine paired_map2 (fun a b q => ?_) x
    by_cases ea : a.1 = k
    · rw [if_pos ea, if_pos (q.1.symm.trans ea)]; exact ⟨q.1, h⟩
    · rw [if_neg ea, if_neg (fun z => ea (q.1.trans z))]; exact q
  · exact paired_snoc x ⟨rfl, h⟩
theorem put_n {xs : List (NestedKey × Addr × Value)} {kvs : List (NestedKey × D)} (x : Paired (NP K G) xs kvs) (k : NestedKey) {b : Addr} {r : Value} {v : V} {d : D} (hk : Dp K G (.ref b) k.data) (rv : RelV v r) (h : Dp K G v d) : Paired (NP K G) (storedH xs k b r) (dput kvs k d) := by
  have e : (atKey xs k).isSome = (kvs.any fun p => decide (p.1 = k)) := by
    rw [any_find]
    have := atKey_get x k
    unfold dget at this
    cases q : ((kvs.find? fun p => decide (p.1 = k)).map (·.2)) with
    | none => rw [q] at this; rw [show atKey xs k = none from this]; rfl
    | some d => rw [q] at this; obtain ⟨p, v, h1, _⟩ := this; rw [h1]; rfl
  unfold storedH dput
  rw [e]
  split
  · refine paired_map2 (fun a b q => ?_) x
    unfold putAt
    by_cases ea : a.1 = k
    · rw [if_pos ea, if_pos (q.1.symm.trans ea)]; exact ⟨q.1, q.2.1, v, rv, h⟩
    · rw [if_neg ea, if_neg (fun z => ea (q.1.trans z))]; exact q
  · exact paired_snoc x ⟨rfl, hk, v, rv, h⟩
end
theorem dput_len {κ : Type} [DecidableEq κ] (l : List (κ × D)) (k : κ) (d : D) : (dput l k d).length ≤ l.length + 1 := by
  unfold dput
  split
  · rw [List.length_map]; omega
  · rw [List.length_append]; simp
theorem rawD_ok {P : Program} {w : World} {H : Hp} {h : Heap} {a : Addr} {xs : List (NestedKey × Addr × Value)} (h1 : (a == sysModules) = false) (h2 : xs.length ≤ sizeLine) (h3 : (xs.map (·.1)).Nodup) (h4 : ∀ x ∈ xs, x.1.depth ≤ 8)
    (h5 : ∃ o es ep, h.get? a = some o ∧ o.ExactDict ∧ o.data = .dict es ep ∧ es.toList = xs.map (entryOfKey (nestedKind P w))) : ObjOk P w H h a (rawD P w a xs) :=
  ⟨⟨h1, h2, h3, h4, h5⟩, let ⟨o, _, _, e, _⟩ := h5; ⟨o, e⟩, fun g1 g2 ⟨q1, q2, q3, q4, o, es, ep, q5, q6⟩ k => ⟨q1, q2, q3, q4, o, es, ep, k o q5, q6⟩⟩
section
variable {X : Cx} {pins : List (Addr × Obj)} {σ : St} {G H : Hp} {s : Shared} {a : Addr} {y v : V} {u r : Value} {o o' : Ob} {A : Around} {E : Value → Shared → Prop} {d e : D}
theorem ob_put {Q : Unit → Shared → Prop} (hu : A.units + 200 < cLine) (I : L2.Inv X pins σ H s) (g : ObAt X.prog X.w X.K G H a o) (hg : Same G H) (ry : RelV y u) (dy : Dp X.K G y e) (rv : RelV v r) (dv : Dp X.K G v d) (q : obPut o e d = some o')
    (h : ∀ ho s', L2.Inv X pins σ (upd H a ho) s' → ObAt X.prog X.w X.K G (upd H a ho) a o' → Q () s') : wpAny (model X.prog X.w) A (setItem (.ref a) u r) Q E s := by
  cases o with
  | lst _ => cases q
  | dk kvs =>
    obtain ⟨ks, e1, x⟩ := g
    obtain ⟨k, hk, q⟩ := Option.bind_eq_some_iff.mp (show (keyK e).bind _ = _ from q)
    split at q
    case isFalse => cases q
    rename_i hl
    cases q
    have hy := key_rel (X := X) (H := H) hk (hg.dp dy)
    subst hy
    have hlen : ks.length = kvs.length := Paired.length x
    exact d_setItem (v := v) (by omega) I (DPut.k e1 (by rw [hlen]; exact line_lt hl)) ry rv fun s' I' => h _ s' I' ⟨_, upd_same, put_k x k dv⟩
  | dn kvs =>
    obtain ⟨xs, e1, x⟩ := g
    cases e with
    | tuple ds =>
      obtain ⟨k, hk, q⟩ := Option.bind_eq_some_iff.mp (show (nkOf (.tuple ds)).bind _ = _ from q)
      split at q
      case isFalse => cases q
      rename_i hl
      cases q
      have hlen : xs.length = kvs.length := Paired.length x
      obtain ⟨z1, z2, z3, z4⟩ := rawD_at I (.inl e1) fun z hz => hg.dp (np_dp x z hz)
      have hdat := nk_data _ _ hk
      have hn := nested_is I k y u ry (by rw [hdat]; exact hg.dp dy)
      cases dy with
      | @tup b _ _ hs ha =>
        cases ry
        have hkd : Dp X.K G (.ref b) k.data := by rw [hdat]; exact .tup hs ha
        refine wpAny_setItem_heap (knd := nestedKind X.prog X.w) (hsz := z2) (show A.units + 1 + 8 < cLine by omega) ⟨hn, hl.1⟩ z3 fun h' dd' hs' => ?_
        obtain ⟨qo, es, ep, hq, h2, h3, h4, _, h5⟩ := dd'
        have hnew := put_n x k hkd rv dv
        refine h (rawD X.prog X.w a (storedH xs k b r)) _ (d_write I (by rw [e1]; exact True.intro) hs' ⟨qo, hq⟩ (rawD_ok z1 ?_ h5 (fun z hz => ?_) ⟨qo, es, ep, hq, h2, h3, h4⟩)) ⟨_, upd_same, hnew⟩
        · rw [Paired.length hnew]
          have := dput_len kvs k d
          have : kvs.length < sizeLine := line_lt hl.2
          omega
        · unfold storedH at hz
          split at hz
          · obtain ⟨p, hp, e2⟩ := List.mem_map.mp hz
            have e3 : z.1 = p.1 := by
              rw [← e2]
              unfold putAt
              split <;> rfl
            rw [e3]
            exact z4 p hp
          · rcases List.mem_append.mp hz with hz | hz
            · exact z4 z hz
            · rw [List.mem_singleton.mp hz]
              exact hl.1
    | _ => cases q
end

/-! ### rules -/
section
variable {X : Cx} {c : Cc} {e a b ob ix : Expr} {f f1 f2 fx : Sl → Option (D × Sl)} {pos apos cpos : Pos} {i : Nat}
/-- d[y], d in a slot -/
def kDGet (i : Nat) (f : Sl → Option (D × Sl)) : Sl → Option (D × Sl) := fun S => (vd S i).bind fun _ => (f S).bind fun q => (vd q.2 i).bind fun o => (obGet o q.1).bind fun r => r.map fun d => (d, q.2)
theorem s_dget (hu : X.A.units + 200 < cLine) (ho : PE X ob (tVar i)) (hi : SE X c ix f) (hs : NoSl ix) : SE X c (.Subscript ob ix pos) (kDGet i f) := by
  refine ⟨fun pins s σ H Q I ⟨S, W, d, S', R, e, k⟩ => ?_⟩
  unfold kDGet at e
  obtain ⟨o0, e0, e⟩ := Option.bind_eq_some_iff.mp e
  obtain ⟨⟨d1, S1⟩, e1, e⟩ := Option.bind_eq_some_iff.mp e
  obtain ⟨o1, e2, e⟩ := Option.bind_eq_some_iff.mp e
  obtain ⟨r, e3, e⟩ := Option.bind_eq_some_iff.mp e
  obtain ⟨d2, e4, e⟩ := Option.map_eq_some_iff.mp e
  cases e
  subst e4
  obtain ⟨p, hp, _⟩ := vd_get R e0
  refine subD_of PySem.F.slot_dict_getitem.lookup hs (thn (ho.run pins s σ H (fun v H' => v = .ref p ∧ H' = H) I ⟨_, hp, rfl, rfl⟩) fun u s1 ⟨x, H1, I1, rx, ex, eH⟩ => ?_)
  subst ex
  subst eH
  obtain rfl : u = Value.ref p := rx
  refine thn (hi.run pins s1 σ H1 (fun v H2 => ∃ W2, Rep X.prog X.w X.K c S1 W2 σ H2 ∧ Ks σ S W H1 S1 W2 H2 ∧ Dp X.K (hid W2 H2) v d1) I1 ⟨S, W, d1, S1, R, e1, fun v H2 W2 R2 s2 x2 => ⟨W2, R2, s2, x2⟩⟩) fun iv s2 ⟨y, H2, I2, ry, W2, R2, k2, x2⟩ => ?_
  obtain ⟨p', hp', g⟩ := vd_get R2 e2
  rw [hp] at hp'
  cases hp'
  exact ⟨(da_type I2 g hid_sub).1, da_get hu I2 g hid_sub ry (hid_sub.dp x2) e3 fun v w' s' I' rw' dv => ⟨v, H2, I', rw', k v H2 W2 R2 k2 dv⟩⟩
/-- y in d, y not in d -/
def kDIn (neg : Bool) (f : Sl → Option (D × Sl)) (i : Nat) : Sl → Option (D × Sl) := fun S => (f S).bind fun q => (vd q.2 i).bind fun o => (obGet o q.1).bind fun r => some (.bool (if neg = true then !r.isSome else r.isSome), q.2)
theorem pc_din (hu : X.A.units + 200 < cLine) (hi : SE X c e f) (ho : PE X ob (tVar i)) : PC X .In e ob (RE X.prog X.w X.K c (kDIn false f i)) := by
  refine ⟨fun pins s σ H Q I ⟨S, W, d, S', R, e, k⟩ => ?_⟩
  unfold kDIn at e
  obtain ⟨⟨d1, S1⟩, e1, e⟩ := Option.bind_eq_some_iff.mp e
  obtain ⟨o1, e2, e⟩ := Option.bind_eq_some_iff.mp e
  obtain ⟨r, e3, e⟩ := Option.bind_eq_some_iff.mp e
  cases e
  refine thn (hi.run pins s σ H (fun v H2 => ∃ W2, Rep X.prog X.w X.K c S1 W2 σ H2 ∧ Ks σ S W H S1 W2 H2 ∧ Dp X.K (hid W2 H2) v d1) I ⟨S, W, d1, S1, R, e1, fun v H2 W2 R2 s2 x2 => ⟨W2, R2, s2, x2⟩⟩) fun iv s2 ⟨y, H2, I2, ry, W2, R2, k2, x2⟩ => ?_
  obtain ⟨p, hp, g⟩ := vd_get R2 e2
  refine thn (ho.run pins s2 σ H2 (fun v H' => v = .ref p ∧ H' = H2) I2 ⟨_, hp, rfl, rfl⟩) fun u s3 ⟨x, H3, I3, rx, ex, eH⟩ => ?_
  subst ex
  subst eH
  obtain rfl : u = Value.ref p := rx
  exact da_in hu I3 g hid_sub ry (hid_sub.dp x2) e3 fun s' I' => ⟨.bl r.isSome, H3, I', rfl, k _ H3 W2 R2 k2 (.bl _)⟩
theorem pc_dnotin (hu : X.A.units + 200 < cLine) (hi : SE X c e f) (ho : PE X ob (tVar i)) : PC X .NotIn e ob (RE X.prog X.w X.K c (kDIn true f i)) := by
  refine ⟨fun pins s σ H Q I ⟨S, W, d, S', R, e, k⟩ => ?_⟩
  unfold kDIn at e
  obtain ⟨⟨d1, S1⟩, e1, e⟩ := Option.bind_eq_some_iff.mp e
  obtain ⟨o1, e2, e⟩ := Option.bind_eq_some_iff.mp e
  obtain ⟨r, e3, e⟩ := Option.bind_eq_some_iff.mp e
  cases e
  refine thn (hi.run pins s σ H (fun v H2 => ∃ W2, Rep X.prog X.w X.K c S1 W2 σ H2 ∧ Ks σ S W H S1 W2 H2 ∧ Dp X.K (hid W2 H2) v d1) I ⟨S, W, d1, S1, R, e1, fun v H2 W2 R2 s2 x2 => ⟨W2, R2, s2, x2⟩⟩) fun iv s2 ⟨y, H2, I2, ry, W2, R2, k2, x2⟩ => ?_
  obtain ⟨p, hp, g⟩ := vd_get R2 e2
  refine thn (ho.run pins s2 σ H2 (fun v H' => v = .ref p ∧ H' = H2) I2 ⟨_, hp, rfl, rfl⟩) fun u s3 ⟨x, H3, I3, rx, ex, eH⟩ => ?_
  subst ex
  subst eH
  obtain rfl : u = Value.ref p := rx
  exact da_notIn hu I3 g hid_sub ry (hid_sub.dp x2) e3 fun s' I' => ⟨.bl (!r.isSome), H3, I', rfl, k _ H3 W2 R2 k2 (.bl _)⟩
theorem t_pc {op : CmpOp} (h : PC X op a b (RE X.prog X.w X.K c f)) (h1 : behindInMarks op b = false) : ST X c (.Compare a [op] [b] pos) (kT f) := pt_imp (pt_cmp h h1) fun _ _ _ h => rt_kT h
theorem s_pc {op : CmpOp} (h : PC X op a b (RE X.prog X.w X.K c f)) (h1 : behindInMarks op b = false) : SE X c (.Compare a [op] [b] pos) f := pe_cmp h h1
/-- d.get(y, z) -/
def kDGet2 (i : Nat) (f1 f2 : Sl → Option (D × Sl)) : Sl → Option (D × Sl) := fun S => (vd S i).bind fun _ => (f1 S).bind fun q => (f2 q.2).bind fun z => (vd z.2 i).bind fun o => (obGet o q.1).bind fun r => some (r.getD z.1, z.2)
theorem s_dget2 (hu : X.A.units + 200 < cLine) (ho : PE X ob (tVar i)) (ha : SE X c a f1) (hb : SE X c b f2) (m : M2 X ob "get" apos a b cpos) : SE X c (.Call (.Attribute ob "get" apos) [a, b] [] cpos) (kDGet2 i f1 f2) := by
  refine ⟨fun pins s σ H Q I ⟨S, W, d, S', R, e, k⟩ => ?_⟩
  unfold kDGet2 at e
  obtain ⟨o0, e0, e⟩ := Option.bind_eq_some_iff.mp e
  obtain ⟨⟨d1, S1⟩, e1, e⟩ := Option.bind_eq_some_iff.mp e
  obtain ⟨⟨d2, S2⟩, e2, e⟩ := Option.bind_eq_some_iff.mp e
  obtain ⟨o1, e3, e⟩ := Option.bind_eq_some_iff.mp e
  obtain ⟨r, e4, e⟩ := Option.bind_eq_some_iff.mp e
  cases e
  obtain ⟨p, hp, g0⟩ := vd_get R e0
  refine wpAny_Call_method m.base m.few m.line PySem.F.plainAttrs_dict PySem.F.slot_dict_get PySem.F.type_dict_get (thn (ho.run pins s σ H (fun v H' => v = .ref p ∧ H' = H) I ⟨_, hp, rfl, rfl⟩) fun u s1 ⟨x, H1, I1, rx, ex, eH⟩ => ?_)
  subst ex
  subst eH
  obtain rfl : u = Value.ref p := rx
  obtain ⟨t1, t2, _⟩ := da_type I1 g0 hid_sub
  refine ⟨t1, t2, ?_⟩
  rw [m.trees]
  refine Calls.callWith_builtin rfl (Calls.evalArgs_plain (Calls.spliced_cons (thn (ha.run pins s1 σ H1 (fun v H2 => ∃ W2, Rep X.prog X.w X.K c S1 W2 σ H2 ∧ Ks σ S W H1 S1 W2 H2 ∧ Dp X.K (hid W2 H2) v d1) I1 ⟨S, W, d1, S1, R, e1, fun v H2 W2 R2 s2 x2 => ⟨W2, R2, s2, x2⟩⟩) fun iv s2 ⟨y, H2, I2, ry, W2, R2, k2, x2⟩ =>
    Calls.spliced_cons (thn (hb.run pins s2 σ H2 (fun v H3 => ∃ W3, Rep X.prog X.w X.K c _ W3 σ H3 ∧ Ks σ S1 W2 H2 _ W3 H3 ∧ Dp X.K (hid W3 H3) v d2) I2 ⟨S1, W2, d2, _, R2, e2, fun v H3 W3 R3 s3 x3 => ⟨W3, R3, s3, x3⟩⟩) fun fv s3 ⟨z, H3, I3, rz, W3, R3, k3, x3⟩ => Calls.spliced_nil ?_))))
  obtain ⟨p', hp', g⟩ := vd_get R3 e3
  rw [hp] at hp'
  cases hp'
  refine da_get2 hu I3 g hid_sub ry rz (hid_sub.dp (k3.vis.dp x2)) e4 fun v w' s' I' rw' hv => ⟨v, H3, I', rw', k v H3 W3 R3 (k2.trans k3) ?_⟩
  cases r with
  | some d => exact hv
  | none =>
    have hv : v = z := hv
    subst hv
    exact x3
/-! stores -/
def gDPut (i : Nat) (f : Sl → Option (D × Sl)) : D → Sl → Option Sl := fun d S => match S[i]? with
  | some (.ow _ _) => (f S).bind fun q => match q.2[i]? with
    | some (.ow l o) => (obPut o q.1 d).map fun o' => q.2.set i (.ow l o')
    | _ => none
  | _ => none
def gLPut (i : Nat) (f : Sl → Option (D × Sl)) : D → Sl → Option Sl := fun d S => match S[i]? with
  | some (.ow _ _) => (f S).bind fun q => match q.2[i]?, q.1 with
    | some (.ow l (.lst ds)), .int k => (ixN ds.length k).map fun j => q.2.set i (.ow l (.lst (ds.set j d)))
    | _, _ => none
  | _ => none
def rPutD (X : Cx) : V → V → V → Hp → (Hp → Prop) → Prop := fun x y v H Q => ∃ a W o e d o', x = .ref a ∧ ObAt X.prog X.w X.K (hid W H) H a o ∧ Dp X.K (hid W H) y e ∧ Dp X.K (hid W H) v d ∧ obPut o e d = some o' ∧
  ∀ ho, ObAt X.prog X.w X.K (hid W H) (upd H a ho) a o' → Q (upd H a ho)
theorem set_dictD (hu : X.A.units + 200 < cLine) : PSet X (rPutD X) := by
  intro pins s σ H x y v ov iv u Q I ro ri rv ⟨a, W, o, e, d, o', ex, g, dy, dv, q, k⟩
  subst ex
  obtain rfl : ov = Value.ref a := ro
  exact ob_put hu I g hid_sub ri dy rv dv q fun ho s' I' g' => ⟨_, I', k ho g'⟩
theorem g_lput (ho : PE X ob (tVar i)) (hi : SE X c ix f)
    (ha : ∀ v, assign (.Subscript ob ix pos) X.env v = (do
      let ov ← holding [v] (eval ob X.env)
      let iv ← holding [v, ov] (eval ix X.env)
      standAt pos
      holding [v, ov, iv] (setItem ov iv v)
      release [v, ov, iv] []) := by intro _; rfl) : SG X c (.Subscript ob ix pos) (gLPut i f) := pg_imp (pg_sub ho hi set_list ha) fun v σ H Q ⟨S, W, d, S', R, x, e, k⟩ => by
  unfold gLPut at e
  split at e
  case h_2 => cases e
  rename_i l0 o0 q0
  obtain ⟨⟨d1, S1⟩, e1, e⟩ := Option.bind_eq_some_iff.mp e
  dsimp only at e
  split at e
  case h_2 => cases e
  rename_i l ds kk q1
  obtain ⟨j, hj, e⟩ := Option.map_eq_some_iff.mp e
  subst e
  obtain ⟨a, z1, _⟩ := R.slot i _ q0
  refine ⟨_, z1, S, W, _, S1, R, e1, fun y H2 W2 R2 s2 x2 => ?_⟩
  obtain ⟨a', y1, y2, ⟨xs, y3, y4⟩, y5⟩ := R2.slot i _ q1
  rw [z1] at y1
  cases y1
  have := (DpB.int (W := W2) (.inl x2))
  subst this
  refine ⟨a, xs, kk, j, rfl, rfl, y3, by rw [dps_length y4]; exact hj, ?_⟩
  refine k σ _ W2 (R2.write q1 z1 ⟨xs.set j v, upd_same, dps_set j y4 (s2.vis.dp x)⟩) (s2.vis.trans ?_)
  rw [hid_upd_own y2]
  exact Same.refl _
theorem g_dput (hu : X.A.units + 200 < cLine) (ho : PE X ob (tVar i)) (hi : SE X c ix f)
    (ha : ∀ v, assign (.Subscript ob ix pos) X.env v = (do
      let ov ← holding [v] (eval ob X.env)
      let iv ← holding [v, ov] (eval ix X.env)
      standAt pos
      holding [v, ov, iv] (setItem ov iv v)
      release [v, ov, iv] []) := by intro _; rfl) : SG X c (.Subscript ob ix pos) (gDPut i f) := pg_imp (pg_sub ho hi (set_dictD hu) ha) fun v σ H Q ⟨S, W, d, S', R, x, e, k⟩ => by
  unfold gDPut at e
  split at e
  case h_2 => cases e
  rename_i l0 o0 q0
  obtain ⟨⟨d1, S1⟩, e1, e⟩ := Option.bind_eq_some_iff.mp e
  dsimp only at e
  split at e
  case h_2 => cases e
  rename_i l o q1
  obtain ⟨o', hj, e⟩ := Option.map_eq_some_iff.mp e
  subst e
  obtain ⟨a, z1, _⟩ := R.slot i _ q0
  refine ⟨_, z1, S, W, _, S1, R, e1, fun y H2 W2 R2 s2 x2 => ?_⟩
  obtain ⟨a', y1, y2, y3, y5⟩ := R2.slot i _ q1
  rw [z1] at y1
  cases y1
  refine ⟨a, W2, o, d1, d, o', rfl, y3, x2, s2.vis.dp x, hj, fun ho g => ?_⟩
  refine k σ _ W2 (R2.write q1 z1 ?_) (s2.vis.trans ?_)
  · exact g
  · rw [hid_upd_own y2]
    exact Same.refl _

/-! displays -/
def kPairs : List ((Sl → Option (D × Sl)) × (Sl → Option (D × Sl))) → Sl → Option (List (D × D) × Sl)
  | [], S => some ([], S)
  | (f, g) :: r, S => (f S).bind fun q => (g q.2).bind fun z => (kPairs r z.2).bind fun y => some ((q.1, z.1) :: y.1, y.2)
def RPs (P : Program) (w : World) (K : PySem.W.Frag) (c : Cc) (l : List ((Sl → Option (D × Sl)) × (Sl → Option (D × Sl)))) : List (TE × TE) := l.map fun p => (RE P w K c p.1, RE P w K c p.2)
theorem rps_run {P : Program} {w : World} {K : PySem.W.Frag} {σ : St} : ∀ {l : List ((Sl → Option (D × Sl)) × (Sl → Option (D × Sl)))} {S S' : Sl} {W : AP} {H : Hp} {ps : List (D × D)} {Q : List (V × V) → Hp → Prop}, Rep P w K c S W σ H → kPairs l S = some (ps, S') →
    (∀ vs H' W', Rep P w K c S' W' σ H' → Ks σ S W H S' W' H' → Paired (fun (v : V × V) (d : D × D) => Dp K (hid W' H') v.1 d.1 ∧ Dp K (hid W' H') v.2 d.2) vs ps → Q vs H') → tPairs (RPs P w K c l) σ H Q
  | [], S, S', W, H, ps, Q, R, e, k => by
    cases e
    exact k [] H W R Ks.rfl .nil
  | (f, g) :: r, S, S', W, H, ps, Q, R, e, k => by
    unfold kPairs at e
    obtain ⟨⟨d1, S1⟩, e1, e⟩ := Option.bind_eq_some_iff.mp e
    obtain ⟨⟨d2, S2⟩, e2, e⟩ := Option.bind_eq_some_iff.mp e
    obtain ⟨⟨ds, S3⟩, e3, e⟩ := Option.bind_eq_some_iff.mp e
    cases e
    exact ⟨S, W, d1, S1, R, e1, fun v H1 W1 R1 s1 x1 => ⟨S1, W1, d2, S2, R1, e2, fun u H2 W2 R2 s2 x2 => rps_run R2 e3 fun vs H3 W3 R3 s3 x3 => k _ H3 W3 R3 (s1.trans (s2.trans s3)) (.cons ⟨(s2.trans s3).vis.dp x1, s3.vis.dp x2⟩ x3)⟩⟩
def keysK : List (D × D) → Option (List (Key × D))
  | [] => some []
  | (d, v) :: r => (keyK d).bind fun k => (keysK r).map fun z => (k, v) :: z
def kDisp (l : List ((Sl → Option (D × Sl)) × (Sl → Option (D × Sl)))) : Sl → Option (Ob × Sl) := fun S => (kPairs l S).bind fun q => (keysK q.1).bind fun kvs => if kvs.length ≤ 15 then some (.dk (kvs.foldl (fun acc p => dput acc p.1 p.2) []), q.2) else none
theorem merge_k {K : PySem.W.Frag} {G : Hp} : ∀ {ks : List (Key × V)} {kvs : List (Key × D)} {acc : List (Key × V)} {acc' : List (Key × D)}, Paired (KP K G) ks kvs → Paired (KP K G) acc acc' → Paired (KP K G) (mergeK acc ks) (kvs.foldl (fun acc p => dput acc p.1 p.2) acc')
  | _, _, _, _, .nil, h => h
  | p :: ks, q :: kvs, acc, acc', .cons h t, g => by
    show Paired _ (mergeK (putK acc p.1 p.2) ks) (kvs.foldl _ (dput acc' q.1 q.2))
    refine merge_k t ?_
    rw [h.1]
    exact put_k g q.1 h.2
theorem keysK_rel {K : PySem.W.Frag} {G : Hp} : ∀ {vs : List (V × V)} {ps : List (D × D)} {kvs : List (Key × D)}, Paired (fun (v : V × V) (d : D × D) => Dp K G v.1 d.1 ∧ Dp K G v.2 d.2) vs ps → keysK ps = some kvs → ∃ ks : List (Key × V), vs = ks.map (fun kv => (L2.kV kv.1, kv.2)) ∧ Paired (KP K G) ks kvs
  | _, _, kvs, .nil, e => by cases e; exact ⟨[], rfl, .nil⟩
  | (v1, v2) :: vs, (d1, d2) :: ps, kvs, .cons h t, e => by
    unfold keysK at e
    obtain ⟨k, e1, e⟩ := Option.bind_eq_some_iff.mp e
    obtain ⟨z, e2, e⟩ := Option.map_eq_some_iff.mp e
    subst e
    obtain ⟨ks, h1, h2⟩ := keysK_rel t e2
    have hv : v1 = L2.kV k := by
      obtain ⟨g1, _⟩ := h
      dsimp only at g1
      cases d1 <;> cases e1 <;> cases g1 <;> rfl
    exact ⟨(k, v2) :: ks, by rw [List.map_cons, h1, hv], .cons ⟨rfl, h.2⟩ h2⟩
theorem f_disp {keys : List (Option Expr)} {values : List Expr} {l : List ((Sl → Option (D × Sl)) × (Sl → Option (D × Sl)))} (h : PPs X pos keys values (RPs X.prog X.w X.K c l)) (hall : keys.all (·.isSome) = true) (hl : keys.length = values.length) (h0 : keys ≠ [])
    (h15 : keys.length ≤ 15) : SF X c (.Dict keys values pos) (kDisp l) := pe_imp (pe_disp h hall hl h0 h15) fun σ H Q ⟨S, W, o, S', R, e, k⟩ => by
  unfold kDisp at e
  obtain ⟨⟨ps, S1⟩, e1, e⟩ := Option.bind_eq_some_iff.mp e
  obtain ⟨kvs, e2, e⟩ := Option.bind_eq_some_iff.mp e
  split at e
  case isFalse => cases e
  rename_i hl
  cases e
  intro p hp
  have hf := R.newFree hp
  refine rps_run (R.laidW hp) e1 fun vs H2 W2 R2 s2 x2 => ?_
  obtain ⟨hown, hW2⟩ := s2.own p _ (.inr rfl) upd_same fun j l o q => hf j l o q
  obtain ⟨ks, h1, h2⟩ := keysK_rel x2 e2
  refine ⟨hown, ks, h1, by rw [Paired.length h2]; exact hl, ?_⟩
  have hfree2 : ∀ (j : Nat) (l : Bool) (o : Ob), S1[j]? = some (.ow l o) → σ[j]? ≠ some (some (.ref p)) := fun j l o q => by
    obtain ⟨l', o', q'⟩ := s2.sl j l o q
    exact hf j l' o' q'
  have hc0 := R.new0 hp
  have s3 := ((Ks.laidW (σ := σ) (S := S) (o := .dK []) hp).trans s2)
  exact k p (upd H2 p (.dK (mergeK [] ks))) W2 (R2.updFree hW2 hfree2 hc0) (s3.updNew hp hW2) hp hW2 hfree2 ⟨_, upd_same, by rw [hid_upd_own hW2]; exact merge_k h2 .nil⟩ hc0
theorem pps_nilD : PPs X pos [] [] (RPs X.prog X.w X.K c []) := pps_nil
theorem pps_consD {k v : Expr} {ks : List (Option Expr)} {vs : List Expr} {l : List ((Sl → Option (D × Sl)) × (Sl → Option (D × Sl)))} (hk : SE X c k f1) (hv : SE X c v f2) (hr : PPs X pos ks vs (RPs X.prog X.w X.K c l)) : PPs X pos (some k :: ks) (v :: vs) (RPs X.prog X.w X.K c ((f1, f2) :: l)) := pps_cons hk hv hr
/-- {} for tuple keys -/
def kDn : Sl → Option (Ob × Sl) := fun S => some (.dn [], S)
theorem rawD_new {P : Program} {w : World} {H : Hp} (h : Heap) (hb : sysModules < h.objs.size) : ObjOk P w H (h.push { cls := .type "dict", data := .dict #[] }) h.objs.size (rawD P w h.objs.size []) :=
  rawD_ok (beq_eq_false_iff_ne.mpr (Ne.symm (Nat.ne_of_lt hb))) (Nat.zero_le _) List.nodup_nil (fun _ h => nomatch h) ⟨_, #[], 0, Heap.get?_push_size _ rfl, ⟨rfl, rfl, rfl⟩, rfl, rfl⟩
theorem f_dn : SF X c (.Dict [] [] pos) kDn := ⟨fun pins s σ H Q I ⟨S, W, o, S', R, e, k⟩ => by
  cases e
  have hp := I.hok.fresh (Nat.le_refl s.heap.objs.size)
  refine wpAny_Dict_empty ⟨.ref s.heap.objs.size, _, I.laid (a := s.heap.objs.size) (o := rawD X.prog X.w s.heap.objs.size []) (t' := s.toks) (fun _ _ q => Heap.get?_push_of_some _ q) (Nat.le_refl _) (rawD_new s.heap I.big), rfl, ?_⟩
  exact k _ _ _ (R.laidW hp) (Ks.laidW hp) hp (.inr rfl) (R.newFree hp) ⟨[], upd_same, .nil⟩ (R.new0 hp)⟩
/-- {k: v} with a tuple key -/
def kDisp1 (f1 f2 : Sl → Option (D × Sl)) : Sl → Option (Ob × Sl) := fun S => (f1 S).bind fun q => (f2 q.2).bind fun z => (obPut (.dn []) q.1 z.1).bind fun o => some (o, z.2)
theorem f_disp1 {ke ve : Expr} (hu : X.A.units + 200 < cLine) (hk : SE X c ke f1) (hv : SE X c ve f2) : SF X c (.Dict [some ke] [ve] pos) (kDisp1 f1 f2) := ⟨fun pins s σ H Q I ⟨S, W, o, S', R, e, k⟩ => by
  unfold kDisp1 at e
  obtain ⟨⟨d1, S1⟩, e1, e⟩ := Option.bind_eq_some_iff.mp e
  obtain ⟨⟨d2, S2⟩, e2, e⟩ := Option.bind_eq_some_iff.mp e
  obtain ⟨o', e3, e⟩ := Option.bind_eq_some_iff.mp e
  cases e
  have hp := I.hok.fresh (Nat.le_refl s.heap.objs.size)
  have I1 := I.laid (a := s.heap.objs.size) (o := rawD X.prog X.w s.heap.objs.size []) (h' := s.heap.push { cls := .type "dict", data := .dict #[] }) (t' := s.toks) (fun _ _ q => Heap.get?_push_of_some _ q) (Nat.le_refl _) (rawD_new s.heap I.big)
  have hf := R.newFree hp
  have hc0 := R.new0 hp
  rw [arm_eval_Dict, zip_pairTrees [some ke] [ve] X.env pos rfl rfl, dictDisplay_pairs (pairTrees [some ke] [ve] X.env pos) (by simp [pairTrees]) (by simp [pairTrees])]
  refine wpAny_bind (wpAny_standAt (wpAny_bind (wpAny_subDictH (knd := nestedKind X.prog X.w) (Q := fun d s' => wpAny (model X.prog X.w) X.A (pure (Value.ref d)) (EP X pins σ Q) X.xe s') (show X.A.units + 8 < cLine by omega) (by simp [pairTrees]) ?_)))
  refine pairTrees_cons_walk (thn (hk.run pins _ σ _ (fun v H2 => ∃ W2, Rep X.prog X.w X.K c S1 W2 σ H2 ∧ Ks σ S _ _ S1 W2 H2 ∧ Dp X.K (hid W2 H2) v d1) I1 ⟨S, _, d1, S1, R.laidW hp, e1, fun v H2 W2 R2 s2 x2 => ⟨W2, R2, s2, x2⟩⟩) fun u s1 ⟨x, H1, J1, rx, W1, R1, k1, x1⟩ =>
    thn (hv.run pins s1 σ H1 (fun v H2 => ∃ W2, Rep X.prog X.w X.K c S2 W2 σ H2 ∧ Ks σ S1 W1 H1 S2 W2 H2 ∧ Dp X.K (hid W2 H2) v d2) J1 ⟨S1, W1, d2, S2, R1, e2, fun v H2 W2 R2 s2 x2 => ⟨W2, R2, s2, x2⟩⟩) fun u2 s2 ⟨y, H2, J2, ry, W2, R2, k2, x2⟩ => pairTrees_nil_walk ?_)
  have k12 := k1.trans k2
  obtain ⟨hown, hW2⟩ := k12.own s.heap.objs.size _ (.inr rfl) upd_same fun j l o q => hf j l o q
  cases d1 with
  | tuple ds =>
    obtain ⟨kk, hkk, q⟩ := Option.bind_eq_some_iff.mp (show (nkOf (.tuple ds)).bind _ = _ from e3)
    split at q
    case isFalse => cases q
    rename_i hl
    cases q
    have hdat := nk_data _ _ hkk
    have x1' := k2.vis.dp x1
    have hn := nested_is J2 kk x u rx (by rw [hdat]; exact hid_sub.dp x1')
    obtain ⟨z1, z2, z3, z4⟩ := rawD_at J2 (.inl hown) fun z hz => nomatch hz
    cases x1' with
    | @tup b _ _ hs ha =>
      cases rx
      refine ⟨[(kk, b, u2)], ⟨rfl, rfl, ⟨hn, hl.1⟩, trivial⟩, z3, fun h' tk dd hs' => wpAny_pure ?_⟩
      obtain ⟨qo, es, ep, hq, g2, g3, g4, _, g5⟩ := dd
      have est : storedAllH ([] : List (NestedKey × Addr × Value)) [(kk, b, u2)] = [(kk, b, u2)] := rfl
      rw [est] at g4 g5
      have J3 : L2.Inv X pins σ (upd H2 s.heap.objs.size (rawD X.prog X.w s.heap.objs.size [(kk, b, u2)])) { s2 with heap := h', toks := tk } :=
        d_write J2 (by rw [hown]; exact True.intro) hs' ⟨qo, hq⟩ (rawD_ok z1 (show 1 ≤ sizeLine by decide) g5 (fun z hz => by rw [List.mem_singleton.mp hz]; exact hl.1) ⟨qo, es, ep, hq, g2, g3, g4⟩)
      have hfree2 : ∀ (j : Nat) (l : Bool) (o : Ob), S2[j]? = some (.ow l o) → σ[j]? ≠ some (some (.ref s.heap.objs.size)) := fun j l o q => by
        obtain ⟨l', o', q'⟩ := k12.sl j l o q
        exact hf j l' o' q'
      refine ⟨.ref _, _, J3, rfl, k _ _ W2 (R2.updFree hW2 hfree2 hc0) (((Ks.laidW hp).trans k12).updNew hp hW2) hp hW2 hfree2 ⟨_, upd_same, ?_⟩ hc0⟩
      rw [hid_upd_own hW2]
      exact .cons ⟨rfl, by rw [hdat]; exact .tup hs ha, y, ry, x2⟩ .nil
  | _ => cases e3⟩
end
end VD
/-! VD15: walks over dicts, list(d), names moved, op=, starred items, sorted(set(..)), reversed(range(..)). -/
namespace VD
open PySem PySem.Spec PyProof.Rows L2

/-! ### list(d) -/
section
variable {X : Cx}
theorem refs_dp {K : PySem.W.Frag} {G : Hp} : ∀ {xs : List (NestedKey × Addr × Value)} {kvs : List (NestedKey × D)}, Paired (NP K G) xs kvs → DpAll K G ((xs.map fun x => x.2.1).map V.ref) (kvs.map fun p => p.1.data)
  | _, _, .nil => .nil
  | _, _, .cons h t => .cons (by have := h.2.1; rw [h.1] at this; exact this) (refs_dp t)
def rListD (X : Cx) : List V → Hp → VK → Prop := fun xs H Q => ∃ a W kvs, xs = [.ref a] ∧ DA X.prog X.w X.K (hid W H) H a (.dn kvs) ∧ kvs.length ≤ 1000000 ∧ ∀ p ys, H p = none → DpAll X.K (hid W H) ys (kvs.map fun p => p.1.data) → Q (.ref p) (upd H p (.lst ys))
theorem cr_listD (hc : X.calm = true) : CallR X (.type "list") (rListD X) := by
  intro pins s σ H xs us Q I r ⟨a, W, kvs, ex, g, hl, q⟩
  subst ex
  obtain ⟨ks, hd, pr⟩ := g
  obtain ⟨u, rfl, rx⟩ := r.one
  cases rx
  obtain ⟨⟨hs, z, hn, _, o, es, ep, ho, hx, hdt, he⟩, _, _⟩ := (show ObjOk X.prog X.w H s.heap a (rawD X.prog X.w a ks) from hd.ok I.hok)
  have l1 : es.size = ks.length := size_of_entries he
  have l2 : ks.length = kvs.length := Paired.length pr
  have hll := line_of hl
  refine PySem.W.kdl_call (kdl_raw hs hx hdt) (I.ok.hd hc) ho (by omega) fun h' tk acc' c' kp e it => ?_
  have ea : acc'.toList = ks.map fun x => Value.ref x.2.1 := by
    have hl : acc'.toList.length = ks.length := by rw [Array.length_toList, it.1]; exact l1
    apply List.ext_getElem?
    intro j
    rw [List.getElem?_map]
    cases hj : acc'.toList[j]? with
    | none =>
      have h1 := List.getElem?_eq_none_iff.mp hj
      rw [List.getElem?_eq_none (by omega)]
      all_goals rfl
    | some v =>
      obtain ⟨en, hen, hv⟩ := it.2 j v (by rw [← Array.getElem?_toList]; exact hj)
      have qe := entry_at he j
      rw [hen] at qe
      cases hb : ks[j]? with
      | none =>
        rw [hb] at qe
        exact nomatch (show some en = none from qe)
      | some b =>
        rw [hb] at qe
        have e2 : en = entryOfKey (nestedKind X.prog X.w) b := Option.some.inj qe
        rw [hv, e2]
        all_goals rfl
  have eb : acc'.toList = (ks.map fun x => x.2.1).map Value.ref := by rw [ea, List.map_map]; all_goals rfl
  have rv : Vals ((ks.map fun x => x.2.1).map V.ref) acc'.toList := by rw [eb]; exact vals_refs _
  have hz : ((ks.map fun x => x.2.1).map V.ref).length ≤ sizeLine := by rw [List.length_map, List.length_map]; omega
  refine ⟨.ref s.heap.objs.size, _, I.laid (t' := tk) (o := .lst ((ks.map fun x => x.2.1).map V.ref)) kp (Nat.le_refl _) ?_, rfl, q _ _ (I.hok.fresh (Nat.le_refl _)) (refs_dp pr)⟩
  exact ⟨hz, acc'.toList, c', rv, by rw [Array.toArray_toList]; exact e⟩
variable {c : Cc} {e : Expr} {p pos : Pos} {i : Nat}
def kListD (i : Nat) : Sl → Option (Ob × Sl) := fun S => match vd S i with
  | some (.dn kvs) => if kvs.length ≤ 1000000 then some (.lst (kvs.map fun p => p.1.data), S) else none
  | _ => none
theorem f_listD (hc : X.calm = true) (hg : Gl X "list") (hm : X.mg "list" = none) (ho : PE X e (tVar i)) (he : starEach [e] X.env = (false, eval e X.env) :: starEach [] X.env := by rfl) : SF X c (.Call (.Name "list" p) [e] [] pos) (kListD i) := pe_imp (pe_callTy (cr_listD hc) hg hm (by decide +kernel) (pa_cons ho pa_nil he) (he := he)) fun σ H Q ⟨S, W, o, S', R, e, k⟩ => by
  unfold kListD at e
  split at e
  · rename_i kvs q
    split at e
    case isFalse => cases e
    rename_i hl
    cases e
    obtain ⟨a, ha, g⟩ := vd_get R q
    refine ⟨_, ha, a, W, kvs, rfl, g, hl, fun p ys hp hd => ?_⟩
    obtain ⟨q1, q2, q3, q4, q5, q6⟩ := rf_new R hp hd
    exact k p _ _ q1 q2 hp q3 q4 q5 q6
  · cases e
end

/-! ### for k in d -/
/-- the keys' own tuples of a dict that is not written again -/
def ItN (P : Program) (w : World) (d : Addr) (o : Obj) (xs : List (NestedKey × Addr × Value)) : It :=
  ⟨fun i H => H d = some (.frz o (rawD P w d xs)) ∧ i < xs.length, fun i H x H' => H' = H ∧ ∃ e, xs[i]? = some e ∧ x = .ref e.2.1, fun i H => H d = some (.frz o (rawD P w d xs)) ∧ xs.length ≤ i⟩
theorem frzN {X : Cx} {pins : List (Addr × Obj)} {σ : St} {H : Hp} {s : Shared} {d : Addr} {o : Obj} {xs : List (NestedKey × Addr × Value)} (I : L2.Inv X pins σ H s) (h : H d = some (.frz o (rawD X.prog X.w d xs))) :
    (d == sysModules) = false ∧ s.heap.get? d = some o ∧ o.ExactDict ∧ ∃ es ep, o.data = .dict es ep ∧ es.toList = xs.map (entryOfKey (nestedKind X.prog X.w)) := by
  obtain ⟨e, ⟨h1, h2, h3, h4, o', es, ep, h5, h6, h7, h8⟩, _⟩ := I.hok d _ h
  rw [e] at h5
  cases h5
  exact ⟨h1, e, h6, es, ep, h7, h8⟩
theorem turn_raw {P : Program} {w : World} {K : PySem.W.Frag} {tg : Expr} {d : Addr} {o : Obj} {es : Array DictEntry} {ep : Nat} {xs : List (NestedKey × Addr × Value)} (it : Addr) (hod : o.data = .dict es ep) (he : es.toList = xs.map (entryOfKey (nestedKind P w))) :
    Turn P w K tg (ItN P w d o xs) [it] it (fun i h => h.IsKeyIter it d i xs.length ep) where
  mem := by simp
  obj := fun i h st b hb => by
    have e : b = it := by simpa using hb
    subst e
    obtain ⟨oi, e, c, dd⟩ := st
    exact ⟨oi, e, fun v z => by rw [dd] at z; cases z⟩
  keep := fun i h h' st k => st.at fun oi e => k it (by simp) oi e
  item := by
    intro X hP hw hK hc i pins s σ H E I hf st hg
    subst hP hw hK
    obtain ⟨hd, hi⟩ := hg
    obtain ⟨f0, f1, f2, f3, f4, f5⟩ := hf it (by simp)
    obtain ⟨hs, hgd, hx, es', ep', hdt, he'⟩ := frzN I hd
    obtain ⟨rfl, rfl⟩ := dict_ep hod hdt
    have hsz : es'.size = xs.length := size_of_entries he
    obtain ⟨x, hkv⟩ : ∃ p, xs[i]? = some p := ⟨xs[i], List.getElem?_eq_getElem hi⟩
    have hen : es'[i]? = some (entryOfKey (nestedKind X.prog X.w) x) := by rw [entry_at he i, hkv]; rfl
    refine next_key_item st hgd hdt hsz hen fun h' st' sb => ?_
    have I1 : L2.Inv X pins σ H { s with heap := h' } := I.turned (t' := s.toks) (fun b ob hb e => (sb.2 b hb).trans e) f0 f1 f3 f4 f5
    obtain ⟨oi, e, c, dd⟩ := id st'
    exact ⟨_, rfl, go_of (s := { s with heap := h' }) e c dd (by decide) ⟨.ref x.2.1, H, I1, rfl, ⟨rfl, x, hkv, rfl⟩, st', fun b hb => (hf b hb).1⟩⟩
  done := by
    intro X hP hw hK hc i pins s σ H E I hf st hg
    subst hP hw hK
    obtain ⟨hd, hi⟩ := hg
    obtain ⟨f0, f1, f2, f3, f4, f5⟩ := hf it (by simp)
    obtain ⟨hs, hgd, hx, es', ep', hdt, he'⟩ := frzN I hd
    obtain ⟨rfl, rfl⟩ := dict_ep hod hdt
    have hsz : es'.size = xs.length := size_of_entries he
    exact next_key_end (I.ok.hd hc) st hgd hdt hsz hi fun h' eb => ⟨rfl, I.turned (t' := s.toks) (fun b ob hb e => eb b ob hb e) f0 f1 f3 f4 f5⟩
  self := fun A i s Q E st h => by
    refine wpAny_pyIter_slot st.typeIs F.slot_dict_keyiterator_iter (wpAny_call_entry F.slot_dict_keyiterator_iter st.typeIs F.entry_dict_keyiterator_iter ?_ (F.args_dict_keyiterator_iter_1 _))
    show wpAny _ _ (ret (.ref it)) _ _ s
    exact wpAny_pure ⟨_, rfl, "dict_keyiterator", _, st.typeIs, F.slot_dict_keyiterator_next.lookup, h⟩
def iKeysN (P : Program) (w : World) (td : TE) : TI := fun σ H R => td σ H fun x H1 => ∃ d o xs, x = .ref d ∧ H1 d = some (.frz o (rawD P w d xs)) ∧ R (ItN P w d o xs) H1
section
variable {X : Cx} {c : Cc} {tg e : Expr} {td : TE} {i : Nat}
theorem pi_keysN (he : PE X e td) : PI X tg e (iKeysN X.prog X.w td) := by
  refine ⟨fun pins s σ H R I h => thn (he.run pins s σ H _ I h) fun u s1 ⟨x, H1, I1, rx, d, o, xs, ex, hd, q⟩ => ?_⟩
  subst ex
  obtain rfl : u = Value.ref d := rx
  obtain ⟨hs, hgd, hx, es, ep, hdt, hent⟩ := frzN I1 hd
  refine iter_keys hs hgd hx hdt (pi_one (tk := s1.toks) I1 _ (turn_raw _ hdt hent) ⟨_, Heap.get?_push_size _ rfl, rfl, ?_⟩ q)
  rw [size_of_entries hent] <;> rfl
/-- the thing at d is not written again -/
theorem pi_frz {t : TI} (h : PI X tg e t) : PI X tg e (fun σ H R => ∃ d u, H d = some u ∧ Mut (some u) ∧ ∀ od, t σ (upd H d (.frz od u)) R) := ⟨fun pins s σ H R I ⟨d, u, hd, mu, hw⟩ => by
  obtain ⟨od, I1⟩ := I.lock hd mu
  exact h.run pins s σ _ R I1 (hw od)⟩
/-- an owned dict is not written again -/
theorem Rep.freezeD {P : Program} {w : World} {K : PySem.W.Frag} {S : Sl} {W : AP} {σ : St} {H : Hp} {a : Addr} {kvs : List (NestedKey × D)} {xs : List (NestedKey × Addr × Value)} {od : Obj} (R : Rep P w K c S W σ H) (e : S[i]? = some (.ow false (.dn kvs))) (hs : σ[i]? = some (some (.ref a)))
    (hx : H a = some (rawD P w a xs)) (hp : Paired (NP K (hid W H)) xs kvs) :
    Rep P w K c (S.set i (.fd (.dn kvs))) (delW W a) σ (upd H a (.frz od (rawD P w a xs))) ∧ Ks σ S W H (S.set i (.fd (.dn kvs))) (delW W a) (upd H a (.frz od (rawD P w a xs))) := by
  obtain ⟨b, e1, e2, e3, e4⟩ := R.slot i _ e
  rw [hs] at e1
  cases e1
  rw [if_neg (by decide)] at e4
  have hsm : Same (hid W H) (hid (delW W a) (upd H a (.frz od (rawD P w a xs)))) := fun b u q => by
    obtain ⟨q1, q2⟩ := hid_some.mp q
    have hne : b ≠ a := fun z => q1 (z ▸ e2)
    exact hid_some.mpr ⟨fun z => q1 z.1, by rw [upd_ne hne]; exact q2⟩
  have get : ∀ {j : Nat} {l : Bool} {u : Ob}, (S.set i (.fd (.dn kvs)))[j]? = some (.ow l u) → S[j]? = some (.ow l u) ∧ j ≠ i := fun {j l u} q => by
    by_cases hj : j = i
    · subst hj
      rw [List.getElem?_set_self (by rw [R.len]; exact R.lt e)] at q
      cases q
    · rw [List.getElem?_set_ne (Ne.symm hj)] at q
      exact ⟨q, hj⟩
  refine ⟨⟨by simpa using R.len, fun j s q => ?_, fun j k b l u l' u' hne q1 q2 q3 q4 => R.dist j k b _ _ _ _ hne (get q1).1 (get q2).1 q3 q4, fun b q => ⟨R.z0 b q, fun y => ?_⟩, R.zh, R.lz, fun b q => ?_, fun b u q n => ?_⟩, hsm, fun j l u q => ⟨l, u, (get q).1⟩, fun b u q1 q2 q3 => ?_, fun b u q => ?_⟩
  · by_cases hj : j = i
    · subst hj
      rw [List.getElem?_set_self (by rw [R.len]; exact R.lt e)] at q
      cases q
      exact ⟨a, hs, od, xs, hid_some.mpr ⟨fun z => z.2 rfl, upd_same⟩, Paired.mapP hp fun _ _ z => ⟨z.1, hsm.dp z.2.1, z.2.2.elim fun v q => ⟨v, q.1, hsm.dp q.2⟩⟩⟩
    · rw [List.getElem?_set_ne (Ne.symm hj)] at q
      have z := R.slot j s q
      cases s with
      | un => trivial
      | fz d =>
        obtain ⟨x, z1, z2⟩ := z
        exact ⟨x, z1, hsm.dp z2⟩
      | fd o =>
        obtain ⟨x, z1, z2⟩ := z
        exact ⟨x, z1, z2.move hsm⟩
      | ow l' u =>
        obtain ⟨b, z1, z2, z3, z4⟩ := z
        have hne : b ≠ a := fun y => by
          subst y
          exact R.dist j i b _ _ _ _ hj q e z1 hs
        exact ⟨b, z1, ⟨z2, hne⟩, z3.move hsm fun u' hu' => by rw [upd_ne hne]; exact hu', z4⟩
  · subst y
    obtain ⟨u, z⟩ := R.zh b q
    rw [z] at e4
    cases e4
  · obtain ⟨u, hu⟩ := R.al b q.1
    exact ⟨u, by rw [upd_ne q.2]; exact hu⟩
  · have hne : b ≠ a := fun y => by
      subst y
      rw [q] at e4
      cases e4
    rw [upd_ne hne]
    exact R.ent b u q n
  · have hne : b ≠ a := fun y => by
      subst y
      exact q3 i _ _ e hs
    exact ⟨by rw [upd_ne hne]; exact q2, q1, hne⟩
  · by_cases hb : b = a
    · subst hb
      exact ⟨_, upd_same⟩
    · exact ⟨u, by rw [upd_ne hb]; exact q⟩
theorem wk_dict {P : Program} {w : World} {K : PySem.W.Frag} {W : AP} {H : Hp} {d : Addr} {o : Obj} {xs : List (NestedKey × Addr × Value)} {kvs : List (NestedKey × D)} (hd : hid W H d = some (.frz o (rawD P w d xs))) (hp : Paired (NP K (hid W H)) xs kvs) : WkD K (ItN P w d o xs) W H (kvs.map fun p => p.1.data) where
  go := fun i W2 H2 s hi => ⟨hid_sub d _ (s d _ hd), by rw [Paired.length hp]; simpa using hi⟩
  stop := fun W2 H2 s => ⟨hid_sub d _ (s d _ hd), by rw [Paired.length hp, List.length_map]; exact Nat.le_refl _⟩
  yld := fun i W2 H2 x H3 ha s hi ⟨eH, e, he, ex⟩ => by
    subst eH
    subst ex
    have hi' : i < kvs.length := by simpa using hi
    obtain ⟨y, hy, n1, n2, _⟩ := paired_get' hp (List.getElem?_eq_getElem hi')
    rw [he] at hy
    cases hy
    refine ⟨.inl rfl, kvs[i].1.data, by rw [List.getElem?_map, List.getElem?_eq_getElem hi']; rfl, ?_⟩
    have := s.dp n2
    rw [n1] at this
    exact this
def kID (i : Nat) : Sl → Option (List D × Sl) := fun S => match S[i]? with
  | some (.ow false (.dn kvs)) => some (kvs.map fun p => p.1.data, S.set i (.fd (.dn kvs)))
  | _ => none
theorem i_dict (ho : PE X e (tVar i)) : SI X c tg e (kID i) := pi_imp (pi_frz (pi_keysN ho)) fun σ H Rr ⟨S, W, ds, S', R, e, k⟩ => by
  unfold kID at e
  split at e
  · rename_i kvs q
    cases e
    obtain ⟨a, z1, z2, ⟨xs, z3, z4⟩, z5⟩ := R.slot i _ q
    refine ⟨a, _, z3, trivial, fun od => ⟨_, z1, a, od, xs, rfl, upd_same, ?_⟩⟩
    obtain ⟨R', s'⟩ := R.freezeD (od := od) q z1 z3 z4
    refine k _ _ _ R' s' (wk_dict (hid_some.mpr ⟨fun z => z.2 rfl, upd_same⟩) (Paired.mapP z4 fun _ _ z => ⟨z.1, s'.vis.dp z.2.1, z.2.2.elim fun v q => ⟨v, q.1, s'.vis.dp q.2⟩⟩))
  · cases e
end
end VD
/-! VD16: names moved, op=, starred items, sorted(set(..)), reversed(range(..)), more calls. -/
namespace VD
open PySem PySem.Spec PyProof.Rows L2

section
variable {X : Cx} {c : Cc} {e a b : Expr} {es : List Expr} {f f1 f2 : Sl → Option (D × Sl)} {p pos : Pos} {i j : Nat} {x : Str}
/-! ### x = y, y an object of its own that has no other use -/
def kMove (i j : Nat) : Sl → Option Out := fun S => match S[j]? with
  | some (.ow false o) => some (.nx ((S.set j .un).set i (.ow false o)))
  | _ => none
theorem p_move {pos' : Pos} (hN : X.N.Nodup) (hi : X.N[i]? = some x) (hx : Loc X.env.scope x) (he : PE X e (tVar j)) (hs : swapsWith e (some (.Name x pos')) pos.line X.env = pure false := by rfl) (hf : X.fn x = true ∨ X.env.scope.names.lookup x = some .local := by first | exact .inl rfl | exact .inr rfl | assumption) :
    SS1 X c (.Assign [.Name x pos'] e pos) (kMove i j) := ps_imp (ps_set hN hi hx he hs hf) fun D σ H ⟨S, W, r, R, e, k⟩ => by
  unfold kMove at e
  split at e
  · rename_i o q
    cases e
    obtain ⟨a, z1, z2, z3, z4⟩ := R.slot j _ q
    rw [if_neg (by decide)] at z4
    refine ⟨_, z1, k _ H W ?_ (Same.refl _)⟩
    refine (R.forget [j]).setow z2 (fun m l u h1 h2 => ?_) z3 z4
    have h1' : (S.set j .un)[m]? = some (.ow l u) := h1
    by_cases hm : m = j
    · subst hm
      rw [List.getElem?_set_self (by rw [R.len]; exact R.lt q)] at h1'
      cases h1'
    · rw [List.getElem?_set_ne (Ne.symm hm)] at h1'
      exact R.dist m j a _ _ _ _ hm h1' q h2 z1
  · cases e
/-! ### x op= e -/
def kAug (g : D → D → Option D) (i : Nat) (f : Sl → Option (D × Sl)) : Sl → Option Out := fun S => match S[i]? with
  | some (.fz x) => (f S).bind fun q => (g x q.1).bind fun z => some (.nx (q.2.set i (.fz z)))
  | _ => none
def rIpD (K : PySem.W.Frag) (g : D → D → Option D) : TIp := fun x y H Q => ∃ G d d' r, Dp K G x d ∧ Dp K G y d' ∧ g d d' = some r ∧ ∀ v, (∀ G', Dp K G' v r) → Q v H
theorem p_aug {op : Operator} {g : D → D → Option D} {pos' : Pos} (hN : X.N.Nodup) (hi : X.N[i]? = some x) (hx : Loc X.env.scope x) (he : SE X c e f) (ho : PIp X op (rIpD X.K g)) (hf : X.fn x = true ∨ X.env.scope.names.lookup x = some .local := by first | exact .inl rfl | exact .inr rfl | assumption) :
    SS1 X c (.AugAssign (.Name x pos') op e pos) (kAug g i f) := ps_imp (ps_aug hN hi hx he ho hf) fun D σ H ⟨S, W, r, R, e, k⟩ => by
  unfold kAug at e
  split at e
  · rename_i d0 q
    obtain ⟨⟨d1, S1⟩, e1, e⟩ := Option.bind_eq_some_iff.mp e
    obtain ⟨d2, e2, e⟩ := Option.bind_eq_some_iff.mp e
    cases e
    obtain ⟨v, z1, z2⟩ := R.slot i _ q
    exact ⟨v, z1, S, W, d1, S1, R, e1, fun u H1 W1 R1 s1 x1 => ⟨_, d0, d1, d2, s1.vis.dp z2, x1, e2, fun v' hv' => k _ H1 W1 (R1.setfz (hv' _)) s1.vis⟩⟩
  · cases e
def gAddI : D → D → Option D
  | .int i, .int j => some (.int (i + j))
  | _, _ => none
def gSubI : D → D → Option D
  | .int i, .int j => some (.int (i - j))
  | _, _ => none
theorem pip_add : PIp X .Add (rIpD X.K gAddI) := by
  intro pins s σ H x y v u Q I rx ry ⟨G, d, d', r, h1, h2, h3, k⟩
  unfold gAddI at h3
  split at h3
  · cases h3
    cases h1
    cases h2
    exact ip_add pins s σ H _ _ v u Q I rx ry ⟨_, _, rfl, rfl, k _ fun _ => .int _⟩
  · cases h3
theorem pip_sub : PIp X .Sub (rIpD X.K gSubI) := by
  intro pins s σ H x y v u Q I rx ry ⟨G, d, d', r, h1, h2, h3, k⟩
  unfold gSubI at h3
  split at h3
  · cases h3
    cases h1
    cases h2
    exact ip_sub pins s σ H _ _ v u Q I rx ry ⟨_, _, rfl, rfl, k _ fun _ => .int _⟩
  · cases h3
/-! ### (a, *b) -/
def kStar (f : Sl → Option (D × Sl)) (g : Sl → Option (List D × Sl)) : Sl → Option (List D × Sl) := fun S => (f S).bind fun r => (itemsT r.1).bind fun xs => (g r.2).bind fun q => some (xs ++ q.1, q.2)
where itemsT : D → Option (List D)
  | .tuple ds => some ds
  | .list ds => some ds
  | _ => none
theorem l_star {g : Sl → Option (List D × Sl)} (h : SE X c e f) (hr : SL X c es g) (hs : starEach (.Starred e p :: es) X.env = (true, eval e X.env) :: starEach es X.env := by rfl) : SL X c (.Starred e p :: es) (kStar f g) := pa_imp (StX.pa_star h hr hs) fun σ H Q ⟨S, W, d, S', R, e, k⟩ => by
  unfold kStar at e
  obtain ⟨⟨d1, S1⟩, e1, e⟩ := Option.bind_eq_some_iff.mp e
  obtain ⟨xs, e2, e⟩ := Option.bind_eq_some_iff.mp e
  obtain ⟨⟨d2, S2⟩, e3, e⟩ := Option.bind_eq_some_iff.mp e
  cases e
  refine ⟨S, W, d1, S1, R, e1, fun v H1 W1 R1 s1 x1 => ?_⟩
  cases d1 with
  | tuple ds =>
    cases e2
    obtain ⟨a, vs, rfl, hs, hd⟩ := (DpB.tuple (W := W1) (.inl x1))
    exact ⟨a, vs, rfl, .inl hs, S1, W1, d2, _, R1, e3, fun ws H2 W2 R2 s2 x2 => k _ H2 W2 R2 (s1.trans s2) (dps_append (s2.vis.dps hd) x2)⟩
  | list ds =>
    cases e2
    obtain ⟨a, vs, rfl, hs, hd⟩ := (DpB.list (W := W1) (.inl x1))
    exact ⟨a, vs, rfl, .inr hs, S1, W1, d2, _, R1, e3, fun ws H2 W2 R2 s2 x2 => k _ H2 W2 R2 (s1.trans s2) (dps_append (s2.vis.dps hd) x2)⟩
  | _ => cases e2
/-! ### sorted(set(t)) of a tuple of ints -/
def insU (x : Int) : List Int → List Int
  | [] => [x]
  | y :: l => if x < y then x :: y :: l else if x = y then y :: l else y :: insU x l
def sortU (ns : List Int) : List Int := ns.foldr insU []
theorem insU_mem (x k : Int) : ∀ l : List Int, k ∈ insU x l ↔ k = x ∨ k ∈ l
  | [] => by simp [insU]
  | y :: l => by
    unfold insU
    split
    · simp
    · split
      · rename_i h; subst h; simp
      · rw [List.mem_cons, insU_mem x k l, List.mem_cons]
        constructor
        · rintro (h | h | h)
          · exact .inr (.inl h)
          · exact .inl h
          · exact .inr (.inr h)
        · rintro (h | h | h)
          · exact .inr (.inl h)
          · exact .inl h
          · exact .inr (.inr h)
theorem insU_sorted (x : Int) : ∀ l : List Int, l.Pairwise (· < ·) → (insU x l).Pairwise (· < ·)
  | [], _ => by simp [insU]
  | y :: l, h => by
    obtain ⟨h1, h2⟩ := List.pairwise_cons.mp h
    unfold insU
    split
    · rename_i hx
      refine List.pairwise_cons.mpr ⟨fun z hz => ?_, h⟩
      rcases List.mem_cons.mp hz with rfl | hz
      · exact hx
      · exact Int.lt_trans hx (h1 z hz)
    · split
      · exact h
      · rename_i n1 n2
        refine List.pairwise_cons.mpr ⟨fun z hz => ?_, insU_sorted x l h2⟩
        rcases (insU_mem x z l).mp hz with rfl | hz
        · omega
        · exact h1 z hz
theorem sortU_mem (k : Int) : ∀ ns : List Int, k ∈ sortU ns ↔ k ∈ ns
  | [] => by simp [sortU]
  | n :: ns => by
    show k ∈ insU n (sortU ns) ↔ _
    rw [insU_mem, sortU_mem k ns, List.mem_cons]
theorem sortU_sorted : ∀ ns : List Int, (sortU ns).Pairwise (· < ·)
  | [] => .nil
  | n :: ns => insU_sorted n _ (sortU_sorted ns)
theorem lt_unique : ∀ {l m : List Int}, l.Pairwise (· < ·) → m.Pairwise (· < ·) → (∀ k, k ∈ l ↔ k ∈ m) → l = m
  | [], [], _, _, _ => rfl
  | [], y :: m, _, _, h => absurd ((h y).mpr List.mem_cons_self) (by simp)
  | x :: l, [], _, _, h => absurd ((h x).mp List.mem_cons_self) (by simp)
  | x :: l, y :: m, h1, h2, h => by
    obtain ⟨a1, a2⟩ := List.pairwise_cons.mp h1
    obtain ⟨b1, b2⟩ := List.pairwise_cons.mp h2
    have e : x = y := by
      rcases List.mem_cons.mp ((h x).mp List.mem_cons_self) with q | q
      · exact q
      · rcases List.mem_cons.mp ((h y).mpr List.mem_cons_self) with r | r
        · exact r.symm
        · exact absurd (Int.lt_trans (a1 y r) (b1 x q)) (Int.lt_irrefl _)
    subst e
    refine congrArg (x :: ·) (lt_unique a2 b2 fun k => ⟨fun hk => ?_, fun hk => ?_⟩)
    · rcases List.mem_cons.mp ((h k).mp (List.mem_cons_of_mem _ hk)) with q | q
      · exact absurd (q ▸ a1 k hk) (Int.lt_irrefl _)
      · exact q
    · rcases List.mem_cons.mp ((h k).mpr (List.mem_cons_of_mem _ hk)) with q | q
      · exact absurd (q ▸ b1 k hk) (Int.lt_irrefl _)
      · exact q
def rSetI (X : Cx) : List V → Hp → VK → Prop := fun xs H Q => ∃ (a : Addr) (ns : List Int), xs = [.ref a] ∧ SqT X.K H a (ns.map V.int) ∧ ns.length ≤ 1000 ∧ ∀ (p : Addr) (n : Nat), H p = none → n ≤ ns.length → Q (.ref p) (upd H p (SetO X.w p (fun j => decide (j ∈ ns)) n))
theorem cr_setI (hc : X.calm = true) : CallR X (.type "set") (rSetI X) := by
  intro pins s σ H xs us Q I r ⟨a, ns, ex, hs, hl, q⟩
  subst ex
  rw [Vals.ref1 r]
  obtain ⟨its, rv, pl, _⟩ := I.tuple hs
  refine call_set_tupI ns (I.ok.hd hc) ⟨_, pl.choose_spec.1, pl.choose_spec.2⟩ (by simpa using ints_are rv) (by unfold scanBound; omega) fun h' tk c R1 hcn k => ?_
  exact ⟨.ref s.heap.objs.size, _, I.laid (t' := tk) k (Nat.le_refl _) (setO_new R1), rfl, q _ c (I.hok.fresh (Nat.le_refl _)) hcn⟩
def kSortU (f : Sl → Option (D × Sl)) : Sl → Option (Ob × Sl) := fun S => (f S).bind fun r => match r.1 with
  | .tuple ds => (intsOf ds).bind fun ns => if ns.length ≤ 60 then some (.lst ((sortU ns).map .int), r.2) else none
  | _ => none
theorem f_sortedSet {p2 pos2 : Pos} (hc : X.calm = true) (hg : Gl X "sorted") (hm : X.mg "sorted" = none) (hg2 : Gl X "set") (hm2 : X.mg "set" = none) (h : SB X c e f) (hs : starEach [e] X.env = (false, eval e X.env) :: starEach [] X.env := by rfl)
    (hs2 : starEach [Expr.Call (.Name "set" p2) [e] [] pos2] X.env = (false, eval (.Call (.Name "set" p2) [e] [] pos2) X.env) :: starEach [] X.env := by rfl) :
    SF X c (.Call (.Name "sorted" p) [.Call (.Name "set" p2) [e] [] pos2] [] pos) (kSortU f) := by
  refine pe_imp (pe_callB (cr_sortedSet hc) hg hm (by decide +kernel) (pa_cons (pe_callTy (cr_setI hc) hg2 hm2 (by decide +kernel) (pa_cons h pa_nil hs) (he := hs)) pa_nil hs2) (he := hs2)) fun σ H Q ⟨S, W, o, S', R, e, k⟩ => ?_
  unfold kSortU at e
  obtain ⟨⟨d1, S1⟩, e1, e⟩ := Option.bind_eq_some_iff.mp e
  dsimp only at e
  split at e
  case h_2 => cases e
  rename_i ds
  obtain ⟨ns, e2, e⟩ := Option.bind_eq_some_iff.mp e
  split at e
  case isFalse => cases e
  rename_i hl
  cases e
  have := intsOf_eq e2
  subst this
  refine ⟨S, W, _, _, R, e1, fun v H1 W1 R1 s1 x1 => ?_⟩
  obtain ⟨a, vs, rfl, hs, hd⟩ := x1.tuple
  have := dps_of_ints hd
  subst this
  refine ⟨a, ns, rfl, hs, by omega, fun q n hq hn => ?_⟩
  refine ⟨q, _, n, rfl, upd_same, by omega, fun ms r hsort hmem hlen hr => ?_⟩
  have hms : ms = sortU ns := lt_unique hsort (sortU_sorted ns) fun k => by rw [hmem k, sortU_mem]; simp
  subst hms
  have R2 := R1.laid (o := SetO X.w q (fun j => decide (j ∈ ns)) n) hq
  have k2 : Ks σ S' W1 H1 S' W1 (upd H1 q (SetO X.w q (fun j => decide (j ∈ ns)) n)) := Ks.laid hq
  obtain ⟨q1, q2, q3, q4, q5, q6⟩ := rf_new R2 hr (dps_ints (K := X.K) (H := hid W1 (upd H1 q (SetO X.w q (fun j => decide (j ∈ ns)) n))) (sortU ns))
  exact k r _ _ q1 (s1.trans (k2.trans q2)) ((s1.trans k2).was hr) q3 q4 q5 q6
end
end VD
/-! VD17: calls with new objects, with keywords; reversed(range(..)), list(range(..)). -/
namespace VD
open PySem PySem.Spec PyProof.Rows L2

section
variable (P : Program) (w : World) (K : PySem.W.Frag) (c : Cc)
def KR (σ : St) (S : Sl) (W : AP) (H : Hp) (S' : Sl) (Q : VK) : RV → Prop
  | .dt d => ∀ v H' W', Rep P w K c S' W' σ H' → Ks σ S W H S' W' H' → Dp K (hid W' H') v d → Q v H'
  | .fr o => ∀ a H' W', Rep P w K c S' W' σ H' → Ks σ S W H S' W' H' → H a = none → W' a → (∀ (i : Nat) (l : Bool) (o : Ob), S'[i]? = some (.ow l o) → σ[i]? ≠ some (some (.ref a))) → ObAt P w K (hid W' H') H' a o → c.H0 a = none → Q (.ref a) H'
/-- data or a new object -/
def RR (f : Sl → Option (RV × Sl)) : TE := fun σ H Q => ∃ S W r S', Rep P w K c S W σ H ∧ f S = some (r, S') ∧ KR P w K c σ S W H S' Q r
end
abbrev SR (X : Cx) (c : Cc) (e : Expr) (f : Sl → Option (RV × Sl)) : Prop := PE X e (RR X.prog X.w X.K c f)
section
variable {X : Cx} {c : Cc} {e : Expr} {es : List Expr} {pos p : Pos} {x : Str}
theorem re_kFL {P : Program} {w : World} {K : PySem.W.Frag} {ff : Sl → Option (Ob × Sl)} {σ : St} {H : Hp} {Q : VK} (h : RE P w K c (kFL ff) σ H Q) : RF P w K c ff σ H Q := by
  obtain ⟨S, W, d', S', R, e, k⟩ := h
  unfold kFL at e
  cases q : ff S with
  | none => rw [q] at e; cases e
  | some r =>
    obtain ⟨o, S1⟩ := r
    rw [q] at e
    cases o with
    | dk _ => cases e
    | dn _ => cases e
    | lst ds =>
      cases e
      refine ⟨S, W, _, _, R, q, fun p H' W' R' s hp0 hw hf ho h0 => ?_⟩
      have hsm : Same (hid W' H') (hid (delW W' p) H') := hid_anti fun b z => z.1
      obtain ⟨xs, q1, q2⟩ := ho
      refine k (.ref p) H' (delW W' p) ⟨R'.len, fun j t q => ?_, R'.dist, fun b q => ⟨R'.z0 b q, fun y => ?_⟩, R'.zh, R'.lz, fun b q => R'.al b q.1, R'.ent⟩ ⟨s.vis.trans hsm, s.sl, fun b u h1 h2 h3 => ⟨(s.own b u h1 h2 h3).1, (s.own b u h1 h2 h3).2, fun z => by rw [z, hp0] at h2; cases h2⟩, s.there⟩
        (.lst (.inl (.inl (hid_some.mpr ⟨fun z => z.2 rfl, q1⟩))) (hsm.dps q2))
      · have z := R'.slot j t q
        cases t with
        | un => trivial
        | fz d =>
          obtain ⟨x, z1, z2⟩ := z
          exact ⟨x, z1, hsm.dp z2⟩
        | fd o =>
          obtain ⟨x, z1, z2⟩ := z
          exact ⟨x, z1, z2.move hsm⟩
        | ow l' u =>
          obtain ⟨b, z1, z2, z3, z4⟩ := z
          have hne : b ≠ p := fun y => by
            subst y
            exact hf j _ _ q z1
          exact ⟨b, z1, ⟨z2, hne⟩, z3.move hsm fun u' hu' => hu', z4⟩
      · subst y
        obtain ⟨u, z⟩ := R'.zh b q
        rw [z] at h0
        cases h0
theorem sr_e {f : Sl → Option (RV × Sl)} (h : SR X c e f) : SE X c e (rvE f) := pe_imp h fun σ H Q hh => by
  obtain ⟨S, W, d, S', R, e, k⟩ := id hh
  unfold rvE at e
  obtain ⟨⟨r, S1⟩, e1, e⟩ := Option.bind_eq_some_iff.mp e
  cases r with
  | dt d0 =>
    cases e
    exact ⟨S, W, _, _, R, e1, k⟩
  | fr o =>
    cases o with
    | dk _ => cases e
    | dn _ => cases e
    | lst ds =>
      cases e
      classical
      obtain ⟨S2, W2, o2, S3, R2, e2, k2⟩ := re_kFL (ff := fun T => if T = S then some (.lst ds, S1) else none) (P := X.prog) (w := X.w) (K := X.K) (c := c) (σ := σ) (H := H) (Q := Q) ⟨S, W, _, S1, R, by unfold kFL; dsimp only; rw [if_pos rfl]; rfl, k⟩
      dsimp only at e2
      split at e2
      · rename_i hS
        cases e2
        subst hS
        exact ⟨S2, W2, _, _, R2, e1, k2⟩
      · cases e2
theorem sr_f {f : Sl → Option (RV × Sl)} (h : SR X c e f) : SF X c e (rvF f) := pe_imp h fun σ H Q ⟨S, W, o, S', R, e, k⟩ => by
  unfold rvF at e
  obtain ⟨⟨r, S1⟩, e1, e⟩ := Option.bind_eq_some_iff.mp e
  cases r with
  | dt d0 => cases e
  | fr o =>
    cases e
    exact ⟨S, W, _, _, R, e1, k⟩
/-- behind a call to which no slot's object was lent -/
theorem rep_after {P : Program} {w : World} {K : PySem.W.Frag} {S S1 : Sl} {W W1 Z' : AP} {σ : St} {H H1 H' : Hp} {ss outs : List SS} {vs : List V} (R : Rep P w K c S1 W1 σ H1) (s1 : Ks σ S W H S1 W1 H1) (B : Back P w K W1 H1 ss outs vs Z' H')
    (hf : ∀ a, Lent ss vs a → (∀ (i : Nat) (l : Bool) (o : Ob), S1[i]? = some (.ow l o) → σ[i]? ≠ some (some (.ref a))) ∧ H a = none ∧ c.H0 a = none) (hz : ∀ a, W1 a → Z' a) (hz' : ∀ a, Z' a → W1 a ∨ ∃ o, H' a = some o) :
    Rep P w K c S1 Z' σ H' ∧ Ks σ S W H S1 Z' H' := by
  have there : ∀ a u, H1 a = some u → ∃ u', H' a = some u' := fun a u h => by
    by_cases hL : Lent ss vs a
    · obtain ⟨k, l, o, h1, h2⟩ := hL
      obtain ⟨b, l', o', q1, q2, q3⟩ := B.out k l o h1
      rw [h2] at q1
      cases q1
      exact q3.there
    · exact ⟨u, B.old a u h hL⟩
  refine ⟨⟨R.len, fun j s h => ?_, R.dist, fun a h => hz a (R.z0 a h), R.zh, R.lz, fun a h => ?_, fun a o h n => B.old a o (R.ent a o h n) fun z => ?_⟩, ⟨s1.vis.trans B.vis, s1.sl, fun a u h1 h2 h3 => ?_, fun a u h => let ⟨u', h'⟩ := s1.there a u h; there a u' h'⟩⟩
  · have z := R.slot j s h
    cases s with
    | un => trivial
    | fz d =>
      obtain ⟨x, z1, z2⟩ := z
      exact ⟨x, z1, B.vis.dp z2⟩
    | fd o =>
      obtain ⟨x, z1, z2⟩ := z
      exact ⟨x, z1, z2.move B.vis⟩
    | ow l o =>
      obtain ⟨a, z1, z2, z3, z4⟩ := z
      exact ⟨a, z1, hz a z2, z3.move B.vis fun u hu => B.old a u hu fun hL => (hf a hL).1 j l o h z1, z4⟩
  · rcases hz' a h with q | q
    · obtain ⟨u, hu⟩ := R.al a q
      exact there a u hu
    · exact q
  · rw [(hf a z).2.2] at h
    cases h
  · obtain ⟨q1, q2⟩ := s1.own a u h1 h2 h3
    refine ⟨B.old a u q1 fun hL => ?_, hz a q2⟩
    rw [(hf a hL).2.1] at h2
    cases h2
/-- the end of a call to which only data and new objects were given -/
theorem rr_call {P : Program} {w : World} {K : PySem.W.Frag} {F : List SS → Option (RV × List SS)} {S S1 : Sl} {W W1 : AP} {σ : St} {H H1 : Hp} {ss outs : List SS} {vs : List V} {r : RV} {Q : VK} {E : XK} (R : Rep P w K c S1 W1 σ H1) (s1 : Ks σ S W H S1 W1 H1) (hA : AsAt P w K W1 H1 ss vs)
    (hf : ∀ a, Lent ss vs a → (∀ (i : Nat) (l : Bool) (o : Ob), S1[i]? = some (.ow l o) → σ[i]? ≠ some (some (.ref a))) ∧ H a = none ∧ c.H0 a = none) (hF : F ss = some (r, outs))
    (k : KR P w K c σ S W H S1 Q r) : spD P w K F vs H1 Q E := by
  refine ⟨W1, ss, r, outs, hA, hF, ?_⟩
  cases r with
  | dt d =>
    intro v H' B hd
    obtain ⟨R2, s2⟩ := rep_after R s1 B hf (fun _ h => h) fun _ h => .inl h
    exact k v H' W1 R2 s2 hd
  | fr o =>
    intro a H' hn B ho
    obtain ⟨R2, s2⟩ := rep_after R s1 B hf (fun _ h => .inl h) fun b hb => hb.elim .inl fun z => .inr (z ▸ ho.there)
    exact k a H' _ R2 s2 (s1.was hn) (.inr rfl) (R.newFree hn) ho (R.new0 hn)
def rvS : RV → SS
  | .dt d => .fz d
  | .fr o => .ow true o
theorem asAt_rv {P : Program} {w : World} {K : PySem.W.Frag} {S1 : Sl} {W1 : AP} {σ : St} {H H1 : Hp} {vs : List V} {rs : List RV} (R : Rep P w K c S1 W1 σ H1) (hp : Paired (fun v r => RVAt P w K c H (hid W1 H1) H1 W1 σ S1 v r) vs rs) (ha : Apart vs rs) :
    AsAt P w K W1 H1 (rs.map rvS) vs ∧ ∀ a, Lent (rs.map rvS) vs a → (∀ (i : Nat) (l : Bool) (o : Ob), S1[i]? = some (.ow l o) → σ[i]? ≠ some (some (.ref a))) ∧ H a = none ∧ c.H0 a = none := by
  have get : ∀ {i : Nat} {s : SS}, (rs.map rvS)[i]? = some s → ∃ r, rs[i]? = some r ∧ s = rvS r := fun {i s} h => by
    rw [List.getElem?_map] at h
    obtain ⟨r, h1, h2⟩ := Option.map_eq_some_iff.mp h
    exact ⟨r, h1, h2.symm⟩
  have apart : ∀ {vs : List V} {rs : List RV}, Apart vs rs → ∀ (i j : Nat) (v : V) (o o' : Ob), i < j → rs[i]? = some (.fr o) → rs[j]? = some (.fr o') → vs[i]? = some v → vs[j]? ≠ some v := by
    intro vs
    induction vs with
    | nil => intro rs _ i j v o o' _ _ _ h; simp at h
    | cons v0 vs ih =>
      intro rs ha i j v o o' hij h1 h2 h3
      cases rs with
      | nil => simp at h1
      | cons r rs =>
        cases j with
        | zero => omega
        | succ j =>
          have h2' : rs[j]? = some (.fr o') := by simpa using h2
          cases i with
          | zero =>
            simp at h1
            subst h1
            simp at h3
            subst h3
            have := ha.1 j o' h2'
            simpa using this
          | succ i =>
            have h1' : rs[i]? = some (.fr o) := by simpa using h1
            have h3' : vs[i]? = some v := by simpa using h3
            have ha' : Apart vs rs := by
              cases r with
              | dt d => exact ha
              | fr o => exact ha.2
            have := ih ha' i j v o o' (by omega) h1' h2' h3'
            simpa using this
  refine ⟨⟨by rw [List.length_map, Paired.length hp], fun i s h => ?_, fun i j a l o l' o' hne h1 h2 h3 h4 => ?_, R.al⟩, fun a ⟨i, l, o, h1, h2⟩ => ?_⟩
  · obtain ⟨r, h1, rfl⟩ := get h
    obtain ⟨v, hv, x⟩ := paired_get' hp h1
    refine ⟨v, hv, ?_⟩
    cases r with
    | dt d => exact x
    | fr o =>
      obtain ⟨a, x1, x2, x3, x4, x5, x6⟩ := x
      exact ⟨rfl, a, x1, x3, x5⟩
  · obtain ⟨r, g1, g2⟩ := get h1
    obtain ⟨r', g3, g4⟩ := get h2
    cases r with
    | dt d => cases g2
    | fr o =>
      cases r' with
      | dt d => cases g4
      | fr o' =>
        rcases Nat.lt_or_gt_of_ne hne with hlt | hlt
        · exact apart ha i j _ _ _ hlt g1 g3 h3 h4
        · exact apart ha j i _ _ _ hlt g3 g1 h4 h3
  · obtain ⟨r, g1, g2⟩ := get h1
    cases r with
    | dt d => cases g2
    | fr o =>
      obtain ⟨v, hv, a', x1, x2, x3, x4, x5, x6⟩ := paired_get' hp g1
      rw [h2] at hv
      cases hv
      cases x1
      exact ⟨x4, x2, x6⟩
variable {k : Nat} {g : Addr} {fd : FuncData} {ps ks : List Str} {F : List SS → Option (RV × List SS)}
/-- f(..) with data and new objects -/
def kCallM (F : List SS → Option (RV × List SS)) (fm : Sl → Option (List RV × Sl)) : Sl → Option (RV × Sl) := fun S => (fm S).bind fun q => (F (q.1.map rvS)).bind fun r => some (r.1, q.2)
theorem s_callM {fm : Sl → Option (List RV × Sl)} (F' : FnG X.prog X.w X.K X.mg X.base k g fd ps (spD X.prog X.w X.K F)) (hr : RoomG k X.A) (hg : Gl X x) (hm : X.mg x = some (.ref g)) (hk : PySem.W.keepIn X.K (.ref g) = true) (hb : Binds X.K fd ps [])
    (ha : SM X c (e :: es) fm) (hdb : (x == ("__debug__" : Str)) = false := by decide) (he : starEach (e :: es) X.env = (false, eval e X.env) :: starEach es X.env := by rfl) (hpl : (backTo pos (starEach es X.env)).any (·.1) = false := by rfl) :
    SR X c (.Call (.Name x p) (e :: es) [] pos) (kCallM F fm) := pe_imp (pe_callG F' hr hg hm hk hb pass0 ha hdb he hpl) fun σ H Q ⟨S, W, r, S', R, e, k⟩ => by
  unfold kCallM at e
  obtain ⟨⟨rs, S1⟩, e1, e⟩ := Option.bind_eq_some_iff.mp e
  obtain ⟨⟨r0, outs⟩, e2, e⟩ := Option.bind_eq_some_iff.mp e
  cases e
  refine ⟨S, W, rs, S1, R, e1, fun vs H1 W1 R1 s1 hp ha => ?_⟩
  show spD X.prog X.w X.K F (vs ++ []) H1 Q _
  rw [List.append_nil]
  obtain ⟨hA, hf⟩ := asAt_rv R1 hp ha
  exact rr_call R1 s1 hA hf e2 k
/-- f() -/
def kCall0 (F : List SS → Option (RV × List SS)) : Sl → Option (RV × Sl) := fun S => (F []).bind fun r => some (r.1, S)
theorem s_call0 (F' : FnG X.prog X.w X.K X.mg X.base k g fd ps (spD X.prog X.w X.K F)) (hr : RoomG k X.A) (hg : Gl X x) (hm : X.mg x = some (.ref g)) (hk : PySem.W.keepIn X.K (.ref g) = true) (hb : Binds X.K fd ps []) (hdb : (x == ("__debug__" : Str)) = false := by decide) :
    SR X c (.Call (.Name x p) [] [] pos) (kCall0 F) := pe_imp (pe_callG0 (E := fun _ _ _ => False) F' hr hg hm hk hb pass0 hdb) fun σ H Q ⟨S, W, r, S', R, e, k⟩ => by
  unfold kCall0 at e
  obtain ⟨⟨r0, outs⟩, e2, e⟩ := Option.bind_eq_some_iff.mp e
  cases e
  obtain ⟨hA, hf⟩ := asAt_rv (H := H) (vs := []) (rs := []) R .nil trivial
  exact rr_call (E := fun _ _ _ => False) R Ks.rfl hA hf e2 k
/-! keywords -/
def sel {α : Type} (perm : List Nat) (l : List α) : List α := perm.filterMap fun i => l[i]?
theorem sel_vals (perm : List Nat) {vs : List V} {us : List Value} (h : Vals vs us) : Vals (sel perm vs) (sel perm us) := by
  unfold sel
  induction perm with
  | nil => exact .nil
  | cons i r ih =>
    rw [List.filterMap_cons, List.filterMap_cons]
    cases e : vs[i]? with
    | none =>
      have : us[i]? = none := by
        rw [List.getElem?_eq_none_iff] at e ⊢
        rw [← Paired.length h]
        exact e
      rw [this]
      exact ih
    | some v =>
      obtain ⟨u, hu, ru⟩ := Vals.get h e
      rw [hu]
      exact .cons ru ih
theorem sel_dps {K : PySem.W.Frag} {G : Hp} (perm : List Nat) {vs : List V} {ds : List D} (h : DpAll K G vs ds) : DpAll K G (sel perm vs) (sel perm ds) := by
  unfold sel
  induction perm with
  | nil => exact .nil
  | cons i r ih =>
    rw [List.filterMap_cons, List.filterMap_cons]
    cases e : ds[i]? with
    | none =>
      have : vs[i]? = none := by
        rw [List.getElem?_eq_none_iff] at e ⊢
        rw [dps_length h]
        exact e
      rw [this]
      exact ih
    | some d =>
      obtain ⟨v, hv, x⟩ := dps_get h e
      rw [hv]
      exact .cons x ih
abbrev SK (X : Cx) (c : Cc) (kws : List Keyword) (f : Sl → Option (List D × Sl)) : Prop := PK X kws (RL X.prog X.w X.K c f)
theorem pk_imp {kws : List Keyword} {t t' : TA} (h : PK X kws t) (hi : ∀ σ H Q, t' σ H Q → t σ H Q) : PK X kws t' := ⟨fun pos pins s σ H Q I q => h.run pos pins s σ H Q I (hi _ _ _ q)⟩
theorem sk_nil : SK X c [] kNil := pk_imp pk_nil fun σ H Q ⟨S, W, d, S', R, e, k⟩ => by
  cases e
  exact k [] H W R Ks.rfl .nil
theorem sk_cons {kws : List Keyword} {f : Sl → Option (D × Sl)} {g : Sl → Option (List D × Sl)} {nm : Option Str} {kpos : Pos} (h : SE X c e f) (hr : SK X c kws g) : SK X c (⟨nm, e, kpos⟩ :: kws) (kCons f g) := pk_imp (pk_cons h hr) fun σ H Q ⟨S, W, d, S', R, e, k⟩ => by
  unfold kCons at e
  obtain ⟨⟨d1, S1⟩, e1, e⟩ := Option.bind_eq_some_iff.mp e
  obtain ⟨⟨d2, S2⟩, e2, e⟩ := Option.bind_eq_some_iff.mp e
  cases e
  exact ⟨S, W, d1, S1, R, e1, fun v H1 W1 R1 s1 x1 => ⟨S1, W1, d2, S2, R1, e2, fun vs H2 W2 R2 s2 x2 => k _ H2 W2 R2 (s1.trans s2) (.cons (s2.vis.dp x1) x2)⟩⟩
theorem asAt_dps {P : Program} {w : World} {K : PySem.W.Frag} {W1 : AP} {H1 : Hp} {vs : List V} {ds : List D} (hal : ∀ a, W1 a → ∃ o, H1 a = some o) (h : DpAll K (hid W1 H1) vs ds) : AsAt P w K W1 H1 (ds.map SS.fz) vs := by
  refine ⟨by rw [List.length_map, dps_length h], fun i s e => ?_, fun i j a l o l' o' hne h1 _ _ _ => ?_, hal⟩
  · rw [List.getElem?_map] at e
    obtain ⟨d, e1, rfl⟩ := Option.map_eq_some_iff.mp e
    obtain ⟨v, hv, x⟩ := dps_get h e1
    exact ⟨v, hv, x⟩
  · rw [List.getElem?_map] at h1
    obtain ⟨d, e1, e2⟩ := Option.map_eq_some_iff.mp h1
    cases e2
def kCallK (F : List SS → Option (RV × List SS)) (n : Nat) (perm : List Nat) (fk : Sl → Option (List D × Sl)) : Sl → Option (RV × Sl) := fun S => (fk S).bind fun q => if q.1.length = n then (F ((sel perm q.1).map SS.fz)).bind fun r => some (r.1, q.2) else none
/-- f(k = v, ..) -/
theorem s_callK {kws : List Keyword} {fk : Sl → Option (List D × Sl)} {perm : List Nat} (F' : FnG X.prog X.w X.K X.mg X.base k g fd ps (spD X.prog X.w X.K F)) (hr : RoomG k X.A) (hg : Gl X x) (hm : X.mg x = some (.ref g)) (hk : PySem.W.keepIn X.K (.ref g) = true)
    (hb : ∀ (s : Shared) (ws : List Value), ws.length = ks.length → BindsTo s fd ⟨[], ks.zip ws⟩ (ps.zip (sel perm ws))) (hkw : SK X c kws fk) (hall : (backToKw pos (keywordEach kws X.env)).all (·.1.isSome) = true := by rfl) (hks : (backToKw pos (keywordEach kws X.env)).filterMap (·.1) = ks := by rfl)
    (hdb : (x == ("__debug__" : Str)) = false := by decide) (hpl : ((backTo pos (starEach [] X.env)).any (·.1) || (backToKw pos (keywordEach kws X.env)).any (·.1.isNone)) = false := by rfl) :
    SR X c (.Call (.Name x p) [] kws pos) (kCallK F ks.length perm fk) := by
  refine ⟨fun pins s σ H Q I ⟨S, W, r, S', R, e, kk⟩ => wpAny_Call_Name_kw (ld_glob I hg hm ?_ hdb)⟩
  unfold kCallK at e
  obtain ⟨⟨ds, S1⟩, e1, e⟩ := Option.bind_eq_some_iff.mp e
  dsimp only at e
  split at e
  case isFalse => cases e
  rename_i hlen
  obtain ⟨⟨r0, outs⟩, e2, e⟩ := Option.bind_eq_some_iff.mp e
  cases e
  refine PySem.W.callWith_KW0 (h₀ := X.base) I.ok.mod.kin hk hall (thn (hkw.run pos pins s σ H (fun vs H1 => ∃ W1, Rep X.prog X.w X.K c S' W1 σ H1 ∧ Ks σ S W H S' W1 H1 ∧ DpAll X.K (hid W1 H1) vs ds) I ⟨S, W, ds, S', R, e1, fun vs H1 W1 R1 s1 hd => ⟨W1, R1, s1, hd⟩⟩) fun ws s2 ⟨zs, H2, I2, rz, W1, R1, s1, hd⟩ => ⟨I2.kIn, ?_⟩) hpl
  rw [hks]
  have hws : ws.length = ks.length := by rw [← Paired.length rz, dps_length hd, hlen]
  exact call_g F' hr (hb s2 ws hws) pass0 I2 (sel_vals perm rz) (rr_call (vs := sel perm zs) R1 s1 (asAt_dps R1.al (sel_dps perm hd)) (fun a ⟨i, l, o, h1, h2⟩ => by
    rw [List.getElem?_map] at h1
    obtain ⟨d, _, h⟩ := Option.map_eq_some_iff.mp h1
    cases h) e2 kk)
end
end VD
/-! VD18: ranges backward, as lists. -/
namespace VD
open PySem PySem.Spec PyProof.Rows L2
abbrev SRg (X : Cx) (c : Cc) (e : Expr) (f : Sl → Option ((Int × Int) × Sl)) : Prop := PRg X e (fun σ H Q => ∃ S W r S', Rep X.prog X.w X.K c S W σ H ∧ f S = some (r, S') ∧ ∀ H' W', Rep X.prog X.w X.K c S' W' σ H' → Ks σ S W H S' W' H' → Q r.1 r.2 H')
def kRg1 (f : Sl → Option (D × Sl)) : Sl → Option ((Int × Int) × Sl) := fun S => (f S).bind fun r => match r.1 with
  | .int j => if j.natAbs < 2 ^ 60 then some ((0, j), r.2) else none
  | _ => none
def kRg2 (f g : Sl → Option (D × Sl)) : Sl → Option ((Int × Int) × Sl) := fun S => (f S).bind fun r => (g r.2).bind fun q => match r.1, q.1 with
  | .int i, .int j => if i.natAbs < 2 ^ 60 ∧ j.natAbs < 2 ^ 60 then some ((i, j), q.2) else none
  | _, _ => none
def revD (a b : Int) : List D := (List.range (b - a).toNat).map fun i => .int (a + (((b - a).toNat : Nat) : Int) - 1 + (i : Nat) * (-1))
def kRev (f : Sl → Option ((Int × Int) × Sl)) : Sl → Option (List D × Sl) := fun S => (f S).bind fun r => if r.1.1.natAbs < 2 ^ 60 ∧ r.1.2.natAbs < 2 ^ 60 then some (revD r.1.1 r.1.2, r.2) else none
def kLRg (f : Sl → Option ((Int × Int) × Sl)) : Sl → Option (Ob × Sl) := fun S => (f S).bind fun r => if r.1.1.natAbs < 2 ^ 60 ∧ r.1.2.natAbs < 2 ^ 60 ∧ (r.1.2 - r.1.1).toNat ≤ 1000000 then some (.lst (rangeD r.1.1 (r.1.2 - r.1.1).toNat), r.2) else none
theorem prg_imp {X : Cx} {e : Expr} {t t' : St → Hp → (Int → Int → Hp → Prop) → Prop} (h : PRg X e t) (hi : ∀ σ H Q, t' σ H Q → t σ H Q) : PRg X e t' := fun pins s σ H Q I q => h pins s σ H Q I (hi _ _ _ q)
section
variable {X : Cx} {c : Cc} {tg e e2 : Expr} {f f2 : Sl → Option (D × Sl)} {fr : Sl → Option ((Int × Int) × Sl)} {p pos : Pos}
theorem rg_1 (hg : Gl X "range") (hm : X.mg "range" = none) (h : SE X c e f) (na : starEach [e] X.env = (false, eval e X.env) :: starEach [] X.env := by rfl) : SRg X c (.Call (.Name "range" p) [e] [] pos) (kRg1 f) := prg_imp (prg_1 hg hm h na) fun σ H Q ⟨S, W, d, S', R, e, k⟩ => by
  unfold kRg1 at e
  obtain ⟨⟨d1, S1⟩, e1, e⟩ := Option.bind_eq_some_iff.mp e
  dsimp only at e
  split at e
  · split at e
    case isFalse => cases e
    cases e
    refine ⟨S, W, _, _, R, e1, fun v H1 W1 R1 s1 x1 => ?_⟩
    cases x1
    exact ⟨_, rfl, k H1 W1 R1 s1⟩
  · cases e
theorem rg_2 (hg : Gl X "range") (hm : X.mg "range" = none) (h : SE X c e f) (h2 : SE X c e2 f2) (na : starEach [e, e2] X.env = (false, eval e X.env) :: starEach [e2] X.env := by rfl) (nb : starEach [e2] X.env = (false, eval e2 X.env) :: starEach [] X.env := by rfl) (hp : (backTo pos (starEach [e2] X.env)).any (·.1) = false := by rfl) :
    SRg X c (.Call (.Name "range" p) [e, e2] [] pos) (kRg2 f f2) := prg_imp (prg_2 hg hm h h2 na nb hp) fun σ H Q ⟨S, W, d, S', R, e, k⟩ => by
  unfold kRg2 at e
  obtain ⟨⟨d1, S1⟩, e1, e⟩ := Option.bind_eq_some_iff.mp e
  obtain ⟨⟨d2, S2⟩, e2, e⟩ := Option.bind_eq_some_iff.mp e
  dsimp only at e
  split at e
  · split at e
    case isFalse => cases e
    cases e
    refine ⟨S, W, _, S1, R, e1, fun v H1 W1 R1 s1 x1 => ⟨S1, W1, _, _, R1, e2, fun u H2 W2 R2 s2 x2 => ?_⟩⟩
    cases x1
    cases x2
    exact ⟨_, _, rfl, rfl, k H2 W2 R2 (s1.trans s2)⟩
  · cases e
theorem wk_rangeC {K : PySem.W.Frag} {W : AP} {H : Hp} (lo c : Int) (n : Nat) : WkD K (Itc lo c n) W H ((List.range n).map fun i => .int (lo + (i : Nat) * c)) where
  go := fun i W2 H2 s hi => by simp at hi; exact hi
  stop := fun W2 H2 s => by simp; exact Nat.le_refl _
  yld := fun i W2 H2 x H3 al s hi ⟨e, hx⟩ => by
    subst e hx
    have hi' : i < n := by simpa using hi
    exact ⟨.inl rfl, .int (lo + (i : Nat) * c), by simp [hi'], .int _⟩
theorem i_rev (hg : Gl X "reversed") (hm : X.mg "reversed" = none) (h : SRg X c e fr) (hs : starEach [e] X.env = (false, eval e X.env) :: starEach [] X.env := by rfl) : SI X c tg (.Call (.Name "reversed" p) [e] [] pos) (kRev fr) := pi_imp (pi_revR hg hm h hs) fun σ H Q ⟨S, W, d, S', R, e, k⟩ => by
  unfold kRev at e
  obtain ⟨⟨d1, S1⟩, e1, e⟩ := Option.bind_eq_some_iff.mp e
  split at e
  case isFalse => cases e
  rename_i hb
  cases e
  dsimp only at hb
  exact ⟨S, W, d1, _, R, e1, fun H1 W1 R1 s1 => ⟨by omega, by omega, by omega, by omega, k _ H1 W1 R1 s1 (wk_rangeC _ _ _)⟩⟩
theorem rg_dps {K : PySem.W.Frag} {G : Hp} (a b : Int) : DpAll K G (rgV a b) (rangeD a (b - a).toNat) := by
  unfold rgV rangeD
  induction (List.range (b - a).toNat) with
  | nil => exact .nil
  | cons i r ih => exact .cons (.int _) ih
theorem f_listRg (hc : X.calm = true) (hg : Gl X "list") (hm : X.mg "list" = none) (h : SRg X c e fr) (na : starEach [e] X.env = (false, eval e X.env) :: starEach [] X.env := by rfl) : SF X c (.Call (.Name "list" p) [e] [] pos) (kLRg fr) := pe_imp (pe_listRg hc hg hm h na) fun σ H Q ⟨S, W, o, S', R, e, k⟩ => by
  unfold kLRg at e
  obtain ⟨⟨⟨i, j⟩, S1⟩, e1, e⟩ := Option.bind_eq_some_iff.mp e
  split at e
  case isFalse => cases e
  rename_i hb
  cases e
  dsimp only at hb
  refine ⟨S, W, (i, j), _, R, e1, fun H1 W1 R1 s1 => ⟨⟨by omega, by omega, by omega, by omega, by dsimp only; omega⟩, fun q hq => ?_⟩⟩
  obtain ⟨q1, q2, q3, q4, q5, q6⟩ := rf_new R1 hq (rg_dps i j)
  exact k q _ _ q1 (s1.trans q2) (s1.was hq) q3 q4 q5 q6
end
end VD
/-! VD19: an owned thing given back; small helps for the printed derivations. -/
namespace VD
open PySem PySem.Spec PyProof.Rows L2
section
variable {X : Cx} {c : Cc} {e : Expr} {pos : Pos} {i : Nat}
/-- return x, x an object of its own -/
def kRetO (i : Nat) : Sl → Option Out := fun S => match S[i]? with
  | some (.ow false o) => some (.rt (.fr o) (S.set i .un))
  | _ => none
theorem p_retO (he : PE X e (tVar i)) : SS1 X c (.Return (some e) pos) (kRetO i) := ps_imp (ps_ret he) fun D σ H ⟨S, W, r, R, e, k⟩ => by
  unfold kRetO at e
  split at e
  · rename_i o q
    cases e
    obtain ⟨a, z1, z2, z3, z4⟩ := R.slot i _ q
    rw [if_neg (by decide)] at z4
    refine ⟨_, z1, k a σ H W (R.forget [i]) (Same.refl _) z2 (fun m l u h1 h2 => ?_) z3 z4⟩
    by_cases hm : m = i
    · subst hm
      rw [List.getElem?_set_self (by rw [R.len]; exact R.lt q)] at h1
      cases h1
    · rw [List.getElem?_set_ne (Ne.symm hm)] at h1
      exact R.dist m i a _ _ _ _ hm h1 q h2 z1
  · cases e
end
def kIfF (t : Sl → Option (Bool × Sl)) (f g : Sl → Option (Ob × Sl)) : Sl → Option (Ob × Sl) := fun S => (t S).bind fun r => if r.1 = true then f r.2 else g r.2
theorem f_if {X : Cx} {c : Cc} {cc a b : Expr} {pos : Pos} {t : Sl → Option (Bool × Sl)} {f1 f2 : Sl → Option (Ob × Sl)} (hc : ST X c cc t) (ha : SF X c a f1) (hb : SF X c b f2) : SF X c (.IfExp cc a b pos) (kIfF t f1 f2) := pe_imp (pe_ifExp hc ha hb) fun σ H Q ⟨S, W, d, S', R, e, k⟩ => by
  unfold kIfF at e
  obtain ⟨⟨d1, S1⟩, e1, e⟩ := Option.bind_eq_some_iff.mp e
  refine ⟨S, W, d1, S1, R, e1, fun H1 W1 R1 s1 => ?_⟩
  cases d1 with
  | true => exact iteT ⟨S1, W1, d, S', R1, e, fun a H2 W2 R2 s2 n2 => k a H2 W2 R2 (s1.trans s2) (s1.was n2)⟩
  | false => exact iteF ⟨S1, W1, d, S', R1, e, fun a H2 W2 R2 s2 n2 => k a H2 W2 R2 (s1.trans s2) (s1.was n2)⟩
theorem un_of {A : Around} {k : Nat} (hr : RoomG k A) : A.units + 200 < cLine := by
  have := hr.room.un
  omega
/-- never run -/
theorem fn_none {P : Program} {w : World} {K : PySem.W.Frag} {mg : Str → Option Value} {base : Heap} {k : Nat} {f : Addr} {fd : FuncData} {ps : List Str} : FnG P w K mg base k f fd ps (spD P w K fun _ => none) :=
  ⟨(fun vs H Q E ⟨_, _, _, _, _, e, _⟩ => nomatch e), fun A outer s H args us vs Q E _ _ _ _ ⟨_, _, _, _, _, e, _⟩ => nomatch e⟩
end VD
/-! VD20: three names at once. -/
namespace VD
open PySem PySem.Spec PyProof.Rows L2
section
variable {X : Cx} {c : Cc} {pos : Pos} {i j l : Nat} {fm : Sl → Option (List RV × Sl)}
theorem p_par3 {x y z : Str} {a b d : Expr} {px py pz pt : Pos} {kt k2 pt2} (hc : X.calm = true) (hN : X.N.Nodup) (hi : X.N[i]? = some x) (hj : X.N[j]? = some y) (hl : X.N[l]? = some z) (hij : i ≠ j) (hil : i ≠ l) (hjl : j ≠ l)
    (hx : X.env.scope.names.lookup x = some .local) (hy : X.env.scope.names.lookup y = some .local) (hz : X.env.scope.names.lookup z = some .local) (ha : SM X c [a, b, d] fm)
    (hw : swappedStores [.Tuple [.Name x px, .Name y py, .Name z pz] kt pt] (.Tuple [a, b, d] k2 pt2) X.env = pure (some [x, y, z]))
    (hs : swapsWithSole [.Tuple [.Name x px, .Name y py, .Name z pz] kt pt] (.Tuple [a, b, d] k2 pt2) pos.line X.env = pure false := by rfl) :
    SS1 X c (.Assign [.Tuple [.Name x px, .Name y py, .Name z pz] kt pt] (.Tuple [a, b, d] k2 pt2) pos) (kPar [i, j, l] fm) := ps_imp (ps_par3 hc hN hi hj hl hij hil hjl hx hy hz ha hw hs) fun D σ H h => by
  obtain ⟨S, W, rs, S1, R, e1, k⟩ := rm_par h
  refine ⟨S, W, rs, S1, R, e1, fun vs H1 W1 R1 s1 x a => ?_⟩
  obtain ⟨hl, q⟩ := k vs H1 W1 R1 s1 x a
  match vs, hl, q with
  | [v, u, t], _, q => exact ⟨v, u, t, rfl, q⟩
end
end VD
/-! VD21: statements that no run reaches, constants of the module, isinstance, texts. -/
namespace VD
open PySem PySem.Spec PyProof.Rows L2
section
variable {X : Cx} {c : Cc} {pos p p2 : Pos} {x : Str} {e : Expr} {f f1 f2 : Sl → Option (D × Sl)}
def kStop : Sl → Option Out := fun _ => none
theorem p_stop {st : Stmt} : SS1 X c st kStop := ⟨fun pins s σ H D I h => by
  obtain ⟨S, W, r, _, e, _⟩ := h
  cases e⟩
theorem s_gint {i : Int} (hg : Gl X x) (h : ∃ u, X.mg x = some u ∧ RelV (.int i) u) (hd : (x == ("__debug__" : Str)) = false := by decide) : SE X c (.Name x pos) (kC (.int i)) := s_C (C8.pe_gc hg h hd) fun _ => .int i
theorem s_gstr {z : Str} (hg : Gl X x) (h : ∃ u, X.mg x = some u ∧ RelV (.str z) u) (hd : (x == ("__debug__" : Str)) = false := by decide) : SE X c (.Name x pos) (kC (.str z)) := s_C (C8.pe_gc hg h hd) fun _ => .str z
/-! isinstance -/
def tyOfD : D → Option String
  | .none => some "NoneType"
  | .bool _ => some "bool"
  | .int _ => some "int"
  | .str _ => some "str"
  | .list _ => some "list"
  | .tuple _ => some "tuple"
  | _ => none
def gIsi (T : String) : D → Option D := fun d => (tyOfD d).bind fun t => (kitB t T).map .bool
theorem tyx_of {K : PySem.W.Frag} {W : AP} {H : Hp} {v : V} {d : D} {t : String} (h : DpB K W H v d) (e : tyOfD d = some t) : TyX K H v (.type t) := by
  cases d with
  | none => cases e; rcases h with h | ⟨_, _, _, _, q, _⟩; cases h; exact .base .non; cases q
  | bool b => cases e; rcases h with h | ⟨_, _, _, _, q, _⟩; cases h; exact .base (.bl _); cases q
  | int i => cases e; have := h.int; subst this; exact .base (.int _)
  | str z => cases e; have := h.str; subst this; exact .base (.str _)
  | list ds =>
    cases e
    obtain ⟨a, xs, rfl, hs, _⟩ := h.list
    rcases hs with hs | ⟨o, its, n, hk, hc, _⟩
    · rcases hs with hs | ⟨o, hs⟩
      · exact .base (.lst hs)
      · exact .base (.frz hs)
    · exact .kList hk hc
  | tuple ds =>
    cases e
    obtain ⟨a, xs, rfl, hs, _⟩ := h.tupleAt
    rcases hs with ⟨o, ho, _⟩ | ⟨o, its, n, ho, hc, _⟩
    · exact .fTuple ho
    · exact .kTuple ho hc
  | dict _ => cases e
theorem s_isi {T : String} {x2 : Str} (hg : Gl X "isinstance") (hm : X.mg "isinstance" = none) (hg2 : Gl X x2) (hm2 : X.mg x2 = none) (hv2 : bootBuiltins x2 = some (.type T)) (ha : SB X c e f) (hn2 : x2 ≠ "__name__" := by decide) (hdb2 : (x2 == ("__debug__" : Str)) = false := by decide)
    (he2 : starEach [.Name x2 p2] X.env = (false, eval (.Name x2 p2) X.env) :: starEach [] X.env := by rfl) (he : starEach [e, .Name x2 p2] X.env = (false, eval e X.env) :: starEach [.Name x2 p2] X.env := by rfl)
    (hpl : (backTo pos (starEach [.Name x2 p2] X.env)).any (·.1) = false := by rfl) : SE X c (.Call (.Name "isinstance" p) [e, .Name x2 p2] [] pos) (k1 (gIsi T) f) :=
  pe_imp (pe_callB call_isi hg hm (by rfl) (pa_cons ha (pa_cons (pe_bltn (v := .ty T) hg2 hm2 hv2 rfl hn2 hdb2) pa_nil he2) he) (by decide) (by decide) he hpl) fun σ H Q h => rb_mono (re_k1 h) fun v H1 q => by
    obtain ⟨W, d, r, h0, h1, h2, h3⟩ := q
    unfold gIsi at h2
    obtain ⟨t, e1, e2⟩ := Option.bind_eq_some_iff.mp h2
    obtain ⟨b, e3, e4⟩ := Option.map_eq_some_iff.mp e2
    subst e4
    exact ⟨v, .ty T, .type t, .type T, b, rfl, .ty T, tyx_of h1 e1, kit_ty e3, h3 _ H1 (.inl rfl) (.bl b)⟩
/-! texts -/
def strsOf : List D → Option (List Str)
  | [] => some []
  | .str z :: r => (strsOf r).map (z :: ·)
  | _ => none
theorem strsOf_dps {K : PySem.W.Frag} {H : Hp} : ∀ {ds : List D} {xs : List V} {ys : List Str}, strsOf ds = some ys → DpAll K H xs ds → xs = ys.map V.str
  | [], _, _, e, h => by cases h; cases e; rfl
  | .str z :: r, _, _, e, h => by
    unfold strsOf at e
    obtain ⟨zs, e1, e2⟩ := Option.map_eq_some_iff.mp e
    subst e2
    cases h with
    | cons a b => cases a; rw [strsOf_dps e1 b]; rfl
  | .none :: _, _, _, e, _ => by cases e
  | .bool _ :: _, _, _, e, _ => by cases e
  | .int _ :: _, _, _, e, _ => by cases e
  | .list _ :: _, _, _, e, _ => by cases e
  | .tuple _ :: _, _, _, e, _ => by cases e
  | .dict _ :: _, _, _, e, _ => by cases e
def gJoin : D → D → Option D
  | .str a, .list ds => (strsOf ds).bind fun ys => if (ys.map (·.length)).sum + ys.length * a.length ≤ 1000000 then some (.str (Txt.join a ys)) else none
  | .str a, .tuple ds => (strsOf ds).bind fun ys => if (ys.map (·.length)).sum + ys.length * a.length ≤ 1000000 then some (.str (Txt.join a ys)) else none
  | _, _ => none
theorem mt_joinD : MtM X "str.join" (rM1 X.K gJoin) := by
  intro pins s σ H x xs v us Q I rx rs h
  obtain ⟨y, rfl, W, d, d', z, h0, h1, h2, h3, h4⟩ := h
  unfold gJoin at h3
  split at h3
  · obtain ⟨ys, e1, e2⟩ := Option.bind_eq_some_iff.mp h3
    split at e2
    case isFalse => cases e2
    rename_i hl
    cases e2
    obtain ⟨a, xs, rfl, hs, hd⟩ := h2.list
    have := strsOf_dps e1 hd
    subst this
    exact mt_join pins s σ H x _ v us Q I rx rs ⟨_, a, ys, h1.str, rfl, .inl hs, Nat.le_trans hl (by decide), h4 _ H (.inl rfl) (.str _)⟩
  · obtain ⟨ys, e1, e2⟩ := Option.bind_eq_some_iff.mp h3
    split at e2
    case isFalse => cases e2
    rename_i hl
    cases e2
    obtain ⟨a, xs, rfl, hs, hd⟩ := h2.tupleAt
    have := strsOf_dps e1 hd
    subst this
    exact mt_join pins s σ H x _ v us Q I rx rs ⟨_, a, ys, h1.str, rfl, .inr hs.sq, Nat.le_trans hl (by decide), h4 _ H (.inl rfl) (.str _)⟩
  · cases h3
def gIndexS : D → D → Option D
  | .str a, .str b => match Builtin.Str.occurrences a b 0 a.length 1 with
    | i :: _ => some (.int (i : Nat))
    | [] => none
  | _, _ => none
theorem mt_indexSD : MtM X "str.index" (rM1 X.K gIndexS) := by
  intro pins s σ H x xs v us Q I rx rs h
  obtain ⟨y, rfl, W, d, d', z, h0, h1, h2, h3, h4⟩ := h
  unfold gIndexS at h3
  split at h3
  · split at h3
    · rename_i e
      cases h3
      have := h1.str
      subst this
      have := h2.str
      subst this
      exact mt_sindex pins s σ H _ _ v us Q I rx rs ⟨_, _, _, _, rfl, rfl, e, h4 _ H (.inl rfl) (.int _)⟩
    · cases h3
  · cases h3
/-! a text so many times -/
def gMulS : D → D → Option D
  | .str z, .int k => if z.length ≤ 1000 ∧ k.natAbs ≤ 1000 then some (.str (Txt.mul z k)) else none
  | _, _ => none
theorem g_mulS : OpR X (binaryOp .Mult) (rG2 X.K gMulS) := by
  intro pins s σ H x y v u Q I rx ry ⟨W, d, d', z, h0, h1, h2, h3, h4⟩
  unfold gMulS at h3
  split at h3
  · rename_i z k
    split at h3
    case isFalse => cases h3
    rename_i hl
    cases h3
    have := h1.str
    subst this
    have := h2.int
    subst this
    obtain ⟨t, rfl⟩ := rx
    obtain ⟨t', rfl⟩ := ry
    refine PySem.SB.mul (n := k) ⟨?_, fun h1 _ => ?_, fun h1 _ => ?_⟩ fun t2 k2 => ⟨.str _, H, I.tok _, ⟨_, rfl⟩, h4 _ H (.inl rfl) (.str _)⟩
    · rw [Bool.or_eq_false_iff]
      exact ⟨decide_eq_false (by omega), decide_eq_false (by omega)⟩
    · have : (1000 : Int) ≤ (2 ^ 63 - 1) / k := by
        rw [Int.le_ediv_iff_mul_le (by omega)]
        omega
      omega
    · have : z.length * k.toNat ≤ 1000 * 1000 := Nat.mul_le_mul hl.1 (by omega)
      exact decide_eq_false (by
        have e : sizeLine = 16777216 := rfl
        omega)
  · cases h3
/-! a text from behind -/
def gRevS : D → Option D
  | .str z => if z.length ≤ 1000000 then some (.str ⟨z.cps.toList.reverse.toArray⟩) else none
  | _ => none
theorem rev_cps (z : Str) : ((Builtin.Str.strSliceIndices none none (-1) z.length).filterMap (z.cps[·]?)) = z.cps.toList.reverse := by
  have e : Builtin.Str.strSliceIndices none none (-1) z.length = (List.range z.cps.size).map fun k => z.cps.size - 1 - k := by
    show sliceRange ((z.cps.size : Int) - 1) (-1) (-1) = _
    exact PySem.W.krv_sliceRange _
  rw [e, PySem.W.krv_range, List.filterMap_reverse, PySem.W.krv_all]
theorem pe_revS {e : Expr} {te : TE} {k : Nat} {p1 p2 p3 pos : Pos} (he : PE X e te) : PE X (.Subscript e (.Slice none none (some (.UnaryOp .USub (.Constant (.int 1) k p1) p2)) p3) pos)
    (fun σ H Q => te σ H fun x H1 => ∃ z : Str, x = .str z ∧ z.length ≤ 1000000 ∧ Q (.str ⟨z.cps.toList.reverse.toArray⟩) H1) := by
  refine ⟨fun pins s σ H Q I h => ?_⟩
  refine Subscript_ (thn (he.run pins s σ H _ I h) fun v s1 ⟨x, H1, I1, r1, q1⟩ => ?_)
  obtain ⟨z, ex, hz, q⟩ := q1
  subst ex
  obtain ⟨t, rfl⟩ := r1
  have hst : PO X (some (.UnaryOp .USub (.Constant (.int 1) k p1) p2)) (tPart (tUn (rU fun i => .int (-i)) (tC (.int 1)))) := po_some (pe_un un_neg pe_int)
  refine wpAny_Slice (thn (po_none.run pins s1 σ H1 (fun o H2 => o = none ∧ H2 = H1) I1 ⟨rfl, rfl⟩) fun vl s2 ⟨l, H2, I2, pl, el, e2⟩ => ?_)
  subst el e2
  refine thn (po_none.run pins s2 σ H2 (fun o H3 => o = none ∧ H3 = H2) I2 ⟨rfl, rfl⟩) fun vu s3 ⟨u, H3, I3, pu, eu, e3⟩ => ?_
  subst eu e3
  refine thn (hst.run pins s3 σ H3 (fun o H4 => o = some (-1) ∧ H4 = H3) I3 ⟨1, rfl, -1, rfl, rfl, rfl⟩) fun vs s4 ⟨o, H4, I4, ps, eo, e4⟩ => ?_
  subst eo e4
  have I5 : Inv X pins σ H4 { s4 with heap := s4.heap.push { cls := .type "slice", data := .fields #[vl, vu, vs] } } := I4.kept (t' := s4.toks) fun b ob q => Heap.get?_push_of_some _ q
  obtain ⟨l, rfl, hl⟩ := IsPart.raw pl
  obtain ⟨u, rfl, hu⟩ := IsPart.raw pu
  obtain ⟨w, rfl, hw⟩ := IsPart.raw ps
  have hl : l = none := by cases l with | none => rfl | some _ => cases hl
  have hu : u = none := by cases u with | none => rfl | some _ => cases hu
  subst hl hu
  obtain ⟨w, rfl⟩ : ∃ t, w = some (-1, t) := by
    cases w with
    | none => cases hw
    | some a => obtain ⟨i, t⟩ := a; cases hw; exact ⟨t, rfl⟩
  show wpAny (model X.prog X.w) X.A (subscriptTail e (.Slice none none (some (.UnaryOp .USub (.Constant (.int 1) k p1) p2)) p3) (.str z t) (.ref s4.heap.objs.size)) (EP X pins σ Q) X.xe { s4 with heap := s4.heap.push { cls := .type "slice", data := .fields #[partValue none, partValue none, partValue (some (-1, w))] } }
  refine tail_any (ops := [.str z t, .ref s4.heap.objs.size]) (typeIs_str _ _ _) (F.slot_str_getitem.lookup) ?_ (by with_unfolding_all rfl)
  refine wpAny_getItem_str_slice (l := none) (u := none) (st := some (-1, w)) ⟨_, Heap.get?_push_size _ rfl, rfl, rfl⟩ (by rfl) ?_
  show Made.post (if ((-1 : Int) == 1 && (Builtin.Str.strSliceIndices none none (-1) z.length).length == z.length) = true then Made.val (.str z t)
    else Made.str ⟨((Builtin.Str.strSliceIndices none none (-1) z.length).filterMap (z.cps[·]?)).toArray⟩) (EP X pins σ Q) _
  rw [if_neg (by rw [show ((-1 : Int) == 1) = false by decide, Bool.false_and]; exact Bool.false_ne_true), rev_cps]
  refine ⟨?_, .str _, H4, I5.tok _, ⟨_, rfl⟩, q⟩
  show z.cps.toList.reverse.toArray.size ≤ sizeLine
  have e1 : z.cps.size = z.length := rfl
  have e : sizeLine = 16777216 := rfl
  simp
  omega
theorem s_revS {k : Nat} {p1 p2 p3 pos : Pos} (ha : SE X c e f) : SE X c (.Subscript e (.Slice none none (some (.UnaryOp .USub (.Constant (.int 1) k p1) p2)) p3) pos) (k1 gRevS f) :=
  pe_imp (pe_revS (b_s ha)) fun σ H Q h => rb_mono (re_k1 h) fun v H1 q => by
    obtain ⟨W, d, r, h0, h1, h2, h3⟩ := q
    unfold gRevS at h2
    split at h2
    · split at h2
      case isFalse => cases h2
      rename_i hl
      cases h2
      exact ⟨_, h1.str, hl, h3 _ H1 (.inl rfl) (.str _)⟩
    · cases h2
end
end VD
/-! PL0: running the semantic functions by rewriting. -/
namespace VD
open PySem PySem.Spec PyProof.Rows L2
/-- a row of ints as a tuple, as a list -/
abbrev dT (l : List Int) : D := .tuple (l.map .int)
abbrev dL (l : List Int) : D := .list (l.map .int)
theorem intsOf_map (l : List Int) : intsOf (l.map .int) = some l := by
  induction l with
  | nil => rfl
  | cons i l ih => simp [intsOf, ih]
theorem atI_map {α β : Type} (f : α → β) (l : List α) (i : Int) : atI (l.map f) i = (atI l i).map f := by
  unfold atI
  rw [List.length_map]
  cases ixN l.length i with
  | none => rfl
  | some j => simp
/-- a loop whose turns keep a shape -/
theorem forS_fold {α β : Type} {tg : D → Sl → Option Sl} {body : Sl → Option Out} {enc : β → D} (st : α → Sl) (step : α → β → α) (I : α → Prop) : ∀ (xs : List β) (a : α), I a →
    (∀ a, I a → ∀ x ∈ xs, ((tg (enc x) (st a)).bind body = some (.nx (st (step a x))) ∧ I (step a x))) → forS tg body (xs.map enc) (st a) = some (.nx (st (xs.foldl step a))) ∧ I (xs.foldl step a)
  | [], a, ha, _ => ⟨rfl, ha⟩
  | x :: xs, a, ha, h => by
    obtain ⟨h1, h2⟩ := h a ha x List.mem_cons_self
    have ih := forS_fold st step I xs (step a x) h2 fun b hb y hy => h b hb y (List.mem_cons_of_mem _ hy)
    refine ⟨?_, ih.2⟩
    rw [List.map_cons]
    unfold forS
    cases e : tg (enc x) (st a) with
    | none => rw [e] at h1; cases h1
    | some S1 =>
      rw [e] at h1
      show (body S1).bind _ = _
      rw [show body S1 = _ from h1]
      exact ih.1
/-- a comprehension that changes nothing but its own names -/
theorem lcS_map {β : Type} {tg : D → Sl → Option Sl} {tt : Sl → Option (Bool × Sl)} {te : Sl → Option (D × Sl)} {vs : List Nat} {enc : β → D} {S : Sl} (p : β → Bool) (f : β → D) : ∀ (xs : List β) (acc : List D), acc.length + xs.length < 1000000 →
    (∀ x ∈ xs, ∃ S1 S2, tg (enc x) S = some S1 ∧ tt S1 = some (p x, S2) ∧ unS S2 vs = S ∧ (p x = true → ∃ S3, te S2 = some (f x, S3) ∧ unS S3 vs = S)) → lcS tg tt te vs (xs.map enc) acc S = some (acc ++ (xs.filter p).map f, S)
  | [], acc, _, _ => by simp [lcS]
  | x :: xs, acc, hl, h => by
    obtain ⟨S1, S2, h1, h2, h3, h4⟩ := h x List.mem_cons_self
    have hr := fun y hy => h y (List.mem_cons_of_mem x hy)
    rw [List.map_cons]
    unfold lcS
    rw [h1]
    show (tt S1).bind _ = _
    rw [h2]
    show (if p x = true then _ else _) = _
    simp only [List.length_cons] at hl
    cases hp : p x with
    | false =>
      rw [if_neg (by simp), h3, lcS_map p f xs acc (by omega) hr]
      simp [List.filter_cons, hp]
    | true =>
      obtain ⟨S3, h5, h6⟩ := h4 hp
      rw [if_pos rfl, h5]
      show (if acc.length < 1000000 then _ else _) = _
      rw [if_pos (by omega), h6, lcS_map p f xs (acc ++ [f x]) (by simp; omega) hr]
      simp [List.filter_cons, hp]
end VD
/-! PL2: the equations by which the semantic functions run. -/
namespace VD
open PySem PySem.Spec PyProof.Rows L2
@[simp] theorem ev_kC (d : D) (S : Sl) : kC d S = (some (d, S) : Option (D × Sl)) := rfl
@[simp] theorem ev_kB (i : Nat) (S : Sl) : kB i S = ((vw S i).map fun d => (d, S) : Option (D × Sl)) := rfl
@[simp] theorem ev_kV (i : Nat) (S : Sl) : kV i S = (match S[i]? with
  | some (.fz d) => some (d, S)
  | some (.ow false (.lst ds)) => some (.list ds, S.set i (.fz (.list ds)))
  | _ => none : Option (D × Sl)) := rfl
@[simp] theorem ev_k1 (g : D → Option D) (f : Sl → Option (D × Sl)) (S : Sl) : k1 g f S = ((f S).bind fun r => (g r.1).bind fun d => some (d, r.2) : Option (D × Sl)) := rfl
@[simp] theorem ev_k2 (g : D → D → Option D) (f1 f2 : Sl → Option (D × Sl)) (S : Sl) : k2 g f1 f2 S = ((f1 S).bind fun r => (f2 r.2).bind fun q => (g r.1 q.1).bind fun d => some (d, q.2) : Option (D × Sl)) := rfl
@[simp] theorem ev_k2v (g : D → D → Option D) (i : Nat) (f2 : Sl → Option (D × Sl)) (S : Sl) : k2v g i f2 S = ((vw S i).bind fun _ => (f2 S).bind fun q => (vw q.2 i).bind fun x => (g x q.1).bind fun d => some (d, q.2) : Option (D × Sl)) := rfl
@[simp] theorem ev_k2w (g : D → D → Option D) (f1 : Sl → Option (D × Sl)) (i : Nat) (S : Sl) : k2w g f1 i S = ((f1 S).bind fun r => (vw r.2 i).bind fun x => (g r.1 x).bind fun d => some (d, r.2) : Option (D × Sl)) := rfl
@[simp] theorem ev_kT (f : Sl → Option (D × Sl)) (S : Sl) : kT f S = ((f S).bind fun r => (asBool r.1).bind fun b => some (b, r.2) : Option (Bool × Sl)) := rfl
@[simp] theorem ev_kNot (f : Sl → Option (Bool × Sl)) (S : Sl) : kNot f S = ((f S).bind fun r => some (!r.1, r.2) : Option (Bool × Sl)) := rfl
@[simp] theorem ev_kAnd (f g : Sl → Option (Bool × Sl)) (S : Sl) : kAnd f g S = ((f S).bind fun r => if r.1 = true then g r.2 else some (false, r.2) : Option (Bool × Sl)) := rfl
@[simp] theorem ev_kOr (f g : Sl → Option (Bool × Sl)) (S : Sl) : kOr f g S = ((f S).bind fun r => if r.1 = true then some (true, r.2) else g r.2 : Option (Bool × Sl)) := rfl
@[simp] theorem ev_kTV (f : Sl → Option (Bool × Sl)) (S : Sl) : kTV f S = ((f S).bind fun r => some (.bool r.1, r.2) : Option (D × Sl)) := rfl
@[simp] theorem ev_kIf (t : Sl → Option (Bool × Sl)) (f g : Sl → Option (D × Sl)) (S : Sl) : kIf t f g S = ((t S).bind fun r => if r.1 = true then f r.2 else g r.2 : Option (D × Sl)) := rfl
@[simp] theorem ev_kFL (f : Sl → Option (Ob × Sl)) (S : Sl) : kFL f S = ((f S).bind fun r => match r.1 with
  | .lst ds => some (.list ds, r.2)
  | _ => none : Option (D × Sl)) := rfl
@[simp] theorem ev_kAndV (f g : Sl → Option (D × Sl)) (S : Sl) : kAndV f g S = ((f S).bind fun r => (asBool r.1).bind fun k => if k = true then g r.2 else some (.bool false, r.2) : Option (D × Sl)) := rfl
@[simp] theorem ev_kOrV (f g : Sl → Option (D × Sl)) (S : Sl) : kOrV f g S = ((f S).bind fun r => (asBool r.1).bind fun k => if k = true then some (.bool true, r.2) else g r.2 : Option (D × Sl)) := rfl
@[simp] theorem ev_kNotV (f : Sl → Option (D × Sl)) (S : Sl) : kNotV f S = ((f S).bind fun r => (asBool r.1).bind fun k => some (.bool (!k), r.2) : Option (D × Sl)) := rfl
@[simp] theorem ev_kCh (g g' : D → D → Option D) (f1 f2 f3 : Sl → Option (D × Sl)) (S : Sl) : kCh g g' f1 f2 f3 S = ((f1 S).bind fun r1 => (f2 r1.2).bind fun r2 => (g r1.1 r2.1).bind fun z => (asBool z).bind fun k =>
  if k = true then (f3 r2.2).bind fun r3 => (g' r2.1 r3.1).bind fun d => some (d, r3.2) else some (.bool false, r2.2) : Option (D × Sl)) := rfl
@[simp] theorem ev_kNil {α : Type} (S : Sl) : kNil (α := α) S = (some ([], S) : Option (List α × Sl)) := rfl
@[simp] theorem ev_kCons (f : Sl → Option (D × Sl)) (g : Sl → Option (List D × Sl)) (S : Sl) : kCons f g S = ((f S).bind fun r => (g r.2).bind fun q => some (r.1 :: q.1, q.2) : Option (List D × Sl)) := rfl
@[simp] theorem ev_kConsM (f : Sl → Option (D × Sl)) (g : Sl → Option (List RV × Sl)) (S : Sl) : kConsM f g S = ((f S).bind fun r => (g r.2).bind fun q => some (.dt r.1 :: q.1, q.2) : Option (List RV × Sl)) := rfl
@[simp] theorem ev_kConsF (f : Sl → Option (Ob × Sl)) (g : Sl → Option (List RV × Sl)) (S : Sl) : kConsF f g S = ((f S).bind fun r => (g r.2).bind fun q => some (.fr r.1 :: q.1, q.2) : Option (List RV × Sl)) := rfl
@[simp] theorem ev_kTup (f : Sl → Option (List D × Sl)) (S : Sl) : kTup f S = ((f S).bind fun r => if r.1.length ≤ 1000000 then some (.tuple r.1, r.2) else none : Option (D × Sl)) := rfl
@[simp] theorem ev_kLst (f : Sl → Option (List D × Sl)) (S : Sl) : kLst f S = ((f S).bind fun r => if r.1.length ≤ 1000000 then some (.lst r.1, r.2) else none : Option (Ob × Sl)) := rfl
@[simp] theorem ev_kDk (S : Sl) : kDk S = (some (.dk [], S) : Option (Ob × Sl)) := rfl
@[simp] theorem ev_kSeq (f g : Sl → Option Out) (S : Sl) : kSeq f g S = ((f S).bind fun r => match r with
  | .nx S1 => g S1
  | .rt r S1 => some (.rt r S1)
  | .bk S1 => some (.bk S1)
  | .ct S1 => some (.ct S1) : Option Out) := rfl
@[simp] theorem ev_kBk (S : Sl) : kBk S = (some (.bk S) : Option Out) := rfl
@[simp] theorem ev_kCt (S : Sl) : kCt S = (some (.ct S) : Option Out) := rfl
@[simp] theorem ev_kDrop (f : Sl → Option (D × Sl)) (S : Sl) : kDrop f S = ((f S).bind fun r => some (.nx r.2) : Option Out) := rfl
@[simp] theorem ev_kRet (f : Sl → Option (D × Sl)) (S : Sl) : kRet f S = ((f S).bind fun r => some (.rt (.dt r.1) r.2) : Option Out) := rfl
@[simp] theorem ev_kRetF (f : Sl → Option (Ob × Sl)) (S : Sl) : kRetF f S = ((f S).bind fun r => some (.rt (.fr r.1) r.2) : Option Out) := rfl
@[simp] theorem ev_kIfS (t : Sl → Option (Bool × Sl)) (f g : Sl → Option Out) (S : Sl) : kIfS t f g S = ((t S).bind fun r => if r.1 = true then f r.2 else g r.2 : Option Out) := rfl
@[simp] theorem ev_kSet (i : Nat) (f : Sl → Option (D × Sl)) (S : Sl) : kSet i f S = ((f S).bind fun r => some (.nx (r.2.set i (.fz r.1))) : Option Out) := rfl
@[simp] theorem ev_kSetF (i : Nat) (f : Sl → Option (Ob × Sl)) (S : Sl) : kSetF i f S = ((f S).bind fun r => some (.nx (r.2.set i (.ow false r.1))) : Option Out) := rfl
@[simp] theorem ev_kAsg (f : Sl → Option (D × Sl)) (tg : D → Sl → Option Sl) (S : Sl) : kAsg f tg S = ((f S).bind fun r => (tg r.1 r.2).bind fun S1 => some (.nx S1) : Option Out) := rfl
@[simp] theorem ev_kUn (is : List Nat) (f : Sl → Option Out) (S : Sl) : kUn is f S = ((f S).bind fun r => match r with
  | .nx S1 => some (.nx (unS S1 is))
  | .rt r S1 => some (.rt r S1)
  | .bk S1 => some (.bk (unS S1 is))
  | .ct S1 => some (.ct (unS S1 is)) : Option Out) := rfl
@[simp] theorem ev_kNo (S : Sl) : kNo S = (none : Option Out) := rfl
@[simp] theorem ev_kCall (F : List SS → Option (RV × List SS)) (fa : Sl → Option (List (D ⊕ Nat) × Sl)) (S : Sl) : kCall F fa S = ((fa S).bind fun q => if (lentIx q.1).Nodup then (lentAll q.2 q.1).bind fun as => (F as).bind fun r => (backS q.2 q.1 r.2).bind fun S' => some (r.1, S') else none : Option (RV × Sl)) := rfl
@[simp] theorem ev_kANil (S : Sl) : kANil S = (some ([], S) : Option (List (D ⊕ Nat) × Sl)) := rfl
@[simp] theorem ev_kACons (f : Sl → Option (D × Sl)) (g : Sl → Option (List (D ⊕ Nat) × Sl)) (S : Sl) : kACons f g S = ((f S).bind fun r => (g r.2).bind fun q => some (.inl r.1 :: q.1, q.2) : Option (List (D ⊕ Nat) × Sl)) := rfl
@[simp] theorem ev_kALent (i : Nat) (g : Sl → Option (List (D ⊕ Nat) × Sl)) (S : Sl) : kALent i g S = (match S[i]? with
  | some (.ow _ _) => (g S).bind fun q => some (.inr i :: q.1, q.2)
  | _ => none : Option (List (D ⊕ Nat) × Sl)) := rfl
@[simp] theorem ev_kPar (is : List Nat) (f : Sl → Option (List RV × Sl)) (S : Sl) : kPar is f S = ((f S).bind fun r => if r.1.length = is.length then some (.nx (setAll r.2 is r.1)) else none : Option Out) := rfl
@[simp] theorem ev_kFor (fi : Sl → Option (List D × Sl)) (tg : D → Sl → Option Sl) (body : Sl → Option Out) (S : Sl) : kFor fi tg body S = ((fi S).bind fun q => forS tg body q.1 q.2 : Option Out) := rfl
@[simp] theorem ev_kYes (S : Sl) : kYes S = (some (true, S) : Option (Bool × Sl)) := rfl
@[simp] theorem ev_kLC (fi : Sl → Option (List D × Sl)) (tg : D → Sl → Option Sl) (tt : Sl → Option (Bool × Sl)) (te : Sl → Option (D × Sl)) (vs : List Nat) (S : Sl) : kLC fi tg tt te vs S = ((fi S).bind fun q => (lcS tg tt te vs q.1 [] (unS q.2 vs)).bind fun r => some (.lst r.1, unS r.2 vs) : Option (Ob × Sl)) := rfl
@[simp] theorem ev_kO0 (S : Sl) : kO0 S = (some (none, S) : Option (Option Int × Sl)) := rfl
@[simp] theorem ev_kO1 (f : Sl → Option (D × Sl)) (S : Sl) : kO1 f S = ((f S).bind fun r => match r.1 with
  | .int i => some (some i, r.2)
  | _ => none : Option (Option Int × Sl)) := rfl
@[simp] theorem ev_kSl (f : Sl → Option (D × Sl)) (fl fh : Sl → Option (Option Int × Sl)) (S : Sl) : kSl f fl fh S = ((f S).bind fun r => (fl r.2).bind fun l => (fh l.2).bind fun h => (gSl r.1 l.1 h.1).bind fun d => some (d, h.2) : Option (D × Sl)) := rfl
@[simp] theorem ev_kSlv (i : Nat) (fl fh : Sl → Option (Option Int × Sl)) (S : Sl) : kSlv i fl fh S = ((vw S i).bind fun _ => (fl S).bind fun l => (fh l.2).bind fun h => (vw h.2 i).bind fun x => (gSl x l.1 h.1).bind fun d => some (d, h.2) : Option (D × Sl)) := rfl
@[simp] theorem ev_kI (f : Sl → Option (D × Sl)) (S : Sl) : kI f S = ((f S).bind fun r => (itemsD r.1).bind fun ds => some (ds, r.2) : Option (List D × Sl)) := rfl
@[simp] theorem ev_kEn (f : Sl → Option (D × Sl)) (S : Sl) : kEn f S = ((f S).bind fun r => (itemsD r.1).bind fun ds => some (enumD ds, r.2) : Option (List D × Sl)) := rfl
@[simp] theorem ev_kR1 (f : Sl → Option (List D × Sl)) (S : Sl) : kR1 f S = ((f S).bind fun r => match r.1 with
  | [.int j] => if j.natAbs < 2 ^ 60 then some (rangeD 0 j.toNat, r.2) else none
  | _ => none : Option (List D × Sl)) := rfl
@[simp] theorem ev_kR2 (f : Sl → Option (List D × Sl)) (S : Sl) : kR2 f S = ((f S).bind fun r => match r.1 with
  | [.int i, .int j] => if i.natAbs < 2 ^ 60 ∧ j.natAbs < 2 ^ 60 then some (rangeD i (j - i).toNat, r.2) else none
  | _ => none : Option (List D × Sl)) := rfl
@[simp] theorem ev_kF1 (g : D → Option (List D)) (f : Sl → Option (D × Sl)) (S : Sl) : kF1 g f S = ((f S).bind fun r => (g r.1).bind fun ds => some (.lst ds, r.2) : Option (Ob × Sl)) := rfl
@[simp] theorem ev_kM (T : String) (g : D → D → Option D) (f1 f2 : Sl → Option (D × Sl)) (S : Sl) : kM T g f1 f2 S = ((f1 S).bind fun r => if tyD T r.1 = true then (f2 r.2).bind fun q => (g r.1 q.1).bind fun d => some (d, q.2) else none : Option (D × Sl)) := rfl
@[simp] theorem ev_kMv (T : String) (g : D → D → Option D) (i : Nat) (f2 : Sl → Option (D × Sl)) (S : Sl) : kMv T g i f2 S = ((vw S i).bind fun y => if tyD T y = true then (f2 S).bind fun q => (vw q.2 i).bind fun x => (g x q.1).bind fun d => some (d, q.2) else none : Option (D × Sl)) := rfl
@[simp] theorem ev_kCatF (f1 f2 : Sl → Option (D × Sl)) (S : Sl) : kCatF f1 f2 S = ((f1 S).bind fun r => (f2 r.2).bind fun q => match r.1, q.1 with
  | .list xs, .list ys => if xs.length + ys.length ≤ 1000000 then some (.lst (xs ++ ys), q.2) else none
  | _, _ => none : Option (Ob × Sl)) := rfl
@[simp] theorem ev_kRepF (ff : Sl → Option (Ob × Sl)) (f2 : Sl → Option (D × Sl)) (S : Sl) : kRepF ff f2 S = ((ff S).bind fun r => (f2 r.2).bind fun q => match r.1, q.1 with
  | .lst xs, .int k => if -1000 ≤ k ∧ k ≤ 1000 ∧ xs.length ≤ 1000 then some (.lst (List.replicate k.toNat xs).flatten, q.2) else none
  | _, _ => none : Option (Ob × Sl)) := rfl
@[simp] theorem ev_kApp (i : Nat) (f : Sl → Option (D × Sl)) (S : Sl) : kApp i f S = ((vw S i).bind fun y => if tyD "list" y = true then (f S).bind fun q => match q.2[i]? with
  | some (.ow l (.lst ds)) => if ds.length < 1000000 then some (.nx (q.2.set i (.ow l (.lst (ds ++ [q.1]))))) else none
  | _ => none
  else none : Option Out) := rfl
@[simp] theorem ev_kExt (i : Nat) (ff : Sl → Option (Ob × Sl)) (S : Sl) : kExt i ff S = ((vw S i).bind fun y => if tyD "list" y = true then (ff S).bind fun q => match q.1, q.2[i]? with
  | .lst es, some (.ow l (.lst ds)) => if ds.length + es.length ≤ 1000000 then some (.nx (q.2.set i (.ow l (.lst (ds ++ es))))) else none
  | _, _ => none
  else none : Option Out) := rfl
@[simp] theorem ev_kDGet (i : Nat) (f : Sl → Option (D × Sl)) (S : Sl) : kDGet i f S = ((vd S i).bind fun _ => (f S).bind fun q => (vd q.2 i).bind fun o => (obGet o q.1).bind fun r => r.map fun d => (d, q.2) : Option (D × Sl)) := rfl
@[simp] theorem ev_kDIn (neg : Bool) (f : Sl → Option (D × Sl)) (i : Nat) (S : Sl) : kDIn neg f i S = ((f S).bind fun q => (vd q.2 i).bind fun o => (obGet o q.1).bind fun r => some (.bool (if neg = true then !r.isSome else r.isSome), q.2) : Option (D × Sl)) := rfl
@[simp] theorem ev_kDGet2 (i : Nat) (f1 f2 : Sl → Option (D × Sl)) (S : Sl) : kDGet2 i f1 f2 S = ((vd S i).bind fun _ => (f1 S).bind fun q => (f2 q.2).bind fun z => (vd z.2 i).bind fun o => (obGet o q.1).bind fun r => some (r.getD z.1, z.2) : Option (D × Sl)) := rfl
@[simp] theorem ev_kDisp (l : List ((Sl → Option (D × Sl)) × (Sl → Option (D × Sl)))) (S : Sl) : kDisp l S = ((kPairs l S).bind fun q => (keysK q.1).bind fun kvs => if kvs.length ≤ 15 then some (.dk (kvs.foldl (fun acc p => dput acc p.1 p.2) []), q.2) else none : Option (Ob × Sl)) := rfl
@[simp] theorem ev_kDn (S : Sl) : kDn S = (some (.dn [], S) : Option (Ob × Sl)) := rfl
@[simp] theorem ev_kDisp1 (f1 f2 : Sl → Option (D × Sl)) (S : Sl) : kDisp1 f1 f2 S = ((f1 S).bind fun q => (f2 q.2).bind fun z => (obPut (.dn []) q.1 z.1).bind fun o => some (o, z.2) : Option (Ob × Sl)) := rfl
@[simp] theorem ev_kListD (i : Nat) (S : Sl) : kListD i S = (match vd S i with
  | some (.dn kvs) => if kvs.length ≤ 1000000 then some (.lst (kvs.map fun p => p.1.data), S) else none
  | _ => none : Option (Ob × Sl)) := rfl
@[simp] theorem ev_kID (i : Nat) (S : Sl) : kID i S = (match S[i]? with
  | some (.ow false (.dn kvs)) => some (kvs.map fun p => p.1.data, S.set i (.fd (.dn kvs)))
  | _ => none : Option (List D × Sl)) := rfl
@[simp] theorem ev_kMove (i j : Nat) (S : Sl) : kMove i j S = (match S[j]? with
  | some (.ow false o) => some (.nx ((S.set j .un).set i (.ow false o)))
  | _ => none : Option Out) := rfl
@[simp] theorem ev_kAug (g : D → D → Option D) (i : Nat) (f : Sl → Option (D × Sl)) (S : Sl) : kAug g i f S = (match S[i]? with
  | some (.fz x) => (f S).bind fun q => (g x q.1).bind fun z => some (.nx (q.2.set i (.fz z)))
  | _ => none : Option Out) := rfl
@[simp] theorem ev_kSortU (f : Sl → Option (D × Sl)) (S : Sl) : kSortU f S = ((f S).bind fun r => match r.1 with
  | .tuple ds => (intsOf ds).bind fun ns => if ns.length ≤ 60 then some (.lst ((sortU ns).map .int), r.2) else none
  | _ => none : Option (Ob × Sl)) := rfl
@[simp] theorem ev_kCallM (F : List SS → Option (RV × List SS)) (fm : Sl → Option (List RV × Sl)) (S : Sl) : kCallM F fm S = ((fm S).bind fun q => (F (q.1.map rvS)).bind fun r => some (r.1, q.2) : Option (RV × Sl)) := rfl
@[simp] theorem ev_kCall0 (F : List SS → Option (RV × List SS)) (S : Sl) : kCall0 F S = ((F []).bind fun r => some (r.1, S) : Option (RV × Sl)) := rfl
@[simp] theorem ev_kCallK (F : List SS → Option (RV × List SS)) (n : Nat) (perm : List Nat) (fk : Sl → Option (List D × Sl)) (S : Sl) : kCallK F n perm fk S = ((fk S).bind fun q => if q.1.length = n then (F ((sel perm q.1).map SS.fz)).bind fun r => some (r.1, q.2) else none : Option (RV × Sl)) := rfl
@[simp] theorem ev_kRg1 (f : Sl → Option (D × Sl)) (S : Sl) : kRg1 f S = ((f S).bind fun r => match r.1 with
  | .int j => if j.natAbs < 2 ^ 60 then some ((0, j), r.2) else none
  | _ => none : Option ((Int × Int) × Sl)) := rfl
@[simp] theorem ev_kRg2 (f g : Sl → Option (D × Sl)) (S : Sl) : kRg2 f g S = ((f S).bind fun r => (g r.2).bind fun q => match r.1, q.1 with
  | .int i, .int j => if i.natAbs < 2 ^ 60 ∧ j.natAbs < 2 ^ 60 then some ((i, j), q.2) else none
  | _, _ => none : Option ((Int × Int) × Sl)) := rfl
@[simp] theorem ev_kRev (f : Sl → Option ((Int × Int) × Sl)) (S : Sl) : kRev f S = ((f S).bind fun r => if r.1.1.natAbs < 2 ^ 60 ∧ r.1.2.natAbs < 2 ^ 60 then some (revD r.1.1 r.1.2, r.2) else none : Option (List D × Sl)) := rfl
@[simp] theorem ev_kLRg (f : Sl → Option ((Int × Int) × Sl)) (S : Sl) : kLRg f S = ((f S).bind fun r => if r.1.1.natAbs < 2 ^ 60 ∧ r.1.2.natAbs < 2 ^ 60 ∧ (r.1.2 - r.1.1).toNat ≤ 1000000 then some (.lst (rangeD r.1.1 (r.1.2 - r.1.1).toNat), r.2) else none : Option (Ob × Sl)) := rfl
@[simp] theorem ev_kRetO (i : Nat) (S : Sl) : kRetO i S = (match S[i]? with
  | some (.ow false o) => some (.rt (.fr o) (S.set i .un))
  | _ => none : Option Out) := rfl
@[simp] theorem ev_kIfF (t : Sl → Option (Bool × Sl)) (f g : Sl → Option (Ob × Sl)) (S : Sl) : kIfF t f g S = ((t S).bind fun r => if r.1 = true then f r.2 else g r.2 : Option (Ob × Sl)) := rfl
@[simp] theorem ev_gN (i : Nat) (d : D) (S : Sl) : gN i d S = some (S.set i (.fz d)) := rfl
@[simp] theorem ev_rvE (f : Sl → Option (RV × Sl)) (S : Sl) : rvE f S = (f S).bind fun r => match r.1 with
  | .dt d => some (d, r.2)
  | .fr (.lst ds) => some (.list ds, r.2)
  | _ => none := rfl
@[simp] theorem ev_rvF (f : Sl → Option (RV × Sl)) (S : Sl) : rvF f S = (f S).bind fun r => match r.1 with
  | .fr o => some (o, r.2)
  | _ => none := rfl
@[simp] theorem ev_kNx (S : Sl) : kNx S = some (.nx S) := rfl
@[simp] theorem ev_kDef (n N : Nat) (body : Sl → Option Out) (as : List SS) : kDef n N body as = if as.length = n then (body (as ++ List.replicate (N - n) .un)).bind (flow as) else none := rfl
end VD
/-! PL3: the operations on rows of ints. -/
namespace VD
open PySem PySem.Spec PyProof.Rows L2
theorem enum_map (l : List Int) : enumD (l.map .int) = l.zipIdx.map fun p : Int × Nat => PyData.tuple [.int (p.2 : Nat), .int p.1] := by
  unfold enumD
  rw [List.zipIdx_map, List.map_map]
  rfl
theorem lcS_all {β : Type} {tg : D → Sl → Option Sl} {te : Sl → Option (D × Sl)} {vs : List Nat} {enc : β → D} {S : Sl} (f : β → D) (xs : List β) (hl : xs.length < 1000000)
    (h : ∀ x ∈ xs, ∃ S1 S3, tg (enc x) S = some S1 ∧ te S1 = some (f x, S3) ∧ unS S1 vs = S ∧ unS S3 vs = S) : lcS tg kYes te vs (xs.map enc) [] S = some (xs.map f, S) := by
  have g := lcS_map (tg := tg) (tt := kYes) (te := te) (vs := vs) (enc := enc) (S := S) (fun _ => true) f xs [] (by simpa using hl) fun x hx => by
    obtain ⟨S1, S3, h1, h2, h3, h4⟩ := h x hx
    exact ⟨S1, S1, h1, rfl, h3, fun _ => ⟨S3, h2, h4⟩⟩
  rw [List.nil_append, List.filter_eq_self.mpr (fun _ _ => rfl)] at g
  exact g
theorem any_eqv (x : Int) (l : List Int) : (l.map PyData.int).any (fun d => PyData.eqv d (.int x)) = decide (x ∈ l) := by
  induction l with
  | nil => simp
  | cons y l ih =>
    rw [List.map_cons, List.any_cons, ih]
    by_cases h : x = y
    · subst h; simp [PyData.eqv]
    · have h' : ¬ y = x := fun e => h e.symm
      simp [PyData.eqv, h, h']
theorem in_ints (x : Int) (l : List Int) : gIn (.int x) (dL l) = some (.bool (decide (x ∈ l))) := by
  simp only [gIn, inD, PyData.depth, any_eqv]
  simp
theorem in_intsT (x : Int) (l : List Int) : gIn (.int x) (dT l) = some (.bool (decide (x ∈ l))) := by
  simp only [gIn, inD, PyData.depth, any_eqv]
  simp
theorem notIn_ints (x : Int) (l : List Int) : gNotIn (.int x) (dL l) = some (.bool (!decide (x ∈ l))) := by
  simp only [gNotIn, inD, PyData.depth, any_eqv]
  simp
theorem notIn_intsT (x : Int) (l : List Int) : gNotIn (.int x) (dT l) = some (.bool (!decide (x ∈ l))) := by
  simp only [gNotIn, inD, PyData.depth, any_eqv]
  simp
def leI (rev : Bool) (a b : Int) : Bool := if rev then decide (b ≤ a) else decide (a ≤ b)
theorem insBy_map {α β : Type} {f : α → β} {le : β → β → Bool} {le' : α → α → Bool} (h : ∀ a b, le (f a) (f b) = le' a b) (a : α) : ∀ l : List α, insBy le (f a) (l.map f) = (insBy le' a l).map f
  | [] => rfl
  | b :: l => by
    rw [List.map_cons]
    unfold insBy
    rw [h]
    split
    · rfl
    · rw [insBy_map h a l]; rfl
theorem isort_map {α β : Type} {f : α → β} {le : β → β → Bool} {le' : α → α → Bool} (h : ∀ a b, le (f a) (f b) = le' a b) : ∀ l : List α, isort le (l.map f) = (isort le' l).map f
  | [] => rfl
  | a :: l => by
    show insBy le (f a) (isort le (l.map f)) = _
    rw [isort_map h l]
    exact insBy_map h a _
theorem dataLe_leI (rev : Bool) (a b : Int) : PySem.W.dataLe rev id (.int a : D) (.int b) = leI rev a b := by
  cases rev with
  | true => exact congrFun (congrFun (PySem.W.dataGe_int (fun x : Int => x)) a) b
  | false => exact congrFun (congrFun (PySem.W.dataLe_int (fun x : Int => x)) a) b
theorem sort_ints (rev : Bool) (l : List Int) (hl : l.length ≤ 1000000) : sortG rev (l.map .int) = some ((isort (leI rev) l).map .int) := by
  have h1 : alikeB (l.map PyData.int) = true := by
    unfold alikeB
    simp [List.all_eq_true, PySem.W.alike]
  have h2 : noNone (l.map PyData.int) = true := by
    unfold noNone
    simp [List.all_eq_true, isNo]
  have h3 : noTupB (l.map PyData.int) = true := by
    unfold noTupB
    simp [List.all_eq_true]
  have h4 : PyData.depthAll (l.map PyData.int) ≤ 60 := by
    rw [PySem.W.depth_ints]
    omega
  unfold sortG
  rw [if_pos ⟨h1, h2, .inr (.inr h3), h4, by simpa using hl⟩, isort_map (dataLe_leI rev)]
theorem forS_foldN {α β : Type} {tg : D → Sl → Option Sl} {body : Sl → Option Out} {enc : β → D} (st : α → Sl) (step : α → β → α) (I : Nat → α → Prop) : ∀ (xs : List β) (n : Nat) (a : α), I n a →
    (∀ m a, I m a → m < n + xs.length → ∀ x ∈ xs, ((tg (enc x) (st a)).bind body = some (.nx (st (step a x))) ∧ I (m + 1) (step a x))) → forS tg body (xs.map enc) (st a) = some (.nx (st (xs.foldl step a))) ∧ I (n + xs.length) (xs.foldl step a)
  | [], n, a, ha, _ => ⟨rfl, ha⟩
  | x :: xs, n, a, ha, h => by
    obtain ⟨h1, h2⟩ := h n a ha (by simp) x List.mem_cons_self
    have ih := forS_foldN st step I xs (n + 1) (step a x) h2 fun m b hb hm y hy => h m b hb (by simp; omega) y (List.mem_cons_of_mem _ hy)
    refine ⟨?_, by have := ih.2; simp only [List.length_cons, List.foldl_cons]; rw [show n + (xs.length + 1) = n + 1 + xs.length by omega]; exact this⟩
    rw [List.map_cons]
    unfold forS
    cases e : tg (enc x) (st a) with
    | none => rw [e] at h1; cases h1
    | some S1 =>
      rw [e] at h1
      show (body S1).bind _ = _
      rw [show body S1 = _ from h1]
      exact ih.1
theorem cut_tail (ds : List D) : VD.cutD ds (some 1) none = ds.drop 1 := by
  unfold VD.cutD
  rw [show HT.sIx ds.length 0 (some 1) = min 1 ds.length from HT.sIx_nat ds.length 0 1, HT.sIx_none]
  cases ds with
  | nil => rfl
  | cons x r =>
    rw [show min 1 (x :: r).length = 1 by rw [List.length_cons]; omega]
    show List.take ((x :: r).length - 1) r = r
    rw [List.length_cons, Nat.add_sub_cancel]
    exact List.take_length
theorem insBy_len {α : Type} (le : α → α → Bool) (a : α) : ∀ l : List α, (insBy le a l).length = l.length + 1
  | [] => rfl
  | b :: l => by
    unfold insBy
    split
    · rfl
    · simp [insBy_len le a l]
theorem isort_len {α : Type} (le : α → α → Bool) : ∀ l : List α, (isort le l).length = l.length
  | [] => rfl
  | a :: l => by
    show (insBy le a (isort le l)).length = _
    rw [insBy_len, isort_len le l]
    rfl
end VD
/-! WL0: listings. -/
namespace VD
open PySem PySem.Spec PyProof.Rows L2
abbrev nI (i : Nat) : D := .int (i : Int)
abbrev nT (l : List Nat) : D := .tuple (l.map nI)
abbrev nL (l : List Nat) : D := .list (l.map nI)
theorem nI_ints (l : List Nat) : l.map nI = (l.map fun i : Nat => (i : Int)).map .int := by
  rw [List.map_map]
  rfl
theorem getD_get (l : List Nat) (i : Nat) (h : i < l.length) : l.getD i 0 = l[i] := by simp [h]
theorem range_nI (n : Nat) : rangeD 0 n = (List.range n).map nI := by
  unfold rangeD
  simp
theorem at_nI (l : List Nat) (i : Nat) (h : i < l.length) : atI (l.map nI) (i : Int) = some (.int ((l.getD i 0 : Nat) : Int)) := by
  rw [atI_map]
  unfold atI ixN
  rw [if_pos (by omega), if_pos (by omega)]
  simp [h]
theorem mem_cast (x : Nat) (l : List Nat) : ((x : Int) ∈ l.map fun i : Nat => (i : Int)) ↔ x ∈ l := by
  rw [List.mem_map]
  constructor
  · rintro ⟨y, hy, e⟩
    rw [← Int.ofNat.inj e]
    exact hy
  · exact fun h => ⟨x, h, rfl⟩
theorem in_nL (x : Nat) (l : List Nat) : gIn (.int (x : Int)) (nL l) = some (.bool (decide (x ∈ l))) := by
  show gIn _ (.list (l.map nI)) = _
  rw [nI_ints, in_ints]
  simp only [mem_cast]
theorem in_nT (x : Nat) (l : List Nat) : gIn (.int (x : Int)) (nT l) = some (.bool (decide (x ∈ l))) := by
  show gIn _ (.tuple (l.map nI)) = _
  rw [nI_ints, in_intsT]
  simp only [mem_cast]
theorem notIn_nL (x : Nat) (l : List Nat) : gNotIn (.int (x : Int)) (nL l) = some (.bool (!decide (x ∈ l))) := by
  show gNotIn _ (.list (l.map nI)) = _
  rw [nI_ints, notIn_ints]
  simp only [mem_cast]
theorem natcast_eq (a b : Nat) : decide ((a : Int) = (b : Int)) = decide (a = b) := by
  by_cases h : a = b
  · subst h; simp
  · have h' : ¬ (a : Int) = (b : Int) := fun e => h (Int.ofNat.inj e)
    simp [h, h']
theorem idx_cast (x : Nat) : ∀ l : List Nat, (l.map fun i : Nat => (i : Int)).idxOf (x : Int) = l.idxOf x
  | [] => rfl
  | y :: l => by
    rw [List.map_cons, List.idxOf_cons, List.idxOf_cons, idx_cast x l]
    rw [show ((y : Int) == (x : Int)) = (y == x) from natcast_eq y x]
theorem index_nT (x : Nat) (l : List Nat) (h : x ∈ l) : gIndexT (nT l) (.int (x : Int)) = some (.int ((l.idxOf x : Nat) : Int)) := by
  show (intsOf (l.map nI)).bind _ = _
  rw [nI_ints, intsOf_map]
  show (if _ then _ else _) = _
  rw [if_pos ((mem_cast x l).mpr h), idx_cast]
theorem gNe_int (a b : Int) : gNe (.int a) (.int b) = some (.bool (!decide (a = b))) := by
  unfold gNe
  rw [if_pos (.inl (Nat.zero_le 60))]
  simp [PyData.eqv]
  rfl
theorem gEq_int (a b : Int) : gEq (.int a) (.int b) = some (.bool (decide (a = b))) := by
  unfold gEq
  rw [if_pos (.inl (Nat.zero_le 60))]
  simp [PyData.eqv]
  rfl
/-- a loop with a state that is only known to be there -/
theorem forS_ex {α β : Type} {tg : D → Sl → Option Sl} {body : Sl → Option Out} {enc : β → D} (st : α → Sl) (I : List β → α → Prop) : ∀ (xs : List β) (a : α), I xs a →
    (∀ x r a, I (x :: r) a → ∃ a', (tg (enc x) (st a)).bind body = some (.nx (st a')) ∧ I r a') → ∃ a', forS tg body (xs.map enc) (st a) = some (.nx (st a')) ∧ I [] a'
  | [], a, ha, _ => ⟨a, rfl, ha⟩
  | x :: xs, a, ha, h => by
    obtain ⟨a1, h1, h2⟩ := h x xs a ha
    obtain ⟨a2, h3, h4⟩ := forS_ex st I xs a1 h2 h
    refine ⟨a2, ?_, h4⟩
    rw [List.map_cons]
    unfold forS
    cases e : tg (enc x) (st a) with
    | none => rw [e] at h1; cases h1
    | some S1 =>
      rw [e] at h1
      show (body S1).bind _ = _
      rw [show body S1 = _ from h1]
      exact h3
/-! ### listings -/
theorem nodup_le {α : Type} [DecidableEq α] : ∀ (l m : List α), l.Nodup → (∀ x ∈ l, x ∈ m) → l.length ≤ m.length
  | [], _, _, _ => Nat.zero_le _
  | x :: l, m, h, hs => by
    have hx := hs x List.mem_cons_self
    have h2 := List.nodup_cons.mp h
    have ih := nodup_le l (m.erase x) h2.2 fun y hy => by
      have hne : y ≠ x := fun e => h2.1 (e ▸ hy)
      exact (List.mem_erase_of_ne hne).mpr (hs y (List.mem_cons_of_mem x hy))
    rw [List.length_erase_of_mem hx] at ih
    have : 0 < m.length := List.length_pos_of_mem hx
    simp only [List.length_cons]
    omega
def Pm (n : Nat) (r : List Nat) : Prop := r.Perm (List.range n)
abbrev pa (r : List Nat) (i : Nat) : Nat := r.getD i 0
theorem Pm.len {n : Nat} {r : List Nat} (h : Pm n r) : r.length = n := by
  have := List.Perm.length_eq h
  simpa using this
theorem Pm.mem {n : Nat} {r : List Nat} (h : Pm n r) (k : Nat) : k ∈ r ↔ k < n := by
  rw [List.Perm.mem_iff h, List.mem_range]
theorem Pm.nd {n : Nat} {r : List Nat} (h : Pm n r) : r.Nodup := (List.Perm.nodup_iff h).mpr List.nodup_range
theorem Pm.lt {n : Nat} {r : List Nat} (h : Pm n r) {i : Nat} (hi : i < n) : pa r i < n := by
  have hl : i < r.length := by rw [h.len]; exact hi
  show r.getD i 0 < n
  rw [getD_get _ _ hl]
  exact (h.mem _).mp (List.getElem_mem hl)
theorem Pm.inj {n : Nat} {r : List Nat} (h : Pm n r) {i j : Nat} (hi : i < n) (hj : j < n) (e : pa r i = pa r j) : i = j := by
  have hl : i < r.length := by rw [h.len]; exact hi
  have hk : j < r.length := by rw [h.len]; exact hj
  have e2 : r.getD i 0 = r.getD j 0 := e
  rw [getD_get _ _ hl, getD_get _ _ hk] at e2
  refine (List.getElem?_inj hl h.nd).mp ?_
  rw [List.getElem?_eq_getElem hl, List.getElem?_eq_getElem hk, e2]
theorem pm_of {n : Nat} {l : List Nat} (nd : l.Nodup) (hs : ∀ x ∈ l, x < n) (hl : l.length = n) : Pm n l := by
  refine (List.perm_ext_iff_of_nodup nd List.nodup_range).mpr fun k => ?_
  rw [List.mem_range]
  refine ⟨hs k, fun hk => ?_⟩
  refine Classical.byContradiction fun hn => ?_
  have := nodup_le (k :: l) (List.range n) (List.nodup_cons.mpr ⟨hn, nd⟩) fun x hx => by
    rcases List.mem_cons.mp hx with rfl | hx
    · exact List.mem_range.mpr hk
    · exact List.mem_range.mpr (hs x hx)
  simp at this
  omega
theorem nodup_map {α β : Type} (f : α → β) : ∀ l : List α, l.Nodup → (∀ x ∈ l, ∀ y ∈ l, f x = f y → x = y) → (l.map f).Nodup
  | [], _, _ => List.nodup_nil
  | x :: l, h, hi => by
    have h2 := List.nodup_cons.mp h
    rw [List.map_cons, List.nodup_cons]
    refine ⟨fun hm => ?_, nodup_map f l h2.2 fun a ha b hb => hi a (List.mem_cons_of_mem _ ha) b (List.mem_cons_of_mem _ hb)⟩
    obtain ⟨y, hy, e⟩ := List.mem_map.mp hm
    exact h2.1 (hi y (List.mem_cons_of_mem _ hy) x List.mem_cons_self e ▸ hy)
theorem pm_map {n : Nat} (f : Nat → Nat) (hb : ∀ i < n, f i < n) (hi : ∀ i < n, ∀ j < n, f i = f j → i = j) : Pm n ((List.range n).map f) := by
  refine pm_of (nodup_map f _ List.nodup_range fun x hx y hy => hi x (List.mem_range.mp hx) y (List.mem_range.mp hy)) (fun x hx => ?_) (by simp)
  obtain ⟨i, h, rfl⟩ := List.mem_map.mp hx
  exact hb i (List.mem_range.mp h)
theorem pa_map (n : Nat) (f : Nat → Nat) {i : Nat} (hi : i < n) : pa ((List.range n).map f) i = f i := by
  show ((List.range n).map f).getD i 0 = f i
  rw [getD_get _ _ (by simpa using hi)]
  simp
def inv (n : Nat) (r : List Nat) : List Nat := (List.range n).map fun k => r.idxOf k
theorem Pm.idx {n : Nat} {r : List Nat} (h : Pm n r) {k : Nat} (hk : k < n) : r.idxOf k < n ∧ pa r (r.idxOf k) = k := by
  have hm := (h.mem k).mpr hk
  have hl := List.idxOf_lt_length_of_mem hm
  refine ⟨by rw [← h.len]; exact hl, ?_⟩
  show r.getD (r.idxOf k) 0 = k
  rw [getD_get _ _ hl]
  exact List.getElem_idxOf hl
theorem inv_pa {n : Nat} {r : List Nat} {k : Nat} (hk : k < n) : pa (inv n r) k = r.idxOf k := pa_map n _ hk
theorem Pm.inv {n : Nat} {r : List Nat} (h : Pm n r) : Pm n (VD.inv n r) := pm_map _ (fun i hi => (h.idx hi).1) fun i hi j hj e => by
  have h1 := (h.idx hi).2
  have h2 := (h.idx hj).2
  rw [e, h2] at h1
  exact h1.symm
theorem Pm.right {n : Nat} {r : List Nat} (h : Pm n r) {k : Nat} (hk : k < n) : pa r (pa (VD.inv n r) k) = k := by
  rw [inv_pa hk]
  exact (h.idx hk).2
theorem Pm.left {n : Nat} {r : List Nat} (h : Pm n r) {k : Nat} (hk : k < n) : pa (VD.inv n r) (pa r k) = k := by
  have h1 := h.lt hk
  rw [inv_pa h1]
  have h2 := h.idx h1
  exact h.inj h2.1 hk h2.2
end VD
/-! WL1: the rounds of a listing. -/
namespace VD
open PySem PySem.Spec PyProof.Rows L2
def it (r : List Nat) : Nat → Nat → Nat
  | 0, s => s
  | k + 1, s => pa r (it r k s)
theorem it_add (r : List Nat) : ∀ (j k s : Nat), it r (j + k) s = it r j (it r k s)
  | 0, k, s => by rw [Nat.zero_add]; rfl
  | j + 1, k, s => by
    rw [Nat.add_right_comm]
    show pa r (it r (j + k) s) = pa r (it r j (it r k s))
    rw [it_add r j k s]
theorem it_lt {n : Nat} {r : List Nat} (h : Pm n r) : ∀ (k : Nat) {s : Nat}, s < n → it r k s < n
  | 0, _, hs => hs
  | k + 1, _, hs => h.lt (it_lt h k hs)
theorem it_inj {n : Nat} {r : List Nat} (h : Pm n r) : ∀ (k : Nat) {x y : Nat}, x < n → y < n → it r k x = it r k y → x = y
  | 0, _, _, _, _, e => e
  | k + 1, _, _, hx, hy, e => it_inj h k hx hy (h.inj (it_lt h k hx) (it_lt h k hy) e)
theorem it_back {n : Nat} {r : List Nat} (h : Pm n r) {s : Nat} (hs : s < n) {i j : Nat} (hij : i ≤ j) (e : it r i s = it r j s) : it r (j - i) s = s := by
  have e2 : it r i s = it r i (it r (j - i) s) := by
    rw [← it_add, Nat.add_sub_cancel' hij]
    exact e
  exact (it_inj h i hs (it_lt h _ hs) e2).symm
theorem per_ex {n : Nat} {r : List Nat} (h : Pm n r) {s : Nat} (hs : s < n) : ∃ k, 1 ≤ k ∧ k ≤ n ∧ it r k s = s := by
  refine Classical.byContradiction fun hno => ?_
  have key : ∀ i j : Nat, i < j → j ≤ n → it r i s ≠ it r j s := fun i j hij hj e =>
    hno ⟨j - i, by omega, by omega, it_back h hs (by omega) e⟩
  have nd : ((List.range (n + 1)).map fun k => it r k s).Nodup := nodup_map _ _ List.nodup_range fun x hx y hy e => by
    have hx := List.mem_range.mp hx
    have hy := List.mem_range.mp hy
    rcases Nat.lt_trichotomy x y with q | q | q
    · exact absurd e (key x y q (by omega))
    · exact q
    · exact absurd e.symm (key y x q (by omega))
  have := nodup_le _ (List.range n) nd fun x hx => by
    obtain ⟨k, _, rfl⟩ := List.mem_map.mp hx
    exact List.mem_range.mpr (it_lt h k hs)
  simp at this
  omega
def perF (r : List Nat) (s : Nat) : Nat → Nat → Nat
  | 0, k => k
  | f + 1, k => if it r k s = s then k else perF r s f (k + 1)
def per (n : Nat) (r : List Nat) (s : Nat) : Nat := perF r s n 1
theorem perF_ok (r : List Nat) (s : Nat) : ∀ (f k : Nat), (∀ j, 1 ≤ j → j < k → it r j s ≠ s) → (∃ k0, k ≤ k0 ∧ k0 < k + f ∧ it r k0 s = s) →
    k ≤ perF r s f k ∧ perF r s f k < k + f ∧ it r (perF r s f k) s = s ∧ ∀ j, 1 ≤ j → j < perF r s f k → it r j s ≠ s
  | 0, k, _, ⟨k0, h1, h2, _⟩ => by omega
  | f + 1, k, hn, ⟨k0, h1, h2, h3⟩ => by
    unfold perF
    by_cases e : it r k s = s
    · rw [if_pos e]
      exact ⟨Nat.le_refl _, by omega, e, hn⟩
    · rw [if_neg e]
      have hne : k0 ≠ k := fun q => e (q ▸ h3)
      obtain ⟨q1, q2, q3, q4⟩ := perF_ok r s f (k + 1) (fun j hj1 hj2 => by
        by_cases q : j = k
        · rw [q]; exact e
        · exact hn j hj1 (by omega)) ⟨k0, by omega, by omega, h3⟩
      exact ⟨by omega, by omega, q3, q4⟩
theorem per_ok {n : Nat} {r : List Nat} (h : Pm n r) {s : Nat} (hs : s < n) : 1 ≤ per n r s ∧ per n r s ≤ n ∧ it r (per n r s) s = s ∧ ∀ j, 1 ≤ j → j < per n r s → it r j s ≠ s := by
  obtain ⟨k, h1, h2, h3⟩ := per_ex h hs
  obtain ⟨q1, q2, q3, q4⟩ := perF_ok r s n 1 (fun j a b => by omega) ⟨k, h1, by omega, h3⟩
  exact ⟨q1, by unfold per; omega, q3, q4⟩
def orb (n : Nat) (r : List Nat) (s : Nat) : List Nat := (List.range (per n r s)).map fun k => it r k s
theorem orb_nd {n : Nat} {r : List Nat} (h : Pm n r) {s : Nat} (hs : s < n) : (orb n r s).Nodup := by
  obtain ⟨p1, p2, p3, p4⟩ := per_ok h hs
  refine nodup_map _ _ List.nodup_range fun x hx y hy e => ?_
  have hx := List.mem_range.mp hx
  have hy := List.mem_range.mp hy
  rcases Nat.lt_trichotomy x y with q | q | q
  · exact absurd (it_back h hs (by omega) e) (p4 (y - x) (by omega) (by omega))
  · exact q
  · exact absurd (it_back h hs (by omega) e.symm) (p4 (x - y) (by omega) (by omega))
theorem orb_self {n : Nat} {r : List Nat} (h : Pm n r) {s : Nat} (hs : s < n) : s ∈ orb n r s :=
  List.mem_map.mpr ⟨0, List.mem_range.mpr (per_ok h hs).1, rfl⟩
theorem orb_lt {n : Nat} {r : List Nat} (h : Pm n r) {s : Nat} (hs : s < n) {x : Nat} (hx : x ∈ orb n r s) : x < n := by
  obtain ⟨k, _, rfl⟩ := List.mem_map.mp hx
  exact it_lt h k hs
theorem orb_len (n : Nat) (r : List Nat) (s : Nat) : (orb n r s).length = per n r s := by simp [orb]
theorem orb_next {n : Nat} {r : List Nat} (h : Pm n r) {s : Nat} (hs : s < n) {x : Nat} (hx : x ∈ orb n r s) : pa r x ∈ orb n r s := by
  obtain ⟨p1, p2, p3, p4⟩ := per_ok h hs
  obtain ⟨k, hk, rfl⟩ := List.mem_map.mp hx
  have hk := List.mem_range.mp hk
  by_cases q : k + 1 < per n r s
  · exact List.mem_map.mpr ⟨k + 1, List.mem_range.mpr q, rfl⟩
  · have e : k + 1 = per n r s := by omega
    have : pa r (it r k s) = s := by
      show it r (k + 1) s = s
      rw [e]; exact p3
    show pa r (it r k s) ∈ orb n r s
    rw [this]
    exact orb_self h hs
theorem orb_it {n : Nat} {r : List Nat} (h : Pm n r) {s : Nat} (hs : s < n) : ∀ k : Nat, it r k s ∈ orb n r s
  | 0 => orb_self h hs
  | k + 1 => orb_next h hs (orb_it h hs k)
theorem orb_sub {n : Nat} {r : List Nat} (h : Pm n r) {s : Nat} (hs : s < n) {x : Nat} (hx : x ∈ orb n r s) {y : Nat} (hy : y ∈ orb n r x) : y ∈ orb n r s := by
  obtain ⟨k, _, rfl⟩ := List.mem_map.mp hx
  obtain ⟨j, _, rfl⟩ := List.mem_map.mp hy
  rw [← it_add]
  exact orb_it h hs _
theorem orb_symm {n : Nat} {r : List Nat} (h : Pm n r) {s : Nat} (hs : s < n) {x : Nat} (hx : x ∈ orb n r s) : s ∈ orb n r x := by
  obtain ⟨p1, p2, p3, p4⟩ := per_ok h hs
  have hxl := orb_lt h hs hx
  obtain ⟨k, hk, rfl⟩ := List.mem_map.mp hx
  have hk := List.mem_range.mp hk
  have e : it r (per n r s - k) (it r k s) = s := by
    rw [← it_add, Nat.sub_add_cancel (by omega)]
    exact p3
  have q : it r (per n r s - k) (it r k s) ∈ orb n r (it r k s) := orb_it h hxl _
  rw [e] at q
  exact q
/-! ### all rounds -/
def rdStep (n : Nat) (r : List Nat) (fd : List (List Nat)) (s : Nat) : List (List Nat) := if s ∈ fd.flatten then fd else fd ++ [orb n r s]
def rds (n : Nat) (r : List Nat) : List (List Nat) := (List.range n).foldl (rdStep n r) []
structure RdOk (n : Nat) (r : List Nat) (fd : List (List Nat)) : Prop where
  nd : fd.flatten.Nodup
  line : ∀ l ∈ fd, ∃ s < n, l = orb n r s
theorem RdOk.lt {n : Nat} {r : List Nat} (h : Pm n r) {fd : List (List Nat)} (R : RdOk n r fd) : ∀ x ∈ fd.flatten, x < n := fun x hx => by
  obtain ⟨l, hl, hx⟩ := List.mem_flatten.mp hx
  obtain ⟨s, hs, rfl⟩ := R.line l hl
  exact orb_lt h hs hx
theorem RdOk.cl {n : Nat} {r : List Nat} (h : Pm n r) {fd : List (List Nat)} (R : RdOk n r fd) {s : Nat} (hs : s < n) (hn : s ∉ fd.flatten) : ∀ x ∈ orb n r s, x ∉ fd.flatten := fun x hx hf => by
  obtain ⟨l, hl, hx2⟩ := List.mem_flatten.mp hf
  obtain ⟨t, ht, rfl⟩ := R.line l hl
  exact hn (List.mem_flatten.mpr ⟨_, hl, orb_sub h ht hx2 (orb_symm h hs hx)⟩)
theorem RdOk.step {n : Nat} {r : List Nat} (h : Pm n r) {fd : List (List Nat)} (R : RdOk n r fd) {s : Nat} (hs : s < n) : RdOk n r (rdStep n r fd s) ∧ s ∈ (rdStep n r fd s).flatten ∧ ∀ x ∈ fd.flatten, x ∈ (rdStep n r fd s).flatten := by
  unfold rdStep
  split
  · rename_i hm
    exact ⟨R, hm, fun _ hx => hx⟩
  · rename_i hm
    refine ⟨⟨?_, fun l hl => ?_⟩, ?_, fun x hx => ?_⟩
    · rw [List.flatten_append, List.flatten_singleton, List.nodup_append]
      exact ⟨R.nd, orb_nd h hs, fun a ha b hb e => R.cl h hs hm b hb (e ▸ ha)⟩
    · rcases List.mem_append.mp hl with hl | hl
      · exact R.line l hl
      · rw [List.mem_singleton] at hl
        exact ⟨s, hs, hl⟩
    · rw [List.flatten_append, List.flatten_singleton]
      exact List.mem_append_right _ (orb_self h hs)
    · rw [List.flatten_append]
      exact List.mem_append_left _ hx
theorem rds_fold {n : Nat} {r : List Nat} (h : Pm n r) : ∀ (xs : List Nat) (fd : List (List Nat)), (∀ x ∈ xs, x < n) → RdOk n r fd → RdOk n r (xs.foldl (rdStep n r) fd) ∧ (∀ x ∈ xs, x ∈ (xs.foldl (rdStep n r) fd).flatten) ∧ ∀ x ∈ fd.flatten, x ∈ (xs.foldl (rdStep n r) fd).flatten
  | [], fd, _, R => ⟨R, (fun _ hx => nomatch hx), fun _ hx => hx⟩
  | s :: xs, fd, hx, R => by
    obtain ⟨R2, m1, m2⟩ := R.step h (hx s List.mem_cons_self)
    obtain ⟨q1, q2, q3⟩ := rds_fold h xs _ (fun y hy => hx y (List.mem_cons_of_mem _ hy)) R2
    rw [List.foldl_cons]
    refine ⟨q1, fun y hy => ?_, fun y hy => q3 y (m2 y hy)⟩
    rcases List.mem_cons.mp hy with rfl | hy
    · exact q3 _ m1
    · exact q2 y hy
theorem rds_ok {n : Nat} {r : List Nat} (h : Pm n r) : RdOk n r (rds n r) ∧ ∀ x, x ∈ (rds n r).flatten ↔ x < n := by
  obtain ⟨q1, q2, _⟩ := rds_fold h (List.range n) [] (fun x hx => List.mem_range.mp hx) ⟨List.nodup_nil, fun _ hx => nomatch hx⟩
  exact ⟨q1, fun x => ⟨q1.lt h x, fun hx => q2 x (List.mem_range.mpr hx)⟩⟩
end VD
/-! WL2: what repr shows of numbers is short. -/
namespace VD
open PySem PySem.Spec PyProof.Rows L2
mutual
def wt : D → Nat
  | .int _ => 12
  | .list xs => wts xs + 3
  | .tuple xs => wts xs + 3
  | .none => 4
  | .bool _ => 5
  | .str _ => 0
  | .dict _ => 0
def wts : List D → Nat
  | [] => 0
  | x :: xs => wt x + 2 + wts xs
end
mutual
def okI : D → Bool
  | .int i => decide (i.natAbs < 10000000000)
  | .list xs => okIs xs
  | .tuple xs => okIs xs
  | .none => true
  | .bool _ => true
  | .str _ => false
  | .dict _ => false
def okIs : List D → Bool
  | [] => true
  | x :: xs => okI x && okIs xs
end
theorem log_small {m : Nat} (h : m < 10000000000) : m.log2 < 1920 := by
  by_cases h0 : m = 0
  · subst h0; decide
  · exact (Nat.log2_lt h0).mpr (Nat.lt_of_lt_of_le h (by decide))
mutual
theorem shown_le : ∀ d : D, okI d = true → d.shown.length ≤ wt d ∧ d.showable = true
  | .int i, h => by
    unfold okI at h
    have h := of_decide_eq_true h
    have e := int_text_length_le10 (a := i) (k := 10) (by decide) h
    unfold PyData.shown PyData.showable wt
    refine ⟨?_, decide_eq_true (log_small h)⟩
    show (Str.ofString (toString i)).length ≤ 12
    rw [PySem.ofString_length]
    omega
  | .list xs, h => by
    unfold okI at h
    obtain ⟨h1, h2⟩ := shownAll_le xs h
    unfold PyData.shown PyData.showable wt
    refine ⟨?_, h2⟩
    have := listText_len_le (PyData.shownAll xs)
    omega
  | .tuple xs, h => by
    unfold okI at h
    obtain ⟨h1, h2⟩ := shownAll_le xs h
    unfold PyData.shown PyData.showable wt
    refine ⟨?_, h2⟩
    have := tupleText_len_le (PyData.shownAll xs)
    omega
  | .none, _ => by
    unfold PyData.shown PyData.showable wt
    exact ⟨by decide, rfl⟩
  | .bool b, _ => by
    unfold PyData.shown PyData.showable wt
    refine ⟨?_, rfl⟩
    cases b <;> decide
  | .str _, h => by unfold okI at h; cases h
  | .dict _, h => by unfold okI at h; cases h
theorem shownAll_le : ∀ xs : List D, okIs xs = true → ((PyData.shownAll xs).map (·.length)).sum + 2 * (PyData.shownAll xs).length ≤ wts xs ∧ PyData.showableAll xs = true
  | [], _ => by
    unfold PyData.shownAll PyData.showableAll wts
    exact ⟨Nat.le_refl _, rfl⟩
  | x :: xs, h => by
    unfold okIs at h
    rw [Bool.and_eq_true] at h
    obtain ⟨h1, h2⟩ := shown_le x h.1
    obtain ⟨h3, h4⟩ := shownAll_le xs h.2
    unfold PyData.shownAll PyData.showableAll wts
    refine ⟨?_, by rw [h2, h4]; rfl⟩
    simp only [List.map_cons, List.sum_cons, List.length_cons]
    omega
end
theorem gRepr_ok {d : D} (h1 : okI d = true) (h2 : wt d ≤ 1000000) (h3 : d.depth ≤ 60) : (gRepr d).isSome = true := by
  obtain ⟨q1, q2⟩ := shown_le d h1
  unfold gRepr
  rw [if_pos ⟨q2, h3, Nat.le_trans q1 h2⟩]
  rfl
theorem okIs_map {α : Type} (f : α → D) : ∀ l : List α, (∀ x ∈ l, okI (f x) = true) → okIs (l.map f) = true
  | [], _ => by unfold okIs; rfl
  | x :: l, h => by
    rw [List.map_cons]
    unfold okIs
    rw [h x List.mem_cons_self, okIs_map f l fun y hy => h y (List.mem_cons_of_mem _ hy)]
    rfl
theorem wts_map {α : Type} (f : α → D) (c : Nat) : ∀ l : List α, (∀ x ∈ l, wt (f x) ≤ c) → wts (l.map f) ≤ (c + 2) * l.length
  | [], _ => by unfold wts; exact Nat.zero_le _
  | x :: l, h => by
    rw [List.map_cons]
    unfold wts
    have h1 := h x List.mem_cons_self
    have h2 := wts_map f c l fun y hy => h y (List.mem_cons_of_mem _ hy)
    rw [List.length_cons, Nat.mul_succ]
    omega
theorem depthAll_map {α : Type} (f : α → D) (c : Nat) : ∀ l : List α, (∀ x ∈ l, (f x).depth ≤ c) → PyData.depthAll (l.map f) ≤ c
  | [], _ => by
    rw [List.map_nil]
    unfold PyData.depthAll
    exact Nat.zero_le _
  | x :: l, h => by
    rw [List.map_cons]
    unfold PyData.depthAll
    exact Nat.max_le.mpr ⟨h x List.mem_cons_self, depthAll_map f c l fun y hy => h y (List.mem_cons_of_mem _ hy)⟩
end VD
namespace k13
open PySem PySem.Spec PyProof.Rows L2 VD
/-! ### the text -/
def topS (i : Nat) : Stmt := PySem.Challenge.pw_squareworlds_k13_walks_done.main.body.getD i (.Pass ⟨0, 0, 0, 0⟩)
abbrev stq_need_word : Stmt := topS 7
theorem scq_need_word : FnScope ["value", "letters", "place", "sign"] ["value", "letters"] (defScope stq_need_word) := ⟨rfl, rfl, rfl, by decide +kernel, rfl, by decide +kernel, by decide +kernel⟩
abbrev stq_back_of : Stmt := topS 4
theorem scq_back_of : FnScope ["listing", "found", "place", "entry"] ["listing"] (defScope stq_back_of) := ⟨rfl, rfl, rfl, by decide +kernel, rfl, by decide +kernel, by decide +kernel⟩
abbrev stq_led_by : Stmt := topS 10
theorem scq_led_by : FnScope ["world", "right", "up"] ["world"] (defScope stq_led_by) := ⟨rfl, rfl, rfl, by decide +kernel, rfl, by decide +kernel, by decide +kernel⟩
abbrev stq_walked : Stmt := topS 11
theorem scq_walked : FnScope ["world", "square", "walk", "led", "letter"] ["world", "square", "walk"] (defScope stq_walked) := ⟨rfl, rfl, rfl, by decide +kernel, rfl, by decide +kernel, by decide +kernel⟩
abbrev stq_go_back : Stmt := topS 12
theorem scq_go_back : FnScope ["world", "walk", "led", "ends", "letter", "square", "end"] ["world", "walk"] (defScope stq_go_back) := ⟨rfl, rfl, rfl, by decide +kernel, rfl, by decide +kernel, by decide +kernel⟩
abbrev stq_law_like : Stmt := topS 21
theorem scq_law_like : FnScope ["told", "due"] ["told", "due"] (defScope stq_law_like) := ⟨rfl, rfl, rfl, by decide +kernel, rfl, by decide +kernel, by decide +kernel⟩
abbrev stq_law_begun : Stmt := topS 18
theorem scq_law_begun : FnScope ["script", "k", "cells", "great", "cell", "seed"] ["script", "k"] (defScope stq_law_begun) := ⟨rfl, rfl, rfl, by decide +kernel, rfl, by decide +kernel, by decide +kernel⟩
abbrev stq_law_draw : Stmt := topS 19
theorem scq_law_draw : FnScope ["m", "bound", "found", "spot", "cells", "extra", "cell", "blend"] ["m", "bound"] (defScope stq_law_draw) := ⟨rfl, rfl, rfl, by decide +kernel, rfl, by decide +kernel, by decide +kernel⟩
abbrev stq_turns_in : Stmt := topS 14
theorem scq_turns_in : FnScope ["listing", "found", "seen", "first", "line", "spot"] ["listing"] (defScope stq_turns_in) := ⟨rfl, rfl, rfl, by decide +kernel, rfl, by decide +kernel, by decide +kernel⟩
abbrev stq_around : Stmt := topS 15
theorem scq_around : FnScope ["world", "right", "up", "left", "down", "square"] ["world"] (defScope stq_around) := ⟨rfl, rfl, rfl, by decide +kernel, rfl, by decide +kernel, by decide +kernel⟩
abbrev stq_corners : Stmt := topS 16
theorem scq_corners : FnScope ["world", "line"] ["world"] (defScope stq_corners) := ⟨rfl, rfl, rfl, by decide +kernel, rfl, by decide +kernel, by decide +kernel⟩
abbrev stq_law_of : Stmt := topS 20
theorem scq_law_of : FnScope ["m", "some"] ["m", "some"] (defScope stq_law_of) := ⟨rfl, rfl, rfl, by decide +kernel, rfl, by decide +kernel, by decide +kernel⟩
abbrev stq_law_walk : Stmt := topS 30
theorem scq_law_walk : FnScope ["m", "most", "k"] ["m", "most"] (defScope stq_law_walk) := ⟨rfl, rfl, rfl, by decide +kernel, rfl, by decide +kernel, by decide +kernel⟩
abbrev stq_law_back : Stmt := topS 23
theorem scq_law_back : FnScope ["row", "k"] ["row"] (defScope stq_law_back) := ⟨rfl, rfl, rfl, by decide +kernel, rfl, by decide +kernel, by decide +kernel⟩
abbrev stq_law_ends : Stmt := topS 32
theorem scq_law_ends : FnScope ["world", "walk", "led", "found", "letter", "s"] ["world", "walk"] (defScope stq_law_ends) := ⟨rfl, rfl, rfl, by decide +kernel, rfl, by decide +kernel, by decide +kernel⟩
abbrev stq_law_undone : Stmt := topS 31
theorem scq_law_undone : FnScope ["walk", "letter"] ["walk"] (defScope stq_law_undone) := ⟨rfl, rfl, rfl, by decide +kernel, rfl, by decide +kernel, by decide +kernel⟩
abbrev stq_law_right : Stmt := topS 33
theorem scq_law_right : FnScope ["m", "world", "walk", "more", "n", "one", "ends", "s", "line"] ["m", "world"] (defScope stq_law_right) := ⟨rfl, rfl, rfl, by decide +kernel, rfl, by decide +kernel, by decide +kernel⟩
abbrev stq_law_flat : Stmt := topS 25
theorem scq_law_flat : FnScope ["a", "b", "d", "right_so", "up_so", "s", "i", "j"] ["a", "b", "d"] (defScope stq_law_flat) := ⟨rfl, rfl, rfl, by decide +kernel, rfl, by decide +kernel, by decide +kernel⟩
abbrev stq_law_corner_world : Stmt := topS 26
theorem scq_law_corner_world : FnScope ["wide", "high", "n", "right_so", "s", "up_so", "one"] ["wide", "high"] (defScope stq_law_corner_world) := ⟨rfl, rfl, rfl, by decide +kernel, rfl, by decide +kernel, by decide +kernel⟩
abbrev stq_law_known_world : Stmt := topS 27
theorem scq_law_known_world : FnScope ["m", "word", "a", "wide"] ["m"] (defScope stq_law_known_world) := ⟨rfl, rfl, rfl, by decide +kernel, rfl, by decide +kernel, by decide +kernel⟩
abbrev stq_law_shuffled : Stmt := topS 22
theorem scq_law_shuffled : FnScope ["m", "count", "left", "found", "k", "one", "other"] ["m", "count"] (defScope stq_law_shuffled) := ⟨rfl, rfl, rfl, by decide +kernel, rfl, by decide +kernel, by decide +kernel⟩
abbrev stq_law_reached : Stmt := topS 24
theorem scq_law_reached : FnScope ["right_so", "up_so", "found", "at", "one"] ["right_so", "up_so"] (defScope stq_law_reached) := ⟨rfl, rfl, rfl, by decide +kernel, rfl, by decide +kernel, by decide +kernel⟩
abbrev stq_law_renamed : Stmt := topS 29
theorem scq_law_renamed : FnScope ["world", "listing", "spots", "s"] ["world", "listing"] (defScope stq_law_renamed) := ⟨rfl, rfl, rfl, by decide +kernel, rfl, by decide +kernel, by decide +kernel⟩
abbrev stq_law_world : Stmt := topS 28
theorem scq_law_world : FnScope ["m", "most", "n", "known", "right_so", "up_so", "step", "found", "s", "one", "rows"] ["m", "most"] (defScope stq_law_world) := ⟨rfl, rfl, rfl, by decide +kernel, rfl, by decide +kernel, by decide +kernel⟩
abbrev stq_law : Stmt := topS 34
theorem scq_law : FnScope ["script", "three", "told", "turn", "m"] ["script"] (defScope stq_law) := ⟨rfl, rfl, rfl, by decide +kernel, rfl, by decide +kernel, by decide +kernel⟩
/-! ### what the defs do -/
def bq_need_word : Sl → Option Out := (kSeq (kIfS (kNot (kT (k1 (gIsi "str") (kB 0)))) kStop kNx)
    (kSeq (kFor (kEn (kV 0)) (gT 2 (gsC (gN 2) (gsC (gN 3) gsN))) (kUn [2, 3] (kIfS (kOr (kT (k2v gEq 2 (kC (.int 400)))) (kT (k2v gNotIn 3 (kB 1)))) kStop kNx)))
    (kRet (kV 0))))
def q_need_word : List SS → Option (RV × List SS) := kDef 2 4 bq_need_word
def bq_back_of : Sl → Option Out := (kSeq (kSetF 1 (kRepF (kLst (kCons (kC (.int 0)) kNil)) (k1 gLen (kB 0))))
    (kSeq (kFor (kEn (kV 0)) (gT 2 (gsC (gN 2) (gsC (gN 3) gsN))) (kUn [2, 3] (kAsg (kV 2) (gLPut 1 (kV 3)))))
    (kRet (k1 gTuple (kB 1)))))
def q_back_of : List SS → Option (RV × List SS) := kDef 1 4 bq_back_of
def bq_led_by : Sl → Option Out := (kSeq (kAsg (kV 0) (gT 2 (gsC (gN 1) (gsC (gN 2) gsN))))
    (kRetF (kDisp [((kC (.str "r")), (kV 1)), ((kC (.str "u")), (kV 2)), ((kC (.str "l")), (rvE (kCall q_back_of (kACons (kV 1) kANil)))), ((kC (.str "d")), (rvE (kCall q_back_of (kACons (kV 2) kANil))))])))
def q_led_by : List SS → Option (RV × List SS) := kDef 1 3 bq_led_by
def bq_walked : Sl → Option Out := (kSeq (kDrop (rvE (kCall q_need_word (kACons (kV 2) (kACons (kC (.str "ruld")) kANil)))))
    (kSeq (kSetF 3 (rvF (kCall q_led_by (kACons (kV 0) kANil))))
    (kSeq (kFor (kI (kV 2)) (gN 4) (kUn [4] (kSet 1 (k2 gIx (kDGet 3 (kV 4)) (kB 1)))))
    (kRet (kV 1)))))
def q_walked : List SS → Option (RV × List SS) := kDef 3 5 bq_walked
def bq_go_back : Sl → Option Out := (kSeq (kDrop (rvE (kCall q_need_word (kACons (kV 1) (kACons (kC (.str "ruld")) kANil)))))
    (kSeq (kPar [2, 3] (kConsF (rvF (kCall q_led_by (kACons (kV 0) kANil))) (kConsM (kFL (kLRg (kRg1 (k1 gLen (k2v gIx 0 (kC (.int 0))))))) kNil)))
    (kSeq (kFor (kI (kV 1)) (gN 4) (kUn [4, 5] (kSetF 3 (kLC (kI (kV 3)) (gN 5) kYes (k2 gIx (kDGet 2 (kV 4)) (kB 5)) [5]))))
    (kRet (k1 gTuple (kFL (kLC (kEn (kV 3)) (gT 2 (gsC (gN 5) (gsC (gN 6) gsN))) (kT (k2v gEq 5 (kB 6))) (kV 5) [5, 6])))))))
def q_go_back : List SS → Option (RV × List SS) := kDef 2 7 bq_go_back
def bq_law_like : Sl → Option Out := (kRet (k2 gEq (k1 gRepr (kB 0)) (k1 gRepr (kB 1))))
def q_law_like : List SS → Option (RV × List SS) := kDef 2 2 bq_law_like
def bq_law_begun : Sl → Option Out := (kSeq (kSet 2 (k2 gAdd (kSlv 0 (kO1 (kV 1)) kO0) (kSlv 0 kO0 (kO1 (kV 1)))))
    (kSeq (kSetF 3 (kLC (kI (kV 2)) (gN 4) (kT (k2v gGe 4 (k2 gPow (kC (.int 10)) (kC (.int 18))))) (kV 4) [4]))
    (kSeq (kSet 5 (k2 gAdd (kC (.int 71)) (kB 1)))
    (kSeq (kFor (kI (kV 2)) (gN 4) (kUn [4] (kSet 5 (k2 gMod (k1 gInt (k2 gAdd (k2v gMulA 5 (kC (.int 48271))) (kB 4))) (kC (.int 2147483647))))))
    (kRetF (kDisp [((kC (.str "left")), (kIf (kT (k2v gNe 3 (kFL (kLst kNil)))) (k2v gIx 3 (kC (.int 0))) (kC (.int 0)))), ((kC (.str "seed")), (kV 5)), ((kC (.str "cells")), (k2v gAdd 2 (kFL (kLst (kCons (k2 gAdd (k2 gMulA (kC (.int 53)) (kB 1)) (kC (.int 11))) kNil))))), ((kC (.str "spot")), (kC (.int 0)))]))))))
def q_law_begun : List SS → Option (RV × List SS) := kDef 2 6 bq_law_begun
def bq_law_draw : Sl → Option Out := (kSeq (kIfS (kT (k2 gGt (kDGet 0 (kC (.str "left"))) (kC (.int 0)))) (kSeq (kSet 2 (k2 gMod (k1 gInt (kDGet 0 (kC (.str "left")))) (kB 1)))
    (kSeq (kAsg (k2 gDiv (kDGet 0 (kC (.str "left"))) (kB 1)) (gDPut 0 (kC (.str "left"))))
    (kRet (kV 2)))) kNx)
    (kSeq (kSet 3 (kDGet 0 (kC (.str "spot"))))
    (kSeq (kAsg (k2v gAdd 3 (kC (.int 1))) (gDPut 0 (kC (.str "spot"))))
    (kSeq (kPar [4, 5] (kConsM (kDGet 0 (kC (.str "cells"))) (kConsM (k2 gAdd (kDGet 0 (kC (.str "seed"))) (k2 gMulA (k2 gMulA (kC (.int 40503)) (kB 3)) (kB 3))) kNil)))
    (kSeq (kSet 6 (k2v gIx 4 (k2 gMod (k1 gInt (kB 3)) (k1 gLen (kB 4)))))
    (kSeq (kSet 7 (k2 gMod (k1 gInt (k2 gAdd (k2v gMulA 6 (k2 gAdd (k2 gMulA (kC (.int 2)) (kB 3)) (kC (.int 3)))) (kB 5))) (kC (.int 2147483647))))
    (kSeq (kSet 7 (k2 gMod (k1 gInt (k2 gAdd (k2 gAdd (k2v gMulA 7 (kB 7)) (k2 gMulA (kC (.int 69621)) (kB 3))) (kDGet 0 (kC (.str "seed"))))) (kC (.int 2147483629))))
    (kRet (k2 gMod (k2 gDiv (k2 gMod (k1 gInt (k2 gAdd (k2v gMulA 7 (kC (.int 48271))) (kB 3))) (kC (.int 2147483647))) (kC (.int 11))) (kB 1))))))))))
def q_law_draw : List SS → Option (RV × List SS) := kDef 2 8 bq_law_draw
def bq_turns_in : Sl → Option Out := (kSeq (kPar [1, 2] (kConsF (kLst kNil) (kConsF kDk kNil)))
    (kSeq (kFor (kR1 (kCons (k1 gLen (kB 0)) kNil)) (gN 3) (kUn [3, 4, 5] (kSeq (kPar [4, 5] (kConsF (kLst kNil) (kConsM (kV 3) kNil)))
    (kSeq (whileS (kT (kDIn true (kV 5) 2)) (kUn [] (kSeq (kAsg (kC (.bool true)) (gDPut 2 (kV 5)))
    (kSeq (kApp 4 (kV 5))
    (kSet 5 (k2v gIx 0 (kB 5)))))) 12)
    (kIfS (kT (k2v gNe 4 (kFL (kLst kNil)))) (kApp 1 (kV 4)) kNx)))))
    (kRet (kV 1))))
def q_turns_in : List SS → Option (RV × List SS) := kDef 1 6 bq_turns_in
def bq_around : Sl → Option Out := (kSeq (kAsg (kV 0) (gT 2 (gsC (gN 1) (gsC (gN 2) gsN))))
    (kSeq (kPar [3, 4] (kConsM (rvE (kCall q_back_of (kACons (kV 1) kANil))) (kConsM (rvE (kCall q_back_of (kACons (kV 2) kANil))) kNil)))
    (kRet (k1 gTuple (kFL (kLC (kR1 (kCons (k1 gLen (kB 1)) kNil)) (gN 5) kYes (k2v gIx 4 (k2v gIx 3 (k2v gIx 2 (k2v gIx 1 (kB 5))))) [5]))))))
def q_around : List SS → Option (RV × List SS) := kDef 1 6 bq_around
def bq_corners : Sl → Option Out := (kRet (k1 gTuple (kFL (kLC (kI (rvE (kCall q_turns_in (kACons (rvE (kCall q_around (kACons (kV 0) kANil))) kANil)))) (gN 1) kYes (k1 gTuple (kB 1)) [1]))))
def q_corners : List SS → Option (RV × List SS) := kDef 1 2 bq_corners
def bq_law_of : Sl → Option Out := (kRet (k2v gIx 1 (rvE (kCall q_law_draw (kALent 0 (kACons (k1 gLen (kB 1)) kANil))))))
def q_law_of : List SS → Option (RV × List SS) := kDef 2 2 bq_law_of
def bq_law_walk : Sl → Option Out := (kRet (kM "str" gJoin (kC (.str "")) (kFL (kLC (kR1 (kCons (rvE (kCall q_law_draw (kALent 0 (kACons (k2v gAdd 1 (kC (.int 1))) kANil)))) kNil)) (gN 2) kYes (rvE (kCall q_law_of (kALent 0 (kACons (kFL (kLst (kCons (kC (.str "r")) (kCons (kC (.str "u")) (kCons (kC (.str "l")) (kCons (kC (.str "d")) kNil)))))) kANil)))) [2]))))
def q_law_walk : List SS → Option (RV × List SS) := kDef 2 3 bq_law_walk
def bq_law_back : Sl → Option Out := (kRet (k1 gTuple (kFL (kLC (kR1 (kCons (k1 gLen (kB 0)) kNil)) (gN 1) kYes (kMv "tuple" gIndexT 0 (kB 1)) [1]))))
def q_law_back : List SS → Option (RV × List SS) := kDef 1 2 bq_law_back
def bq_law_ends : Sl → Option Out := (kSeq (kSetF 2 (kDisp [((kC (.str "r")), (k2v gIx 0 (kC (.int 0)))), ((kC (.str "u")), (k2v gIx 0 (kC (.int 1)))), ((kC (.str "l")), (rvE (kCall q_law_back (kACons (k2v gIx 0 (kC (.int 0))) kANil)))), ((kC (.str "d")), (rvE (kCall q_law_back (kACons (k2v gIx 0 (kC (.int 1))) kANil))))]))
    (kSeq (kSet 3 (kFL (kLRg (kRg1 (k1 gLen (k2v gIx 0 (kC (.int 0))))))))
    (kSeq (kFor (kI (kV 1)) (gN 4) (kUn [4, 5] (kSetF 3 (kLC (kI (kV 3)) (gN 5) kYes (k2 gIx (kDGet 2 (kV 4)) (kB 5)) [5]))))
    (kRet (kV 3)))))
def q_law_ends : List SS → Option (RV × List SS) := kDef 2 6 bq_law_ends
def bq_law_undone : Sl → Option Out := (kRet (kM "str" gJoin (kC (.str "")) (kFL (kLC (kI (k1 gRevS (kV 0))) (gN 1) kYes (k2 gIx (kC (.str "lrdu")) (kM "str" gIndexS (kC (.str "rlud")) (kB 1))) [1]))))
def q_law_undone : List SS → Option (RV × List SS) := kDef 1 2 bq_law_undone
def bq_law_right : Sl → Option Out := (kSeq (kPar [2, 3, 4] (kConsM (rvE (kCall q_law_walk (kALent 0 (kACons (kC (.int 30)) kANil)))) (kConsM (rvE (kCall q_law_walk (kALent 0 (kACons (kC (.int 12)) kANil)))) (kConsM (k1 gLen (k2v gIx 1 (kC (.int 0)))) kNil))))
    (kSeq (kFor (kI (kFL (kLst (kCons (kV 2) (kCons (kV 3) (kCons (k2v gAdd 2 (kB 3)) (kCons (k2v gAdd 2 (rvE (kCall q_law_undone (kACons (kV 2) kANil)))) (kCons (kC (.str "")) kNil)))))))) (gN 5) (kUn [5, 6, 7] (kSeq (kSet 6 (rvE (kCall q_law_ends (kACons (kV 1) (kACons (kV 5) kANil)))))
    (kSeq (kIfS (kNot (kT (rvE (kCall q_law_like (kACons (kFL (kLC (kR1 (kCons (kV 4) kNil)) (gN 7) kYes (rvE (kCall q_walked (kACons (kV 1) (kACons (kV 7) (kACons (kV 5) kANil))))) [7])) (kACons (kV 6) kANil)))))) (kRet (kC (.bool false))) kNx)
    (kIfS (kNot (kT (rvE (kCall q_law_like (kACons (rvE (kCall q_go_back (kACons (kV 1) (kACons (kV 5) kANil)))) (kACons (k1 gTuple (kFL (kLC (kR1 (kCons (kV 4) kNil)) (gN 7) (kT (k2 gEq (k2v gIx 6 (kB 7)) (kB 7))) (kV 7) [7]))) kANil)))))) (kRet (kC (.bool false))) kNx)))))
    (kSeq (kSet 7 (rvE (kCall q_law_draw (kALent 0 (kACons (kV 4) kANil)))))
    (kSeq (kIfS (kT (k2 gNe (rvE (kCall q_walked (kACons (kV 1) (kACons (rvE (kCall q_walked (kACons (kV 1) (kACons (kV 7) (kACons (kV 2) kANil))))) (kACons (kV 3) kANil))))) (rvE (kCall q_walked (kACons (kV 1) (kACons (kV 7) (kACons (k2v gAdd 2 (kB 3)) kANil))))))) (kRet (kC (.bool false))) kNx)
    (kSeq (kIfS (kT (k2 gNe (rvE (kCall q_walked (kACons (kV 1) (kACons (rvE (kCall q_walked (kACons (kV 1) (kACons (kV 7) (kACons (kV 2) kANil))))) (kACons (rvE (kCall q_law_undone (kACons (kV 2) kANil))) kANil))))) (kB 7))) (kRet (kC (.bool false))) kNx)
    (kSeq (kFor (kI (rvE (kCall q_corners (kACons (kV 1) kANil)))) (gN 8) (kUn [8] (kSeq (kIfS (kT (k2 gNe (rvE (kCall q_walked (kACons (kV 1) (kACons (k2v gIx 8 (kC (.int 0))) (kACons (k2 gMulS (kC (.str "ruld")) (k1 gLen (kB 8))) kANil))))) (k2v gIx 8 (kC (.int 0))))) (kRet (kC (.bool false))) kNx)
    (kIfS (kAnd (kT (k2 gGt (k1 gLen (kB 8)) (kC (.int 1)))) (kT (k2 gNe (rvE (kCall q_walked (kACons (kV 1) (kACons (k2v gIx 8 (kC (.int 0))) (kACons (kC (.str "ruld")) kANil))))) (k2v gIx 8 (kC (.int 1)))))) (kRet (kC (.bool false))) kNx))))
    (kRet (kC (.bool true)))))))))
def q_law_right : List SS → Option (RV × List SS) := kDef 2 9 bq_law_right
def bq_law_flat : Sl → Option Out := (kSeq (kPar [3, 4] (kConsF (kLst kNil) (kConsF (kLst kNil) kNil)))
    (kSeq (kFor (kR1 (kCons (k2v gMulA 0 (kB 2)) kNil)) (gN 5) (kUn [5, 6, 7] (kSeq (kPar [6, 7] (kConsM (k2 gMod (k1 gInt (kB 5)) (kB 0)) (kConsM (k2v gDiv 5 (kB 0)) kNil)))
    (kSeq (kApp 3 (k2 gAdd (k2v gMulA 0 (kB 7)) (k2 gMod (k1 gInt (k2v gAdd 6 (kC (.int 1)))) (kB 0))))
    (kApp 4 (kIf (kT (k2v gLt 7 (k2v gSub 2 (kC (.int 1))))) (k2v gAdd 5 (kB 0)) (k2 gMod (k1 gInt (k2v gSub 6 (kB 1))) (kB 0))))))))
    (kRet (kTup (kCons (k1 gTuple (kB 3)) (kCons (k1 gTuple (kB 4)) kNil))))))
def q_law_flat : List SS → Option (RV × List SS) := kDef 3 8 bq_law_flat
def bq_law_corner_world : Sl → Option Out := (kSeq (kSet 2 (k2 gSub (k2v gAdd 0 (kB 1)) (kC (.int 1))))
    (kSeq (kSetF 3 (kLC (kR1 (kCons (kV 2) kNil)) (gN 4) kYes (kIf (kT (k2v gLt 4 (kB 0))) (k2 gMod (k1 gInt (k2v gAdd 4 (kC (.int 1)))) (kB 0)) (kV 4)) [4]))
    (kSeq (kSetF 5 (kLC (kR1 (kCons (kV 2) kNil)) (gN 4) kYes (kIf (kT (kCh gLt gLt (kC (.int 0)) (kV 4) (kV 0))) (kV 4) (kIf (kT (k2v gGt 4 (kC (.int 0)))) (k2v gAdd 4 (kC (.int 1))) (kV 0))) [4]))
    (kSeq (kSet 5 (kIf (kT (k2v gGt 1 (kC (.int 1)))) (kFL (kLC (kI (kV 5)) (gN 6) kYes (kIf (kT (k2v gEq 6 (kB 2))) (kC (.int 0)) (kV 6)) [6])) (kFL (kLRg (kRg1 (kV 2))))))
    (kRet (kTup (kCons (k1 gTuple (kB 3)) (kCons (k1 gTuple (kB 5)) kNil))))))))
def q_law_corner_world : List SS → Option (RV × List SS) := kDef 2 7 bq_law_corner_world
def bq_law_known_world : Sl → Option Out := (kSeq (kSet 1 (rvE (kCall q_law_draw (kALent 0 (kACons (kC (.int 6)) kANil)))))
    (kSeq (kIfS (kT (k2v gEq 1 (kC (.int 0)))) (kSeq (kSet 2 (k2 gAdd (kC (.int 1)) (rvE (kCall q_law_draw (kALent 0 (kACons (kC (.int 8)) kANil))))))
    (kRet (rvE (kCall q_law_flat (kACons (kV 2) (kACons (rvE (kCall q_law_draw (kALent 0 (kACons (kV 2) kANil)))) (kACons (k2 gAdd (kC (.int 1)) (rvE (kCall q_law_draw (kALent 0 (kACons (k2 gDiv (kC (.int 8)) (kB 2)) kANil))))) kANil))))))) kNx)
    (kSeq (kIfS (kT (k2v gEq 1 (kC (.int 1)))) (kSeq (kSet 3 (k2 gAdd (kC (.int 1)) (rvE (kCall q_law_draw (kALent 0 (kACons (kC (.int 5)) kANil))))))
    (kRet (rvE (kCall q_law_corner_world (kACons (kV 3) (kACons (k2 gAdd (kC (.int 1)) (rvE (kCall q_law_draw (kALent 0 (kACons (k2 gSub (kC (.int 9)) (kB 3)) kANil))))) kANil)))))) kNx)
    (kSeq (kIfS (kT (k2v gEq 1 (kC (.int 2)))) (kRet (kTup (kCons (kTup (kCons (kC (.int 1)) (kCons (kC (.int 0)) (kCons (kC (.int 3)) (kCons (kC (.int 2)) kNil))))) (kCons (kTup (kCons (kC (.int 0)) (kCons (kC (.int 2)) (kCons (kC (.int 1)) (kCons (kC (.int 3)) kNil))))) kNil)))) kNx)
    (kSeq (kIfS (kT (k2v gEq 1 (kC (.int 3)))) (kRet (kTup (kCons (kTup (kCons (kC (.int 1)) (kCons (kC (.int 2)) (kCons (kC (.int 3)) (kCons (kC (.int 0)) (kCons (kC (.int 5)) (kCons (kC (.int 6)) (kCons (kC (.int 7)) (kCons (kC (.int 4)) kNil))))))))) (kCons (kTup (kCons (kC (.int 4)) (kCons (kC (.int 7)) (kCons (kC (.int 6)) (kCons (kC (.int 5)) (kCons (kC (.int 2)) (kCons (kC (.int 1)) (kCons (kC (.int 0)) (kCons (kC (.int 3)) kNil))))))))) kNil)))) kNx)
    (kSeq (kIfS (kT (k2v gEq 1 (kC (.int 4)))) (kRet (kTup (kCons (kTup (kCons (kC (.int 1)) (kCons (kC (.int 2)) (kCons (kC (.int 0)) (kCons (kC (.int 3)) (kCons (kC (.int 4)) kNil)))))) (kCons (kTup (kCons (kC (.int 0)) (kCons (kC (.int 3)) (kCons (kC (.int 2)) (kCons (kC (.int 4)) (kCons (kC (.int 1)) kNil)))))) kNil)))) kNx)
    (kRet (kTup (kCons (kTup (kCons (kC (.int 1)) (kCons (kC (.int 2)) (kCons (kC (.int 3)) (kCons (kC (.int 4)) (kCons (kC (.int 5)) (kCons (kC (.int 0)) kNil))))))) (kCons (kTup (kCons (kC (.int 3)) (kCons (kC (.int 0)) (kCons (kC (.int 5)) (kCons (kC (.int 4)) (kCons (kC (.int 1)) (kCons (kC (.int 2)) kNil))))))) kNil))))))))))
def q_law_known_world : List SS → Option (RV × List SS) := kDef 1 4 bq_law_known_world
def bq_law_shuffled : Sl → Option Out := (kSeq (kPar [2, 3] (kConsM (kFL (kLRg (kRg1 (kV 1)))) (kConsF (kLst kNil) kNil)))
    (kSeq (kFor (kR1 (kCons (kV 1) kNil)) (gN 4) (kUn [4, 5, 6] (kSeq (kSet 5 (rvE (kCall q_law_of (kALent 0 (kACons (kV 2) kANil)))))
    (kSeq (kSetF 2 (kLC (kI (kV 2)) (gN 6) (kT (k2v gNe 6 (kB 5))) (kV 6) [6]))
    (kApp 3 (kV 5))))))
    (kRet (k1 gTuple (kB 3)))))
def q_law_shuffled : List SS → Option (RV × List SS) := kDef 2 7 bq_law_shuffled
def bq_law_reached : Sl → Option Out := (kSeq (kSetF 2 (kLst (kCons (kC (.int 0)) kNil)))
    (kSeq (kFor (kR1 (kCons (k1 gLen (kB 0)) kNil)) (gN 3) (kUn [3, 4] (kIfS (kT (k2v gLt 3 (k1 gLen (kB 2)))) (kFor (kI (kTup (kCons (k2v gIx 0 (k2v gIx 2 (kB 3))) (kCons (k2v gIx 1 (k2v gIx 2 (kB 3))) kNil)))) (gN 4) (kUn [4] (kIfS (kT (k2v gNotIn 4 (kB 2))) (kApp 2 (kV 4)) kNx))) kNx)))
    (kRet (kV 2))))
def q_law_reached : List SS → Option (RV × List SS) := kDef 2 5 bq_law_reached
def bq_law_renamed : Sl → Option Out := (kSeq (kSet 2 (rvE (kCall q_law_back (kACons (kV 1) kANil))))
    (kRet (kTup (kCons (k1 gTuple (kFL (kLC (kI (kV 1)) (gN 3) kYes (k2v gIx 2 (k2 gIx (k2v gIx 0 (kC (.int 0))) (kB 3))) [3]))) (kCons (k1 gTuple (kFL (kLC (kI (kV 1)) (gN 3) kYes (k2v gIx 2 (k2 gIx (k2v gIx 0 (kC (.int 1))) (kB 3))) [3]))) kNil)))))
def q_law_renamed : List SS → Option (RV × List SS) := kDef 2 4 bq_law_renamed
def bq_law_world : Sl → Option Out := (kSeq (kSet 2 (k2 gAdd (kC (.int 1)) (rvE (kCall q_law_draw (kALent 0 (kACons (kV 1) kANil))))))
    (kSeq (kIfS (kT (k2 gEq (rvE (kCall q_law_draw (kALent 0 (kACons (kC (.int 3)) kANil)))) (kC (.int 0)))) (kSeq (kSet 3 (rvE (kCall q_law_known_world (kALent 0 kANil))))
    (kIfS (kAnd (kT (k2 gLe (k1 gLen (k2v gIx 3 (kC (.int 0)))) (kB 1))) (kT (k2 gEq (k1 gLen (rvE (kCall q_law_reached (kACons (k2v gIx 3 (kC (.int 0))) (kACons (k2v gIx 3 (kC (.int 1))) kANil))))) (k1 gLen (k2v gIx 3 (kC (.int 0))))))) (kRet (rvE (kCall q_law_renamed (kACons (kV 3) (kACons (rvE (kCall q_law_shuffled (kALent 0 (kACons (k1 gLen (k2v gIx 3 (kC (.int 0)))) kANil)))) kANil))))) kNx)) kNx)
    (kSeq (kPar [4, 5] (kConsM (rvE (kCall q_law_shuffled (kALent 0 (kACons (kV 2) kANil)))) (kConsM (rvE (kCall q_law_shuffled (kALent 0 (kACons (kV 2) kANil)))) kNil)))
    (kSeq (kFor (kR1 (kCons (kV 2) kNil)) (gN 6) (kUn [6, 7, 8, 9, 10] (kSeq (kSet 7 (rvE (kCall q_law_reached (kACons (kV 4) (kACons (kV 5) kANil)))))
    (kIfS (kT (k2 gLt (k1 gLen (kB 7)) (kB 2))) (kSeq (kSet 8 (k2 gIx (kFL (kLC (kR1 (kCons (kV 2) kNil)) (gN 9) (kT (k2v gNotIn 9 (kB 7))) (kV 9) [9])) (kC (.int 0))))
    (kSeq (kSetF 10 (kF1 gList (kB 5)))
    (kSeq (kAsg (kTup (kCons (k2v gIx 10 (kB 8)) (kCons (k2v gIx 10 (kC (.int 0))) kNil))) (gT 2 (gsC (gLPut 10 (kC (.int 0))) (gsC (gLPut 10 (kV 8)) gsN))))
    (kSet 5 (k1 gTuple (kB 10)))))) kNx))))
    (kRet (kTup (kCons (kV 4) (kCons (kV 5) kNil))))))))
def q_law_world : List SS → Option (RV × List SS) := kDef 2 11 bq_law_world
def bq_law : Sl → Option Out := (kSeq (kSet 1 (kTup (kCons (kTup (kCons (kC (.int 1)) (kCons (kC (.int 0)) (kCons (kC (.int 2)) kNil)))) (kCons (kTup (kCons (kC (.int 2)) (kCons (kC (.int 1)) (kCons (kC (.int 0)) kNil)))) kNil))))
    (kSeq (kSet 2 (kFL (kLst (kCons (rvE (kCall q_walked (kACons (kV 1) (kACons (kC (.int 0)) (kACons (kC (.str "ru")) kANil))))) (kCons (rvE (kCall q_walked (kACons (kV 1) (kACons (kC (.int 1)) (kACons (kC (.str "ur")) kANil))))) (kCons (rvE (kCall q_go_back (kACons (kV 1) (kACons (kC (.str "r")) kANil)))) kNil))))))
    (kSeq (kSet 2 (k2v gAdd 2 (kFL (kLst (kCons (rvE (kCall q_go_back (kACons (kV 1) (kACons (kC (.str "uu")) kANil)))) (kCons (rvE (kCall q_go_back (kACons (kV 1) (kACons (kC (.str "ruld")) kANil)))) kNil))))))
    (kSeq (kIfS (kNot (kT (rvE (kCall q_law_like (kACons (kV 2) (kACons (kFL (kLst (kCons (kC (.int 1)) (kCons (kC (.int 0)) (kCons (kTup (kCons (kC (.int 2)) kNil)) (kCons (kTup (kCons (kC (.int 0)) (kCons (kC (.int 1)) (kCons (kC (.int 2)) kNil)))) (kCons (kTup kNil) kNil))))))) kANil)))))) (kRet (kC (.bool false))) kNx)
    (kSeq (kFor (kR1 (kCons (k2 gMax2 (kC (.int 2)) (k2 gMin2 (k1 gLen (kB 0)) (kC (.int 5)))) kNil)) (gN 3) (kUn [3, 4] (kSeq (kSetF 4 (rvF (kCall q_law_begun (kACons (kV 0) (kACons (kV 3) kANil)))))
    (kIfS (kNot (kT (rvE (kCall q_law_right (kALent 4 (kACons (rvE (kCall q_law_world (kALent 4 (kACons (kC (.int 8)) kANil)))) kANil)))))) (kRet (kC (.bool false))) kNx))))
    (kRet (kC (.bool true))))))))
def q_law : List SS → Option (RV × List SS) := kDef 1 5 bq_law
/-! ### what stands in the module -/
structure Facts (K : PySem.W.Frag) (mg : Str → Option Value) where
  aq_need_word : Addr
  dq_need_word : FuncData
  Fq_need_word : Fun K "need_word" "need_word" stq_need_word aq_need_word dq_need_word
  mq_need_word : mg "need_word" = some (.ref aq_need_word)
  bq_need_word : L2.Binds K dq_need_word ["value", "letters"] []
  aq_back_of : Addr
  dq_back_of : FuncData
  Fq_back_of : Fun K "back_of" "back_of" stq_back_of aq_back_of dq_back_of
  mq_back_of : mg "back_of" = some (.ref aq_back_of)
  bq_back_of : L2.Binds K dq_back_of ["listing"] []
  aq_led_by : Addr
  dq_led_by : FuncData
  Fq_led_by : Fun K "led_by" "led_by" stq_led_by aq_led_by dq_led_by
  mq_led_by : mg "led_by" = some (.ref aq_led_by)
  bq_led_by : L2.Binds K dq_led_by ["world"] []
  aq_walked : Addr
  dq_walked : FuncData
  Fq_walked : Fun K "walked" "walked" stq_walked aq_walked dq_walked
  mq_walked : mg "walked" = some (.ref aq_walked)
  bq_walked : L2.Binds K dq_walked ["world", "square", "walk"] []
  aq_go_back : Addr
  dq_go_back : FuncData
  Fq_go_back : Fun K "go_back" "go_back" stq_go_back aq_go_back dq_go_back
  mq_go_back : mg "go_back" = some (.ref aq_go_back)
  bq_go_back : L2.Binds K dq_go_back ["world", "walk"] []
  aq_law_like : Addr
  dq_law_like : FuncData
  Fq_law_like : Fun K "_law_like" "_law_like" stq_law_like aq_law_like dq_law_like
  mq_law_like : mg "_law_like" = some (.ref aq_law_like)
  bq_law_like : L2.Binds K dq_law_like ["told", "due"] []
  aq_law_begun : Addr
  dq_law_begun : FuncData
  Fq_law_begun : Fun K "_law_begun" "_law_begun" stq_law_begun aq_law_begun dq_law_begun
  mq_law_begun : mg "_law_begun" = some (.ref aq_law_begun)
  bq_law_begun : L2.Binds K dq_law_begun ["script", "k"] []
  aq_law_draw : Addr
  dq_law_draw : FuncData
  Fq_law_draw : Fun K "_law_draw" "_law_draw" stq_law_draw aq_law_draw dq_law_draw
  mq_law_draw : mg "_law_draw" = some (.ref aq_law_draw)
  bq_law_draw : L2.Binds K dq_law_draw ["m", "bound"] []
  aq_turns_in : Addr
  dq_turns_in : FuncData
  Fq_turns_in : Fun K "turns_in" "turns_in" stq_turns_in aq_turns_in dq_turns_in
  mq_turns_in : mg "turns_in" = some (.ref aq_turns_in)
  bq_turns_in : L2.Binds K dq_turns_in ["listing"] []
  aq_around : Addr
  dq_around : FuncData
  Fq_around : Fun K "around" "around" stq_around aq_around dq_around
  mq_around : mg "around" = some (.ref aq_around)
  bq_around : L2.Binds K dq_around ["world"] []
  aq_corners : Addr
  dq_corners : FuncData
  Fq_corners : Fun K "corners" "corners" stq_corners aq_corners dq_corners
  mq_corners : mg "corners" = some (.ref aq_corners)
  bq_corners : L2.Binds K dq_corners ["world"] []
  aq_law_of : Addr
  dq_law_of : FuncData
  Fq_law_of : Fun K "_law_of" "_law_of" stq_law_of aq_law_of dq_law_of
  mq_law_of : mg "_law_of" = some (.ref aq_law_of)
  bq_law_of : L2.Binds K dq_law_of ["m", "some"] []
  aq_law_walk : Addr
  dq_law_walk : FuncData
  Fq_law_walk : Fun K "_law_walk" "_law_walk" stq_law_walk aq_law_walk dq_law_walk
  mq_law_walk : mg "_law_walk" = some (.ref aq_law_walk)
  bq_law_walk : L2.Binds K dq_law_walk ["m", "most"] []
  aq_law_back : Addr
  dq_law_back : FuncData
  Fq_law_back : Fun K "_law_back" "_law_back" stq_law_back aq_law_back dq_law_back
  mq_law_back : mg "_law_back" = some (.ref aq_law_back)
  bq_law_back : L2.Binds K dq_law_back ["row"] []
  aq_law_ends : Addr
  dq_law_ends : FuncData
  Fq_law_ends : Fun K "_law_ends" "_law_ends" stq_law_ends aq_law_ends dq_law_ends
  mq_law_ends : mg "_law_ends" = some (.ref aq_law_ends)
  bq_law_ends : L2.Binds K dq_law_ends ["world", "walk"] []
  aq_law_undone : Addr
  dq_law_undone : FuncData
  Fq_law_undone : Fun K "_law_undone" "_law_undone" stq_law_undone aq_law_undone dq_law_undone
  mq_law_undone : mg "_law_undone" = some (.ref aq_law_undone)
  bq_law_undone : L2.Binds K dq_law_undone ["walk"] []
  aq_law_right : Addr
  dq_law_right : FuncData
  Fq_law_right : Fun K "_law_right" "_law_right" stq_law_right aq_law_right dq_law_right
  mq_law_right : mg "_law_right" = some (.ref aq_law_right)
  bq_law_right : L2.Binds K dq_law_right ["m", "world"] []
  aq_law_flat : Addr
  dq_law_flat : FuncData
  Fq_law_flat : Fun K "_law_flat" "_law_flat" stq_law_flat aq_law_flat dq_law_flat
  mq_law_flat : mg "_law_flat" = some (.ref aq_law_flat)
  bq_law_flat : L2.Binds K dq_law_flat ["a", "b", "d"] []
  aq_law_corner_world : Addr
  dq_law_corner_world : FuncData
  Fq_law_corner_world : Fun K "_law_corner_world" "_law_corner_world" stq_law_corner_world aq_law_corner_world dq_law_corner_world
  mq_law_corner_world : mg "_law_corner_world" = some (.ref aq_law_corner_world)
  bq_law_corner_world : L2.Binds K dq_law_corner_world ["wide", "high"] []
  aq_law_known_world : Addr
  dq_law_known_world : FuncData
  Fq_law_known_world : Fun K "_law_known_world" "_law_known_world" stq_law_known_world aq_law_known_world dq_law_known_world
  mq_law_known_world : mg "_law_known_world" = some (.ref aq_law_known_world)
  bq_law_known_world : L2.Binds K dq_law_known_world ["m"] []
  aq_law_shuffled : Addr
  dq_law_shuffled : FuncData
  Fq_law_shuffled : Fun K "_law_shuffled" "_law_shuffled" stq_law_shuffled aq_law_shuffled dq_law_shuffled
  mq_law_shuffled : mg "_law_shuffled" = some (.ref aq_law_shuffled)
  bq_law_shuffled : L2.Binds K dq_law_shuffled ["m", "count"] []
  aq_law_reached : Addr
  dq_law_reached : FuncData
  Fq_law_reached : Fun K "_law_reached" "_law_reached" stq_law_reached aq_law_reached dq_law_reached
  mq_law_reached : mg "_law_reached" = some (.ref aq_law_reached)
  bq_law_reached : L2.Binds K dq_law_reached ["right_so", "up_so"] []
  aq_law_renamed : Addr
  dq_law_renamed : FuncData
  Fq_law_renamed : Fun K "_law_renamed" "_law_renamed" stq_law_renamed aq_law_renamed dq_law_renamed
  mq_law_renamed : mg "_law_renamed" = some (.ref aq_law_renamed)
  bq_law_renamed : L2.Binds K dq_law_renamed ["world", "listing"] []
  aq_law_world : Addr
  dq_law_world : FuncData
  Fq_law_world : Fun K "_law_world" "_law_world" stq_law_world aq_law_world dq_law_world
  mq_law_world : mg "_law_world" = some (.ref aq_law_world)
  bq_law_world : L2.Binds K dq_law_world ["m", "most"] []
  aq_law : Addr
  dq_law : FuncData
  Fq_law : Fun K "law" "law" stq_law aq_law dq_law
  mq_law : mg "law" = some (.ref aq_law)
  bq_law : L2.Binds K dq_law ["script"] []
  z_enumerate : mg "enumerate" = none
  z_int : mg "int" = none
  z_isinstance : mg "isinstance" = none
  z_len : mg "len" = none
  z_list : mg "list" = none
  z_max : mg "max" = none
  z_min : mg "min" = none
  z_range : mg "range" = none
  z_repr : mg "repr" = none
  z_str : mg "str" = none
  z_tuple : mg "tuple" = none
  c_LETTERS : ∃ u, mg "LETTERS" = some u ∧ RelV (.str "ruld") u
  c_MOST_LETTERS : ∃ u, mg "MOST_LETTERS" = some u ∧ RelV (.int 400) u
section
variable {P : Program} {w : World} {K : PySem.W.Frag} {mg : Str → Option Value} {base : Heap}
theorem okq_need_word (T : Facts K mg) : FnG P w K mg base 1 T.aq_need_word T.dq_need_word ["value", "letters"] (spD P w K q_need_word) :=
  fn_d (N := ["value", "letters", "place", "sign"]) (ps := ["value", "letters"]) (body := bq_need_word) (k := 0) T.Fq_need_word scq_need_word fun cdv A outer s H E c hr =>
    (ss_cons (p_if (t_not (t_s (s_isi (by rfl) T.z_isinstance (by rfl) T.z_str (by rfl) (b_v (pv 0))) (fun _ => rfl)))
    (ss_one p_stop)
    ss_nil)
    (ss_cons (p_for PassesOwn.never rfl (i_enum (by rfl) T.z_enumerate (s_v (pv 0))) (g_of (n_tup rfl (ns_cons (n_name (pg_name (i := 2) scq_need_word.nd rfl (by first | exact .inl rfl | exact .inr rfl))) (ns_cons (n_name (pg_name (i := 3) scq_need_word.nd rfl (by first | exact .inl rfl | exact .inr rfl))) ns_nil))))
    (ss_un [2, 3] (ss_one (p_if (t_w (w_or (t_cmpv (g_eq (un_of hr)) (pv 2) (b_s (s_gint (by rfl) T.c_MOST_LETTERS)) (nomark _)) (w_or1 (t_cmpv (g_notIn (un_of hr)) (pv 3) (b_v (pv 1)) (by rfl)))))
    (ss_one p_stop)
    ss_nil))))
    (ss_one (p_ret (s_v (pv 0))))))
theorem okq_back_of (T : Facts K mg) : FnG P w K mg base 1 T.aq_back_of T.dq_back_of ["listing"] (spD P w K q_back_of) :=
  fn_d (N := ["listing", "found", "place", "entry"]) (ps := ["listing"]) (body := bq_back_of) (k := 0) T.Fq_back_of scq_back_of fun cdv A outer s H E c hr =>
    (ss_cons (p_setF (i := 1) scq_back_of.nd rfl (by first | exact .inl rfl | exact .inr rfl) (f_rep (f_lst (l_cons s_int l_nil)) (b_s (s_b1 cr_len (by rfl) T.z_len (by decide +kernel) (b_v (pv 0))))))
    (ss_cons (p_for PassesOwn.never rfl (i_enum (by rfl) T.z_enumerate (s_v (pv 0))) (g_of (n_tup rfl (ns_cons (n_name (pg_name (i := 2) scq_back_of.nd rfl (by first | exact .inl rfl | exact .inr rfl))) (ns_cons (n_name (pg_name (i := 3) scq_back_of.nd rfl (by first | exact .inl rfl | exact .inr rfl))) ns_nil))))
    (ss_un [2, 3] (ss_one (p_asg (s_v (pv 2)) (g_lput (pv 1) (s_v (pv 3)))))))
    (ss_one (p_ret (s_t1 cr_tuple (by rfl) T.z_tuple (by decide +kernel) (b_v (pv 1)))))))
theorem okq_led_by (T : Facts K mg) : FnG P w K mg base 2 T.aq_led_by T.dq_led_by ["world"] (spD P w K q_led_by) :=
  fn_d (N := ["world", "right", "up"]) (ps := ["world"]) (body := bq_led_by) (k := 1) T.Fq_led_by scq_led_by fun cdv A outer s H E c hr =>
    (ss_cons (p_asg (s_v (pv 0)) (g_of (n_tup rfl (ns_cons (n_name (pg_name (i := 1) scq_led_by.nd rfl (by first | exact .inl rfl | exact .inr rfl))) (ns_cons (n_name (pg_name (i := 2) scq_led_by.nd rfl (by first | exact .inl rfl | exact .inr rfl))) ns_nil)))))
    (ss_one (p_retF (f_disp (pps_consD s_str (s_v (pv 1)) (pps_consD s_str (s_v (pv 2)) (pps_consD s_str (s_call (okq_back_of T) (hr.mono (by omega)) (by rfl) T.mq_back_of T.Fq_back_of.kp T.bq_back_of (a_cons (s_v (pv 1)) a_nil)) (pps_consD s_str (s_call (okq_back_of T) (hr.mono (by omega)) (by rfl) T.mq_back_of T.Fq_back_of.kp T.bq_back_of (a_cons (s_v (pv 2)) a_nil)) pps_nilD)))) (by rfl) (by rfl) (by simp) (by decide)))))
theorem okq_walked (T : Facts K mg) : FnG P w K mg base 3 T.aq_walked T.dq_walked ["world", "square", "walk"] (spD P w K q_walked) :=
  fn_d (N := ["world", "square", "walk", "led", "letter"]) (ps := ["world", "square", "walk"]) (body := bq_walked) (k := 2) T.Fq_walked scq_walked fun cdv A outer s H E c hr =>
    (ss_cons (p_expr (s_call (okq_need_word T) (hr.mono (by omega)) (by rfl) T.mq_need_word T.Fq_need_word.kp T.bq_need_word (a_cons (s_v (pv 2)) (a_cons (s_gstr (by rfl) T.c_LETTERS) a_nil))))
    (ss_cons (p_setF (i := 3) scq_walked.nd rfl (by first | exact .inl rfl | exact .inr rfl) (f_call (okq_led_by T) (hr.mono (by omega)) (by rfl) T.mq_led_by T.Fq_led_by.kp T.bq_led_by (a_cons (s_v (pv 0)) a_nil)))
    (ss_cons (p_for PassesOwn.never rfl (i_dat (s_v (pv 2))) (g_of (n_name (pg_name (i := 4) scq_walked.nd rfl (by first | exact .inl rfl | exact .inr rfl))))
    (ss_un [4] (ss_one (p_set (i := 1) scq_walked.nd rfl (by first | exact .inl rfl | exact .inr rfl) (s_ix g_ix (s_dget (un_of hr) (pv 3) (s_v (pv 4)) (fun _ _ => rfl)) (b_v (pv 1)) (fun _ _ => rfl))))))
    (ss_one (p_ret (s_v (pv 1)))))))
theorem okq_go_back (T : Facts K mg) : FnG P w K mg base 3 T.aq_go_back T.dq_go_back ["world", "walk"] (spD P w K q_go_back) :=
  fn_d (N := ["world", "walk", "led", "ends", "letter", "square", "end"]) (ps := ["world", "walk"]) (body := bq_go_back) (k := 2) T.Fq_go_back scq_go_back fun cdv A outer s H E c hr =>
    (ss_cons (p_expr (s_call (okq_need_word T) (hr.mono (by omega)) (by rfl) T.mq_need_word T.Fq_need_word.kp T.bq_need_word (a_cons (s_v (pv 1)) (a_cons (s_gstr (by rfl) T.c_LETTERS) a_nil))))
    (ss_cons (p_parT (k := 0) (is := [2, 3]) rfl (m_consF (f_call (okq_led_by T) (hr.mono (by omega)) (by rfl) T.mq_led_by T.Fq_led_by.kp T.bq_led_by (a_cons (s_v (pv 0)) a_nil)) (m_cons (s_f (f_listRg rfl (by rfl) T.z_list (rg_1 (by rfl) T.z_range (s_b1 cr_len (by rfl) T.z_len (by decide +kernel) (b_s (s_ixv g_ix (pv 0) (b_s s_int) (fun _ _ => rfl))))))) m_nil)) (ng_cons (pg_name (i := 2) scq_go_back.nd rfl (by first | exact .inl rfl | exact .inr rfl)) (ng_cons (pg_name (i := 3) scq_go_back.nd rfl (by first | exact .inl rfl | exact .inr rfl)) ng_nil)) (hsz := by decide))
    (ss_cons (p_for PassesOwn.never rfl (i_dat (s_v (pv 1))) (g_of (n_name (pg_name (i := 4) scq_go_back.nd rfl (by first | exact .inl rfl | exact .inr rfl))))
    (ss_un [4, 5] (ss_one (p_setLC (i := 3) rfl scq_go_back.nd rfl rfl (by rfl) (i_dat (s_v (pv 3))) (own := [("square", 5)]) (blkOk_by (by rfl)) (by simp) (fun _ _ _ _ _ => (n_name (pg_name (i := 5) scq_go_back.nd rfl (by first | exact .inl rfl | exact .inr rfl)))) (fun _ _ _ _ _ => ts_nil) (fun _ _ _ _ _ => (s_ix g_ix (s_dget (un_of hr) (pv 2) (s_v (pv 4)) (fun _ _ => rfl)) (b_v (pv 5)) (fun _ _ => rfl)))))))
    (ss_one (p_ret (s_t1 cr_tuple (by rfl) T.z_tuple (by decide +kernel) (b_s (s_f (f_lc rfl scq_go_back.nd (i_enum (by rfl) T.z_enumerate (s_v (pv 3))) (own := [("square", 5), ("end", 6)]) (blkOk_by (by rfl)) (by simp) (fun _ _ _ _ _ => (n_tup rfl (ns_cons (n_name (pg_name (i := 5) scq_go_back.nd rfl (by first | exact .inl rfl | exact .inr rfl))) (ns_cons (n_name (pg_name (i := 6) scq_go_back.nd rfl (by first | exact .inl rfl | exact .inr rfl))) ns_nil)))) (fun _ _ _ _ _ => (ts_one (t_cmpv (g_eq (un_of hr)) (pv 5) (b_v (pv 6)) (nomark _)))) (fun _ _ _ _ _ => (s_v (pv 5))))))))))))
theorem okq_law_like (T : Facts K mg) : FnG P w K mg base 1 T.aq_law_like T.dq_law_like ["told", "due"] (spD P w K q_law_like) :=
  fn_d (N := ["told", "due"]) (ps := ["told", "due"]) (body := bq_law_like) (k := 0) T.Fq_law_like scq_law_like fun cdv A outer s H E c hr =>
    (ss_one (p_ret (s_cmp (g_eq (un_of hr)) (s_b1 (cr_repr (un_of hr) hr.gu) (by rfl) T.z_repr (by decide +kernel) (b_v (pv 0))) (b_s (s_b1 (cr_repr (un_of hr) hr.gu) (by rfl) T.z_repr (by decide +kernel) (b_v (pv 1)))) (nomark _))))
theorem okq_law_begun (T : Facts K mg) : FnG P w K mg base 1 T.aq_law_begun T.dq_law_begun ["script", "k"] (spD P w K q_law_begun) :=
  fn_d (N := ["script", "k", "cells", "great", "cell", "seed"]) (ps := ["script", "k"]) (body := bq_law_begun) (k := 0) T.Fq_law_begun scq_law_begun fun cdv A outer s H E c hr =>
    (ss_cons (p_set (i := 2) scq_law_begun.nd rfl (by first | exact .inl rfl | exact .inr rfl) (s_bin g_add (s_slv (pv 0) (o_some (s_v (pv 1))) o_none) (b_s (s_slv (pv 0) o_none (o_some (s_v (pv 1)))))))
    (ss_cons (p_setLC (i := 3) rfl scq_law_begun.nd rfl rfl (by rfl) (i_dat (s_v (pv 2))) (own := [("cell", 4)]) (blkOk_by (by rfl)) (by simp) (fun _ _ _ _ _ => (n_name (pg_name (i := 4) scq_law_begun.nd rfl (by first | exact .inl rfl | exact .inr rfl)))) (fun _ _ _ _ _ => (ts_one (t_cmpv g_ge (pv 4) (b_s (s_bin g_pow s_int (b_s s_int))) (nomark _)))) (fun _ _ _ _ _ => (s_v (pv 4))))
    (ss_cons (p_set (i := 5) scq_law_begun.nd rfl (by first | exact .inl rfl | exact .inr rfl) (s_bin g_add s_int (b_v (pv 1))))
    (ss_cons (p_for PassesOwn.never rfl (i_dat (s_v (pv 2))) (g_of (n_name (pg_name (i := 4) scq_law_begun.nd rfl (by first | exact .inl rfl | exact .inr rfl))))
    (ss_un [4] (ss_one (p_set (i := 5) scq_law_begun.nd rfl (by first | exact .inl rfl | exact .inr rfl) (s_bin g_mod (s_t1 cr_intD (by rfl) T.z_int (by decide +kernel) (b_s (s_bin g_add (s_binv g_mul (pv 5) (b_s s_int)) (b_v (pv 4))))) (b_s s_int))))))
    (ss_one (p_retF (f_disp (pps_consD s_str (s_if (t_cmpv (g_ne (un_of hr)) (pv 3) (b_s (s_f (f_lst l_nil))) (nomark _)) (s_ixv g_ix (pv 3) (b_s s_int) (fun _ _ => rfl)) s_int) (pps_consD s_str (s_v (pv 5)) (pps_consD s_str (s_binv g_add (pv 2) (b_s (s_f (f_lst (l_cons (s_bin g_add (s_bin g_mul s_int (b_v (pv 1))) (b_s s_int)) l_nil))))) (pps_consD s_str s_int pps_nilD)))) (by rfl) (by rfl) (by simp) (by decide))))))))
theorem okq_law_draw (T : Facts K mg) : FnG P w K mg base 1 T.aq_law_draw T.dq_law_draw ["m", "bound"] (spD P w K q_law_draw) :=
  fn_d (N := ["m", "bound", "found", "spot", "cells", "extra", "cell", "blend"]) (ps := ["m", "bound"]) (body := bq_law_draw) (k := 0) T.Fq_law_draw scq_law_draw fun cdv A outer s H E c hr =>
    (ss_cons (p_if (t_cmp g_gt (s_dget (un_of hr) (pv 0) s_str (fun _ _ => rfl)) (b_s s_int) (nomark _))
    (ss_cons (p_set (i := 2) scq_law_draw.nd rfl (by first | exact .inl rfl | exact .inr rfl) (s_bin g_mod (s_t1 cr_intD (by rfl) T.z_int (by decide +kernel) (b_s (s_dget (un_of hr) (pv 0) s_str (fun _ _ => rfl)))) (b_v (pv 1))))
    (ss_cons (p_asg (s_bin g_div (s_dget (un_of hr) (pv 0) s_str (fun _ _ => rfl)) (b_v (pv 1))) (g_dput (un_of hr) (pv 0) s_str))
    (ss_one (p_ret (s_v (pv 2))))))
    ss_nil)
    (ss_cons (p_set (i := 3) scq_law_draw.nd rfl (by first | exact .inl rfl | exact .inr rfl) (s_dget (un_of hr) (pv 0) s_str (fun _ _ => rfl)))
    (ss_cons (p_asg (s_binv g_add (pv 3) (b_s s_int)) (g_dput (un_of hr) (pv 0) s_str))
    (ss_cons (p_par2 (i := 4) (j := 5) rfl scq_law_draw.nd rfl rfl (by decide) rfl rfl (m_cons (s_dget (un_of hr) (pv 0) s_str (fun _ _ => rfl)) (m_cons (s_bin g_add (s_dget (un_of hr) (pv 0) s_str (fun _ _ => rfl)) (b_s (s_bin g_mul (s_bin g_mul s_int (b_v (pv 3))) (b_v (pv 3))))) m_nil)) (by rfl))
    (ss_cons (p_set (i := 6) scq_law_draw.nd rfl (by first | exact .inl rfl | exact .inr rfl) (s_ixv g_ix (pv 4) (b_s (s_bin g_mod (s_t1 cr_intD (by rfl) T.z_int (by decide +kernel) (b_v (pv 3))) (b_s (s_b1 cr_len (by rfl) T.z_len (by decide +kernel) (b_v (pv 4)))))) (fun _ _ => rfl)))
    (ss_cons (p_set (i := 7) scq_law_draw.nd rfl (by first | exact .inl rfl | exact .inr rfl) (s_bin g_mod (s_t1 cr_intD (by rfl) T.z_int (by decide +kernel) (b_s (s_bin g_add (s_binv g_mul (pv 6) (b_s (s_bin g_add (s_bin g_mul s_int (b_v (pv 3))) (b_s s_int)))) (b_v (pv 5))))) (b_s s_int)))
    (ss_cons (p_set (i := 7) scq_law_draw.nd rfl (by first | exact .inl rfl | exact .inr rfl) (s_bin g_mod (s_t1 cr_intD (by rfl) T.z_int (by decide +kernel) (b_s (s_bin g_add (s_bin g_add (s_binv g_mul (pv 7) (b_v (pv 7))) (b_s (s_bin g_mul s_int (b_v (pv 3))))) (b_s (s_dget (un_of hr) (pv 0) s_str (fun _ _ => rfl)))))) (b_s s_int)))
    (ss_one (p_ret (s_bin g_mod (s_bin g_div (s_bin g_mod (s_t1 cr_intD (by rfl) T.z_int (by decide +kernel) (b_s (s_bin g_add (s_binv g_mul (pv 7) (b_s s_int)) (b_v (pv 3))))) (b_s s_int)) (b_s s_int)) (b_v (pv 1))))))))))))
theorem okq_turns_in (T : Facts K mg) : FnG P w K mg base 1 T.aq_turns_in T.dq_turns_in ["listing"] (spD P w K q_turns_in) :=
  fn_d (N := ["listing", "found", "seen", "first", "line", "spot"]) (ps := ["listing"]) (body := bq_turns_in) (k := 0) T.Fq_turns_in scq_turns_in fun cdv A outer s H E c hr =>
    (ss_cons (p_par2 (i := 1) (j := 2) rfl scq_turns_in.nd rfl rfl (by decide) rfl rfl (m_consF (f_lst l_nil) (m_consF f_dk m_nil)) (by rfl))
    (ss_cons (p_for PassesOwn.never rfl (i_range1 (by rfl) T.z_range (l_cons (s_b1 cr_len (by rfl) T.z_len (by decide +kernel) (b_v (pv 0))) l_nil)) (g_of (n_name (pg_name (i := 3) scq_turns_in.nd rfl (by first | exact .inl rfl | exact .inr rfl))))
    (ss_un [3, 4, 5] (ss_cons (p_par2 (i := 4) (j := 5) rfl scq_turns_in.nd rfl rfl (by decide) rfl rfl (m_consF (f_lst l_nil) (m_cons (s_v (pv 3)) m_nil)) (by rfl))
    (ss_cons (p_while 12 PassesOwn.never (t_pc (VD.pc_dnotin (un_of hr) (s_v (pv 5)) (pv 2)) (by rfl))
    (ss_un [] (ss_cons (p_asg s_bl (g_dput (un_of hr) (pv 2) (s_v (pv 5))))
    (ss_cons (p_append (pv 4) (s_v (pv 5)))
    (ss_one (p_set (i := 5) scq_turns_in.nd rfl (by first | exact .inl rfl | exact .inr rfl) (s_ixv g_ix (pv 0) (b_v (pv 5)) (fun _ _ => rfl))))))))
    (ss_one (p_if (t_cmpv (g_ne (un_of hr)) (pv 4) (b_s (s_f (f_lst l_nil))) (nomark _))
    (ss_one (p_append (pv 1) (s_v (pv 4))))
    ss_nil))))))
    (ss_one (p_ret (s_v (pv 1))))))
theorem okq_around (T : Facts K mg) : FnG P w K mg base 2 T.aq_around T.dq_around ["world"] (spD P w K q_around) :=
  fn_d (N := ["world", "right", "up", "left", "down", "square"]) (ps := ["world"]) (body := bq_around) (k := 1) T.Fq_around scq_around fun cdv A outer s H E c hr =>
    (ss_cons (p_asg (s_v (pv 0)) (g_of (n_tup rfl (ns_cons (n_name (pg_name (i := 1) scq_around.nd rfl (by first | exact .inl rfl | exact .inr rfl))) (ns_cons (n_name (pg_name (i := 2) scq_around.nd rfl (by first | exact .inl rfl | exact .inr rfl))) ns_nil)))))
    (ss_cons (p_parT (k := 0) (is := [3, 4]) rfl (m_cons (s_call (okq_back_of T) (hr.mono (by omega)) (by rfl) T.mq_back_of T.Fq_back_of.kp T.bq_back_of (a_cons (s_v (pv 1)) a_nil)) (m_cons (s_call (okq_back_of T) (hr.mono (by omega)) (by rfl) T.mq_back_of T.Fq_back_of.kp T.bq_back_of (a_cons (s_v (pv 2)) a_nil)) m_nil)) (ng_cons (pg_name (i := 3) scq_around.nd rfl (by first | exact .inl rfl | exact .inr rfl)) (ng_cons (pg_name (i := 4) scq_around.nd rfl (by first | exact .inl rfl | exact .inr rfl)) ng_nil)) (hsz := by decide))
    (ss_one (p_ret (s_t1 cr_tuple (by rfl) T.z_tuple (by decide +kernel) (b_s (s_f (f_lc rfl scq_around.nd (i_range1 (by rfl) T.z_range (l_cons (s_b1 cr_len (by rfl) T.z_len (by decide +kernel) (b_v (pv 1))) l_nil)) (own := [("square", 5)]) (blkOk_by (by rfl)) (by simp) (fun _ _ _ _ _ => (n_name (pg_name (i := 5) scq_around.nd rfl (by first | exact .inl rfl | exact .inr rfl)))) (fun _ _ _ _ _ => ts_nil) (fun _ _ _ _ _ => (s_ixv g_ix (pv 4) (b_s (s_ixv g_ix (pv 3) (b_s (s_ixv g_ix (pv 2) (b_s (s_ixv g_ix (pv 1) (b_v (pv 5)) (fun _ _ => rfl))) (fun _ _ => rfl))) (fun _ _ => rfl))) (fun _ _ => rfl)))))))))))
theorem okq_corners (T : Facts K mg) : FnG P w K mg base 3 T.aq_corners T.dq_corners ["world"] (spD P w K q_corners) :=
  fn_d (N := ["world", "line"]) (ps := ["world"]) (body := bq_corners) (k := 2) T.Fq_corners scq_corners fun cdv A outer s H E c hr =>
    (ss_one (p_ret (s_t1 cr_tuple (by rfl) T.z_tuple (by decide +kernel) (b_s (s_f (f_lc rfl scq_corners.nd (i_dat (s_call (okq_turns_in T) (hr.mono (by omega)) (by rfl) T.mq_turns_in T.Fq_turns_in.kp T.bq_turns_in (a_cons (s_call (okq_around T) (hr.mono (by omega)) (by rfl) T.mq_around T.Fq_around.kp T.bq_around (a_cons (s_v (pv 0)) a_nil)) a_nil))) (own := [("line", 1)]) (blkOk_by (by rfl)) (by simp) (fun _ _ _ _ _ => (n_name (pg_name (i := 1) scq_corners.nd rfl (by first | exact .inl rfl | exact .inr rfl)))) (fun _ _ _ _ _ => ts_nil) (fun _ _ _ _ _ => (s_t1 cr_tuple (by rfl) T.z_tuple (by decide +kernel) (b_v (pv 1))))))))))
theorem okq_law_of (T : Facts K mg) : FnG P w K mg base 2 T.aq_law_of T.dq_law_of ["m", "some"] (spD P w K q_law_of) :=
  fn_d (N := ["m", "some"]) (ps := ["m", "some"]) (body := bq_law_of) (k := 1) T.Fq_law_of scq_law_of fun cdv A outer s H E c hr =>
    (ss_one (p_ret (s_ixv g_ix (pv 1) (b_s (s_call (okq_law_draw T) (hr.mono (by omega)) (by rfl) T.mq_law_draw T.Fq_law_draw.kp T.bq_law_draw (a_lent (pv 0) (a_cons (s_b1 cr_len (by rfl) T.z_len (by decide +kernel) (b_v (pv 1))) a_nil)))) (fun _ _ => rfl))))
theorem okq_law_walk (T : Facts K mg) : FnG P w K mg base 3 T.aq_law_walk T.dq_law_walk ["m", "most"] (spD P w K q_law_walk) :=
  fn_d (N := ["m", "most", "k"]) (ps := ["m", "most"]) (body := bq_law_walk) (k := 2) T.Fq_law_walk scq_law_walk fun cdv A outer s H E c hr =>
    (ss_one (p_ret (s_m PySem.F.plainAttrs_str PySem.F.slot_str_join PySem.F.type_str_join mt_joinD s_str (b_s (s_f (f_lc rfl scq_law_walk.nd (i_range1 (by rfl) T.z_range (l_cons (s_call (okq_law_draw T) (hr.mono (by omega)) (by rfl) T.mq_law_draw T.Fq_law_draw.kp T.bq_law_draw (a_lent (pv 0) (a_cons (s_binv g_add (pv 1) (b_s s_int)) a_nil))) l_nil)) (own := [("k", 2)]) (blkOk_by (by rfl)) (by simp) (fun _ _ _ _ _ => (n_name (pg_name (i := 2) scq_law_walk.nd rfl (by first | exact .inl rfl | exact .inr rfl)))) (fun _ _ _ _ _ => ts_nil) (fun _ _ _ _ _ => (s_call (okq_law_of T) (hr.mono (by omega)) (by rfl) T.mq_law_of T.Fq_law_of.kp T.bq_law_of (a_lent (pv 0) (a_cons (s_f (f_lst (l_cons s_str (l_cons s_str (l_cons s_str (l_cons s_str l_nil)))))) a_nil))))))))))
theorem okq_law_back (T : Facts K mg) : FnG P w K mg base 1 T.aq_law_back T.dq_law_back ["row"] (spD P w K q_law_back) :=
  fn_d (N := ["row", "k"]) (ps := ["row"]) (body := bq_law_back) (k := 0) T.Fq_law_back scq_law_back fun cdv A outer s H E c hr =>
    (ss_one (p_ret (s_t1 cr_tuple (by rfl) T.z_tuple (by decide +kernel) (b_s (s_f (f_lc rfl scq_law_back.nd (i_range1 (by rfl) T.z_range (l_cons (s_b1 cr_len (by rfl) T.z_len (by decide +kernel) (b_v (pv 0))) l_nil)) (own := [("k", 1)]) (blkOk_by (by rfl)) (by simp) (fun _ _ _ _ _ => (n_name (pg_name (i := 1) scq_law_back.nd rfl (by first | exact .inl rfl | exact .inr rfl)))) (fun _ _ _ _ _ => ts_nil) (fun _ _ _ _ _ => (s_mv PySem.F.plainAttrs_tuple PySem.F.slot_tuple_index (by rfl) mt_indexT (pv 0) (b_v (pv 1))))))))))
theorem okq_law_ends (T : Facts K mg) : FnG P w K mg base 2 T.aq_law_ends T.dq_law_ends ["world", "walk"] (spD P w K q_law_ends) :=
  fn_d (N := ["world", "walk", "led", "found", "letter", "s"]) (ps := ["world", "walk"]) (body := bq_law_ends) (k := 1) T.Fq_law_ends scq_law_ends fun cdv A outer s H E c hr =>
    (ss_cons (p_setF (i := 2) scq_law_ends.nd rfl (by first | exact .inl rfl | exact .inr rfl) (f_disp (pps_consD s_str (s_ixv g_ix (pv 0) (b_s s_int) (fun _ _ => rfl)) (pps_consD s_str (s_ixv g_ix (pv 0) (b_s s_int) (fun _ _ => rfl)) (pps_consD s_str (s_call (okq_law_back T) (hr.mono (by omega)) (by rfl) T.mq_law_back T.Fq_law_back.kp T.bq_law_back (a_cons (s_ixv g_ix (pv 0) (b_s s_int) (fun _ _ => rfl)) a_nil)) (pps_consD s_str (s_call (okq_law_back T) (hr.mono (by omega)) (by rfl) T.mq_law_back T.Fq_law_back.kp T.bq_law_back (a_cons (s_ixv g_ix (pv 0) (b_s s_int) (fun _ _ => rfl)) a_nil)) pps_nilD)))) (by rfl) (by rfl) (by simp) (by decide)))
    (ss_cons (p_set (i := 3) scq_law_ends.nd rfl (by first | exact .inl rfl | exact .inr rfl) (s_f (f_listRg rfl (by rfl) T.z_list (rg_1 (by rfl) T.z_range (s_b1 cr_len (by rfl) T.z_len (by decide +kernel) (b_s (s_ixv g_ix (pv 0) (b_s s_int) (fun _ _ => rfl))))))))
    (ss_cons (p_for PassesOwn.never rfl (i_dat (s_v (pv 1))) (g_of (n_name (pg_name (i := 4) scq_law_ends.nd rfl (by first | exact .inl rfl | exact .inr rfl))))
    (ss_un [4, 5] (ss_one (p_setLC (i := 3) rfl scq_law_ends.nd rfl rfl (by rfl) (i_dat (s_v (pv 3))) (own := [("s", 5)]) (blkOk_by (by rfl)) (by simp) (fun _ _ _ _ _ => (n_name (pg_name (i := 5) scq_law_ends.nd rfl (by first | exact .inl rfl | exact .inr rfl)))) (fun _ _ _ _ _ => ts_nil) (fun _ _ _ _ _ => (s_ix g_ix (s_dget (un_of hr) (pv 2) (s_v (pv 4)) (fun _ _ => rfl)) (b_v (pv 5)) (fun _ _ => rfl)))))))
    (ss_one (p_ret (s_v (pv 3)))))))
theorem okq_law_undone (T : Facts K mg) : FnG P w K mg base 1 T.aq_law_undone T.dq_law_undone ["walk"] (spD P w K q_law_undone) :=
  fn_d (N := ["walk", "letter"]) (ps := ["walk"]) (body := bq_law_undone) (k := 0) T.Fq_law_undone scq_law_undone fun cdv A outer s H E c hr =>
    (ss_one (p_ret (s_m PySem.F.plainAttrs_str PySem.F.slot_str_join PySem.F.type_str_join mt_joinD s_str (b_s (s_f (f_lc rfl scq_law_undone.nd (i_dat (s_revS (s_v (pv 0)))) (own := [("letter", 1)]) (blkOk_by (by rfl)) (by simp) (fun _ _ _ _ _ => (n_name (pg_name (i := 1) scq_law_undone.nd rfl (by first | exact .inl rfl | exact .inr rfl)))) (fun _ _ _ _ _ => ts_nil) (fun _ _ _ _ _ => (s_ix g_ix s_str (b_s (s_m PySem.F.plainAttrs_str PySem.F.slot_str_index (by rfl) mt_indexSD s_str (b_v (pv 1)))) (fun _ _ => rfl)))))))))
theorem okq_law_right (T : Facts K mg) : FnG P w K mg base 4 T.aq_law_right T.dq_law_right ["m", "world"] (spD P w K q_law_right) :=
  fn_d (N := ["m", "world", "walk", "more", "n", "one", "ends", "s", "line"]) (ps := ["m", "world"]) (body := bq_law_right) (k := 3) T.Fq_law_right scq_law_right fun cdv A outer s H E c hr =>
    (ss_cons (p_par3 (i := 2) (j := 3) (l := 4) rfl scq_law_right.nd rfl rfl rfl (by decide) (by decide) (by decide) rfl rfl rfl (m_cons (s_call (okq_law_walk T) (hr.mono (by omega)) (by rfl) T.mq_law_walk T.Fq_law_walk.kp T.bq_law_walk (a_lent (pv 0) (a_cons s_int a_nil))) (m_cons (s_call (okq_law_walk T) (hr.mono (by omega)) (by rfl) T.mq_law_walk T.Fq_law_walk.kp T.bq_law_walk (a_lent (pv 0) (a_cons s_int a_nil))) (m_cons (s_b1 cr_len (by rfl) T.z_len (by decide +kernel) (b_s (s_ixv g_ix (pv 1) (b_s s_int) (fun _ _ => rfl)))) m_nil))) (by rfl))
    (ss_cons (p_for PassesOwn.never rfl (i_dat (s_f (f_lst (l_cons (s_v (pv 2)) (l_cons (s_v (pv 3)) (l_cons (s_binv g_add (pv 2) (b_v (pv 3))) (l_cons (s_binv g_add (pv 2) (b_s (s_call (okq_law_undone T) (hr.mono (by omega)) (by rfl) T.mq_law_undone T.Fq_law_undone.kp T.bq_law_undone (a_cons (s_v (pv 2)) a_nil)))) (l_cons s_str l_nil)))))))) (g_of (n_name (pg_name (i := 5) scq_law_right.nd rfl (by first | exact .inl rfl | exact .inr rfl))))
    (ss_un [5, 6, 7] (ss_cons (p_set (i := 6) scq_law_right.nd rfl (by first | exact .inl rfl | exact .inr rfl) (s_call (okq_law_ends T) (hr.mono (by omega)) (by rfl) T.mq_law_ends T.Fq_law_ends.kp T.bq_law_ends (a_cons (s_v (pv 1)) (a_cons (s_v (pv 5)) a_nil))))
    (ss_cons (p_if (t_not (t_s (s_call (okq_law_like T) (hr.mono (by omega)) (by rfl) T.mq_law_like T.Fq_law_like.kp T.bq_law_like (a_cons (s_f (f_lc rfl scq_law_right.nd (i_range1 (by rfl) T.z_range (l_cons (s_v (pv 4)) l_nil)) (own := [("s", 7)]) (blkOk_by (by rfl)) (by simp) (fun _ _ _ _ _ => (n_name (pg_name (i := 7) scq_law_right.nd rfl (by first | exact .inl rfl | exact .inr rfl)))) (fun _ _ _ _ _ => ts_nil) (fun _ _ _ _ _ => (s_call (okq_walked T) (hr.mono (by omega)) (by rfl) T.mq_walked T.Fq_walked.kp T.bq_walked (a_cons (s_v (pv 1)) (a_cons (s_v (pv 7)) (a_cons (s_v (pv 5)) a_nil))))))) (a_cons (s_v (pv 6)) a_nil))) (fun _ => rfl)))
    (ss_one (p_ret s_bl))
    ss_nil)
    (ss_one (p_if (t_not (t_s (s_call (okq_law_like T) (hr.mono (by omega)) (by rfl) T.mq_law_like T.Fq_law_like.kp T.bq_law_like (a_cons (s_call (okq_go_back T) (hr.mono (by omega)) (by rfl) T.mq_go_back T.Fq_go_back.kp T.bq_go_back (a_cons (s_v (pv 1)) (a_cons (s_v (pv 5)) a_nil))) (a_cons (s_t1 cr_tuple (by rfl) T.z_tuple (by decide +kernel) (b_s (s_f (f_lc rfl scq_law_right.nd (i_range1 (by rfl) T.z_range (l_cons (s_v (pv 4)) l_nil)) (own := [("s", 7)]) (blkOk_by (by rfl)) (by simp) (fun _ _ _ _ _ => (n_name (pg_name (i := 7) scq_law_right.nd rfl (by first | exact .inl rfl | exact .inr rfl)))) (fun _ _ _ _ _ => (ts_one (t_cmp (g_eq (un_of hr)) (s_ixv g_ix (pv 6) (b_v (pv 7)) (fun _ _ => rfl)) (b_v (pv 7)) (nomark _)))) (fun _ _ _ _ _ => (s_v (pv 7))))))) a_nil))) (fun _ => rfl)))
    (ss_one (p_ret s_bl))
    ss_nil))))))
    (ss_cons (p_set (i := 7) scq_law_right.nd rfl (by first | exact .inl rfl | exact .inr rfl) (s_call (okq_law_draw T) (hr.mono (by omega)) (by rfl) T.mq_law_draw T.Fq_law_draw.kp T.bq_law_draw (a_lent (pv 0) (a_cons (s_v (pv 4)) a_nil))))
    (ss_cons (p_if (t_cmp (g_ne (un_of hr)) (s_call (okq_walked T) (hr.mono (by omega)) (by rfl) T.mq_walked T.Fq_walked.kp T.bq_walked (a_cons (s_v (pv 1)) (a_cons (s_call (okq_walked T) (hr.mono (by omega)) (by rfl) T.mq_walked T.Fq_walked.kp T.bq_walked (a_cons (s_v (pv 1)) (a_cons (s_v (pv 7)) (a_cons (s_v (pv 2)) a_nil)))) (a_cons (s_v (pv 3)) a_nil)))) (b_s (s_call (okq_walked T) (hr.mono (by omega)) (by rfl) T.mq_walked T.Fq_walked.kp T.bq_walked (a_cons (s_v (pv 1)) (a_cons (s_v (pv 7)) (a_cons (s_binv g_add (pv 2) (b_v (pv 3))) a_nil))))) (nomark _))
    (ss_one (p_ret s_bl))
    ss_nil)
    (ss_cons (p_if (t_cmp (g_ne (un_of hr)) (s_call (okq_walked T) (hr.mono (by omega)) (by rfl) T.mq_walked T.Fq_walked.kp T.bq_walked (a_cons (s_v (pv 1)) (a_cons (s_call (okq_walked T) (hr.mono (by omega)) (by rfl) T.mq_walked T.Fq_walked.kp T.bq_walked (a_cons (s_v (pv 1)) (a_cons (s_v (pv 7)) (a_cons (s_v (pv 2)) a_nil)))) (a_cons (s_call (okq_law_undone T) (hr.mono (by omega)) (by rfl) T.mq_law_undone T.Fq_law_undone.kp T.bq_law_undone (a_cons (s_v (pv 2)) a_nil)) a_nil)))) (b_v (pv 7)) (nomark _))
    (ss_one (p_ret s_bl))
    ss_nil)
    (ss_cons (p_for PassesOwn.never rfl (i_dat (s_call (okq_corners T) (hr.mono (by omega)) (by rfl) T.mq_corners T.Fq_corners.kp T.bq_corners (a_cons (s_v (pv 1)) a_nil))) (g_of (n_name (pg_name (i := 8) scq_law_right.nd rfl (by first | exact .inl rfl | exact .inr rfl))))
    (ss_un [8] (ss_cons (p_if (t_cmp (g_ne (un_of hr)) (s_call (okq_walked T) (hr.mono (by omega)) (by rfl) T.mq_walked T.Fq_walked.kp T.bq_walked (a_cons (s_v (pv 1)) (a_cons (s_ixv g_ix (pv 8) (b_s s_int) (fun _ _ => rfl)) (a_cons (s_bin g_mulS s_str (b_s (s_b1 cr_len (by rfl) T.z_len (by decide +kernel) (b_v (pv 8))))) a_nil)))) (b_s (s_ixv g_ix (pv 8) (b_s s_int) (fun _ _ => rfl))) (nomark _))
    (ss_one (p_ret s_bl))
    ss_nil)
    (ss_one (p_if (t_w (w_and (t_cmp g_gt (s_b1 cr_len (by rfl) T.z_len (by decide +kernel) (b_v (pv 8))) (b_s s_int) (nomark _)) (w_and1 (t_cmp (g_ne (un_of hr)) (s_call (okq_walked T) (hr.mono (by omega)) (by rfl) T.mq_walked T.Fq_walked.kp T.bq_walked (a_cons (s_v (pv 1)) (a_cons (s_ixv g_ix (pv 8) (b_s s_int) (fun _ _ => rfl)) (a_cons s_str a_nil)))) (b_s (s_ixv g_ix (pv 8) (b_s s_int) (fun _ _ => rfl))) (nomark _)))))
    (ss_one (p_ret s_bl))
    ss_nil)))))
    (ss_one (p_ret s_bl))))))))
theorem okq_law_flat (T : Facts K mg) : FnG P w K mg base 1 T.aq_law_flat T.dq_law_flat ["a", "b", "d"] (spD P w K q_law_flat) :=
  fn_d (N := ["a", "b", "d", "right_so", "up_so", "s", "i", "j"]) (ps := ["a", "b", "d"]) (body := bq_law_flat) (k := 0) T.Fq_law_flat scq_law_flat fun cdv A outer s H E c hr =>
    (ss_cons (p_par2 (i := 3) (j := 4) rfl scq_law_flat.nd rfl rfl (by decide) rfl rfl (m_consF (f_lst l_nil) (m_consF (f_lst l_nil) m_nil)) (by rfl))
    (ss_cons (p_for PassesOwn.never rfl (i_range1 (by rfl) T.z_range (l_cons (s_binv g_mul (pv 0) (b_v (pv 2))) l_nil)) (g_of (n_name (pg_name (i := 5) scq_law_flat.nd rfl (by first | exact .inl rfl | exact .inr rfl))))
    (ss_un [5, 6, 7] (ss_cons (p_par2 (i := 6) (j := 7) rfl scq_law_flat.nd rfl rfl (by decide) rfl rfl (m_cons (s_bin g_mod (s_t1 cr_intD (by rfl) T.z_int (by decide +kernel) (b_v (pv 5))) (b_v (pv 0))) (m_cons (s_binv g_div (pv 5) (b_v (pv 0))) m_nil)) (by rfl))
    (ss_cons (p_append (pv 3) (s_bin g_add (s_binv g_mul (pv 0) (b_v (pv 7))) (b_s (s_bin g_mod (s_t1 cr_intD (by rfl) T.z_int (by decide +kernel) (b_s (s_binv g_add (pv 6) (b_s s_int)))) (b_v (pv 0))))))
    (ss_one (p_append (pv 4) (s_if (t_cmpv g_lt (pv 7) (b_s (s_binv g_sub (pv 2) (b_s s_int))) (nomark _)) (s_binv g_add (pv 5) (b_v (pv 0))) (s_bin g_mod (s_t1 cr_intD (by rfl) T.z_int (by decide +kernel) (b_s (s_binv g_sub (pv 6) (b_v (pv 1))))) (b_v (pv 0))))))))))
    (ss_one (p_ret (s_tup (l_cons (s_t1 cr_tuple (by rfl) T.z_tuple (by decide +kernel) (b_v (pv 3))) (l_cons (s_t1 cr_tuple (by rfl) T.z_tuple (by decide +kernel) (b_v (pv 4))) l_nil)))))))
theorem okq_law_corner_world (T : Facts K mg) : FnG P w K mg base 1 T.aq_law_corner_world T.dq_law_corner_world ["wide", "high"] (spD P w K q_law_corner_world) :=
  fn_d (N := ["wide", "high", "n", "right_so", "s", "up_so", "one"]) (ps := ["wide", "high"]) (body := bq_law_corner_world) (k := 0) T.Fq_law_corner_world scq_law_corner_world fun cdv A outer s H E c hr =>
    (ss_cons (p_set (i := 2) scq_law_corner_world.nd rfl (by first | exact .inl rfl | exact .inr rfl) (s_bin g_sub (s_binv g_add (pv 0) (b_v (pv 1))) (b_s s_int)))
    (ss_cons (p_setLC (i := 3) rfl scq_law_corner_world.nd rfl rfl (by rfl) (i_range1 (by rfl) T.z_range (l_cons (s_v (pv 2)) l_nil)) (own := [("s", 4)]) (blkOk_by (by rfl)) (by simp) (fun _ _ _ _ _ => (n_name (pg_name (i := 4) scq_law_corner_world.nd rfl (by first | exact .inl rfl | exact .inr rfl)))) (fun _ _ _ _ _ => ts_nil) (fun _ _ _ _ _ => (s_if (t_cmpv g_lt (pv 4) (b_v (pv 0)) (nomark _)) (s_bin g_mod (s_t1 cr_intD (by rfl) T.z_int (by decide +kernel) (b_s (s_binv g_add (pv 4) (b_s s_int)))) (b_v (pv 0))) (s_v (pv 4)))))
    (ss_cons (p_setLC (i := 5) rfl scq_law_corner_world.nd rfl rfl (by rfl) (i_range1 (by rfl) T.z_range (l_cons (s_v (pv 2)) l_nil)) (own := [("s", 4)]) (blkOk_by (by rfl)) (by simp) (fun _ _ _ _ _ => (n_name (pg_name (i := 4) scq_law_corner_world.nd rfl (by first | exact .inl rfl | exact .inr rfl)))) (fun _ _ _ _ _ => ts_nil) (fun _ _ _ _ _ => (s_if (t_ch g_lt g_lt s_int (s_v (pv 4)) (s_v (pv 0))) (s_v (pv 4)) (s_if (t_cmpv g_gt (pv 4) (b_s s_int) (nomark _)) (s_binv g_add (pv 4) (b_s s_int)) (s_v (pv 0))))))
    (ss_cons (p_set (i := 5) scq_law_corner_world.nd rfl (by first | exact .inl rfl | exact .inr rfl) (s_if (t_cmpv g_gt (pv 1) (b_s s_int) (nomark _)) (s_f (f_lc rfl scq_law_corner_world.nd (i_dat (s_v (pv 5))) (own := [("one", 6)]) (blkOk_by (by rfl)) (by simp) (fun _ _ _ _ _ => (n_name (pg_name (i := 6) scq_law_corner_world.nd rfl (by first | exact .inl rfl | exact .inr rfl)))) (fun _ _ _ _ _ => ts_nil) (fun _ _ _ _ _ => (s_if (t_cmpv (g_eq (un_of hr)) (pv 6) (b_v (pv 2)) (nomark _)) s_int (s_v (pv 6)))))) (s_f (f_listRg rfl (by rfl) T.z_list (rg_1 (by rfl) T.z_range (s_v (pv 2)))))))
    (ss_one (p_ret (s_tup (l_cons (s_t1 cr_tuple (by rfl) T.z_tuple (by decide +kernel) (b_v (pv 3))) (l_cons (s_t1 cr_tuple (by rfl) T.z_tuple (by decide +kernel) (b_v (pv 5))) l_nil)))))))))
theorem okq_law_known_world (T : Facts K mg) : FnG P w K mg base 2 T.aq_law_known_world T.dq_law_known_world ["m"] (spD P w K q_law_known_world) :=
  fn_d (N := ["m", "word", "a", "wide"]) (ps := ["m"]) (body := bq_law_known_world) (k := 1) T.Fq_law_known_world scq_law_known_world fun cdv A outer s H E c hr =>
    (ss_cons (p_set (i := 1) scq_law_known_world.nd rfl (by first | exact .inl rfl | exact .inr rfl) (s_call (okq_law_draw T) (hr.mono (by omega)) (by rfl) T.mq_law_draw T.Fq_law_draw.kp T.bq_law_draw (a_lent (pv 0) (a_cons s_int a_nil))))
    (ss_cons (p_if (t_cmpv (g_eq (un_of hr)) (pv 1) (b_s s_int) (nomark _))
    (ss_cons (p_set (i := 2) scq_law_known_world.nd rfl (by first | exact .inl rfl | exact .inr rfl) (s_bin g_add s_int (b_s (s_call (okq_law_draw T) (hr.mono (by omega)) (by rfl) T.mq_law_draw T.Fq_law_draw.kp T.bq_law_draw (a_lent (pv 0) (a_cons s_int a_nil))))))
    (ss_one (p_ret (s_call (okq_law_flat T) (hr.mono (by omega)) (by rfl) T.mq_law_flat T.Fq_law_flat.kp T.bq_law_flat (a_cons (s_v (pv 2)) (a_cons (s_call (okq_law_draw T) (hr.mono (by omega)) (by rfl) T.mq_law_draw T.Fq_law_draw.kp T.bq_law_draw (a_lent (pv 0) (a_cons (s_v (pv 2)) a_nil))) (a_cons (s_bin g_add s_int (b_s (s_call (okq_law_draw T) (hr.mono (by omega)) (by rfl) T.mq_law_draw T.Fq_law_draw.kp T.bq_law_draw (a_lent (pv 0) (a_cons (s_bin g_div s_int (b_v (pv 2))) a_nil))))) a_nil)))))))
    ss_nil)
    (ss_cons (p_if (t_cmpv (g_eq (un_of hr)) (pv 1) (b_s s_int) (nomark _))
    (ss_cons (p_set (i := 3) scq_law_known_world.nd rfl (by first | exact .inl rfl | exact .inr rfl) (s_bin g_add s_int (b_s (s_call (okq_law_draw T) (hr.mono (by omega)) (by rfl) T.mq_law_draw T.Fq_law_draw.kp T.bq_law_draw (a_lent (pv 0) (a_cons s_int a_nil))))))
    (ss_one (p_ret (s_call (okq_law_corner_world T) (hr.mono (by omega)) (by rfl) T.mq_law_corner_world T.Fq_law_corner_world.kp T.bq_law_corner_world (a_cons (s_v (pv 3)) (a_cons (s_bin g_add s_int (b_s (s_call (okq_law_draw T) (hr.mono (by omega)) (by rfl) T.mq_law_draw T.Fq_law_draw.kp T.bq_law_draw (a_lent (pv 0) (a_cons (s_bin g_sub s_int (b_v (pv 3))) a_nil))))) a_nil))))))
    ss_nil)
    (ss_cons (p_if (t_cmpv (g_eq (un_of hr)) (pv 1) (b_s s_int) (nomark _))
    (ss_one (p_ret (s_tup (l_cons (s_tup (l_cons s_int (l_cons s_int (l_cons s_int (l_cons s_int l_nil))))) (l_cons (s_tup (l_cons s_int (l_cons s_int (l_cons s_int (l_cons s_int l_nil))))) l_nil)))))
    ss_nil)
    (ss_cons (p_if (t_cmpv (g_eq (un_of hr)) (pv 1) (b_s s_int) (nomark _))
    (ss_one (p_ret (s_tup (l_cons (s_tup (l_cons s_int (l_cons s_int (l_cons s_int (l_cons s_int (l_cons s_int (l_cons s_int (l_cons s_int (l_cons s_int l_nil))))))))) (l_cons (s_tup (l_cons s_int (l_cons s_int (l_cons s_int (l_cons s_int (l_cons s_int (l_cons s_int (l_cons s_int (l_cons s_int l_nil))))))))) l_nil)))))
    ss_nil)
    (ss_cons (p_if (t_cmpv (g_eq (un_of hr)) (pv 1) (b_s s_int) (nomark _))
    (ss_one (p_ret (s_tup (l_cons (s_tup (l_cons s_int (l_cons s_int (l_cons s_int (l_cons s_int (l_cons s_int l_nil)))))) (l_cons (s_tup (l_cons s_int (l_cons s_int (l_cons s_int (l_cons s_int (l_cons s_int l_nil)))))) l_nil)))))
    ss_nil)
    (ss_one (p_ret (s_tup (l_cons (s_tup (l_cons s_int (l_cons s_int (l_cons s_int (l_cons s_int (l_cons s_int (l_cons s_int l_nil))))))) (l_cons (s_tup (l_cons s_int (l_cons s_int (l_cons s_int (l_cons s_int (l_cons s_int (l_cons s_int l_nil))))))) l_nil)))))))))))
theorem okq_law_shuffled (T : Facts K mg) : FnG P w K mg base 3 T.aq_law_shuffled T.dq_law_shuffled ["m", "count"] (spD P w K q_law_shuffled) :=
  fn_d (N := ["m", "count", "left", "found", "k", "one", "other"]) (ps := ["m", "count"]) (body := bq_law_shuffled) (k := 2) T.Fq_law_shuffled scq_law_shuffled fun cdv A outer s H E c hr =>
    (ss_cons (p_par2 (i := 2) (j := 3) rfl scq_law_shuffled.nd rfl rfl (by decide) rfl rfl (m_cons (s_f (f_listRg rfl (by rfl) T.z_list (rg_1 (by rfl) T.z_range (s_v (pv 1))))) (m_consF (f_lst l_nil) m_nil)) (by rfl))
    (ss_cons (p_for PassesOwn.never rfl (i_range1 (by rfl) T.z_range (l_cons (s_v (pv 1)) l_nil)) (g_of (n_name (pg_name (i := 4) scq_law_shuffled.nd rfl (by first | exact .inl rfl | exact .inr rfl))))
    (ss_un [4, 5, 6] (ss_cons (p_set (i := 5) scq_law_shuffled.nd rfl (by first | exact .inl rfl | exact .inr rfl) (s_call (okq_law_of T) (hr.mono (by omega)) (by rfl) T.mq_law_of T.Fq_law_of.kp T.bq_law_of (a_lent (pv 0) (a_cons (s_v (pv 2)) a_nil))))
    (ss_cons (p_setLC (i := 2) rfl scq_law_shuffled.nd rfl rfl (by rfl) (i_dat (s_v (pv 2))) (own := [("other", 6)]) (blkOk_by (by rfl)) (by simp) (fun _ _ _ _ _ => (n_name (pg_name (i := 6) scq_law_shuffled.nd rfl (by first | exact .inl rfl | exact .inr rfl)))) (fun _ _ _ _ _ => (ts_one (t_cmpv (g_ne (un_of hr)) (pv 6) (b_v (pv 5)) (nomark _)))) (fun _ _ _ _ _ => (s_v (pv 6))))
    (ss_one (p_append (pv 3) (s_v (pv 5))))))))
    (ss_one (p_ret (s_t1 cr_tuple (by rfl) T.z_tuple (by decide +kernel) (b_v (pv 3)))))))
theorem okq_law_reached (T : Facts K mg) : FnG P w K mg base 1 T.aq_law_reached T.dq_law_reached ["right_so", "up_so"] (spD P w K q_law_reached) :=
  fn_d (N := ["right_so", "up_so", "found", "at", "one"]) (ps := ["right_so", "up_so"]) (body := bq_law_reached) (k := 0) T.Fq_law_reached scq_law_reached fun cdv A outer s H E c hr =>
    (ss_cons (p_setF (i := 2) scq_law_reached.nd rfl (by first | exact .inl rfl | exact .inr rfl) (f_lst (l_cons s_int l_nil)))
    (ss_cons (p_for PassesOwn.never rfl (i_range1 (by rfl) T.z_range (l_cons (s_b1 cr_len (by rfl) T.z_len (by decide +kernel) (b_v (pv 0))) l_nil)) (g_of (n_name (pg_name (i := 3) scq_law_reached.nd rfl (by first | exact .inl rfl | exact .inr rfl))))
    (ss_un [3, 4] (ss_one (p_if (t_cmpv g_lt (pv 3) (b_s (s_b1 cr_len (by rfl) T.z_len (by decide +kernel) (b_v (pv 2)))) (nomark _))
    (ss_one (p_for PassesOwn.never rfl (i_dat (s_tup (l_cons (s_ixv g_ix (pv 0) (b_s (s_ixv g_ix (pv 2) (b_v (pv 3)) (fun _ _ => rfl))) (fun _ _ => rfl)) (l_cons (s_ixv g_ix (pv 1) (b_s (s_ixv g_ix (pv 2) (b_v (pv 3)) (fun _ _ => rfl))) (fun _ _ => rfl)) l_nil)))) (g_of (n_name (pg_name (i := 4) scq_law_reached.nd rfl (by first | exact .inl rfl | exact .inr rfl))))
    (ss_un [4] (ss_one (p_if (t_cmpv (g_notIn (un_of hr)) (pv 4) (b_v (pv 2)) (by rfl))
    (ss_one (p_append (pv 2) (s_v (pv 4))))
    ss_nil)))))
    ss_nil))))
    (ss_one (p_ret (s_v (pv 2))))))
theorem okq_law_renamed (T : Facts K mg) : FnG P w K mg base 2 T.aq_law_renamed T.dq_law_renamed ["world", "listing"] (spD P w K q_law_renamed) :=
  fn_d (N := ["world", "listing", "spots", "s"]) (ps := ["world", "listing"]) (body := bq_law_renamed) (k := 1) T.Fq_law_renamed scq_law_renamed fun cdv A outer s H E c hr =>
    (ss_cons (p_set (i := 2) scq_law_renamed.nd rfl (by first | exact .inl rfl | exact .inr rfl) (s_call (okq_law_back T) (hr.mono (by omega)) (by rfl) T.mq_law_back T.Fq_law_back.kp T.bq_law_back (a_cons (s_v (pv 1)) a_nil)))
    (ss_one (p_ret (s_tup (l_cons (s_t1 cr_tuple (by rfl) T.z_tuple (by decide +kernel) (b_s (s_f (f_lc rfl scq_law_renamed.nd (i_dat (s_v (pv 1))) (own := [("s", 3)]) (blkOk_by (by rfl)) (by simp) (fun _ _ _ _ _ => (n_name (pg_name (i := 3) scq_law_renamed.nd rfl (by first | exact .inl rfl | exact .inr rfl)))) (fun _ _ _ _ _ => ts_nil) (fun _ _ _ _ _ => (s_ixv g_ix (pv 2) (b_s (s_ix g_ix (s_ixv g_ix (pv 0) (b_s s_int) (fun _ _ => rfl)) (b_v (pv 3)) (fun _ _ => rfl))) (fun _ _ => rfl))))))) (l_cons (s_t1 cr_tuple (by rfl) T.z_tuple (by decide +kernel) (b_s (s_f (f_lc rfl scq_law_renamed.nd (i_dat (s_v (pv 1))) (own := [("s", 3)]) (blkOk_by (by rfl)) (by simp) (fun _ _ _ _ _ => (n_name (pg_name (i := 3) scq_law_renamed.nd rfl (by first | exact .inl rfl | exact .inr rfl)))) (fun _ _ _ _ _ => ts_nil) (fun _ _ _ _ _ => (s_ixv g_ix (pv 2) (b_s (s_ix g_ix (s_ixv g_ix (pv 0) (b_s s_int) (fun _ _ => rfl)) (b_v (pv 3)) (fun _ _ => rfl))) (fun _ _ => rfl))))))) l_nil))))))
theorem okq_law_world (T : Facts K mg) : FnG P w K mg base 4 T.aq_law_world T.dq_law_world ["m", "most"] (spD P w K q_law_world) :=
  fn_d (N := ["m", "most", "n", "known", "right_so", "up_so", "step", "found", "s", "one", "rows"]) (ps := ["m", "most"]) (body := bq_law_world) (k := 3) T.Fq_law_world scq_law_world fun cdv A outer s H E c hr =>
    (ss_cons (p_set (i := 2) scq_law_world.nd rfl (by first | exact .inl rfl | exact .inr rfl) (s_bin g_add s_int (b_s (s_call (okq_law_draw T) (hr.mono (by omega)) (by rfl) T.mq_law_draw T.Fq_law_draw.kp T.bq_law_draw (a_lent (pv 0) (a_cons (s_v (pv 1)) a_nil))))))
    (ss_cons (p_if (t_cmp (g_eq (un_of hr)) (s_call (okq_law_draw T) (hr.mono (by omega)) (by rfl) T.mq_law_draw T.Fq_law_draw.kp T.bq_law_draw (a_lent (pv 0) (a_cons s_int a_nil))) (b_s s_int) (nomark _))
    (ss_cons (p_set (i := 3) scq_law_world.nd rfl (by first | exact .inl rfl | exact .inr rfl) (s_call (okq_law_known_world T) (hr.mono (by omega)) (by rfl) T.mq_law_known_world T.Fq_law_known_world.kp T.bq_law_known_world (a_lent (pv 0) a_nil)))
    (ss_one (p_if (t_w (w_and (t_cmp g_le (s_b1 cr_len (by rfl) T.z_len (by decide +kernel) (b_s (s_ixv g_ix (pv 3) (b_s s_int) (fun _ _ => rfl)))) (b_v (pv 1)) (nomark _)) (w_and1 (t_cmp (g_eq (un_of hr)) (s_b1 cr_len (by rfl) T.z_len (by decide +kernel) (b_s (s_call (okq_law_reached T) (hr.mono (by omega)) (by rfl) T.mq_law_reached T.Fq_law_reached.kp T.bq_law_reached (a_cons (s_ixv g_ix (pv 3) (b_s s_int) (fun _ _ => rfl)) (a_cons (s_ixv g_ix (pv 3) (b_s s_int) (fun _ _ => rfl)) a_nil))))) (b_s (s_b1 cr_len (by rfl) T.z_len (by decide +kernel) (b_s (s_ixv g_ix (pv 3) (b_s s_int) (fun _ _ => rfl))))) (nomark _)))))
    (ss_one (p_ret (s_call (okq_law_renamed T) (hr.mono (by omega)) (by rfl) T.mq_law_renamed T.Fq_law_renamed.kp T.bq_law_renamed (a_cons (s_v (pv 3)) (a_cons (s_call (okq_law_shuffled T) (hr.mono (by omega)) (by rfl) T.mq_law_shuffled T.Fq_law_shuffled.kp T.bq_law_shuffled (a_lent (pv 0) (a_cons (s_b1 cr_len (by rfl) T.z_len (by decide +kernel) (b_s (s_ixv g_ix (pv 3) (b_s s_int) (fun _ _ => rfl)))) a_nil))) a_nil)))))
    ss_nil)))
    ss_nil)
    (ss_cons (p_par2 (i := 4) (j := 5) rfl scq_law_world.nd rfl rfl (by decide) rfl rfl (m_cons (s_call (okq_law_shuffled T) (hr.mono (by omega)) (by rfl) T.mq_law_shuffled T.Fq_law_shuffled.kp T.bq_law_shuffled (a_lent (pv 0) (a_cons (s_v (pv 2)) a_nil))) (m_cons (s_call (okq_law_shuffled T) (hr.mono (by omega)) (by rfl) T.mq_law_shuffled T.Fq_law_shuffled.kp T.bq_law_shuffled (a_lent (pv 0) (a_cons (s_v (pv 2)) a_nil))) m_nil)) (by rfl))
    (ss_cons (p_for PassesOwn.never rfl (i_range1 (by rfl) T.z_range (l_cons (s_v (pv 2)) l_nil)) (g_of (n_name (pg_name (i := 6) scq_law_world.nd rfl (by first | exact .inl rfl | exact .inr rfl))))
    (ss_un [6, 7, 8, 9, 10] (ss_cons (p_set (i := 7) scq_law_world.nd rfl (by first | exact .inl rfl | exact .inr rfl) (s_call (okq_law_reached T) (hr.mono (by omega)) (by rfl) T.mq_law_reached T.Fq_law_reached.kp T.bq_law_reached (a_cons (s_v (pv 4)) (a_cons (s_v (pv 5)) a_nil))))
    (ss_one (p_if (t_cmp g_lt (s_b1 cr_len (by rfl) T.z_len (by decide +kernel) (b_v (pv 7))) (b_v (pv 2)) (nomark _))
    (ss_cons (p_set (i := 8) scq_law_world.nd rfl (by first | exact .inl rfl | exact .inr rfl) (s_ix g_ix (s_f (f_lc rfl scq_law_world.nd (i_range1 (by rfl) T.z_range (l_cons (s_v (pv 2)) l_nil)) (own := [("one", 9)]) (blkOk_by (by rfl)) (by simp) (fun _ _ _ _ _ => (n_name (pg_name (i := 9) scq_law_world.nd rfl (by first | exact .inl rfl | exact .inr rfl)))) (fun _ _ _ _ _ => (ts_one (t_cmpv (g_notIn (un_of hr)) (pv 9) (b_v (pv 7)) (by rfl)))) (fun _ _ _ _ _ => (s_v (pv 9))))) (b_s s_int) (fun _ _ => rfl)))
    (ss_cons (p_setF (i := 10) scq_law_world.nd rfl (by first | exact .inl rfl | exact .inr rfl) (f_t1 cr_list (by rfl) T.z_list (by decide +kernel) (b_v (pv 5))))
    (ss_cons (p_asg (s_tup (l_cons (s_ixv g_ix (pv 10) (b_v (pv 8)) (fun _ _ => rfl)) (l_cons (s_ixv g_ix (pv 10) (b_s s_int) (fun _ _ => rfl)) l_nil))) (g_tup rfl (gs_cons (g_lput (pv 10) s_int) (gs_cons (g_lput (pv 10) (s_v (pv 8))) gs_nil))))
    (ss_one (p_set (i := 5) scq_law_world.nd rfl (by first | exact .inl rfl | exact .inr rfl) (s_t1 cr_tuple (by rfl) T.z_tuple (by decide +kernel) (b_v (pv 10))))))))
    ss_nil)))))
    (ss_one (p_ret (s_tup (l_cons (s_v (pv 4)) (l_cons (s_v (pv 5)) l_nil)))))))))
theorem okq_law (T : Facts K mg) : FnG P w K mg base 5 T.aq_law T.dq_law ["script"] (spD P w K q_law) :=
  fn_d (N := ["script", "three", "told", "turn", "m"]) (ps := ["script"]) (body := bq_law) (k := 4) T.Fq_law scq_law fun cdv A outer s H E c hr =>
    (ss_cons (p_set (i := 1) scq_law.nd rfl (by first | exact .inl rfl | exact .inr rfl) (s_tup (l_cons (s_tup (l_cons s_int (l_cons s_int (l_cons s_int l_nil)))) (l_cons (s_tup (l_cons s_int (l_cons s_int (l_cons s_int l_nil)))) l_nil))))
    (ss_cons (p_set (i := 2) scq_law.nd rfl (by first | exact .inl rfl | exact .inr rfl) (s_f (f_lst (l_cons (s_call (okq_walked T) (hr.mono (by omega)) (by rfl) T.mq_walked T.Fq_walked.kp T.bq_walked (a_cons (s_v (pv 1)) (a_cons s_int (a_cons s_str a_nil)))) (l_cons (s_call (okq_walked T) (hr.mono (by omega)) (by rfl) T.mq_walked T.Fq_walked.kp T.bq_walked (a_cons (s_v (pv 1)) (a_cons s_int (a_cons s_str a_nil)))) (l_cons (s_call (okq_go_back T) (hr.mono (by omega)) (by rfl) T.mq_go_back T.Fq_go_back.kp T.bq_go_back (a_cons (s_v (pv 1)) (a_cons s_str a_nil))) l_nil))))))
    (ss_cons (p_set (i := 2) scq_law.nd rfl (by first | exact .inl rfl | exact .inr rfl) (s_binv g_add (pv 2) (b_s (s_f (f_lst (l_cons (s_call (okq_go_back T) (hr.mono (by omega)) (by rfl) T.mq_go_back T.Fq_go_back.kp T.bq_go_back (a_cons (s_v (pv 1)) (a_cons s_str a_nil))) (l_cons (s_call (okq_go_back T) (hr.mono (by omega)) (by rfl) T.mq_go_back T.Fq_go_back.kp T.bq_go_back (a_cons (s_v (pv 1)) (a_cons s_str a_nil))) l_nil)))))))
    (ss_cons (p_if (t_not (t_s (s_call (okq_law_like T) (hr.mono (by omega)) (by rfl) T.mq_law_like T.Fq_law_like.kp T.bq_law_like (a_cons (s_v (pv 2)) (a_cons (s_f (f_lst (l_cons s_int (l_cons s_int (l_cons (s_tup (l_cons s_int l_nil)) (l_cons (s_tup (l_cons s_int (l_cons s_int (l_cons s_int l_nil)))) (l_cons (s_tup l_nil) l_nil))))))) a_nil))) (fun _ => rfl)))
    (ss_one (p_ret s_bl))
    ss_nil)
    (ss_cons (p_for PassesOwn.never rfl (i_range1 (by rfl) T.z_range (l_cons (s_b2 (cr_max2 rfl) (by rfl) T.z_max (by decide +kernel) s_int (b_s (s_b2 (cr_min2 rfl) (by rfl) T.z_min (by decide +kernel) (s_b1 cr_len (by rfl) T.z_len (by decide +kernel) (b_v (pv 0))) (b_s s_int)))) l_nil)) (g_of (n_name (pg_name (i := 3) scq_law.nd rfl (by first | exact .inl rfl | exact .inr rfl))))
    (ss_un [3, 4] (ss_cons (p_setF (i := 4) scq_law.nd rfl (by first | exact .inl rfl | exact .inr rfl) (f_call (okq_law_begun T) (hr.mono (by omega)) (by rfl) T.mq_law_begun T.Fq_law_begun.kp T.bq_law_begun (a_cons (s_v (pv 0)) (a_cons (s_v (pv 3)) a_nil))))
    (ss_one (p_if (t_not (t_s (s_call (okq_law_right T) (hr.mono (by omega)) (by rfl) T.mq_law_right T.Fq_law_right.kp T.bq_law_right (a_lent (pv 4) (a_cons (s_call (okq_law_world T) (hr.mono (by omega)) (by rfl) T.mq_law_world T.Fq_law_world.kp T.bq_law_world (a_lent (pv 4) (a_cons s_int a_nil))) a_nil))) (fun _ => rfl)))
    (ss_one (p_ret s_bl))
    ss_nil)))))
    (ss_one (p_ret s_bl)))))))
end
end k13
namespace k13
open PySem PySem.Spec PyProof.Rows L2 VD
/-! ### the draws -/
def mD (L s : Int) (cs : List Int) (p : Int) : Ob := .dk [(.inr "left", .int L), (.inr "seed", .int s), (.inr "cells", dL cs), (.inr "spot", .int p)]
theorem m_left (L s : Int) (cs : List Int) (p : Int) : obGet (mD L s cs p) (.str "left") = some (some (.int L)) := rfl
theorem m_seed (L s : Int) (cs : List Int) (p : Int) : obGet (mD L s cs p) (.str "seed") = some (some (.int s)) := rfl
theorem m_cells (L s : Int) (cs : List Int) (p : Int) : obGet (mD L s cs p) (.str "cells") = some (some (dL cs)) := rfl
theorem m_spot (L s : Int) (cs : List Int) (p : Int) : obGet (mD L s cs p) (.str "spot") = some (some (.int p)) := rfl
theorem m_putL (L s : Int) (cs : List Int) (p L' : Int) : obPut (mD L s cs p) (.str "left") (.int L') = some (mD L' s cs p) := rfl
theorem m_putS (L s : Int) (cs : List Int) (p p' : Int) : obPut (mD L s cs p) (.str "spot") (.int p') = some (mD L s cs p') := rfl
theorem m_isD (L s : Int) (cs : List Int) (p : Int) : isD (mD L s cs p) = true := rfl
theorem atI_in {α : Type} {l : List α} {i : Int} (h0 : 0 ≤ i) (h1 : i < l.length) : ∃ x, atI l i = some x ∧ x ∈ l := by
  have h : i.toNat < l.length := by omega
  refine ⟨l[i.toNat], ?_, List.getElem_mem h⟩
  unfold atI ixN
  rw [if_pos h0, if_pos h1]
  show l[i.toNat]? = _
  exact List.getElem?_eq_getElem h
structure DrawOk (n : Nat) (L s : Int) (cs : List Int) (p : Int) : Prop where
  left : 0 ≤ L
  seed : 0 ≤ s
  cells : cs ≠ []
  spot : 0 ≤ p
  most : p ≤ n
theorem r_draw {n : Nat} {L s : Int} {cs : List Int} {p b : Int} (h : DrawOk n L s cs p) (hn : n < 1000000) (hb : 0 < b) (hb2 : b < 1000000) :
    ∃ r L' p', 0 ≤ r ∧ r < b ∧ DrawOk (n + 1) L' s cs p' ∧ q_law_draw [.ow true (mD L s cs p), .fz (.int b)] = some (.dt (.int r), [.ow true (mD L' s cs p'), .fz (.int b)]) := by
  obtain ⟨h1, h2, h3, h4, h5⟩ := h
  have b1 : b < 1073741824 := by omega
  by_cases hL : 0 < L
  · refine ⟨L % b, L / b, p, Int.emod_nonneg _ (by omega), Int.emod_lt_of_pos _ hb, ⟨Int.ediv_nonneg h1 (by omega), h2, h3, h4, by omega⟩, ?_⟩
    simp [q_law_draw, bq_law_draw, vd, m_isD, m_left, gGt, gCmp, asBool, hL, gInt, gMod, vw, hb, gDiv, b1, gDPut, m_putL, flow, outsOf]
  · have hc : 0 < (cs.length : Int) := by
      have := List.length_pos_iff.mpr h3
      omega
    obtain ⟨cell, hcell, _⟩ := atI_in (l := cs) (i := p % cs.length) (Int.emod_nonneg _ (by omega)) (Int.emod_lt_of_pos _ hc)
    have hcell' : atI (cs.map PyData.int) (p % cs.length) = some (.int cell) := by rw [atI_map, hcell]; rfl
    have q1 : p.natAbs < 18446744073709551616 := by omega
    have q2 : (2 * p + 3).natAbs < 18446744073709551616 := by omega
    have q3 : ∀ z : Int, (z % 2147483647).natAbs < 18446744073709551616 := fun z => by omega
    have q4 : ∀ z : Int, (z % 2147483629).natAbs < 18446744073709551616 := fun z => by omega
    have hcN : 0 < cs.length := by omega
    have key : ∃ z : Int, q_law_draw [.ow true (mD L s cs p), .fz (.int b)] = some (.dt (.int (z % b)), [.ow true (mD L s cs (p + 1)), .fz (.int b)]) := by
      simp [q_law_draw, bq_law_draw, vd, m_isD, m_left, gGt, gCmp, asBool, hL, gInt, gMod, vw, hb, gDiv, b1, gDPut, m_putS, m_spot, m_cells, m_seed, gAdd, gMulA, gLen, gIx, q1, q2, q3, q4, setAll, setRV, hcN, hcell', flow, outsOf]
      exact ⟨_, rfl⟩
    obtain ⟨z, hz⟩ := key
    exact ⟨z % b, L, p + 1, Int.emod_nonneg _ (by omega), Int.emod_lt_of_pos _ hb, ⟨h1, h2, h3, by omega, by omega⟩, hz⟩
theorem cut_map (l : List Int) (lo hi : Option Int) : ∃ c : List Int, VD.cutD (l.map .int) lo hi = c.map .int ∧ c.length ≤ l.length := by
  unfold VD.cutD
  refine ⟨(l.drop (HT.sIx l.length 0 lo)).take (HT.sIx l.length l.length hi - HT.sIx l.length 0 lo), ?_, ?_⟩
  · simp [List.map_drop, List.map_take]
  · simp
    omega
theorem r_begun (l : List Int) (hl : l.length ≤ 1000) (k : Int) (hk0 : 0 ≤ k) (hk : k < 1000) : ∃ L s cs, DrawOk 0 L s cs 0 ∧ q_law_begun [.fz (dL l), .fz (.int k)] = some (.fr (mD L s cs 0), [.fz (dL l), .fz (.int k)]) := by
  obtain ⟨c1, e1, l1⟩ := cut_map l (some k) none
  obtain ⟨c2, e2, l2⟩ := cut_map l none (some k)
  have hlen : c1.length + c2.length ≤ 1000000 := by omega
  obtain ⟨cs, e3, l3⟩ : ∃ cs : List Int, c1.map PyData.int ++ c2.map PyData.int = cs.map PyData.int ∧ cs.length ≤ 2000 := ⟨c1 ++ c2, by simp, by simp; omega⟩
  have g := lcS_map (tg := gN 4) (tt := kT (k2v gGe 4 (k2 gPow (kC (.int 10)) (kC (.int 18))))) (te := VD.kV 4) (vs := [4]) (enc := PyData.int) (S := [.fz (dL l), .fz (.int k), .fz (dL cs), .un, .un, .un]) (fun x => decide ((10 : Int) ^ 18 ≤ x)) (fun x => .int x) cs [] (by simp; omega) fun x hx => by
    refine ⟨[.fz (dL l), .fz (.int k), .fz (dL cs), .un, .fz (.int x), .un], [.fz (dL l), .fz (.int k), .fz (dL cs), .un, .fz (.int x), .un], by simp, ?_, by simp [unS], fun _ => ⟨[.fz (dL l), .fz (.int k), .fz (dL cs), .un, .fz (.int x), .un], by simp, by simp [unS]⟩⟩
    simp [vw, gPow, gGe, gCmp, asBool]
  have hgr : ∀ x ∈ cs.filter (fun x => decide ((10 : Int) ^ 18 ≤ x)), 0 ≤ x := fun x hx => by
    have := (List.mem_filter.mp hx).2
    have h : (10 : Int) ^ 18 ≤ x := by simpa using this
    have : (0 : Int) ≤ 10 ^ 18 := by decide
    omega
  generalize cs.filter (fun x => decide ((10 : Int) ^ 18 ≤ x)) = gr at g hgr
  have f := forS_fold (tg := gN 4) (body := kUn [4] (kSet 5 (k2 gMod (k1 gInt (k2 gAdd (k2v gMulA 5 (kC (.int 48271))) (kB 4))) (kC (.int 2147483647))))) (enc := PyData.int) (fun a : Int => [.fz (dL l), .fz (.int k), .fz (dL cs), .ow false (.lst (gr.map .int)), .un, .fz (.int a)]) (fun a x => (a * 48271 + x) % 2147483647) (fun a => 0 ≤ a) cs (71 + k) (by omega) fun a _ x _ => by
    refine ⟨?_, Int.emod_nonneg _ (by omega)⟩
    simp [vw, gMulA, gAdd, gInt, gMod, unS]
  obtain ⟨f1, f2⟩ := f
  have hkk : k.natAbs < 18446744073709551616 := by omega
  have hl1 : cs.length + 1 ≤ 1000000 := by omega
  generalize cs.foldl (fun a x => (a * 48271 + x) % 2147483647) (71 + k) = sd at f1 f2
  have fin : ∃ L, 0 ≤ L ∧ q_law_begun [.fz (dL l), .fz (.int k)] = some (.fr (mD L sd (cs ++ [53 * k + 11]) 0), [.fz (dL l), .fz (.int k)]) := by
    rw [List.nil_append] at g
    cases gr with
    | nil =>
      refine ⟨0, by omega, ?_⟩
      simp only [List.map_nil] at g f1
      simp [q_law_begun, bq_law_begun, vw, gSl, e1, e2, gAdd, hlen, e3, itemsD, unS, g, f1, kPairs, gNe, asBool, PyData.eqv, PyData.eqvAll, PyData.depth, PyData.depthAll, gMulA, hkk, hl1, keysK, keyK, flow, outsOf]
      rw [show cs.map PyData.int ++ [PyData.int (53 * k + 11)] = (cs ++ [53 * k + 11]).map PyData.int by simp]
      rfl
    | cons x r =>
      refine ⟨x, hgr x List.mem_cons_self, ?_⟩
      simp only [List.map_cons] at g f1
      simp [q_law_begun, bq_law_begun, vw, gSl, e1, e2, gAdd, hlen, e3, itemsD, unS, g, f1, kPairs, gNe, asBool, PyData.eqv, PyData.eqvAll, PyData.depth, PyData.depthAll, gMulA, hkk, hl1, keysK, keyK, flow, outsOf, gIx, atI, ixN]
      rw [show cs.map PyData.int ++ [PyData.int (53 * k + 11)] = (cs ++ [53 * k + 11]).map PyData.int by simp]
      rfl
  obtain ⟨L, hL, e⟩ := fin
  exact ⟨L, _, _, ⟨hL, f2, by simp, by omega, by omega⟩, e⟩
end k13
namespace k13
open PySem PySem.Spec PyProof.Rows L2 VD
/-! ### drawn listings -/
theorem r_of {n : Nat} {L s : Int} {cs : List Int} {p : Int} (h : DrawOk n L s cs p) (hn : n < 1000000) (l : List Nat) (h0 : l ≠ []) (hl : l.length < 1000000) :
    ∃ x L' p', x ∈ l ∧ DrawOk (n + 1) L' s cs p' ∧ q_law_of [.ow true (mD L s cs p), .fz (nL l)] = some (.dt (.int ((x : Nat) : Int)), [.ow true (mD L' s cs p'), .fz (nL l)]) := by
  have hp : 0 < l.length := List.length_pos_iff.mpr h0
  obtain ⟨r, L', p', h1, h2, h3, h4⟩ := r_draw h hn (b := (l.length : Int)) (by omega) (by omega)
  obtain ⟨i, rfl⟩ : ∃ i : Nat, r = (i : Int) := ⟨r.toNat, by omega⟩
  have hi : i < l.length := by omega
  have ha := at_nI l i hi
  refine ⟨l.getD i 0, L', p', ?_, h3, ?_⟩
  · rw [getD_get l i hi]
    exact List.getElem_mem hi
  · have hlen : (l.map nI).length = l.length := by simp
    show q_law_of [.ow true (mD L s cs p), .fz (.list (l.map nI))] = some (_, [_, .fz (.list (l.map nI))])
    generalize l.getD i 0 = x at ha ⊢
    generalize l.map nI = ld at ha hlen ⊢
    simp [q_law_of, bq_law_of, vw, gLen, hlen, lentIx, lentAll, backS, h4, gIx, ha, flow, outsOf]
theorem r_shuffled {n : Nat} {L s : Int} {cs : List Int} {p : Int} (h : DrawOk n L s cs p) (hn : n < 900000) (c : Nat) (hc : c < 1000) :
    ∃ row L' p', Pm c row ∧ DrawOk (n + c) L' s cs p' ∧ q_law_shuffled [.ow true (mD L s cs p), .fz (.int (c : Int))] = some (.dt (nT row), [.ow true (mD L' s cs p'), .fz (.int (c : Int))]) := by
  obtain ⟨⟨L2, p2, fr2, left2, found2⟩, f1, f2, f3, f4⟩ := forS_ex (tg := gN 4) (body := kUn [4, 5, 6] (kSeq (kSet 5 (rvE (kCall q_law_of (kALent 0 (kACons (VD.kV 2) kANil)))))
    (kSeq (kSetF 2 (kLC (kI (VD.kV 2)) (gN 6) (kT (k2v gNe 6 (kB 5))) (VD.kV 6) [6]))
    (kApp 3 (VD.kV 5))))) (enc := nI)
    (fun a : Int × Int × Bool × List Nat × List Nat => [.ow true (mD a.1 s cs a.2.1), .fz (.int (c : Int)), (if a.2.2.1 then .fz (.list (a.2.2.2.1.map nI)) else .ow false (.lst (a.2.2.2.1.map nI))), .ow false (.lst (a.2.2.2.2.map nI)), .un, .un, .un])
    (fun r a => a.2.2.2.1.length = r.length ∧ (a.2.2.2.2 ++ a.2.2.2.1).Perm (List.range c) ∧ DrawOk (n + (c - r.length)) a.1 s cs a.2.1 ∧ r.length ≤ c) (List.range c) (L, p, true, List.range c, []) ⟨by simp, by simp, by simpa using h, by simp⟩ fun x r a hI => by
      obtain ⟨L1, p1, fr, left, found⟩ := a
      obtain ⟨i1, i2, i3, i4⟩ := hI
      simp only [List.length_cons] at i1 i2 i3 i4
      have h0 : left ≠ [] := by
        intro e
        rw [e] at i1
        simp at i1
      obtain ⟨one, L2, p2, m1, d2, ho⟩ := r_of i3 (by omega) left h0 (by omega)
      have hnd : left.Nodup := by
        have := (List.Perm.nodup_iff i2).mpr List.nodup_range
        exact (List.nodup_append.mp this).2.1
      have hfl : found.length + left.length = c := by
        have := List.Perm.length_eq i2
        simpa using this
      have g := lcS_map (tg := gN 6) (tt := kT (k2v gNe 6 (kB 5))) (te := VD.kV 6) (vs := [6]) (enc := nI) (S := [.ow true (mD L2 s cs p2), .fz (.int (c : Int)), .fz (.list (left.map nI)), .ow false (.lst (found.map nI)), .fz (.int (x : Int)), .fz (.int (one : Int)), .un]) (fun y => decide (y ≠ one)) nI left [] (by simp; omega) fun y hy => by
        refine ⟨[.ow true (mD L2 s cs p2), .fz (.int (c : Int)), .fz (.list (left.map nI)), .ow false (.lst (found.map nI)), .fz (.int (x : Int)), .fz (.int (one : Int)), .fz (.int (y : Int))], [.ow true (mD L2 s cs p2), .fz (.int (c : Int)), .fz (.list (left.map nI)), .ow false (.lst (found.map nI)), .fz (.int (x : Int)), .fz (.int (one : Int)), .fz (.int (y : Int))], by simp, ?_, by simp [unS], fun _ => ⟨[.ow true (mD L2 s cs p2), .fz (.int (c : Int)), .fz (.list (left.map nI)), .ow false (.lst (found.map nI)), .fz (.int (x : Int)), .fz (.int (one : Int)), .fz (.int (y : Int))], by simp, by simp [unS]⟩⟩
        have e := natcast_eq y one
        simp [vw, gNe_int, asBool]
        omega
      rw [List.nil_append] at g
      refine ⟨(L2, p2, false, left.filter (fun y => decide (y ≠ one)), found ++ [one]), ?_, ?_, ?_, ?_, by omega⟩
      · have hfs : found.length < 1000000 := by omega
        show _ = some (Out.nx [_, _, SS.ow false (.lst ((left.filter (fun y => decide (y ≠ one))).map nI)), SS.ow false (.lst ((found ++ [one]).map nI)), _, _, _])
        generalize hFD : (left.filter (fun y => decide (y ≠ one))).map nI = FD at g ⊢
        have hfm : (found.map nI).length = found.length := by simp
        have hap : (found ++ [one]).map nI = found.map nI ++ [.int (one : Int)] := by simp
        rw [hap]
        have ho2 : q_law_of [.ow true (mD L1 s cs p1), .fz (.list (left.map nI))] = some (.dt (.int ((one : Nat) : Int)), [.ow true (mD L2 s cs p2), .fz (.list (left.map nI))]) := ho
        generalize left.map nI = LD at g ho2 ⊢
        generalize found.map nI = FO at g hfm ⊢
        cases fr with
        | true => simp [vw, lentIx, lentAll, backS, ho2, itemsD, unS, g, tyD, hfm, hfs]
        | false => simp [vw, lentIx, lentAll, backS, ho2, itemsD, unS, g, tyD, hfm, hfs]
      · have he : (left.filter fun y => decide (y ≠ one)) = left.erase one := by
          rw [List.Nodup.erase_eq_filter hnd]
          refine List.filter_congr fun y _ => ?_
          by_cases q : y = one
          · subst q; simp
          · simp [q]
        simp only
        rw [he, List.length_erase_of_mem m1]
        omega
      · have he : (left.filter fun y => decide (y ≠ one)) = left.erase one := by
          rw [List.Nodup.erase_eq_filter hnd]
          refine List.filter_congr fun y _ => ?_
          by_cases q : y = one
          · subst q; simp
          · simp [q]
        simp only
        rw [he, List.append_assoc]
        refine List.Perm.trans (List.Perm.append_left found ?_) i2
        exact (List.perm_cons_erase m1).symm
      · simp only
        rw [show n + (c - r.length) = n + (c - (r.length + 1)) + 1 by omega]
        exact d2
  simp only [List.length_nil, Nat.sub_zero] at f2 f3 f4
  have hl0 : left2 = [] := List.eq_nil_of_length_eq_zero f2
  subst hl0
  rw [List.append_nil] at f3
  refine ⟨found2, L2, p2, f3, f4.1, ?_⟩
  have hc1 : c < 1152921504606846976 := by omega
  have hc2 : (c : Int) ≤ 1000000 := by omega
  have hr := range_nI c
  have ff := f1
  simp only [List.map_nil, List.map_cons, if_true] at ff
  show _ = some (RV.dt (.tuple (found2.map nI)), _)
  generalize (List.range c).map nI = RD at hr ff
  generalize found2.map nI = FO at ff ⊢
  cases fr2 with
  | true =>
    simp only [if_true] at ff
    simp [q_law_shuffled, bq_law_shuffled, vw, hc1, hc2, hr, setAll, setRV, ff, gTuple, flow, outsOf]
  | false =>
    simp only [Bool.false_eq_true, if_false] at ff
    simp [q_law_shuffled, bq_law_shuffled, vw, hc1, hc2, hr, setAll, setRV, ff, gTuple, flow, outsOf]
end k13
namespace k13
open PySem PySem.Spec PyProof.Rows L2 VD
theorem map_nI {α : Type} (f : α → Nat) (l : List α) : l.map (fun x => nI (f x)) = (l.map f).map nI := by
  rw [List.map_map]
  rfl
theorem len_nI (l : List Nat) : (l.map nI).length = l.length := List.length_map ..
theorem DrawOk.mono {n m : Nat} {L s : Int} {cs : List Int} {p : Int} (h : DrawOk n L s cs p) (hm : n ≤ m) : DrawOk m L s cs p := ⟨h.left, h.seed, h.cells, h.spot, by have := h.most; omega⟩
theorem r_back {n : Nat} {r : List Nat} (h : Pm n r) (hn : n ≤ 1000) : q_law_back [.fz (nT r)] = some (.dt (nT (VD.inv n r)), [.fz (nT r)]) := by
  have g := lcS_all (tg := gN 1) (te := kMv "tuple" gIndexT 0 (kB 1)) (vs := [1]) (enc := nI) (S := [.fz (.tuple (r.map nI)), .un]) (fun k => nI (r.idxOf k)) (List.range n) (by simp; omega) fun k hk => by
    have hm := (h.mem k).mpr (List.mem_range.mp hk)
    have hi := index_nT k r hm
    refine ⟨[.fz (.tuple (r.map nI)), .fz (.int (k : Int))], [.fz (.tuple (r.map nI)), .fz (.int (k : Int))], by simp, ?_, by simp [unS], by simp [unS]⟩
    have hi2 : gIndexT (.tuple (r.map nI)) (.int (k : Int)) = some (.int ((r.idxOf k : Nat) : Int)) := hi
    generalize r.map nI = rd at hi2 ⊢
    simp [vw, tyD, hi2]
  rw [map_nI (fun k => r.idxOf k)] at g
  have hl : (r.map nI).length = n := by rw [len_nI, h.len]
  have hn1 : n < 1152921504606846976 := by omega
  have hr := range_nI n
  show _ = some (RV.dt (.tuple (((List.range n).map fun k => r.idxOf k).map nI)), [SS.fz (.tuple (r.map nI))])
  generalize ((List.range n).map fun k => r.idxOf k).map nI = res at g ⊢
  generalize (List.range n).map nI = RD at g hr
  show q_law_back [.fz (.tuple (r.map nI))] = _
  generalize r.map nI = rd at g hl ⊢
  simp [q_law_back, bq_law_back, vw, gLen, hl, hn1, hr, unS, g, gTuple, flow, outsOf]
def pApp (l : List Nat) (x : Nat) : List Nat := if x ∈ l then l else l ++ [x]
structure Some0 (n : Nat) (l : List Nat) : Prop where
  nd : l.Nodup
  lt : ∀ x ∈ l, x < n
  ne : l ≠ []
theorem Some0.len {n : Nat} {l : List Nat} (h : Some0 n l) : l.length ≤ n := by
  have := nodup_le l (List.range n) h.nd fun x hx => List.mem_range.mpr (h.lt x hx)
  simpa using this
theorem Some0.app {n : Nat} {l : List Nat} (h : Some0 n l) {x : Nat} (hx : x < n) : Some0 n (pApp l x) := by
  unfold pApp
  split
  · exact h
  · rename_i hm
    refine ⟨?_, fun y hy => ?_, by simp⟩
    · rw [List.nodup_append]
      refine ⟨h.nd, by simp, fun a ha b hb => ?_⟩
      rw [List.mem_singleton] at hb
      subst hb
      exact fun e => hm (e ▸ ha)
    · rcases List.mem_append.mp hy with hy | hy
      · exact h.lt y hy
      · rw [List.mem_singleton] at hy
        omega
theorem r_reached {n : Nat} {a b : List Nat} (ha : Pm n a) (hb : Pm n b) (h1 : 1 ≤ n) (hn : n ≤ 1000) :
    ∃ l, Some0 n l ∧ q_law_reached [.fz (nT a), .fz (nT b)] = some (.dt (nL l), [.fz (nT a), .fz (nT b)]) := by
  obtain ⟨l, f1, f2⟩ := forS_ex (tg := gN 3) (body := kUn [3, 4] (kIfS (kT (k2v gLt 3 (k1 gLen (kB 2)))) (kFor (kI (VD.kTup (kCons (k2v gIx 0 (k2v gIx 2 (kB 3))) (kCons (k2v gIx 1 (k2v gIx 2 (kB 3))) kNil)))) (gN 4) (kUn [4] (kIfS (kT (k2v gNotIn 4 (kB 2))) (kApp 2 (VD.kV 4)) kNx))) kNx)) (enc := nI)
    (fun fd : List Nat => [.fz (.tuple (a.map nI)), .fz (.tuple (b.map nI)), .ow false (.lst (fd.map nI)), .un, .un]) (fun _ fd => Some0 n fd) (List.range n) [0] ⟨by simp, by simp; omega, by simp⟩ fun i r fd hI => by
      by_cases hi : i < fd.length
      · have hx : pa fd i < n := by
          refine hI.lt _ ?_
          show fd.getD i 0 ∈ fd
          rw [getD_get fd i hi]
          exact List.getElem_mem hi
        have e1 := at_nI fd i hi
        have e2 := at_nI a (pa fd i) (by rw [ha.len]; exact hx)
        have e3 := at_nI b (pa fd i) (by rw [hb.len]; exact hx)
        obtain ⟨fd2, g1, g2⟩ := forS_ex (tg := gN 4) (body := kUn [4] (kIfS (kT (k2v gNotIn 4 (kB 2))) (kApp 2 (VD.kV 4)) kNx)) (enc := nI)
          (fun fd : List Nat => [.fz (.tuple (a.map nI)), .fz (.tuple (b.map nI)), .ow false (.lst (fd.map nI)), .fz (.int (i : Int)), .un]) (fun r fd => Some0 n fd ∧ ∀ x ∈ r, x < n) [pa a (pa fd i), pa b (pa fd i)] fd ⟨hI, fun x hx2 => by
            rcases List.mem_cons.mp hx2 with e | hx2
            · rw [e]
              exact ha.lt hx
            · rw [List.mem_singleton] at hx2
              rw [hx2]
              exact hb.lt hx⟩ fun x r fd hJ => by
              obtain ⟨j1, j2⟩ := hJ
              refine ⟨pApp fd x, ?_, j1.app (j2 x List.mem_cons_self), fun y hy => j2 y (List.mem_cons_of_mem _ hy)⟩
              have hni : gNotIn (.int (x : Int)) (.list (fd.map nI)) = some (.bool (!decide (x ∈ fd))) := notIn_nL x fd
              have hlen := j1.len
              have hlen2 : (fd.map nI).length < 1000000 := by rw [len_nI]; omega
              unfold pApp
              by_cases hm : x ∈ fd
              · rw [if_pos hm]
                generalize fd.map nI = FD at hni ⊢
                simp [vw, hni, hm, asBool, unS]
              · rw [if_neg hm]
                have hap : (fd ++ [x]).map nI = fd.map nI ++ [.int (x : Int)] := by simp
                rw [hap]
                generalize fd.map nI = FD at hni hlen2 ⊢
                simp [vw, hni, hm, asBool, unS, tyD, hlen2]
        refine ⟨fd2, ?_, g2.1⟩
        simp only [List.map_cons, List.map_nil] at g1
        have hlt : (i : Int) < (fd.length : Int) := by omega
        have hfl := len_nI fd
        have e2' : atI (a.map nI) ((fd.getD i 0 : Nat) : Int) = some (.int ((pa a (pa fd i) : Nat) : Int)) := e2
        have e3' : atI (b.map nI) ((fd.getD i 0 : Nat) : Int) = some (.int ((pa b (pa fd i) : Nat) : Int)) := e3
        generalize pa a (pa fd i) = y1 at e2' g1
        generalize pa b (pa fd i) = y2 at e3' g1
        generalize fd.getD i 0 = y0 at e1 e2' e3'
        generalize fd.map nI = FD at e1 g1 hfl ⊢
        generalize a.map nI = AD at e2' g1 ⊢
        generalize b.map nI = BD at e3' g1 ⊢
        generalize fd2.map nI = F2 at g1 ⊢
        simp [vw, gLen, hfl, gLt, gCmp, hi, asBool, gIx, e1, e2', e3', itemsD, g1, unS]
      · refine ⟨fd, ?_, hI⟩
        have hfl := len_nI fd
        generalize fd.map nI = FD at hfl ⊢
        simp [vw, gLen, hfl, gLt, gCmp, hi, asBool, unS]
  refine ⟨l, f2, ?_⟩
  have hl : (a.map nI).length = n := by rw [len_nI, ha.len]
  have hn1 : n < 1152921504606846976 := by omega
  have hr := range_nI n
  simp only [List.map_cons, List.map_nil] at f1
  show q_law_reached [.fz (.tuple (a.map nI)), .fz (.tuple (b.map nI))] = some (RV.dt (.list (l.map nI)), [.fz (.tuple (a.map nI)), .fz (.tuple (b.map nI))])
  generalize (List.range n).map nI = RD at f1 hr
  generalize a.map nI = AD at f1 hl ⊢
  generalize b.map nI = BD at f1 ⊢
  generalize l.map nI = LD at f1 ⊢
  have f1' : forS (gN 3) _ RD [.fz (.tuple AD), .fz (.tuple BD), .ow false (.lst [.int 0]), .un, .un] = _ := f1
  simp [q_law_reached, bq_law_reached, vw, gLen, hl, hn1, hr, f1', flow, outsOf]
def ren (n : Nat) (l r : List Nat) : List Nat := l.map fun s => pa (VD.inv n l) (pa r s)
theorem ren_pm {n : Nat} {l r : List Nat} (hl : Pm n l) (hr : Pm n r) : Pm n (ren n l r) := by
  refine pm_of (nodup_map _ _ hl.nd fun x hx y hy e => ?_) (fun x hx => ?_) (by unfold ren; rw [List.length_map, hl.len])
  · have hx := (hl.mem x).mp hx
    have hy := (hl.mem y).mp hy
    exact hr.inj hx hy (hl.inv.inj (hr.lt hx) (hr.lt hy) e)
  · obtain ⟨y, hy, rfl⟩ := List.mem_map.mp hx
    exact hl.inv.lt (hr.lt ((hl.mem y).mp hy))
theorem r_renamed {n : Nat} {l r u : List Nat} (hl : Pm n l) (hr : Pm n r) (hu : Pm n u) (hn : n ≤ 1000) :
    q_law_renamed [.fz (.tuple [nT r, nT u]), .fz (nT l)] = some (.dt (.tuple [nT (ren n l r), nT (ren n l u)]), [.fz (.tuple [nT r, nT u]), .fz (nT l)]) := by
  have hb := r_back hl hn
  have key : ∀ (t : List Nat) (j : Int) (ht : Pm n t), atI [PyData.tuple (r.map nI), PyData.tuple (u.map nI)] j = some (.tuple (t.map nI)) → lcS (gN 3) kYes (k2v gIx 2 (k2 gIx (k2v gIx 0 (kC (.int j))) (kB 3))) [3] (l.map nI) [] [.fz (.tuple [.tuple (r.map nI), .tuple (u.map nI)]), .fz (.tuple (l.map nI)), .fz (.tuple ((VD.inv n l).map nI)), .un] =
      some ((ren n l t).map nI, [.fz (.tuple [.tuple (r.map nI), .tuple (u.map nI)]), .fz (.tuple (l.map nI)), .fz (.tuple ((VD.inv n l).map nI)), .un]) := fun t j ht hj => by
    have g := lcS_all (tg := gN 3) (te := k2v gIx 2 (k2 gIx (k2v gIx 0 (kC (.int j))) (kB 3))) (vs := [3]) (enc := nI) (S := [.fz (.tuple [.tuple (r.map nI), .tuple (u.map nI)]), .fz (.tuple (l.map nI)), .fz (.tuple ((VD.inv n l).map nI)), .un]) (fun s => nI (pa (VD.inv n l) (pa t s))) l (by rw [hl.len]; omega) fun s hs => by
      have hs := (hl.mem s).mp hs
      have e1 := at_nI t s (by rw [ht.len]; exact hs)
      have e2 := at_nI (VD.inv n l) (pa t s) (by rw [hl.inv.len]; exact ht.lt hs)
      refine ⟨[.fz (.tuple [.tuple (r.map nI), .tuple (u.map nI)]), .fz (.tuple (l.map nI)), .fz (.tuple ((VD.inv n l).map nI)), .fz (.int (s : Int))], [.fz (.tuple [.tuple (r.map nI), .tuple (u.map nI)]), .fz (.tuple (l.map nI)), .fz (.tuple ((VD.inv n l).map nI)), .fz (.int (s : Int))], by simp, ?_, by simp [unS], by simp [unS]⟩
      have e2' : atI ((VD.inv n l).map nI) ((t.getD s 0 : Nat) : Int) = some (.int ((pa (VD.inv n l) (pa t s) : Nat) : Int)) := e2
      generalize pa (VD.inv n l) (pa t s) = y at e2' ⊢
      generalize t.getD s 0 = x at e1 e2'
      generalize (VD.inv n l).map nI = ID at e2' ⊢
      generalize t.map nI = TD at e1 hj
      generalize [PyData.tuple (r.map nI), PyData.tuple (u.map nI)] = WD at hj ⊢
      simp [vw, gIx, hj, e1, e2']
    rw [map_nI (fun s => pa (VD.inv n l) (pa t s))] at g
    exact g
  have k0 := key r 0 hr (by simp [atI, ixN])
  have k1 := key u 1 hu (by simp [atI, ixN])
  have hb' : q_law_back [.fz (.tuple (l.map nI))] = some (.dt (.tuple ((VD.inv n l).map nI)), [.fz (.tuple (l.map nI))]) := hb
  show q_law_renamed [.fz (.tuple [.tuple (r.map nI), .tuple (u.map nI)]), .fz (.tuple (l.map nI))] = some (RV.dt (.tuple [.tuple ((ren n l r).map nI), .tuple ((ren n l u).map nI)]), [.fz (.tuple [.tuple (r.map nI), .tuple (u.map nI)]), .fz (.tuple (l.map nI))])
  generalize (ren n l r).map nI = R1 at k0 ⊢
  generalize (ren n l u).map nI = R2 at k1 ⊢
  generalize (VD.inv n l).map nI = ID at hb' k0 k1
  generalize l.map nI = LD at hb' k0 k1 ⊢
  generalize r.map nI = RD at k0 k1 ⊢
  generalize u.map nI = UD at k0 k1 ⊢
  simp [q_law_renamed, bq_law_renamed, vw, lentIx, lentAll, backS, hb', itemsD, unS, k0, k1, gTuple, flow, outsOf]
end k13
namespace k13
open PySem PySem.Spec PyProof.Rows L2 VD
/-! ### known worlds -/
theorem intsOf_invN : ∀ (ds : List D) (p : List Int), intsOf ds = some p → ds = p.map .int
  | [], p, h => by simp [intsOf] at h; subst h; rfl
  | d :: ds, p, h => by
    cases d with
    | int i =>
      unfold intsOf at h
      cases e : intsOf ds with
      | none => rw [e] at h; cases h
      | some q =>
        rw [e] at h
        cases h
        rw [intsOf_invN ds q e]
        rfl
    | _ => simp [intsOf] at h
def rdN (ds : List D) : Option (List Nat) := (intsOf ds).bind fun is => if is.all (fun i => decide (0 ≤ i)) = true then some (is.map Int.toNat) else none
theorem rdN_inv {ds : List D} {l : List Nat} (h : rdN ds = some l) : ds = l.map nI := by
  unfold rdN at h
  cases e : intsOf ds with
  | none => rw [e] at h; cases h
  | some is =>
    rw [e] at h
    have h2 : (if is.all (fun i => decide (0 ≤ i)) = true then some (is.map Int.toNat) else none) = some l := h
    split at h2
    · rename_i ha
      cases h2
      rw [intsOf_invN ds is e, List.map_map]
      refine List.map_congr_left fun i hi => ?_
      have h0 := of_decide_eq_true (List.all_eq_true.mp ha i hi)
      show PyData.int i = PyData.int ((i.toNat : Nat) : Int)
      rw [Int.toNat_of_nonneg h0]
    · cases h2
def okOuts : List SS → List Int → Bool
  | [], [] => true
  | .fz (.int j) :: r, i :: s => decide (j = i) && okOuts r s
  | _, _ => false
abbrev asI (as : List Int) : List SS := as.map fun i => SS.fz (.int i)
theorem okOuts_eq : ∀ (o : List SS) (as : List Int), okOuts o as = true → o = asI as
  | [], [], _ => rfl
  | [], _ :: _, h => by simp [okOuts] at h
  | s :: r, [], h => by
    cases s with
    | fz d => cases d <;> simp [okOuts] at h
    | _ => simp [okOuts] at h
  | s :: r, i :: as, h => by
    cases s with
    | fz d =>
      cases d with
      | int j =>
        unfold okOuts at h
        rw [Bool.and_eq_true, decide_eq_true_eq] at h
        rw [h.1, okOuts_eq r as h.2]
        rfl
      | _ => simp [okOuts] at h
    | _ => simp [okOuts] at h
def okW (q : List SS → Option (RV × List SS)) (as : List Int) (n : Nat) : Bool := match q (asI as) with
  | some (.dt (.tuple [.tuple a, .tuple b]), outs) => okOuts outs as && (match rdN a, rdN b with
    | some x, some y => x.isPerm (List.range n) && y.isPerm (List.range n)
    | _, _ => false)
  | _ => false
theorem okW_eq {q : List SS → Option (RV × List SS)} {as : List Int} {n : Nat} (h : okW q as n = true) : ∃ x y, Pm n x ∧ Pm n y ∧ q (asI as) = some (.dt (.tuple [nT x, nT y]), asI as) := by
  unfold okW at h
  split at h
  · rename_i a b outs e
    rw [Bool.and_eq_true] at h
    obtain ⟨h1, h2⟩ := h
    split at h2
    · rename_i x y ea eb
      rw [Bool.and_eq_true, List.isPerm_iff, List.isPerm_iff] at h2
      exact ⟨x, y, h2.1, h2.2, by rw [e, okOuts_eq outs as h1, rdN_inv ea, rdN_inv eb]⟩
    · cases h2
  · cases h
theorem flat_ok : (List.range 9).all (fun a => (List.range a).all fun b => (List.range (8 / a + 1)).all fun d => decide (d = 0) || okW q_law_flat [a, b, d] (a * d)) = true := by decide +kernel
theorem corner_ok : (List.range 6).all (fun w => decide (w = 0) || (List.range (10 - w)).all fun h => decide (h = 0) || okW q_law_corner_world [w, h] (w + h - 1)) = true := by decide +kernel
theorem r_flat (a b d : Nat) (ha : a < 9) (hb : b < a) (hd : d ≤ 8 / a) (h0 : 1 ≤ d) : ∃ x y, Pm (a * d) x ∧ Pm (a * d) y ∧ q_law_flat [.fz (.int (a : Int)), .fz (.int (b : Int)), .fz (.int (d : Int))] = some (.dt (.tuple [nT x, nT y]), [.fz (.int (a : Int)), .fz (.int (b : Int)), .fz (.int (d : Int))]) := by
  have h := List.all_eq_true.mp (List.all_eq_true.mp (List.all_eq_true.mp flat_ok a (List.mem_range.mpr ha)) b (List.mem_range.mpr hb)) d (List.mem_range.mpr (by omega))
  rw [Bool.or_eq_true, decide_eq_true_eq] at h
  exact okW_eq (h.resolve_left (by omega))
theorem r_corner (w h : Nat) (hw : w < 6) (hw0 : 1 ≤ w) (hh : h < 10 - w) (hh0 : 1 ≤ h) : ∃ x y, Pm (w + h - 1) x ∧ Pm (w + h - 1) y ∧ q_law_corner_world [.fz (.int (w : Int)), .fz (.int (h : Int))] = some (.dt (.tuple [nT x, nT y]), [.fz (.int (w : Int)), .fz (.int (h : Int))]) := by
  have q := List.all_eq_true.mp corner_ok w (List.mem_range.mpr hw)
  rw [Bool.or_eq_true, decide_eq_true_eq] at q
  have q := List.all_eq_true.mp (q.resolve_left (by omega)) h (List.mem_range.mpr hh)
  rw [Bool.or_eq_true, decide_eq_true_eq] at q
  exact okW_eq (q.resolve_left (by omega))
set_option maxHeartbeats 0 in
theorem r_known {n : Nat} {L s : Int} {cs : List Int} {p : Int} (h : DrawOk n L s cs p) (hn : n < 900000) :
    ∃ N x y L' p', 1 ≤ N ∧ N ≤ 9 ∧ Pm N x ∧ Pm N y ∧ DrawOk (n + 4) L' s cs p' ∧ q_law_known_world [.ow true (mD L s cs p)] = some (.dt (.tuple [nT x, nT y]), [.ow true (mD L' s cs p')]) := by
  obtain ⟨w, L1, p1, hw0, hw1, ok1, hd1⟩ := r_draw h (by omega) (b := 6) (by omega) (by omega)
  have hw : w = 0 ∨ w = 1 ∨ w = 2 ∨ w = 3 ∨ w = 4 ∨ w = 5 := by omega
  rcases hw with rfl | rfl | rfl | rfl | rfl | rfl
  · obtain ⟨r2, L2, p2, a0, a1, ok2, hd2⟩ := r_draw ok1 (by omega) (b := 8) (by omega) (by omega)
    obtain ⟨a, ea⟩ : ∃ a : Nat, 1 + r2 = (a : Int) := ⟨(1 + r2).toNat, by omega⟩
    obtain ⟨b', L3, p3, b0, b1, ok3, hd3⟩ := r_draw ok2 (by omega) (b := (a : Int)) (by omega) (by omega)
    obtain ⟨b, rfl⟩ : ∃ b : Nat, b' = (b : Int) := ⟨b'.toNat, by omega⟩
    have hda : (8 : Int) / (a : Int) = ((8 / a : Nat) : Int) := rfl
    have hpos : 1 ≤ 8 / a := (Nat.one_le_div_iff (by omega)).mpr (by omega)
    have hle : 8 / a ≤ 8 := Nat.div_le_self ..
    obtain ⟨r4, L4, p4, d0, d1, ok4, hd4⟩ := r_draw ok3 (by omega) (b := ((8 / a : Nat) : Int)) (by omega) (by omega)
    obtain ⟨d, ed⟩ : ∃ d : Nat, 1 + r4 = (d : Int) := ⟨(1 + r4).toNat, by omega⟩
    obtain ⟨x, y, hx, hy, hf⟩ := r_flat a b d (by omega) (by omega) (by omega) (by omega)
    have hmul : a * d ≤ a * (8 / a) := Nat.mul_le_mul_left _ (by omega)
    have hmul2 : a * (8 / a) ≤ 8 := Nat.mul_div_le 8 a
    have hpos2 : 1 ≤ a * d := Nat.mul_pos (by omega) (by omega)
    refine ⟨a * d, x, y, L4, p4, hpos2, by omega, hx, hy, ok4, ?_⟩
    have q1 : (0 : Int) < (a : Int) := by omega
    have q2 : (a : Int) < 1073741824 := by omega
    generalize ((8 / a : Nat) : Int) = E at hda hd4
    generalize (a : Int) = A at *
    generalize (b : Int) = B at *
    generalize (d : Int) = DD at *
    generalize hX : nT x = XD at *
    generalize hY : nT y = YD at *
    simp [q_law_known_world, bq_law_known_world, vw, lentIx, lentAll, backS, hd1, gEq_int, asBool, hd2, gAdd, ea, hd3, gDiv, q1, q2, hda, hd4, ed, hf, flow, outsOf]
  · obtain ⟨r2, L2, p2, a0, a1, ok2, hd2⟩ := r_draw ok1 (by omega) (b := 5) (by omega) (by omega)
    obtain ⟨a, ea⟩ : ∃ a : Nat, 1 + r2 = (a : Int) := ⟨(1 + r2).toNat, by omega⟩
    obtain ⟨r4, L4, p4, d0, d1, ok4, hd4⟩ := r_draw ok2 (by omega) (b := 9 - (a : Int)) (by omega) (by omega)
    obtain ⟨d, ed⟩ : ∃ d : Nat, 1 + r4 = (d : Int) := ⟨(1 + r4).toNat, by omega⟩
    obtain ⟨x, y, hx, hy, hf⟩ := r_corner a d (by omega) (by omega) (by omega) (by omega)
    refine ⟨a + d - 1, x, y, L4, p4, by omega, by omega, hx, hy, DrawOk.mono ok4 (by omega), ?_⟩
    generalize (a : Int) = A at *
    generalize (d : Int) = DD at *
    generalize hX : nT x = XD at *
    generalize hY : nT y = YD at *
    simp [q_law_known_world, bq_law_known_world, vw, lentIx, lentAll, backS, hd1, gEq_int, asBool, hd2, gAdd, ea, VD.gSub, hd4, ed, hf, flow, outsOf]
  · refine ⟨4, [1, 0, 3, 2], [0, 2, 1, 3], L1, p1, by omega, by omega, by unfold Pm; decide, by unfold Pm; decide, DrawOk.mono ok1 (by omega), ?_⟩
    simp [q_law_known_world, bq_law_known_world, vw, lentIx, lentAll, backS, hd1, gEq_int, asBool, flow, outsOf]
  · refine ⟨8, [1, 2, 3, 0, 5, 6, 7, 4], [4, 7, 6, 5, 2, 1, 0, 3], L1, p1, by omega, by omega, by unfold Pm; decide, by unfold Pm; decide, DrawOk.mono ok1 (by omega), ?_⟩
    simp [q_law_known_world, bq_law_known_world, vw, lentIx, lentAll, backS, hd1, gEq_int, asBool, flow, outsOf]
  · refine ⟨5, [1, 2, 0, 3, 4], [0, 3, 2, 4, 1], L1, p1, by omega, by omega, by unfold Pm; decide, by unfold Pm; decide, DrawOk.mono ok1 (by omega), ?_⟩
    simp [q_law_known_world, bq_law_known_world, vw, lentIx, lentAll, backS, hd1, gEq_int, asBool, flow, outsOf]
  · refine ⟨6, [1, 2, 3, 4, 5, 0], [3, 0, 5, 4, 1, 2], L1, p1, by omega, by omega, by unfold Pm; decide, by unfold Pm; decide, DrawOk.mono ok1 (by omega), ?_⟩
    simp [q_law_known_world, bq_law_known_world, vw, lentIx, lentAll, backS, hd1, gEq_int, asBool, flow, outsOf]
end k13
namespace k13
open PySem PySem.Spec PyProof.Rows L2 VD
theorem swap_pm {n : Nat} {u : List Nat} (hu : Pm n u) {s : Nat} (hs : s < n) : Pm n ((u.set 0 (pa u s)).set s (pa u 0)) := by
  have e : (u.set 0 (pa u s)).set s (pa u 0) = (List.range n).map fun i => pa u (if i = s then 0 else if i = 0 then s else i) := by
    refine List.ext_getElem (by simp [hu.len]) fun i h1 h2 => ?_
    have hi : i < u.length := by simpa using h1
    rw [List.getElem_map, List.getElem_range, List.getElem_set, List.getElem_set]
    by_cases c1 : s = i
    · rw [if_pos c1, if_pos c1.symm]
    · have c1' : ¬ i = s := fun q => c1 q.symm
      rw [if_neg c1, if_neg c1']
      by_cases c2 : 0 = i
      · rw [if_pos c2, if_pos c2.symm]
      · have c2' : ¬ i = 0 := fun q => c2 q.symm
        rw [if_neg c2, if_neg c2']
        exact (getD_get u i hi).symm
  rw [e]
  refine pm_map _ (fun i hi => hu.lt ?_) fun i hi j hj q => ?_
  · split
    · omega
    · split <;> omega
  · have q2 := hu.inj (by split; omega; split <;> omega) (by split; omega; split <;> omega) q
    split at q2 <;> split at q2 <;> (try split at q2) <;> (try split at q2) <;> omega
set_option maxHeartbeats 0 in
theorem r_bind (X0 X1 X3 : SS) {n : Nat} {r u : List Nat} (hr : Pm n r) (hu : Pm n u) (h1 : 1 ≤ n) (hn : n ≤ 1000) :
    ∃ u', Pm n u' ∧ forS (gN 6) (kUn [6, 7, 8, 9, 10] (kSeq (kSet 7 (rvE (kCall q_law_reached (kACons (VD.kV 4) (kACons (VD.kV 5) kANil)))))
    (kIfS (kT (k2 gLt (k1 gLen (kB 7)) (kB 2))) (kSeq (kSet 8 (k2 gIx (kFL (kLC (kR1 (kCons (VD.kV 2) kNil)) (gN 9) (kT (k2v gNotIn 9 (kB 7))) (VD.kV 9) [9])) (kC (.int 0))))
    (kSeq (kSetF 10 (kF1 gList (kB 5)))
    (kSeq (kAsg (VD.kTup (kCons (k2v gIx 10 (kB 8)) (kCons (k2v gIx 10 (kC (.int 0))) kNil))) (gT 2 (gsC (gLPut 10 (kC (.int 0))) (gsC (gLPut 10 (VD.kV 8)) gsN))))
    (kSet 5 (k1 gTuple (kB 10)))))) kNx))) ((List.range n).map nI) [X0, X1, .fz (.int (n : Int)), X3, .fz (.tuple (r.map nI)), .fz (.tuple (u.map nI)), .un, .un, .un, .un, .un] =
      some (.nx [X0, X1, .fz (.int (n : Int)), X3, .fz (.tuple (r.map nI)), .fz (.tuple (u'.map nI)), .un, .un, .un, .un, .un]) := by
  obtain ⟨u', f1, f2⟩ := forS_ex (tg := gN 6) (body := kUn [6, 7, 8, 9, 10] (kSeq (kSet 7 (rvE (kCall q_law_reached (kACons (VD.kV 4) (kACons (VD.kV 5) kANil)))))
    (kIfS (kT (k2 gLt (k1 gLen (kB 7)) (kB 2))) (kSeq (kSet 8 (k2 gIx (kFL (kLC (kR1 (kCons (VD.kV 2) kNil)) (gN 9) (kT (k2v gNotIn 9 (kB 7))) (VD.kV 9) [9])) (kC (.int 0))))
    (kSeq (kSetF 10 (kF1 gList (kB 5)))
    (kSeq (kAsg (VD.kTup (kCons (k2v gIx 10 (kB 8)) (kCons (k2v gIx 10 (kC (.int 0))) kNil))) (gT 2 (gsC (gLPut 10 (kC (.int 0))) (gsC (gLPut 10 (VD.kV 8)) gsN))))
    (kSet 5 (k1 gTuple (kB 10)))))) kNx))) (enc := nI) (fun u : List Nat => [X0, X1, .fz (.int (n : Int)), X3, .fz (.tuple (r.map nI)), .fz (.tuple (u.map nI)), .un, .un, .un, .un, .un]) (fun _ u => Pm n u) (List.range n) u hu fun i rest u hu => by
      obtain ⟨l, hl, hq⟩ := r_reached hr hu h1 hn
      have hq' : q_law_reached [.fz (.tuple (r.map nI)), .fz (.tuple (u.map nI))] = some (.dt (.list (l.map nI)), [.fz (.tuple (r.map nI)), .fz (.tuple (u.map nI))]) := hq
      have hln := len_nI l
      have hll := hl.len
      by_cases c : l.length < n
      · have g := lcS_map (tg := gN 9) (tt := kT (k2v gNotIn 9 (kB 7))) (te := VD.kV 9) (vs := [9]) (enc := nI) (S := [X0, X1, .fz (.int (n : Int)), X3, .fz (.tuple (r.map nI)), .fz (.tuple (u.map nI)), .fz (.int (i : Int)), .fz (.list (l.map nI)), .un, .un, .un]) (fun k => !decide (k ∈ l)) nI (List.range n) [] (by simp; omega) fun k hk => by
          refine ⟨[X0, X1, .fz (.int (n : Int)), X3, .fz (.tuple (r.map nI)), .fz (.tuple (u.map nI)), .fz (.int (i : Int)), .fz (.list (l.map nI)), .un, .fz (.int (k : Int)), .un], [X0, X1, .fz (.int (n : Int)), X3, .fz (.tuple (r.map nI)), .fz (.tuple (u.map nI)), .fz (.int (i : Int)), .fz (.list (l.map nI)), .un, .fz (.int (k : Int)), .un], by simp, ?_, by simp [unS], fun _ => ⟨[X0, X1, .fz (.int (n : Int)), X3, .fz (.tuple (r.map nI)), .fz (.tuple (u.map nI)), .fz (.int (i : Int)), .fz (.list (l.map nI)), .un, .fz (.int (k : Int)), .un], by simp, by simp [unS]⟩⟩
          have hni : gNotIn (.int (k : Int)) (.list (l.map nI)) = some (.bool (!decide (k ∈ l))) := notIn_nL k l
          generalize l.map nI = LD at hni ⊢
          simp [vw, hni, asBool]
        rw [List.nil_append] at g
        have hex : ∃ k, k < n ∧ k ∉ l := by
          refine Classical.byContradiction fun hno => ?_
          have := nodup_le (List.range n) l List.nodup_range fun k hk => Classical.byContradiction fun q => hno ⟨k, List.mem_range.mp hk, q⟩
          simp at this
          omega
        obtain ⟨s, rs, hs⟩ : ∃ s rs, (List.range n).filter (fun k => !decide (k ∈ l)) = s :: rs := by
          cases hF : (List.range n).filter (fun k => !decide (k ∈ l)) with
          | nil =>
            obtain ⟨k, k1, k2⟩ := hex
            exact absurd (List.mem_range.mpr k1) (fun hm => List.filter_eq_nil_iff.mp hF k hm (by simpa using k2))
          | cons s rs => exact ⟨s, rs, rfl⟩
        have hsn : s < n := by
          have hm : s ∈ (List.range n).filter (fun k => !decide (k ∈ l)) := by rw [hs]; exact List.mem_cons_self
          exact List.mem_range.mp (List.mem_filter.mp hm).1
        rw [hs, List.map_cons] at g
        refine ⟨(u.set 0 (pa u s)).set s (pa u 0), ?_, swap_pm hu hsn⟩
        have hul := len_nI u
        have hun := hu.len
        have e1 := at_nI u s (by omega)
        have e2 := at_nI u 0 (by omega)
        have e3 : ((u.set 0 (pa u s)).set s (pa u 0)).map nI = ((u.map nI).set 0 (.int ((u.getD s 0 : Nat) : Int))).set s (.int ((u.getD 0 0 : Nat) : Int)) := by
          rw [List.map_set, List.map_set]
        rw [e3]
        have hix : atI (nI s :: rs.map nI) 0 = some (.int (s : Int)) := by simp [atI, ixN]
        have hr2 := range_nI n
        have hn1 : n < 1152921504606846976 := by omega
        have hci : (l.length : Int) < (n : Int) := by omega
        have e20 : atI (u.map nI) 0 = some (.int ((u.getD 0 0 : Nat) : Int)) := e2
        generalize u.getD s 0 = y1 at e1 ⊢
        generalize u.getD 0 0 = y2 at e20 ⊢
        generalize (List.range n).map nI = RD at g hr2
        generalize l.map nI = LD at hq' g hln
        have hU0 : (u.map nI).length = n := by omega
        generalize u.map nI = UD at hq' g e1 e20 hU0 ⊢
        generalize r.map nI = RR at hq' g ⊢
        generalize nI s :: rs.map nI = FD at g hix
        have hx0 : ixN n 0 = some 0 := by
          unfold ixN
          rw [if_pos (by omega), if_pos (by omega)]
          rfl
        have hxs : ixN n (s : Int) = some s := by
          unfold ixN
          rw [if_pos (by omega), if_pos (by omega)]
          simp
        simp [vw, lentIx, lentAll, backS, hq', gLen, hln, gLt, gCmp, c, asBool, hn1, hr2, unS, g, gIx, hix, gList, e1, e20, gT, gsC, gsN, gLPut, hU0, hx0, hxs, gTuple]
      · refine ⟨u, ?_, hu⟩
        have hci : ¬ (l.length : Int) < (n : Int) := by omega
        generalize l.map nI = LD at hq' hln
        generalize u.map nI = UD at hq' ⊢
        generalize r.map nI = RR at hq' ⊢
        simp [vw, lentIx, lentAll, backS, hq', gLen, hln, gLt, gCmp, c, asBool, unS]
  exact ⟨u', f2, f1⟩
set_option maxHeartbeats 0 in
theorem r_world {m : Nat} {L s : Int} {cs : List Int} {p : Int} (h : DrawOk m L s cs p) (hm : m < 800000) (most : Nat) (h1 : 1 ≤ most) (h9 : most ≤ 9) :
    ∃ n r u L' p', 1 ≤ n ∧ n ≤ most ∧ Pm n r ∧ Pm n u ∧ DrawOk (m + 40) L' s cs p' ∧ q_law_world [.ow true (mD L s cs p), .fz (.int (most : Int))] = some (.dt (.tuple [nT r, nT u]), [.ow true (mD L' s cs p'), .fz (.int (most : Int))]) := by
  obtain ⟨a1, L1, p1, ha0, ha1, ok1, hd1⟩ := r_draw h (by omega) (b := (most : Int)) (by omega) (by omega)
  obtain ⟨n, en⟩ : ∃ n : Nat, 1 + a1 = (n : Int) := ⟨(1 + a1).toNat, by omega⟩
  obtain ⟨a2, L2, p2, hb0, hb1, ok2, hd2⟩ := r_draw ok1 (by omega) (b := 3) (by omega) (by omega)
  have rest : ∀ (X3 : SS) (mm : Nat) (L3 p3 : Int), DrawOk mm L3 s cs p3 → mm ≤ m + 10 → ∃ r u L' p', Pm n r ∧ Pm n u ∧ DrawOk (m + 40) L' s cs p' ∧
      (kSeq (kPar [4, 5] (kConsM (rvE (kCall q_law_shuffled (kALent 0 (kACons (VD.kV 2) kANil)))) (kConsM (rvE (kCall q_law_shuffled (kALent 0 (kACons (VD.kV 2) kANil)))) kNil)))
    (kSeq (kFor (kR1 (kCons (VD.kV 2) kNil)) (gN 6) (kUn [6, 7, 8, 9, 10] (kSeq (kSet 7 (rvE (kCall q_law_reached (kACons (VD.kV 4) (kACons (VD.kV 5) kANil)))))
    (kIfS (kT (k2 gLt (k1 gLen (kB 7)) (kB 2))) (kSeq (kSet 8 (k2 gIx (kFL (kLC (kR1 (kCons (VD.kV 2) kNil)) (gN 9) (kT (k2v gNotIn 9 (kB 7))) (VD.kV 9) [9])) (kC (.int 0))))
    (kSeq (kSetF 10 (kF1 gList (kB 5)))
    (kSeq (kAsg (VD.kTup (kCons (k2v gIx 10 (kB 8)) (kCons (k2v gIx 10 (kC (.int 0))) kNil))) (gT 2 (gsC (gLPut 10 (kC (.int 0))) (gsC (gLPut 10 (VD.kV 8)) gsN))))
    (kSet 5 (k1 gTuple (kB 10)))))) kNx))))
    (kRet (VD.kTup (kCons (VD.kV 4) (kCons (VD.kV 5) kNil)))))) [.ow true (mD L3 s cs p3), .fz (.int (most : Int)), .fz (.int (n : Int)), X3, .un, .un, .un, .un, .un, .un, .un] =
      some (.rt (.dt (.tuple [nT r, nT u])) [.ow true (mD L' s cs p'), .fz (.int (most : Int)), .fz (.int (n : Int)), X3, .fz (nT r), .fz (nT u), .un, .un, .un, .un, .un]) := fun X3 mm L3 p3 ok3 hmm => by
    obtain ⟨r, L4, p4, hr, ok4, hs1⟩ := r_shuffled ok3 (by omega) n (by omega)
    obtain ⟨u0, L5, p5, hu0, ok5, hs2⟩ := r_shuffled ok4 (by omega) n (by omega)
    obtain ⟨u, hu, hf⟩ := r_bind (.ow true (mD L5 s cs p5)) (.fz (.int (most : Int))) X3 hr hu0 (by omega) (by omega)
    refine ⟨r, u, L5, p5, hr, hu, DrawOk.mono ok5 (by omega), ?_⟩
    have hn1 : n < 1152921504606846976 := by omega
    have hr2 := range_nI n
    have hs1' : q_law_shuffled [.ow true (mD L3 s cs p3), .fz (.int (n : Int))] = some (.dt (.tuple (r.map nI)), [.ow true (mD L4 s cs p4), .fz (.int (n : Int))]) := hs1
    have hs2' : q_law_shuffled [.ow true (mD L4 s cs p4), .fz (.int (n : Int))] = some (.dt (.tuple (u0.map nI)), [.ow true (mD L5 s cs p5), .fz (.int (n : Int))]) := hs2
    show _ = some (Out.rt (.dt (.tuple [.tuple (r.map nI), .tuple (u.map nI)])) [_, _, _, _, SS.fz (.tuple (r.map nI)), SS.fz (.tuple (u.map nI)), _, _, _, _, _])
    generalize (List.range n).map nI = RD at hf hr2
    generalize r.map nI = RR at hs1' hf ⊢
    generalize u0.map nI = U0 at hs2' hf
    generalize u.map nI = UU at hf ⊢
    simp [vw, lentIx, lentAll, backS, hs1', hs2', setAll, setRV, hn1, hr2, hf]
  by_cases c0 : a2 = 0
  · subst c0
    obtain ⟨N, x, y, L3, p3, hN1, hN9, hx, hy, ok3, hk⟩ := r_known ok2 (by omega)
    obtain ⟨l, hl, hq⟩ := r_reached hx hy hN1 (by omega)
    have hxl := hx.len
    have hlx : (x.map nI).length = N := by rw [len_nI, hxl]
    have hll : (l.map nI).length = l.length := len_nI l
    have hk' : q_law_known_world [.ow true (mD L2 s cs p2)] = some (.dt (.tuple [.tuple (x.map nI), .tuple (y.map nI)]), [.ow true (mD L3 s cs p3)]) := hk
    have hq' : q_law_reached [.fz (.tuple (x.map nI)), .fz (.tuple (y.map nI))] = some (.dt (.list (l.map nI)), [.fz (.tuple (x.map nI)), .fz (.tuple (y.map nI))]) := hq
    by_cases c1 : N ≤ most
    · by_cases c2 : l.length = N
      · obtain ⟨row, L4, p4, hrow, ok4, hs⟩ := r_shuffled ok3 (by omega) N (by omega)
        have hre := r_renamed hrow hx hy (by omega)
        refine ⟨N, ren N row x, ren N row y, L4, p4, hN1, c1, ren_pm hrow hx, ren_pm hrow hy, DrawOk.mono ok4 (by omega), ?_⟩
        have hs' : q_law_shuffled [.ow true (mD L3 s cs p3), .fz (.int (N : Int))] = some (.dt (.tuple (row.map nI)), [.ow true (mD L4 s cs p4), .fz (.int (N : Int))]) := hs
        have hre' : q_law_renamed [.fz (.tuple [.tuple (x.map nI), .tuple (y.map nI)]), .fz (.tuple (row.map nI))] = some (.dt (.tuple [.tuple ((ren N row x).map nI), .tuple ((ren N row y).map nI)]), [.fz (.tuple [.tuple (x.map nI), .tuple (y.map nI)]), .fz (.tuple (row.map nI))]) := hre
        show _ = some (RV.dt (.tuple [.tuple ((ren N row x).map nI), .tuple ((ren N row y).map nI)]), _)
        have i0 : atI [PyData.tuple (x.map nI), PyData.tuple (y.map nI)] 0 = some (.tuple (x.map nI)) := by simp [atI, ixN]
        have i1 : atI [PyData.tuple (x.map nI), PyData.tuple (y.map nI)] 1 = some (.tuple (y.map nI)) := by simp [atI, ixN]
        have c1i : (N : Int) ≤ (most : Int) := by omega
        generalize (ren N row x).map nI = R1 at hre' ⊢
        generalize (ren N row y).map nI = R2 at hre' ⊢
        generalize row.map nI = RO at hs' hre'
        generalize l.map nI = LD at hq' hll
        generalize hW : [PyData.tuple (x.map nI), PyData.tuple (y.map nI)] = WW at hk' hre' i0 i1
        generalize x.map nI = XX at hq' hlx i0
        generalize y.map nI = YY at hq' i1
        simp [q_law_world, bq_law_world, vw, lentIx, lentAll, backS, hd1, gAdd, en, hd2, gEq_int, asBool, hk', gIx, i0, i1, gLen, hlx, gLe, gCmp, c1, hq', hll, c2, hs', hre', flow, outsOf]
      · obtain ⟨r, u, L4, p4, hr, hu, ok4, hrest⟩ := rest (.fz (.tuple [.tuple (x.map nI), .tuple (y.map nI)])) _ L3 p3 ok3 (by omega)
        refine ⟨n, r, u, L4, p4, by omega, by omega, hr, hu, ok4, ?_⟩
        have i0 : atI [PyData.tuple (x.map nI), PyData.tuple (y.map nI)] 0 = some (.tuple (x.map nI)) := by simp [atI, ixN]
        have i1 : atI [PyData.tuple (x.map nI), PyData.tuple (y.map nI)] 1 = some (.tuple (y.map nI)) := by simp [atI, ixN]
        have c1i : (N : Int) ≤ (most : Int) := by omega
        have c2i : ¬ (l.length : Int) = (N : Int) := by omega
        generalize l.map nI = LD at hq' hll
        generalize hW : [PyData.tuple (x.map nI), PyData.tuple (y.map nI)] = WW at hk' hrest i0 i1
        generalize x.map nI = XX at hq' hlx i0
        generalize y.map nI = YY at hq' i1
        generalize hT : PyData.tuple [nT r, nT u] = TT at hrest ⊢
        generalize nT r = RR at hrest
        generalize nT u = UU at hrest
        simp only [q_law_world, bq_law_world]
        generalize kSeq (kPar [4, 5] _) _ = REST at hrest ⊢
        simp [vw, lentIx, lentAll, backS, hd1, gAdd, en, hd2, gEq_int, asBool, hk', gIx, i0, i1, gLen, hlx, gLe, gCmp, c1, hq', hll, c2i, hrest, flow, outsOf]
    · obtain ⟨r, u, L4, p4, hr, hu, ok4, hrest⟩ := rest (.fz (.tuple [.tuple (x.map nI), .tuple (y.map nI)])) _ L3 p3 ok3 (by omega)
      refine ⟨n, r, u, L4, p4, by omega, by omega, hr, hu, ok4, ?_⟩
      have i0 : atI [PyData.tuple (x.map nI), PyData.tuple (y.map nI)] 0 = some (.tuple (x.map nI)) := by simp [atI, ixN]
      have c1i : ¬ (N : Int) ≤ (most : Int) := by omega
      generalize hW : [PyData.tuple (x.map nI), PyData.tuple (y.map nI)] = WW at hk' hrest i0
      generalize x.map nI = XX at hlx i0
      generalize hT : PyData.tuple [nT r, nT u] = TT at hrest ⊢
      generalize nT r = RR at hrest
      generalize nT u = UU at hrest
      simp only [q_law_world, bq_law_world]
      generalize kSeq (kPar [4, 5] _) _ = REST at hrest ⊢
      simp [vw, lentIx, lentAll, backS, hd1, gAdd, en, hd2, gEq_int, asBool, hk', gIx, i0, gLen, hlx, gLe, gCmp, c1, hrest, flow, outsOf]
  · obtain ⟨r, u, L4, p4, hr, hu, ok4, hrest⟩ := rest .un _ L2 p2 ok2 (by omega)
    refine ⟨n, r, u, L4, p4, by omega, by omega, hr, hu, ok4, ?_⟩
    generalize hT : PyData.tuple [nT r, nT u] = TT at hrest ⊢
    generalize nT r = RR at hrest
    generalize nT u = UU at hrest
    simp only [q_law_world, bq_law_world]
    generalize kSeq (kPar [4, 5] _) _ = REST at hrest ⊢
    simp [vw, lentIx, lentAll, backS, hd1, gAdd, en, hd2, gEq_int, asBool, c0, hrest, flow, outsOf]
end k13
namespace k13
open PySem PySem.Spec PyProof.Rows L2 VD
abbrev dW (r u : List Nat) : D := .tuple [.tuple (r.map nI), .tuple (u.map nI)]
theorem dW0 (r u : List Nat) : atI [PyData.tuple (r.map nI), PyData.tuple (u.map nI)] 0 = some (.tuple (r.map nI)) := by simp [atI, ixN]
theorem dW1 (r u : List Nat) : atI [PyData.tuple (r.map nI), PyData.tuple (u.map nI)] 1 = some (.tuple (u.map nI)) := by simp [atI, ixN]
def aro (n : Nat) (r u : List Nat) : List Nat := (List.range n).map fun s => pa (VD.inv n u) (pa (VD.inv n r) (pa u (pa r s)))
theorem aro_at {n : Nat} {r u : List Nat} {s : Nat} (hs : s < n) : pa (aro n r u) s = pa (VD.inv n u) (pa (VD.inv n r) (pa u (pa r s))) := pa_map n _ hs
theorem aro_pm {n : Nat} {r u : List Nat} (hr : Pm n r) (hu : Pm n u) : Pm n (aro n r u) := pm_map _ (fun i hi => hu.inv.lt (hr.inv.lt (hu.lt (hr.lt hi)))) fun i hi j hj e =>
  hr.inj hi hj (hu.inj (hr.lt hi) (hr.lt hj) (hr.inv.inj (hu.lt (hr.lt hi)) (hu.lt (hr.lt hj)) (hu.inv.inj (hr.inv.lt (hu.lt (hr.lt hi))) (hr.inv.lt (hu.lt (hr.lt hj))) e)))
set_option maxHeartbeats 0 in
theorem enum_nI (l : List Nat) : enumD (l.map nI) = l.zipIdx.map fun p : Nat × Nat => PyData.tuple [.int (p.2 : Nat), nI p.1] := by
  unfold enumD
  rw [List.zipIdx_map, List.map_map]
  rfl
set_option maxHeartbeats 0 in
theorem r_pback {n : Nat} {r : List Nat} (h : Pm n r) (hn : n ≤ 1000) : q_back_of [.fz (.tuple (r.map nI))] = some (.dt (.tuple ((VD.inv n r).map nI)), [.fz (.tuple (r.map nI))]) := by
  obtain ⟨l, f1, done, f2, f3, f4⟩ := forS_ex (tg := gT 2 (gsC (gN 2) (gsC (gN 3) gsN))) (body := kUn [2, 3] (kAsg (VD.kV 2) (gLPut 1 (VD.kV 3)))) (enc := fun p : Nat × Nat => PyData.tuple [.int (p.2 : Nat), nI p.1])
    (fun l : List Nat => [.fz (.tuple (r.map nI)), .ow false (.lst (l.map nI)), .un, .un]) (fun rest l => ∃ done, r.zipIdx = done ++ rest ∧ l.length = n ∧ ∀ p ∈ done, pa l p.1 = p.2) r.zipIdx (List.replicate n 0) ⟨[], rfl, by simp, fun _ hp => nomatch hp⟩ fun x rest l hI => by
      obtain ⟨done, i1, i2, i3⟩ := hI
      obtain ⟨x1, x2⟩ := x
      have hm : (x1, x2) ∈ r.zipIdx := by rw [i1]; exact List.mem_append_right _ List.mem_cons_self
      have hx : x1 < n := (h.mem x1).mp (by
        have := List.mem_zipIdx_iff_getElem?.mp hm
        exact List.mem_of_getElem? this)
      refine ⟨l.set x1 x2, ?_, done ++ [(x1, x2)], by rw [i1]; simp, by simp [i2], fun p hp => ?_⟩
      · have hix : ixN l.length (x1 : Int) = some x1 := by
          unfold ixN
          rw [if_pos (by omega), if_pos (by omega)]
          simp
        have e1 : (l.set x1 x2).map nI = (l.map nI).set x1 (.int (x2 : Int)) := by rw [List.map_set]
        rw [e1]
        have hl := len_nI l
        generalize l.map nI = LD at hl ⊢
        simp [gT, gsC, gsN, gLPut, hl, hix, unS]
      · have hnd : (r.zipIdx.map Prod.fst).Nodup := by rw [List.zipIdx_map_fst]; exact h.nd
        rw [i1, List.map_append, List.map_cons, List.nodup_append] at hnd
        show (l.set x1 x2).getD p.1 0 = p.2
        rcases List.mem_append.mp hp with hp | hp
        · have hne : p.1 ≠ x1 := hnd.2.2 p.1 (List.mem_map.mpr ⟨p, hp, rfl⟩) x1 List.mem_cons_self
          rw [← i3 p hp]
          show (l.set x1 x2).getD p.1 0 = l.getD p.1 0
          simp [List.getElem?_set_ne (Ne.symm hne)]
        · rw [List.mem_singleton] at hp
          subst hp
          rw [getD_get _ _ (by simp; omega)]
          simp
  have hd : done = r.zipIdx := by rw [f2, List.append_nil]
  have hl : l = VD.inv n r := by
    refine List.ext_getElem (by rw [f3, h.inv.len]) fun k h1 h2 => ?_
    have hk : k < n := by omega
    have hm := (h.mem k).mpr hk
    have hlt := List.idxOf_lt_length_of_mem hm
    have hz : (k, r.idxOf k) ∈ r.zipIdx := List.mem_zipIdx_iff_getElem?.mpr (by rw [List.getElem?_eq_getElem hlt, List.getElem_idxOf hlt])
    have e := f4 (k, r.idxOf k) (by rw [hd]; exact hz)
    rw [← getD_get l k h1, ← getD_get _ k h2]
    show pa l k = pa (VD.inv n r) k
    rw [e, inv_pa hk]
  subst hl
  have hrl : (r.map nI).length = n := by rw [len_nI, h.len]
  have hen := enum_nI r
  have hn1 : (-1000 : Int) ≤ (n : Int) := by omega
  have hn2 : (n : Int) ≤ 1000 := by omega
  have hrep : (List.replicate n [PyData.int 0]).flatten = (List.replicate n 0).map nI := by
    rw [List.map_replicate]
    simp
  have hnt : (n : Int).toNat = n := by simp
  generalize (List.replicate n 0).map nI = Z at f1 hrep
  generalize r.zipIdx.map (fun p : Nat × Nat => PyData.tuple [.int (p.2 : Nat), nI p.1]) = EZ at f1 hen
  generalize (VD.inv n r).map nI = ID at f1 ⊢
  generalize r.map nI = RD at f1 hrl hen ⊢
  simp [q_back_of, bq_back_of, vw, gLen, hrl, hn1, hn2, hrep, itemsD, hen, f1, gTuple, flow, outsOf]
set_option maxHeartbeats 0 in
theorem r_paround {n : Nat} {r u : List Nat} (hr : Pm n r) (hu : Pm n u) (hn : n ≤ 1000) : q_around [.fz (dW r u)] = some (.dt (.tuple ((aro n r u).map nI)), [.fz (dW r u)]) := by
  have b1 := r_pback hr hn
  have b2 := r_pback hu hn
  have g := lcS_all (tg := gN 5) (te := k2v gIx 4 (k2v gIx 3 (k2v gIx 2 (k2v gIx 1 (kB 5))))) (vs := [5]) (enc := nI) (S := [.fz (dW r u), .fz (.tuple (r.map nI)), .fz (.tuple (u.map nI)), .fz (.tuple ((VD.inv n r).map nI)), .fz (.tuple ((VD.inv n u).map nI)), .un]) (fun s => nI (pa (VD.inv n u) (pa (VD.inv n r) (pa u (pa r s))))) (List.range n) (by simp; omega) fun s hs => by
    have hs := List.mem_range.mp hs
    refine ⟨[.fz (dW r u), .fz (.tuple (r.map nI)), .fz (.tuple (u.map nI)), .fz (.tuple ((VD.inv n r).map nI)), .fz (.tuple ((VD.inv n u).map nI)), .fz (.int (s : Int))], [.fz (dW r u), .fz (.tuple (r.map nI)), .fz (.tuple (u.map nI)), .fz (.tuple ((VD.inv n r).map nI)), .fz (.tuple ((VD.inv n u).map nI)), .fz (.int (s : Int))], by simp, ?_, by simp [unS], by simp [unS]⟩
    have e1 := at_nI r s (by rw [hr.len]; exact hs)
    have h1 := hr.lt hs
    have e2 := at_nI u (pa r s) (by rw [hu.len]; exact h1)
    have h2 := hu.lt h1
    have e3 := at_nI (VD.inv n r) (pa u (pa r s)) (by rw [hr.inv.len]; exact h2)
    have h3 := hr.inv.lt h2
    have e4 := at_nI (VD.inv n u) (pa (VD.inv n r) (pa u (pa r s))) (by rw [hu.inv.len]; exact h3)
    show _ = some (PyData.int (((VD.inv n u).getD ((VD.inv n r).getD (u.getD (r.getD s 0) 0) 0) 0 : Nat) : Int), _)
    change atI ((VD.inv n u).map nI) (((VD.inv n r).getD (u.getD (r.getD s 0) 0) 0 : Nat) : Int) = some (.int (((VD.inv n u).getD ((VD.inv n r).getD (u.getD (r.getD s 0) 0) 0) 0 : Nat) : Int)) at e4
    change atI ((VD.inv n r).map nI) ((u.getD (r.getD s 0) 0 : Nat) : Int) = some (.int (((VD.inv n r).getD (u.getD (r.getD s 0) 0) 0 : Nat) : Int)) at e3
    change atI (u.map nI) ((r.getD s 0 : Nat) : Int) = some (.int ((u.getD (r.getD s 0) 0 : Nat) : Int)) at e2
    generalize (VD.inv n u).getD ((VD.inv n r).getD (u.getD (r.getD s 0) 0) 0) 0 = y4 at e4 ⊢
    generalize (VD.inv n r).getD (u.getD (r.getD s 0) 0) 0 = y3 at e4 e3
    generalize u.getD (r.getD s 0) 0 = y2 at e3 e2
    generalize r.getD s 0 = y1 at e2 e1
    generalize dW r u = WW
    generalize r.map nI = RD at e1 ⊢
    generalize u.map nI = UD at e2 ⊢
    generalize (VD.inv n r).map nI = RI at e3 ⊢
    generalize (VD.inv n u).map nI = UI at e4 ⊢
    simp [vw, gIx, e1, e2, e3, e4]
  rw [map_nI (fun s => pa (VD.inv n u) (pa (VD.inv n r) (pa u (pa r s))))] at g
  have hl : (r.map nI).length = n := by rw [len_nI, hr.len]
  have hn1 : n < 1152921504606846976 := by omega
  have hr2 := range_nI n
  change lcS _ _ _ _ _ _ _ = some ((aro n r u).map nI, _) at g
  generalize (aro n r u).map nI = AD at g ⊢
  generalize (List.range n).map nI = RG at g hr2
  unfold dW at g ⊢
  generalize r.map nI = RD at b1 hl g ⊢
  generalize u.map nI = UD at b2 g ⊢
  generalize (VD.inv n r).map nI = RI at b1 g
  generalize (VD.inv n u).map nI = UI at b2 g
  simp [q_around, bq_around, vw, gT, gsC, gsN, lentIx, lentAll, backS, b1, b2, setAll, setRV, gLen, hl, hn1, hr2, unS, g, gTuple, flow, outsOf]
end k13
namespace k13
open PySem PySem.Spec PyProof.Rows L2 VD
theorem rds_len {n : Nat} {r : List Nat} : ∀ (xs : List Nat) (fd : List (List Nat)), (xs.foldl (rdStep n r) fd).length ≤ fd.length + xs.length
  | [], fd => Nat.le_refl _
  | x :: xs, fd => by
    have h := rds_len (n := n) (r := r) xs (rdStep n r fd x)
    have h2 : (rdStep n r fd x).length ≤ fd.length + 1 := by
      unfold rdStep
      split <;> simp
    rw [List.foldl_cons, List.length_cons]
    omega
end k13
namespace k13
open PySem PySem.Spec PyProof.Rows L2 VD
def eK (seen : List Nat) : List (Key × D) := seen.map fun x : Nat => (Sum.inl (x : Int), PyData.bool true)
theorem getK (seen : List Nat) (x : Nat) : obGet (.dk (eK seen)) (.int (x : Int)) = some (if x ∈ seen then some (.bool true) else none) := by
  show some (VD.dget (eK seen) (Sum.inl (x : Int))) = _
  congr 1
  unfold VD.dget eK
  rw [List.find?_map]
  have e : ((fun p : Key × D => decide (p.1 = Sum.inl (x : Int))) ∘ fun y : Nat => ((Sum.inl (y : Int) : Key), (PyData.bool true : D))) = fun y : Nat => decide (y = x) := by
    funext y
    have q : ((Sum.inl (y : Int) : Key) = Sum.inl (x : Int)) ↔ y = x := ⟨fun h => Int.ofNat.inj (Sum.inl.inj h), fun h => by rw [h]⟩
    simp only [Function.comp, q]
  rw [e]
  by_cases h : x ∈ seen
  · rw [if_pos h]
    cases hf : seen.find? fun y => decide (y = x) with
    | none =>
      rw [List.find?_eq_none] at hf
      exact absurd (decide_eq_true rfl) (hf x h)
    | some y => rfl
  · rw [if_neg h]
    cases hf : seen.find? fun y => decide (y = x) with
    | none => rfl
    | some y =>
      have h1 := List.mem_of_find?_eq_some hf
      have h2 := List.find?_some hf
      simp only [decide_eq_true_eq] at h2
      exact absurd (h2 ▸ h1) h
theorem putK (seen : List Nat) (x : Nat) (h : x ∉ seen) (hl : seen.length < 1000000) : obPut (.dk (eK seen)) (.int (x : Int)) (.bool true) = some (.dk (eK (seen ++ [x]))) := by
  show (if (eK seen).length < 1000000 then some (Ob.dk (VD.dput (eK seen) (Sum.inl (x : Int)) (.bool true))) else none) = _
  rw [if_pos (by simpa [eK] using hl)]
  unfold VD.dput
  rw [if_neg]
  · unfold eK
    rw [List.map_append]
    rfl
  · intro q
    obtain ⟨p, hp, q⟩ := List.any_eq_true.mp q
    obtain ⟨y, hy, rfl⟩ := List.mem_map.mp hp
    have := Int.ofNat.inj (Sum.inl.inj (of_decide_eq_true q))
    exact h (this ▸ hy)
set_option maxHeartbeats 0 in
theorem r_while {n : Nat} {r : List Nat} (h : Pm n r) {s : Nat} (hs : s < n) (hn : n ≤ 1000) (seen : List Nat) (hsl : seen.length ≤ n) (hcl : ∀ x ∈ orb n r s, x ∉ seen) (X1 X3 : SS) : ∀ (f c : Nat), c ≤ per n r s → per n r s - c + 1 ≤ f →
    whileS (kT (kDIn true (VD.kV 5) 2)) (kUn [] (kSeq (kAsg (kC (.bool true)) (gDPut 2 (VD.kV 5)))
    (kSeq (kApp 4 (VD.kV 5))
    (kSet 5 (k2v gIx 0 (kB 5)))))) f [.fz (.tuple (r.map nI)), X1, .ow false (.dk (eK (seen ++ (List.range c).map fun k => it r k s))), X3, .ow false (.lst (((List.range c).map fun k => it r k s).map nI)), .fz (.int ((it r c s : Nat) : Int))] =
    some (.nx [.fz (.tuple (r.map nI)), X1, .ow false (.dk (eK (seen ++ orb n r s))), X3, .ow false (.lst ((orb n r s).map nI)), .fz (.int (s : Int))])
  | 0, c, h1, h2 => by omega
  | f + 1, c, h1, h2 => by
    obtain ⟨p1, p2, p3, p4⟩ := per_ok h hs
    have hg := getK (seen ++ (List.range c).map fun k => it r k s) (it r c s)
    by_cases hc : c < per n r s
    · have ih := r_while h hs hn seen hsl hcl X1 X3 f (c + 1) hc (by omega)
      have hnot : it r c s ∉ seen ++ (List.range c).map fun k => it r k s := fun hm => by
        rcases List.mem_append.mp hm with hm | hm
        · exact hcl _ (orb_it h hs c) hm
        · obtain ⟨k, hk, e⟩ := List.mem_map.mp hm
          have hk := List.mem_range.mp hk
          exact p4 (c - k) (by omega) (by omega) (it_back h hs (by omega) e)
      rw [if_neg hnot] at hg
      have hp := putK (seen ++ (List.range c).map fun k => it r k s) (it r c s) hnot (by simp; omega)
      have e1 : seen ++ (List.range (c + 1)).map (fun k => it r k s) = (seen ++ (List.range c).map fun k => it r k s) ++ [it r c s] := by
        rw [List.range_succ, List.map_append, List.append_assoc]
        rfl
      have e2 : ((List.range (c + 1)).map fun k => it r k s).map nI = ((List.range c).map fun k => it r k s).map nI ++ [.int ((it r c s : Nat) : Int)] := by
        rw [List.range_succ, List.map_append, List.map_append]
        rfl
      rw [e1, e2] at ih
      have hlt := it_lt h c hs
      have e3 := at_nI r (it r c s) (by rw [h.len]; exact hlt)
      have e3' : atI (r.map nI) ((it r c s : Nat) : Int) = some (.int ((it r (c + 1) s : Nat) : Int)) := e3
      have hll : (((List.range c).map fun k => it r k s).map nI).length < 1000000 := by simp; omega
      unfold whileS
      generalize eK ((seen ++ (List.range c).map fun k => it r k s) ++ [it r c s]) = E2 at hp ih
      generalize eK (seen ++ (List.range c).map fun k => it r k s) = E1 at hp hg ⊢
      generalize ((List.range c).map fun k => it r k s).map nI = L1 at hll ih ⊢
      generalize it r (c + 1) s = y2 at e3' ih
      generalize it r c s = y1 at e3' ih hg hp ⊢
      generalize eK (seen ++ orb n r s) = E3 at ih ⊢
      generalize (orb n r s).map nI = L3 at ih ⊢
      generalize r.map nI = RD at e3' ih ⊢
      simp [vw, vd, isD, hg, asBool, gDPut, hp, tyD, hll, gIx, e3', unS, ih]
    · have hcp : c = per n r s := by omega
      subst hcp
      have hin : it r (per n r s) s ∈ seen ++ (List.range (per n r s)).map fun k => it r k s := by
        rw [p3]
        exact List.mem_append_right _ (orb_self h hs)
      rw [if_pos hin] at hg
      change obGet (.dk (eK (seen ++ orb n r s))) _ = _ at hg
      unfold whileS
      rw [p3] at hg ⊢
      change ((kT (kDIn true (VD.kV 5) 2) [.fz (.tuple (r.map nI)), X1, .ow false (.dk (eK (seen ++ orb n r s))), X3, .ow false (.lst ((orb n r s).map nI)), .fz (.int (s : Int))]).bind _) = _
      generalize eK (seen ++ orb n r s) = E3 at hg ⊢
      generalize (orb n r s).map nI = L3
      generalize r.map nI = RD
      simp [vw, vd, isD, hg, asBool]
theorem gNe_nilL (l : List Nat) : gNe (.list (l.map nI)) (.list []) = some (.bool (!decide (l = []))) := by
  unfold gNe
  rw [if_pos (.inr (by decide))]
  cases l with
  | nil => simp [PyData.eqv, PyData.eqvAll]
  | cons x r => simp [PyData.eqv, PyData.eqvAll]
set_option maxHeartbeats 0 in
theorem r_turns_in {n : Nat} {r : List Nat} (h : Pm n r) (hn : n ≤ 11) : q_turns_in [.fz (.tuple (r.map nI))] = some (.dt (.list ((rds n r).map nL)), [.fz (.tuple (r.map nI))]) := by
  have hrl : (r.map nI).length = n := by rw [len_nI, h.len]
  have hn1 : n < 1152921504606846976 := by omega
  have hr2 := range_nI n
  have f := forS_foldN (tg := gN 3) (body := kUn [3, 4, 5] (kSeq (kPar [4, 5] (kConsF (kLst kNil) (kConsM (VD.kV 3) kNil)))
    (kSeq (whileS (kT (kDIn true (VD.kV 5) 2)) (kUn [] (kSeq (kAsg (kC (.bool true)) (gDPut 2 (VD.kV 5)))
    (kSeq (kApp 4 (VD.kV 5))
    (kSet 5 (k2v gIx 0 (kB 5)))))) 12)
    (kIfS (kT (k2v gNe 4 (kFL (kLst kNil)))) (kApp 1 (VD.kV 4)) kNx)))) (enc := nI) (fun fd : List (List Nat) => [.fz (.tuple (r.map nI)), .ow false (.lst (fd.map nL)), .ow false (.dk (eK fd.flatten)), .un, .un, .un]) (rdStep n r) (fun m fd => RdOk n r fd ∧ fd.length ≤ m) (List.range n) 0 [] ⟨⟨List.nodup_nil, fun _ hx => nomatch hx⟩, Nat.le_refl _⟩ fun m fd hI hlt s hs => by
      have hs := List.mem_range.mp hs
      obtain ⟨R, hm⟩ := hI
      simp only [List.length_range] at hlt
      have hR := (R.step h hs).1
      by_cases c : s ∈ fd.flatten
      · have e : rdStep n r fd s = fd := if_pos c
        rw [e] at hR ⊢
        refine ⟨?_, R, by omega⟩
        have hg := getK fd.flatten s
        rw [if_pos c] at hg
        have hw : whileS (kT (kDIn true (VD.kV 5) 2)) (kUn [] (kSeq (kAsg (kC (.bool true)) (gDPut 2 (VD.kV 5)))
          (kSeq (kApp 4 (VD.kV 5))
          (kSet 5 (k2v gIx 0 (kB 5)))))) 12 [.fz (.tuple (r.map nI)), .ow false (.lst (fd.map nL)), .ow false (.dk (eK fd.flatten)), .fz (.int (s : Int)), .ow false (.lst []), .fz (.int (s : Int))] = some (.nx [.fz (.tuple (r.map nI)), .ow false (.lst (fd.map nL)), .ow false (.dk (eK fd.flatten)), .fz (.int (s : Int)), .ow false (.lst []), .fz (.int (s : Int))]) := by
          unfold whileS
          generalize eK fd.flatten = E at hg ⊢
          simp [vw, vd, isD, hg, asBool]
        have hne := gNe_nilL []
        simp only [List.map_nil] at hne
        generalize eK fd.flatten = E at hw ⊢
        generalize fd.map nL = FD at hw ⊢
        generalize r.map nI = RD at hw ⊢
        simp [vw, setAll, setRV, hw, hne, asBool, unS]
      · have e : rdStep n r fd s = fd ++ [orb n r s] := if_neg c
        rw [e] at hR ⊢
        refine ⟨?_, hR, by simp; omega⟩
        have hfl : fd.flatten.length ≤ n := by
          have := nodup_le _ (List.range n) R.nd fun x hx => List.mem_range.mpr (R.lt h x hx)
          simpa using this
        have hpp := (per_ok h hs).2.1
        have hw := r_while h hs (by omega) fd.flatten hfl (R.cl h hs c) (.ow false (.lst (fd.map nL))) (.fz (.int (s : Int))) 12 0 (Nat.zero_le _) (by omega)
        simp only [List.range_zero, List.map_nil, List.append_nil] at hw
        change whileS _ _ _ [_, _, _, _, _, .fz (.int (s : Int))] = _ at hw
        have hon : orb n r s ≠ [] := fun q => by
          have := orb_self h hs
          rw [q] at this
          cases this
        have hne := gNe_nilL (orb n r s)
        simp only [hon, decide_false, Bool.not_false] at hne
        have hfd : (fd.map nL).length < 1000000 := by simp; omega
        have hap : (fd ++ [orb n r s]).map nL = fd.map nL ++ [.list ((orb n r s).map nI)] := by simp
        have hfa : (fd ++ [orb n r s]).flatten = fd.flatten ++ orb n r s := by rw [List.flatten_append, List.flatten_singleton]
        rw [hap, hfa]
        generalize eK (fd.flatten ++ orb n r s) = E2 at hw ⊢
        generalize eK fd.flatten = E at hw ⊢
        generalize fd.map nL = FD at hw hfd ⊢
        generalize (orb n r s).map nI = OD at hw hne ⊢
        generalize r.map nI = RD at hw ⊢
        simp [vw, setAll, setRV, hw, hne, asBool, tyD, hfd, unS]
  obtain ⟨f1, _⟩ := f
  change forS _ _ _ _ = some (.nx [_, .ow false (.lst ((rds n r).map nL)), .ow false (.dk (eK (rds n r).flatten)), _, _, _]) at f1
  generalize eK (rds n r).flatten = FL at f1
  generalize (rds n r).map nL = RR at f1 ⊢
  generalize (List.range n).map nI = RG at f1 hr2
  simp only [List.map_nil, List.flatten_nil, show eK [] = [] from rfl] at f1
  generalize r.map nI = RD at f1 hrl ⊢
  simp [q_turns_in, bq_turns_in, vw, setAll, setRV, gLen, hrl, hn1, hr2, f1, flow, outsOf]
theorem r_corners {n : Nat} {r u : List Nat} (hr : Pm n r) (hu : Pm n u) (hn : n ≤ 11) : q_corners [.fz (dW r u)] = some (.dt (.tuple ((rds n (aro n r u)).map nT)), [.fz (dW r u)]) := by
  have ha := r_paround hr hu (by omega)
  have ht := r_turns_in (aro_pm hr hu) hn
  have hlen : (rds n (aro n r u)).length ≤ n := by
    have := rds_len (n := n) (r := aro n r u) (List.range n) []
    simp at this
    exact this
  have g := lcS_all (tg := gN 1) (te := k1 gTuple (kB 1)) (vs := [1]) (enc := nL) (S := [.fz (dW r u), .un]) nT (rds n (aro n r u)) (by omega) fun l hl => by
    refine ⟨[.fz (dW r u), .fz (.list (l.map nI))], [.fz (dW r u), .fz (.list (l.map nI))], by simp, ?_, by simp [unS], by simp [unS]⟩
    simp [vw, gTuple]
  generalize (rds n (aro n r u)).map nT = T1 at g ⊢
  generalize (rds n (aro n r u)).map nL = L1 at g ht
  generalize (aro n r u).map nI = AD at ha ht
  generalize dW r u = WW at ha g ⊢
  simp [q_corners, bq_corners, vw, lentIx, lentAll, backS, ha, ht, itemsD, unS, g, gTuple, flow, outsOf]
end k13
namespace k13
open PySem PySem.Spec PyProof.Rows L2 VD
/-! ### letters and texts -/
@[simp] theorem ev_kStop (S : Sl) : kStop S = none := rfl
def lc : Nat → Nat
  | 0 => 114
  | 1 => 117
  | 2 => 108
  | _ => 100
def sW (l : List Nat) : Str := ⟨(l.map lc).toArray⟩
def nS (a : Nat) : D := .str ⟨#[lc a]⟩
theorem signs_sW (l : List Nat) : signsD (sW l) = l.map nS := by
  unfold signsD sW nS
  simp [List.map_map, Function.comp_def]
theorem items_sW (l : List Nat) : itemsD (.str (sW l)) = some (l.map nS) := by
  show some (signsD (sW l)) = _
  rw [signs_sW]
theorem lt4 {a : Nat} (h : a < 4) : a = 0 ∨ a = 1 ∨ a = 2 ∨ a = 3 := by omega
theorem notIn_let {a : Nat} (h : a < 4) : gNotIn (nS a) (.str "ruld") = some (.bool false) := by
  have e : (Builtin.Str.occurrences (Str.ofString "ruld") ⟨#[lc a]⟩ 0 (Str.ofString "ruld").length 1).isEmpty = false := by
    rcases lt4 h with rfl | rfl | rfl | rfl <;> decide +kernel
  show some (PyData.bool (!(!(Builtin.Str.occurrences (Str.ofString "ruld") ⟨#[lc a]⟩ 0 (Str.ofString "ruld").length 1).isEmpty))) = _
  rw [e]
  rfl
theorem gIsi_str (z : Str) : gIsi "str" (.str z) = some (.bool true) := by rfl
theorem forS_id {β : Type} {tg : D → Sl → Option Sl} {body : Sl → Option Out} {enc : β → D} (S : Sl) (xs : List β) (h : ∀ x ∈ xs, (tg (enc x) S).bind body = some (.nx S)) : forS tg body (xs.map enc) S = some (.nx S) :=
  (forS_fold (fun _ : Unit => S) (fun _ _ => ()) (fun _ => True) xs () trivial fun _ _ x hx => ⟨h x hx, trivial⟩).1
theorem r_need (l : List Nat) (h4 : ∀ a ∈ l, a < 4) (hl : l.length < 400) : q_need_word [.fz (.str (sW l)), .fz (.str "ruld")] = some (.dt (.str (sW l)), [.fz (.str (sW l)), .fz (.str "ruld")]) := by
  have lp := forS_id (tg := gT 2 (gsC (gN 2) (gsC (gN 3) gsN))) (body := kUn [2, 3] (kIfS (kOr (kT (k2v gEq 2 (kC (.int 400)))) (kT (k2v gNotIn 3 (kB 1)))) kStop kNx)) (enc := fun p : Nat × Nat => PyData.tuple [.int (p.2 : Nat), nS p.1]) [.fz (.str (sW l)), .fz (.str "ruld"), .un, .un] l.zipIdx fun p hp => by
    have h1 := List.mem_zipIdx hp
    have hi : p.2 < 400 := by omega
    have ha : p.1 < 4 := h4 _ (by rw [h1.2.2]; exact List.getElem_mem _)
    have e1 := notIn_let ha
    have e2 : ¬ ((p.2 : Int) = 400) := by omega
    generalize nS p.1 = A at e1 ⊢
    simp [gT, gsC, gsN, vw, gEq_int, e2, asBool, e1, unS]
  have he : enumD (l.map nS) = l.zipIdx.map fun p : Nat × Nat => PyData.tuple [.int (p.2 : Nat), nS p.1] := by
    unfold enumD
    rw [List.zipIdx_map, List.map_map]
    rfl
  have hi := items_sW l
  generalize l.zipIdx.map (fun p : Nat × Nat => PyData.tuple [.int (p.2 : Nat), nS p.1]) = EZ at lp he
  generalize l.map nS = LS at hi he
  generalize sW l = Z at hi lp ⊢
  simp [q_need_word, bq_need_word, vw, gIsi_str, asBool, hi, he, lp, flow, outsOf]
/-! ### going -/
def sg (n : Nat) (r u : List Nat) (s : Nat) : Nat → Nat
  | 0 => pa r s
  | 1 => pa u s
  | 2 => pa (VD.inv n r) s
  | _ => pa (VD.inv n u) s
def ldt (n : Nat) (r u : List Nat) : Nat → List Nat
  | 0 => r
  | 1 => u
  | 2 => VD.inv n r
  | _ => VD.inv n u
def go (n : Nat) (r u : List Nat) (l : List Nat) (s : Nat) : Nat := l.foldl (fun s a => sg n r u s a) s
theorem sg_ldt (n : Nat) (r u : List Nat) (s a : Nat) : pa (ldt n r u a) s = sg n r u s a := by
  unfold ldt sg
  split <;> rfl
theorem sg_lt {n : Nat} {r u : List Nat} (hr : Pm n r) (hu : Pm n u) {s : Nat} (hs : s < n) (a : Nat) : sg n r u s a < n := by
  unfold sg
  split
  · exact hr.lt hs
  · exact hu.lt hs
  · exact hr.inv.lt hs
  · exact hu.inv.lt hs
theorem ldt_len {n : Nat} {r u : List Nat} (hr : Pm n r) (hu : Pm n u) (a : Nat) : (ldt n r u a).length = n := by
  unfold ldt
  split
  · exact hr.len
  · exact hu.len
  · exact hr.inv.len
  · exact hu.inv.len
theorem go_lt {n : Nat} {r u : List Nat} (hr : Pm n r) (hu : Pm n u) : ∀ (l : List Nat) {s : Nat}, s < n → go n r u l s < n
  | [], _, h => h
  | a :: l, s, h => go_lt hr hu l (sg_lt hr hu h a)
def ledD (n : Nat) (r u : List Nat) : Ob := .dk [(.inr "r", nT r), (.inr "u", nT u), (.inr "l", nT (VD.inv n r)), (.inr "d", nT (VD.inv n u))]
theorem led_get (n : Nat) (r u : List Nat) {a : Nat} (h : a < 4) : obGet (ledD n r u) (nS a) = some (some (nT (ldt n r u a))) := by
  rcases lt4 h with rfl | rfl | rfl | rfl <;> rfl
theorem led_isD (n : Nat) (r u : List Nat) : isD (ledD n r u) = true := rfl
theorem r_led {n : Nat} {r u : List Nat} (hr : Pm n r) (hu : Pm n u) (hn : n ≤ 1000) : q_led_by [.fz (dW r u)] = some (.fr (ledD n r u), [.fz (dW r u)]) := by
  have b1 := r_pback hr hn
  have b2 := r_pback hu hn
  unfold ledD
  unfold dW nT
  generalize (VD.inv n r).map nI = RI at b1 ⊢
  generalize (VD.inv n u).map nI = UI at b2 ⊢
  generalize r.map nI = RR at b1 ⊢
  generalize u.map nI = UU at b2 ⊢
  simp [q_led_by, bq_led_by, vw, kPairs, gT, gsC, gsN, lentIx, lentAll, backS, b1, b2, flow, outsOf]
  rfl
theorem r_walked {n : Nat} {r u : List Nat} (hr : Pm n r) (hu : Pm n u) (hn : n ≤ 1000) (l : List Nat) (h4 : ∀ a ∈ l, a < 4) (hl : l.length < 400) {s : Nat} (hs : s < n) :
    q_walked [.fz (dW r u), .fz (.int (s : Int)), .fz (.str (sW l))] = some (.dt (.int ((go n r u l s : Nat) : Int)), [.fz (dW r u), .fz (.int (s : Int)), .fz (.str (sW l))]) := by
  have e0 := r_need l h4 hl
  have e1 := r_led hr hu hn
  have lp := forS_foldN (tg := gN 4) (body := kUn [4] (kSet 1 (k2 gIx (kDGet 3 (VD.kV 4)) (kB 1)))) (enc := nS) (fun s : Nat => [.fz (dW r u), .fz (.int (s : Int)), .fz (.str (sW l)), .ow false (ledD n r u), .un]) (fun s a => sg n r u s a) (fun _ s => s < n) l 0 s hs fun m s hs _ a ha => by
    refine ⟨?_, sg_lt hr hu hs a⟩
    have g1 := led_get n r u (h4 a ha)
    have g2 := at_nI (ldt n r u a) s (by rw [ldt_len hr hu]; exact hs)
    have g3 : atI ((ldt n r u a).map nI) (s : Int) = some (.int ((sg n r u s a : Nat) : Int)) := by rw [g2]; exact congrArg (fun x : Nat => some (PyData.int (x : Int))) (sg_ldt n r u s a)
    have g4 := led_isD n r u
    have g1' : obGet (ledD n r u) (nS a) = some (some (.tuple ((ldt n r u a).map nI))) := g1
    generalize (ldt n r u a).map nI = LD at g1' g3
    generalize sg n r u s a = y at g3 ⊢
    generalize ledD n r u = LB at g1' g4 ⊢
    generalize nS a = A at g1' ⊢
    generalize dW r u = WW
    generalize sW l = Z
    simp [vw, vd, g4, g1', gIx, g3, unS]
  have f1 := lp.1
  have hi := items_sW l
  change forS _ _ _ _ = some (.nx [_, .fz (.int ((go n r u l s : Nat) : Int)), _, _, _]) at f1
  generalize go n r u l s = y at f1 ⊢
  generalize l.map nS = LS at hi f1
  generalize sW l = Z at *
  generalize ledD n r u = LB at *
  generalize dW r u = WW at *
  simp [q_walked, bq_walked, vw, lentIx, lentAll, backS, e0, e1, hi, f1, flow, outsOf]
theorem go_all (n : Nat) (r u : List Nat) : ∀ (l xs : List Nat), l.foldl (fun f a => f.map fun s => sg n r u s a) xs = xs.map (go n r u l)
  | [], xs => by
    show xs = xs.map fun s => s
    rw [List.map_id']
  | a :: l, xs => by
    show l.foldl _ (xs.map fun s => sg n r u s a) = _
    rw [go_all n r u l, List.map_map]
    rfl
end k13
namespace k13
open PySem PySem.Spec PyProof.Rows L2 VD
theorem lcS_ex {α β γ : Type} {tg : D → Sl → Option Sl} {te : Sl → Option (D × Sl)} {vs : List Nat} {enc : β → D} {f : γ → D} (st : α → Sl) (I : List β → List γ → α → Prop) : ∀ (xs : List β) (acc : List γ) (a : α), I xs acc a →
    (∀ x r acc a, I (x :: r) acc a → acc.length < 1000000 ∧ ∃ S1 y S2 a', tg (enc x) (st a) = some S1 ∧ te S1 = some (f y, S2) ∧ unS S2 vs = st a' ∧ I r (acc ++ [y]) a') →
    ∃ acc' a', lcS tg kYes te vs (xs.map enc) (acc.map f) (st a) = some (acc'.map f, st a') ∧ I [] acc' a'
  | [], acc, a, ha, _ => ⟨acc, a, rfl, ha⟩
  | x :: xs, acc, a, ha, h => by
    obtain ⟨h0, S1, y, S2, a1, h1, h2, h3, h4⟩ := h x xs acc a ha
    obtain ⟨acc', a', h5, h6⟩ := lcS_ex st I xs (acc ++ [y]) a1 h4 h
    refine ⟨acc', a', ?_, h6⟩
    rw [List.map_cons]
    unfold lcS
    have e0 : kYes S1 = some (true, S1) := rfl
    have e1 : (acc.map f).length < 1000000 := by simpa using h0
    simp only [h1, Option.bind_some, e0, if_true, h2, e1, h3]
    rw [List.map_append] at h5
    exact h5
theorem r_like (d : D) (h : (gRepr d).isSome = true) : q_law_like [.fz d, .fz d] = some (.dt (.bool true), [.fz d, .fz d]) := by
  obtain ⟨s, hs⟩ := Option.isSome_iff_exists.mp h
  have e : ∃ z, s = .str z := by
    unfold gRepr at hs
    split at hs
    · cases hs
      exact ⟨_, rfl⟩
    · cases hs
  obtain ⟨z, rfl⟩ := e
  have e : gEq (.str z) (.str z) = some (.bool true) := by
    unfold gEq
    rw [if_pos (.inl (Nat.zero_le 60))]
    simp [PyData.eqv]
  simp [q_law_like, bq_law_like, vw, hs, e, flow, outsOf]
theorem r_ofD {n : Nat} {L s : Int} {cs : List Int} {p : Int} (h : DrawOk n L s cs p) (hn : n < 1000000) (l : List D) (h0 : l ≠ []) (hl : l.length < 1000000) :
    ∃ (i : Nat) (d : D) (L' p' : Int), l[i]? = some d ∧ DrawOk (n + 1) L' s cs p' ∧ q_law_of [.ow true (mD L s cs p), .fz (.list l)] = some (.dt d, [.ow true (mD L' s cs p'), .fz (.list l)]) := by
  have hp : 0 < l.length := List.length_pos_iff.mpr h0
  obtain ⟨r, L', p', h1, h2, h3, h4⟩ := r_draw h hn (b := (l.length : Int)) (by omega) (by omega)
  obtain ⟨i, rfl⟩ : ∃ i : Nat, r = (i : Int) := ⟨r.toNat, by omega⟩
  have hi : i < l.length := by omega
  have ha : atI l (i : Int) = some l[i] := by
    unfold atI ixN
    simp [hi]
  refine ⟨i, l[i], L', p', by simp [hi], h3, ?_⟩
  generalize l[i] = x at ha ⊢
  simp [q_law_of, bq_law_of, vw, gLen, lentIx, lentAll, backS, h4, gIx, ha, flow, outsOf]
/-! ### texts -/
theorem strs_nS (l : List Nat) : strsOf (l.map nS) = some (l.map fun a => (⟨#[lc a]⟩ : Str)) := by
  induction l with
  | nil => rfl
  | cons a l ih =>
    show (strsOf (l.map nS)).map _ = _
    rw [ih]
    rfl
theorem str_ext {a b : Str} (h : a.cps = b.cps) : a = b := by
  cases a; cases b; cases h; rfl
theorem sW_app (l m : List Nat) : sW l ++ sW m = sW (l ++ m) := by
  apply str_ext
  show (l.map lc).toArray ++ (m.map lc).toArray = ((l ++ m).map lc).toArray
  simp
theorem join_nS : ∀ l : List Nat, Str.join (Str.ofString "") (l.map fun a => (⟨#[lc a]⟩ : Str)) = sW l
  | [] => rfl
  | [a] => rfl
  | a :: b :: r => by
    show (⟨#[lc a]⟩ : Str) ++ Str.ofString "" ++ Str.join (Str.ofString "") ((b :: r).map fun a => (⟨#[lc a]⟩ : Str)) = _
    rw [join_nS (b :: r)]
    apply str_ext
    show #[lc a] ++ (Str.ofString "").cps ++ ((b :: r).map lc).toArray = ((a :: b :: r).map lc).toArray
    have e : (Str.ofString "").cps = #[] := rfl
    rw [e]
    simp
theorem len_sW (l : List Nat) : (sW l).length = l.length := by
  show ((l.map lc).toArray).size = _
  simp
theorem gJoin_nS (l : List Nat) (hl : l.length ≤ 1000) : gJoin (.str "") (.list (l.map nS)) = some (.str (sW l)) := by
  unfold gJoin
  simp only [strs_nS, Option.bind_some]
  rw [TL.join_eq, join_nS, if_pos]
  have e : (Str.ofString "").length = 0 := rfl
  rw [e, Nat.mul_zero, Nat.add_zero]
  have : ∀ l : List Nat, (List.map (fun x : Str => x.length) (l.map fun a => (⟨#[lc a]⟩ : Str))).sum = l.length := fun l => by
    induction l with
    | nil => rfl
    | cons a l ih =>
      rw [List.map_cons, List.map_cons, List.sum_cons, ih, List.length_cons]
      have : (⟨#[lc a]⟩ : Str).length = 1 := rfl
      omega
  have := this l
  omega
theorem r_walk {n : Nat} {L s : Int} {cs : List Int} {p : Int} (h : DrawOk n L s cs p) (hn : n < 900000) (most : Nat) (hm : most < 1000) :
    ∃ l L' p', (∀ a ∈ l, a < 4) ∧ l.length ≤ most ∧ DrawOk (n + 1 + most) L' s cs p' ∧ q_law_walk [.ow true (mD L s cs p), .fz (.int (most : Int))] = some (.dt (.str (sW l)), [.ow true (mD L' s cs p'), .fz (.int (most : Int))]) := by
  obtain ⟨c, L1, p1, c1, c2, d1, hd⟩ := r_draw h (by omega) (b := (most : Int) + 1) (by omega) (by omega)
  obtain ⟨c, rfl⟩ : ∃ i : Nat, c = (i : Int) := ⟨c.toNat, by omega⟩
  have hcm : c ≤ most := by omega
  obtain ⟨l, ⟨L2, p2⟩, g1, g2, g3, g4⟩ := lcS_ex (tg := gN 2) (te := rvE (kCall q_law_of (kALent 0 (kACons (kFL (kLst (kCons (kC (.str "r")) (kCons (kC (.str "u")) (kCons (kC (.str "l")) (kCons (kC (.str "d")) kNil)))))) kANil)))) (vs := [2]) (enc := nI) (f := nS)
    (fun a : Int × Int => [.ow true (mD a.1 s cs a.2), .fz (.int (most : Int)), .un]) (fun r acc a => (∀ x ∈ acc, x < 4) ∧ acc.length + r.length = c ∧ DrawOk (n + 1 + acc.length) a.1 s cs a.2) (List.range c) [] (L1, p1) ⟨(fun _ h => nomatch h), by simp, d1⟩ fun x r acc a hI => by
      obtain ⟨La, pa'⟩ := a
      obtain ⟨i1, i2, i3⟩ := hI
      simp only [List.length_cons] at i2
      obtain ⟨i, d, L', p', hi, d2, ho⟩ := r_ofD i3 (by omega) [.str "r", .str "u", .str "l", .str "d"] (by simp) (by simp)
      have hid : i < 4 ∧ d = nS i := by
        match i, hi with
        | 0, hi => cases hi; exact ⟨by omega, rfl⟩
        | 1, hi => cases hi; exact ⟨by omega, rfl⟩
        | 2, hi => cases hi; exact ⟨by omega, rfl⟩
        | 3, hi => cases hi; exact ⟨by omega, rfl⟩
        | j + 4, hi => cases hi
      obtain ⟨h4, rfl⟩ := hid
      refine ⟨by omega, _, i, [.ow true (mD L' s cs p'), .fz (.int (most : Int)), .fz (.int (x : Int))], (L', p'), rfl, ?_, by simp [unS], ?_, by simp; omega, ?_⟩
      · generalize nS i = A at ho ⊢
        simp [vw, lentIx, lentAll, backS, ho]
      · intro y hy
        rcases List.mem_append.mp hy with hy | hy
        · exact i1 y hy
        · rw [List.mem_singleton.mp hy]; exact h4
      · simp only [List.length_append, List.length_singleton]
        exact d2
  simp only [List.length_nil, Nat.add_zero] at g3 g4
  refine ⟨l, L2, p2, g2, by omega, g4.mono (by omega), ?_⟩
  have hc1 : c < 1152921504606846976 := by omega
  have hr := range_nI c
  have hj := gJoin_nS l (by omega)
  have hgm : gAdd (.int (most : Int)) (.int 1) = some (.int ((most : Int) + 1)) := rfl
  simp only [List.map_nil] at g1
  generalize (List.range c).map nI = RG at hr g1
  generalize l.map nS = LS at hj g1
  simp [q_law_walk, bq_law_walk, vw, hgm, lentIx, lentAll, backS, hd, hc1, hr, g1, hj, tyD, unS, flow, outsOf]
end k13
namespace k13
open PySem PySem.Spec PyProof.Rows L2 VD
/-! ### the ends of a walk -/
theorem lt_map {n : Nat} {r u : List Nat} (hr : Pm n r) (hu : Pm n u) {f : List Nat} (hf : ∀ x ∈ f, x < n) (a : Nat) : ∀ x ∈ f.map (fun s => sg n r u s a), x < n := fun x hx => by
  obtain ⟨y, hy, rfl⟩ := List.mem_map.mp hx
  exact sg_lt hr hu (hf y hy) a
theorem r_step {n : Nat} {r u : List Nat} (hr : Pm n r) (hu : Pm n u) (hn : n ≤ 1000) (S1 S4 : SS) {a : Nat} (ha : a < 4) (f : List Nat) (hf : ∀ x ∈ f, x < n) (hl : f.length = n) (X0 X1 : SS) (T : List SS) :
    lcS (gN 5) kYes (k2 gIx (kDGet 2 (VD.kV 4)) (kB 5)) [5] (f.map nI) [] (X0 :: X1 :: .ow false (ledD n r u) :: .fz (.list (f.map nI)) :: .fz (nS a) :: .un :: T) = some ((f.map fun s => sg n r u s a).map nI, (X0 :: X1 :: .ow false (ledD n r u) :: .fz (.list (f.map nI)) :: .fz (nS a) :: .un :: T)) := by
  have g := lcS_all (tg := gN 5) (te := k2 gIx (kDGet 2 (VD.kV 4)) (kB 5)) (vs := [5]) (enc := nI) (S := (X0 :: X1 :: .ow false (ledD n r u) :: .fz (.list (f.map nI)) :: .fz (nS a) :: .un :: T)) (fun s => nI (sg n r u s a)) f (by omega) fun s hs => by
    refine ⟨(X0 :: X1 :: .ow false (ledD n r u) :: .fz (.list (f.map nI)) :: .fz (nS a) :: .fz (.int (s : Int)) :: T), (X0 :: X1 :: .ow false (ledD n r u) :: .fz (.list (f.map nI)) :: .fz (nS a) :: .fz (.int (s : Int)) :: T), by simp, ?_, by simp [unS], by simp [unS]⟩
    have g1 := led_get n r u ha
    have g2 := at_nI (ldt n r u a) s (by rw [ldt_len hr hu]; exact hf s hs)
    have g3 : atI ((ldt n r u a).map nI) (s : Int) = some (.int ((sg n r u s a : Nat) : Int)) := by rw [g2]; exact congrArg (fun x : Nat => some (PyData.int (x : Int))) (sg_ldt n r u s a)
    have g4 := led_isD n r u
    have g1' : obGet (ledD n r u) (nS a) = some (some (.tuple ((ldt n r u a).map nI))) := g1
    generalize (ldt n r u a).map nI = LD at g1' g3
    show _ = some (PyData.int ((sg n r u s a : Nat) : Int), _)
    generalize sg n r u s a = y at g3 ⊢
    generalize ledD n r u = LB at g1' g4 ⊢
    generalize nS a = A at g1' ⊢
    generalize f.map nI = FF
    simp [vw, vd, g4, g1', gIx, g3]
  rw [map_nI (fun s => sg n r u s a) f] at g
  exact g
theorem r_loop {n : Nat} {r u : List Nat} (hr : Pm n r) (hu : Pm n u) (hn : n ≤ 1000) (X0 X1 : SS) (T : List SS) : ∀ (l : List Nat) (h4 : ∀ a ∈ l, a < 4) (f : List Nat) (hf : ∀ x ∈ f, x < n) (hl : f.length = n) (fr : Bool),
    ∃ fr' : Bool, forS (gN 4) (kUn [4, 5] (kSetF 3 (kLC (kI (VD.kV 3)) (gN 5) kYes (k2 gIx (kDGet 2 (VD.kV 4)) (kB 5)) [5]))) (l.map nS) (X0 :: X1 :: .ow false (ledD n r u) :: (if fr then .fz (.list (f.map nI)) else .ow false (.lst (f.map nI))) :: .un :: .un :: T) =
      some (.nx (X0 :: X1 :: .ow false (ledD n r u) :: (if fr' then .fz (.list ((f.map (go n r u l)).map nI)) else .ow false (.lst ((f.map (go n r u l)).map nI))) :: .un :: .un :: T))
  | [], _, f, _, _, fr => ⟨fr, by
    have e : f.map (go n r u []) = f := by
      show f.map (fun s => s) = f
      rw [List.map_id']
    rw [e]
    rfl⟩
  | a :: l, h4, f, hf, hl, fr => by
    obtain ⟨fr', ih⟩ := r_loop hr hu hn X0 X1 T l (fun b hb => h4 b (List.mem_cons_of_mem _ hb)) (f.map fun s => sg n r u s a) (lt_map hr hu hf a) (by simpa using hl) false
    refine ⟨fr', ?_⟩
    have st := r_step hr hu hn .un .un (h4 a List.mem_cons_self) f hf hl X0 X1 T
    have e : (f.map fun s => sg n r u s a).map (go n r u l) = f.map (go n r u (a :: l)) := by
      rw [List.map_map]
      rfl
    rw [e] at ih
    rw [List.map_cons]
    unfold forS
    simp only [Bool.false_eq_true, if_false] at ih
    generalize (f.map (go n r u (a :: l))).map nI = F2 at ih ⊢
    generalize (f.map fun s => sg n r u s a).map nI = F1 at ih st
    generalize nS a = A at st ⊢
    generalize f.map nI = F0 at st ⊢
    generalize ledD n r u = LB at st ih ⊢
    generalize (if fr' = true then SS.fz (PyData.list F2) else SS.ow false (Ob.lst F2)) = Z at ih ⊢
    cases fr with
    | true => simp [itemsD, st, unS, ih]
    | false => simp [itemsD, st, unS, ih]
theorem r_ends {n : Nat} {r u : List Nat} (hr : Pm n r) (hu : Pm n u) (hn : n ≤ 1000) (l : List Nat) (h4 : ∀ a ∈ l, a < 4) :
    q_law_ends [.fz (dW r u), .fz (.str (sW l))] = some (.dt (.list (((List.range n).map (go n r u l)).map nI)), [.fz (dW r u), .fz (.str (sW l))]) := by
  have b1 := r_back hr hn
  have b2 := r_back hu hn
  obtain ⟨fr, lp⟩ := r_loop hr hu hn (.fz (dW r u)) (.fz (.str (sW l))) [] l h4 (List.range n) (fun x hx => List.mem_range.mp hx) (by simp) true
  have i0 := dW0 r u
  have i1 := dW1 r u
  have hi := items_sW l
  have hrl : (r.map nI).length = n := by rw [len_nI, hr.len]
  have hn1 : n < 1152921504606846976 := by omega
  have hn2 : (n : Int) ≤ 1000000 := by omega
  have hr2 := range_nI n
  simp only [if_true] at lp
  unfold ledD nT at lp
  unfold dW at lp ⊢
  unfold nT at b1 b2
  generalize ((List.range n).map (go n r u l)).map nI = OUT at lp ⊢
  generalize (List.range n).map nI = RG at lp hr2
  generalize (VD.inv n r).map nI = RI at lp b1
  generalize (VD.inv n u).map nI = UI at lp b2
  generalize hW : [PyData.tuple (r.map nI), PyData.tuple (u.map nI)] = WW at lp i0 i1 ⊢
  generalize r.map nI = RR at lp b1 i0 hrl
  generalize u.map nI = UU at lp b2 i1
  generalize l.map nS = LS at lp hi
  generalize sW l = Z at *
  have hd : keysK [(.str "r", .tuple RR), (.str "u", .tuple UU), (.str "l", .tuple RI), (.str "d", .tuple UI)] = some [(.inr "r", .tuple RR), (.inr "u", .tuple UU), (.inr "l", .tuple RI), (.inr "d", .tuple UI)] := rfl
  have hp : [((Sum.inr "r" : Key), PyData.tuple RR), (.inr "u", .tuple UU), (.inr "l", .tuple RI), (.inr "d", .tuple UI)].foldl (fun acc p => dput acc p.1 p.2) [] = [(.inr "r", .tuple RR), (.inr "u", .tuple UU), (.inr "l", .tuple RI), (.inr "d", .tuple UI)] := rfl
  generalize hLB : Ob.dk [((Sum.inr "r" : Key), PyData.tuple RR), (.inr "u", .tuple UU), (.inr "l", .tuple RI), (.inr "d", .tuple UI)] = LB at lp
  cases fr with
  | true =>
    simp only [if_true] at lp
    simp [q_law_ends, bq_law_ends, vw, gIx, i0, i1, lentIx, lentAll, backS, b1, b2, kPairs, hd, hp, hLB, gLen, hrl, hn1, hn2, hr2, hi, lp, flow, outsOf]
  | false =>
    simp only [Bool.false_eq_true, if_false] at lp
    simp [q_law_ends, bq_law_ends, vw, gIx, i0, i1, lentIx, lentAll, backS, b1, b2, kPairs, hd, hp, hLB, gLen, hrl, hn1, hn2, hr2, hi, lp, flow, outsOf]
theorem filter_zip (f : Nat → Nat) : ∀ (n : Nat), (((List.range n).map f).zipIdx.filter fun p : Nat × Nat => decide (p.2 = p.1)).map (fun p => p.2) = (List.range n).filter fun s => decide (f s = s)
  | 0 => rfl
  | n + 1 => by
    rw [List.range_succ, List.map_append, List.zipIdx_append, List.filter_append, List.map_append, List.filter_append, filter_zip f n]
    congr 1
    simp
    by_cases c : f n = n
    · simp [c]
    · have c' : ¬ n = f n := fun e => c e.symm
      simp [c, c']
theorem r_go_back {n : Nat} {r u : List Nat} (hr : Pm n r) (hu : Pm n u) (hn : n ≤ 1000) (l : List Nat) (h4 : ∀ a ∈ l, a < 4) (hl : l.length < 400) :
    q_go_back [.fz (dW r u), .fz (.str (sW l))] = some (.dt (.tuple (((List.range n).filter fun s => decide (go n r u l s = s)).map nI)), [.fz (dW r u), .fz (.str (sW l))]) := by
  have e0 := r_need l h4 hl
  have e1 := r_led hr hu hn
  obtain ⟨fr, lp⟩ := r_loop hr hu hn (.fz (dW r u)) (.fz (.str (sW l))) [.un] l h4 (List.range n) (fun x hx => List.mem_range.mp hx) (by simp) true
  have i0 := dW0 r u
  have hi := signs_sW l
  have hrl : (r.map nI).length = n := by rw [len_nI, hr.len]
  have hn1 : n < 1152921504606846976 := by omega
  have hn2 : (n : Int) ≤ 1000000 := by omega
  have hr2 := range_nI n
  simp only [if_true] at lp
  have hen := enum_nI ((List.range n).map (go n r u l))
  have g := fun X3 : SS => lcS_map (tg := gT 2 (gsC (gN 5) (gsC (gN 6) gsN))) (tt := kT (k2v gEq 5 (kB 6))) (te := VD.kV 5) (vs := [5, 6]) (enc := fun p : Nat × Nat => PyData.tuple [.int (p.2 : Nat), nI p.1]) (S := [.fz (dW r u), .fz (.str (sW l)), .ow false (ledD n r u), X3, .un, .un, .un]) (fun p => decide (p.2 = p.1)) (fun p => nI p.2) ((List.range n).map (go n r u l)).zipIdx [] (by simp; omega) fun p hp => by
    refine ⟨[.fz (dW r u), .fz (.str (sW l)), .ow false (ledD n r u), X3, .un, .fz (.int (p.2 : Nat)), .fz (nI p.1)], [.fz (dW r u), .fz (.str (sW l)), .ow false (ledD n r u), X3, .un, .fz (.int (p.2 : Nat)), .fz (nI p.1)], by simp [gT, gsC, gsN], ?_, by simp [unS], fun _ => ⟨[.fz (dW r u), .fz (.str (sW l)), .ow false (ledD n r u), X3, .un, .fz (.int (p.2 : Nat)), .fz (nI p.1)], by simp, by simp [unS]⟩⟩
    have e := natcast_eq p.2 p.1
    generalize dW r u = WW
    generalize sW l = Z
    generalize ledD n r u = LB
    simp [vw, gEq_int, asBool]
    omega
  have hf : (((List.range n).map (go n r u l)).zipIdx.filter fun p : Nat × Nat => decide (p.2 = p.1)).map (fun p => nI p.2) = ((List.range n).filter fun s => decide (go n r u l s = s)).map nI := by
    rw [map_nI (fun p : Nat × Nat => p.2), filter_zip]
  simp only [hf, List.nil_append] at g
  generalize ((List.range n).filter fun s => decide (go n r u l s = s)).map nI = OUT at g ⊢
  generalize ((List.range n).map (go n r u l)).zipIdx.map (fun p : Nat × Nat => PyData.tuple [.int (p.2 : Nat), nI p.1]) = EZ at g hen
  generalize ((List.range n).map (go n r u l)).map nI = ED at lp hen
  generalize (List.range n).map nI = RG at lp hr2
  unfold dW at lp e1 g ⊢
  generalize hW : [PyData.tuple (r.map nI), PyData.tuple (u.map nI)] = WW at lp i0 e1 g ⊢
  generalize r.map nI = RR at i0 hrl
  generalize l.map nS = LS at lp hi
  generalize sW l = Z at *
  generalize ledD n r u = LB at *
  cases fr with
  | true =>
    simp only [if_true] at lp
    simp [q_go_back, bq_go_back, vw, gIx, i0, lentIx, lentAll, backS, e0, e1, setAll, setRV, gLen, hrl, hn1, hn2, hr2, hi, lp, itemsD, hen, unS, g, gTuple, flow, outsOf]
  | false =>
    simp only [Bool.false_eq_true, if_false] at lp
    simp [q_go_back, bq_go_back, vw, gIx, i0, lentIx, lentAll, backS, e0, e1, setAll, setRV, gLen, hrl, hn1, hn2, hr2, hi, lp, itemsD, hen, unS, g, gTuple, flow, outsOf]
/-! ### undone -/
def op : Nat → Nat
  | 0 => 2
  | 1 => 3
  | 2 => 0
  | _ => 1
def ip : Nat → Nat
  | 0 => 0
  | 1 => 2
  | 2 => 1
  | _ => 3
theorem op_lt (a : Nat) : op a < 4 := by
  unfold op
  split <;> omega
theorem idx_let {a : Nat} (h : a < 4) : gIndexS (.str "rlud") (nS a) = some (.int (ip a : Nat)) := by
  have e : Builtin.Str.occurrences (Str.ofString "rlud") ⟨#[lc a]⟩ 0 (Str.ofString "rlud").length 1 = [ip a] := by
    rcases lt4 h with rfl | rfl | rfl | rfl <;> decide +kernel
  show (match Builtin.Str.occurrences (Str.ofString "rlud") ⟨#[lc a]⟩ 0 (Str.ofString "rlud").length 1 with | i :: _ => some (PyData.int (i : Nat)) | [] => none) = _
  rw [e]
theorem ix_let {a : Nat} (h : a < 4) : gIx (.str "lrdu") (.int (ip a : Nat)) = some (nS (op a)) := by
  rcases lt4 h with rfl | rfl | rfl | rfl <;> rfl
theorem rev_sW (l : List Nat) : gRevS (.str (sW l)) = if l.length ≤ 1000000 then some (.str (sW l.reverse)) else none := by
  show (if (sW l).length ≤ 1000000 then some (PyData.str ⟨(sW l).cps.toList.reverse.toArray⟩) else none) = _
  rw [len_sW]
  have : (⟨(sW l).cps.toList.reverse.toArray⟩ : Str) = sW l.reverse := by
    apply str_ext
    show ((l.map lc).toArray.toList.reverse).toArray = (l.reverse.map lc).toArray
    simp
  rw [this]
def und (l : List Nat) : List Nat := l.reverse.map op
theorem und_lt (l : List Nat) : ∀ a ∈ und l, a < 4 := fun a ha => by
  obtain ⟨b, _, rfl⟩ := List.mem_map.mp ha
  exact op_lt b
theorem und_len (l : List Nat) : (und l).length = l.length := by simp [und]
theorem r_undone (l : List Nat) (h4 : ∀ a ∈ l, a < 4) (hl : l.length ≤ 1000) : q_law_undone [.fz (.str (sW l))] = some (.dt (.str (sW (und l))), [.fz (.str (sW l))]) := by
  have g := lcS_all (tg := gN 1) (te := k2 gIx (kC (.str "lrdu")) (kM "str" gIndexS (kC (.str "rlud")) (kB 1))) (vs := [1]) (enc := nS) (S := [.fz (.str (sW l)), .un]) (fun a => nS (op a)) l.reverse (by simp; omega) fun a ha => by
    have h := h4 a (by simpa using ha)
    refine ⟨[.fz (.str (sW l)), .fz (nS a)], [.fz (.str (sW l)), .fz (nS a)], by simp, ?_, by simp [unS], by simp [unS]⟩
    have e1 := idx_let h
    have e2 := ix_let h
    generalize nS (op a) = B at e2 ⊢
    generalize nS a = A at e1 ⊢
    generalize sW l = Z
    simp [vw, tyD, e1, e2]
  have e : l.reverse.map (fun a => nS (op a)) = (und l).map nS := by
    unfold und
    rw [List.map_map]
    rfl
  have hj := gJoin_nS (und l) (by rw [und_len]; exact hl)
  have hi := items_sW l.reverse
  have hv := rev_sW l
  rw [if_pos (by omega)] at hv
  rw [e] at g
  generalize (und l).map nS = US at g hj
  generalize sW (und l) = ZU at hj ⊢
  generalize l.reverse.map nS = RS at g hi
  generalize sW l.reverse = ZR at hv hi
  generalize sW l = Z at *
  simp [q_law_undone, bq_law_undone, vw, hv, hi, unS, g, tyD, hj, flow, outsOf]
theorem sg_op {n : Nat} {r u : List Nat} (hr : Pm n r) (hu : Pm n u) {s : Nat} (hs : s < n) {a : Nat} (h : a < 4) : sg n r u (sg n r u s a) (op a) = s := by
  rcases lt4 h with rfl | rfl | rfl | rfl
  · exact hr.left hs
  · exact hu.left hs
  · exact hr.right hs
  · exact hu.right hs
theorem go_app (n : Nat) (r u l m : List Nat) (s : Nat) : go n r u (l ++ m) s = go n r u m (go n r u l s) := List.foldl_append ..
theorem go_und {n : Nat} {r u : List Nat} (hr : Pm n r) (hu : Pm n u) : ∀ (l : List Nat), (∀ a ∈ l, a < 4) → ∀ {s : Nat}, s < n → go n r u (und l) (go n r u l s) = s
  | [], _, _, _ => rfl
  | a :: l, h4, s, hs => by
    have e : und (a :: l) = und l ++ [op a] := by simp [und]
    rw [e, go_app]
    show sg n r u (go n r u (und l) (go n r u l (sg n r u s a))) (op a) = s
    rw [go_und hr hu l (fun b hb => h4 b (List.mem_cons_of_mem _ hb)) (sg_lt hr hu hs a)]
    exact sg_op hr hu hs (h4 a List.mem_cons_self)
/-! ### round a corner -/
def rw4s (k : Nat) : List Nat := (List.replicate k [0, 1, 2, 3]).flatten
theorem go_corner {n : Nat} {r u : List Nat} {s : Nat} (hs : s < n) : go n r u [0, 1, 2, 3] s = pa (aro n r u) s := by
  rw [aro_at hs]
  rfl
theorem go_corners {n : Nat} {r u : List Nat} (hr : Pm n r) (hu : Pm n u) : ∀ (k : Nat) {s : Nat}, s < n → go n r u (rw4s k) s = it (aro n r u) k s
  | 0, _, _ => rfl
  | k + 1, s, hs => by
    have e : rw4s (k + 1) = [0, 1, 2, 3] ++ rw4s k := by
      unfold rw4s
      rw [List.replicate_succ, List.flatten_cons]
    rw [e, go_app, go_corner hs, go_corners hr hu k ((aro_pm hr hu).lt hs), it_add _ k 1 s]
    rfl
theorem mul_ruld : ∀ k : Nat, k ≤ 8 → gMulS (.str "ruld") (.int (k : Nat)) = some (.str (sW (rw4s k))) := fun k hk => by
  have e : ∀ k : Nat, k < 9 → Txt.mul (Str.ofString "ruld") (k : Nat) = sW (rw4s k) := by decide +kernel
  have e1 := e k (by omega)
  show (if (Str.ofString "ruld").length ≤ 1000 ∧ ((k : Int)).natAbs ≤ 1000 then some (PyData.str (Txt.mul (Str.ofString "ruld") (k : Int))) else none) = _
  rw [if_pos ⟨by decide, by omega⟩, e1]
theorem rw4s_lt (k : Nat) : ∀ a ∈ rw4s k, a < 4 := fun a ha => by
  obtain ⟨l, hl, ha⟩ := List.mem_flatten.mp ha
  rw [(List.mem_replicate.mp hl).2] at ha
  simp at ha
  omega
theorem rw4s_len (k : Nat) : (rw4s k).length = 4 * k := by
  unfold rw4s
  induction k with
  | zero => rfl
  | succ k ih =>
    rw [List.replicate_succ, List.flatten_cons, List.length_append, ih]
    show 4 + 4 * k = _
    omega
end k13
namespace k13
open PySem PySem.Spec PyProof.Rows L2 VD
theorem rep_nL (l : List Nat) (hl : l.length ≤ 1000) (hb : ∀ x ∈ l, x < 1000) : (gRepr (nL l)).isSome = true := by
  refine gRepr_ok ?_ ?_ ?_
  · show okIs (l.map nI) = true
    exact okIs_map nI l fun x hx => by
      have := hb x hx
      show decide (_ < _) = true
      simp
      omega
  · show wts (l.map nI) + 3 ≤ 1000000
    have := wts_map nI 12 l fun x hx => Nat.le_refl _
    omega
  · show PyData.depthAll (l.map nI) + 1 ≤ 60
    have := depthAll_map nI 0 l fun x hx => Nat.le_refl _
    omega
theorem rep_nT (l : List Nat) (hl : l.length ≤ 1000) (hb : ∀ x ∈ l, x < 1000) : (gRepr (nT l)).isSome = true := by
  refine gRepr_ok ?_ ?_ ?_
  · show okIs (l.map nI) = true
    exact okIs_map nI l fun x hx => by
      have := hb x hx
      show decide (_ < _) = true
      simp
      omega
  · show wts (l.map nI) + 3 ≤ 1000000
    have := wts_map nI 12 l fun x hx => Nat.le_refl _
    omega
  · show PyData.depthAll (l.map nI) + 1 ≤ 60
    have := depthAll_map nI 0 l fun x hx => Nat.le_refl _
    omega
theorem gAdd_sW (l m : List Nat) (h : l.length + m.length ≤ 1000) : gAdd (.str (sW l)) (.str (sW m)) = some (.str (sW (l ++ m))) := by
  show (if (sW l).length + (sW m).length ≤ 1000000 then some (PyData.str (sW l ++ sW m)) else none) = _
  rw [len_sW, len_sW, if_pos (by omega), sW_app]
set_option maxHeartbeats 0 in
theorem r_one {n : Nat} {r u : List Nat} (hr : Pm n r) (hu : Pm n u) (hn : n ≤ 8) (X0 X2 X3 : SS) (l : List Nat) (h4 : ∀ a ∈ l, a < 4) (hl : l.length < 400) :
    (gN 5 (.str (sW l)) [X0, .fz (dW r u), X2, X3, .fz (.int (n : Int)), .un, .un, .un, .un]).bind ((kUn [5, 6, 7] (kSeq (kSet 6 (rvE (kCall q_law_ends (kACons (VD.kV 1) (kACons (VD.kV 5) kANil)))))
    (kSeq (kIfS (kNot (kT (rvE (kCall q_law_like (kACons (kFL (kLC (kR1 (kCons (VD.kV 4) kNil)) (gN 7) kYes (rvE (kCall q_walked (kACons (VD.kV 1) (kACons (VD.kV 7) (kACons (VD.kV 5) kANil))))) [7])) (kACons (VD.kV 6) kANil)))))) (kRet (kC (.bool false))) kNx)
    (kIfS (kNot (kT (rvE (kCall q_law_like (kACons (rvE (kCall q_go_back (kACons (VD.kV 1) (kACons (VD.kV 5) kANil)))) (kACons (k1 gTuple (kFL (kLC (kR1 (kCons (VD.kV 4) kNil)) (gN 7) (kT (k2 gEq (k2v gIx 6 (kB 7)) (kB 7))) (VD.kV 7) [7]))) kANil)))))) (kRet (kC (.bool false))) kNx))))) = some (.nx [X0, .fz (dW r u), X2, X3, .fz (.int (n : Int)), .un, .un, .un, .un]) := by
  have e1 := r_ends hr hu (by omega) l h4
  have e2 := r_go_back hr hu (by omega) l h4 hl
  have hg : ∀ x ∈ (List.range n).map (go n r u l), x < 1000 := fun x hx => by
    obtain ⟨s, hs, rfl⟩ := List.mem_map.mp hx
    have := go_lt hr hu l (List.mem_range.mp hs)
    omega
  have like1 := r_like _ (rep_nL ((List.range n).map (go n r u l)) (by simp; omega) hg)
  have like2 := r_like _ (rep_nT ((List.range n).filter fun s => decide (go n r u l s = s)) (by
    have := List.length_filter_le (fun s => decide (go n r u l s = s)) (List.range n)
    simp at this
    omega) fun x hx => by
      have := List.mem_range.mp (List.mem_filter.mp hx).1
      omega)
  have g1 := lcS_all (tg := gN 7) (te := rvE (kCall q_walked (kACons (VD.kV 1) (kACons (VD.kV 7) (kACons (VD.kV 5) kANil))))) (vs := [7]) (enc := nI) (S := [X0, .fz (dW r u), X2, X3, .fz (.int (n : Int)), .fz (.str (sW l)), .fz (.list (((List.range n).map (go n r u l)).map nI)), .un, .un]) (fun s => nI (go n r u l s)) (List.range n) (by simp; omega) fun s hs => by
    have hs := List.mem_range.mp hs
    refine ⟨[X0, .fz (dW r u), X2, X3, .fz (.int (n : Int)), .fz (.str (sW l)), .fz (.list (((List.range n).map (go n r u l)).map nI)), .fz (.int (s : Int)), .un], [X0, .fz (dW r u), X2, X3, .fz (.int (n : Int)), .fz (.str (sW l)), .fz (.list (((List.range n).map (go n r u l)).map nI)), .fz (.int (s : Int)), .un], by simp, ?_, by simp [unS], by simp [unS]⟩
    have w := r_walked hr hu (by omega) l h4 hl hs
    show _ = some (PyData.int ((go n r u l s : Nat) : Int), _)
    generalize go n r u l s = y at w ⊢
    generalize ((List.range n).map (go n r u l)).map nI = OUT
    generalize dW r u = WW at w ⊢
    generalize sW l = Z at w ⊢
    simp [vw, lentIx, lentAll, backS, w]
  rw [map_nI (go n r u l)] at g1
  have g2 := lcS_map (tg := gN 7) (tt := kT (k2 gEq (k2v gIx 6 (kB 7)) (kB 7))) (te := VD.kV 7) (vs := [7]) (enc := nI) (S := [X0, .fz (dW r u), X2, X3, .fz (.int (n : Int)), .fz (.str (sW l)), .fz (.list (((List.range n).map (go n r u l)).map nI)), .un, .un]) (fun s => decide (go n r u l s = s)) nI (List.range n) [] (by simp; omega) fun s hs => by
    have hs := List.mem_range.mp hs
    refine ⟨[X0, .fz (dW r u), X2, X3, .fz (.int (n : Int)), .fz (.str (sW l)), .fz (.list (((List.range n).map (go n r u l)).map nI)), .fz (.int (s : Int)), .un], [X0, .fz (dW r u), X2, X3, .fz (.int (n : Int)), .fz (.str (sW l)), .fz (.list (((List.range n).map (go n r u l)).map nI)), .fz (.int (s : Int)), .un], by simp, ?_, by simp [unS], fun _ => ⟨[X0, .fz (dW r u), X2, X3, .fz (.int (n : Int)), .fz (.str (sW l)), .fz (.list (((List.range n).map (go n r u l)).map nI)), .fz (.int (s : Int)), .un], by simp, by simp [unS]⟩⟩
    have ha := at_nI ((List.range n).map (go n r u l)) s (by simpa using hs)
    have e : ((List.range n).map (go n r u l)).getD s 0 = go n r u l s := pa_map n _ hs
    rw [e] at ha
    have ec := natcast_eq (go n r u l s) s
    rw [← ec]
    generalize go n r u l s = y at ha ⊢
    generalize ((List.range n).map (go n r u l)).map nI = OUT at ha ⊢
    generalize dW r u = WW
    generalize sW l = Z
    simp [vw, gIx, ha, gEq_int, asBool]
  rw [List.nil_append] at g2
  have hn1 : n < 1152921504606846976 := by omega
  have hr2 := range_nI n
  change q_law_like [.fz (.list (((List.range n).map (go n r u l)).map nI)), .fz (.list (((List.range n).map (go n r u l)).map nI))] = some (_, [.fz (.list (((List.range n).map (go n r u l)).map nI)), .fz (.list (((List.range n).map (go n r u l)).map nI))]) at like1
  change q_law_like [.fz (.tuple (((List.range n).filter fun s => decide (go n r u l s = s)).map nI)), .fz (.tuple (((List.range n).filter fun s => decide (go n r u l s = s)).map nI))] = some (_, [.fz (.tuple (((List.range n).filter fun s => decide (go n r u l s = s)).map nI)), .fz (.tuple (((List.range n).filter fun s => decide (go n r u l s = s)).map nI))]) at like2
  generalize ((List.range n).filter fun s => decide (go n r u l s = s)).map nI = FX at e2 like2 g2
  generalize ((List.range n).map (go n r u l)).map nI = OUT at e1 like1 g1 g2
  generalize (List.range n).map nI = RG at g1 g2 hr2
  generalize dW r u = WW at e1 e2 g1 g2 ⊢
  generalize sW l = Z at e1 e2 g1 g2 ⊢
  simp [vw, lentIx, lentAll, backS, e1, hn1, hr2, unS, g1, like1, asBool, e2, g2, gTuple, like2]
set_option maxHeartbeats 0 in
theorem r_line {n : Nat} {r u : List Nat} (hr : Pm n r) (hu : Pm n u) (hn : n ≤ 8) (X0 X2 X3 X4 X5 X6 X7 : SS) (l : List Nat) (hl : l ∈ rds n (aro n r u)) :
    (gN 8 (nT l) [X0, .fz (dW r u), X2, X3, X4, X5, X6, X7, .un]).bind ((kUn [8] (kSeq (kIfS (kT (k2 gNe (rvE (kCall q_walked (kACons (VD.kV 1) (kACons (k2v gIx 8 (kC (.int 0))) (kACons (k2 gMulS (kC (.str "ruld")) (k1 gLen (kB 8))) kANil))))) (k2v gIx 8 (kC (.int 0))))) (kRet (kC (.bool false))) kNx)
    (kIfS (kAnd (kT (k2 gGt (k1 gLen (kB 8)) (kC (.int 1)))) (kT (k2 gNe (rvE (kCall q_walked (kACons (VD.kV 1) (kACons (k2v gIx 8 (kC (.int 0))) (kACons (kC (.str "ruld")) kANil))))) (k2v gIx 8 (kC (.int 1)))))) (kRet (kC (.bool false))) kNx)))) = some (.nx [X0, .fz (dW r u), X2, X3, X4, X5, X6, X7, .un]) := by
  have ha := aro_pm hr hu
  obtain ⟨s, hs, rfl⟩ := (rds_ok ha).1.line l hl
  obtain ⟨p1, p2, p3, p4⟩ := per_ok ha hs
  have hlen : ((orb n (aro n r u) s).map nI).length = per n (aro n r u) s := by rw [len_nI, orb_len]
  have a0 := at_nI (orb n (aro n r u) s) 0 (by rw [orb_len]; omega)
  have o0 : (orb n (aro n r u) s).getD 0 0 = s := by
    unfold orb
    rw [List.getD_eq_getElem?_getD, List.getElem?_map, List.getElem?_range (by omega)]
    rfl
  rw [o0] at a0
  have a0' : atI ((orb n (aro n r u) s).map nI) 0 = some (.int (s : Int)) := a0
  have w1 := r_walked hr hu (by omega) (rw4s (per n (aro n r u) s)) (rw4s_lt _) (by rw [rw4s_len]; omega) hs
  rw [go_corners hr hu _ hs, p3] at w1
  have hm := mul_ruld (per n (aro n r u) s) (by omega)
  have hlt := Int.ofNat_lt (n := 1) (m := per n (aro n r u) s)
  by_cases c : 1 < per n (aro n r u) s
  · have a1 := at_nI (orb n (aro n r u) s) 1 (by rw [orb_len]; omega)
    have o1 : (orb n (aro n r u) s).getD 1 0 = pa (aro n r u) s := by
      unfold orb
      rw [List.getD_eq_getElem?_getD, List.getElem?_map, List.getElem?_range (by omega)]
      rfl
    rw [o1] at a1
    have a1' : atI ((orb n (aro n r u) s).map nI) 1 = some (.int ((pa (aro n r u) s : Nat) : Int)) := a1
    have w2 := r_walked hr hu (by omega) [0, 1, 2, 3] (by simp) (by simp) hs
    rw [go_corner hs] at w2
    have e : sW [0, 1, 2, 3] = Str.ofString "ruld" := by decide +kernel
    rw [e] at w2
    show (gN 8 (.tuple ((orb n (aro n r u) s).map nI)) _).bind _ = _
    generalize pa (aro n r u) s = y at a1' w2
    generalize (orb n (aro n r u) s).map nI = LD at hlen a0' a1' ⊢
    generalize dW r u = WW at w1 w2 ⊢
    generalize sW (rw4s (per n (aro n r u) s)) = Z at w1 hm
    generalize per n (aro n r u) s = k at *
    have c' : (1 : Int) < (k : Int) := by omega
    simp [vw, gIx, a0', a1', gLen, hlen, hm, lentIx, lentAll, backS, w1, gNe_int, asBool, gGt, gCmp, c, w2, unS]
  · show (gN 8 (.tuple ((orb n (aro n r u) s).map nI)) _).bind _ = _
    generalize (orb n (aro n r u) s).map nI = LD at hlen a0' ⊢
    generalize dW r u = WW at w1 ⊢
    generalize sW (rw4s (per n (aro n r u) s)) = Z at w1 hm
    generalize per n (aro n r u) s = k at *
    have c' : ¬ (1 : Int) < (k : Int) := by omega
    simp [vw, gIx, a0', gLen, hlen, hm, lentIx, lentAll, backS, w1, gNe_int, asBool, gGt, gCmp, c', unS]
set_option maxHeartbeats 0 in
theorem r_right {m : Nat} {L s0 : Int} {cs : List Int} {p : Int} (h : DrawOk m L s0 cs p) (hm : m < 800000) {n : Nat} {r u : List Nat} (hr : Pm n r) (hu : Pm n u) (h1 : 1 ≤ n) (hn : n ≤ 8) :
    ∃ L' p', q_law_right [.ow true (mD L s0 cs p), .fz (dW r u)] = some (.dt (.bool true), [.ow true (mD L' s0 cs p'), .fz (dW r u)]) := by
  obtain ⟨w, L1, p1, w4, wl, d1, hw⟩ := r_walk h (by omega) 30 (by omega)
  obtain ⟨v, L2, p2, v4, vl, d2, hv⟩ := r_walk d1 (by omega) 12 (by omega)
  obtain ⟨s, L3, p3, s0', s1', d3, hs⟩ := r_draw d2 (by omega) (b := (n : Int)) (by omega) (by omega)
  obtain ⟨s, rfl⟩ : ∃ i : Nat, s = (i : Int) := ⟨s.toNat, by omega⟩
  have hsn : s < n := by omega
  have wv4 : ∀ a ∈ w ++ v, a < 4 := fun a ha => by
    rcases List.mem_append.mp ha with ha | ha
    · exact w4 a ha
    · exact v4 a ha
  have wu4 : ∀ a ∈ w ++ und w, a < 4 := fun a ha => by
    rcases List.mem_append.mp ha with ha | ha
    · exact w4 a ha
    · exact und_lt w a ha
  have hun := r_undone w w4 (by omega)
  have ha1 := gAdd_sW w v (by omega)
  have ha2 := gAdd_sW w (und w) (by rw [und_len]; omega)
  have lp := forS_id (tg := gN 5) (body := (kUn [5, 6, 7] (kSeq (kSet 6 (rvE (kCall q_law_ends (kACons (VD.kV 1) (kACons (VD.kV 5) kANil)))))
    (kSeq (kIfS (kNot (kT (rvE (kCall q_law_like (kACons (kFL (kLC (kR1 (kCons (VD.kV 4) kNil)) (gN 7) kYes (rvE (kCall q_walked (kACons (VD.kV 1) (kACons (VD.kV 7) (kACons (VD.kV 5) kANil))))) [7])) (kACons (VD.kV 6) kANil)))))) (kRet (kC (.bool false))) kNx)
    (kIfS (kNot (kT (rvE (kCall q_law_like (kACons (rvE (kCall q_go_back (kACons (VD.kV 1) (kACons (VD.kV 5) kANil)))) (kACons (k1 gTuple (kFL (kLC (kR1 (kCons (VD.kV 4) kNil)) (gN 7) (kT (k2 gEq (k2v gIx 6 (kB 7)) (kB 7))) (VD.kV 7) [7]))) kANil)))))) (kRet (kC (.bool false))) kNx))))) (enc := fun l : List Nat => PyData.str (sW l)) [.ow true (mD L2 s0 cs p2), .fz (dW r u), .fz (.str (sW w)), .fz (.str (sW v)), .fz (.int (n : Int)), .un, .un, .un, .un] [w, v, w ++ v, w ++ und w, []] fun l hl => by
    have hl4 : (∀ a ∈ l, a < 4) ∧ l.length < 400 := by
      simp only [List.mem_cons, List.not_mem_nil, or_false] at hl
      rcases hl with rfl | rfl | rfl | rfl | rfl
      · exact ⟨w4, by omega⟩
      · exact ⟨v4, by omega⟩
      · exact ⟨wv4, by simp; omega⟩
      · exact ⟨wu4, by simp [und_len]; omega⟩
      · exact ⟨(fun a ha => nomatch ha), by simp⟩
    exact r_one hr hu hn _ _ _ l hl4.1 hl4.2
  simp only [List.map_cons, List.map_nil] at lp
  have e0 : sW [] = Str.ofString "" := rfl
  rw [e0] at lp
  have x1 := r_walked hr hu (by omega) w w4 (by omega) hsn
  have gl := go_lt hr hu w hsn
  have x2 := r_walked hr hu (by omega) v v4 (by omega) gl
  have x3 := r_walked hr hu (by omega) (w ++ v) wv4 (by simp; omega) hsn
  rw [go_app] at x3
  have x4 := r_walked hr hu (by omega) (und w) (und_lt w) (by rw [und_len]; omega) gl
  rw [go_und hr hu w w4 hsn] at x4
  have hco := r_corners hr hu (by omega)
  have lp2 := forS_id (tg := gN 8) (body := (kUn [8] (kSeq (kIfS (kT (k2 gNe (rvE (kCall q_walked (kACons (VD.kV 1) (kACons (k2v gIx 8 (kC (.int 0))) (kACons (k2 gMulS (kC (.str "ruld")) (k1 gLen (kB 8))) kANil))))) (k2v gIx 8 (kC (.int 0))))) (kRet (kC (.bool false))) kNx)
    (kIfS (kAnd (kT (k2 gGt (k1 gLen (kB 8)) (kC (.int 1)))) (kT (k2 gNe (rvE (kCall q_walked (kACons (VD.kV 1) (kACons (k2v gIx 8 (kC (.int 0))) (kACons (kC (.str "ruld")) kANil))))) (k2v gIx 8 (kC (.int 1)))))) (kRet (kC (.bool false))) kNx)))) (enc := nT) [.ow true (mD L3 s0 cs p3), .fz (dW r u), .fz (.str (sW w)), .fz (.str (sW v)), .fz (.int (n : Int)), .un, .un, .fz (.int (s : Int)), .un] (rds n (aro n r u)) fun l hl => r_line hr hu hn _ _ _ _ _ _ _ l hl
  have i0 := dW0 r u
  have hrl : (r.map nI).length = n := by rw [len_nI, hr.len]
  refine ⟨L3, p3, ?_⟩
  generalize (rds n (aro n r u)).map nT = RT at hco lp2
  unfold dW at lp lp2 x1 x2 x3 x4 hco ⊢
  generalize hW : [PyData.tuple (r.map nI), PyData.tuple (u.map nI)] = WW at lp lp2 x1 x2 x3 x4 hco i0 ⊢
  generalize r.map nI = RR at i0 hrl
  generalize go n r u v (go n r u w s) = y2 at *
  generalize go n r u w s = y1 at *
  generalize sW (w ++ und w) = ZU at *
  generalize sW (w ++ v) = ZV at *
  generalize sW (und w) = Z3 at *
  generalize sW w = Z1 at *
  generalize sW v = Z2 at *
  have hw' : q_law_walk [.ow true (mD L s0 cs p), .fz (.int 30)] = some (.dt (.str Z1), [.ow true (mD L1 s0 cs p1), .fz (.int 30)]) := hw
  have hv' : q_law_walk [.ow true (mD L1 s0 cs p1), .fz (.int 12)] = some (.dt (.str Z2), [.ow true (mD L2 s0 cs p2), .fz (.int 12)]) := hv
  generalize mD L s0 cs p = M0 at *
  generalize mD L1 s0 cs p1 = M1 at *
  generalize mD L2 s0 cs p2 = M2 at *
  generalize mD L3 s0 cs p3 = M3 at *
  clear hw hv
  simp [q_law_right, bq_law_right, vw, lentIx, lentAll, backS, hw', hv', gIx, i0, gLen, hrl, setAll, setRV, ha1, hun, ha2, itemsD, lp, hs, x1, x2, x3, x4, gNe_int, asBool, hco, lp2, flow, outsOf]
set_option maxHeartbeats 0 in
theorem r_law (ns : List Int) (hl : ns.length ≤ 63) : ∃ outs, q_law [.fz (dL ns)] = some (.dt (.bool true), outs) := by
  have a1 : Pm 3 [1, 0, 2] := by unfold Pm; decide
  have a2 : Pm 3 [2, 1, 0] := by unfold Pm; decide
  have k1 := r_walked a1 a2 (by omega) [0, 1] (by simp) (by simp) (s := 0) (by omega)
  have k2 := r_walked a1 a2 (by omega) [1, 0] (by simp) (by simp) (s := 1) (by omega)
  have k3 := r_go_back a1 a2 (by omega) [0] (by simp) (by simp)
  have k4 := r_go_back a1 a2 (by omega) [1, 1] (by simp) (by simp)
  have k5 := r_go_back a1 a2 (by omega) [0, 1, 2, 3] (by simp) (by simp)
  rw [show go 3 [1, 0, 2] [2, 1, 0] [0, 1] 0 = 1 by decide +kernel, show sW [0, 1] = Str.ofString "ru" by decide +kernel] at k1
  rw [show go 3 [1, 0, 2] [2, 1, 0] [1, 0] 1 = 0 by decide +kernel, show sW [1, 0] = Str.ofString "ur" by decide +kernel] at k2
  rw [show ((List.range 3).filter fun s => decide (go 3 [1, 0, 2] [2, 1, 0] [0] s = s)) = [2] by decide +kernel, show sW [0] = Str.ofString "r" by decide +kernel] at k3
  rw [show ((List.range 3).filter fun s => decide (go 3 [1, 0, 2] [2, 1, 0] [1, 1] s = s)) = [0, 1, 2] by decide +kernel, show sW [1, 1] = Str.ofString "uu" by decide +kernel] at k4
  rw [show ((List.range 3).filter fun s => decide (go 3 [1, 0, 2] [2, 1, 0] [0, 1, 2, 3] s = s)) = [] by decide +kernel, show sW [0, 1, 2, 3] = Str.ofString "ruld" by decide +kernel] at k5
  simp only [dW, nI, List.map_cons, List.map_nil, Int.natCast_zero, Int.natCast_one, Int.cast_ofNat_Int] at k1 k2 k3 k4 k5
  have like0 := r_like (.list [.int 1, .int 0, .tuple [.int 2], .tuple [.int 0, .int 1, .int 2], .tuple []]) (gRepr_ok (by decide +kernel) (by decide +kernel) (by decide +kernel))
  have f := forS_id (tg := gN 3) (body := (kUn [3, 4] (kSeq (kSetF 4 (rvF (kCall q_law_begun (kACons (VD.kV 0) (kACons (VD.kV 3) kANil)))))
    (kIfS (kNot (kT (rvE (kCall q_law_right (kALent 4 (kACons (rvE (kCall q_law_world (kALent 4 (kACons (kC (.int 8)) kANil)))) kANil)))))) (kRet (kC (.bool false))) kNx)))) (enc := fun i : Nat => PyData.int (i : Int)) [.fz (dL ns), .fz (.tuple [.tuple [.int 1, .int 0, .int 2], .tuple [.int 2, .int 1, .int 0]]), .fz (.list [.int 1, .int 0, .tuple [.int 2], .tuple [.int 0, .int 1, .int 2], .tuple []]), .un, .un] (List.range (max 2 (min ns.length 5))) fun k hk => by
    have hk := List.mem_range.mp hk
    obtain ⟨L, s, cs, ok0, hb⟩ := r_begun ns (by omega) (k : Int) (by omega) (by omega)
    obtain ⟨n, r, u, L', p', n1, n2, hr, hu, ok1, hw⟩ := r_world ok0 (by omega) 8 (by omega) (by omega)
    obtain ⟨L2, p2, hrt⟩ := r_right ok1 (by omega) hr hu n1 (by omega)
    have hw' : q_law_world [.ow true (mD L s cs 0), .fz (.int 8)] = some (.dt (dW r u), [.ow true (mD L' s cs p'), .fz (.int 8)]) := hw
    generalize dW r u = WW at hw' hrt
    generalize mD L s cs 0 = M0 at *
    generalize mD L' s cs p' = M1 at *
    generalize mD L2 s cs p2 = M2 at *
    simp [vw, lentIx, lentAll, backS, hb, hw', hrt, asBool, unS]
  have e0 : gMin2 (.int (ns.length : Nat)) (.int 5) = some (.int ((min ns.length 5 : Nat) : Int)) := by
    unfold gMin2
    simp
    omega
  have e1 : gMax2 (.int 2) (.int ((min ns.length 5 : Nat) : Int)) = some (.int ((max 2 (min ns.length 5) : Nat) : Int)) := by
    unfold gMax2
    simp
    omega
  have e2 : max 2 (min ns.length 5) < 1152921504606846976 := by omega
  have e3 : rangeD 0 (max 2 (min ns.length 5)) = (List.range (max 2 (min ns.length 5))).map fun i : Nat => PyData.int (i : Int) := range_nI _
  generalize max 2 (min ns.length 5) = N at f e1 e2 e3
  generalize ((min ns.length 5 : Nat) : Int) = M at e0 e1
  refine ⟨[.fz (dL ns)], ?_⟩
  simp [q_law, bq_law, vw, setAll, setRV, lentIx, lentAll, backS, k1, k2, k3, k4, k5, gAdd, like0, asBool, gLen, e0, e1, e2, e3, f, flow, outsOf]
end k13
namespace k13
open PySem PySem.Spec PyProof.Rows L2 VD
theorem all_mk {l : PySem.W.OpenLaw} {w : World} {K : PySem.W.Frag} {h : Heap} {mg : Str → Option Value} {fa : Addr} (X : K.In h) (G : h.Ns mainGlobals mg) (hfa : mg "law" = some (.ref fa))
    {f0 : Addr} {od0 an0 : Option Addr} {sl0 : Array (Option Value)} {oc0 kV0 dc0 pm0 cd0 ct0 : Value}
    (a0 : PySem.W.nsIn K mainGlobals "need_word" = some (some (.ref f0))) (l0 : K.lookup f0 = some ⟨oc0, od0, .func (PySem.W.fnOf "need_word" "need_word" (defArgs stq_need_word) (defBody stq_need_word) (defScope stq_need_word) .none kV0 dc0 pm0 an0 cd0 ct0), sl0⟩) (c0 : PySem.W.codeIn K cd0 "need_word" = true) (k0 : PySem.W.keepIn K (.ref f0) = true)
    {f1 : Addr} {od1 an1 : Option Addr} {sl1 : Array (Option Value)} {oc1 kV1 dc1 pm1 cd1 ct1 : Value}
    (a1 : PySem.W.nsIn K mainGlobals "back_of" = some (some (.ref f1))) (l1 : K.lookup f1 = some ⟨oc1, od1, .func (PySem.W.fnOf "back_of" "back_of" (defArgs stq_back_of) (defBody stq_back_of) (defScope stq_back_of) .none kV1 dc1 pm1 an1 cd1 ct1), sl1⟩) (c1 : PySem.W.codeIn K cd1 "back_of" = true) (k1 : PySem.W.keepIn K (.ref f1) = true)
    {f2 : Addr} {od2 an2 : Option Addr} {sl2 : Array (Option Value)} {oc2 kV2 dc2 pm2 cd2 ct2 : Value}
    (a2 : PySem.W.nsIn K mainGlobals "led_by" = some (some (.ref f2))) (l2 : K.lookup f2 = some ⟨oc2, od2, .func (PySem.W.fnOf "led_by" "led_by" (defArgs stq_led_by) (defBody stq_led_by) (defScope stq_led_by) .none kV2 dc2 pm2 an2 cd2 ct2), sl2⟩) (c2 : PySem.W.codeIn K cd2 "led_by" = true) (k2 : PySem.W.keepIn K (.ref f2) = true)
    {f3 : Addr} {od3 an3 : Option Addr} {sl3 : Array (Option Value)} {oc3 kV3 dc3 pm3 cd3 ct3 : Value}
    (a3 : PySem.W.nsIn K mainGlobals "walked" = some (some (.ref f3))) (l3 : K.lookup f3 = some ⟨oc3, od3, .func (PySem.W.fnOf "walked" "walked" (defArgs stq_walked) (defBody stq_walked) (defScope stq_walked) .none kV3 dc3 pm3 an3 cd3 ct3), sl3⟩) (c3 : PySem.W.codeIn K cd3 "walked" = true) (k3 : PySem.W.keepIn K (.ref f3) = true)
    {f4 : Addr} {od4 an4 : Option Addr} {sl4 : Array (Option Value)} {oc4 kV4 dc4 pm4 cd4 ct4 : Value}
    (a4 : PySem.W.nsIn K mainGlobals "go_back" = some (some (.ref f4))) (l4 : K.lookup f4 = some ⟨oc4, od4, .func (PySem.W.fnOf "go_back" "go_back" (defArgs stq_go_back) (defBody stq_go_back) (defScope stq_go_back) .none kV4 dc4 pm4 an4 cd4 ct4), sl4⟩) (c4 : PySem.W.codeIn K cd4 "go_back" = true) (k4 : PySem.W.keepIn K (.ref f4) = true)
    {f5 : Addr} {od5 an5 : Option Addr} {sl5 : Array (Option Value)} {oc5 kV5 dc5 pm5 cd5 ct5 : Value}
    (a5 : PySem.W.nsIn K mainGlobals "_law_like" = some (some (.ref f5))) (l5 : K.lookup f5 = some ⟨oc5, od5, .func (PySem.W.fnOf "_law_like" "_law_like" (defArgs stq_law_like) (defBody stq_law_like) (defScope stq_law_like) .none kV5 dc5 pm5 an5 cd5 ct5), sl5⟩) (c5 : PySem.W.codeIn K cd5 "_law_like" = true) (k5 : PySem.W.keepIn K (.ref f5) = true)
    {f6 : Addr} {od6 an6 : Option Addr} {sl6 : Array (Option Value)} {oc6 kV6 dc6 pm6 cd6 ct6 : Value}
    (a6 : PySem.W.nsIn K mainGlobals "_law_begun" = some (some (.ref f6))) (l6 : K.lookup f6 = some ⟨oc6, od6, .func (PySem.W.fnOf "_law_begun" "_law_begun" (defArgs stq_law_begun) (defBody stq_law_begun) (defScope stq_law_begun) .none kV6 dc6 pm6 an6 cd6 ct6), sl6⟩) (c6 : PySem.W.codeIn K cd6 "_law_begun" = true) (k6 : PySem.W.keepIn K (.ref f6) = true)
    {f7 : Addr} {od7 an7 : Option Addr} {sl7 : Array (Option Value)} {oc7 kV7 dc7 pm7 cd7 ct7 : Value}
    (a7 : PySem.W.nsIn K mainGlobals "_law_draw" = some (some (.ref f7))) (l7 : K.lookup f7 = some ⟨oc7, od7, .func (PySem.W.fnOf "_law_draw" "_law_draw" (defArgs stq_law_draw) (defBody stq_law_draw) (defScope stq_law_draw) .none kV7 dc7 pm7 an7 cd7 ct7), sl7⟩) (c7 : PySem.W.codeIn K cd7 "_law_draw" = true) (k7 : PySem.W.keepIn K (.ref f7) = true)
    {f8 : Addr} {od8 an8 : Option Addr} {sl8 : Array (Option Value)} {oc8 kV8 dc8 pm8 cd8 ct8 : Value}
    (a8 : PySem.W.nsIn K mainGlobals "turns_in" = some (some (.ref f8))) (l8 : K.lookup f8 = some ⟨oc8, od8, .func (PySem.W.fnOf "turns_in" "turns_in" (defArgs stq_turns_in) (defBody stq_turns_in) (defScope stq_turns_in) .none kV8 dc8 pm8 an8 cd8 ct8), sl8⟩) (c8 : PySem.W.codeIn K cd8 "turns_in" = true) (k8 : PySem.W.keepIn K (.ref f8) = true)
    {f9 : Addr} {od9 an9 : Option Addr} {sl9 : Array (Option Value)} {oc9 kV9 dc9 pm9 cd9 ct9 : Value}
    (a9 : PySem.W.nsIn K mainGlobals "around" = some (some (.ref f9))) (l9 : K.lookup f9 = some ⟨oc9, od9, .func (PySem.W.fnOf "around" "around" (defArgs stq_around) (defBody stq_around) (defScope stq_around) .none kV9 dc9 pm9 an9 cd9 ct9), sl9⟩) (c9 : PySem.W.codeIn K cd9 "around" = true) (k9 : PySem.W.keepIn K (.ref f9) = true)
    {f10 : Addr} {od10 an10 : Option Addr} {sl10 : Array (Option Value)} {oc10 kV10 dc10 pm10 cd10 ct10 : Value}
    (a10 : PySem.W.nsIn K mainGlobals "corners" = some (some (.ref f10))) (l10 : K.lookup f10 = some ⟨oc10, od10, .func (PySem.W.fnOf "corners" "corners" (defArgs stq_corners) (defBody stq_corners) (defScope stq_corners) .none kV10 dc10 pm10 an10 cd10 ct10), sl10⟩) (c10 : PySem.W.codeIn K cd10 "corners" = true) (k10 : PySem.W.keepIn K (.ref f10) = true)
    {f11 : Addr} {od11 an11 : Option Addr} {sl11 : Array (Option Value)} {oc11 kV11 dc11 pm11 cd11 ct11 : Value}
    (a11 : PySem.W.nsIn K mainGlobals "_law_of" = some (some (.ref f11))) (l11 : K.lookup f11 = some ⟨oc11, od11, .func (PySem.W.fnOf "_law_of" "_law_of" (defArgs stq_law_of) (defBody stq_law_of) (defScope stq_law_of) .none kV11 dc11 pm11 an11 cd11 ct11), sl11⟩) (c11 : PySem.W.codeIn K cd11 "_law_of" = true) (k11 : PySem.W.keepIn K (.ref f11) = true)
    {f12 : Addr} {od12 an12 : Option Addr} {sl12 : Array (Option Value)} {oc12 kV12 dc12 pm12 cd12 ct12 : Value}
    (a12 : PySem.W.nsIn K mainGlobals "_law_walk" = some (some (.ref f12))) (l12 : K.lookup f12 = some ⟨oc12, od12, .func (PySem.W.fnOf "_law_walk" "_law_walk" (defArgs stq_law_walk) (defBody stq_law_walk) (defScope stq_law_walk) .none kV12 dc12 pm12 an12 cd12 ct12), sl12⟩) (c12 : PySem.W.codeIn K cd12 "_law_walk" = true) (k12 : PySem.W.keepIn K (.ref f12) = true)
    {f13 : Addr} {od13 an13 : Option Addr} {sl13 : Array (Option Value)} {oc13 kV13 dc13 pm13 cd13 ct13 : Value}
    (a13 : PySem.W.nsIn K mainGlobals "_law_back" = some (some (.ref f13))) (l13 : K.lookup f13 = some ⟨oc13, od13, .func (PySem.W.fnOf "_law_back" "_law_back" (defArgs stq_law_back) (defBody stq_law_back) (defScope stq_law_back) .none kV13 dc13 pm13 an13 cd13 ct13), sl13⟩) (c13 : PySem.W.codeIn K cd13 "_law_back" = true) (k13 : PySem.W.keepIn K (.ref f13) = true)
    {f14 : Addr} {od14 an14 : Option Addr} {sl14 : Array (Option Value)} {oc14 kV14 dc14 pm14 cd14 ct14 : Value}
    (a14 : PySem.W.nsIn K mainGlobals "_law_ends" = some (some (.ref f14))) (l14 : K.lookup f14 = some ⟨oc14, od14, .func (PySem.W.fnOf "_law_ends" "_law_ends" (defArgs stq_law_ends) (defBody stq_law_ends) (defScope stq_law_ends) .none kV14 dc14 pm14 an14 cd14 ct14), sl14⟩) (c14 : PySem.W.codeIn K cd14 "_law_ends" = true) (k14 : PySem.W.keepIn K (.ref f14) = true)
    {f15 : Addr} {od15 an15 : Option Addr} {sl15 : Array (Option Value)} {oc15 kV15 dc15 pm15 cd15 ct15 : Value}
    (a15 : PySem.W.nsIn K mainGlobals "_law_undone" = some (some (.ref f15))) (l15 : K.lookup f15 = some ⟨oc15, od15, .func (PySem.W.fnOf "_law_undone" "_law_undone" (defArgs stq_law_undone) (defBody stq_law_undone) (defScope stq_law_undone) .none kV15 dc15 pm15 an15 cd15 ct15), sl15⟩) (c15 : PySem.W.codeIn K cd15 "_law_undone" = true) (k15 : PySem.W.keepIn K (.ref f15) = true)
    {f16 : Addr} {od16 an16 : Option Addr} {sl16 : Array (Option Value)} {oc16 kV16 dc16 pm16 cd16 ct16 : Value}
    (a16 : PySem.W.nsIn K mainGlobals "_law_right" = some (some (.ref f16))) (l16 : K.lookup f16 = some ⟨oc16, od16, .func (PySem.W.fnOf "_law_right" "_law_right" (defArgs stq_law_right) (defBody stq_law_right) (defScope stq_law_right) .none kV16 dc16 pm16 an16 cd16 ct16), sl16⟩) (c16 : PySem.W.codeIn K cd16 "_law_right" = true) (k16 : PySem.W.keepIn K (.ref f16) = true)
    {f17 : Addr} {od17 an17 : Option Addr} {sl17 : Array (Option Value)} {oc17 kV17 dc17 pm17 cd17 ct17 : Value}
    (a17 : PySem.W.nsIn K mainGlobals "_law_flat" = some (some (.ref f17))) (l17 : K.lookup f17 = some ⟨oc17, od17, .func (PySem.W.fnOf "_law_flat" "_law_flat" (defArgs stq_law_flat) (defBody stq_law_flat) (defScope stq_law_flat) .none kV17 dc17 pm17 an17 cd17 ct17), sl17⟩) (c17 : PySem.W.codeIn K cd17 "_law_flat" = true) (k17 : PySem.W.keepIn K (.ref f17) = true)
    {f18 : Addr} {od18 an18 : Option Addr} {sl18 : Array (Option Value)} {oc18 kV18 dc18 pm18 cd18 ct18 : Value}
    (a18 : PySem.W.nsIn K mainGlobals "_law_corner_world" = some (some (.ref f18))) (l18 : K.lookup f18 = some ⟨oc18, od18, .func (PySem.W.fnOf "_law_corner_world" "_law_corner_world" (defArgs stq_law_corner_world) (defBody stq_law_corner_world) (defScope stq_law_corner_world) .none kV18 dc18 pm18 an18 cd18 ct18), sl18⟩) (c18 : PySem.W.codeIn K cd18 "_law_corner_world" = true) (k18 : PySem.W.keepIn K (.ref f18) = true)
    {f19 : Addr} {od19 an19 : Option Addr} {sl19 : Array (Option Value)} {oc19 kV19 dc19 pm19 cd19 ct19 : Value}
    (a19 : PySem.W.nsIn K mainGlobals "_law_known_world" = some (some (.ref f19))) (l19 : K.lookup f19 = some ⟨oc19, od19, .func (PySem.W.fnOf "_law_known_world" "_law_known_world" (defArgs stq_law_known_world) (defBody stq_law_known_world) (defScope stq_law_known_world) .none kV19 dc19 pm19 an19 cd19 ct19), sl19⟩) (c19 : PySem.W.codeIn K cd19 "_law_known_world" = true) (k19 : PySem.W.keepIn K (.ref f19) = true)
    {f20 : Addr} {od20 an20 : Option Addr} {sl20 : Array (Option Value)} {oc20 kV20 dc20 pm20 cd20 ct20 : Value}
    (a20 : PySem.W.nsIn K mainGlobals "_law_shuffled" = some (some (.ref f20))) (l20 : K.lookup f20 = some ⟨oc20, od20, .func (PySem.W.fnOf "_law_shuffled" "_law_shuffled" (defArgs stq_law_shuffled) (defBody stq_law_shuffled) (defScope stq_law_shuffled) .none kV20 dc20 pm20 an20 cd20 ct20), sl20⟩) (c20 : PySem.W.codeIn K cd20 "_law_shuffled" = true) (k20 : PySem.W.keepIn K (.ref f20) = true)
    {f21 : Addr} {od21 an21 : Option Addr} {sl21 : Array (Option Value)} {oc21 kV21 dc21 pm21 cd21 ct21 : Value}
    (a21 : PySem.W.nsIn K mainGlobals "_law_reached" = some (some (.ref f21))) (l21 : K.lookup f21 = some ⟨oc21, od21, .func (PySem.W.fnOf "_law_reached" "_law_reached" (defArgs stq_law_reached) (defBody stq_law_reached) (defScope stq_law_reached) .none kV21 dc21 pm21 an21 cd21 ct21), sl21⟩) (c21 : PySem.W.codeIn K cd21 "_law_reached" = true) (k21 : PySem.W.keepIn K (.ref f21) = true)
    {f22 : Addr} {od22 an22 : Option Addr} {sl22 : Array (Option Value)} {oc22 kV22 dc22 pm22 cd22 ct22 : Value}
    (a22 : PySem.W.nsIn K mainGlobals "_law_renamed" = some (some (.ref f22))) (l22 : K.lookup f22 = some ⟨oc22, od22, .func (PySem.W.fnOf "_law_renamed" "_law_renamed" (defArgs stq_law_renamed) (defBody stq_law_renamed) (defScope stq_law_renamed) .none kV22 dc22 pm22 an22 cd22 ct22), sl22⟩) (c22 : PySem.W.codeIn K cd22 "_law_renamed" = true) (k22 : PySem.W.keepIn K (.ref f22) = true)
    {f23 : Addr} {od23 an23 : Option Addr} {sl23 : Array (Option Value)} {oc23 kV23 dc23 pm23 cd23 ct23 : Value}
    (a23 : PySem.W.nsIn K mainGlobals "_law_world" = some (some (.ref f23))) (l23 : K.lookup f23 = some ⟨oc23, od23, .func (PySem.W.fnOf "_law_world" "_law_world" (defArgs stq_law_world) (defBody stq_law_world) (defScope stq_law_world) .none kV23 dc23 pm23 an23 cd23 ct23), sl23⟩) (c23 : PySem.W.codeIn K cd23 "_law_world" = true) (k23 : PySem.W.keepIn K (.ref f23) = true)
    {f24 : Addr} {od24 an24 : Option Addr} {sl24 : Array (Option Value)} {oc24 kV24 dc24 pm24 cd24 ct24 : Value}
    (a24 : PySem.W.nsIn K mainGlobals "law" = some (some (.ref f24))) (l24 : K.lookup f24 = some ⟨oc24, od24, .func (PySem.W.fnOf "law" "law" (defArgs stq_law) (defBody stq_law) (defScope stq_law) .none kV24 dc24 pm24 an24 cd24 ct24), sl24⟩) (c24 : PySem.W.codeIn K cd24 "law" = true) (k24 : PySem.W.keepIn K (.ref f24) = true)
    (z0 : PySem.W.nsIn K mainGlobals "enumerate" = some none)
    (z1 : PySem.W.nsIn K mainGlobals "int" = some none)
    (z2 : PySem.W.nsIn K mainGlobals "isinstance" = some none)
    (z3 : PySem.W.nsIn K mainGlobals "len" = some none)
    (z4 : PySem.W.nsIn K mainGlobals "list" = some none)
    (z5 : PySem.W.nsIn K mainGlobals "max" = some none)
    (z6 : PySem.W.nsIn K mainGlobals "min" = some none)
    (z7 : PySem.W.nsIn K mainGlobals "range" = some none)
    (z8 : PySem.W.nsIn K mainGlobals "repr" = some none)
    (z9 : PySem.W.nsIn K mainGlobals "str" = some none)
    (z10 : PySem.W.nsIn K mainGlobals "tuple" = some none)
    {tk0 : Tok} (cc0 : PySem.W.nsIn K mainGlobals "LETTERS" = some (some (.str "ruld" tk0)))
    {tk1 : Tok} (cc1 : PySem.W.nsIn K mainGlobals "MOST_LETTERS" = some (some (.int 400 tk1)))
    : ∃ fd : FuncData, (∀ (s : Shared) (v : Value), BindsTo s fd ⟨[v], []⟩ [("script", v)]) ∧ ∀ base : Heap, K.In base → base.Ns mainGlobals mg → FnG l.prog w K mg base 5 fa fd ["script"] (spD l.prog w K q_law) := by
  have e := hfa.symm.trans (PySem.W.mg_of X G a24)
  cases e
  have F0 := fun_mk (st := stq_need_word) l0 c0 k0
  have F1 := fun_mk (st := stq_back_of) l1 c1 k1
  have F2 := fun_mk (st := stq_led_by) l2 c2 k2
  have F3 := fun_mk (st := stq_walked) l3 c3 k3
  have F4 := fun_mk (st := stq_go_back) l4 c4 k4
  have F5 := fun_mk (st := stq_law_like) l5 c5 k5
  have F6 := fun_mk (st := stq_law_begun) l6 c6 k6
  have F7 := fun_mk (st := stq_law_draw) l7 c7 k7
  have F8 := fun_mk (st := stq_turns_in) l8 c8 k8
  have F9 := fun_mk (st := stq_around) l9 c9 k9
  have F10 := fun_mk (st := stq_corners) l10 c10 k10
  have F11 := fun_mk (st := stq_law_of) l11 c11 k11
  have F12 := fun_mk (st := stq_law_walk) l12 c12 k12
  have F13 := fun_mk (st := stq_law_back) l13 c13 k13
  have F14 := fun_mk (st := stq_law_ends) l14 c14 k14
  have F15 := fun_mk (st := stq_law_undone) l15 c15 k15
  have F16 := fun_mk (st := stq_law_right) l16 c16 k16
  have F17 := fun_mk (st := stq_law_flat) l17 c17 k17
  have F18 := fun_mk (st := stq_law_corner_world) l18 c18 k18
  have F19 := fun_mk (st := stq_law_known_world) l19 c19 k19
  have F20 := fun_mk (st := stq_law_shuffled) l20 c20 k20
  have F21 := fun_mk (st := stq_law_reached) l21 c21 k21
  have F22 := fun_mk (st := stq_law_renamed) l22 c22 k22
  have F23 := fun_mk (st := stq_law_world) l23 c23 k23
  have F24 := fun_mk (st := stq_law) l24 c24 k24
  let T : Facts K mg := {
    aq_need_word := f0, dq_need_word := _, Fq_need_word := F0, mq_need_word := PySem.W.mg_of X G a0, bq_need_word := (F0.binds (ps := ["value", "letters"]) fun _ _ _ _ _ _ us hl => match us, hl with | [_, _], _ => rfl),
    aq_back_of := f1, dq_back_of := _, Fq_back_of := F1, mq_back_of := PySem.W.mg_of X G a1, bq_back_of := (F1.binds (ps := ["listing"]) fun _ _ _ _ _ _ us hl => match us, hl with | [_], _ => rfl),
    aq_led_by := f2, dq_led_by := _, Fq_led_by := F2, mq_led_by := PySem.W.mg_of X G a2, bq_led_by := (F2.binds (ps := ["world"]) fun _ _ _ _ _ _ us hl => match us, hl with | [_], _ => rfl),
    aq_walked := f3, dq_walked := _, Fq_walked := F3, mq_walked := PySem.W.mg_of X G a3, bq_walked := (F3.binds (ps := ["world", "square", "walk"]) fun _ _ _ _ _ _ us hl => match us, hl with | [_, _, _], _ => rfl),
    aq_go_back := f4, dq_go_back := _, Fq_go_back := F4, mq_go_back := PySem.W.mg_of X G a4, bq_go_back := (F4.binds (ps := ["world", "walk"]) fun _ _ _ _ _ _ us hl => match us, hl with | [_, _], _ => rfl),
    aq_law_like := f5, dq_law_like := _, Fq_law_like := F5, mq_law_like := PySem.W.mg_of X G a5, bq_law_like := (F5.binds (ps := ["told", "due"]) fun _ _ _ _ _ _ us hl => match us, hl with | [_, _], _ => rfl),
    aq_law_begun := f6, dq_law_begun := _, Fq_law_begun := F6, mq_law_begun := PySem.W.mg_of X G a6, bq_law_begun := (F6.binds (ps := ["script", "k"]) fun _ _ _ _ _ _ us hl => match us, hl with | [_, _], _ => rfl),
    aq_law_draw := f7, dq_law_draw := _, Fq_law_draw := F7, mq_law_draw := PySem.W.mg_of X G a7, bq_law_draw := (F7.binds (ps := ["m", "bound"]) fun _ _ _ _ _ _ us hl => match us, hl with | [_, _], _ => rfl),
    aq_turns_in := f8, dq_turns_in := _, Fq_turns_in := F8, mq_turns_in := PySem.W.mg_of X G a8, bq_turns_in := (F8.binds (ps := ["listing"]) fun _ _ _ _ _ _ us hl => match us, hl with | [_], _ => rfl),
    aq_around := f9, dq_around := _, Fq_around := F9, mq_around := PySem.W.mg_of X G a9, bq_around := (F9.binds (ps := ["world"]) fun _ _ _ _ _ _ us hl => match us, hl with | [_], _ => rfl),
    aq_corners := f10, dq_corners := _, Fq_corners := F10, mq_corners := PySem.W.mg_of X G a10, bq_corners := (F10.binds (ps := ["world"]) fun _ _ _ _ _ _ us hl => match us, hl with | [_], _ => rfl),
    aq_law_of := f11, dq_law_of := _, Fq_law_of := F11, mq_law_of := PySem.W.mg_of X G a11, bq_law_of := (F11.binds (ps := ["m", "some"]) fun _ _ _ _ _ _ us hl => match us, hl with | [_, _], _ => rfl),
    aq_law_walk := f12, dq_law_walk := _, Fq_law_walk := F12, mq_law_walk := PySem.W.mg_of X G a12, bq_law_walk := (F12.binds (ps := ["m", "most"]) fun _ _ _ _ _ _ us hl => match us, hl with | [_, _], _ => rfl),
    aq_law_back := f13, dq_law_back := _, Fq_law_back := F13, mq_law_back := PySem.W.mg_of X G a13, bq_law_back := (F13.binds (ps := ["row"]) fun _ _ _ _ _ _ us hl => match us, hl with | [_], _ => rfl),
    aq_law_ends := f14, dq_law_ends := _, Fq_law_ends := F14, mq_law_ends := PySem.W.mg_of X G a14, bq_law_ends := (F14.binds (ps := ["world", "walk"]) fun _ _ _ _ _ _ us hl => match us, hl with | [_, _], _ => rfl),
    aq_law_undone := f15, dq_law_undone := _, Fq_law_undone := F15, mq_law_undone := PySem.W.mg_of X G a15, bq_law_undone := (F15.binds (ps := ["walk"]) fun _ _ _ _ _ _ us hl => match us, hl with | [_], _ => rfl),
    aq_law_right := f16, dq_law_right := _, Fq_law_right := F16, mq_law_right := PySem.W.mg_of X G a16, bq_law_right := (F16.binds (ps := ["m", "world"]) fun _ _ _ _ _ _ us hl => match us, hl with | [_, _], _ => rfl),
    aq_law_flat := f17, dq_law_flat := _, Fq_law_flat := F17, mq_law_flat := PySem.W.mg_of X G a17, bq_law_flat := (F17.binds (ps := ["a", "b", "d"]) fun _ _ _ _ _ _ us hl => match us, hl with | [_, _, _], _ => rfl),
    aq_law_corner_world := f18, dq_law_corner_world := _, Fq_law_corner_world := F18, mq_law_corner_world := PySem.W.mg_of X G a18, bq_law_corner_world := (F18.binds (ps := ["wide", "high"]) fun _ _ _ _ _ _ us hl => match us, hl with | [_, _], _ => rfl),
    aq_law_known_world := f19, dq_law_known_world := _, Fq_law_known_world := F19, mq_law_known_world := PySem.W.mg_of X G a19, bq_law_known_world := (F19.binds (ps := ["m"]) fun _ _ _ _ _ _ us hl => match us, hl with | [_], _ => rfl),
    aq_law_shuffled := f20, dq_law_shuffled := _, Fq_law_shuffled := F20, mq_law_shuffled := PySem.W.mg_of X G a20, bq_law_shuffled := (F20.binds (ps := ["m", "count"]) fun _ _ _ _ _ _ us hl => match us, hl with | [_, _], _ => rfl),
    aq_law_reached := f21, dq_law_reached := _, Fq_law_reached := F21, mq_law_reached := PySem.W.mg_of X G a21, bq_law_reached := (F21.binds (ps := ["right_so", "up_so"]) fun _ _ _ _ _ _ us hl => match us, hl with | [_, _], _ => rfl),
    aq_law_renamed := f22, dq_law_renamed := _, Fq_law_renamed := F22, mq_law_renamed := PySem.W.mg_of X G a22, bq_law_renamed := (F22.binds (ps := ["world", "listing"]) fun _ _ _ _ _ _ us hl => match us, hl with | [_, _], _ => rfl),
    aq_law_world := f23, dq_law_world := _, Fq_law_world := F23, mq_law_world := PySem.W.mg_of X G a23, bq_law_world := (F23.binds (ps := ["m", "most"]) fun _ _ _ _ _ _ us hl => match us, hl with | [_, _], _ => rfl),
    aq_law := fa, dq_law := _, Fq_law := F24, mq_law := PySem.W.mg_of X G a24, bq_law := (F24.binds (ps := ["script"]) fun _ _ _ _ _ _ us hl => match us, hl with | [_], _ => rfl),
    z_enumerate := PySem.W.mg_none_of X G z0,
    z_int := PySem.W.mg_none_of X G z1,
    z_isinstance := PySem.W.mg_none_of X G z2,
    z_len := PySem.W.mg_none_of X G z3,
    z_list := PySem.W.mg_none_of X G z4,
    z_max := PySem.W.mg_none_of X G z5,
    z_min := PySem.W.mg_none_of X G z6,
    z_range := PySem.W.mg_none_of X G z7,
    z_repr := PySem.W.mg_none_of X G z8,
    z_str := PySem.W.mg_none_of X G z9,
    z_tuple := PySem.W.mg_none_of X G z10,
    c_LETTERS := ⟨_, PySem.W.mg_of X G cc0, ⟨_, rfl⟩⟩,
    c_MOST_LETTERS := ⟨_, PySem.W.mg_of X G cc1, ⟨_, rfl⟩⟩ }
  exact ⟨_, fun s v => .of_eq rfl, fun base _ _ => okq_law T⟩
theorem hid_no (H : Hp) : hid (fun _ => False) H = H := by
  funext a
  unfold hid
  exact if_neg id
theorem scr_int (K : PySem.W.Frag) (H : Hp) : ∀ ns : List Int, VD.DpAll K H (ns.map V.int) (ns.map .int)
  | [] => .nil
  | i :: r => .cons (.int i) (scr_int K H r)
theorem at_script {P : Program} {w : World} {K : PySem.W.Frag} {H : Hp} {a : Addr} {ns : List Int} (hS : SqL K H a (ns.map V.int)) (e : ∃ outs, q_law [.fz (.list (ns.map .int))] = some (.dt (.bool true), outs)) : spD P w K q_law [.ref a] H (fun v _ => v = .bl true) fun _ _ _ => False := by
  obtain ⟨outs, e⟩ := e
  refine ⟨fun _ => False, [.fz (.list (ns.map .int))], .dt (.bool true), outs, ⟨rfl, fun i s h => ?_, fun i j a l o l' o' hij h1 h2 => ?_, fun a h => absurd h id⟩, e, fun v H' _ d => ?_⟩
  · match i, h with
    | 0, h =>
      cases h
      refine ⟨.ref a, rfl, ?_⟩
      rw [hid_no]
      exact .lst hS (scr_int K H ns)
  · match i, j, h1, h2 with
    | 0, _, h1, _ => cases h1
  · cases d
    rfl
end k13
open PySem PySem.W PyProof.Rows
set_option maxHeartbeats 0 in
theorem PySem.Challenge.cw_squareworlds_k13_walks_done_holds : PySem.Challenge.rw_squareworlds_k13_walks_done.Holds := by
  w_on; o_law; k_head; (case hw => w_witness2)
  k_fill
  refine VD.walk_g (l := PySem.Challenge.rw_squareworlds_k13_walks_done) (n := 63) (k := 5) (x := "script") (sp := fun w => VD.spD PySem.Challenge.rw_squareworlds_k13_walks_done.prog w _ k13.q_law) rfl (by decide) rfl ⟨rfl, by decide, by decide⟩ (fun w h Y => PySem.W.kIn_of Y) ?F (fun _ _ _ ns hl _ _ hS => k13.at_script hS (k13.r_law ns hl))
  case F =>
    intro w mg fa h KX G hmg
    refine' k13.all_mk KX G hmg ?a0 ?l0 ?c0 ?k0 ?a1 ?l1 ?c1 ?k1 ?a2 ?l2 ?c2 ?k2 ?a3 ?l3 ?c3 ?k3 ?a4 ?l4 ?c4 ?k4 ?a5 ?l5 ?c5 ?k5 ?a6 ?l6 ?c6 ?k6 ?a7 ?l7 ?c7 ?k7 ?a8 ?l8 ?c8 ?k8 ?a9 ?l9 ?c9 ?k9 ?a10 ?l10 ?c10 ?k10 ?a11 ?l11 ?c11 ?k11 ?a12 ?l12 ?c12 ?k12 ?a13 ?l13 ?c13 ?k13 ?a14 ?l14 ?c14 ?k14 ?a15 ?l15 ?c15 ?k15 ?a16 ?l16 ?c16 ?k16 ?a17 ?l17 ?c17 ?k17 ?a18 ?l18 ?c18 ?k18 ?a19 ?l19 ?c19 ?k19 ?a20 ?l20 ?c20 ?k20 ?a21 ?l21 ?c21 ?k21 ?a22 ?l22 ?c22 ?k22 ?a23 ?l23 ?c23 ?k23 ?a24 ?l24 ?c24 ?k24 ?z0 ?z1 ?z2 ?z3 ?z4 ?z5 ?z6 ?z7 ?z8 ?z9 ?z10 ?cc0 ?cc1
    (case a0 => k_is)
    (case l0 => k_is)
    (case c0 => k_is)
    (case k0 => k_is)
    (case a1 => k_is)
    (case l1 => k_is)
    (case c1 => k_is)
    (case k1 => k_is)
    (case a2 => k_is)
    (case l2 => k_is)
    (case c2 => k_is)
    (case k2 => k_is)
    (case a3 => k_is)
    (case l3 => k_is)
    (case c3 => k_is)
    (case k3 => k_is)
    (case a4 => k_is)
    (case l4 => k_is)
    (case c4 => k_is)
    (case k4 => k_is)
    (case a5 => k_is)
    (case l5 => k_is)
    (case c5 => k_is)
    (case k5 => k_is)
    (case a6 => k_is)
    (case l6 => k_is)
    (case c6 => k_is)
    (case k6 => k_is)
    (case a7 => k_is)
    (case l7 => k_is)
    (case c7 => k_is)
    (case k7 => k_is)
    (case a8 => k_is)
    (case l8 => k_is)
    (case c8 => k_is)
    (case k8 => k_is)
    (case a9 => k_is)
    (case l9 => k_is)
    (case c9 => k_is)
    (case k9 => k_is)
    (case a10 => k_is)
    (case l10 => k_is)
    (case c10 => k_is)
    (case k10 => k_is)
    (case a11 => k_is)
    (case l11 => k_is)
    (case c11 => k_is)
    (case k11 => k_is)
    (case a12 => k_is)
    (case l12 => k_is)
    (case c12 => k_is)
    (case k12 => k_is)
    (case a13 => k_is)
    (case l13 => k_is)
    (case c13 => k_is)
    (case k13 => k_is)
    (case a14 => k_is)
    (case l14 => k_is)
    (case c14 => k_is)
    (case k14 => k_is)
    (case a15 => k_is)
    (case l15 => k_is)
    (case c15 => k_is)
    (case k15 => k_is)
    (case a16 => k_is)
    (case l16 => k_is)
    (case c16 => k_is)
    (case k16 => k_is)
    (case a17 => k_is)
    (case l17 => k_is)
    (case c17 => k_is)
    (case k17 => k_is)
    (case a18 => k_is)
    (case l18 => k_is)
    (case c18 => k_is)
    (case k18 => k_is)
    (case a19 => k_is)
    (case l19 => k_is)
    (case c19 => k_is)
    (case k19 => k_is)
    (case a20 => k_is)
    (case l20 => k_is)
    (case c20 => k_is)
    (case k20 => k_is)
    (case a21 => k_is)
    (case l21 => k_is)
    (case c21 => k_is)
    (case k21 => k_is)
    (case a22 => k_is)
    (case l22 => k_is)
    (case c22 => k_is)
    (case k22 => k_is)
    (case a23 => k_is)
    (case l23 => k_is)
    (case c23 => k_is)
    (case k23 => k_is)
    (case a24 => k_is)
    (case l24 => k_is)
    (case c24 => k_is)
    (case k24 => k_is)
    (case z0 => k_is)
    (case z1 => k_is)
    (case z2 => k_is)
    (case z3 => k_is)
    (case z4 => k_is)
    (case z5 => k_is)
    (case z6 => k_is)
    (case z7 => k_is)
    (case z8 => k_is)
    (case z9 => k_is)
    (case z10 => k_is)
    (case cc0 => k_is)
    (case cc1 => k_is)
