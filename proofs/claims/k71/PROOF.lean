import PyProof.Rows.All
import Wide.All
import OpenK.AllK
import Wide.FinOn
import HandS.ForMost
import HandS.Star
import HandS.TupSets
import HandS.TupAny
import HandS.Deep
import HandS.IsInst
import HandS.Style
import HandS.Zip
import HandS.Walk
import KE.KDictKeyed
import KE.GoesEnum
import KE.GoesZip
import HandS.Text
import PySem.Challenge.RW_linklines_k71_whole_what_stays_and_order
set_option Elab.async false
set_option linter.all false
set_option maxRecDepth 100000
set_option maxHeartbeats 4000000
/-! A layer of values over the hand layer: what never changes is a value (PyData), what changes is a list in a small store. -/
namespace VS
open PySem L2

/-! ### heaps -/
def Ex (H H' : Hp) : Prop := ∀ a o, H a = some o → H' a = some o
theorem Ex.refl (H : Hp) : Ex H H := fun _ _ h => h
theorem Ex.trans {H H1 H2 : Hp} (a : Ex H H1) (b : Ex H1 H2) : Ex H H2 := fun x o h => b x o (a x o h)
theorem Ex.new {H : Hp} {p : Addr} {o : HO} (h : H p = none) : Ex H (upd H p o) := fun a u e => by
  rw [upd_ne (ne_of_none e h)]
  exact e
theorem Ex.free {H H' : Hp} {p : Addr} (e : Ex H H') (h : H' p = none) : H p = none := by
  cases h1 : H p with
  | none => rfl
  | some o =>
    rw [e p o h1] at h
    cases h
/-- both heaps get the same thing at p -/
theorem Ex.both {H H' : Hp} {p : Addr} {o : HO} (e : Ex H H') : Ex (upd H p o) (upd H' p o) := fun a u h => by
  by_cases ha : a = p
  · subst ha
    rw [upd_same] at h ⊢
    exact h
  · rw [upd_ne ha] at h ⊢
    exact e a u h
/-- the larger heap changes where the smaller one is blind -/
theorem Ex.mut {H H' : Hp} {p : Addr} {o : HO} (e : Ex H H') (h : H p = none) : Ex H (upd H' p o) := fun a u ha => by
  rw [upd_ne (ne_of_none ha h)]
  exact e a u ha
/-- the smaller heap is told of what stands -/
theorem Ex.frz {H H' : Hp} {p : Addr} {o : HO} (e : Ex H H') (h : H' p = some o) : Ex (upd H p o) H' := fun a u ha => by
  by_cases q : a = p
  · subst q
    rw [upd_same] at ha
    rw [h]
    exact ha
  · rw [upd_ne q] at ha
    exact e a u ha

/-! ### data -/
mutual
inductive Dv (G : Hp) : V → PyData → Prop
  | non : Dv G .non .none
  | bl (b : Bool) : Dv G (.bl b) (.bool b)
  | int (i : Int) : Dv G (.int i) (.int i)
  | str (x : Str) : Dv G (.str x) (.str x)
  | lst {a : Addr} {xs : List V} {ds : List PyData} : G a = some (.lst xs) → DvAll G xs ds → Dv G (.ref a) (.list ds)
  | tup {a : Addr} {xs : List V} {ds : List PyData} : G a = some (.tup xs) → DvAll G xs ds → Dv G (.ref a) (.tuple ds)
inductive DvAll (G : Hp) : List V → List PyData → Prop
  | nil : DvAll G [] []
  | cons {v : V} {vs : List V} {d : PyData} {ds : List PyData} : Dv G v d → DvAll G vs ds → DvAll G (v :: vs) (d :: ds)
end
theorem Dv.mono {G G' : Hp} (e : Ex G G') {v : V} {d : PyData} (h : Dv G v d) : Dv G' v d :=
  Dv.rec (motive_1 := fun v d _ => Dv G' v d) (motive_2 := fun vs ds _ => DvAll G' vs ds) .non .bl .int .str (fun h _ ih => .lst (e _ _ h) ih) (fun h _ ih => .tup (e _ _ h) ih) .nil (fun _ _ i1 i2 => .cons i1 i2) h
theorem DvAll.mono {G G' : Hp} (e : Ex G G') {v : List V} {d : List PyData} (h : DvAll G v d) : DvAll G' v d :=
  DvAll.rec (motive_1 := fun v d _ => Dv G' v d) (motive_2 := fun vs ds _ => DvAll G' vs ds) .non .bl .int .str (fun h _ ih => .lst (e _ _ h) ih) (fun h _ ih => .tup (e _ _ h) ih) .nil (fun _ _ i1 i2 => .cons i1 i2) h
theorem Dv.dp {K : PySem.W.Frag} {G : Hp} {v : V} {d : PyData} (h : Dv G v d) : Dp K G v d :=
  Dv.rec (motive_1 := fun v d _ => Dp K G v d) (motive_2 := fun vs ds _ => DpAll K G vs ds) .non .bl .int .str (fun h _ ih => .lst (SqL.of h) ih) (fun h _ ih => .tup (SqT.of h) ih) .nil (fun _ _ i1 i2 => .cons i1 i2) h
theorem DvAll.dp {K : PySem.W.Frag} {G : Hp} {v : List V} {d : List PyData} (h : DvAll G v d) : DpAll K G v d :=
  DvAll.rec (motive_1 := fun v d _ => Dp K G v d) (motive_2 := fun vs ds _ => DpAll K G vs ds) .non .bl .int .str (fun h _ ih => .lst (SqL.of h) ih) (fun h _ ih => .tup (SqT.of h) ih) .nil (fun _ _ i1 i2 => .cons i1 i2) h
theorem DvAll.length {G : Hp} : ∀ {vs : List V} {ds : List PyData}, DvAll G vs ds → vs.length = ds.length
  | _, _, .nil => rfl
  | _, _, .cons _ t => by
    rw [List.length_cons, List.length_cons, DvAll.length t]
theorem DvAll.get {G : Hp} : ∀ {vs : List V} {ds : List PyData} {i : Nat} {d : PyData}, DvAll G vs ds → ds[i]? = some d → ∃ v, vs[i]? = some v ∧ Dv G v d
  | _, _, _, _, .nil, e => by simp at e
  | _, _, 0, _, .cons h _, e => by
    simp at e
    subst e
    exact ⟨_, rfl, h⟩
  | _, _, i + 1, d, .cons _ t, e => by
    obtain ⟨v, h1, h2⟩ := DvAll.get (i := i) (d := d) t (by simpa using e)
    exact ⟨v, by simpa using h1, h2⟩
theorem DvAll.get' {G : Hp} : ∀ {vs : List V} {ds : List PyData} {i : Nat} {v : V}, DvAll G vs ds → vs[i]? = some v → ∃ d, ds[i]? = some d ∧ Dv G v d
  | _, _, _, _, .nil, e => by simp at e
  | _, _, 0, _, .cons h _, e => by
    simp at e
    subst e
    exact ⟨_, rfl, h⟩
  | _, _, i + 1, d, .cons _ t, e => by
    obtain ⟨v, h1, h2⟩ := DvAll.get' (i := i) (v := d) t (by simpa using e)
    exact ⟨v, by simpa using h1, h2⟩
theorem DvAll.append {G : Hp} : ∀ {vs ws : List V} {ds es : List PyData}, DvAll G vs ds → DvAll G ws es → DvAll G (vs ++ ws) (ds ++ es)
  | _, _, _, _, .nil, h => h
  | _, _, _, _, .cons h t, k => .cons h (DvAll.append t k)
theorem DvAll.take {G : Hp} : ∀ {vs : List V} {ds : List PyData} (n : Nat), DvAll G vs ds → DvAll G (vs.take n) (ds.take n)
  | _, _, 0, _ => .nil
  | _, _, _ + 1, .nil => .nil
  | _, _, n + 1, .cons h t => .cons h (DvAll.take n t)
theorem DvAll.drop {G : Hp} : ∀ {vs : List V} {ds : List PyData} (n : Nat), DvAll G vs ds → DvAll G (vs.drop n) (ds.drop n)
  | _, _, 0, h => h
  | _, _, _ + 1, .nil => .nil
  | _, _, n + 1, .cons _ t => DvAll.drop n t
theorem DvAll.at_ {G : Hp} {vs : List V} {ds : List PyData} {i : Int} {d : PyData} (h : DvAll G vs ds) (e : atI ds i = some d) : ∃ v, atI vs i = some v ∧ Dv G v d := by
  unfold atI at e ⊢
  rw [h.length]
  cases q : ixN ds.length i with
  | none =>
    rw [q] at e
    cases e
  | some j =>
    rw [q] at e
    exact h.get e
theorem DvAll.ints {G : Hp} : ∀ {vs : List V} {ns : List Int}, DvAll G vs (ns.map PyData.int) → vs = ns.map V.int
  | _, [], .nil => rfl
  | _, n :: ns, .cons h t => by
    cases h
    rw [List.map_cons, ← DvAll.ints t]
theorem DvAll.strs {G : Hp} : ∀ {vs : List V} {ns : List Str}, DvAll G vs (ns.map PyData.str) → vs = ns.map V.str
  | _, [], .nil => rfl
  | _, n :: ns, .cons h t => by
    cases h
    rw [List.map_cons, ← DvAll.strs t]
theorem DvAll.bools {G : Hp} : ∀ {vs : List V} {ns : List Bool}, DvAll G vs (ns.map PyData.bool) → vs = ns.map V.bl
  | _, [], .nil => rfl
  | _, n :: ns, .cons h t => by
    cases h
    rw [List.map_cons, ← DvAll.bools t]
theorem DvAll.of_ints {G : Hp} : ∀ (ns : List Int), DvAll G (ns.map V.int) (ns.map PyData.int)
  | [] => .nil
  | n :: ns => .cons (.int n) (DvAll.of_ints ns)

/-! ### abstract values -/
inductive AV where
  /-- data that never changes -/
  | d (x : PyData)
  /-- a list of the store -/
  | p (a : Addr)
  /-- a Plan: its page, its parts -/
  | pl (pg : Int) (ps : List PyData)
  /-- a dict by tuples of ints that never changes -/
  | dc (f : List Int → Option PyData)
  /-- the script -/
  | sc (ns : List Int)
abbrev LS := Addr → Option (List AV)
def put (L : LS) (a : Addr) (x : List AV) : LS := fun b => if b = a then some x else L b
def del (L : LS) (a : Addr) : LS := fun b => if b = a then none else L b
theorem put_same {L : LS} {a : Addr} {x : List AV} : put L a x a = some x := by unfold put; rw [if_pos rfl]
theorem put_ne {L : LS} {a b : Addr} {x : List AV} (h : b ≠ a) : put L a x b = L b := by unfold put; rw [if_neg h]
theorem del_same {L : LS} {a : Addr} : del L a a = none := by unfold del; rw [if_pos rfl]
theorem del_ne {L : LS} {a b : Addr} (h : b ≠ a) : del L a b = L b := by unfold del; rw [if_neg h]
theorem put_put {L : LS} {a : Addr} {x y : List AV} : put (put L a x) a y = put L a y := by
  funext b
  unfold put
  split <;> rfl
theorem del_put {L : LS} {a : Addr} {x : List AV} (h : L a = none) : del (put L a x) a = L := by
  funext b
  unfold del put
  by_cases e : b = a
  · rw [if_pos e, e, h]
  · rw [if_neg e, if_neg e]
theorem put_comm {L : LS} {a b : Addr} {x y : List AV} (h : a ≠ b) : put (put L a x) b y = put (put L b y) a x := by
  funext c
  unfold put
  by_cases e : c = b
  · rw [if_pos e, if_neg (by rw [e]; exact Ne.symm h), if_pos e]
  · rw [if_neg e]
    by_cases e2 : c = a
    · rw [if_pos e2, if_pos e2]
    · rw [if_neg e2, if_neg e2, if_neg e]
def allD : List AV → Option (List PyData)
  | [] => some []
  | .d x :: r => (allD r).map (x :: ·)
  | _ :: _ => none
theorem allD_map : ∀ ds : List PyData, allD (ds.map AV.d) = some ds
  | [] => rfl
  | d :: ds => by
    show (allD (ds.map AV.d)).map (d :: ·) = _
    rw [allD_map ds]
    rfl
theorem allD_eq : ∀ {avs : List AV} {ds : List PyData}, allD avs = some ds → avs = ds.map AV.d
  | [], ds, h => by
    cases h
    rfl
  | .d x :: r, ds, h => by
    have h : (allD r).map (x :: ·) = some ds := h
    cases e : allD r with
    | none =>
      rw [e] at h
      cases h
    | some es =>
      rw [e] at h
      cases h
      rw [List.map_cons, ← allD_eq e]
  | .p _ :: _, _, h => nomatch h
  | .pl _ _ :: _, _, h => nomatch h
  | .dc _ :: _, _, h => nomatch h
  | .sc _ :: _, _, h => nomatch h

def plF (pg : Int) (t : Addr) : List (Str × V) := putF "kept_parts" (.ref t) (putF "kept_page" (.int pg) [])
section
variable (K : PySem.W.Frag) (C : Addr)
def Rp (G : Hp) (v : V) : AV → Prop
  | .d x => Dv G v x
  | .p a => v = .ref a
  | .pl pg ps => ∃ (q dx t : Addr) (xs : List V), v = .ref q ∧ G q = some (.ins C dx (plF pg t)) ∧ G t = some (.tup xs) ∧ DvAll G xs ps
  | .dc f => ∃ (q : Addr) (us : List (List Key × V)), v = .ref q ∧ G q = some (.dT us) ∧ ∀ (k : List Int) (d : PyData), f k = some d → ∃ x, valV us (k.map Sum.inl) = some x ∧ Dv G x d
  | .sc ns => ∃ a : Addr, v = .ref a ∧ SqL K G a (ns.map V.int)
abbrev RpAll (G : Hp) : List V → List AV → Prop := Paired (Rp K C G)
structure RS (G : Hp) (L : LS) (H : Hp) : Prop where
  ex : Ex G H
  ls : ∀ a avs, L a = some avs → G a = none ∧ ∃ xs, H a = some (.lst xs) ∧ RpAll K C G xs avs
end
structure Go (G : Hp) (L : LS) (H : Hp) (G' : Hp) (L' : LS) (H' : Hp) : Prop where
  ex : Ex G G'
  out : ∀ a o, H a = some o → G a = none → L a = none → H' a = some o ∧ G' a = none ∧ L' a = none
theorem Go.refl (G : Hp) (L : LS) (H : Hp) : Go G L H G L H := ⟨Ex.refl G, fun _ _ h1 h2 h3 => ⟨h1, h2, h3⟩⟩
theorem Go.trans {G : Hp} {L : LS} {H G1 : Hp} {L1 : LS} {H1 G2 : Hp} {L2 : LS} {H2 : Hp} (a : Go G L H G1 L1 H1) (b : Go G1 L1 H1 G2 L2 H2) : Go G L H G2 L2 H2 :=
  ⟨a.ex.trans b.ex, fun x o h1 h2 h3 => let ⟨k1, k2, k3⟩ := a.out x o h1 h2 h3; b.out x o k1 k2 k3⟩
section
variable {K : PySem.W.Frag} {C : Addr} {G G' H H' : Hp} {L : LS} {v : V} {av : AV}
theorem sql_mono {a : Addr} {xs : List V} (e : Ex G G') (h : SqL K G a xs) : SqL K G' a xs := by
  rcases h with (h | ⟨o, h⟩) | h
  · exact .inl (.inl (e _ _ h))
  · exact .inl (.inr ⟨o, e _ _ h⟩)
  · exact .inr h
theorem sqt_mono {a : Addr} {xs : List V} (e : Ex G G') (h : SqT K G a xs) : SqT K G' a xs := by
  rcases h with (h | ⟨o, h⟩) | h
  · exact .inl (.inl (e _ _ h))
  · exact .inl (.inr ⟨o, e _ _ h⟩)
  · exact .inr h
theorem Rp.mono (e : Ex G G') (h : Rp K C G v av) : Rp K C G' v av := by
  cases av with
  | d x => exact Dv.mono e h
  | p a => exact h
  | pl pg ps =>
    obtain ⟨q, dx, t, xs, h1, h2, h3, h4⟩ := h
    exact ⟨q, dx, t, xs, h1, e _ _ h2, e _ _ h3, h4.mono e⟩
  | dc f =>
    obtain ⟨q, us, h1, h2, h3⟩ := h
    exact ⟨q, us, h1, e _ _ h2, fun k d z => let ⟨x, x1, x2⟩ := h3 k d z; ⟨x, x1, x2.mono e⟩⟩
  | sc ns =>
    obtain ⟨a, h1, h2⟩ := h
    exact ⟨a, h1, sql_mono e h2⟩
theorem RpAll.mono {vs : List V} {avs : List AV} (e : Ex G G') (h : RpAll K C G vs avs) : RpAll K C G' vs avs := Paired.mapP h fun _ _ z => z.mono e
theorem RpAll.length {vs : List V} {avs : List AV} (h : RpAll K C G vs avs) : vs.length = avs.length := Paired.length h
theorem RpAll.get : ∀ {vs : List V} {avs : List AV} {i : Nat} {av : AV}, RpAll K C G vs avs → avs[i]? = some av → ∃ v, vs[i]? = some v ∧ Rp K C G v av
  | _, _, _, _, .nil, e => by simp at e
  | _, _, 0, _, .cons h _, e => by
    simp at e
    subst e
    exact ⟨_, rfl, h⟩
  | _, _, i + 1, d, .cons _ t, e => by
    obtain ⟨v, h1, h2⟩ := RpAll.get (i := i) (av := d) t (by simpa using e)
    exact ⟨v, by simpa using h1, h2⟩
theorem RpAll.append : ∀ {vs ws : List V} {avs bvs : List AV}, RpAll K C G vs avs → RpAll K C G ws bvs → RpAll K C G (vs ++ ws) (avs ++ bvs)
  | _, _, _, _, .nil, h => h
  | _, _, _, _, .cons h t, k => .cons h (RpAll.append t k)
theorem RpAll.set {v : V} {av : AV} (r : Rp K C G v av) : ∀ {vs : List V} {avs : List AV} (i : Nat), RpAll K C G vs avs → RpAll K C G (vs.set i v) (avs.set i av)
  | _, _, _, .nil => .nil
  | _, _, 0, .cons _ t => .cons r t
  | _, _, i + 1, .cons h t => .cons h (RpAll.set r i t)
theorem RpAll.erase : ∀ {vs : List V} {avs : List AV} (i : Nat), RpAll K C G vs avs → RpAll K C G (vs.eraseIdx i) (avs.eraseIdx i)
  | _, _, _, .nil => .nil
  | _, _, 0, .cons _ t => t
  | _, _, i + 1, .cons h t => .cons h (RpAll.erase i t)
theorem RpAll.at_ {vs : List V} {avs : List AV} {i : Int} {av : AV} (h : RpAll K C G vs avs) (e : atI avs i = some av) : ∃ v, atI vs i = some v ∧ Rp K C G v av := by
  unfold atI at e ⊢
  rw [h.length]
  cases q : ixN avs.length i with
  | none =>
    rw [q] at e
    cases e
  | some j =>
    rw [q] at e
    exact h.get e
theorem RpAll.toD : ∀ {vs : List V} {ds : List PyData}, RpAll K C G vs (ds.map AV.d) → DvAll G vs ds
  | _, [], .nil => .nil
  | _, d :: ds, .cons h t => .cons h (RpAll.toD t)
theorem RpAll.ofD : ∀ {vs : List V} {ds : List PyData}, DvAll G vs ds → RpAll K C G vs (ds.map AV.d)
  | _, _, .nil => .nil
  | _, _, .cons h t => .cons h (RpAll.ofD t)
theorem RpAll.d {vs : List V} {avs : List AV} {ds : List PyData} (h : RpAll K C G vs avs) (e : allD avs = some ds) : DvAll G vs ds := by
  rw [allD_eq e] at h
  exact h.toD

/-! ### the steps of a state -/
/-- a new thing that never changes -/
theorem RS.newD {p : Addr} {o : HO} (s : RS K C G L H) (hp : H p = none) : RS K C (upd G p o) L (upd H p o) ∧ Go G L H (upd G p o) L (upd H p o) := by
  have gp : G p = none := s.ex.free hp
  refine ⟨⟨s.ex.both, fun a avs h => ?_⟩, ⟨Ex.new gp, fun a u h1 h2 h3 => ?_⟩⟩
  · obtain ⟨h1, xs, h2, h3⟩ := s.ls a avs h
    have ne : a ≠ p := ne_of_none h2 hp
    exact ⟨by rw [upd_ne ne]; exact h1, xs, by rw [upd_ne ne]; exact h2, h3.mono (Ex.new gp)⟩
  · have ne : a ≠ p := ne_of_none h1 hp
    exact ⟨by rw [upd_ne ne]; exact h1, by rw [upd_ne ne]; exact h2, h3⟩
/-- a new thing of H alone -/
theorem RS.newH {p : Addr} {o : HO} (s : RS K C G L H) (hp : H p = none) : RS K C G L (upd H p o) ∧ Go G L H G L (upd H p o) := by
  have gp : G p = none := s.ex.free hp
  refine ⟨⟨s.ex.mut gp, fun a avs h => ?_⟩, ⟨Ex.refl G, fun a u h1 h2 h3 => ?_⟩⟩
  · obtain ⟨h1, xs, h2, h3⟩ := s.ls a avs h
    have ne : a ≠ p := ne_of_none h2 hp
    exact ⟨h1, xs, by rw [upd_ne ne]; exact h2, h3⟩
  · have ne : a ≠ p := ne_of_none h1 hp
    exact ⟨by rw [upd_ne ne]; exact h1, h2, h3⟩
/-- a thing of H alone changes -/
theorem RS.mutH {p : Addr} {o : HO} (s : RS K C G L H) (gp : G p = none) (lp : L p = none) : RS K C G L (upd H p o) := by
  refine ⟨s.ex.mut gp, fun a avs h => ?_⟩
  obtain ⟨h1, xs, h2, h3⟩ := s.ls a avs h
  have ne : a ≠ p := fun e => by
    rw [e, lp] at h
    cases h
  exact ⟨h1, xs, by rw [upd_ne ne]; exact h2, h3⟩
/-- a new list of the store -/
theorem RS.newL {p : Addr} {xs : List V} {avs : List AV} (s : RS K C G L H) (hp : H p = none) (h : RpAll K C G xs avs) : RS K C G (put L p avs) (upd H p (.lst xs)) ∧ Go G L H G (put L p avs) (upd H p (.lst xs)) := by
  have gp : G p = none := s.ex.free hp
  refine ⟨⟨s.ex.mut gp, fun a bvs e => ?_⟩, ⟨Ex.refl G, fun a u h1 h2 h3 => ?_⟩⟩
  · by_cases ne : a = p
    · subst ne
      rw [put_same] at e
      cases e
      exact ⟨gp, xs, upd_same, h⟩
    · rw [put_ne ne] at e
      obtain ⟨h1, ys, h2, h3⟩ := s.ls a bvs e
      exact ⟨h1, ys, by rw [upd_ne ne]; exact h2, h3⟩
  · have ne : a ≠ p := ne_of_none h1 hp
    exact ⟨by rw [upd_ne ne]; exact h1, h2, by rw [put_ne ne]; exact h3⟩
theorem RS.fresh {p : Addr} (s : RS K C G L H) (hp : H p = none) : L p = none := by
  cases e : L p with
  | none => rfl
  | some avs =>
    obtain ⟨_, xs, h2, _⟩ := s.ls p avs e
    rw [h2] at hp
    cases hp
/-- a list of the store changes -/
theorem RS.setL {p : Addr} {xs : List V} {avs old : List AV} (s : RS K C G L H) (lp : L p = some old) (h : RpAll K C G xs avs) : RS K C G (put L p avs) (upd H p (.lst xs)) ∧ Go G L H G (put L p avs) (upd H p (.lst xs)) := by
  obtain ⟨gp, _⟩ := s.ls p old lp
  refine ⟨⟨s.ex.mut gp, fun a bvs e => ?_⟩, ⟨Ex.refl G, fun a u h1 h2 h3 => ?_⟩⟩
  · by_cases ne : a = p
    · subst ne
      rw [put_same] at e
      cases e
      exact ⟨gp, xs, upd_same, h⟩
    · rw [put_ne ne] at e
      obtain ⟨h1, ys, h2, h3⟩ := s.ls a bvs e
      exact ⟨h1, ys, by rw [upd_ne ne]; exact h2, h3⟩
  · have ne : a ≠ p := fun q => by
      rw [q, lp] at h3
      cases h3
    exact ⟨by rw [upd_ne ne]; exact h1, h2, by rw [put_ne ne]; exact h3⟩
/-- a list of the store becomes data -/
theorem RS.frz {p : Addr} {avs : List AV} {ds : List PyData} (s : RS K C G L H) (lp : L p = some avs) (e : allD avs = some ds) : ∃ G', Dv G' (.ref p) (.list ds) ∧ RS K C G' (del L p) H ∧ Go G L H G' (del L p) H := by
  obtain ⟨gp, xs, hx, r⟩ := s.ls p avs lp
  have x : Ex G (upd G p (.lst xs)) := Ex.new gp
  refine ⟨upd G p (.lst xs), .lst upd_same ((r.d e).mono x), ⟨s.ex.frz hx, fun a bvs q => ?_⟩, ⟨x, fun a u h1 h2 h3 => ?_⟩⟩
  · have ne : a ≠ p := fun z => by
      rw [z, del_same] at q
      cases q
    rw [del_ne ne] at q
    obtain ⟨h1, ys, h2, h3⟩ := s.ls a bvs q
    exact ⟨by rw [upd_ne ne]; exact h1, ys, h2, h3.mono x⟩
  · have ne : a ≠ p := fun z => by
      rw [z, lp] at h3
      cases h3
    exact ⟨h1, by rw [upd_ne ne]; exact h2, by rw [del_ne ne]; exact h3⟩

/-! ### slots -/
abbrev Env := List (Option AV)
structure Rel (K : PySem.W.Frag) (C : Addr) (σ : L2.St) (env : Env) (G : Hp) : Prop where
  len : σ.length = env.length
  at_ : ∀ (i : Nat) (av : AV), env[i]? = some (some av) → ∃ v, σ[i]? = some (some v) ∧ Rp K C G v av
theorem Rel.mono {σ : L2.St} {env : Env} (e : Ex G G') (r : Rel K C σ env G) : Rel K C σ env G' := ⟨r.len, fun i av h => let ⟨v, h1, h2⟩ := r.at_ i av h; ⟨v, h1, h2.mono e⟩⟩
theorem Rel.set {σ : L2.St} {env : Env} (r : Rel K C σ env G) (i : Nat) (h : Rp K C G v av) : Rel K C (σ.set i (some v)) (env.set i (some av)) G := by
  refine ⟨by rw [List.length_set, List.length_set, r.len], fun j bv e => ?_⟩
  by_cases ij : i = j
  · subst ij
    have hl : i < env.length := by
      have := (List.getElem?_eq_some_iff.mp e).1
      rwa [List.length_set] at this
    rw [List.getElem?_set_self hl] at e
    cases e
    exact ⟨v, by rw [List.getElem?_set_self (by rw [r.len]; exact hl)], h⟩
  · rw [List.getElem?_set_ne ij] at e
    rw [List.getElem?_set_ne ij]
    exact r.at_ j bv e
/-- a slot's word is changed for another one that fits -/
theorem Rel.say {σ : L2.St} {env : Env} (r : Rel K C σ env G) (i : Nat) {v : V} (hv : σ[i]? = some (some v)) (h : Rp K C G v av) : Rel K C σ (env.set i (some av)) G := by
  refine ⟨by rw [List.length_set, r.len], fun j bv e => ?_⟩
  by_cases ij : i = j
  · subst ij
    have hl : i < env.length := by
      have := (List.getElem?_eq_some_iff.mp e).1
      rwa [List.length_set] at this
    rw [List.getElem?_set_self hl] at e
    cases e
    exact ⟨v, hv, h⟩
  · rw [List.getElem?_set_ne ij] at e
    exact r.at_ j bv e
def wipeE (env : Env) : List Nat → Env
  | [] => env
  | v :: vs => (wipeE env vs).set v none
theorem Rel.wipe {σ : L2.St} {env : Env} (r : Rel K C σ env G) : ∀ vs : List Nat, Rel K C (wipe σ vs) (wipeE env vs) G
  | [] => r
  | v :: vs => by
    have ih := r.wipe vs
    unfold L2.wipe wipeE
    refine ⟨by rw [List.length_set, List.length_set, ih.len], fun j bv e => ?_⟩
    by_cases ij : v = j
    · subst ij
      have hl : v < (wipeE env vs).length := by
        have := (List.getElem?_eq_some_iff.mp e).1
        rwa [List.length_set] at this
      rw [List.getElem?_set_self hl] at e
      cases e
    · rw [List.getElem?_set_ne ij] at e
      rw [List.getElem?_set_ne ij]
      exact ih.at_ j bv e
theorem wipe_get {σ : L2.St} : ∀ {vs : List Nat} {i : Nat}, (wipe σ vs)[i]? = if i ∈ vs ∧ i < σ.length then some none else σ[i]?
  | [], i => by
    rw [if_neg (by simp)]
    rfl
  | v :: vs, i => by
    unfold L2.wipe
    by_cases hv : v = i
    · subst hv
      by_cases hl : v < σ.length
      · rw [if_pos ⟨by simp, hl⟩, List.getElem?_set_self (by rw [wipe_length]; exact hl)]
      · rw [if_neg (by simp [hl]), List.getElem?_eq_none (by rw [List.length_set, wipe_length]; omega), List.getElem?_eq_none (by omega)]
    · rw [List.getElem?_set_ne hv, wipe_get]
      have e : (i ∈ v :: vs) ↔ i ∈ vs := by
        rw [List.mem_cons]
        exact ⟨fun h => h.elim (fun z => absurd z.symm hv) id, .inr⟩
      by_cases h : i ∈ vs ∧ i < σ.length
      · rw [if_pos h, if_pos ⟨e.mpr h.1, h.2⟩]
      · rw [if_neg h, if_neg fun z => h ⟨e.mp z.1, z.2⟩]
theorem wipe_set {σ : L2.St} {vs : List Nat} {i : Nat} {x : Option V} (h : i ∈ vs) : wipe (σ.set i x) vs = wipe σ vs := by
  apply List.ext_getElem?
  intro j
  rw [wipe_get, wipe_get, List.length_set]
  by_cases hj : j ∈ vs ∧ j < σ.length
  · rw [if_pos hj, if_pos hj]
  · rw [if_neg hj, if_neg hj]
    by_cases e : i = j
    · subst e
      have hl : ¬ i < σ.length := fun z => hj ⟨h, z⟩
      rw [List.getElem?_eq_none (by rw [List.length_set]; omega), List.getElem?_eq_none (by omega)]
    · rw [List.getElem?_set_ne e]
theorem wipe_wipe {σ : L2.St} {vs : List Nat} : wipe (wipe σ vs) vs = wipe σ vs := by
  apply List.ext_getElem?
  intro j
  rw [wipe_get, wipe_get, wipe_length]
  by_cases hj : j ∈ vs ∧ j < σ.length
  · rw [if_pos hj, if_pos hj]
  · rw [if_neg hj]
end
end VS

set_option Elab.async false
set_option linter.all false
set_option maxRecDepth 100000
set_option maxHeartbeats 4000000
set_option autoImplicit false
namespace VS
open PySem L2

abbrev AK := AV → LS → Prop
abbrev ATE := Env → LS → AK → Prop
abbrev ATT := Env → LS → (Bool → LS → Prop) → Prop
abbrev ATA := Env → LS → (List AV → LS → Prop) → Prop
structure AEnds where
  nx : Env → LS → Prop
  rt : AK
  bk : Env → LS → Prop := fun _ _ => False
  ct : Env → LS → Prop := fun _ _ => False
abbrev ATS := AEnds → Env → LS → Prop
section
variable (K : PySem.W.Frag) (C : Addr)
def SimE (te : TE) (ae : ATE) : Prop := ∀ (σ : L2.St) (env : Env) (G : Hp) (L : LS) (H : Hp) (P : AK) (Q : VK), Rel K C σ env G → RS K C G L H → ae env L P →
  (∀ (v : V) (av : AV) (G' : Hp) (L' : LS) (H' : Hp), Go G L H G' L' H' → RS K C G' L' H' → Rp K C G' v av → P av L' → Q v H') → te σ H Q
def SimT (te : TT) (ae : ATT) : Prop := ∀ (σ : L2.St) (env : Env) (G : Hp) (L : LS) (H : Hp) (P : Bool → LS → Prop) (Q : Bool → Hp → Prop), Rel K C σ env G → RS K C G L H → ae env L P →
  (∀ (b : Bool) (G' : Hp) (L' : LS) (H' : Hp), Go G L H G' L' H' → RS K C G' L' H' → P b L' → Q b H') → te σ H Q
def SimA (ta : TA) (ae : ATA) : Prop := ∀ (σ : L2.St) (env : Env) (G : Hp) (L : LS) (H : Hp) (P : List AV → LS → Prop) (Q : List V → Hp → Prop), Rel K C σ env G → RS K C G L H → ae env L P →
  (∀ (vs : List V) (avs : List AV) (G' : Hp) (L' : LS) (H' : Hp), Go G L H G' L' H' → RS K C G' L' H' → RpAll K C G' vs avs → P avs L' → Q vs H') → ta σ H Q
structure EndsOk (G : Hp) (L : LS) (H : Hp) (AD : AEnds) (D : Ends) : Prop where
  nx : ∀ (σ : L2.St) (env : Env) (G' : Hp) (L' : LS) (H' : Hp), Go G L H G' L' H' → RS K C G' L' H' → Rel K C σ env G' → AD.nx env L' → D.nx σ H'
  rt : ∀ (v : V) (av : AV) (G' : Hp) (L' : LS) (H' : Hp), Go G L H G' L' H' → RS K C G' L' H' → Rp K C G' v av → AD.rt av L' → D.rt v H'
  bk : ∀ (σ : L2.St) (env : Env) (G' : Hp) (L' : LS) (H' : Hp), Go G L H G' L' H' → RS K C G' L' H' → Rel K C σ env G' → AD.bk env L' → D.bk σ H'
  ct : ∀ (σ : L2.St) (env : Env) (G' : Hp) (L' : LS) (H' : Hp), Go G L H G' L' H' → RS K C G' L' H' → Rel K C σ env G' → AD.ct env L' → D.ct σ H'
def SimS (ts : TS) (as : ATS) : Prop := ∀ (D : Ends) (AD : AEnds) (σ : L2.St) (env : Env) (G : Hp) (L : LS) (H : Hp), Rel K C σ env G → RS K C G L H → as AD env L → EndsOk K C G L H AD D → ts D σ H
def SimR (r : R2) (ra : AV → AV → LS → AK → Prop) : Prop := ∀ (x y : V) (ax ay : AV) (G : Hp) (L : LS) (H : Hp) (P : AK) (Q : VK), RS K C G L H → Rp K C G x ax → Rp K C G y ay → ra ax ay L P →
  (∀ (v : V) (av : AV) (G' : Hp) (L' : LS) (H' : Hp), Go G L H G' L' H' → RS K C G' L' H' → Rp K C G' v av → P av L' → Q v H') → r x y H Q
def SimC (r : List V → Hp → VK → Prop) (ra : List AV → LS → AK → Prop) : Prop := ∀ (xs : List V) (avs : List AV) (G : Hp) (L : LS) (H : Hp) (P : AK) (Q : VK), RS K C G L H → RpAll K C G xs avs → ra avs L P →
  (∀ (v : V) (av : AV) (G' : Hp) (L' : LS) (H' : Hp), Go G L H G' L' H' → RS K C G' L' H' → Rp K C G' v av → P av L' → Q v H') → r xs H Q
end
theorem EndsOk.from {K : PySem.W.Frag} {C : Addr} {G : Hp} {L : LS} {H G1 : Hp} {L1 : LS} {H1 : Hp} {AD : AEnds} {D : Ends} (e : EndsOk K C G L H AD D) (g : Go G L H G1 L1 H1) : EndsOk K C G1 L1 H1 AD D :=
  ⟨fun σ env G' L' H' a => e.nx σ env G' L' H' (g.trans a), fun v av G' L' H' a => e.rt v av G' L' H' (g.trans a), fun σ env G' L' H' a => e.bk σ env G' L' H' (g.trans a), fun σ env G' L' H' a => e.ct σ env G' L' H' (g.trans a)⟩
structure AE (X : Cx) (C : Addr) (e : Expr) (te : TE) (ae : ATE) : Prop where
  pe : PE X e te
  sim : SimE X.K C te ae
structure AT (X : Cx) (C : Addr) (e : Expr) (te : TT) (ae : ATT) : Prop where
  pt : PT X e te
  sim : SimT X.K C te ae
structure AW (X : Cx) (C : Addr) (e : Expr) (te : TT) (ae : ATT) : Prop where
  pw : PW X e te
  sim : SimT X.K C te ae
structure AA (X : Cx) (C : Addr) (es : List Expr) (ta : TA) (aa : ATA) : Prop where
  pa : PA X es ta
  sim : SimA X.K C ta aa
structure AS (X : Cx) (C : Addr) (st : Stmt) (ts : TS) (as : ATS) : Prop where
  ps : PS X st ts
  sim : SimS X.K C ts as
structure ASs (X : Cx) (C : Addr) (st : List Stmt) (ts : TS) (as : ATS) : Prop where
  ps : PSs X st ts
  sim : SimS X.K C ts as
structure AO (X : Cx) (C : Addr) (f : Value → Value → Sem Value) (r : R2) (ra : AV → AV → LS → AK → Prop) : Prop where
  op : OpR X f r
  sim : SimR X.K C r ra
structure AI_ (X : Cx) (C : Addr) (r : R2) (ra : AV → AV → LS → AK → Prop) : Prop where
  op : IxR X r
  sim : SimR X.K C r ra
structure AC (X : Cx) (C : Addr) (f : Value) (r : List V → Hp → VK → Prop) (ra : List AV → LS → AK → Prop) : Prop where
  op : CallR X f r
  sim : SimC X.K C r ra

/-! ### expressions -/
def aVar (i : Nat) : ATE := fun env L P => match env[i]? with
  | some (some av) => P av L
  | _ => False
/-- the name of a list of the store that becomes data -/
def aVarF (i : Nat) : ATE := fun env L P => match env[i]? with
  | some (some (.p a)) => ∃ ds, (L a).bind allD = some ds ∧ P (.d (.list ds)) (del L a)
  | _ => False
def aC (x : PyData) : ATE := fun _ L P => P (.d x) L
def aOp (ra : AV → AV → LS → AK → Prop) (aa ab : ATE) : ATE := fun env L P => aa env L fun x L1 => ab env L1 fun y L2 => ra x y L2 P
def aI0 (g : Int → Int → PyData) : AV → AV → LS → AK → Prop := fun ax ay L P => match ax, ay with
  | .d (.int i), .d (.int j) => P (.d (g i j)) L
  | _, _ => False
def aI (c : Int → Int → Prop) (g : Int → Int → PyData) : AV → AV → LS → AK → Prop := fun ax ay L P => match ax, ay with
  | .d (.int i), .d (.int j) => c i j ∧ P (.d (g i j)) L
  | _, _ => False
def view (L : LS) : AV → Option PyData
  | .d x => some x
  | .p a => ((L a).bind allD).map .list
  | _ => none
def aEqD : AV → AV → LS → AK → Prop := fun ax ay L P => ∃ d e, view L ax = some d ∧ view L ay = some e ∧ SeqAt.shaped d = true ∧ SeqAt.shaped e = true ∧ P (.d (.bool (PyData.eqv d e))) L
def aNeD : AV → AV → LS → AK → Prop := fun ax ay L P => ∃ d e, view L ax = some d ∧ view L ay = some e ∧ SeqAt.shaped d = true ∧ SeqAt.shaped e = true ∧ P (.d (.bool (!PyData.eqv d e))) L
/-- x in a list of data -/
def aInD : AV → AV → LS → AK → Prop := fun ax ay L P => ∃ d ds, view L ax = some d ∧ view L ay = some (.list ds) ∧ SeqAt.shaped d = true ∧ SeqAt.shaped (.list ds) = true ∧ P (.d (.bool (ds.any fun z => PyData.eqv z d))) L
def isNone : PyData → Bool
  | .none => true
  | _ => false
def aIsN : AV → AV → LS → AK → Prop := fun ax ay L P => match ax, ay with
  | .d x, .d .none => P (.d (.bool (isNone x))) L
  | _, _ => False
def aNotN : AV → AV → LS → AK → Prop := fun ax ay L P => match ax, ay with
  | .d x, .d .none => P (.d (.bool (!isNone x))) L
  | _, _ => False
/-- subscripts: of a list, of a tuple, of a list of the store, of the script -/
def aIxL : AV → AV → LS → AK → Prop := fun ax ay L P => match ax, ay with
  | .d (.list ds), .d (.int i) => ∃ d, atI ds i = some d ∧ P (.d d) L
  | .p a, .d (.int i) => ∃ avs av, L a = some avs ∧ atI avs i = some av ∧ P av L
  | .sc ns, .d (.int i) => ∃ n, atI ns i = some n ∧ P (.d (.int n)) L
  | _, _ => False
def aIxT : AV → AV → LS → AK → Prop := fun ax ay L P => match ax, ay with
  | .d (.tuple ds), .d (.int i) => ∃ d, atI ds i = some d ∧ P (.d d) L
  | _, _ => False

/-- of a list or a tuple -/
@[irreducible] def aIxQ : AV → AV → LS → AK → Prop := fun ax ay L P => match ax, ay with
  | .d (.list ds), .d (.int i) => ∃ d, atI ds i = some d ∧ P (.d d) L
  | .d (.tuple ds), .d (.int i) => ∃ d, atI ds i = some d ∧ P (.d d) L
  | _, _ => False
section
variable {X : Cx} {C : Addr} {a b e : Expr} {ta tb te : TE} {aa ab ae : ATE} {pos : Pos}
theorem ae_var (i : Nat) {x : Str} {pos : Pos} (hN : X.N[i]? = some x := by rfl) (hv : Vis X.env.scope x := by first | exact Or.inl rfl | exact Or.inr (Or.inl rfl) | exact Or.inr (Or.inr rfl)) (hd : (x == ("__debug__" : Str)) = false := by decide)
    (hcd : (x == ("__classdict__" : Str)) = false := by decide) : AE X C (.Name x pos) (tVar i) (aVar i) := by
  refine ⟨pe_var hN hv hd hcd, fun σ env G L H P Q r s h k => ?_⟩
  unfold aVar at h
  split at h
  · rename_i av e
    obtain ⟨v, h1, h2⟩ := r.at_ i av e
    exact ⟨v, h1, k v av G L H (Go.refl ..) s h2 h⟩
  · exact h.elim
theorem ae_varF (i : Nat) {x : Str} {pos : Pos} (hN : X.N[i]? = some x := by rfl) (hv : Vis X.env.scope x := by first | exact Or.inl rfl | exact Or.inr (Or.inl rfl) | exact Or.inr (Or.inr rfl)) (hd : (x == ("__debug__" : Str)) = false := by decide)
    (hcd : (x == ("__classdict__" : Str)) = false := by decide) : AE X C (.Name x pos) (tVar i) (aVarF i) := by
  refine ⟨pe_var hN hv hd hcd, fun σ env G L H P Q r s h k => ?_⟩
  unfold aVarF at h
  split at h
  · rename_i a e
    obtain ⟨ds, h1, h2⟩ := h
    obtain ⟨v, q1, q2⟩ := r.at_ i _ e
    obtain ⟨avs, e1, e2⟩ := Option.bind_eq_some_iff.mp h1
    obtain ⟨G', d1, s1, g1⟩ := s.frz e1 e2
    have q2 : v = .ref a := q2
    subst q2
    exact ⟨_, q1, k _ (.d (.list ds)) G' _ H g1 s1 d1 h2⟩
  · exact h.elim
theorem simE_c {K : PySem.W.Frag} {C : Addr} {v : V} {x : PyData} (h : ∀ G, Dv G v x) : SimE K C (tC v) (aC x) := fun σ env G L H P Q r s p k => k v (.d x) G L H (Go.refl ..) s (h G) p
theorem ae_int {i : Int} {j : Nat} : AE X C (.Constant (.int i) j pos) (tC (.int i)) (aC (.int i)) := ⟨pe_int, simE_c fun _ => .int i⟩
theorem ae_bl {i : Bool} {j : Nat} : AE X C (.Constant (.bool i) j pos) (tC (.bl i)) (aC (.bool i)) := ⟨pe_bl, simE_c fun _ => .bl i⟩
theorem ae_non {j : Nat} : AE X C (.Constant .none j pos) (tC .non) (aC .none) := ⟨pe_non, simE_c fun _ => .non⟩
theorem ae_str {x : Str} {j : Nat} : AE X C (.Constant (.str x) j pos) (tC (.str x)) (aC (.str x)) := ⟨pe_str, simE_c fun _ => .str x⟩
/-- a constant of the module: a text -/
theorem ae_globS {x z : Str} {t : Tok} (hg : Gl X x) (hm : X.mg x = some (.str z t)) (hd : (x == ("__debug__" : Str)) = false := by decide) : AE X C (.Name x pos) (tC (.str z)) (aC (.str z)) :=
  ⟨pe_glob hg hm ⟨t, rfl⟩ hd, simE_c fun _ => .str z⟩
theorem simE_op {K : PySem.W.Frag} {C : Addr} {r : R2} {ra : AV → AV → LS → AK → Prop} {ta tb : TE} {aa ab : ATE} (hr : SimR K C r ra) (ha : SimE K C ta aa) (hb : SimE K C tb ab) : SimE K C (tOp r ta tb) (aOp ra aa ab) := fun σ env G L H P Q rl s h k => by
  refine ha σ env G L H _ _ rl s h fun x ax G1 L1 H1 g1 s1 r1 h1 => ?_
  refine hb σ env G1 L1 H1 _ _ (rl.mono g1.ex) s1 h1 fun y ay G2 L2 H2 g2 s2 r2 h2 => ?_
  exact hr x y ax ay G2 L2 H2 P Q s2 (r1.mono g2.ex) r2 h2 fun v av G3 L3 H3 g3 s3 r3 p => k v av G3 L3 H3 ((g1.trans g2).trans g3) s3 r3 p
theorem ae_op {op : Operator} {r : R2} {ra : AV → AV → LS → AK → Prop} (ho : AO X C (binaryOp op) r ra) (ha : AE X C a ta aa) (hb : AE X C b tb ab) : AE X C (.BinOp a op b pos) (tOp r ta tb) (aOp ra aa ab) :=
  ⟨pe_op ho.op ha.pe hb.pe, simE_op ho.sim ha.sim hb.sim⟩
theorem ae_cmp {op : CmpOp} {r : R2} {ra : AV → AV → LS → AK → Prop} (ho : AO X C (compareOp op) r ra) (ha : AE X C a ta aa) (hb : AE X C b tb ab) (hm : behindInMarks op b = false := by first | exact nobehind _ (by decide) (by decide) | rfl) : AE X C (.Compare a [op] [b] pos) (tOp r ta tb) (aOp ra aa ab) :=
  ⟨pe_cmpR ho.op ha.pe hb.pe hm, simE_op ho.sim ha.sim hb.sim⟩
theorem ae_ix {r : R2} {ra : AV → AV → LS → AK → Prop} (ho : AI_ X C r ra) (ha : AE X C a ta aa) (hb : AE X C b tb ab) (hs : PlainIx b := by exact fun _ _ => rfl) : AE X C (.Subscript a b pos) (tOp r ta tb) (aOp ra aa ab) :=
  ⟨pe_ix ho.op ha.pe hb.pe hs, simE_op ho.sim ha.sim hb.sim⟩
end

/-! ### operations -/
section
variable {K : PySem.W.Frag} {C : Addr} {X : Cx}
theorem simR_I0 {g : Int → Int → V} {ga : Int → Int → PyData} (h : ∀ i j G, Dv G (g i j) (ga i j)) : SimR K C (rI0 g) (aI0 ga) := fun x y ax ay G L H P Q s rx ry q k => by
  unfold aI0 at q
  split at q
  · rename_i i j
    cases rx
    cases ry
    exact ⟨i, j, rfl, rfl, k _ (.d (ga i j)) G L H (Go.refl ..) s (h i j G) q⟩
  · exact q.elim
theorem simR_I {c : Int → Int → Prop} {g : Int → Int → V} {ga : Int → Int → PyData} (h : ∀ i j G, Dv G (g i j) (ga i j)) : SimR K C (rI c g) (aI c ga) := fun x y ax ay G L H P Q s rx ry q k => by
  unfold aI at q
  split at q
  · rename_i i j
    cases rx
    cases ry
    exact ⟨i, j, rfl, rfl, q.1, k _ (.d (ga i j)) G L H (Go.refl ..) s (h i j G) q.2⟩
  · exact q.elim
theorem ao_add : AO X C (binaryOp .Add) (rI0 fun i j => .int (i + j)) (aI0 fun i j => .int (i + j)) := ⟨op_add, simR_I0 fun _ _ _ => .int _⟩
theorem ao_sub : AO X C (binaryOp .Sub) (rI0 fun i j => .int (i - j)) (aI0 fun i j => .int (i - j)) := ⟨op_sub, simR_I0 fun _ _ _ => .int _⟩
theorem ao_mul : AO X C (binaryOp .Mult) (rI CMul fun i j => .int (i * j)) (aI CMul fun i j => .int (i * j)) := ⟨op_mul, simR_I fun _ _ _ => .int _⟩
theorem ao_mod : AO X C (binaryOp .Mod) (rI (fun _ j => 0 < j) fun i j => .int (i % j)) (aI (fun _ j => 0 < j) fun i j => .int (i % j)) := ⟨op_mod, simR_I fun _ _ _ => .int _⟩
theorem ao_fdiv : AO X C (binaryOp .FloorDiv) (rI CDiv fun i j => .int (i / j)) (aI CDiv fun i j => .int (i / j)) := ⟨op_fdiv, simR_I fun _ _ _ => .int _⟩
theorem ao_pow : AO X C (binaryOp .Pow) (rI CPow fun i j => .int (i ^ j.toNat)) (aI CPow fun i j => .int (i ^ j.toNat)) := ⟨op_pow, simR_I fun _ _ _ => .int _⟩
theorem ao_lt : AO X C (compareOp .Lt) (rI0 fun i j => .bl (decide (i < j))) (aI0 fun i j => .bool (decide (i < j))) := ⟨op_lt, simR_I0 fun _ _ _ => .bl _⟩
theorem ao_le : AO X C (compareOp .LtE) (rI0 fun i j => .bl (decide (i ≤ j))) (aI0 fun i j => .bool (decide (i ≤ j))) := ⟨op_le, simR_I0 fun _ _ _ => .bl _⟩
theorem ao_gt : AO X C (compareOp .Gt) (rI0 fun i j => .bl (decide (j < i))) (aI0 fun i j => .bool (decide (j < i))) := ⟨op_gt, simR_I0 fun _ _ _ => .bl _⟩
theorem ao_ge : AO X C (compareOp .GtE) (rI0 fun i j => .bl (decide (j ≤ i))) (aI0 fun i j => .bool (decide (j ≤ i))) := ⟨op_ge, simR_I0 fun _ _ _ => .bl _⟩
theorem dpAll_len {H : Hp} : ∀ {vs : List V} {ds : List PyData}, DpAll K H vs ds → vs.length = ds.length
  | _, _, .nil => rfl
  | _, _, .cons _ t => by rw [List.length_cons, List.length_cons, dpAll_len t]
theorem view_dp {G H : Hp} {L : LS} {v : V} {av : AV} {d : PyData} (s : RS K C G L H) (r : Rp K C G v av) (e : view L av = some d) : Dp K H v d := by
  cases av with
  | d x =>
    cases e
    exact (Dv.mono s.ex r).dp
  | p a =>
    have r : v = .ref a := r
    subst r
    have e : ((L a).bind allD).map PyData.list = some d := e
    obtain ⟨ds, e1, rfl⟩ := Option.map_eq_some_iff.mp e
    obtain ⟨avs, h1, h2⟩ := Option.bind_eq_some_iff.mp e1
    obtain ⟨_, xs, h3, h4⟩ := s.ls a avs h1
    exact .lst (SqL.of h3) ((h4.d h2).mono s.ex).dp
  | pl _ _ => cases e
  | dc _ => cases e
  | sc _ => cases e
theorem simR_eqD : SimR K C (rEqD K) aEqD := fun x y ax ay G L H P Q s rx ry q k => by
  obtain ⟨d, e, h1, h2, h3, h4, p⟩ := q
  exact ⟨d, e, view_dp s rx h1, view_dp s ry h2, h3, h4, k _ (.d (.bool _)) G L H (Go.refl ..) s (.bl _) p⟩
theorem simR_neD : SimR K C (rNeD K) aNeD := fun x y ax ay G L H P Q s rx ry q k => by
  obtain ⟨d, e, h1, h2, h3, h4, p⟩ := q
  exact ⟨d, e, view_dp s rx h1, view_dp s ry h2, h3, h4, k _ (.d (.bool _)) G L H (Go.refl ..) s (.bl _) p⟩
theorem simR_inD : SimR K C (rInD K) aInD := fun x y ax ay G L H P Q s rx ry q k => by
  obtain ⟨d, e, h1, h2, h3, h4, p⟩ := q
  exact ⟨d, e, view_dp s rx h1, view_dp s ry h2, h3, h4, k _ (.d (.bool _)) G L H (Go.refl ..) s (.bl _) p⟩
theorem ao_eq (K : PySem.W.Frag) (hu : X.A.units + 64 < cLine) (hK : X.K = K := by rfl) : AO X C (compareOp .Eq) (rEqD K) aEqD := by
  subst hK
  exact ⟨op_eqD hu, simR_eqD⟩
theorem ao_ne (K : PySem.W.Frag) (hu : X.A.units + 64 < cLine) (hK : X.K = K := by rfl) : AO X C (compareOp .NotEq) (rNeD K) aNeD := by
  subst hK
  exact ⟨op_neD hu, simR_neD⟩
theorem ao_in (K : PySem.W.Frag) (hu : X.A.units + 65 < cLine) (hK : X.K = K := by rfl) : AO X C (compareOp .In) (rInD K) aInD := by
  subst hK
  exact ⟨op_inD hu, simR_inD⟩
theorem dv_non {G : Hp} {v : V} {x : PyData} (h : Dv G v x) : decide (v = .non) = isNone x := by
  cases h <;> rfl
theorem ao_isN : AO X C (compareOp .Is) (fun x y H Q => y = .non ∧ Q (.bl (decide (x = .non))) H) aIsN := ⟨op_isN, fun x y ax ay G L H P Q s rx ry q k => by
  unfold aIsN at q
  split at q
  · rename_i z
    cases ry
    have e := dv_non rx
    rw [e]
    exact ⟨rfl, k _ (.d (.bool _)) G L H (Go.refl ..) s (.bl _) q⟩
  · exact q.elim⟩
theorem ao_notN : AO X C (compareOp .IsNot) (fun x y H Q => y = .non ∧ Q (.bl (!decide (x = .non))) H) aNotN := ⟨op_notN, fun x y ax ay G L H P Q s rx ry q k => by
  unfold aNotN at q
  split at q
  · rename_i z
    cases ry
    have e := dv_non rx
    rw [e]
    exact ⟨rfl, k _ (.d (.bool _)) G L H (Go.refl ..) s (.bl _) q⟩
  · exact q.elim⟩
theorem simR_ixL : SimR K C (rIxL K) aIxL := fun x y ax ay G L H P Q s rx ry q k => by
  unfold aIxL at q
  split at q
  · obtain ⟨d, e, p⟩ := q
    cases ry
    cases rx with
    | lst h1 h2 =>
      obtain ⟨v, h3, h4⟩ := h2.at_ e
      exact ⟨_, _, _, v, rfl, rfl, SqL.of (s.ex _ _ h1), h3, k v (.d d) G L H (Go.refl ..) s h4 p⟩
  · obtain ⟨avs, av, e1, e2, p⟩ := q
    cases ry
    have rx : x = _ := rx
    subst rx
    obtain ⟨_, xs, h3, h4⟩ := s.ls _ avs e1
    obtain ⟨v, h5, h6⟩ := h4.at_ e2
    exact ⟨_, xs, _, v, rfl, rfl, SqL.of h3, h5, k v av G L H (Go.refl ..) s h6 p⟩
  · rename_i ns i
    obtain ⟨n, e, p⟩ := q
    cases ry
    obtain ⟨a, rfl, h1⟩ := rx
    refine ⟨a, _, _, .int n, rfl, rfl, sql_mono s.ex h1, ?_, k _ (.d (.int n)) G L H (Go.refl ..) s (.int n) p⟩
    unfold atI at e ⊢
    rw [List.length_map]
    cases z : ixN ns.length i with
    | none =>
      rw [z] at e
      cases e
    | some j =>
      rw [z] at e
      have e : ns[j]? = some n := e
      show (ns.map V.int)[j]? = some (V.int n)
      rw [List.getElem?_map, e]
      rfl
  · exact q.elim
theorem simR_ixT : SimR K C (rIxT K) aIxT := fun x y ax ay G L H P Q s rx ry q k => by
  unfold aIxT at q
  split at q
  · obtain ⟨d, e, p⟩ := q
    cases ry
    cases rx with
    | tup h1 h2 =>
      obtain ⟨v, h3, h4⟩ := h2.at_ e
      exact ⟨_, _, _, v, rfl, rfl, SqT.of (s.ex _ _ h1), h3, k v (.d d) G L H (Go.refl ..) s h4 p⟩
  · exact q.elim
theorem simR_ixQ : SimR K C (rIx K) aIxQ := fun x y ax ay G L H P Q s rx ry q k => by
  unfold aIxQ at q
  split at q
  · obtain ⟨d, e, p⟩ := q
    cases ry
    cases rx with
    | lst h1 h2 =>
      obtain ⟨v, h3, h4⟩ := h2.at_ e
      exact .inl ⟨_, _, _, v, rfl, rfl, SqL.of (s.ex _ _ h1), h3, k v (.d d) G L H (Go.refl ..) s h4 p⟩
  · obtain ⟨d, e, p⟩ := q
    cases ry
    cases rx with
    | tup h1 h2 =>
      obtain ⟨v, h3, h4⟩ := h2.at_ e
      exact .inr (.inl ⟨_, _, _, v, rfl, rfl, SqT.of (s.ex _ _ h1), h3, k v (.d d) G L H (Go.refl ..) s h4 p⟩)
  · exact q.elim
theorem ai_seq (K : PySem.W.Frag) (hK : X.K = K := by rfl) : AI_ X C (rIx K) aIxQ := by
  subst hK
  exact ⟨ix_seq, simR_ixQ⟩
theorem ai_list (K : PySem.W.Frag) (hK : X.K = K := by rfl) : AI_ X C (rIxL K) aIxL := by
  subst hK
  exact ⟨ix_list, simR_ixL⟩
theorem ai_tup (K : PySem.W.Frag) (hK : X.K = K := by rfl) : AI_ X C (rIxT K) aIxT := by
  subst hK
  exact ⟨ix_tup, simR_ixT⟩
end

/-! ### tests, and, or, not, if -/
def aTest (ae : ATE) : ATT := fun env L P => ae env L fun x L1 => match x with
  | .d (.bool b) => P b L1
  | _ => False
def aAnd (t u : ATT) : ATT := fun env L P => t env L fun c L1 => (c = true → u env L1 P) ∧ (c = false → P false L1)
def aOr (t u : ATT) : ATT := fun env L P => t env L fun c L1 => (c = true → P true L1) ∧ (c = false → u env L1 P)
def aNot (t : ATT) : ATT := fun env L P => t env L fun c L1 => P (!c) L1
def aAndV (aa ab : ATE) : ATE := fun env L P => aa env L fun x L1 => match x with
  | .d (.bool c) => (c = true → ab env L1 P) ∧ (c = false → P (.d (.bool false)) L1)
  | _ => False
def aOrV (aa ab : ATE) : ATE := fun env L P => aa env L fun x L1 => match x with
  | .d (.bool c) => (c = true → P (.d (.bool true)) L1) ∧ (c = false → ab env L1 P)
  | _ => False
def aNotV (aa : ATE) : ATE := fun env L P => aa env L fun x L1 => match x with
  | .d (.bool c) => P (.d (.bool (!c))) L1
  | _ => False
def aIf (t : ATT) (aa ab : ATE) : ATE := fun env L P => t env L fun c L1 => (c = true → aa env L1 P) ∧ (c = false → ab env L1 P)
section
variable {X : Cx} {C : Addr} {a b c e : Expr} {rest : List Expr} {ta tb te : TE} {aa ab ae : ATE} {t u : TT} {at_ au : ATT} {pos : Pos} {K : PySem.W.Frag}
theorem simT_B (h : SimE K C te ae) : SimT K C (tB te) (aTest ae) := fun σ env G L H P Q r s q k => by
  refine h σ env G L H _ _ r s q fun v av G1 L1 H1 g1 s1 r1 p => ?_
  split at p
  · cases r1
    exact ⟨_, rfl, k _ G1 L1 H1 g1 s1 p⟩
  · exact p.elim
theorem simT_test (h : SimE K C te ae) : SimT K C (tTest te) (aTest ae) := fun σ env G L H P Q r s q k => by
  refine h σ env G L H _ _ r s q fun v av G1 L1 H1 g1 s1 r1 p => ?_
  split at p
  · cases r1
    exact ⟨_, rfl, k _ G1 L1 H1 g1 s1 p⟩
  · exact p.elim
theorem at_val (h : AE X C e te ae) (he : ∀ whole, isTrue e X.env whole = (do let v ← whole; standAt e.pos; holding [v] (truthy v)) := by intro _; rfl) : AT X C e (tB te) (aTest ae) := ⟨pt_val h.pe he, simT_B h.sim⟩
theorem at_cmp {op : CmpOp} {r : R2} {ra : AV → AV → LS → AK → Prop} (ho : AO X C (compareOp op) r ra) (ha : AE X C a ta aa) (hb : AE X C b tb ab) (hm : behindInMarks op b = false := by first | exact nobehind _ (by decide) (by decide) | rfl) : AT X C (.Compare a [op] [b] pos) (tTest (tOp r ta tb)) (aTest (aOp ra aa ab)) :=
  ⟨pt_cmpR ho.op ha.pe hb.pe hm, simT_test (simE_op ho.sim ha.sim hb.sim)⟩
theorem simT_and (h1 : SimT K C t at_) (h2 : SimT K C u au) : SimT K C (tAnd t u) (aAnd at_ au) := fun σ env G L H P Q r s q k => by
  refine h1 σ env G L H _ _ r s q fun b G1 L1 H1 g1 s1 p => ?_
  cases b with
  | true =>
    rw [if_pos rfl]
    exact h2 σ env G1 L1 H1 P Q (r.mono g1.ex) s1 (p.1 rfl) fun b G2 L2 H2 g2 s2 p2 => k b G2 L2 H2 (g1.trans g2) s2 p2
  | false =>
    rw [if_neg Bool.false_ne_true]
    exact k false G1 L1 H1 g1 s1 (p.2 rfl)
theorem simT_or (h1 : SimT K C t at_) (h2 : SimT K C u au) : SimT K C (tOr t u) (aOr at_ au) := fun σ env G L H P Q r s q k => by
  refine h1 σ env G L H _ _ r s q fun b G1 L1 H1 g1 s1 p => ?_
  cases b with
  | true =>
    rw [if_pos rfl]
    exact k true G1 L1 H1 g1 s1 (p.1 rfl)
  | false =>
    rw [if_neg Bool.false_ne_true]
    exact h2 σ env G1 L1 H1 P Q (r.mono g1.ex) s1 (p.2 rfl) fun b G2 L2 H2 g2 s2 p2 => k b G2 L2 H2 (g1.trans g2) s2 p2
theorem aw_and1 (h : AT X C a t at_) : AW X C (.BoolOp .And [a] pos) t at_ := ⟨pw_and1 h.pt, h.sim⟩
theorem aw_or1 (h : AT X C a t at_) : AW X C (.BoolOp .Or [a] pos) t at_ := ⟨pw_or1 h.pt, h.sim⟩
theorem aw_and (h1 : AT X C a t at_) (h2 : AW X C (.BoolOp .And (b :: rest) pos) u au) : AW X C (.BoolOp .And (a :: b :: rest) pos) (tAnd t u) (aAnd at_ au) := ⟨pw_and h1.pt h2.pw, simT_and h1.sim h2.sim⟩
theorem aw_or (h1 : AT X C a t at_) (h2 : AW X C (.BoolOp .Or (b :: rest) pos) u au) : AW X C (.BoolOp .Or (a :: b :: rest) pos) (tOr t u) (aOr at_ au) := ⟨pw_or h1.pt h2.pw, simT_or h1.sim h2.sim⟩
theorem AW.toT (h : AW X C e t at_) : AT X C e t at_ := ⟨h.pw.pt, h.sim⟩
theorem at_not (h : AT X C a t at_) : AT X C (.UnaryOp .Not a pos) (tNot t) (aNot at_) := ⟨pt_not h.pt, fun σ env G L H P Q r s q k => h.sim σ env G L H _ _ r s q fun b G1 L1 H1 g1 s1 p => k (!b) G1 L1 H1 g1 s1 p⟩
theorem ae_one {op : BoolOp} (h : AE X C a te ae) : AE X C (.BoolOp op [a] pos) te ae := ⟨pe_one h.pe, h.sim⟩
theorem ae_and (h1 : AE X C a ta aa) (h2 : AE X C (.BoolOp .And (b :: rest) pos) tb ab) : AE X C (.BoolOp .And (a :: b :: rest) pos) (tAndV ta tb) (aAndV aa ab) := ⟨pe_and h1.pe h2.pe, fun σ env G L H P Q r s q k => by
  refine h1.sim σ env G L H _ _ r s q fun v av G1 L1 H1 g1 s1 r1 p => ?_
  split at p
  · rename_i c
    cases r1
    refine ⟨c, rfl, ?_⟩
    cases c with
    | true =>
      rw [if_pos rfl]
      exact h2.sim σ env G1 L1 H1 P Q (r.mono g1.ex) s1 (p.1 rfl) fun v av G2 L2 H2 g2 s2 r2 p2 => k v av G2 L2 H2 (g1.trans g2) s2 r2 p2
    | false =>
      rw [if_neg Bool.false_ne_true]
      exact k _ (.d (.bool _)) G1 L1 H1 g1 s1 (.bl _) (p.2 rfl)
  · exact p.elim⟩
theorem ae_or (h1 : AE X C a ta aa) (h2 : AE X C (.BoolOp .Or (b :: rest) pos) tb ab) : AE X C (.BoolOp .Or (a :: b :: rest) pos) (tOrV ta tb) (aOrV aa ab) := ⟨pe_or h1.pe h2.pe, fun σ env G L H P Q r s q k => by
  refine h1.sim σ env G L H _ _ r s q fun v av G1 L1 H1 g1 s1 r1 p => ?_
  split at p
  · rename_i c
    cases r1
    refine ⟨c, rfl, ?_⟩
    cases c with
    | true =>
      rw [if_pos rfl]
      exact k _ (.d (.bool _)) G1 L1 H1 g1 s1 (.bl _) (p.1 rfl)
    | false =>
      rw [if_neg Bool.false_ne_true]
      exact h2.sim σ env G1 L1 H1 P Q (r.mono g1.ex) s1 (p.2 rfl) fun v av G2 L2 H2 g2 s2 r2 p2 => k v av G2 L2 H2 (g1.trans g2) s2 r2 p2
  · exact p.elim⟩
theorem ae_not (h1 : AE X C a ta aa) : AE X C (.UnaryOp .Not a pos) (tNotV ta) (aNotV aa) := ⟨pe_not h1.pe, fun σ env G L H P Q r s q k => by
  refine h1.sim σ env G L H _ _ r s q fun v av G1 L1 H1 g1 s1 r1 p => ?_
  split at p
  · rename_i c
    cases r1
    exact ⟨c, rfl, k _ (.d (.bool _)) G1 L1 H1 g1 s1 (.bl _) p⟩
  · exact p.elim⟩
theorem ae_if (hc : AT X C c t at_) (h1 : AE X C a ta aa) (h2 : AE X C b tb ab) : AE X C (.IfExp c a b pos) (tIf t ta tb) (aIf at_ aa ab) := ⟨pe_ifExp hc.pt h1.pe h2.pe, fun σ env G L H P Q r s q k => by
  refine hc.sim σ env G L H _ _ r s q fun c G1 L1 H1 g1 s1 p => ?_
  cases c with
  | true =>
    rw [if_pos rfl]
    exact h1.sim σ env G1 L1 H1 P Q (r.mono g1.ex) s1 (p.1 rfl) fun v av G2 L2 H2 g2 s2 r2 p2 => k v av G2 L2 H2 (g1.trans g2) s2 r2 p2
  | false =>
    rw [if_neg Bool.false_ne_true]
    exact h2.sim σ env G1 L1 H1 P Q (r.mono g1.ex) s1 (p.2 rfl) fun v av G2 L2 H2 g2 s2 r2 p2 => k v av G2 L2 H2 (g1.trans g2) s2 r2 p2⟩
end

/-! ### argument lists, displays, slices -/
def aNil : ATA := fun _ L P => P [] L
def aCons (aa : ATE) (ar : ATA) : ATA := fun env L P => aa env L fun x L1 => ar env L1 fun xs L2 => P (x :: xs) L2
def aStar (aa : ATE) (ar : ATA) : ATA := fun env L P => aa env L fun x L1 => match x with
  | .d (.list ds) => ar env L1 fun xs L2 => P (ds.map AV.d ++ xs) L2
  | .d (.tuple ds) => ar env L1 fun xs L2 => P (ds.map AV.d ++ xs) L2
  | _ => False
def aTup (aa : ATA) : ATE := fun env L P => aa env L fun xs L1 => ∃ ds, allD xs = some ds ∧ ds.length ≤ 100000 ∧ P (.d (.tuple ds)) L1
def aLst (aa : ATA) : ATE := fun env L P => aa env L fun xs L1 => ∃ ds, allD xs = some ds ∧ ds.length ≤ 100000 ∧ P (.d (.list ds)) L1
/-- a new list of the store -/
def aLstM (aa : ATA) : ATE := fun env L P => aa env L fun xs L1 => xs.length ≤ 100000 ∧ ∀ p, L1 p = none → P (.p p) (put L1 p xs)
abbrev ATO := Env → LS → (Option Int → LS → Prop) → Prop
def aNoPart : ATO := fun _ L P => P none L
def aPart (aa : ATE) : ATO := fun env L P => aa env L fun x L1 => match x with
  | .d (.int i) => P (some i) L1
  | _ => False
def cutD {α : Type} (xs : List α) (lo hi : Option Int) : List α := (xs.drop (HT.sIx xs.length 0 lo)).take (HT.sIx xs.length xs.length hi - HT.sIx xs.length 0 lo)
def aSlL (aa : ATE) (al ah : ATO) : ATE := fun env L P => aa env L fun x L1 => al env L1 fun lo L2 => ah env L2 fun hi L3 => match x with
  | .d (.list ds) => P (.d (.list (cutD ds lo hi))) L3
  | .sc ns => P (.d (.list ((cutD ns lo hi).map PyData.int))) L3
  | _ => False
def aSlT (aa : ATE) (al ah : ATO) : ATE := fun env L P => aa env L fun x L1 => al env L1 fun lo L2 => ah env L2 fun hi L3 => match x with
  | .d (.tuple ds) => P (.d (.tuple (cutD ds lo hi))) L3
  | _ => False
section
variable {X : Cx} {C : Addr} {e : Expr} {es : List Expr} {te : TE} {ae : ATE} {t : TA} {aa : ATA} {pos p2 : Pos} {K : PySem.W.Frag} {lo hi : Option Expr} {tl th : TO} {al ah : ATO}
theorem aa_nil : AA X C [] tNil aNil := ⟨pa_nil, fun σ env G L H P Q r s q k => k [] [] G L H (Go.refl ..) s .nil q⟩
theorem simA_cons (h : SimE K C te ae) (hr : SimA K C t aa) : SimA K C (tCons te t) (aCons ae aa) := fun σ env G L H P Q r s q k => by
  refine h σ env G L H _ _ r s q fun v av G1 L1 H1 g1 s1 r1 p => ?_
  exact hr σ env G1 L1 H1 _ _ (r.mono g1.ex) s1 p fun vs avs G2 L2 H2 g2 s2 r2 p2 => k _ _ G2 L2 H2 (g1.trans g2) s2 (.cons (r1.mono g2.ex) r2) p2
theorem aa_cons (h : AE X C e te ae) (hr : AA X C es t aa) (hs : starEach (e :: es) X.env = (false, eval e X.env) :: starEach es X.env := by rfl) : AA X C (e :: es) (tCons te t) (aCons ae aa) := ⟨pa_cons h.pe hr.pa hs, simA_cons h.sim hr.sim⟩
theorem aa_star (K : PySem.W.Frag) (h : AE X C e te ae) (hr : AA X C es t aa) (hs : starEach (.Starred e pos :: es) X.env = (true, eval e X.env) :: starEach es X.env := by rfl) (hK : X.K = K := by rfl) : AA X C (.Starred e pos :: es) (StX.tStar K te t) (aStar ae aa) := by
  subst hK
  exact ⟨StX.pa_star h.pe hr.pa hs, fun σ env G L H P Q r s q k => by
      refine h.sim σ env G L H _ _ r s q fun v av G1 L1 H1 g1 s1 r1 p => ?_
      split at p
      · cases r1 with
        | lst h1 h2 =>
          exact ⟨_, _, rfl, .inr (SqL.of (s1.ex _ _ h1)), hr.sim σ env G1 L1 H1 _ _ (r.mono g1.ex) s1 p fun vs avs G2 L2 H2 g2 s2 r2 p2 => k _ _ G2 L2 H2 (g1.trans g2) s2 ((RpAll.ofD (h2.mono g2.ex)).append r2) p2⟩
      · cases r1 with
        | tup h1 h2 =>
          exact ⟨_, _, rfl, .inl (SqT.of (s1.ex _ _ h1)), hr.sim σ env G1 L1 H1 _ _ (r.mono g1.ex) s1 p fun vs avs G2 L2 H2 g2 s2 r2 p2 => k _ _ G2 L2 H2 (g1.trans g2) s2 ((RpAll.ofD (h2.mono g2.ex)).append r2) p2⟩
      · exact p.elim⟩
theorem sz_of {n : Nat} (h : n ≤ 100000) : n ≤ sizeLine := Nat.le_trans h (by decide)
theorem sz_lt {n : Nat} (h : n < 100000) : n < sizeLine := Nat.lt_of_lt_of_le h (by decide)
theorem ae_tup {x1 : Nat} (h : AA X C es t aa) : AE X C (.Tuple es x1 pos) (tTup t) (aTup aa) := ⟨pe_tup h.pa, fun σ env G L H P Q r s q k => by
  refine h.sim σ env G L H _ _ r s q fun vs avs G1 L1 H1 g1 s1 r1 p => ?_
  obtain ⟨ds, e1, hl, p⟩ := p
  have rd := r1.d e1
  refine ⟨by rw [rd.length]; exact sz_of hl, fun a ha => ?_⟩
  obtain ⟨s2, g2⟩ := s1.newD (o := .tup vs) ha
  exact k _ (.d _) _ _ _ (g1.trans g2) s2 (.tup upd_same (rd.mono g2.ex)) p⟩
theorem ae_lst (h : AA X C es t aa) : AE X C (.List es pos) (tLst t) (aLst aa) := ⟨pe_lst h.pa, fun σ env G L H P Q r s q k => by
  refine h.sim σ env G L H _ _ r s q fun vs avs G1 L1 H1 g1 s1 r1 p => ?_
  obtain ⟨ds, e1, hl, p⟩ := p
  have rd := r1.d e1
  refine ⟨by rw [rd.length]; exact sz_of hl, fun a ha => ?_⟩
  obtain ⟨s2, g2⟩ := s1.newD (o := .lst vs) ha
  exact k _ (.d _) _ _ _ (g1.trans g2) s2 (.lst upd_same (rd.mono g2.ex)) p⟩
theorem ae_lstM (h : AA X C es t aa) : AE X C (.List es pos) (tLst t) (aLstM aa) := ⟨pe_lst h.pa, fun σ env G L H P Q r s q k => by
  refine h.sim σ env G L H _ _ r s q fun vs avs G1 L1 H1 g1 s1 r1 p => ?_
  refine ⟨by rw [r1.length]; exact sz_of p.1, fun a ha => ?_⟩
  obtain ⟨s2, g2⟩ := s1.newL ha r1
  exact k _ (.p a) _ _ _ (g1.trans g2) s2 rfl (p.2 a (s1.fresh ha))⟩
structure AOp (X : Cx) (C : Addr) (e : Option Expr) (t : TO) (al : ATO) : Prop where
  po : PO X e t
  sim : ∀ (σ : L2.St) (env : Env) (G : Hp) (L : LS) (H : Hp) (P : Option Int → LS → Prop) (Q : Option Int → Hp → Prop), Rel X.K C σ env G → RS X.K C G L H → al env L P →
    (∀ (o : Option Int) (G' : Hp) (L' : LS) (H' : Hp), Go G L H G' L' H' → RS X.K C G' L' H' → P o L' → Q o H') → t σ H Q
theorem ap_none : AOp X C none tNoPart aNoPart := ⟨po_none, fun σ env G L H P Q r s q k => k none G L H (Go.refl ..) s q⟩
theorem ap_some (h : AE X C e te ae) : AOp X C (some e) (tPart te) (aPart ae) := ⟨po_some h.pe, fun σ env G L H P Q r s q k => by
  refine h.sim σ env G L H _ _ r s q fun v av G1 L1 H1 g1 s1 r1 p => ?_
  split at p
  · cases r1
    exact ⟨_, rfl, k _ G1 L1 H1 g1 s1 p⟩
  · exact p.elim⟩
theorem DvAll.cut {G : Hp} {vs : List V} {ds : List PyData} (lo hi : Option Int) (h : DvAll G vs ds) : DvAll G (cutV vs lo hi) (cutD ds lo hi) := by
  unfold cutV cutD
  rw [h.length]
  exact (h.drop _).take _
theorem ae_slL (K : PySem.W.Frag) (h : AE X C e te ae) (hl : AOp X C lo tl al) (hh : AOp X C hi th ah) (hK : X.K = K := by rfl) : AE X C (.Subscript e (.Slice lo hi none p2) pos) (tSl (rSlL K) te tl th) (aSlL ae al ah) := by
  subst hK
  exact ⟨pe_slice sl_list h.pe hl.po hh.po, fun σ env G L H P Q r s q k => by
    refine h.sim σ env G L H _ _ r s q fun v av G1 L1 H1 g1 s1 r1 p => ?_
    refine hl.sim σ env G1 L1 H1 _ _ (r.mono g1.ex) s1 p fun o1 G2 L2 H2 g2 s2 p2 => ?_
    refine hh.sim σ env G2 L2 H2 _ _ (r.mono (g1.trans g2).ex) s2 p2 fun o2 G3 L3 H3 g3 s3 p3 => ?_
    have r3 := r1.mono (g2.trans g3).ex
    split at p3
    · cases r3 with
      | lst h1 h2 =>
        refine ⟨_, _, rfl, SqL.of (s3.ex _ _ h1), fun a ha => ?_⟩
        obtain ⟨s4, g4⟩ := s3.newD (o := .lst (cutV _ o1 o2)) ha
        exact k _ (.d _) _ _ _ (((g1.trans g2).trans g3).trans g4) s4 (.lst upd_same ((h2.cut o1 o2).mono g4.ex)) p3
    · rename_i ns
      obtain ⟨a0, rfl, h1⟩ := r3
      refine ⟨_, _, rfl, sql_mono s3.ex h1, fun a ha => ?_⟩
      obtain ⟨s4, g4⟩ := s3.newD (o := .lst (cutV _ o1 o2)) ha
      refine k _ (.d _) _ _ _ (((g1.trans g2).trans g3).trans g4) s4 (.lst upd_same ?_) p3
      have e : cutV (ns.map V.int) o1 o2 = (cutD ns o1 o2).map V.int := by
        unfold cutV cutD
        rw [List.length_map, List.map_take, List.map_drop]
      rw [e]
      exact DvAll.of_ints _
    · exact p3.elim⟩
theorem ae_slT (K : PySem.W.Frag) (h : AE X C e te ae) (hl : AOp X C lo tl al) (hh : AOp X C hi th ah) (hK : X.K = K := by rfl) : AE X C (.Subscript e (.Slice lo hi none p2) pos) (tSl (rSlA K) te tl th) (aSlT ae al ah) := by
  subst hK
  exact ⟨pe_slice sl_tupA h.pe hl.po hh.po, fun σ env G L H P Q r s q k => by
    refine h.sim σ env G L H _ _ r s q fun v av G1 L1 H1 g1 s1 r1 p => ?_
    refine hl.sim σ env G1 L1 H1 _ _ (r.mono g1.ex) s1 p fun o1 G2 L2 H2 g2 s2 p2 => ?_
    refine hh.sim σ env G2 L2 H2 _ _ (r.mono (g1.trans g2).ex) s2 p2 fun o2 G3 L3 H3 g3 s3 p3 => ?_
    have r3 := r1.mono (g2.trans g3).ex
    split at p3
    · cases r3 with
      | tup h1 h2 =>
        rename_i ds a0 xs
        refine ⟨_, _, rfl, SqT.of (s3.ex _ _ h1), fun hw => ?_, fun hw a ha => ?_⟩
        · refine k _ (.d _) _ _ _ ((g1.trans g2).trans g3) s3 (.tup h1 ?_) p3
          have e : cutV xs o1 o2 = xs := by
            unfold cutV
            rw [hw.1, hw.2, List.drop_zero, Nat.sub_zero, List.take_length]
          rw [← e]
          exact h2.cut o1 o2
        · obtain ⟨s4, g4⟩ := s3.newD (o := .tup (cutV _ o1 o2)) ha
          exact k _ (.d _) _ _ _ (((g1.trans g2).trans g3).trans g4) s4 (.tup upd_same ((h2.cut o1 o2).mono g4.ex)) p3
    · exact p3.elim⟩
end
end VS

set_option Elab.async false
set_option linter.all false
set_option maxRecDepth 100000
set_option maxHeartbeats 4000000
set_option autoImplicit false
namespace VS
open PySem L2

/-! ### a def's promise, its call -/
def spA (K : PySem.W.Frag) (C : Addr) (FF : List AV → LS → AK → Prop) : Sp := fun vs H Q _ => ∃ (G : Hp) (L : LS) (avs : List AV) (P : AK), RS K C G L H ∧ RpAll K C G vs avs ∧ FF avs L P ∧
  ∀ (v : V) (av : AV) (G' : Hp) (L' : LS) (H' : Hp), Go G L H G' L' H' → RS K C G' L' H' → Rp K C G' v av → P av L' → Q v H'
def aCall (FF : List AV → LS → AK → Prop) (aa : ATA) : ATE := fun env L P => aa env L fun avs L1 => FF avs L1 P
section
variable {X : Cx} {C : Addr} {e : Expr} {es : List Expr} {te : TE} {ae : ATE} {t : TA} {aa : ATA} {pos p : Pos} {K : PySem.W.Frag} {k : Nat} {f : Addr} {fd : FuncData} {ps : List Str} {x : Str} {FF : List AV → LS → AK → Prop}
theorem ae_call (K : PySem.W.Frag) (F : FnOk X.prog X.w X.K X.mg X.base CX0 k f fd ps (spA X.K C FF)) (hr : Room k X.A) (hg : Gl X x) (hm : X.mg x = some (.ref f)) (hk : PySem.W.keepIn X.K (.ref f) = true) (hb : Binds X.K fd ps [])
    (ha : AA X C (e :: es) t aa) (hdb : (x == ("__debug__" : Str)) = false := by decide) (he : starEach (e :: es) X.env = (false, eval e X.env) :: starEach es X.env := by rfl) (hpl : (backTo pos (starEach es X.env)).any (·.1) = false := by rfl) (hK : X.K = K := by rfl) :
    AE X C (.Call (.Name x p) (e :: es) [] pos) (tCall (spA K C FF) [] E0 t) (aCall FF aa) := by
  subst hK
  exact ⟨pe_call F hr hg hm hk hb .nil pass0 ha.pa hdb he hpl, fun σ env G L H P Q r s q kk => by
    refine ha.sim σ env G L H _ _ r s q fun vs avs G1 L1 H1 g1 s1 r1 p => ?_
    rw [List.append_nil]
    exact ⟨G1, L1, avs, P, s1, r1, p, fun v av G2 L2 H2 g2 s2 r2 p2 => kk v av G2 L2 H2 (g1.trans g2) s2 r2 p2⟩⟩
/-- built-ins by value -/
def aCB (ra : List AV → LS → AK → Prop) (aa : ATA) : ATE := fun env L P => aa env L fun avs L1 => ra avs L1 P
theorem simE_cb {r : List V → Hp → VK → Prop} {ra : List AV → LS → AK → Prop} (hr : SimC K C r ra) (ha : SimA K C t aa) : SimE K C (tCB r t) (aCB ra aa) := fun σ env G L H P Q rl s q k => by
  refine ha σ env G L H _ _ rl s q fun vs avs G1 L1 H1 g1 s1 r1 p => ?_
  exact hr vs avs G1 L1 H1 P Q s1 r1 p fun v av G2 L2 H2 g2 s2 r2 p2 => k v av G2 L2 H2 (g1.trans g2) s2 r2 p2
theorem ae_callB {id : String} {r : List V → Hp → VK → Prop} {ra : List AV → LS → AK → Prop} (hc : AC X C (.builtin id) r ra) (hg : Gl X x) (hm : X.mg x = none) (hv : bootBuiltins x = some (.builtin id)) (ha : AA X C (e :: es) t aa) (hn : x ≠ "__name__" := by decide) (hdb : (x == ("__debug__" : Str)) = false := by decide)
    (he : starEach (e :: es) X.env = (false, eval e X.env) :: starEach es X.env := by rfl) (hpl : (backTo pos (starEach es X.env)).any (·.1) = false := by rfl) : AE X C (.Call (.Name x p) (e :: es) [] pos) (tCB r t) (aCB ra aa) :=
  ⟨pe_callB hc.op hg hm hv ha.pa hn hdb he hpl, simE_cb hc.sim ha.sim⟩
theorem ae_callTy {T : String} {r : List V → Hp → VK → Prop} {ra : List AV → LS → AK → Prop} (hc : AC X C (.type T) r ra) (hg : Gl X x) (hm : X.mg x = none) (hv : bootBuiltins x = some (.type T)) (ha : AA X C (e :: es) t aa) (hn : x ≠ "__name__" := by decide) (hdb : (x == ("__debug__" : Str)) = false := by decide)
    (he : starEach (e :: es) X.env = (false, eval e X.env) :: starEach es X.env := by rfl) (hpl : (backTo pos (starEach es X.env)).any (·.1) = false := by rfl) : AE X C (.Call (.Name x p) (e :: es) [] pos) (tCB r t) (aCB ra aa) :=
  ⟨pe_callTy hc.op hg hm hv ha.pa hn hdb he hpl, simE_cb hc.sim ha.sim⟩
end

/-! ### the built-ins -/
def lenOf (L : LS) : AV → Option Nat
  | .d (.list ds) => some ds.length
  | .d (.tuple ds) => some ds.length
  | .p a => (L a).map List.length
  | .sc ns => some ns.length
  | _ => none
def aLen : List AV → LS → AK → Prop := fun avs L P => match avs with
  | [a] => ∃ n, lenOf L a = some n ∧ P (.d (.int n)) L
  | _ => False
def aLenS : List AV → LS → AK → Prop := fun avs L P => match avs with
  | [.d (.str z)] => z.length ≤ 100000 ∧ P (.d (.int z.length)) L
  | _ => False
def aInt : List AV → LS → AK → Prop := fun avs L P => match avs with
  | [.d (.int i)] => P (.d (.int i)) L
  | [.d (.bool b)] => P (.d (.int (if b then 1 else 0))) L
  | _ => False
def aMin : List AV → LS → AK → Prop := fun avs L P => match avs with
  | [.d (.int i), .d (.int j)] => P (.d (.int (if j < i then j else i))) L
  | _ => False
def aSum : List AV → LS → AK → Prop := fun avs L P => ∃ ns : List Int, avs = [.d (.list (ns.map PyData.int))] ∧ P (.d (.int ns.sum)) L
def aAll : List AV → LS → AK → Prop := fun avs L P => ∃ bs : List Bool, avs = [.d (.list (bs.map PyData.bool))] ∧ P (.d (.bool (bs.all id))) L
def aAny : List AV → LS → AK → Prop := fun avs L P => ∃ bs : List Bool, avs = [.d (.list (bs.map PyData.bool))] ∧ P (.d (.bool (bs.any id))) L
def aTupOf : List AV → LS → AK → Prop := fun avs L P => match avs with
  | [.d (.list ds)] => P (.d (.tuple ds)) L
  | [.d (.tuple ds)] => P (.d (.tuple ds)) L
  | _ => False
def aListOf : List AV → LS → AK → Prop := fun avs L P => match avs with
  | [.d (.list ds)] => P (.d (.list ds)) L
  | [.d (.tuple ds)] => P (.d (.list ds)) L
  | _ => False
def aListOfM : List AV → LS → AK → Prop := fun avs L P => match avs with
  | [.d (.list ds)] => ∀ p, L p = none → P (.p p) (put L p (ds.map AV.d))
  | _ => False
def encT (r : List Int) : PyData := .tuple (r.map PyData.int)
def aSortedS : List AV → LS → AK → Prop := fun avs L P => ∃ zs : List Str, avs = [.d (.list (zs.map PyData.str))] ∧ zs.length < 64 ∧ ∀ ys : List Str, ys.Perm zs → PyProof.Rows.sortedS ys = true → P (.d (.list (ys.map PyData.str))) L
/-- sorted of rows of d ints in [0, B) -/
def aSortedT (d : Nat) (B : Int) : List AV → LS → AK → Prop := fun avs L P => ∃ rs : List (List Int), avs = [.d (.list (rs.map encT))] ∧ rs.length < 64 ∧ (∀ r ∈ rs, r.length = d ∧ TS.Bd B r) ∧
  ∀ ys : List (List Int), ys.Perm rs → ys.Pairwise (fun x y => TS.code B x ≤ TS.code B y) → P (.d (.list (ys.map encT))) L

section
variable {X : Cx} {C : Addr} {K : PySem.W.Frag}
theorem ac_len (K : PySem.W.Frag) (hK : X.K = K := by rfl) : AC X C (.builtin "len") (fun xs H Q => ∃ p ys, xs = [.ref p] ∧ (SqL K H p ys ∨ SqT K H p ys) ∧ Q (.int ys.length) H) aLen := by
  subst hK
  exact ⟨call_len_seq, fun xs avs G L H P Q s r q k => by
    unfold aLen at q
    split at q
    · rename_i a
      obtain ⟨n, e, p⟩ := q
      cases r with
      | cons r rr =>
        cases rr
        cases a with
        | d x =>
          cases r with
          | lst h1 h2 =>
            cases e
            exact ⟨_, _, rfl, .inl (SqL.of (s.ex _ _ h1)), by rw [h2.length]; exact k _ (.d (.int _)) G L H (Go.refl ..) s (.int _) p⟩
          | tup h1 h2 =>
            cases e
            exact ⟨_, _, rfl, .inr (SqT.of (s.ex _ _ h1)), by rw [h2.length]; exact k _ (.d (.int _)) G L H (Go.refl ..) s (.int _) p⟩
          | _ => cases e
        | p a =>
          have r : _ = V.ref a := r
          subst r
          obtain ⟨avs, e1, e2⟩ := Option.map_eq_some_iff.mp (show (L a).map List.length = some n from e)
          obtain ⟨_, ys, h3, h4⟩ := s.ls a avs e1
          subst e2
          exact ⟨_, _, rfl, .inl (SqL.of h3), by rw [h4.length]; exact k _ (.d (.int _)) G L H (Go.refl ..) s (.int _) p⟩
        | sc ns =>
          cases e
          obtain ⟨a0, rfl, h1⟩ := r
          refine ⟨_, _, rfl, .inl (sql_mono s.ex h1), ?_⟩
          rw [List.length_map]
          exact k _ (.d (.int _)) G L H (Go.refl ..) s (.int _) p
        | _ => cases e
    · exact q.elim⟩
theorem ac_lenS : AC X C (.builtin "len") (fun xs H Q => ∃ z, xs = [.str z] ∧ z.length ≤ sizeLine ∧ Q (.int z.length) H) aLenS := ⟨call_len_str, fun xs avs G L H P Q s r q k => by
  unfold aLenS at q
  split at q
  · rename_i z
    cases r with
    | cons r rr =>
      cases rr
      cases r
      exact ⟨_, rfl, sz_of q.1, k _ (.d (.int _)) G L H (Go.refl ..) s (.int _) q.2⟩
  · exact q.elim⟩
theorem ac_int : AC X C (.type "int") (fun xs H Q => (∃ i, xs = [.int i] ∧ Q (.int i) H) ∨ ∃ k, xs = [.bl k] ∧ Q (.int (if k then 1 else 0)) H) aInt := ⟨call_int1, fun xs avs G L H P Q s r q k => by
  unfold aInt at q
  split at q
  · cases r with
    | cons r rr =>
      cases rr
      cases r
      exact .inl ⟨_, rfl, k _ (.d (.int _)) G L H (Go.refl ..) s (.int _) q⟩
  · cases r with
    | cons r rr =>
      cases rr
      cases r
      exact .inr ⟨_, rfl, k _ (.d (.int _)) G L H (Go.refl ..) s (.int _) q⟩
  · exact q.elim⟩
theorem ac_min (hc : X.calm = true) : AC X C (.builtin "min") (fun xs H Q => ∃ i j, xs = [.int i, .int j] ∧ Q (.int (if j < i then j else i)) H) aMin := ⟨call_min2 hc, fun xs avs G L H P Q s r q k => by
  unfold aMin at q
  split at q
  · cases r with
    | cons r rr =>
      cases rr with
      | cons r2 rr =>
        cases rr
        cases r
        cases r2
        exact ⟨_, _, rfl, k _ (.d (.int _)) G L H (Go.refl ..) s (.int _) q⟩
  · exact q.elim⟩
/-- one list of data -/
theorem one_list {G : Hp} {xs : List V} {ds : List PyData} (r : RpAll K C G xs [.d (.list ds)]) : ∃ (a : Addr) (ys : List V), xs = [.ref a] ∧ G a = some (.lst ys) ∧ DvAll G ys ds := by
  cases r with
  | cons r rr =>
    cases rr
    cases r with
    | lst h1 h2 => exact ⟨_, _, rfl, h1, h2⟩
theorem ac_sum (K : PySem.W.Frag) (hc : X.calm = true) (hK : X.K = K := by rfl) : AC X C (.builtin "sum") (rSum K) aSum := by
  subst hK
  exact ⟨cr_sum hc, fun xs avs G L H P Q s r q k => by
    obtain ⟨ns, rfl, p⟩ := q
    obtain ⟨a, ys, rfl, h1, h2⟩ := one_list r
    have e := h2.ints
    subst e
    exact ⟨a, ns, rfl, SqL.of (s.ex _ _ h1), k _ (.d (.int _)) G L H (Go.refl ..) s (.int _) p⟩⟩
theorem ac_all (K : PySem.W.Frag) (hc : X.calm = true) (hK : X.K = K := by rfl) : AC X C (.builtin "all") (rAll K) aAll := by
  subst hK
  exact ⟨cr_all hc, fun xs avs G L H P Q s r q k => by
    obtain ⟨ns, rfl, p⟩ := q
    obtain ⟨a, ys, rfl, h1, h2⟩ := one_list r
    have e := h2.bools
    subst e
    exact ⟨a, ns, rfl, SqL.of (s.ex _ _ h1), k _ (.d (.bool _)) G L H (Go.refl ..) s (.bl _) p⟩⟩
theorem ac_any (K : PySem.W.Frag) (hc : X.calm = true) (hK : X.K = K := by rfl) : AC X C (.builtin "any") (rAny K) aAny := by
  subst hK
  exact ⟨cr_any hc, fun xs avs G L H P Q s r q k => by
    obtain ⟨ns, rfl, p⟩ := q
    obtain ⟨a, ys, rfl, h1, h2⟩ := one_list r
    have e := h2.bools
    subst e
    exact ⟨a, ns, rfl, SqL.of (s.ex _ _ h1), k _ (.d (.bool _)) G L H (Go.refl ..) s (.bl _) p⟩⟩
theorem ac_tupOf (K : PySem.W.Frag) (hK : X.K = K := by rfl) : AC X C (.type "tuple") (fun xs H Q => ∃ p ys, xs = [.ref p] ∧ ((SqL K H p ys ∧ ∀ l, H l = none → Q (.ref l) (upd H l (.tup ys))) ∨ (SqT K H p ys ∧ Q (.ref p) H))) aTupOf := by
  subst hK
  exact ⟨call_tuple_of, fun xs avs G L H P Q s r q k => by
    unfold aTupOf at q
    split at q
    · obtain ⟨a, ys, rfl, h1, h2⟩ := one_list r
      refine ⟨a, ys, rfl, .inl ⟨SqL.of (s.ex _ _ h1), fun l hl => ?_⟩⟩
      obtain ⟨s2, g2⟩ := s.newD (o := .tup ys) hl
      exact k _ (.d (.tuple _)) _ _ _ g2 s2 (.tup upd_same (h2.mono g2.ex)) q
    · cases r with
      | cons r rr =>
        cases rr
        cases r with
        | tup h1 h2 => exact ⟨_, _, rfl, .inr ⟨SqT.of (s.ex _ _ h1), k _ (.d (.tuple _)) G L H (Go.refl ..) s (.tup h1 h2) q⟩⟩
    · exact q.elim⟩
theorem ac_listOf (K : PySem.W.Frag) (hK : X.K = K := by rfl) : AC X C (.type "list") (fun xs H Q => ∃ p ys, xs = [.ref p] ∧ (SqL K H p ys ∨ SqT K H p ys) ∧ ∀ l, H l = none → Q (.ref l) (upd H l (.lst ys))) aListOf := by
  subst hK
  exact ⟨call_list_of, fun xs avs G L H P Q s r q k => by
    unfold aListOf at q
    split at q
    · obtain ⟨a, ys, rfl, h1, h2⟩ := one_list r
      refine ⟨a, ys, rfl, .inl (SqL.of (s.ex _ _ h1)), fun l hl => ?_⟩
      obtain ⟨s2, g2⟩ := s.newD (o := .lst ys) hl
      exact k _ (.d (.list _)) _ _ _ g2 s2 (.lst upd_same (h2.mono g2.ex)) q
    · cases r with
      | cons r rr =>
        cases rr
        cases r with
        | tup h1 h2 =>
          refine ⟨_, _, rfl, .inr (SqT.of (s.ex _ _ h1)), fun l hl => ?_⟩
          obtain ⟨s2, g2⟩ := s.newD (o := .lst _) hl
          exact k _ (.d (.list _)) _ _ _ g2 s2 (.lst upd_same (h2.mono g2.ex)) q
    · exact q.elim⟩
theorem ac_listOfM (K : PySem.W.Frag) (hK : X.K = K := by rfl) : AC X C (.type "list") (fun xs H Q => ∃ p ys, xs = [.ref p] ∧ (SqL K H p ys ∨ SqT K H p ys) ∧ ∀ l, H l = none → Q (.ref l) (upd H l (.lst ys))) aListOfM := by
  subst hK
  exact ⟨call_list_of, fun xs avs G L H P Q s r q k => by
    unfold aListOfM at q
    split at q
    · obtain ⟨a, ys, rfl, h1, h2⟩ := one_list r
      refine ⟨a, ys, rfl, .inl (SqL.of (s.ex _ _ h1)), fun l hl => ?_⟩
      obtain ⟨s2, g2⟩ := s.newL hl (RpAll.ofD h2)
      exact k _ (.p l) _ _ _ g2 s2 rfl (q l (s.fresh hl))
    · exact q.elim⟩
theorem DvAll.of_strs {G : Hp} : ∀ (ns : List Str), DvAll G (ns.map V.str) (ns.map PyData.str)
  | [] => .nil
  | n :: ns => .cons (.str n) (DvAll.of_strs ns)
theorem ac_sortedS (K : PySem.W.Frag) (hK : X.K = K := by rfl) : AC X C (.builtin "sorted") (rSortedS K) aSortedS := by
  subst hK
  exact ⟨cr_sortedS, fun xs avs G L H P Q s r q k => by
    obtain ⟨zs, rfl, h64, p⟩ := q
    obtain ⟨a, ys, rfl, h1, h2⟩ := one_list r
    have e := h2.strs
    subst e
    refine ⟨a, zs, rfl, SqL.of (s.ex _ _ h1), h64, fun ys l hp hs hl => ?_⟩
    obtain ⟨s2, g2⟩ := s.newD (o := .lst (ys.map V.str)) hl
    exact k _ (.d (.list _)) _ _ _ g2 s2 (.lst upd_same (DvAll.of_strs ys)) (p ys hp hs)⟩
theorem DvAll.rows {G : Hp} : ∀ {vs : List V} {rs : List (List Int)}, DvAll G vs (rs.map encT) → Paired (fun v r => ∃ t, v = V.ref t ∧ G t = some (.tup (r.map V.int))) vs rs
  | _, [], .nil => .nil
  | _, r :: rs, .cons h t => by
    refine .cons ?_ (DvAll.rows t)
    cases h with
    | tup h1 h2 =>
      have e := h2.ints
      subst e
      exact ⟨_, rfl, h1⟩
theorem ints_inj : ∀ {a b : List Int}, a.map V.int = b.map V.int → a = b
  | [], [], _ => rfl
  | [], _ :: _, h => nomatch h
  | _ :: _, [], h => nomatch h
  | x :: a, y :: b, h => by
    rw [List.map_cons, List.map_cons] at h
    injection h with h1 h2
    injection h1 with h1
    rw [h1, ints_inj h2]
theorem rows_choose {G : Hp} : ∀ {ys : List V}, (∀ y ∈ ys, ∃ (r : List Int) (t : Addr), y = V.ref t ∧ G t = some (.tup (r.map V.int))) → ∃ rs : List (List Int), DvAll G ys (rs.map encT)
  | [], _ => ⟨[], .nil⟩
  | y :: ys, h => by
    obtain ⟨rs, hr⟩ := rows_choose fun z hz => h z (List.mem_cons_of_mem _ hz)
    obtain ⟨r, t, rfl, ht⟩ := h _ List.mem_cons_self
    exact ⟨r :: rs, .cons (.tup ht (DvAll.of_ints r)) hr⟩
theorem dvAll_perm {G : Hp} {ys xs : List V} (h : ys.Perm xs) : ∀ {ds : List PyData}, DvAll G xs ds → ∃ es : List PyData, es.Perm ds ∧ DvAll G ys es := by
  induction h with
  | nil =>
    intro ds h
    cases h
    exact ⟨[], .nil, .nil⟩
  | cons x _ ih =>
    intro ds h
    cases h with
    | cons h1 h2 =>
      obtain ⟨es, e1, e2⟩ := ih h2
      exact ⟨_ :: es, e1.cons _, .cons h1 e2⟩
  | swap x y l =>
    intro ds h
    cases h with
    | cons h1 h2 =>
      cases h2 with
      | cons h3 h4 => exact ⟨_, List.Perm.swap _ _ _, .cons h3 (.cons h1 h4)⟩
  | trans _ _ i1 i2 =>
    intro ds h
    obtain ⟨es, e1, e2⟩ := i2 h
    obtain ⟨fs, f1, f2⟩ := i1 e2
    exact ⟨fs, f1.trans e1, f2⟩
theorem encT_inj {a b : List Int} (h : encT a = encT b) : a = b := by
  unfold encT at h
  injection h with h
  induction a generalizing b with
  | nil =>
    cases b with
    | nil => rfl
    | cons _ _ => cases h
  | cons x a ih =>
    cases b with
    | nil => cases h
    | cons y b =>
      rw [List.map_cons, List.map_cons] at h
      injection h with h1 h2
      injection h1 with h1
      rw [h1, ih h2]
theorem map_perm_rows {es : List PyData} : ∀ {rs : List (List Int)}, es.Perm (rs.map encT) → ∃ ys : List (List Int), ys.Perm rs ∧ es = ys.map encT := by
  intro rs h
  generalize e : rs.map encT = fs at h
  induction h generalizing rs with
  | nil =>
    cases rs with
    | nil => exact ⟨[], .nil, rfl⟩
    | cons _ _ => cases e
  | cons x _ ih =>
    cases rs with
    | nil => cases e
    | cons r rs =>
      rw [List.map_cons] at e
      injection e with e1 e2
      obtain ⟨ys, y1, y2⟩ := ih e2
      exact ⟨r :: ys, y1.cons _, by rw [List.map_cons, e1, y2]⟩
  | swap x y l =>
    cases rs with
    | nil => cases e
    | cons r rs =>
      cases rs with
      | nil => cases e
      | cons r2 rs =>
        rw [List.map_cons, List.map_cons] at e
        injection e with e1 e2
        injection e2 with e2 e3
        exact ⟨r2 :: r :: rs, List.Perm.swap _ _ _, by rw [List.map_cons, List.map_cons, e1, e2, e3]⟩
  | trans _ _ i1 i2 =>
    obtain ⟨ys, y1, y2⟩ := i2 e
    obtain ⟨zs, z1, z2⟩ := i1 y2.symm
    exact ⟨zs, z1.trans y1, z2⟩
theorem pairwise_dv {G : Hp} {B : Int} (tt : ∀ (v : V) (r : List Int), Dv G v (encT r) → TupI K G v r) : ∀ {ys : List V} {rs : List (List Int)}, DvAll G ys (rs.map encT) → ys.Pairwise (fun x y => ∀ n m, TupI K G x n → TupI K G y m → TS.code B n ≤ TS.code B m) → rs.Pairwise (fun x y => TS.code B x ≤ TS.code B y)
  | _, [], _, _ => .nil
  | _, r :: rs, .cons h t, p => by
    cases p with
    | cons p1 p2 =>
      refine .cons (fun z hz => ?_) (pairwise_dv tt t p2)
      obtain ⟨i, hi, rfl⟩ := List.getElem_of_mem hz
      obtain ⟨v, hv, dv⟩ := t.get (i := i) (d := encT rs[i]) (by rw [List.getElem?_map, List.getElem?_eq_getElem hi]; rfl)
      exact p1 v (List.mem_of_getElem? hv) _ _ (tt _ _ h) (tt _ _ dv)
theorem dv_tupI {G : Hp} (v : V) (r : List Int) (h : Dv G v (encT r)) : TupI K G v r := by
  unfold encT at h
  cases h with
  | tup h1 h2 =>
    have e := h2.ints
    subst e
    exact ⟨_, rfl, SqT.of h1⟩
theorem ac_sortedT (K : PySem.W.Frag) {d : Nat} {B : Int} (hd : 1 ≤ d) (hK : X.K = K := by rfl) : AC X C (.builtin "sorted") (rSortU K d B) (aSortedT d B) := by
  subst hK
  exact ⟨cr_sortT hd, fun xs avs G L H P Q s r q k => by
    obtain ⟨rs, rfl, h64, hb, p⟩ := q
    obtain ⟨a, ys, rfl, h1, h2⟩ := one_list r
    have hl := h2.length
    rw [List.length_map] at hl
    refine ⟨a, ys, rfl, SqL.of (s.ex _ _ h1), by rw [hl]; exact h64, fun x hx => ?_, fun zs l hp hs hl => ?_⟩
    · obtain ⟨i, hi⟩ := List.mem_iff_getElem?.mp hx
      obtain ⟨dd, e1, e2⟩ := h2.get' hi
      rw [List.getElem?_map] at e1
      obtain ⟨r0, e3, rfl⟩ := Option.map_eq_some_iff.mp e1
      obtain ⟨b1, b2⟩ := hb r0 (List.mem_of_getElem? e3)
      exact ⟨r0, dv_tupI _ _ (e2.mono s.ex), b1, b2⟩
    · obtain ⟨es, e1, e2⟩ := dvAll_perm hp h2
      obtain ⟨ws, w1, rfl⟩ := map_perm_rows e1
      obtain ⟨s2, g2⟩ := s.newD (o := .lst zs) hl
      exact k _ (.d (.list _)) _ _ _ g2 s2 (.lst upd_same (e2.mono g2.ex)) (p ws w1 (pairwise_dv (fun v r h => dv_tupI v r h) (e2.mono s.ex) hs))⟩
end

/-! ### list + list, tuple + tuple -/
def aCat : AV → AV → LS → AK → Prop := fun ax ay L P => match ax, ay with
  | .d (.list a), .d (.list b) => a.length + b.length ≤ 100000 ∧ P (.d (.list (a ++ b))) L
  | _, _ => False
def aCatT : AV → AV → LS → AK → Prop := fun ax ay L P => match ax, ay with
  | .d (.tuple a), .d (.tuple b) => a.length + b.length ≤ 100000 ∧ P (.d (.tuple (a ++ b))) L
  | _, _ => False
section
variable {X : Cx} {C : Addr}
theorem ao_cat : AO X C (binaryOp .Add) rCat aCat := ⟨op_cat, fun x y ax ay G L H P Q s rx ry q k => by
  unfold aCat at q
  split at q
  · cases rx with
    | lst h1 h2 =>
      cases ry with
      | lst h3 h4 =>
        refine ⟨_, _, _, _, rfl, rfl, s.ex _ _ h1, s.ex _ _ h3, by rw [h2.length, h4.length]; exact sz_of q.1, fun l hl => ?_⟩
        obtain ⟨s2, g2⟩ := s.newD (o := .lst _) hl
        exact k _ (.d (.list _)) _ _ _ g2 s2 (.lst upd_same ((h2.append h4).mono g2.ex)) q.2
  · exact q.elim⟩
theorem ao_catT (K : PySem.W.Frag) (hK : X.K = K := by rfl) : AO X C (binaryOp .Add) (rCatA K) aCatT := by
  subst hK
  exact ⟨op_catA, fun x y ax ay G L H P Q s rx ry q k => by
    unfold aCatT at q
    split at q
    · cases rx with
      | tup h1 h2 =>
        cases ry with
        | tup h3 h4 =>
          refine ⟨_, _, _, _, rfl, rfl, SqT.of (s.ex _ _ h1), SqT.of (s.ex _ _ h3), by rw [h2.length, h4.length]; exact sz_of q.1, fun e => ?_, fun _ e => ?_, fun _ _ l hl => ?_⟩
          · subst e
            have h5 := h2.append h4
            cases h2
            exact k _ (.d (.tuple _)) G L H (Go.refl ..) s (.tup h3 h5) q.2
          · subst e
            have h5 := h2.append h4
            rw [List.append_nil] at h5
            exact k _ (.d (.tuple _)) G L H (Go.refl ..) s (.tup h1 h5) q.2
          · obtain ⟨s2, g2⟩ := s.newD (o := .tup _) hl
            exact k _ (.d (.tuple _)) _ _ _ g2 s2 (.tup upd_same ((h2.append h4).mono g2.ex)) q.2
    · exact q.elim⟩
end

/-! ### isinstance -/
def tyN : PyData → String
  | .none => "NoneType"
  | .bool _ => "bool"
  | .int _ => "int"
  | .str _ => "str"
  | .list _ => "list"
  | .tuple _ => "tuple"
  | .dict _ => "dict"
def kitBs (a : String) : List String → Option Bool
  | [] => some false
  | b :: r => match kitB a b with
    | some true => some true
    | some false => kitBs a r
    | none => none
def tTys : List String → TA
  | [] => tNil
  | T :: r => tCons (tC (.ty T)) (tTys r)
def tIsi (K : PySem.W.Frag) (te : TE) (T : String) : TE := tCB (rIsi K) (tCons te (tCons (tC (.ty T)) tNil))
def tIsiT (K : PySem.W.Frag) (te : TE) (Ts : List String) : TE := tCB (rIsiT K) (tCons te (tCons (tTup (tTys Ts)) tNil))
def aIsi (ae : ATE) (T : String) : ATE := fun env L P => ae env L fun x L1 => ∃ d b, view L1 x = some d ∧ kitB (tyN d) T = some b ∧ P (.d (.bool b)) L1
def aIsiT (ae : ATE) (Ts : List String) : ATE := fun env L P => ae env L fun x L1 => ∃ d b, view L1 x = some d ∧ kitBs (tyN d) Ts = some b ∧ P (.d (.bool b)) L1
structure PTys (X : Cx) (es : List Expr) (Ts : List String) : Prop where
  pa : PA X es (tTys Ts)
section
variable {X : Cx} {C : Addr} {K : PySem.W.Frag} {e : Expr} {es : List Expr} {te : TE} {ae : ATE} {p pos p2 : Pos}
theorem ptys_nil : PTys X [] [] := ⟨pa_nil⟩
theorem ptys_cons {x : Str} {T : String} {Ts : List String} {px : Pos} (hg : Gl X x) (hm : X.mg x = none) (hv : bootBuiltins x = some (.type T)) (h : PTys X es Ts) (hn : x ≠ "__name__" := by decide) (hdb : (x == ("__debug__" : Str)) = false := by decide)
    (hs : starEach (.Name x px :: es) X.env = (false, eval (.Name x px) X.env) :: starEach es X.env := by rfl) : PTys X (.Name x px :: es) (T :: Ts) := ⟨pa_cons (pe_bltn hg hm hv (v := .ty T) rfl hn hdb) h.pa hs⟩
theorem tyx_of {G : Hp} {L : LS} {H : Hp} {v : V} {av : AV} {d : PyData} (s : RS K C G L H) (r : Rp K C G v av) (e : view L av = some d) : TyX K H v (.type (tyN d)) := by
  cases av with
  | d x =>
    cases e
    have r : Dv G v _ := r
    cases r with
    | non => exact .base .non
    | bl b => exact .base (.bl b)
    | int i => exact .base (.int i)
    | str z => exact .base (.str z)
    | lst h1 h2 => exact .base (.lst (s.ex _ _ h1))
    | tup h1 h2 => exact .base (.tup (s.ex _ _ h1))
  | p a =>
    have r : v = .ref a := r
    subst r
    have e : ((L a).bind allD).map PyData.list = some d := e
    obtain ⟨ds, e1, rfl⟩ := Option.map_eq_some_iff.mp e
    obtain ⟨avs, h1, h2⟩ := Option.bind_eq_some_iff.mp e1
    obtain ⟨_, xs, h3, h4⟩ := s.ls a avs h1
    exact .base (.lst h3)
  | pl _ _ => cases e
  | dc _ => cases e
  | sc _ => cases e
theorem kitBs_any {a : String} : ∀ {Ts : List String} {b : Bool}, kitBs a Ts = some b → PySem.W.kitAny K (.type a) (Ts.map Value.type) = some b
  | [], b, h => by
    cases h
    exact kitAny_nil
  | T :: Ts, b, h => by
    unfold kitBs at h
    split at h
    · rename_i e
      cases h
      exact kitAny_cons (kit_ty e) (fun z => nomatch z) (fun _ => rfl)
    · rename_i e
      exact kitAny_cons (kit_ty e) (fun _ => kitBs_any h) (fun z => nomatch z)
    · cases h
theorem tTys_run {σ : L2.St} {H : Hp} : ∀ {Ts : List String} {Q : List V → Hp → Prop}, Q (Ts.map V.ty) H → tTys Ts σ H Q
  | [], _, h => h
  | T :: Ts, _, h => tTys_run (Ts := Ts) h
theorem clsVs : ∀ Ts : List String, Paired ClsV (Ts.map V.ty) (Ts.map Value.type)
  | [] => .nil
  | T :: Ts => .cons (.ty T) (clsVs Ts)
theorem ae_isi (K : PySem.W.Frag) {T : String} {x : Str} {px : Pos} (hg : Gl X "isinstance") (hm : X.mg "isinstance" = none) (hb : bootBuiltins "isinstance" = some (.builtin "isinstance")) (he : AE X C e te ae) (hg2 : Gl X x) (hm2 : X.mg x = none) (hv : bootBuiltins x = some (.type T)) (hn : x ≠ "__name__" := by decide) (hdb : (x == ("__debug__" : Str)) = false := by decide)
    (hs : starEach (e :: [.Name x px]) X.env = (false, eval e X.env) :: starEach [.Name x px] X.env := by rfl) (hs2 : starEach (.Name x px :: []) X.env = (false, eval (.Name x px) X.env) :: starEach [] X.env := by rfl) (hpl : (backTo pos (starEach [.Name x px] X.env)).any (·.1) = false := by rfl) (hK : X.K = K := by rfl) :
    AE X C (.Call (.Name "isinstance" p) [e, .Name x px] [] pos) (tIsi K te T) (aIsi ae T) := by
  subst hK
  exact ⟨pe_callB call_isi hg hm hb (pa_cons he.pe (pa_cons (pe_bltn hg2 hm2 hv (v := .ty T) rfl hn hdb) pa_nil hs2) hs) (by decide) (by decide) hs hpl, fun σ env G L H P Q r s q k => by
    refine he.sim σ env G L H _ _ r s q fun v av G1 L1 H1 g1 s1 r1 p => ?_
    obtain ⟨d, b, e1, e2, p⟩ := p
    exact ⟨v, .ty T, _, _, b, rfl, .ty T, tyx_of s1 r1 e1, kit_ty e2, k _ (.d (.bool b)) G1 L1 H1 g1 s1 (.bl b) p⟩⟩
theorem ae_isiT (K : PySem.W.Frag) {Ts : List String} {x1 : Nat} (hg : Gl X "isinstance") (hm : X.mg "isinstance" = none) (hb : bootBuiltins "isinstance" = some (.builtin "isinstance")) (he : AE X C e te ae) (ht : PTys X es Ts) (hl : Ts.length ≤ 100)
    (hs : starEach (e :: [.Tuple es x1 p2]) X.env = (false, eval e X.env) :: starEach [.Tuple es x1 p2] X.env := by rfl) (hs2 : starEach (.Tuple es x1 p2 :: []) X.env = (false, eval (.Tuple es x1 p2) X.env) :: starEach [] X.env := by rfl) (hpl : (backTo pos (starEach [.Tuple es x1 p2] X.env)).any (·.1) = false := by rfl) (hK : X.K = K := by rfl) :
    AE X C (.Call (.Name "isinstance" p) [e, .Tuple es x1 p2] [] pos) (tIsiT K te Ts) (aIsiT ae Ts) := by
  subst hK
  exact ⟨pe_callB call_isiT hg hm hb (pa_cons he.pe (pa_cons (pe_tup ht.pa) pa_nil hs2) hs) (by decide) (by decide) hs hpl, fun σ env G L H P Q r s q k => by
    refine he.sim σ env G L H _ _ r s q fun v av G1 L1 H1 g1 s1 r1 p => ?_
    obtain ⟨d, b, e1, e2, p⟩ := p
    refine tTys_run ⟨by rw [List.length_map]; exact sz_of (by omega), fun a ha => ?_⟩
    obtain ⟨s2, g2⟩ := s1.newH (o := .tup (Ts.map V.ty)) ha
    exact ⟨v, a, _, _, _, b, rfl, upd_same, clsVs Ts, tyx_of s2 r1 e1, kitBs_any e2, k _ (.d (.bool b)) G1 L1 _ (g1.trans g2) s2 (.bl b) p⟩⟩
end
end VS

set_option Elab.async false
set_option linter.all false
set_option maxRecDepth 100000
set_option maxHeartbeats 4000000
set_option autoImplicit false
namespace VS
open PySem L2

/-! ### methods of lists of the store -/
def aApp (ao : ATE) (aa : ATA) : ATE := fun env L P => ao env L fun x L1 => match x with
  | .p a => (∃ o, L1 a = some o) ∧ aa env L1 fun avs L2 => match avs with
    | [av] => ∃ old, L2 a = some old ∧ old.length < 100000 ∧ P (.d .none) (put L2 a (old ++ [av]))
    | _ => False
  | _ => False
def aExt (ao : ATE) (aa : ATA) : ATE := fun env L P => ao env L fun x L1 => match x with
  | .p a => (∃ o, L1 a = some o) ∧ aa env L1 fun avs L2 => match avs with
    | [.d (.list ds)] => ∃ old, L2 a = some old ∧ old.length + ds.length ≤ 100000 ∧ P (.d .none) (put L2 a (old ++ ds.map AV.d))
    | _ => False
  | _ => False
def aPop (ao : ATE) (aa : ATA) : ATE := fun env L P => ao env L fun x L1 => match x with
  | .p a => (∃ o, L1 a = some o) ∧ aa env L1 fun avs L2 => match avs with
    | [.d (.int i)] => ∃ old av, L2 a = some old ∧ 0 ≤ i ∧ i < 100000 ∧ old[i.toNat]? = some av ∧ P av (put L2 a (old.eraseIdx i.toNat))
    | _ => False
  | _ => False
section
variable {X : Cx} {C : Addr} {o e : Expr} {es : List Expr} {to : TE} {ao : ATE} {t : TA} {aa : ATA} {apos cpos : Pos} {K : PySem.W.Frag}
theorem tyV_list {G : Hp} {L : LS} {H : Hp} {a : Addr} {avs : List AV} (s : RS K C G L H) (h : L a = some avs) : tyV K "list" (.ref a) H := by
  obtain ⟨_, xs, h3, _⟩ := s.ls a avs h
  exact .inl ⟨rfl, xs, SqL.of h3⟩
theorem one_av {G : Hp} {xs : List V} {av : AV} (r : RpAll K C G xs [av]) : ∃ v, xs = [v] ∧ Rp K C G v av := by
  cases r with
  | cons r rr =>
    cases rr
    exact ⟨_, rfl, r⟩
theorem ae_app (K : PySem.W.Frag) (ho : AE X C o to ao) (ha : AA X C (e :: es) t aa) (hbase : attributeBase o "append" X.env (eval o X.env) = eval o X.env := by rfl)
    (hfew : ((backTo cpos (starEach (e :: es) X.env)).all (fun x => !x.1) && (backToKw cpos (keywordEach [] X.env)).all (fun x => x.1.isSome)
      && decide ((e :: es).length + ([] : List Keyword).length + (if ([] : List Keyword).isEmpty then 0 else 1) < 30)) = true := by rfl)
    (hline : (apos.endLine == cpos.line) = true := by rfl) (hs : starEach (e :: es) X.env = (false, eval e X.env) :: starEach es X.env := by rfl) (hplain : (backTo cpos (starEach es X.env)).any (·.1) = false := by rfl) (hK : X.K = K := by rfl) :
    AE X C (.Call (.Attribute o "append" apos) (e :: es) [] cpos) (tBM K "list" rAppend to t) (aApp ao aa) := by
  subst hK
  exact ⟨pe_bm PySem.F.plainAttrs_list PySem.F.slot_list_append PySem.F.type_list_append mt_append ho.pe ha.pa hbase hfew hline hs hplain, fun σ env G L H P Q r s q k => by
      refine ho.sim σ env G L H _ _ r s q fun v av G1 L1 H1 g1 s1 r1 p => ?_
      split at p
      · rename_i a
        have r1 : v = .ref a := r1
        subst r1
        obtain ⟨⟨old1, l1⟩, p⟩ := p
        refine ⟨tyV_list s1 l1, ?_⟩
        refine ha.sim σ env G1 L1 H1 _ _ (r.mono g1.ex) s1 p fun vs avs G2 L2 H2 g2 s2 r2 p => ?_
        split at p
        · rename_i av
          obtain ⟨old, l2, hz, p⟩ := p
          obtain ⟨w, rfl, rw_⟩ := one_av r2
          obtain ⟨_, xs, h3, h4⟩ := s2.ls a old l2
          obtain ⟨s3, g3⟩ := s2.setL l2 (h4.append (.cons rw_ .nil))
          exact ⟨a, xs, w, rfl, rfl, h3, by rw [h4.length]; exact sz_lt hz, k _ (.d .none) _ _ _ ((g1.trans g2).trans g3) s3 .non p⟩
        · exact p.elim
      · exact p.elim⟩
theorem ae_ext (K : PySem.W.Frag) (ho : AE X C o to ao) (ha : AA X C (e :: es) t aa) (hbase : attributeBase o "extend" X.env (eval o X.env) = eval o X.env := by rfl)
    (hfew : ((backTo cpos (starEach (e :: es) X.env)).all (fun x => !x.1) && (backToKw cpos (keywordEach [] X.env)).all (fun x => x.1.isSome)
      && decide ((e :: es).length + ([] : List Keyword).length + (if ([] : List Keyword).isEmpty then 0 else 1) < 30)) = true := by rfl)
    (hline : (apos.endLine == cpos.line) = true := by rfl) (hs : starEach (e :: es) X.env = (false, eval e X.env) :: starEach es X.env := by rfl) (hplain : (backTo cpos (starEach es X.env)).any (·.1) = false := by rfl) (hK : X.K = K := by rfl) :
    AE X C (.Call (.Attribute o "extend" apos) (e :: es) [] cpos) (tBM K "list" rExtend to t) (aExt ao aa) := by
  subst hK
  exact ⟨pe_bm PySem.F.plainAttrs_list PySem.F.slot_list_extend PySem.F.type_list_extend mt_extend ho.pe ha.pa hbase hfew hline hs hplain, fun σ env G L H P Q r s q k => by
      refine ho.sim σ env G L H _ _ r s q fun v av G1 L1 H1 g1 s1 r1 p => ?_
      split at p
      · rename_i a
        have r1 : v = .ref a := r1
        subst r1
        obtain ⟨⟨old1, l1⟩, p⟩ := p
        refine ⟨tyV_list s1 l1, ?_⟩
        refine ha.sim σ env G1 L1 H1 _ _ (r.mono g1.ex) s1 p fun vs avs G2 L2 H2 g2 s2 r2 p => ?_
        split at p
        · rename_i ds
          obtain ⟨old, l2, hz, p⟩ := p
          obtain ⟨b, ys, rfl, hb, rb⟩ := one_list r2
          obtain ⟨_, xs, h3, h4⟩ := s2.ls a old l2
          obtain ⟨s3, g3⟩ := s2.setL l2 (h4.append (RpAll.ofD rb))
          exact ⟨a, b, xs, ys, rfl, rfl, h3, s2.ex _ _ hb, by rw [h4.length, rb.length]; exact sz_of hz, k _ (.d .none) _ _ _ ((g1.trans g2).trans g3) s3 .non p⟩
        · exact p.elim
      · exact p.elim⟩
theorem ae_pop (K : PySem.W.Frag) (ho : AE X C o to ao) (ha : AA X C (e :: es) t aa) (hbase : attributeBase o "pop" X.env (eval o X.env) = eval o X.env := by rfl)
    (hfew : ((backTo cpos (starEach (e :: es) X.env)).all (fun x => !x.1) && (backToKw cpos (keywordEach [] X.env)).all (fun x => x.1.isSome)
      && decide ((e :: es).length + ([] : List Keyword).length + (if ([] : List Keyword).isEmpty then 0 else 1) < 30)) = true := by rfl)
    (hline : (apos.endLine == cpos.line) = true := by rfl) (hs : starEach (e :: es) X.env = (false, eval e X.env) :: starEach es X.env := by rfl) (hplain : (backTo cpos (starEach es X.env)).any (·.1) = false := by rfl) (hK : X.K = K := by rfl) :
    AE X C (.Call (.Attribute o "pop" apos) (e :: es) [] cpos) (tBM K "list" rPopAt to t) (aPop ao aa) := by
  subst hK
  exact ⟨pe_bm PySem.F.plainAttrs_list PySem.F.slot_list_pop PySem.F.type_list_pop mt_popAt ho.pe ha.pa hbase hfew hline hs hplain, fun σ env G L H P Q r s q k => by
      refine ho.sim σ env G L H _ _ r s q fun v av G1 L1 H1 g1 s1 r1 p => ?_
      split at p
      · rename_i a
        have r1 : v = .ref a := r1
        subst r1
        obtain ⟨⟨old1, l1⟩, p⟩ := p
        refine ⟨tyV_list s1 l1, ?_⟩
        refine ha.sim σ env G1 L1 H1 _ _ (r.mono g1.ex) s1 p fun vs avs G2 L2 H2 g2 s2 r2 p => ?_
        split at p
        · rename_i i
          obtain ⟨old, av, l2, h0, h1, hv, p⟩ := p
          obtain ⟨w, rfl, rw_⟩ := one_av r2
          have rw_ : Dv G2 w (.int i) := rw_
          cases rw_
          obtain ⟨_, xs, h3, h4⟩ := s2.ls a old l2
          obtain ⟨x, hx, rx⟩ := h4.get hv
          obtain ⟨s3, g3⟩ := s2.setL l2 (h4.erase i.toNat)
          have hl : i.toNat < xs.length := (List.getElem?_eq_some_iff.mp hx).1
          have hk : seqIndex? i xs.length = some i.toNat := by
            have e : ixN xs.length i = some i.toNat := by
              unfold ixN
              rw [if_pos h0, if_pos (by omega)]
            exact (ixN_seq e).1
          exact ⟨a, xs, i, i.toNat, x, rfl, rfl, h3, by omega, by omega, hk, hx, k _ av _ _ _ ((g1.trans g2).trans g3) s3 rx p⟩
        · exact p.elim
      · exact p.elim⟩
end

/-! ### a Plan's fields -/
def aPage (ae : ATE) : ATE := fun env L P => ae env L fun x L1 => match x with
  | .pl pg _ => P (.d (.int pg)) L1
  | _ => False
def aParts (ae : ATE) : ATE := fun env L P => ae env L fun x L1 => match x with
  | .pl _ ps => P (.d (.tuple ps)) L1
  | _ => False
theorem kpp : ¬ (("kept_page" : Str) = "kept_parts") := by decide +kernel
theorem plF_page (pg : Int) (t : Addr) : (plF pg t).lookup ("kept_page" : Str) = some (.int pg) := by
  unfold plF
  rw [lookup_putF, if_neg kpp, lookup_putF, if_pos rfl]
theorem plF_parts (pg : Int) (t : Addr) : (plF pg t).lookup ("kept_parts" : Str) = some (.ref t) := by
  unfold plF
  rw [lookup_putF, if_pos rfl]
section
variable {X : Cx} {C : Addr} {e : Expr} {te : TE} {ae : ATE} {pos : Pos}
theorem ae_page (K : PySem.W.Frag) (c : Cls X.K C) (n : NoAttr X.K C "kept_page") (h : AE X C e te ae) (hb : attributeBase e "kept_page" X.env (eval e X.env) = eval e X.env := by rfl) (hK : X.K = K := by rfl) : AE X C (.Attribute e "kept_page" pos) (tFld K te "kept_page") (aPage ae) := by
  subst hK
  exact ⟨pe_fld h.pe hb, fun σ env G L H P Q r s q k => by
    refine h.sim σ env G L H _ _ r s q fun v av G1 L1 H1 g1 s1 r1 p => ?_
    split at p
    · obtain ⟨q0, dx, t, xs, rfl, h1, h2, h3⟩ := r1
      exact ⟨q0, C, dx, _, _, rfl, s1.ex _ _ h1, c, n, plF_page _ _, k _ (.d (.int _)) G1 L1 H1 g1 s1 (.int _) p⟩
    · exact p.elim⟩
theorem ae_parts (K : PySem.W.Frag) (c : Cls X.K C) (n : NoAttr X.K C "kept_parts") (h : AE X C e te ae) (hb : attributeBase e "kept_parts" X.env (eval e X.env) = eval e X.env := by rfl) (hK : X.K = K := by rfl) : AE X C (.Attribute e "kept_parts" pos) (tFld K te "kept_parts") (aParts ae) := by
  subst hK
  exact ⟨pe_fld h.pe hb, fun σ env G L H P Q r s q k => by
    refine h.sim σ env G L H _ _ r s q fun v av G1 L1 H1 g1 s1 r1 p => ?_
    split at p
    · obtain ⟨q0, dx, t, xs, rfl, h1, h2, h3⟩ := r1
      exact ⟨q0, C, dx, _, _, rfl, s1.ex _ _ h1, c, n, plF_parts _ _, k _ (.d (.tuple _)) G1 L1 H1 g1 s1 (.tup h2 h3) p⟩
    · exact p.elim⟩
end

/-! ### targets -/
structure AG (X : Cx) (C : Addr) (tg : Expr) (g : TG) (ag : AV → Env → (Env → Prop) → Prop) (ss : List Nat) : Prop where
  pg : PG X tg g
  sim : ∀ (v : V) (av : AV) (σ : L2.St) (env : Env) (G : Hp) (L : LS) (H : Hp) (P : Env → Prop) (Q : L2.St → Hp → Prop), Rel X.K C σ env G → RS X.K C G L H → Rp X.K C G v av → ag av env P →
    (∀ (σ' : L2.St) (env' : Env), Rel X.K C σ' env' G → (∀ vs : List Nat, (∀ i ∈ ss, i ∈ vs) → wipe σ' vs = wipe σ vs) → P env' → Q σ' H) → g v σ H Q
structure AGs (X : Cx) (C : Addr) (tgs : List Expr) (g : TGs) (ag : List AV → Env → (Env → Prop) → Prop) (ss : List Nat) : Prop where
  pg : PGs X tgs g
  sim : ∀ (vs : List V) (avs : List AV) (σ : L2.St) (env : Env) (G : Hp) (L : LS) (H : Hp) (P : Env → Prop) (Q : L2.St → Hp → Prop), Rel X.K C σ env G → RS X.K C G L H → RpAll X.K C G vs avs → ag avs env P →
    (∀ (σ' : L2.St) (env' : Env), Rel X.K C σ' env' G → (∀ ws : List Nat, (∀ i ∈ ss, i ∈ ws) → wipe σ' ws = wipe σ ws) → P env' → Q σ' H) → g vs σ H Q
def agName (i : Nat) : AV → Env → (Env → Prop) → Prop := fun av env P => P (env.set i (some av))
def agNil : List AV → Env → (Env → Prop) → Prop := fun avs env P => match avs with
  | [] => P env
  | _ => False
def agCons (a : AV → Env → (Env → Prop) → Prop) (b : List AV → Env → (Env → Prop) → Prop) : List AV → Env → (Env → Prop) → Prop := fun avs env P => match avs with
  | av :: r => a av env fun env1 => b r env1 P
  | _ => False
def agTup (n : Nat) (b : List AV → Env → (Env → Prop) → Prop) : AV → Env → (Env → Prop) → Prop := fun av env P => match av with
  | .d (.tuple ds) => ds.length = n ∧ b (ds.map AV.d) env P
  | _ => False
section
variable {X : Cx} {C : Addr} {pos : Pos}
theorem ag_name (i : Nat) {x : Str} (hN : X.N.Nodup) (hi : X.N[i]? = some x := by rfl) (hx : Loc X.env.scope x := by first | exact Or.inl rfl | exact Or.inr rfl) (hf : X.fn x = true ∨ X.env.scope.names.lookup x = some .local := by first | exact .inl rfl | exact .inr rfl | assumption) : AG X C (.Name x pos) (gName i) (agName i) [i] :=
  ⟨pg_name hN hi hx hf, fun v av σ env G L H P Q r s rv q k => k _ _ (r.set i rv) (fun vs h => wipe_set (h i (by simp))) q⟩
theorem ags_nil : AGs X C [] gNil agNil [] := ⟨pgs_nil, fun vs avs σ env G L H P Q r s rv q k => by
  unfold agNil at q
  split at q
  · cases rv
    exact ⟨rfl, k σ env r (fun _ _ => rfl) q⟩
  · exact q.elim⟩
theorem ags_cons {e : Expr} {es : List Expr} {t : TG} {u : TGs} {a : AV → Env → (Env → Prop) → Prop} {b : List AV → Env → (Env → Prop) → Prop} {ss ts : List Nat} (h1 : AG X C e t a ss) (h2 : AGs X C es u b ts)
    (hs : (assignEach (e :: es) X.env).map (·.2) = assign e X.env :: (assignEach es X.env).map (·.2) := by rfl) : AGs X C (e :: es) (gCons t u) (agCons a b) (ss ++ ts) := ⟨pgs_cons h1.pg h2.pg hs, fun vs avs σ env G L H P Q r s rv q k => by
  unfold agCons at q
  split at q
  · cases rv with
    | cons r1 r2 =>
      refine ⟨_, _, rfl, ?_⟩
      refine h1.sim _ _ σ env G L H _ _ r s r1 q fun σ1 env1 x1 w1 q1 => ?_
      refine h2.sim _ _ σ1 env1 G L H P Q x1 s r2 q1 fun σ2 env2 x2 w2 q2 => ?_
      exact k σ2 env2 x2 (fun ws h => (w2 ws fun i hi => h i (List.mem_append_right _ hi)).trans (w1 ws fun i hi => h i (List.mem_append_left _ hi))) q2
  · exact q.elim⟩
theorem ag_tup (K : PySem.W.Frag) {es : List Expr} {kk : Nat} {t : TGs} {n : Nat} {b : List AV → Env → (Env → Prop) → Prop} {ss : List Nat} (hc : X.calm = true) (h : AGs X C es t b ss)
    (hn : (assignEach es X.env).length = n := by rfl) (hst : (assignEach es X.env).findIdx? (·.1) = none := by rfl) (hK : X.K = K := by rfl) : AG X C (.Tuple es kk pos) (gTup K n t) (agTup n b) ss := by
  subst hK
  exact ⟨pg_tup hc h.pg hn hst, fun v av σ env G L H P Q r s rv q k => by
    unfold agTup at q
    split at q
    · rename_i ds
      have rv : Dv G v (.tuple ds) := rv
      cases rv with
      | tup h1 h2 =>
        refine ⟨_, _, rfl, SqT.of (s.ex _ _ h1), by rw [h2.length]; exact q.1, ?_⟩
        exact h.sim _ _ σ env G L H P Q r s (RpAll.ofD h2) q.2 k
    · exact q.elim⟩
end

/-! ### what is walked -/
structure WalkA (K : PySem.W.Frag) (C : Addr) (J : It) (avs : List AV) (G0 : Hp) : Prop where
  go : ∀ (i : Nat) (G : Hp) (L : LS) (H : Hp), i < avs.length → Ex G0 G → RS K C G L H → J.go i H
  stop : ∀ (G : Hp) (L : LS) (H : Hp), Ex G0 G → RS K C G L H → J.stop avs.length H
  yld : ∀ (i : Nat) (G : Hp) (L : LS) (H : Hp) (x : V) (H' : Hp), i < avs.length → Ex G0 G → RS K C G L H → J.yld i H x H' → ∃ (av : AV) (G' : Hp), avs[i]? = some av ∧ Go G L H G' L H' ∧ RS K C G' L H' ∧ Rp K C G' x av
abbrev AIT := Env → LS → (List AV → LS → Prop) → Prop
structure AIt (X : Cx) (C : Addr) (tg iter : Expr) (wi : TI) (ai : AIT) : Prop where
  pi : PI X tg iter wi
  sim : ∀ (σ : L2.St) (env : Env) (G : Hp) (L : LS) (H : Hp) (P : List AV → LS → Prop) (R : It → Hp → Prop), Rel X.K C σ env G → RS X.K C G L H → ai env L P →
    (∀ (avs : List AV) (G' : Hp) (L' : LS) (H' : Hp) (J : It), Go G L H G' L' H' → RS X.K C G' L' H' → WalkA X.K C J avs G' → P avs L' → R J H') → wi σ H R
/-- a walk that gives what stands -/
theorem walkA_at {K : PySem.W.Frag} {C : Addr} {J : It} {xs : List V} {avs : List AV} {G0 : Hp} (w : ∀ G H, Ex G0 G → Ex G H → Walk J xs.length (fun H' => H' = H) (YAt xs)) (r : RpAll K C G0 xs avs) : WalkA K C J avs G0 := by
  refine ⟨fun i G L H hi e s => (w G H e s.ex).goes i H (by rw [r.length]; exact hi) rfl, fun G L H e s => by rw [← r.length]; exact (w G H e s.ex).stops H rfl, fun i G L H x H' hi e s y => ?_⟩
  obtain ⟨rfl, hx⟩ := (w G H e s.ex).yields i H x H' (by rw [r.length]; exact hi) rfl y
  have h2 : avs[i]? = some avs[i] := List.getElem?_eq_getElem hi
  obtain ⟨v, hv, rv⟩ := r.get h2
  rw [hx] at hv
  cases hv
  exact ⟨_, G, h2, Go.refl .., s, rv.mono e⟩
theorem walkA_list {K : PySem.W.Frag} {C : Addr} {a : Addr} {xs : List V} {avs : List AV} {G0 : Hp} (h : SqL K G0 a xs) (r : RpAll K C G0 xs avs) : WalkA K C (Itl K a) avs G0 :=
  walkA_at (fun G H e1 e2 => walk_list.mono (fun H' z => by rw [z]; exact sql_mono (e1.trans e2) h) fun _ _ _ _ _ _ y => y) r
theorem walkA_tup {K : PySem.W.Frag} {C : Addr} {a : Addr} {xs : List V} {avs : List AV} {G0 : Hp} (h : SqT K G0 a xs) (r : RpAll K C G0 xs avs) : WalkA K C (Itt K a) avs G0 :=
  walkA_at (fun G H e1 e2 => walk_tup.mono (fun H' z => by rw [z]; exact sqt_mono (e1.trans e2) h) fun _ _ _ _ _ _ y => y) r
/-- a walk that gives new pairs -/
theorem walkA_pair {K : PySem.W.Frag} {C : Addr} {J : It} {n : Nat} {X Y : Nat → Option V} {ds : List PyData} {G0 : Hp} (hn : n = ds.length) (w : ∀ G H, Ex G0 G → Ex G H → Walk J n (fun H' => H' = H) (YPair X Y))
    (r : ∀ (i : Nat) (x y : V), X i = some x → Y i = some y → i < n → ∃ d e, ds[i]? = some (.tuple [d, e]) ∧ Dv G0 x d ∧ Dv G0 y e) : WalkA K C J (ds.map AV.d) G0 := by
  subst hn
  refine ⟨fun i G L H hi e s => (w G H e s.ex).goes i H (by simpa using hi) rfl, fun G L H e s => by rw [List.length_map]; exact (w G H e s.ex).stops H rfl, fun i G L H x H' hi e s y => ?_⟩
  rw [List.length_map] at hi
  obtain ⟨T, a, b, rfl, hT, rfl, hx, hy⟩ := (w G H e s.ex).yields i H x H' hi rfl y
  obtain ⟨d, e2, h1, h2, h3⟩ := r i a b hx hy hi
  obtain ⟨s2, g2⟩ := s.newD (o := .tup [a, b]) hT
  refine ⟨.d (.tuple [d, e2]), _, by rw [List.getElem?_map, h1]; rfl, g2, s2, .tup upd_same (.cons ((h2.mono e).mono g2.ex) (.cons ((h3.mono e).mono g2.ex) .nil))⟩
def enumF : Nat → List PyData → List PyData
  | _, [] => []
  | i, d :: r => .tuple [.int (i : Nat), d] :: enumF (i + 1) r
theorem enumF_len : ∀ (k : Nat) (ds : List PyData), (enumF k ds).length = ds.length
  | _, [] => rfl
  | k, d :: r => by
    show (enumF (k + 1) r).length + 1 = r.length + 1
    rw [enumF_len]
theorem enumF_get : ∀ (ds : List PyData) (k i : Nat), (enumF k ds)[i]? = ds[i]?.map fun d => .tuple [.int ((k + i : Nat) : Int), d]
  | [], _, _ => by simp [enumF]
  | d :: r, k, 0 => by simp [enumF]
  | d :: r, k, i + 1 => by
    show (enumF (k + 1) r)[i]? = r[i]?.map _
    rw [enumF_get r (k + 1) i]
    have e : k + 1 + i = k + (i + 1) := by omega
    rw [e]
def zipF (a b : List PyData) : List PyData := List.zipWith (fun x y => PyData.tuple [x, y]) a b
def aItL (ae : ATE) : AIT := fun env L P => ae env L fun x L1 => match x with
  | .d (.list ds) => P (ds.map AV.d) L1
  | .sc ns => P (ns.map fun n => AV.d (.int n)) L1
  | _ => False
def aItT (ae : ATE) : AIT := fun env L P => ae env L fun x L1 => match x with
  | .d (.tuple ds) => P (ds.map AV.d) L1
  | _ => False
def aItS (ae : ATE) : AIT := fun env L P => ae env L fun x L1 => match x with
  | .d (.str z) => P (z.cps.toList.map fun c => AV.d (.str ⟨#[c]⟩)) L1
  | _ => False
def aItR1 (aa : ATA) : AIT := fun env L P => aa env L fun avs L1 => match avs with
  | [.d (.int n)] => -100000 ≤ n ∧ n ≤ 100000 ∧ P ((List.range n.toNat).map fun (i : Nat) => AV.d (.int (i : Int))) L1
  | _ => False
def aItR2 (aa : ATA) : AIT := fun env L P => aa env L fun avs L1 => match avs with
  | [.d (.int a), .d (.int b)] => (-100000 ≤ a ∧ a ≤ 100000 ∧ -100000 ≤ b ∧ b ≤ 100000) ∧ P ((List.range (b - a).toNat).map fun (i : Nat) => AV.d (.int (a + (i : Int)))) L1
  | _ => False
def aItE (aa : ATA) : AIT := fun env L P => aa env L fun avs L1 => match avs with
  | [.d (.list ds)] => P ((enumF 0 ds).map AV.d) L1
  | _ => False
def aItZ (aa : ATA) : AIT := fun env L P => aa env L fun avs L1 => match avs with
  | [.d (.list a), .d (.list b)] => P ((zipF a b).map AV.d) L1
  | [.d (.tuple a), .d (.tuple b)] => P ((zipF a b).map AV.d) L1
  | _ => False
section
variable {X : Cx} {C : Addr} {tg l e e2 : Expr} {tl : TE} {ae : ATE} {ta : TA} {aa : ATA} {K : PySem.W.Frag}
theorem ai_l (K : PySem.W.Frag) (h : AE X C l tl ae) (hK : X.K = K := by rfl) : AIt X C tg l (iList K tl) (aItL ae) := by
  subst hK
  exact ⟨pi_list h.pe, fun σ env G L H P R r s q k => by
    refine h.sim σ env G L H _ _ r s q fun v av G1 L1 H1 g1 s1 r1 p => ?_
    split at p
    · rename_i ds
      have r1 : Dv G1 v (.list ds) := r1
      cases r1 with
      | lst h1 h2 => exact ⟨_, rfl, ⟨_, SqL.of (s1.ex _ _ h1)⟩, k _ G1 L1 H1 _ g1 s1 (walkA_list (SqL.of h1) (RpAll.ofD h2)) p⟩
    · rename_i ns
      obtain ⟨a, rfl, h1⟩ := r1
      refine ⟨a, rfl, ⟨_, sql_mono s1.ex h1⟩, k _ G1 L1 H1 _ g1 s1 (walkA_list h1 ?_) p⟩
      have e : (ns.map fun n => AV.d (.int n)) = (ns.map PyData.int).map AV.d := by rw [List.map_map]; rfl
      rw [e]
      exact RpAll.ofD (DvAll.of_ints ns)
    · exact p.elim⟩
theorem ai_t (K : PySem.W.Frag) (h : AE X C l tl ae) (hK : X.K = K := by rfl) : AIt X C tg l (iTup K tl) (aItT ae) := by
  subst hK
  exact ⟨pi_tup h.pe, fun σ env G L H P R r s q k => by
    refine h.sim σ env G L H _ _ r s q fun v av G1 L1 H1 g1 s1 r1 p => ?_
    split at p
    · rename_i ds
      have r1 : Dv G1 v (.tuple ds) := r1
      cases r1 with
      | tup h1 h2 => exact ⟨_, rfl, ⟨_, SqT.of (s1.ex _ _ h1)⟩, k _ G1 L1 H1 _ g1 s1 (walkA_tup (SqT.of h1) (RpAll.ofD h2)) p⟩
    · exact p.elim⟩
theorem ai_s (h : AE X C l tl ae) : AIt X C tg l (iStr tl) (aItS ae) := ⟨pi_str h.pe, fun σ env G L H P R r s q k => by
  refine h.sim σ env G L H _ _ r s q fun v av G1 L1 H1 g1 s1 r1 p => ?_
  split at p
  · rename_i z
    have r1 : Dv G1 v (.str z) := r1
    cases r1
    refine ⟨z, rfl, k _ G1 L1 H1 _ g1 s1 ⟨fun i G L H hi e s => ?_, fun G L H e s => ?_, fun i G L H x H' hi e s y => ?_⟩ p⟩
    · show i < z.cps.size
      simpa using hi
    · show z.cps.size ≤ _
      simp
    · obtain ⟨rfl, c, hc, rfl⟩ := y
      refine ⟨.d (.str ⟨#[c]⟩), G, ?_, Go.refl .., s, .str _⟩
      rw [List.getElem?_map, Array.getElem?_toList, hc]
      rfl
  · exact p.elim⟩
theorem walkA_fn {J : It} {n : Nat} {f : Nat → Int} {G0 : Hp} (w : Walk J n (fun _ => True) (YFn fun i => .int (f i))) : WalkA K C J ((List.range n).map fun i => AV.d (.int (f i))) G0 := by
  refine ⟨fun i G L H hi e s => w.goes i H (by simpa using hi) trivial, fun G L H e s => by rw [List.length_map, List.length_range]; exact w.stops H trivial, fun i G L H x H' hi e s y => ?_⟩
  rw [List.length_map, List.length_range] at hi
  obtain ⟨rfl, rfl⟩ := w.yields i H x H' hi trivial y
  exact ⟨.d (.int (f i)), G, by rw [List.getElem?_map, List.getElem?_range hi]; rfl, Go.refl .., s, .int _⟩
theorem ai_r1 {a : Expr} {p pos : Pos} (hg : Gl X "range") (hm : X.mg "range" = none) (ha : AA X C [a] ta aa) (hs : starEach [a] X.env = [(false, eval a X.env)] := by rfl) : AIt X C tg (.Call (.Name "range" p) [a] [] pos) (iRng1 ta) (aItR1 aa) := ⟨pi_range1 hg hm ha.pa hs, fun σ env G L H P R r s q k => by
  refine ha.sim σ env G L H _ _ r s q fun vs avs G1 L1 H1 g1 s1 r1 p => ?_
  split at p
  · rename_i n
    obtain ⟨v, rfl, rv⟩ := one_av r1
    have rv : Dv G1 v (.int n) := rv
    cases rv
    refine ⟨n, rfl, by omega, by omega, k _ G1 L1 H1 _ g1 s1 (walkA_fn ?_) p.2.2⟩
    refine walk_range.mono (fun _ h => h) fun i H x H' _ _ y => ?_
    obtain ⟨y1, y2⟩ := y
    refine ⟨y1, ?_⟩
    rw [y2]
    show V.int (0 + (i : Int)) = V.int (i : Int)
    rw [Int.zero_add]
  · exact p.elim⟩
theorem two_av {G : Hp} {xs : List V} {av bv : AV} (r : RpAll K C G xs [av, bv]) : ∃ v w, xs = [v, w] ∧ Rp K C G v av ∧ Rp K C G w bv := by
  cases r with
  | cons r rr =>
    cases rr with
    | cons r2 rr =>
      cases rr
      exact ⟨_, _, rfl, r, r2⟩
theorem ai_r2 {a b : Expr} {p pos : Pos} (hg : Gl X "range") (hm : X.mg "range" = none) (ha : AA X C [a, b] ta aa) (hs : starEach [a, b] X.env = [(false, eval a X.env), (false, eval b X.env)] := by rfl) (hs2 : starEach [b] X.env = [(false, eval b X.env)] := by rfl) : AIt X C tg (.Call (.Name "range" p) [a, b] [] pos) (iRng2 ta) (aItR2 aa) := ⟨pi_range2 hg hm ha.pa hs hs2, fun σ env G L H P R r s q k => by
  refine ha.sim σ env G L H _ _ r s q fun vs avs G1 L1 H1 g1 s1 r1 p => ?_
  split at p
  · rename_i a b
    obtain ⟨v, w, rfl, rv, rw_⟩ := two_av r1
    have rv : Dv G1 v (.int a) := rv
    have rw_ : Dv G1 w (.int b) := rw_
    cases rv
    cases rw_
    exact ⟨a, b, rfl, ⟨by omega, by omega, by omega, by omega⟩, k _ G1 L1 H1 _ g1 s1 (walkA_fn walk_range) p.2⟩
  · exact p.elim⟩
theorem ai_e (K : PySem.W.Frag) {p pos tpos : Pos} {elts : List Expr} {kk : Nat} (hg : Gl X "enumerate") (hm : X.mg "enumerate" = none) (ha : AA X C [e] ta aa) (hs : starEach [e] X.env = [(false, eval e X.env)] := by rfl) (hK : X.K = K := by rfl) : AIt X C (.Tuple elts kk tpos) (.Call (.Name "enumerate" p) [e] [] pos) (iEnum K ta) (aItE aa) := by
  subst hK
  exact ⟨pi_enum hg hm ha.pa hs, fun σ env G L H P R r s q k => by
    refine ha.sim σ env G L H _ _ r s q fun vs avs G1 L1 H1 g1 s1 r1 p => ?_
    split at p
    · rename_i ds
      obtain ⟨a, ys, rfl, h1, h2⟩ := one_list r1
      refine ⟨a, ys, rfl, SqL.of (s1.ex _ _ h1), k _ G1 L1 H1 _ g1 s1 (walkA_pair (n := ys.length) (by rw [enumF_len, h2.length]) (fun G H e1 e2 => walk_enum.mono (fun H' z => by rw [z]; exact SqL.of ((e1.trans e2) _ _ h1)) fun _ _ _ _ _ _ y => y) fun i x y hx hy hi => ?_) p⟩
      cases hx
      obtain ⟨d, h3, h4⟩ := h2.get' hy
      exact ⟨.int (i : Nat), d, by rw [enumF_get, h3, Nat.zero_add]; rfl, .int _, h4⟩
    · exact p.elim⟩
theorem zipF_pair {G : Hp} {xs ys : List V} {a b : List PyData} (h2 : DvAll G xs a) (h4 : DvAll G ys b) (i : Nat) (x y : V) (hx : xs[i]? = some x) (hy : ys[i]? = some y) : ∃ d e, (zipF a b)[i]? = some (.tuple [d, e]) ∧ Dv G x d ∧ Dv G y e := by
  obtain ⟨d, d1, d2⟩ := h2.get' hx
  obtain ⟨e, e1, e2⟩ := h4.get' hy
  refine ⟨d, e, ?_, d2, e2⟩
  unfold zipF
  rw [List.getElem?_zipWith, d1, e1]
theorem zipF_len (a b : List PyData) : (zipF a b).length = min a.length b.length := by
  unfold zipF
  rw [List.length_zipWith]
theorem walk_zipT {K : PySem.W.Frag} {a b : Addr} {xs ys : List V} {n : Nat} (hn : n = min xs.length ys.length) : Walk (RZ.ItzT K a b) n (fun H => SqT K H a xs ∧ SqT K H b ys) (YPair (fun i => xs[i]?) (fun i => ys[i]?)) := by
  subst hn
  refine ⟨fun i _ hi q => ?_, fun _ q => ⟨xs, ys, q.1, q.2, by omega⟩, fun i H v H' _ q y => ?_⟩
  · have h1 : i < xs.length := by omega
    have h2 : i < ys.length := by omega
    exact ⟨xs, ys, xs[i], ys[i], q.1, q.2, by simp [h1], by simp [h2]⟩
  · obtain ⟨T, x, z, h1, h2, h3, h4, h5⟩ := y
    exact ⟨T, x, z, h1, h2, h3, h4 xs q.1, h5 ys q.2⟩
theorem ai_z (K : PySem.W.Frag) {p pos tpos : Pos} {elts : List Expr} {kk : Nat} (hg : Gl X "zip") (hm : X.mg "zip" = none) (ha : AA X C [e, e2] ta aa)
    (hs : starEach [e, e2] X.env = (false, eval e X.env) :: starEach [e2] X.env := by rfl) (hpl : (backTo pos (starEach [e2] X.env)).any (·.1) = false := by rfl) (hK : X.K = K := by rfl) : AIt X C (.Tuple elts kk tpos) (.Call (.Name "zip" p) [e, e2] [] pos) (RZ.iZipA K ta) (aItZ aa) := by
  subst hK
  exact ⟨RZ.pi_zipA hg hm ha.pa hs hpl, fun σ env G L H P R r s q k => by
    refine ha.sim σ env G L H _ _ r s q fun vs avs G1 L1 H1 g1 s1 r1 p => ?_
    split at p
    · rename_i a b
      obtain ⟨v, w, rfl, rv, rw_⟩ := two_av r1
      have rv : Dv G1 v (.list a) := rv
      have rw_ : Dv G1 w (.list b) := rw_
      cases rv with
      | lst h1 h2 =>
        cases rw_ with
        | lst h3 h4 =>
          refine ⟨_, _, _, _, rfl, .inl ⟨SqL.of (s1.ex _ _ h1), SqL.of (s1.ex _ _ h3), k _ G1 L1 H1 _ g1 s1 (walkA_pair (n := min _ _) ?_ (fun G H e1 e2 => (walk_zip rfl).mono (fun H' z => by rw [z]; exact ⟨SqL.of ((e1.trans e2) _ _ h1), SqL.of ((e1.trans e2) _ _ h3)⟩) fun _ _ _ _ _ _ y => y) fun i x y hx hy hi => zipF_pair h2 h4 i x y hx hy) p⟩⟩
          rw [zipF_len, h2.length, h4.length]
    · rename_i a b
      obtain ⟨v, w, rfl, rv, rw_⟩ := two_av r1
      have rv : Dv G1 v (.tuple a) := rv
      have rw_ : Dv G1 w (.tuple b) := rw_
      cases rv with
      | tup h1 h2 =>
        cases rw_ with
        | tup h3 h4 =>
          refine ⟨_, _, _, _, rfl, .inr ⟨SqT.of (s1.ex _ _ h1), SqT.of (s1.ex _ _ h3), k _ G1 L1 H1 _ g1 s1 (walkA_pair (n := min _ _) ?_ (fun G H e1 e2 => (walk_zipT rfl).mono (fun H' z => by rw [z]; exact ⟨SqT.of ((e1.trans e2) _ _ h1), SqT.of ((e1.trans e2) _ _ h3)⟩) fun _ _ _ _ _ _ y => y) fun i x y hx hy hi => zipF_pair h2 h4 i x y hx hy) p⟩⟩
          rw [zipF_len, h2.length, h4.length]
    · exact p.elim⟩
end
end VS

set_option Elab.async false
set_option linter.all false
set_option maxRecDepth 100000
set_option maxHeartbeats 4000000
set_option autoImplicit false
namespace VS
open PySem L2 PySem.Spec PyProof.Rows

/-! ### statements -/
def aNext : ATS := fun AD env L => AD.nx env L
def aSeq (t u : ATS) : ATS := fun AD env L => t { AD with nx := u AD } env L
/-- behind the first statement the list that the i-th name holds becomes data -/
def aSeqF (i : Nat) (t u : ATS) : ATS := fun AD env L => t { AD with nx := fun env L => match env[i]? with
  | some (some (.p a)) => ∃ ds, (L a).bind allD = some ds ∧ u AD (env.set i (some (.d (.list ds)))) (del L a)
  | _ => False } env L
def aSet (i : Nat) (ae : ATE) : ATS := fun AD env L => ae env L fun av L1 => AD.nx (env.set i (some av)) L1
def aAsg (ae : ATE) (ag : AV → Env → (Env → Prop) → Prop) : ATS := fun AD env L => ae env L fun av L1 => ag av env fun env1 => AD.nx env1 L1
def aPar (i j : Nat) (aa : ATA) : ATS := fun AD env L => aa env L fun avs L1 => match avs with
  | [a, b] => AD.nx ((env.set i (some a)).set j (some b)) L1
  | _ => False
def aPar3 (i j l : Nat) (aa : ATA) : ATS := fun AD env L => aa env L fun avs L1 => match avs with
  | [a, b, c] => AD.nx (((env.set i (some a)).set j (some b)).set l (some c)) L1
  | _ => False
def aSetIx (ae ao ai : ATE) : ATS := fun AD env L => ae env L fun av L1 => ao env L1 fun x L2 => ai env L2 fun y L3 => match x, y with
  | .p a, .d (.int i) => ∃ old, L3 a = some old ∧ 0 ≤ i ∧ i < old.length ∧ AD.nx env (put L3 a (old.set i.toNat av))
  | _, _ => False
def aRet (ae : ATE) : ATS := fun AD env L => ae env L AD.rt
def aDrop (ae : ATE) : ATS := fun AD env L => ae env L fun _ L1 => AD.nx env L1
def aIfS (c : ATT) (t u : ATS) : ATS := fun AD env L => c env L fun b L1 => (b = true → t AD env L1) ∧ (b = false → u AD env L1)
def aNever : ATS := fun _ _ _ => False
@[irreducible] def aFor (ai : AIT) (ag : AV → Env → (Env → Prop) → Prop) (tb : ATS) : ATS := fun AD env L => ai env L fun avs L1 => ∃ W : Nat → Env → LS → Prop, W 0 env L1 ∧
  (∀ (i : Nat) (av : AV) (env' : Env) (L' : LS), avs[i]? = some av → W i env' L' → ag av env' fun env2 => tb { AD with nx := W (i + 1), ct := W (i + 1), bk := AD.nx } env2 L') ∧
  ∀ (env' : Env) (L' : LS), W avs.length env' L' → AD.nx env' L'
@[irreducible] def aWhile (c : ATT) (tb : ATS) : ATS := fun AD env L => ∃ W : Nat → Env → LS → Prop, (∃ m, W m env L) ∧ ∀ (m : Nat) (env' : Env) (L' : LS), W m env' L' →
  c env' L' fun b L1 => (b = true → tb { AD with nx := fun e l => ∃ m', m' < m ∧ W m' e l, ct := fun e l => ∃ m', m' < m ∧ W m' e l, bk := AD.nx } env' L1) ∧ (b = false → AD.nx env' L1)
/-- a comprehension of data -/
@[irreducible] def aLc (ai : AIT) (ag : AV → Env → (Env → Prop) → Prop) (at_ : ATT) (ae : ATE) (vs : List Nat) : ATE := fun env L P => ai env L fun avs L1 => avs.length < 100000 ∧ ∃ W : Nat → List PyData → LS → Prop, W 0 [] L1 ∧
  (∀ (i : Nat) (av : AV) (acc : List PyData) (L' : LS), avs[i]? = some av → W i acc L' → ag av (wipeE env vs) fun env2 => at_ env2 L' fun b L3 =>
    (b = true → ae env2 L3 fun y L4 => match y with
      | .d d => W (i + 1) (acc ++ [d]) L4
      | _ => False) ∧ (b = false → W (i + 1) acc L3)) ∧
  ∀ (acc : List PyData) (L' : LS), W avs.length acc L' → P (.d (.list acc)) L'
def aYes : ATT := fun _ L P => P true L
theorem aFor_of {ai : AIT} {ag : AV → Env → (Env → Prop) → Prop} {tb : ATS} {AD : AEnds} {env : Env} {L : LS} (avs : List AV) (W : Nat → Env → LS → Prop) (ha : ∀ R : List AV → LS → Prop, R avs L → ai env L R) (h0 : W 0 env L)
    (ht : ∀ (i : Nat) (av : AV) (env' : Env) (L' : LS), avs[i]? = some av → W i env' L' → ag av env' fun env2 => tb { AD with nx := W (i + 1), ct := W (i + 1), bk := AD.nx } env2 L')
    (hd : ∀ (env' : Env) (L' : LS), W avs.length env' L' → AD.nx env' L') : aFor ai ag tb AD env L := by
  unfold aFor
  exact ha _ ⟨W, h0, ht, hd⟩
/-- the same where what is walked is reckoned on the way -/
theorem aFor_by {ai : AIT} {ag : AV → Env → (Env → Prop) → Prop} {tb : ATS} {AD : AEnds} {env : Env} {L : LS} (h : ai env L fun avs L1 => ∃ W : Nat → Env → LS → Prop, W 0 env L1 ∧
    (∀ (i : Nat) (av : AV) (env' : Env) (L' : LS), avs[i]? = some av → W i env' L' → ag av env' fun env2 => tb { AD with nx := W (i + 1), ct := W (i + 1), bk := AD.nx } env2 L') ∧
    ∀ (env' : Env) (L' : LS), W avs.length env' L' → AD.nx env' L') : aFor ai ag tb AD env L := by
  unfold aFor
  exact h
theorem aWhile_of {c : ATT} {tb : ATS} {AD : AEnds} {env : Env} {L : LS} (W : Nat → Env → LS → Prop) (m0 : Nat) (h0 : W m0 env L)
    (ht : ∀ (m : Nat) (env' : Env) (L' : LS), W m env' L' → c env' L' fun b L1 => (b = true → tb { AD with nx := fun e l => ∃ m', m' < m ∧ W m' e l, ct := fun e l => ∃ m', m' < m ∧ W m' e l, bk := AD.nx } env' L1) ∧ (b = false → AD.nx env' L1)) : aWhile c tb AD env L := by
  unfold aWhile
  exact ⟨W, ⟨m0, h0⟩, ht⟩
theorem aLc_by {ai : AIT} {ag : AV → Env → (Env → Prop) → Prop} {at_ : ATT} {ae : ATE} {vs : List Nat} {env : Env} {L : LS} {P : AK} (h : ai env L fun avs L1 => avs.length < 100000 ∧ ∃ W : Nat → List PyData → LS → Prop, W 0 [] L1 ∧
    (∀ (i : Nat) (av : AV) (acc : List PyData) (L' : LS), avs[i]? = some av → W i acc L' → ag av (wipeE env vs) fun env2 => at_ env2 L' fun b L3 =>
      (b = true → ae env2 L3 fun y L4 => match y with
        | .d d => W (i + 1) (acc ++ [d]) L4
        | _ => False) ∧ (b = false → W (i + 1) acc L3)) ∧
    ∀ (acc : List PyData) (L' : LS), W avs.length acc L' → P (.d (.list acc)) L') : aLc ai ag at_ ae vs env L P := by
  unfold aLc
  exact h
section
variable {K : PySem.W.Frag} {C : Addr}
theorem simT_yes : SimT K C tYes aYes := fun σ env G L H P Q r s q k => k true G L H (Go.refl ..) s q
theorem simS_seq {t u : TS} {at_ au : ATS} (h1 : SimS K C t at_) (h2 : SimS K C u au) : SimS K C (tSeq t u) (aSeq at_ au) := fun D AD σ env G L H r s q e =>
  h1 { D with nx := u D } { AD with nx := au AD } σ env G L H r s q ⟨fun σ' env' G' L' H' g s' r' p => h2 D AD σ' env' G' L' H' r' s' p (e.from g), e.rt, e.bk, e.ct⟩
theorem simS_seqF {i : Nat} {t u : TS} {at_ au : ATS} (h1 : SimS K C t at_) (h2 : SimS K C u au) : SimS K C (tSeq t u) (aSeqF i at_ au) := fun D AD σ env G L H r s q e => by
  refine h1 { D with nx := u D } _ σ env G L H r s q ⟨fun σ' env' G' L' H' g s' r' p => ?_, e.rt, e.bk, e.ct⟩
  simp only at p
  split at p
  · rename_i a ea
    obtain ⟨ds, e1, p⟩ := p
    obtain ⟨avs, q1, q2⟩ := Option.bind_eq_some_iff.mp e1
    obtain ⟨G2, d2, s2, g2⟩ := s'.frz q1 q2
    obtain ⟨v, hv, rv⟩ := r'.at_ i _ ea
    have rv : v = .ref a := rv
    subst rv
    exact h2 D AD σ' _ G2 _ H' ((r'.mono g2.ex).say i hv (av := .d (.list ds)) d2) s2 p (e.from (g.trans g2))
  · exact p.elim
theorem simS_asg {te : TE} {ae : ATE} {X : Cx} {tg : Expr} {g : TG} {ag : AV → Env → (Env → Prop) → Prop} {ss : List Nat} (h : SimE X.K C te ae) (hg : AG X C tg g ag ss) : SimS X.K C (tAsg te g) (aAsg ae ag) := fun D AD σ env G L H r s q e => by
  refine h σ env G L H _ _ r s q fun v av G1 L1 H1 g1 s1 r1 p => ?_
  exact hg.sim v av σ env G1 L1 H1 _ _ (r.mono g1.ex) s1 r1 p fun σ' env' r' _ p => e.nx _ _ _ _ _ g1 s1 r' p
theorem simS_set {te : TE} {ae : ATE} {i : Nat} (h : SimE K C te ae) : SimS K C (tAsg te (gName i)) (aSet i ae) := fun D AD σ env G L H r s q e => by
  refine h σ env G L H _ _ r s q fun v av G1 L1 H1 g1 s1 r1 p => ?_
  exact e.nx _ _ _ _ _ g1 s1 ((r.mono g1.ex).set i r1) p
theorem three_av {G : Hp} {xs : List V} {av bv cv : AV} (r : RpAll K C G xs [av, bv, cv]) : ∃ u v w, xs = [u, v, w] ∧ Rp K C G u av ∧ Rp K C G v bv ∧ Rp K C G w cv := by
  cases r with
  | cons r rr =>
    cases rr with
    | cons r2 rr =>
      cases rr with
      | cons r3 rr =>
        cases rr
        exact ⟨_, _, _, rfl, r, r2, r3⟩
theorem simS_for {X : Cx} {C : Addr} {tg iter : Expr} {wi : TI} {ai : AIT} {g : TG} {ag : AV → Env → (Env → Prop) → Prop} {ss : List Nat} {tb : TS} {ab : ATS} (hi : AIt X C tg iter wi ai) (hg : AG X C tg g ag ss) (hb : SimS X.K C tb ab) : SimS X.K C (tFor wi g tb) (aFor ai ag ab) := fun D AD σ env G L H r s q e => by
  unfold aFor at q
  refine hi.sim σ env G L H _ _ r s q fun avs G1 L1 H1 J g1 s1 w p => ?_
  obtain ⟨W, w0, wt, wd⟩ := p
  refine ⟨fun i m σ' H' => ∃ (env' : Env) (G' : Hp) (L' : LS), m = avs.length - i ∧ i ≤ avs.length ∧ Go G L H G' L' H' ∧ Ex G1 G' ∧ RS X.K C G' L' H' ∧ Rel X.K C σ' env' G' ∧ W i env' L',
    ⟨avs.length, env, G1, L1, rfl, Nat.zero_le _, g1, Ex.refl _, s1, r.mono g1.ex, w0⟩, ?_⟩
  rintro i m σ' H' ⟨env', G', L', rfl, hle, g2, x2, s2, r2, w2⟩
  by_cases hlt : i < avs.length
  · refine .inr ⟨w.go i G' L' H' hlt x2 s2, fun σ3 H3 => ∃ (env3 : Env) (G3 : Hp) (L3 : LS), Go G L H G3 L3 H3 ∧ Ex G1 G3 ∧ RS X.K C G3 L3 H3 ∧ Rel X.K C σ3 env3 G3 ∧ W (i + 1) env3 L3, ?_, fun x H3 y => ?_⟩
    · rintro σ3 H3 ⟨env3, G3, L3, a1, a2, a3, a4, a5⟩
      exact ⟨avs.length - (i + 1), by omega, env3, G3, L3, rfl, hlt, a1, a2, a3, a4, a5⟩
    · obtain ⟨av, G3, e3, g3, s3, r3⟩ := w.yld i G' L' H' x H3 hlt x2 s2 y
      refine hg.sim x av σ' env' G3 L' H3 _ _ (r2.mono g3.ex) s3 r3 (wt i av env' L' e3 w2) fun σ4 env4 r4 _ p4 => ?_
      have g4 := g2.trans g3
      refine hb _ _ σ4 env4 G3 L' H3 r4 s3 p4 ⟨fun σ5 env5 G5 L5 H5 g5 s5 r5 p5 => ?_, fun v av G5 L5 H5 g5 => e.rt v av G5 L5 H5 (g4.trans g5), fun σ5 env5 G5 L5 H5 g5 => e.nx σ5 env5 G5 L5 H5 (g4.trans g5), fun σ5 env5 G5 L5 H5 g5 s5 r5 p5 => ?_⟩
      · exact ⟨env5, G5, L5, g4.trans g5, (x2.trans g3.ex).trans g5.ex, s5, r5, p5⟩
      · exact ⟨env5, G5, L5, g4.trans g5, (x2.trans g3.ex).trans g5.ex, s5, r5, p5⟩
  · have ei : i = avs.length := by omega
    subst ei
    exact .inl ⟨w.stop G' L' H' x2 s2, e.nx _ _ _ _ _ g2 s2 r2 (wd env' L' w2)⟩
theorem simS_while {c : TT} {ac : ATT} {tb : TS} {ab : ATS} (hc : SimT K C c ac) (hb : SimS K C tb ab) : SimS K C (tWhile c tb) (aWhile ac ab) := fun D AD σ env G L H r s q e => by
  unfold aWhile at q
  obtain ⟨W, ⟨m0, w0⟩, wt⟩ := q
  refine ⟨fun m σ' H' => ∃ (env' : Env) (G' : Hp) (L' : LS), Go G L H G' L' H' ∧ RS K C G' L' H' ∧ Rel K C σ' env' G' ∧ W m env' L', ⟨m0, env, G, L, Go.refl .., s, r, w0⟩, ?_⟩
  rintro m σ' H' ⟨env', G', L', g2, s2, r2, w2⟩
  refine hc σ' env' G' L' H' _ _ r2 s2 (wt m env' L' w2) fun b G3 L3 H3 g3 s3 p3 => ?_
  cases b with
  | true =>
    rw [if_pos rfl]
    refine ⟨fun σ4 H4 => ∃ m', m' < m ∧ ∃ (env4 : Env) (G4 : Hp) (L4 : LS), Go G L H G4 L4 H4 ∧ RS K C G4 L4 H4 ∧ Rel K C σ4 env4 G4 ∧ W m' env4 L4, fun σ4 H4 h => h, ?_⟩
    have g4 := g2.trans g3
    refine hb _ _ σ' env' G3 L3 H3 (r2.mono g3.ex) s3 (p3.1 rfl) ⟨fun σ5 env5 G5 L5 H5 g5 s5 r5 p5 => ?_, fun v av G5 L5 H5 g5 => e.rt v av G5 L5 H5 (g4.trans g5), fun σ5 env5 G5 L5 H5 g5 => e.nx σ5 env5 G5 L5 H5 (g4.trans g5), fun σ5 env5 G5 L5 H5 g5 s5 r5 p5 => ?_⟩
    · obtain ⟨m', hm, p5⟩ := p5
      exact ⟨m', hm, env5, G5, L5, g4.trans g5, s5, r5, p5⟩
    · obtain ⟨m', hm, p5⟩ := p5
      exact ⟨m', hm, env5, G5, L5, g4.trans g5, s5, r5, p5⟩
  | false =>
    rw [if_neg Bool.false_ne_true]
    exact e.nx _ _ _ _ _ (g2.trans g3) s3 (r2.mono g3.ex) (p3.2 rfl)
theorem simE_lc {X Y : Cx} {C : Addr} {tg iter : Expr} {wi : TI} {ai : AIT} {g : TG} {ag : AV → Env → (Env → Prop) → Prop} {ss : List Nat} {tt : TT} {at_ : ATT} {te : TE} {ae : ATE} {vs : List Nat} (hY : Y.K = X.K) (hi : AIt X C tg iter wi ai) (hg : AG Y C tg g ag ss) (ht : SimT X.K C tt at_) (he : SimE X.K C te ae) (hss : ∀ i ∈ ss, i ∈ vs) :
    SimE X.K C (tLc wi g tt te vs) (aLc ai ag at_ ae vs) := fun σ env G L H P Q r s q k => by
  unfold aLc at q
  refine hi.sim σ env G L H _ _ r s q fun avs G1 L1 H1 J g1 s1 w p => ?_
  obtain ⟨hlen, W, w0, wt, wd⟩ := p
  intro D hD
  obtain ⟨s1', g1'⟩ := s1.newH (o := .lst []) hD
  have gD : G1 D = none := s1.ex.free hD
  have lD : L1 D = none := s1.fresh hD
  refine ⟨fun i m H' => ∃ (G' : Hp) (L' : LS) (acc : List PyData) (xs : List V), m = avs.length - i ∧ i ≤ avs.length ∧ Go G L H G' L' H' ∧ Ex G1 G' ∧ RS X.K C G' L' H' ∧ W i acc L' ∧ H' D = some (.lst xs) ∧ G' D = none ∧ L' D = none ∧ DvAll G' xs acc ∧ acc.length ≤ i,
    ⟨avs.length, G1, L1, [], [], rfl, Nat.zero_le _, g1.trans g1', Ex.refl _, s1', w0, upd_same, gD, lD, .nil, Nat.le_refl _⟩, ?_⟩
  rintro i m H' ⟨G', L', acc, xs, rfl, hle, g2, x2, s2, w2, h2, gd2, ld2, rx2, hacc⟩
  by_cases hlt : i < avs.length
  · refine .inr ⟨w.go i G' L' H' hlt x2 s2, fun H3 => ∃ (G3 : Hp) (L3 : LS) (acc3 : List PyData) (xs3 : List V), Go G L H G3 L3 H3 ∧ Ex G1 G3 ∧ RS X.K C G3 L3 H3 ∧ W (i + 1) acc3 L3 ∧ H3 D = some (.lst xs3) ∧ G3 D = none ∧ L3 D = none ∧ DvAll G3 xs3 acc3 ∧ acc3.length ≤ i + 1, ?_, fun x H3 y => ?_⟩
    · rintro H3 ⟨G3, L3, acc3, xs3, a1, a2, a3, a4, a5⟩
      exact ⟨avs.length - (i + 1), by omega, G3, L3, acc3, xs3, rfl, hlt, a1, a2, a3, a4, a5⟩
    · obtain ⟨av, G3, e3, g3, s3, r3⟩ := w.yld i G' L' H' x H3 hlt x2 s2 y
      obtain ⟨h3, gd3, ld3⟩ := g3.out D _ h2 gd2 ld2
      have s3' : RS Y.K C G3 L' H3 := by rw [hY]; exact s3
      have r0 : Rel X.K C (wipe σ vs) (wipeE env vs) G3 := (r.wipe vs).mono ((g1.ex.trans x2).trans g3.ex)
      have r0' : Rel Y.K C (wipe σ vs) (wipeE env vs) G3 := by rw [hY]; exact r0
      have r3' : Rp Y.K C G3 x av := by rw [hY]; exact r3
      refine hg.sim x av _ _ G3 L' H3 _ _ r0' s3' r3' (wt i av acc L' e3 w2) fun σ4 env4 r4 w4 p4 => ?_
      have r4 : Rel X.K C σ4 env4 G3 := by rw [← hY]; exact r4
      refine ⟨by rw [w4 vs hss, wipe_wipe], ?_⟩
      refine ht σ4 env4 G3 L' H3 _ _ r4 s3 p4 fun b G5 L5 H5 g5 s5 p5 => ?_
      obtain ⟨h5, gd5, ld5⟩ := g5.out D _ h3 gd3 ld3
      cases b with
      | true =>
        rw [if_pos rfl]
        refine he σ4 env4 G5 L5 H5 _ _ (r4.mono g5.ex) s5 (p5.1 rfl) fun v bv G6 L6 H6 g6 s6 r6 p6 => ?_
        obtain ⟨h6, gd6, ld6⟩ := g6.out D _ h5 gd5 ld5
        split at p6
        · rename_i d
          have g7 := ((g2.trans g3).trans g5).trans g6
          have x7 := ((x2.trans g3.ex).trans g5.ex).trans g6.ex
          have rx := rx2.mono (((g3.ex).trans g5.ex).trans g6.ex)
          refine ⟨xs, h6, sz_lt (by rw [rx2.length]; omega), G6, L6, acc ++ [d], xs ++ [v], ⟨g7.ex, fun a o b1 b2 b3 => ?_⟩, x7, s6.mutH gd6 ld6, p6, upd_same, gd6, ld6, rx.append (.cons r6 .nil), by rw [List.length_append, List.length_singleton]; omega⟩
          have ne : a ≠ D := fun z => by
            obtain ⟨c1, _, _⟩ := g1.out a o b1 b2 b3
            rw [z, hD] at c1
            cases c1
          obtain ⟨c1, c2, c3⟩ := g7.out a o b1 b2 b3
          exact ⟨by rw [upd_ne ne]; exact c1, c2, c3⟩
        · exact p6.elim
      | false =>
        rw [if_neg Bool.false_ne_true]
        exact ⟨G5, L5, acc, xs, (g2.trans g3).trans g5, (x2.trans g3.ex).trans g5.ex, s5, p5.2 rfl, h5, gd5, ld5, rx2.mono (g3.ex.trans g5.ex), by omega⟩
  · have ei : i = avs.length := by omega
    subst ei
    refine .inl ⟨w.stop G' L' H' x2 s2, ?_⟩
    have x : Ex G' (upd G' D (.lst xs)) := Ex.new gd2
    have s4 : RS X.K C (upd G' D (.lst xs)) L' H' := by
      refine ⟨s2.ex.frz h2, fun a bvs q => ?_⟩
      have ne : a ≠ D := fun z => by
        rw [z, ld2] at q
        cases q
      obtain ⟨b1, ys, b2, b3⟩ := s2.ls a bvs q
      exact ⟨by rw [upd_ne ne]; exact b1, ys, b2, b3.mono x⟩
    have g4 : Go G L H (upd G' D (.lst xs)) L' H' := by
      refine ⟨g2.ex.trans x, fun a o b1 b2 b3 => ?_⟩
      have ne : a ≠ D := fun z => by
        obtain ⟨c1, _, _⟩ := g1.out a o b1 b2 b3
        rw [z, hD] at c1
        cases c1
      obtain ⟨c1, c2, c3⟩ := g2.out a o b1 b2 b3
      exact ⟨c1, by rw [upd_ne ne]; exact c2, c3⟩
    exact k (.ref D) (.d (.list acc)) _ L' H' g4 s4 (.lst upd_same (rx2.mono x)) (wd acc L' w2)
end
structure ATs (X : Cx) (C : Addr) (ifs : List Expr) (t : TT) (at_ : ATT) : Prop where
  pts : PTs X ifs t
  sim : SimT X.K C t at_
section
variable {X : Cx} {C : Addr} {e c : Expr} {te : TE} {ae : ATE} {st : Stmt} {rest : List Stmt} {t u : TS} {at_ au : ATS} {pos pos' : Pos} {tc : TT} {ac : ATT}
theorem ats_nil : ATs X C [] tYes aYes := ⟨pts_nil, simT_yes⟩
theorem ats_one (h : AT X C c tc ac) : ATs X C [c] tc ac := ⟨pts_one h.pt, h.sim⟩
theorem ass_nil : ASs X C [] tNext aNext := ⟨pss_nil, fun D AD σ env G L H r s q e => e.nx _ _ _ _ _ (Go.refl ..) s r q⟩
theorem ass_cons (h1 : AS X C st t at_) (h2 : ASs X C rest u au) : ASs X C (st :: rest) (tSeq t u) (aSeq at_ au) := ⟨pss_cons h1.ps h2.ps, simS_seq h1.sim h2.sim⟩
theorem ass_consF (i : Nat) (h1 : AS X C st t at_) (h2 : ASs X C rest u au) : ASs X C (st :: rest) (tSeq t u) (aSeqF i at_ au) := ⟨pss_cons h1.ps h2.ps, simS_seqF h1.sim h2.sim⟩
theorem ass_one (h1 : AS X C st t at_) : ASs X C [st] t at_ := ⟨pss_one h1.ps, h1.sim⟩
theorem as_never : AS X C st tNever aNever := ⟨ps_never, fun _ _ _ _ _ _ _ _ _ q _ => q.elim⟩
theorem ass_never {sts : List Stmt} : ASs X C sts tNever aNever := ⟨pss_never, fun _ _ _ _ _ _ _ _ _ q _ => q.elim⟩
theorem as_set (i : Nat) {x : Str} (hN : X.N.Nodup) (he : AE X C e te ae) (hi : X.N[i]? = some x := by rfl) (hx : Loc X.env.scope x := by first | exact Or.inl rfl | exact Or.inr rfl) (hs : swapsWith e (some (.Name x pos')) pos.line X.env = pure false := by rfl)
    (hf : X.fn x = true ∨ X.env.scope.names.lookup x = some .local := by first | exact .inl rfl | exact .inr rfl | assumption) : AS X C (.Assign [.Name x pos'] e pos) (tAsg te (gName i)) (aSet i ae) := ⟨ps_set hN hi hx he.pe hs hf, simS_set he.sim⟩
theorem as_asg {tg : Expr} {g : TG} {ag : AV → Env → (Env → Prop) → Prop} {ss : List Nat} (he : AE X C e te ae) (hg : AG X C tg g ag ss) (hs : swapsWithSole [tg] e pos.line X.env = pure false := by rfl) (hw : swappedStores [tg] e X.env = pure none := by rfl)
    (h1 : (assignEach [tg] X.env).map (·.2) = [assign tg X.env] := by rfl) : AS X C (.Assign [tg] e pos) (tAsg te g) (aAsg ae ag) := ⟨ps_asg he.pe hg.pg hs hw h1, simS_asg he.sim hg⟩
theorem as_par (i j : Nat) {x y : Str} {a b : Expr} {ta : TA} {aa : ATA} {px py pt pt2 : Pos} {kt k2 : Nat} (hc : X.calm = true) (hN : X.N.Nodup) (ha : AA X C [a, b] ta aa) (hi : X.N[i]? = some x := by rfl) (hj : X.N[j]? = some y := by rfl) (hij : i ≠ j := by decide)
    (hx : X.env.scope.names.lookup x = some .local := by rfl) (hy : X.env.scope.names.lookup y = some .local := by rfl)
    (hw : swappedStores [.Tuple [.Name x px, .Name y py] kt pt] (.Tuple [a, b] k2 pt2) X.env = pure (some [x, y]) := by rfl)
    (hs : swapsWithSole [.Tuple [.Name x px, .Name y py] kt pt] (.Tuple [a, b] k2 pt2) pos.line X.env = pure false := by rfl) :
    AS X C (.Assign [.Tuple [.Name x px, .Name y py] kt pt] (.Tuple [a, b] k2 pt2) pos) (tPar i j ta) (aPar i j aa) := ⟨ps_par hc hN hi hj hij hx hy ha.pa hw hs, fun D AD σ env G L H r s q e => by
  refine ha.sim σ env G L H _ _ r s q fun vs avs G1 L1 H1 g1 s1 r1 p => ?_
  split at p
  · obtain ⟨v, w, rfl, rv, rw_⟩ := two_av r1
    exact ⟨v, w, rfl, e.nx _ _ _ _ _ g1 s1 (((r.mono g1.ex).set i rv).set j rw_) p⟩
  · exact p.elim⟩
theorem as_par3 (i j l : Nat) {x y z : Str} {a b d : Expr} {ta : TA} {aa : ATA} {px py pz pt pt2 : Pos} {kt k2 : Nat} (hc : X.calm = true) (hN : X.N.Nodup) (ha : AA X C [a, b, d] ta aa) (hi : X.N[i]? = some x := by rfl) (hj : X.N[j]? = some y := by rfl) (hl : X.N[l]? = some z := by rfl) (hij : i ≠ j := by decide) (hil : i ≠ l := by decide) (hjl : j ≠ l := by decide)
    (hx : X.env.scope.names.lookup x = some .local := by rfl) (hy : X.env.scope.names.lookup y = some .local := by rfl) (hz : X.env.scope.names.lookup z = some .local := by rfl)
    (hw : swappedStores [.Tuple [.Name x px, .Name y py, .Name z pz] kt pt] (.Tuple [a, b, d] k2 pt2) X.env = pure (some [x, y, z]) := by rfl)
    (hs : swapsWithSole [.Tuple [.Name x px, .Name y py, .Name z pz] kt pt] (.Tuple [a, b, d] k2 pt2) pos.line X.env = pure false := by rfl) :
    AS X C (.Assign [.Tuple [.Name x px, .Name y py, .Name z pz] kt pt] (.Tuple [a, b, d] k2 pt2) pos) (tPar3 i j l ta) (aPar3 i j l aa) := ⟨ps_par3 hc hN hi hj hl hij hil hjl hx hy hz ha.pa hw hs, fun D AD σ env G L H r s q e => by
  refine ha.sim σ env G L H _ _ r s q fun vs avs G1 L1 H1 g1 s1 r1 p => ?_
  split at p
  · obtain ⟨u, v, w, rfl, ru, rv, rw_⟩ := three_av r1
    exact ⟨u, v, w, rfl, e.nx _ _ _ _ _ g1 s1 ((((r.mono g1.ex).set i ru).set j rv).set l rw_) p⟩
  · exact p.elim⟩
theorem as_setIx {o i : Expr} {to ti : TE} {ao ai : ATE} {tpos : Pos} (he : AE X C e te ae) (ho : AE X C o to ao) (hi : AE X C i ti ai)
    (ha : ∀ v, assign (.Subscript o i tpos) X.env v = (do
      let ov ← holding [v] (eval o X.env)
      let iv ← holding [v, ov] (eval i X.env)
      standAt tpos
      holding [v, ov, iv] (setItem ov iv v)
      release [v, ov, iv] []) := by intro _; rfl)
    (hs : swapsWithSole [.Subscript o i tpos] e pos.line X.env = pure false := by rfl) (hw : swappedStores [.Subscript o i tpos] e X.env = pure none := by rfl)
    (h1 : (assignEach [.Subscript o i tpos] X.env).map (·.2) = [assign (.Subscript o i tpos) X.env] := by rfl) : AS X C (.Assign [.Subscript o i tpos] e pos) (tAsg te (gSub to ti rSetL)) (aSetIx ae ao ai) := ⟨ps_asg he.pe (pg_sub ho.pe hi.pe set_list ha) hs hw h1, fun D AD σ env G L H r s q ends => by
  refine he.sim σ env G L H _ _ r s q fun v av G1 L1 H1 g1 s1 r1 p1 => ?_
  refine ho.sim σ env G1 L1 H1 _ _ (r.mono g1.ex) s1 p1 fun x ax G2 L2 H2 g2 s2 r2 p2 => ?_
  refine hi.sim σ env G2 L2 H2 _ _ (r.mono (g1.trans g2).ex) s2 p2 fun y ay G3 L3 H3 g3 s3 r3 p3 => ?_
  clear p1 p2 q
  split at p3
  · rename_i a i
    obtain ⟨old, l3, h0, hl, p⟩ := p3
    have r2 : x = .ref a := r2
    subst r2
    have r3 : Dv G3 y (.int i) := r3
    cases r3
    obtain ⟨_, xs, h3, h4⟩ := s3.ls a old l3
    obtain ⟨s4, g4⟩ := s3.setL l3 (RpAll.set (r1.mono (g2.ex.trans g3.ex)) i.toNat h4)
    have e : ixN xs.length i = some i.toNat := by
      unfold ixN
      rw [if_pos h0, h4.length, if_pos hl]
    exact ⟨a, xs, i, i.toNat, rfl, rfl, h3, e, ends.nx _ _ _ _ _ (((g1.trans g2).trans g3).trans g4) s4 (r.mono (((g1.trans g2).trans g3).trans g4).ex) p⟩
  · exact p3.elim⟩
theorem as_ret (he : AE X C e te ae) : AS X C (.Return (some e) pos) (tRet te) (aRet ae) := ⟨ps_ret he.pe, fun D AD σ env G L H r s q e => he.sim σ env G L H _ _ r s q fun v av G1 L1 H1 g1 s1 r1 p => e.rt v av G1 L1 H1 g1 s1 r1 p⟩
theorem as_expr (he : AE X C e te ae) (hs : swapsWith e none pos.line X.env = pure false := by rfl) : AS X C (.Expr e pos) (tDrop te) (aDrop ae) := ⟨ps_expr he.pe hs, fun D AD σ env G L H r s q e => he.sim σ env G L H _ _ r s q fun v av G1 L1 H1 g1 s1 r1 p => e.nx _ _ _ _ _ g1 s1 (r.mono g1.ex) p⟩
theorem as_if {a b : List Stmt} (hc : AT X C c tc ac) (h1 : ASs X C a t at_) (h2 : ASs X C b u au) : AS X C (.If c a b pos) (tIfS tc t u) (aIfS ac at_ au) := ⟨ps_if hc.pt h1.ps h2.ps, fun D AD σ env G L H r s q e => by
  refine hc.sim σ env G L H _ _ r s q fun b G1 L1 H1 g1 s1 p => ?_
  cases b with
  | true =>
    rw [if_pos rfl]
    exact h1.sim D AD σ env G1 L1 H1 (r.mono g1.ex) s1 (p.1 rfl) (e.from g1)
  | false =>
    rw [if_neg Bool.false_ne_true]
    exact h2.sim D AD σ env G1 L1 H1 (r.mono g1.ex) s1 (p.2 rfl) (e.from g1)⟩
theorem as_for {tg iter : Expr} {wi : TI} {ai : AIT} {g : TG} {ag : AV → Env → (Env → Prop) → Prop} {ss : List Nat} {body : List Stmt} (hi : AIt X C tg iter wi ai) (hg : AG X C tg g ag ss) (hb : ASs X C body t at_) (hc : X.calm = true := by rfl) (hp : PassesOwn (model X.prog X.w) X.A X.env X.xe := by exact PassesOwn.never)
    (hs : ∀ x, foldedSetIterable iter X.env x = pure x := by intro _; rfl) : AS X C (.For tg iter body [] pos) (tFor wi g t) (aFor ai ag at_) := ⟨ps_for hp hc hi.pi hg.pg hb.ps hs, simS_for hi hg hb.sim⟩
theorem as_while {body : List Stmt} (hc : AT X C c tc ac) (hb : ASs X C body t at_) (hp : PassesOwn (model X.prog X.w) X.A X.env X.xe := by exact PassesOwn.never) : AS X C (.While c body [] pos) (tWhile tc t) (aWhile ac at_) := ⟨ps_while hp hc.pt hb.ps, simS_while hc.sim hb.sim⟩
abbrev blk0 (X : Cx) (scope : Scope) : Cx := X.blk X.s_0 X.H_0 scope (compEnvC scope [] 0 X.env) []
theorem ae_lc {elt tg iter : Expr} {ifs : List Expr} {scope : Scope} (own : List (Str × Nat)) {wi : TI} {ai : AIT} {g : TG} {ag : AV → Env → (Env → Prop) → Prop} {ss : List Nat} {tt : TT} {att : ATT} (hN : X.N.Nodup) (hi : AIt X C tg iter wi ai) (ok : blkC X.N X.env.scope scope own = true)
    (hg : ∀ (s : Shared) (H : Hp) (Cc : Addr) (cl : List (Str × Addr)) (fp : List Addr), AG (X.blk s H scope (compEnvC scope cl Cc X.env) fp) C tg g ag ss) (ht : ∀ (s : Shared) (H : Hp) (Cc : Addr) (cl : List (Str × Addr)) (fp : List Addr), ATs (X.blk s H scope (compEnvC scope cl Cc X.env) fp) C ifs tt att)
    (he : ∀ (s : Shared) (H : Hp) (Cc : Addr) (cl : List (Str × Addr)) (fp : List Addr), AE (X.blk s H scope (compEnvC scope cl Cc X.env) fp) C elt te ae) (hss : ∀ i ∈ ss, i ∈ own.map (·.2) := by decide) (hc : X.calm = true := by rfl) (hs : ∀ x, foldedSetIterable iter X.env x = pure x := by intro _; rfl) :
    AE X C (.ListComp elt [⟨tg, iter, ifs, 0⟩] scope pos) (tLc wi g tt te (own.map (·.2))) (aLc ai ag att ae (own.map (·.2))) :=
  ⟨pe_lc hc hN hi.pi (blkOk_by ok) (fun s H Cc cl fp => (hg s H Cc cl fp).pg) (fun s H Cc cl fp => (ht s H Cc cl fp).pts) (fun s H Cc cl fp => (he s H Cc cl fp).pe) hs,
    simE_lc (X := X) (Y := blk0 X scope) rfl hi (hg X.s_0 X.H_0 0 [] []) (ht X.s_0 X.H_0 0 [] []).sim (he X.s_0 X.H_0 0 [] []).sim hss⟩
theorem as_setLc (i : Nat) {y : Str} {py spos : Pos} {elt tg iter : Expr} {ifs : List Expr} {scope : Scope} (own : List (Str × Nat)) {wi : TI} {ai : AIT} {g : TG} {ag : AV → Env → (Env → Prop) → Prop} {ss : List Nat} {tt : TT} {att : ATT} (hN : X.N.Nodup) (hi : AIt X C tg iter wi ai) (ok : blkC X.N X.env.scope scope own = true)
    (hg : ∀ (s : Shared) (H : Hp) (Cc : Addr) (cl : List (Str × Addr)) (fp : List Addr), AG (X.blk s H scope (compEnvC scope cl Cc X.env) fp) C tg g ag ss) (ht : ∀ (s : Shared) (H : Hp) (Cc : Addr) (cl : List (Str × Addr)) (fp : List Addr), ATs (X.blk s H scope (compEnvC scope cl Cc X.env) fp) C ifs tt att)
    (he : ∀ (s : Shared) (H : Hp) (Cc : Addr) (cl : List (Str × Addr)) (fp : List Addr), AE (X.blk s H scope (compEnvC scope cl Cc X.env) fp) C elt te ae) (hss : ∀ i ∈ ss, i ∈ own.map (·.2) := by decide)
    (hy : X.N[i]? = some y := by rfl) (hyl : X.env.scope.names.lookup y = some .local := by rfl) (hsw : swapsWith (.ListComp elt [⟨tg, iter, ifs, 0⟩] scope pos) (some (.Name y py)) spos.line X.env = pure true := by exact sw_true rfl rfl rfl (by decide +kernel))
    (hc : X.calm = true := by rfl) (hs : ∀ x, foldedSetIterable iter X.env x = pure x := by intro _; rfl) :
    AS X C (.Assign [.Name y py] (.ListComp elt [⟨tg, iter, ifs, 0⟩] scope pos) spos) (tAsg (tLc wi g tt te (own.map (·.2))) (gName i)) (aSet i (aLc ai ag att ae (own.map (·.2)))) :=
  ⟨ps_setLc hc hN hy hyl hsw hi.pi (blkOk_by ok) (fun s H Cc cl fp => (hg s H Cc cl fp).pg) (fun s H Cc cl fp => (ht s H Cc cl fp).pts) (fun s H Cc cl fp => (he s H Cc cl fp).pe) hs,
    simS_set (simE_lc (X := X) (Y := blk0 X scope) rfl hi (hg X.s_0 X.H_0 0 [] []) (ht X.s_0 X.H_0 0 [] []).sim (he X.s_0 X.H_0 0 [] []).sim hss)⟩
end

/-! ### a def -/
def startE (N : List Str) (avs : List AV) : Env := avs.map some ++ List.replicate (N.length - avs.length) none
theorem rel_start {K : PySem.W.Frag} {C : Addr} {G : Hp} {N : List Str} {vs : List V} {avs : List AV} (r : RpAll K C G vs avs) : Rel K C (L2.start N vs) (startE N avs) G := by
  have hl := r.length
  refine ⟨?_, fun i av h => ?_⟩
  · unfold L2.start startE
    rw [List.length_append, List.length_append, List.length_map, List.length_map, List.length_replicate, List.length_replicate, hl]
  · unfold startE at h
    by_cases hi : i < avs.length
    · rw [List.getElem?_append_left (by simpa using hi), List.getElem?_map] at h
      have e : avs[i]? = some av := by
        cases z : avs[i]? with
        | none =>
          rw [z] at h
          cases h
        | some b =>
          rw [z] at h
          cases h
          rfl
      obtain ⟨v, hv, rv⟩ := r.get e
      refine ⟨v, ?_, rv⟩
      unfold L2.start
      rw [List.getElem?_append_left (by simp; omega), List.getElem?_map, hv]
      rfl
    · rw [List.getElem?_append_right (by simpa using hi), List.getElem?_replicate] at h
      split at h <;> cases h
section
variable {P : Program} {w : World} {K : PySem.W.Frag} {mg : Str → Option Value} {base : Heap} {C : Addr}
/-- THE RULE for a def -/
theorem fnA {x qual : Str} {st : Stmt} {f : Addr} {fd : FuncData} {N ps : List Str} {k : Nat} {FF : List AV → LS → AK → Prop} (F : Fun K x qual st f fd) (S : FnScope N ps (defScope st)) (len : ∀ avs L Q, FF avs L Q → avs.length = ps.length)
    (hbody : ∀ (cdv : Value) (A : Around) (outer : List PySem.Env) (s : Shared) (H : Hp) (E : XK), Room k (A.deeper (envOfC qual (defScope st) s.heap.objs.size f cdv)) →
      ∃ t at_, ASs (cxOf CX0 P w K mg base N qual (defScope st) f cdv A outer s H E).nox C (defBody st) t at_ ∧
        ∀ avs L Q, FF avs L Q → at_ { nx := fun _ L' => Q (.d .none) L', rt := Q } (startE N avs) L) : FnOk P w K mg base CX0 (k + 1) f fd ps (spA K C FF) := by
  refine F.ok S (fun vs H Q E h => ?_) (fun cdv A outer s H vs Q E hr h => ?_)
  · obtain ⟨G, L, avs, P0, _, r, ff, _⟩ := h
    rw [r.length, len avs L P0 ff]
  · obtain ⟨G, L, avs, P0, s0, r, ff, k0⟩ := h
    obtain ⟨t, at_, hb, hq⟩ := hbody cdv A outer s H E hr
    refine ⟨t, hb.ps, hb.sim _ { nx := fun _ L' => P0 (.d .none) L', rt := P0 } _ _ G L H (rel_start r) s0 (hq avs L P0 ff) ⟨fun σ env G' L' H' g s' r' p => ?_, fun v av G' L' H' g s' r' p => ?_, fun _ _ _ _ _ _ _ _ p => p.elim, fun _ _ _ _ _ _ _ _ p => p.elim⟩⟩
    · exact k0 .non (.d .none) G' L' H' g s' .non p
    · exact k0 v av G' L' H' g s' r' p
end
end VS

set_option Elab.async false
set_option linter.all false
set_option maxRecDepth 100000
set_option maxHeartbeats 4000000
set_option autoImplicit false
namespace PySem
open Sem (wp)
theorem vs_meets_enum1 {v : Value} {o : Obj} {H : Heap → Prop} (B : Begins v o H) :
    Meets (Builtin.«enumerate.__new__» ⟨[.type "enumerate", v], []⟩) (fun _ R s => H s.heap ∧
      R (.ok (.ret (.ref (s.heap.push o).objs.size))) { s with heap := (s.heap.push o).push { cls := .type "enumerate", data := .fields #[.none, .bool false, .ref s.heap.objs.size, rawInt 0, .none, .none] } }) :=
  .of_wp fun prog w A R s h => by
    obtain ⟨hp, g, d, tk, os⟩ := s; obtain ⟨h1, h⟩ := h
    have hsub := sub_enumerate
    have q1 : ∀ {A' : Around} {E : Value → Shared → Prop} {Q : Value → Shared → Prop}, Q (.ref hp.objs.size) ⟨hp.push o, g, d, tk, os⟩ → wpAny (model prog w) A' (pyIter v) Q E ⟨hp, g, d, tk, os⟩ :=
      fun q => B.iter prog w _ _ ⟨hp, g, d, tk, os⟩ _ h1 q
    wp_walk using q1
    refine wpAny_stack_any fun st => wpAny_pure ?_
    split
    · rename_i c _ _ _ _ _
      cases (c == Value.type "enumerate")
      · wp_walk using q1
        exact ⟨_, rfl, h⟩
      · wp_walk using q1
        exact ⟨_, rfl, h⟩
    · wp_walk using q1
      exact ⟨_, rfl, h⟩
section
variable {prog : Program} {w : World} {A : Around} {E : Value → Shared → Prop} {s : Shared}
theorem vs_enum1 {v : Value} {o : Obj} {H : Heap → Prop} {Q : Value → Shared → Prop} (B : Begins v o H) (h1 : H s.heap)
    (h : ∀ h', IsEnum h' (s.heap.objs.size + 1) s.heap.objs.size 0 .none → h'.get? s.heap.objs.size = some o → h'.objs.size = s.heap.objs.size + 2 →
      (∀ b o, s.heap.get? b = some o → h'.get? b = some o) → Q (.ref (s.heap.objs.size + 1)) { s with heap := h' }) :
    wpAny (model prog w) A (call (.type "enumerate") [v]) Q E s := by
  refine callType_new F.called_enumerate (by decide) (F.typeCall_enumerate_1 _) (F.newCall_enumerate_1 _) (fun obj => F.args_object_init_2 obj _) F.entry_enumerate_new
    (vs_meets_enum1 B) ⟨h1, ?_⟩
  have hz : (s.heap.push o).objs.size = s.heap.objs.size + 1 := Heap.size_push ..
  show _ ∧ _
  rw [hz]
  have he : IsEnum ((s.heap.push o).push { cls := .type "enumerate", data := .fields #[.none, .bool false, .ref s.heap.objs.size, rawInt 0, .none, .none] }) (s.heap.objs.size + 1) s.heap.objs.size 0 .none := by
    have := Heap.get?_push_size (s.heap.push o) (o := { cls := .type "enumerate", data := .fields #[.none, .bool false, .ref s.heap.objs.size, rawInt 0, .none, .none] }) rfl
    rw [hz] at this; exact this
  refine ⟨⟨_, he, rfl⟩, h _ he (Heap.get?_push_of_some _ (Heap.get?_push_size _ B.free)) (by rw [Heap.size_push, hz]) fun b o x => Heap.get?_push_of_some _ (Heap.get?_push_of_some _ x)⟩
end
end PySem
namespace VS
open PySem L2 PySem.Spec PyProof.Rows

/-! ### enumerate of a tuple -/
def ItE (K : PySem.W.Frag) (a : Addr) : It :=
  ⟨fun i H => ∃ (xs : List V) (x : V), SqT K H a xs ∧ xs[i]? = some x, fun i H v H' => ∃ T x, v = .ref T ∧ H T = none ∧ H' = upd H T (.tup [.int (i : Nat), x]) ∧ ∀ xs, SqT K H a xs → xs[i]? = some x, fun i H => ∃ xs : List V, SqT K H a xs ∧ xs.length = i⟩
theorem turn_enumT {P : Program} {w : World} {K : PySem.W.Frag} {elts : List Expr} {kk : Nat} {tpos : Pos} (a e it : Addr) :
    Turn P w K (.Tuple elts kk tpos) (ItE K a) [e, it] e (fun i h => (∃ old, IsEnum h e it ((i : Nat) : Int) old) ∧ h.IsTupleIter it a i ∧ e ≠ it) where
  mem := by simp
  obj := fun i h st b hb => by
    obtain ⟨⟨old, he⟩, ⟨o, ho, hc, hd⟩, _⟩ := st
    have e' : b = e ∨ b = it := by simpa using hb
    rcases e' with z | z
    · rw [z]; exact ⟨_, he, fun v q => nomatch q⟩
    · rw [z]; exact ⟨o, ho, fun v q => by rw [hd] at q; cases q⟩
  keep := fun i h h' st k => let ⟨⟨old, he⟩, hi, hne⟩ := st; ⟨⟨old, k e (by simp) _ he⟩, hi.at fun o q => k it (by simp) o q, hne⟩
  item := by
    intro X hP hw hK hc i pins s σ H E I hf st hg
    subst hP hw hK
    obtain ⟨⟨old, he⟩, hit, hne⟩ := st
    obtain ⟨xs, x, hq, hx⟩ := hg
    obtain ⟨its, rv, p, hz⟩ := I.tuple hq
    obtain ⟨u, hu, ru⟩ := rv.get hx
    have hel : e < s.heap.objs.size := Heap.lt_size he
    have hil : it < s.heap.objs.size := by obtain ⟨_, q, _⟩ := hit; exact Heap.lt_size q
    have hT0 : s.heap.IsTuple a its.toArray := p
    have hea : e ≠ a := fun z => by
      obtain ⟨o, ho, hc, _⟩ := hT0
      rw [← z, he] at ho
      cases ho
      injection hc with hc
      exact absurd hc (by decide)
    have hia : a ≠ it := fun z => by
      obtain ⟨o, ho, hc, _⟩ := hT0
      obtain ⟨o2, ho2, hc2, _⟩ := hit
      rw [z, ho2] at ho
      cases ho
      rw [hc2] at hc
      injection hc with hc
      exact absurd hc (by decide)
    have hlt : i < its.toArray.size := by
      have := (List.getElem?_eq_some_iff.mp hu).1
      simpa using this
    refine wpAny_pyNext_enum_itemC (Draws.tuple (A := X.A.in1) (I.ok.hd hc) it a hia its.toArray) he ⟨hit, hT0⟩ hlt hne (by simp [hne, hea]) fun y h' tk hy ho hst hT hsz hk => ?_
    have hy : its.toArray[i]? = some y := hy
    have ey : y = u := by
      have h2 : its.toArray[i]? = some u := by simpa using hu
      rw [h2] at hy
      exact (Option.some.inj hy).symm
    subst ey
    refine ⟨_, rfl, wpAny_letOwnedTupleGo_enum (s := { s with heap := h', toks := tk + 1 }) ho fun h'' he' sb => ?_⟩
    have hT2 : h''.get? s.heap.objs.size = some { cls := .type "tuple", data := .seq #[.int i tk, y] } := (sb.2 _ (Nat.ne_of_gt hel)).trans hT
    have new : ObjOk X.prog X.w (upd H s.heap.objs.size (.tup [.int (i : Nat), x])) h'' s.heap.objs.size (.tup [.int (i : Nat), x]) :=
      ⟨by show 2 ≤ sizeLine; decide, [.int i tk, y], .cons ⟨_, rfl⟩ (.cons ru .nil), ⟨_, hT2, rfl, _, rfl⟩⟩
    have I1 : Inv X pins σ (upd H s.heap.objs.size (.tup [.int (i : Nat), x])) { s with heap := h'', toks := tk + 1 } :=
      I.turnedNew (ch := [e, it]) (fun b ob hb q => (sb.2 b (fun z => hb (by simp [z]))).trans (hk b ob (fun z => hb (by simp [z])) (fun z => hb (by simp [z])) q)) hf (Nat.le_refl _) new
    have tup_inj : ∀ ys, SqT X.K H a ys → ys[i]? = some x := fun ys hy => by
      obtain ⟨its2, rv2, p2, _⟩ := I.tuple hy
      obtain ⟨o, ho1, _, n, hd⟩ := p
      obtain ⟨o2, ho2, _, n2, hd2⟩ := p2
      rw [ho1] at ho2
      cases ho2
      rw [hd] at hd2
      have e2 : its = its2 := by
        injection hd2 with z1 z2
        simpa using z1
      subst e2
      have l1 := rv.length
      have l2 := rv2.length
      have hi2 : i < ys.length := by
        have := (List.getElem?_eq_some_iff.mp hx).1
        omega
      obtain ⟨u2, hu2, ru2⟩ := rv2.get (List.getElem?_eq_getElem hi2)
      rw [hu] at hu2
      cases hu2
      rw [List.getElem?_eq_getElem hi2]
      have q1 := ru.abs
      have q2 := ru2.abs
      rw [q1] at q2
      exact q2.symm
    refine ⟨.ref s.heap.objs.size, _, I1, rfl, ⟨_, x, rfl, I.hok.fresh (Nat.le_refl _), rfl, tup_inj⟩, ⟨⟨y, ?_⟩, hst.1.at fun o q => (sb.2 it (Ne.symm hne)).trans q, hne⟩, fun b hb => ?_⟩
    · have e1 : ((i + 1 : Nat) : Int) = (i : Int) + 1 := by omega
      rw [e1]; exact he'
    · have hb' : b < s.heap.objs.size := by
        have e' : b = e ∨ b = it := by simpa using hb
        rcases e' with z | z
        · rw [z]; exact hel
        · rw [z]; exact hil
      rw [upd_ne (Nat.ne_of_lt hb')]
      exact (hf b hb).1
  done := by
    intro X hP hw hK hc i pins s σ H E I hf st hg
    subst hP hw hK
    obtain ⟨⟨old, he⟩, hit, hne⟩ := st
    obtain ⟨xs, hq, hx⟩ := hg
    obtain ⟨its, rv, p, hz⟩ := I.tuple hq
    obtain ⟨f0, f1, f2, f3, f4, f5⟩ := hf it (by simp)
    have hl := rv.length
    have hT0 : s.heap.IsTuple a its.toArray := p
    have hia : a ≠ it := fun z => by
      obtain ⟨o, ho, hc, _⟩ := hT0
      obtain ⟨o2, ho2, hc2, _⟩ := hit
      rw [z, ho2] at ho
      cases ho
      rw [hc2] at hc
      injection hc with hc
      exact absurd hc (by decide)
    have ei : i = its.toArray.size := by rw [List.size_toArray]; omega
    rw [ei] at hit
    exact wpAny_pyNext_enum_endD (Draws.tuple (A := X.A.in1) (I.ok.hd hc) it a hia its.toArray) he ⟨hit, hT0⟩ fun h' eb => ⟨rfl, I.turned (t' := s.toks) (fun b o hb q => eb b o hb q) f0 f1 f3 f4 f5⟩
  self := fun A i s Q E st h => let ⟨⟨_, he⟩, _⟩ := st; wpAny_pyIter_enum he h
def iEnumT (K : PySem.W.Frag) (ta : TA) : TI := fun σ H R => ta σ H fun vs H1 => ∃ a xs, vs = [.ref a] ∧ SqT K H1 a xs ∧ R (ItE K a) H1
theorem pi_enumT {X : Cx} {e : Expr} {ta : TA} {p pos tpos : Pos} {elts : List Expr} {kk : Nat} (hg : Gl X "enumerate") (hm : X.mg "enumerate" = none) (ha : PA X [e] ta) (hs : starEach [e] X.env = [(false, eval e X.env)] := by rfl) :
    PI X (.Tuple elts kk tpos) (.Call (.Name "enumerate" p) [e] [] pos) (iEnumT X.K ta) := by
  refine ⟨fun pins s σ H R I h => ?_⟩
  refine Call_ (ld_blt I hg hm boot_enumerate (PyProof.Rows.callWith_type1 (thn (ha.run pos pins s σ H _ I h) fun us s1 ⟨vs, H1, I1, r1, q1⟩ => ?_) hs rfl))
  obtain ⟨a, xs, ex, hq, q⟩ := q1
  subst ex
  cases r1 with
  | cons r rr =>
    cases rr
    cases r
    obtain ⟨its, rv, p', hz⟩ := I1.tuple hq
    have hT0 : s1.heap.IsTuple a its.toArray := p'
    refine vs_enum1 (begins_tuple a its.toArray) hT0 fun h' he hit hsz hk => wpAny_pyIter_enum he ?_
    have I2 : Inv X pins σ H1 { s1 with heap := h' } := I1.kept (t' := s1.toks) hk
    refine ⟨s1.heap.objs.size + 1, [s1.heap.objs.size + 1, s1.heap.objs.size], _, _, H1, rfl, I2, turn_enumT a (s1.heap.objs.size + 1) s1.heap.objs.size, ⟨⟨.none, he⟩, ⟨_, hit, rfl, rfl⟩, Nat.succ_ne_self _⟩, fun b hb => ?_, q⟩
    have e' : b = s1.heap.objs.size + 1 ∨ b = s1.heap.objs.size := by simpa using hb
    have hle : s1.heap.objs.size ≤ b := by
      rcases e' with z | z
      · rw [z]; exact Nat.le_add_right _ _
      · rw [z]; exact Nat.le_refl _
    exact I1.fpOk hle (I1.hok.fresh hle)
theorem walk_enumT {K : PySem.W.Frag} {a : Addr} {xs : List V} : Walk (ItE K a) xs.length (fun H => SqT K H a xs) (YPair (fun i => some (.int (i : Nat))) (fun i => xs[i]?)) := by
  refine ⟨fun i _ hi q => ⟨xs, xs[i], q, by simp [hi]⟩, fun _ q => ⟨xs, q, rfl⟩, fun i H v H' _ q y => ?_⟩
  obtain ⟨T, x, h1, h2, h3, h4⟩ := y
  exact ⟨T, .int (i : Nat), x, h1, h2, h3, rfl, h4 xs q⟩
def aItET (aa : ATA) : AIT := fun env L P => aa env L fun avs L1 => match avs with
  | [.d (.tuple ds)] => P ((enumF 0 ds).map AV.d) L1
  | _ => False
theorem ai_eT (K : PySem.W.Frag) {X : Cx} {C : Addr} {e : Expr} {ta : TA} {aa : ATA} {p pos tpos : Pos} {elts : List Expr} {kk : Nat} (hg : Gl X "enumerate") (hm : X.mg "enumerate" = none) (ha : AA X C [e] ta aa) (hs : starEach [e] X.env = [(false, eval e X.env)] := by rfl) (hK : X.K = K := by rfl) : AIt X C (.Tuple elts kk tpos) (.Call (.Name "enumerate" p) [e] [] pos) (iEnumT K ta) (aItET aa) := by
  subst hK
  exact ⟨pi_enumT hg hm ha.pa hs, fun σ env G L H P R r s q k => by
    refine ha.sim σ env G L H _ _ r s q fun vs avs G1 L1 H1 g1 s1 r1 p => ?_
    split at p
    · rename_i ds
      obtain ⟨v, rfl, rv⟩ := one_av r1
      have rv : Dv G1 v (.tuple ds) := rv
      cases rv with
      | tup h1 h2 =>
        rename_i a ys
        refine ⟨a, ys, rfl, SqT.of (s1.ex _ _ h1), k _ G1 L1 H1 _ g1 s1 (walkA_pair (n := ys.length) (by rw [enumF_len, h2.length]) (fun G H e1 e2 => walk_enumT.mono (fun H' z => by rw [z]; exact SqT.of ((e1.trans e2) _ _ h1)) fun _ _ _ _ _ _ y => y) fun i x y hx hy hi => ?_) p⟩
        cases hx
        obtain ⟨d, h3, h4⟩ := h2.get' hy
        exact ⟨.int (i : Nat), d, by rw [enumF_get, h3, Nat.zero_add]; rfl, .int _, h4⟩
    · exact p.elim⟩
end VS

set_option Elab.async false
set_option linter.all false
set_option maxRecDepth 100000
set_option maxHeartbeats 4000000
set_option autoImplicit false
namespace VS
open PySem L2 PySem.Spec PyProof.Rows

/-! ### zip of a tuple and two lists -/
def It3 (K : PySem.W.Frag) (a b c : Addr) : It :=
  ⟨fun i H => ∃ (xs ys zs : List V) (x y z : V), SqT K H a xs ∧ SqL K H b ys ∧ SqL K H c zs ∧ xs[i]? = some x ∧ ys[i]? = some y ∧ zs[i]? = some z,
    fun i H v H' => ∃ T x y z, v = .ref T ∧ H T = none ∧ H' = upd H T (.tup [x, y, z]) ∧ (∀ xs, SqT K H a xs → xs[i]? = some x) ∧ (∀ ys, SqL K H b ys → ys[i]? = some y) ∧ ∀ zs, SqL K H c zs → zs[i]? = some z,
    fun i H => ∃ xs ys zs : List V, SqT K H a xs ∧ SqL K H b ys ∧ SqL K H c zs ∧ xs.length = i ∧ ys.length = i ∧ zs.length = i⟩
theorem ne_cls {h : Heap} {a b : Addr} {o u : Obj} {s t : String} (h1 : h.get? a = some o) (c1 : o.cls = .type s) (h2 : h.get? b = some u) (c2 : u.cls = .type t) (hn : s ≠ t) : a ≠ b := fun e => by
  rw [e, h2] at h1
  cases h1
  rw [c1] at c2
  injection c2 with c2
  exact hn c2
theorem turn_zip3 {P : Program} {w : World} {K : PySem.W.Frag} {elts : List Expr} {kk : Nat} {tpos : Pos} {a b c z TI TO i1 i2 i3 : Addr} (D : ZipSep3 z TI TO i1 i2 i3 [i1, a] [i2, b] [i3, c]) :
    Turn P w K (.Tuple elts kk tpos) (It3 K a b c) [z, TI, TO, i1, i2, i3] z (fun i h => IsZip h z TI TO .none ∧ IsTupOf3 h TI (.ref i1) (.ref i2) (.ref i3) ∧ (∃ x y u, IsTupOf3 h TO x y u) ∧ h.IsTupleIter i1 a i ∧ h.IsListIter i2 b i ∧ h.IsListIter i3 c i) where
  mem := by simp
  obj := fun i h st d hd => by
    obtain ⟨hz, hTI, ⟨x, y, u, hTO⟩, ⟨o1, e1, _, d1⟩, ⟨o2, e2, _, d2⟩, ⟨o3, e3, _, d3⟩⟩ := st
    have e' : d = z ∨ d = TI ∨ d = TO ∨ d = i1 ∨ d = i2 ∨ d = i3 := by simpa using hd
    rcases e' with q | q | q | q | q | q
    · rw [q]; exact ⟨_, hz, fun v q => nomatch q⟩
    · rw [q]; exact ⟨_, hTI, fun v q => nomatch q⟩
    · rw [q]; exact ⟨_, hTO, fun v q => nomatch q⟩
    · rw [q]; exact ⟨o1, e1, fun v q => by rw [d1] at q; cases q⟩
    · rw [q]; exact ⟨o2, e2, fun v q => by rw [d2] at q; cases q⟩
    · rw [q]; exact ⟨o3, e3, fun v q => by rw [d3] at q; cases q⟩
  keep := fun i h h' st k => by
    obtain ⟨hz, hTI, ⟨x, y, u, hTO⟩, h1, h2, h3⟩ := st
    exact ⟨k z (by simp) _ hz, k TI (by simp) _ hTI, ⟨x, y, u, k TO (by simp) _ hTO⟩, h1.at fun o q => k i1 (by simp) o q, h2.at fun o q => k i2 (by simp) o q, h3.at fun o q => k i3 (by simp) o q⟩
  item := by
    intro X hP hw hK hc i pins s σ H E I hf st hg
    subst hP hw hK
    obtain ⟨hz, hTI, ⟨x0, y0, u0, hTO⟩, h1, h2, h3⟩ := st
    obtain ⟨xs, ys, zs, x, y, v, hqx, hqy, hqz, hx, hy, hv⟩ := hg
    obtain ⟨its, rv, p, _⟩ := I.tuple hqx
    obtain ⟨its2, rv2, p2, _⟩ := I.list hqy
    obtain ⟨its3, rv3, p3, _⟩ := I.list hqz
    obtain ⟨u, hu, ru⟩ := rv.get hx
    obtain ⟨u2, hu2, ru2⟩ := rv2.get hy
    obtain ⟨u3, hu3, ru3⟩ := rv3.get hv
    have hzl : z < s.heap.objs.size := Heap.lt_size hz
    have hT0 : s.heap.IsTuple a its.toArray := p
    have hL2 : s.heap.IsList b its2.toArray := p2.isList
    have hL3 : s.heap.IsList c its3.toArray := p3.isList
    have ha : a ≠ i1 := by
      obtain ⟨o, ho, hc1, _⟩ := hT0
      obtain ⟨o2, ho2, hc2, _⟩ := h1
      exact ne_cls ho hc1 ho2 hc2 (by decide)
    have hb : b ≠ i2 := by
      obtain ⟨o, ho, hc1, _⟩ := hL2
      obtain ⟨o2, ho2, hc2, _⟩ := h2
      exact ne_cls ho hc1 ho2 hc2 (by decide)
    have hcc : c ≠ i3 := by
      obtain ⟨o, ho, hc1, _⟩ := hL3
      obtain ⟨o2, ho2, hc2, _⟩ := h3
      exact ne_cls ho hc1 ho2 hc2 (by decide)
    have lt : ∀ {its : List Value} {u : Value}, its[i]? = some u → i < its.toArray.size := fun {its u} h => by
      have := (List.getElem?_eq_some_iff.mp h).1
      simpa using this
    refine wpAny_pyNext_zipD3_item D (Draws.tuple (A := X.A.in1) (I.ok.hd hc) i1 a ha its.toArray) (Draws.list (A := X.A.in1) (I.ok.hd hc) i2 b hb its2.toArray) (Draws.list (A := X.A.in1) (I.ok.hd hc) i3 c hcc its3.toArray)
      hz hTI hTO ⟨h1, hT0⟩ ⟨h2, hL2⟩ ⟨h3, hL3⟩ (lt hu) (lt hu2) (lt hu3) fun w1 w2 w3 h' tk q1 q2 q3 z' TO' st1 st2 st3 hT hsz hk => ?_
    have same : ∀ {its : List Value} {u w : Value}, its[i]? = some u → its.toArray[i]? = some w → w = u := fun {its u w} e1 e2 => by
      have e3 : its.toArray[i]? = some u := by simpa using e1
      rw [e3] at e2
      exact (Option.some.inj e2).symm
    have e1 := same hu q1
    have e2 := same hu2 q2
    have e3 := same hu3 q3
    subst e1 e2 e3
    refine ⟨_, rfl, wpAny_letOwnedTupleGo_zip (s := { s with heap := h', toks := tk }) z' fun h'' z'' sb => ?_⟩
    have hT2 : h''.get? s.heap.objs.size = some { cls := .type "tuple", data := .seq #[w1, w2, w3] } := (sb.2 _ (Nat.ne_of_gt hzl)).trans hT
    have new : ObjOk X.prog X.w (upd H s.heap.objs.size (.tup [x, y, v])) h'' s.heap.objs.size (.tup [x, y, v]) :=
      ⟨by show 3 ≤ sizeLine; decide, [w1, w2, w3], .cons ru (.cons ru2 (.cons ru3 .nil)), ⟨_, hT2, rfl, _, rfl⟩⟩
    have I1 : Inv X pins σ (upd H s.heap.objs.size (.tup [x, y, v])) { s with heap := h'', toks := tk } :=
      I.turnedNew (ch := [z, TI, TO, i1, i2, i3]) (fun d o hb q => (sb.2 d (fun q' => hb (by simp [q']))).trans (hk d o (fun q' => hb (by simp [q'])) (fun q' => hb (by simp [q'])) (fun q' => hb (by simp [q'])) (fun q' => hb (by simp [q'])) (fun q' => hb (by simp [q'])) q)) hf (Nat.le_refl _) new
    have TIi1 := D.TIi1
    have TIi2 := D.TIi2
    have TIi3 := D.TIi3
    refine ⟨.ref s.heap.objs.size, _, I1, rfl, ⟨_, x, y, v, rfl, I.hok.fresh (Nat.le_refl _), rfl, fun l hl => by rw [I.tuple_inj hl hqx]; exact hx, fun l hl => by rw [I.list_inj hl hqy]; exact hy, fun l hl => by rw [I.list_inj hl hqz]; exact hv⟩, ⟨z'', ?_, ⟨w1, w2, w3, ?_⟩, ?_, ?_, ?_⟩, fun d hdm => ?_⟩
    · exact (sb.2 _ D.TIz).trans (hk _ _ D.TIz D.TITO TIi1 TIi2 TIi3 hTI)
    · exact (sb.2 _ D.TOz).trans TO'
    · exact st1.1.at fun o q => (sb.2 _ (Ne.symm D.zi1)).trans q
    · exact st2.1.at fun o q => (sb.2 _ (Ne.symm D.zi2)).trans q
    · exact st3.1.at fun o q => (sb.2 _ (Ne.symm D.zi3)).trans q
    · have hlt : d < s.heap.objs.size := by
        have e' : d = z ∨ d = TI ∨ d = TO ∨ d = i1 ∨ d = i2 ∨ d = i3 := by simpa using hdm
        rcases e' with q | q | q | q | q | q
        · rw [q]; exact hzl
        · rw [q]; exact Heap.lt_size hTI
        · rw [q]; exact Heap.lt_size hTO
        · rw [q]; obtain ⟨_, e1, _⟩ := h1; exact Heap.lt_size e1
        · rw [q]; obtain ⟨_, e2, _⟩ := h2; exact Heap.lt_size e2
        · rw [q]; obtain ⟨_, e3, _⟩ := h3; exact Heap.lt_size e3
      rw [upd_ne (Nat.ne_of_lt hlt)]
      exact (hf d hdm).1
  done := by
    intro X hP hw hK hc i pins s σ H E I hf st hg
    subst hP hw hK
    obtain ⟨hz, hTI, ⟨x0, y0, u0, hTO⟩, h1, h2, h3⟩ := st
    obtain ⟨xs, ys, zs, hqx, hqy, hqz, l1, l2, l3⟩ := hg
    obtain ⟨its, rv, p, _⟩ := I.tuple hqx
    obtain ⟨its2, rv2, p2, _⟩ := I.list hqy
    obtain ⟨its3, rv3, p3, _⟩ := I.list hqz
    have hT0 : s.heap.IsTuple a its.toArray := p
    have hL2 : s.heap.IsList b its2.toArray := p2.isList
    have hL3 : s.heap.IsList c its3.toArray := p3.isList
    have ha : a ≠ i1 := by
      obtain ⟨o, ho, hc1, _⟩ := hT0
      obtain ⟨o2, ho2, hc2, _⟩ := h1
      exact ne_cls ho hc1 ho2 hc2 (by decide)
    have hb : b ≠ i2 := by
      obtain ⟨o, ho, hc1, _⟩ := hL2
      obtain ⟨o2, ho2, hc2, _⟩ := h2
      exact ne_cls ho hc1 ho2 hc2 (by decide)
    have hcc : c ≠ i3 := by
      obtain ⟨o, ho, hc1, _⟩ := hL3
      obtain ⟨o2, ho2, hc2, _⟩ := h3
      exact ne_cls ho hc1 ho2 hc2 (by decide)
    have k1 := rv.length
    have k2 := rv2.length
    have k3 := rv3.length
    exact wpAny_pyNext_zipD3_end D (Draws.tuple (A := X.A.in1) (I.ok.hd hc) i1 a ha its.toArray) (Draws.list (A := X.A.in1) (I.ok.hd hc) i2 b hb its2.toArray) (Draws.list (A := X.A.in1) (I.ok.hd hc) i3 c hcc its3.toArray)
      hz hTI hTO ⟨h1, hT0⟩ ⟨h2, hL2⟩ ⟨h3, hL3⟩ (by rw [List.size_toArray]; omega) (by rw [List.size_toArray]; omega) (by rw [List.size_toArray]; omega) (.inl (by rw [List.size_toArray]; omega))
      fun h' tk hk => ⟨rfl, I.turnedL (ch := [z, TI, TO, i1, i2, i3]) (fun d o hb q =>
        hk d o (fun q' => hb (by simp [q'])) (fun q' => hb (by simp [q'])) (fun q' => hb (by simp [q'])) (fun q' => hb (by simp [q'])) (fun q' => hb (by simp [q'])) q) hf⟩
  self := fun A i s Q E st h => wpAny_pyIter_zip st.1 h
def iZip3 (K : PySem.W.Frag) (ta : TA) : TI := fun σ H R => ta σ H fun vs H1 => ∃ a b c xs ys zs, vs = [.ref a, .ref b, .ref c] ∧ SqT K H1 a xs ∧ SqL K H1 b ys ∧ SqL K H1 c zs ∧ R (It3 K a b c) H1
theorem pi_zip3 {X : Cx} {e e2 e3 : Expr} {ta : TA} {p pos tpos : Pos} {elts : List Expr} {kk : Nat} (hg : Gl X "zip") (hm : X.mg "zip" = none) (ha : PA X [e, e2, e3] ta)
    (hs : starEach [e, e2, e3] X.env = (false, eval e X.env) :: starEach [e2, e3] X.env := by rfl) (hpl : (backTo pos (starEach [e2, e3] X.env)).any (·.1) = false := by rfl) :
    PI X (.Tuple elts kk tpos) (.Call (.Name "zip" p) [e, e2, e3] [] pos) (iZip3 X.K ta) := by
  refine ⟨fun pins s σ H R I h => ?_⟩
  refine Call_ (ld_blt I hg hm PyProof.Rows.boot_zip (PyProof.Rows.callWith_type1 (thn (ha.run pos pins s σ H _ I h) fun us s1 ⟨vs, H1, I1, r1, q1⟩ => ?_) hs hpl))
  obtain ⟨a, b, c, xs, ys, zs, ex, hqx, hqy, hqz, q⟩ := q1
  subst ex
  cases r1 with
  | cons r rr =>
    cases rr with
    | cons r' rr =>
      cases rr with
      | cons r'' rr =>
        cases rr
        cases r
        cases r'
        cases r''
        obtain ⟨its, rv, p1, _⟩ := I1.tuple hqx
        obtain ⟨its2, rv2, p2, _⟩ := I1.list hqy
        obtain ⟨its3, rv3, p3, _⟩ := I1.list hqz
        have hT0 : s1.heap.IsTuple a its.toArray := p1
        have la : a < s1.heap.objs.size := by
          obtain ⟨o, ho, _⟩ := hT0
          exact Heap.lt_size ho
        have lb : b < s1.heap.objs.size := p2.lt
        have lc : c < s1.heap.objs.size := p3.lt
        refine zip_begins3 (begins_tuple a its.toArray) (begins_list b its2.toArray) (begins_list c its3.toArray) hT0 p2.isList p3.isList fun h' hz hTI hTO h1 h2 h3 hsz hk => wpAny_pyIter_zip hz ?_
        have I2 : Inv X pins σ H1 { s1 with heap := h' } := I1.kept (t' := s1.toks) hk
        refine ⟨s1.heap.objs.size + 5, [s1.heap.objs.size + 5, s1.heap.objs.size + 3, s1.heap.objs.size + 4, s1.heap.objs.size, s1.heap.objs.size + 1, s1.heap.objs.size + 2], _, _, H1, rfl, I2,
          turn_zip3 (zip_sep3 (by simpa using la) (by simpa using lb) (by simpa using lc)), ⟨hz, hTI, ⟨_, _, _, hTO⟩, ⟨_, h1, rfl, rfl⟩, ⟨_, h2, rfl, rfl⟩, ⟨_, h3, rfl, rfl⟩⟩, fun d hdm => ?_, q⟩
        have e' : d = s1.heap.objs.size + 5 ∨ d = s1.heap.objs.size + 3 ∨ d = s1.heap.objs.size + 4 ∨ d = s1.heap.objs.size ∨ d = s1.heap.objs.size + 1 ∨ d = s1.heap.objs.size + 2 := by simpa using hdm
        have hle : s1.heap.objs.size ≤ d := by
          rcases e' with z | z | z | z | z | z
          · rw [z]; exact Nat.le_add_right _ _
          · rw [z]; exact Nat.le_add_right _ _
          · rw [z]; exact Nat.le_add_right _ _
          · rw [z]; exact Nat.le_refl _
          · rw [z]; exact Nat.le_add_right _ _
          · rw [z]; exact Nat.le_add_right _ _
        exact I1.fpOk hle (I1.hok.fresh hle)
def zip3F : List PyData → List PyData → List PyData → List PyData
  | x :: a, y :: b, z :: c => .tuple [x, y, z] :: zip3F a b c
  | _, _, _ => []
theorem zip3F_get : ∀ (a b c : List PyData) (i : Nat) (x y z : PyData), a[i]? = some x → b[i]? = some y → c[i]? = some z → (zip3F a b c)[i]? = some (.tuple [x, y, z])
  | [], _, _, _, _, _, _, h, _, _ => by simp at h
  | _ :: _, [], _, _, _, _, _, _, h, _ => by simp at h
  | _ :: _, _ :: _, [], _, _, _, _, _, _, h => by simp at h
  | x :: a, y :: b, z :: c, 0, _, _, _, h1, h2, h3 => by
    simp at h1 h2 h3
    subst h1 h2 h3
    rfl
  | x :: a, y :: b, z :: c, i + 1, _, _, _, h1, h2, h3 => zip3F_get a b c i _ _ _ (by simpa using h1) (by simpa using h2) (by simpa using h3)
theorem zip3F_len : ∀ (a b c : List PyData), a.length = b.length → a.length = c.length → (zip3F a b c).length = a.length
  | [], _, _, _, _ => by cases ‹List PyData› <;> rfl
  | x :: a, [], _, h, _ => by simp at h
  | x :: a, _ :: _, [], _, h => by simp at h
  | x :: a, y :: b, z :: c, h1, h2 => by
    show (zip3F a b c).length + 1 = a.length + 1
    rw [zip3F_len a b c (by simpa using h1) (by simpa using h2)]
def aItZ3 (aa : ATA) : AIT := fun env L P => aa env L fun avs L1 => match avs with
  | [.d (.tuple a), .d (.list b), .d (.list c)] => a.length = b.length ∧ a.length = c.length ∧ P ((zip3F a b c).map AV.d) L1
  | _ => False
theorem ai_z3 (K : PySem.W.Frag) {X : Cx} {C : Addr} {e e2 e3 : Expr} {ta : TA} {aa : ATA} {p pos tpos : Pos} {elts : List Expr} {kk : Nat} (hg : Gl X "zip") (hm : X.mg "zip" = none) (ha : AA X C [e, e2, e3] ta aa)
    (hs : starEach [e, e2, e3] X.env = (false, eval e X.env) :: starEach [e2, e3] X.env := by rfl) (hpl : (backTo pos (starEach [e2, e3] X.env)).any (·.1) = false := by rfl) (hK : X.K = K := by rfl) : AIt X C (.Tuple elts kk tpos) (.Call (.Name "zip" p) [e, e2, e3] [] pos) (iZip3 K ta) (aItZ3 aa) := by
  subst hK
  exact ⟨pi_zip3 hg hm ha.pa hs hpl, fun σ env G L H P R r s q k => by
    refine ha.sim σ env G L H _ _ r s q fun vs avs G1 L1 H1 g1 s1 r1 p => ?_
    split at p
    · rename_i a b c
      obtain ⟨u, v, w, rfl, ru, rv, rw_⟩ := three_av r1
      have ru : Dv G1 u (.tuple a) := ru
      have rv : Dv G1 v (.list b) := rv
      have rw_ : Dv G1 w (.list c) := rw_
      obtain ⟨l1, l2, p⟩ := p
      cases ru with
      | tup h1 h2 =>
        cases rv with
        | lst h3 h4 =>
          cases rw_ with
          | lst h5 h6 =>
            rename_i aa' xs bb ys cc zs
            have m2 := h2.length
            have m4 := h4.length
            have m6 := h6.length
            refine ⟨aa', bb, cc, xs, ys, zs, rfl, SqT.of (s1.ex _ _ h1), SqL.of (s1.ex _ _ h3), SqL.of (s1.ex _ _ h5), k _ G1 L1 H1 _ g1 s1 ⟨fun i G L H hi e s => ?_, fun G L H e s => ?_, fun i G L H x H' hi e s y => ?_⟩ p⟩
            · rw [List.length_map, zip3F_len a b c l1 l2] at hi
              exact ⟨xs, ys, zs, xs[i]'(by omega), ys[i]'(by omega), zs[i]'(by omega), SqT.of ((e.trans s.ex) _ _ h1), SqL.of ((e.trans s.ex) _ _ h3), SqL.of ((e.trans s.ex) _ _ h5), List.getElem?_eq_getElem _, List.getElem?_eq_getElem _, List.getElem?_eq_getElem _⟩
            · rw [List.length_map, zip3F_len a b c l1 l2]
              exact ⟨xs, ys, zs, SqT.of ((e.trans s.ex) _ _ h1), SqL.of ((e.trans s.ex) _ _ h3), SqL.of ((e.trans s.ex) _ _ h5), by omega, by omega, by omega⟩
            · obtain ⟨T, x1, x2, x3, rfl, hT, rfl, f1, f2, f3⟩ := y
              obtain ⟨s2, g2⟩ := s.newD (o := .tup [x1, x2, x3]) hT
              obtain ⟨d1, c1, r1'⟩ := h2.get' (f1 xs (SqT.of ((e.trans s.ex) _ _ h1)))
              obtain ⟨d2, c2, r2'⟩ := h4.get' (f2 ys (SqL.of ((e.trans s.ex) _ _ h3)))
              obtain ⟨d3, c3, r3'⟩ := h6.get' (f3 zs (SqL.of ((e.trans s.ex) _ _ h5)))
              refine ⟨.d (.tuple [d1, d2, d3]), _, by rw [List.getElem?_map, zip3F_get a b c i d1 d2 d3 c1 c2 c3]; rfl, g2, s2, .tup upd_same ?_⟩
              exact .cons ((r1'.mono e).mono g2.ex) (.cons ((r2'.mono e).mono g2.ex) (.cons ((r3'.mono e).mono g2.ex) .nil))
    · exact p.elim⟩
/-! ### dict(pairs), keys that are tuples -/
def foldK (kvs : List (List Key × V)) : List (List Key × V) → List (List Key × V)
  | [] => kvs
  | kv :: r => foldK (putK kvs kv.1 kv.2) r
theorem foldK_len : ∀ (r kvs : List (List Key × V)), (foldK kvs r).length ≤ kvs.length + r.length
  | [], kvs => Nat.le_refl _
  | kv :: r, kvs => by
    have h1 := foldK_len r (putK kvs kv.1 kv.2)
    have h2 := length_putK kvs kv.1 kv.2
    show (foldK (putK kvs kv.1 kv.2) r).length ≤ kvs.length + (r.length + 1)
    omega
theorem foldK_val : ∀ (r kvs : List (List Key × V)) (k : List Key) (x : V), (valV kvs k = some x ∨ ∃ y, (k, y) ∈ r) → ∃ y, valV (foldK kvs r) k = some y ∧ (valV kvs k = some y ∨ (k, y) ∈ r)
  | [], kvs, k, x, h => by
    rcases h with h | ⟨y, h⟩
    · exact ⟨x, h, .inl h⟩
    · cases h
  | kv :: r, kvs, k, x, h => by
    have hp := valV_put kvs kv.1 k kv.2
    by_cases e : k = kv.1
    · rw [if_pos e] at hp
      obtain ⟨y, h1, h2⟩ := foldK_val r (putK kvs kv.1 kv.2) k kv.2 (.inl hp)
      refine ⟨y, h1, ?_⟩
      rcases h2 with h2 | h2
      · rw [hp] at h2
        cases h2
        exact .inr (by rw [e]; exact List.mem_cons_self)
      · exact .inr (List.mem_cons_of_mem _ h2)
    · rw [if_neg e] at hp
      have h' : valV (putK kvs kv.1 kv.2) k = some x ∨ ∃ y, (k, y) ∈ r := by
        rcases h with h | ⟨y, h⟩
        · exact .inl (hp.trans h)
        · rcases List.mem_cons.mp h with h | h
          · exact absurd (congrArg Prod.fst h) e
          · exact .inr ⟨y, h⟩
      obtain ⟨y, h1, h2⟩ := foldK_val r (putK kvs kv.1 kv.2) k x h'
      refine ⟨y, h1, ?_⟩
      rcases h2 with h2 | h2
      · exact .inl (hp.symm.trans h2)
      · exact .inr (List.mem_cons_of_mem _ h2)
structure Pr where
  t : Addr
  kt : Addr
  k : List Key
  v : V
def rDictT : List V → Hp → VK → Prop := fun xs H Q => ∃ (a : Addr) (ts : List Pr), xs = [.ref a] ∧ H a = some (.lst (ts.map fun t => V.ref t.t)) ∧ (∀ t ∈ ts, H t.t = some (.tup [.ref t.kt, t.v]) ∧ H t.kt = some (.tup (t.k.map kV))) ∧
  ∀ p, H p = none → Q (.ref p) (upd H p (.dT (foldK [] (ts.map fun t => (t.k, t.v)))))
theorem refs_of {α : Type} {f : α → Addr} : ∀ {ts : List α} {us : List Value}, Vals (ts.map fun t => V.ref (f t)) us → us = ts.map fun t => Value.ref (f t)
  | [], us, r => by
    rw [List.map_nil] at r
    cases r
    rfl
  | p :: ps, us, r => by
    rw [List.map_cons] at r
    cases r with
    | cons h t =>
      cases h
      rw [List.map_cons, ← refs_of t]
section
variable {X : Cx} {pins : List (Addr × Obj)} {σ : L2.St} {H : Hp} {s : Shared}
theorem prs_of (I : Inv X pins σ H s) : ∀ {ts : List Pr}, (∀ t ∈ ts, H t.t = some (.tup [.ref t.kt, t.v]) ∧ H t.kt = some (.tup (t.k.map kV))) →
    ∃ ps : List (List Key × Addr × Value), Paired (fun (t : Pr) (p : List Key × Addr × Value) => p.1 = t.k ∧ p.2.1 = t.kt ∧ RelV t.v p.2.2 ∧ PairAt s.heap t.t (.ref p.2.1) p.2.2) ts ps
  | [], _ => ⟨[], .nil⟩
  | t :: ts, h => by
    obtain ⟨ps, hp⟩ := prs_of I fun x hx => h x (List.mem_cons_of_mem _ hx)
    obtain ⟨h1, _⟩ := h t List.mem_cons_self
    obtain ⟨its, rv, p, _⟩ := I.tuple (SqT.of (K := X.K) h1)
    cases rv with
    | cons r1 rr =>
      cases rr with
      | cons r2 rr =>
        cases rr
        cases r1
        exact ⟨(t.k, t.kt, _) :: ps, .cons ⟨rfl, rfl, r2, .inl p⟩ hp⟩
theorem paired_get {α β : Type} {R : α → β → Prop} : ∀ {xs : List α} {ys : List β} {i : Nat} {y : β}, Paired R xs ys → ys[i]? = some y → ∃ x, xs[i]? = some x ∧ R x y
  | _, _, _, _, .nil, e => by simp at e
  | _, _, 0, _, .cons h _, e => by
    simp at e
    subst e
    exact ⟨_, rfl, h⟩
  | _, _, i + 1, d, .cons _ t, e => by
    obtain ⟨v, h1, h2⟩ := paired_get (i := i) (y := d) t (by simpa using e)
    exact ⟨v, by simpa using h1, h2⟩
theorem paired_mem {α β : Type} {R : α → β → Prop} {xs : List α} {ys : List β} {y : β} (p : Paired R xs ys) (h : y ∈ ys) : ∃ x, x ∈ xs ∧ R x y := by
  obtain ⟨i, hi⟩ := List.mem_iff_getElem?.mp h
  obtain ⟨x, h1, h2⟩ := paired_get p hi
  exact ⟨x, List.mem_of_getElem? h1, h2⟩
theorem kt_fold {H : Hp} : ∀ {ts : List Pr} {ps : List (List Key × Addr × Value)} {kvs : List (List Key × V)} {xs : List (List Key × Addr × Value)}, KT H kvs xs →
    Paired (fun (t : Pr) (p : List Key × Addr × Value) => p.1 = t.k ∧ p.2.1 = t.kt ∧ RelV t.v p.2.2 ∧ PairAt s.heap t.t (.ref p.2.1) p.2.2) ts ps → (∀ t ∈ ts, H t.kt = some (.tup (t.k.map kV))) →
    KT H (foldK kvs (ts.map fun t => (t.k, t.v))) (storedAllH xs ps)
  | _, _, _, _, r, .nil, _ => r
  | t :: ts, (k, a, u) :: ps, kvs, xs, r, .cons h p, hk => by
    obtain ⟨e1, e2, h3, _⟩ := h
    have e1 : k = t.k := e1
    have e2 : a = t.kt := e2
    subst e1 e2
    exact kt_fold (ts := ts) (ps := ps) (kvs := putK kvs t.k t.v) (xs := storedH xs t.k t.kt u) (r.put t.k (hk t List.mem_cons_self) h3) p fun x hx => hk x (List.mem_cons_of_mem _ hx)
theorem call_dictT (hc : X.calm = true) (hu : X.A.units + 64 < cLine) : CallR X (.type "dict") rDictT := by
  intro pins s σ H xs us Q I r q
  obtain ⟨a, ts, rfl, ha, ht, q⟩ := q
  obtain ⟨u, rfl, rx⟩ := vals1 r
  cases rx
  obtain ⟨its, rv, pl, hz⟩ := I.list (SqL.of (K := X.K) ha)
  have ei := refs_of rv
  subst ei
  rw [List.length_map] at hz
  obtain ⟨ps, hp⟩ := prs_of I ht
  have hlen : ts.length = ps.length := Paired.length hp
  have key : ∀ x ∈ ps, (tupleKind (mixKind X.prog X.w)).is s.heap x.1 x.2.1 := fun x hx => by
    obtain ⟨t, h1, e1, e2, _⟩ := paired_mem hp hx
    rw [e1, e2]
    exact key_of I.hok (ht t h1).2
  refine call_dict_pairsH (knd := tupleKind (mixKind X.prog X.w)) (ps := ps) (PairArg.list a _ (fun j => (ts[j]?.map Pr.t).getD 0) (ps.map fun p => (Value.ref p.2.1, p.2.2))) (I.ok.hd hc) (tupleKind_room_in1 (A := X.A.in1) (by show X.A.units + 1 + 1 < cLine; omega))
    ⟨pl, by simp [hlen], fun j k v e => ?_⟩ ⟨by rw [List.length_map], fun i key v e => ?_⟩ (fun h' hk x hx => ?_) (by rw [List.length_map, ← hlen]; exact hz) fun h' tk hd' hk => ?_
  · rw [List.getElem?_map] at e
    obtain ⟨p, e1, e2⟩ := Option.map_eq_some_iff.mp e
    cases e2
    obtain ⟨t, e3, _, _, _, e4⟩ := paired_get hp e1
    have ej : ((ts[j]?.map Pr.t).getD 0) = t.t := by
      rw [e3]
      rfl
    show _ = some (Value.ref ((ts[j]?.map Pr.t).getD 0)) ∧ PairAt s.heap ((ts[j]?.map Pr.t).getD 0) _ _
    rw [ej]
    refine ⟨?_, e4⟩
    simp [e3]
  · have e : (ps.map fun p => (Value.ref p.2.1, p.2.2))[i]? = some (key, v) := e
    rw [List.getElem?_map] at e
    obtain ⟨p, e1, e2⟩ := Option.map_eq_some_iff.mp e
    cases e2
    exact ⟨p.1, p.2.1, e1, rfl⟩
  · obtain ⟨t, h1, e1, e2, _⟩ := paired_mem hp hx
    obtain ⟨o, its, n, o1, o2, o3, o4⟩ := key x hx
    exact ⟨o, its, n, hk _ _ (Nat.ne_of_lt (Heap.lt_size o1)) (fun z => nomatch z) o1, o2, o3, o4⟩
  · have hm : (s.heap.objs.size == sysModules) = false := beq_eq_false_iff_ne.mpr (Nat.ne_of_gt I.big)
    have hl : (foldK [] (ts.map fun t => (t.k, t.v))).length ≤ sizeLine := by
      refine Nat.le_trans (foldK_len _ _) ?_
      rw [List.length_nil, Nat.zero_add, List.length_map]
      exact hz
    have fresh : H s.heap.objs.size = none := I.hok.fresh (Nat.le_refl _)
    obtain ⟨o, es, ep, o1, o2, o3, o4, _, o5⟩ := hd'
    have kt : KT H (foldK [] (ts.map fun t => (t.k, t.v))) (storedAllH [] ps) := kt_fold (s := s) .nil hp fun t h => (ht t h).2
    refine ⟨.ref s.heap.objs.size, upd H s.heap.objs.size (.dT (foldK [] (ts.map fun t => (t.k, t.v)))), I.laid (t' := tk) (fun b o e => hk b o (fun z => nomatch z) e) (Nat.le_refl _) ?_, rfl, q _ fresh⟩
    exact ⟨hl, hm, _, kt.keeps fun b ys e => (by rw [upd_ne (ne_of_none e fresh)]; exact e), o, es, ep, o1, o2, o3, o4, o5⟩
end
/-- the pairs of a dict: a row of ints and its data; f: what is told of the dict -/
def aDict : List AV → LS → AK → Prop := fun avs L P => ∃ (rs : List (List Int × PyData)) (f : List Int → Option PyData), avs = [.d (.list (rs.map fun r => .tuple [encT r.1, r.2]))] ∧
  (∀ k d, f k = some d → (∃ d', (k, d') ∈ rs) ∧ ∀ d', (k, d') ∈ rs → d' = d) ∧ P (.dc f) L
def aGetD (ao ai : ATE) : ATE := fun env L P => ao env L fun x L1 => ai env L1 fun y L2 => match x with
  | .dc f => ∃ k d, y = .d (encT k) ∧ f k = some d ∧ P (.d d) L2
  | _ => False
theorem keys_inj : ∀ {a b : List Int}, (a.map Sum.inl : List Key) = b.map Sum.inl → a = b
  | [], [], _ => rfl
  | [], _ :: _, h => nomatch h
  | _ :: _, [], h => nomatch h
  | x :: a, y :: b, h => by
    rw [List.map_cons, List.map_cons] at h
    injection h with h1 h2
    injection h1 with h1
    rw [h1, keys_inj h2]
theorem kv_ints (k : List Int) : (k.map Sum.inl : List Key).map kV = k.map V.int := by
  rw [List.map_map]
  rfl
theorem prs_data {G : Hp} : ∀ {xs : List V} {rs : List (List Int × PyData)}, DvAll G xs (rs.map fun r => .tuple [encT r.1, r.2]) →
    ∃ ts : List Pr, xs = (ts.map fun t => V.ref t.t) ∧ Paired (fun (t : Pr) (r : List Int × PyData) => G t.t = some (.tup [.ref t.kt, t.v]) ∧ G t.kt = some (.tup (t.k.map kV)) ∧ t.k = r.1.map Sum.inl ∧ Dv G t.v r.2) ts rs
  | _, [], .nil => ⟨[], rfl, .nil⟩
  | _, r :: rs, .cons h t => by
    obtain ⟨ts, e, hp⟩ := prs_data t
    cases h with
    | tup h1 h2 =>
      cases h2 with
      | cons a1 a2 =>
        cases a2 with
        | cons a3 a4 =>
          cases a4
          unfold encT at a1
          cases a1 with
          | tup b1 b2 =>
            have e2 := b2.ints
            subst e2
            exact ⟨⟨_, _, r.1.map Sum.inl, _⟩ :: ts, by rw [List.map_cons, e], .cons ⟨h1, by rw [kv_ints]; exact b1, rfl, a3⟩ hp⟩
theorem paired_memL {α β : Type} {R : α → β → Prop} : ∀ {xs : List α} {ys : List β} {x : α}, Paired R xs ys → x ∈ xs → ∃ y, y ∈ ys ∧ R x y
  | _, _, _, .nil, h => by cases h
  | _, _, x, .cons h t, hm => by
    rcases List.mem_cons.mp hm with e | hm
    · subst e
      exact ⟨_, List.mem_cons_self, h⟩
    · obtain ⟨y, h1, h2⟩ := paired_memL t hm
      exact ⟨y, List.mem_cons_of_mem _ h1, h2⟩
section
variable {X : Cx} {C : Addr}
theorem ac_dict (hc : X.calm = true) (hu : X.A.units + 64 < cLine) : AC X C (.type "dict") rDictT aDict := ⟨call_dictT hc hu, fun xs avs G L H P Q s r q k => by
  obtain ⟨rs, f, rfl, hf, p⟩ := q
  obtain ⟨a, ys, rfl, h1, h2⟩ := one_list r
  obtain ⟨ts, rfl, hp⟩ := prs_data h2
  refine ⟨a, ts, rfl, s.ex _ _ h1, fun t ht => ?_, fun l hl => ?_⟩
  · obtain ⟨_, _, b1, b2, _⟩ := paired_memL hp ht
    exact ⟨s.ex _ _ b1, s.ex _ _ b2⟩
  · obtain ⟨s2, g2⟩ := s.newD (o := .dT (foldK [] (ts.map fun t => (t.k, t.v)))) hl
    refine k _ (.dc f) _ _ _ g2 s2 ⟨l, _, rfl, upd_same, fun kk d e => ?_⟩ p
    obtain ⟨⟨d', m1⟩, m2⟩ := hf kk d e
    obtain ⟨t, t1, t2, t3, t4, t5⟩ := paired_mem hp m1
    obtain ⟨y, y1, y2⟩ := foldK_val (ts.map fun t => (t.k, t.v)) [] (kk.map Sum.inl) .non (.inr ⟨t.v, List.mem_map.mpr ⟨t, t1, by rw [t4]⟩⟩)
    rcases y2 with y2 | y2
    · cases y2
    · obtain ⟨t', u1, u2⟩ := List.mem_map.mp y2
      have u3 : t'.k = kk.map Sum.inl := congrArg Prod.fst u2
      have u4 : t'.v = y := congrArg Prod.snd u2
      obtain ⟨r', w1, w2, w3, w4, w5⟩ := paired_memL hp u1
      have e5 : r'.1 = kk := keys_inj (w4.symm.trans u3)
      have e6 : r'.2 = d := m2 r'.2 (by rw [← e5]; exact w1)
      refine ⟨y, y1, ?_⟩
      rw [← u4, ← e6]
      exact w5.mono g2.ex⟩
theorem ae_getD {o i : Expr} {to ti : TE} {ao ai : ATE} {pos : Pos} (hu : X.A.units + 1 < cLine) (ho : AE X C o to ao) (hi : AE X C i ti ai) (hs : NoSl i := by exact fun _ _ => rfl) : AE X C (.Subscript o i pos) (tDGet to ti) (aGetD ao ai) := ⟨pe_dget hu ho.pe hi.pe hs, fun σ env G L H P Q r s q k => by
  refine ho.sim σ env G L H _ _ r s q fun v av G1 L1 H1 g1 s1 r1 p => ?_
  refine hi.sim σ env G1 L1 H1 _ _ (r.mono g1.ex) s1 p fun w bv G2 L2 H2 g2 s2 r2 p2 => ?_
  clear p q
  split at p2
  · rename_i f
    obtain ⟨kk, d, rfl, e, p⟩ := p2
    obtain ⟨q0, us, rfl, h1, h2⟩ := r1.mono g2.ex
    obtain ⟨x, x1, x2⟩ := h2 kk d e
    have r2 : Dv G2 w (encT kk) := r2
    unfold encT at r2
    cases r2 with
    | tup b1 b2 =>
      have e2 := b2.ints
      subst e2
      have gt : DGet H2 q0 (.ref _) (valV us (kk.map Sum.inl)) := DGet.t (s2.ex _ _ h1) (by rw [kv_ints]; exact s2.ex _ _ b1)
      rw [x1] at gt
      exact ⟨q0, x, rfl, gt, k _ (.d d) G2 L2 H2 (g1.trans g2) s2 x2 p⟩
  · exact p2.elim⟩
end

/-! ### chains, a sign in a text, not in a written tuple -/
def aChain (ra rb : AV → AV → LS → AK → Prop) (aa ab ac : ATE) : ATE := fun env L P => aa env L fun x L1 => ab env L1 fun y L2 => ra x y L2 fun z L3 => match z with
  | .d (.bool b) => (b = true → ac env L3 fun u L4 => rb y u L4 P) ∧ (b = false → P (.d (.bool false)) L3)
  | _ => False
def aInS : AV → AV → LS → AK → Prop := fun ax ay L P => match ax, ay with
  | .d (.str x), .d (.str z) => ∃ c, x = ⟨#[c]⟩ ∧ P (.d (.bool (decide (c ∈ z.cps.toList)))) L
  | _, _ => False
/-- x not in a tuple of the module, its items ys -/
def aNiK (ys : List V) (ae : ATE) : ATE := fun env L P => ae env L fun x L1 => match x with
  | .d (.int i) => P (.d (.bool (!inV (.int i) ys))) L1
  | .d (.str z) => P (.d (.bool (!inV (.str z) ys))) L1
  | _ => False
section
variable {X : Cx} {C : Addr} {a b c e : Expr} {ta tb tc te : TE} {aa ab ac ae : ATE} {pos p2 : Pos} {K : PySem.W.Frag}
theorem simE_chain {r r' : R2} {ra rb : AV → AV → LS → AK → Prop} (h1 : SimR K C r ra) (h2 : SimR K C r' rb) (ha : SimE K C ta aa) (hb : SimE K C tb ab) (hc : SimE K C tc ac) : SimE K C (tChain r r' ta tb tc) (aChain ra rb aa ab ac) := fun σ env G L H P Q rl s q k => by
  refine ha σ env G L H _ _ rl s q fun x ax G1 L1 H1 g1 s1 r1 q1 => ?_
  refine hb σ env G1 L1 H1 _ _ (rl.mono g1.ex) s1 q1 fun y ay G2 L2 H2 g2 s2 r2 q2 => ?_
  refine h1 x y ax ay G2 L2 H2 _ _ s2 (r1.mono g2.ex) r2 q2 fun z az G3 L3 H3 g3 s3 r3 q3 => ?_
  split at q3
  · rename_i bb
    have r3 : Dv G3 z (.bool bb) := r3
    cases r3
    refine ⟨bb, rfl, ?_⟩
    cases bb with
    | true =>
      rw [if_pos rfl]
      refine hc σ env G3 L3 H3 _ _ (rl.mono ((g1.trans g2).trans g3).ex) s3 (q3.1 rfl) fun u au G4 L4 H4 g4 s4 r4 q4 => ?_
      exact h2 y u ay au G4 L4 H4 P Q s4 (r2.mono (g3.trans g4).ex) r4 q4 fun v av G5 L5 H5 g5 s5 r5 q5 => k v av G5 L5 H5 ((((g1.trans g2).trans g3).trans g4).trans g5) s5 r5 q5
    | false =>
      rw [if_neg Bool.false_ne_true]
      exact k _ (.d (.bool false)) G3 L3 H3 ((g1.trans g2).trans g3) s3 (.bl false) (q3.2 rfl)
  · exact q3.elim
theorem at_chain {op op' : CmpOp} {r r' : R2} {ra rb : AV → AV → LS → AK → Prop} (h1 : AO X C (compareOp op) r ra) (h2 : AO X C (compareOp op') r' rb) (ha : AE X C a ta aa) (hb : AE X C b tb ab) (hc : AE X C c tc ac)
    (hm : lastMarks [op, op'] [b, c] = false := by with_unfolding_all rfl) : AT X C (.Compare a [op, op'] [b, c] pos) (tTest (tChain r r' ta tb tc)) (aTest (aChain ra rb aa ab ac)) :=
  ⟨pt_chain h1.op h2.op ha.pe hb.pe hc.pe hm, simT_test (simE_chain h1.sim h2.sim ha.sim hb.sim hc.sim)⟩
theorem ae_chain {op op' : CmpOp} {r r' : R2} {ra rb : AV → AV → LS → AK → Prop} (h1 : AO X C (compareOp op) r ra) (h2 : AO X C (compareOp op') r' rb) (ha : AE X C a ta aa) (hb : AE X C b tb ab) (hc : AE X C c tc ac)
    (hm : lastMarks [op, op'] [b, c] = false := by with_unfolding_all rfl) : AE X C (.Compare a [op, op'] [b, c] pos) (tChain r r' ta tb tc) (aChain ra rb aa ab ac) :=
  ⟨pe_chain h1.op h2.op ha.pe hb.pe hc.pe hm, simE_chain h1.sim h2.sim ha.sim hb.sim hc.sim⟩
theorem ao_inS : AO X C (compareOp .In) (fun x y H Q => ∃ (c : Nat) (z : Str), x = .str ⟨#[c]⟩ ∧ y = .str z ∧ Q (.bl (decide (c ∈ z.cps.toList))) H) aInS := ⟨op_in_sign, fun x y ax ay G L H P Q s rx ry q k => by
  unfold aInS at q
  split at q
  · obtain ⟨c, rfl, p⟩ := q
    cases rx
    cases ry
    exact ⟨c, _, rfl, rfl, k _ (.d (.bool _)) G L H (Go.refl ..) s (.bl _) p⟩
  · exact q.elim⟩
theorem ae_niK (K : PySem.W.Frag) {ys : List V} {x : Str} {u : Addr} {px : Pos} (hg : Gl X x) (hm : X.mg x = some (.ref u)) (hq : ∀ H, SqT X.K H u ys) (hf : ys.all flatV = true) (he : AE X C e te ae) (hd : (x == ("__debug__" : Str)) = false := by decide)
    (hb : behindInMarks .NotIn (.Name x px) = false := by rfl) (hK : X.K = K := by rfl) : AE X C (.Compare e [.NotIn] [.Name x px] pos) (tOp (rIn K true) te (tC (.ref u))) (aNiK ys ae) := by
  subst hK
  exact ⟨pe_cmpR op_notIn_seq he.pe (pe_glob hg hm rfl hd) hb, fun σ env G L H P Q r s q k => by
    refine he.sim σ env G L H _ _ r s q fun v av G1 L1 H1 g1 s1 r1 p => ?_
    split at p
    · cases r1
      exact ⟨u, ys, rfl, .inr (hq _), rfl, hf, k _ (.d (.bool _)) G1 L1 H1 g1 s1 (.bl _) p⟩
    · cases r1
      exact ⟨u, ys, rfl, .inr (hq _), rfl, hf, k _ (.d (.bool _)) G1 L1 H1 g1 s1 (.bl _) p⟩
    · exact p.elim⟩
theorem at_niK (K : PySem.W.Frag) {ys : List V} {x : Str} {u : Addr} {px : Pos} (hg : Gl X x) (hm : X.mg x = some (.ref u)) (hq : ∀ H, SqT X.K H u ys) (hf : ys.all flatV = true) (he : AE X C e te ae) (hd : (x == ("__debug__" : Str)) = false := by decide)
    (hb : behindInMarks .NotIn (.Name x px) = false := by rfl) (hK : X.K = K := by rfl) : AT X C (.Compare e [.NotIn] [.Name x px] pos) (tTest (tOp (rIn K true) te (tC (.ref u)))) (aTest (aNiK ys ae)) := by
  subst hK
  exact ⟨pt_cmpR op_notIn_seq he.pe (pe_glob hg hm rfl hd) hb, simT_test fun σ env G L H P Q r s q k => by
    refine he.sim σ env G L H _ _ r s q fun v av G1 L1 H1 g1 s1 r1 p => ?_
    split at p
    · cases r1
      exact ⟨u, ys, rfl, .inr (hq _), rfl, hf, k _ (.d (.bool _)) G1 L1 H1 g1 s1 (.bl _) p⟩
    · cases r1
      exact ⟨u, ys, rfl, .inr (hq _), rfl, hf, k _ (.d (.bool _)) G1 L1 H1 g1 s1 (.bl _) p⟩
    · exact p.elim⟩
end

/-! ### defs of the module -/
structure FnG (P : Program) (w : World) (K : PySem.W.Frag) (mg : Str → Option Value) (base : Heap) (C : Addr) (k : Nat) (x : Str) (FF : List AV → LS → AK → Prop) : Prop where
  ex : ∃ (f : Addr) (fd : FuncData) (ps : List Str), FnOk P w K mg base CX0 k f fd ps (spA K C FF) ∧ mg x = some (.ref f) ∧ PySem.W.keepIn K (.ref f) = true ∧ Binds K fd ps []
structure Def (K : PySem.W.Frag) (mg : Str → Option Value) (x : Str) (st : Stmt) : Prop where
  ex : ∃ (f : Addr) (fd : FuncData), Fun K x x st f fd ∧ mg x = some (.ref f)
section
variable {X : Cx} {C : Addr} {e : Expr} {es : List Expr} {t : TA} {aa : ATA} {pos p : Pos} {k : Nat} {x : Str} {FF : List AV → LS → AK → Prop}
theorem ae_fn (K : PySem.W.Frag) (F : FnG X.prog X.w X.K X.mg X.base C k x FF) (hr : Room k X.A) (ha : AA X C (e :: es) t aa) (hg : Gl X x := by rfl) (hdb : (x == ("__debug__" : Str)) = false := by decide)
    (he : starEach (e :: es) X.env = (false, eval e X.env) :: starEach es X.env := by rfl) (hpl : (backTo pos (starEach es X.env)).any (·.1) = false := by rfl) (hK : X.K = K := by rfl) :
    AE X C (.Call (.Name x p) (e :: es) [] pos) (tCall (spA K C FF) [] E0 t) (aCall FF aa) := by
  subst hK
  obtain ⟨f, fd, ps, h1, h2, h3, h4⟩ := F.ex
  exact ae_call _ h1 hr hg h2 h3 h4 ha hdb he hpl
end
section
variable {P : Program} {w : World} {K : PySem.W.Frag} {mg : Str → Option Value} {base : Heap} {C : Addr}
theorem fnG {x : Str} {st : Stmt} {N ps : List Str} {k : Nat} {FF : List AV → LS → AK → Prop} (D : Def K mg x st) (S : FnScope N ps (defScope st)) (len : ∀ avs L Q, FF avs L Q → avs.length = ps.length)
    (hb : ∀ (kV doc pm : Value) (an : Option Addr) (cdv ct : Value) (us : List Value), us.length = ps.length → bindArgs (PySem.W.fnOf x x (defArgs st) (defBody st) (defScope st) .none kV doc pm an cdv ct) ⟨us, []⟩ = pure (ps.zip us))
    (hbody : ∀ (f : Addr) (cdv : Value) (A : Around) (outer : List PySem.Env) (s : Shared) (H : Hp) (E : XK), Room k (A.deeper (envOfC x (defScope st) s.heap.objs.size f cdv)) → ∀ avs L Q, FF avs L Q →
      ∃ t at_, ASs (cxOf CX0 P w K mg base N x (defScope st) f cdv A outer s H E).nox C (defBody st) t at_ ∧ at_ { nx := fun _ L' => Q (.d .none) L', rt := Q } (startE N avs) L) : FnG P w K mg base C (k + 1) x FF := by
  obtain ⟨f, fd, F, hm⟩ := D.ex
  refine ⟨f, fd, ps, F.ok S (fun vs H Q E h => ?_) (fun cdv A outer s H vs Q E hr h => ?_), hm, F.kp, F.binds hb⟩
  · obtain ⟨G, L, avs, P0, _, r, ff, _⟩ := h
    rw [r.length, len avs L P0 ff]
  · obtain ⟨G, L, avs, P0, s0, r, ff, k0⟩ := h
    obtain ⟨t, at_, hb, hq⟩ := hbody f cdv A outer s H E hr avs L P0 ff
    refine ⟨t, hb.ps, hb.sim _ { nx := fun _ L' => P0 (.d .none) L', rt := P0 } _ _ G L H (rel_start r) s0 hq ⟨fun σ env G' L' H' g s' r' p => ?_, fun v av G' L' H' g s' r' p => ?_, fun _ _ _ _ _ _ _ _ p => p.elim, fun _ _ _ _ _ _ _ _ p => p.elim⟩⟩
    · exact k0 .non (.d .none) G' L' H' g s' .non p
    · exact k0 v av G' L' H' g s' r' p
end
end VS

set_option Elab.async false
set_option linter.all false
set_option maxRecDepth 100000
set_option maxHeartbeats 4000000
set_option autoImplicit false
namespace VS
open PySem L2 PySem.Spec PyProof.Rows

/-! ### a list of lists of the store becomes data; minus -/
def delAll (L : LS) (as : List Addr) : LS := fun b => if b ∈ as then none else L b
def aVarFF (i : Nat) : ATE := fun env L P => match env[i]? with
  | some (some (.p a)) => ∃ (qs : List Addr) (dss : List (List PyData)), L a = some (qs.map AV.p) ∧ Paired (fun q ds => L q = some (ds.map AV.d)) qs dss ∧ P (.d (.list (dss.map PyData.list))) (delAll L (a :: qs))
  | _ => False
def aNeg (aa : ATE) : ATE := fun env L P => aa env L fun x L1 => match x with
  | .d (.int i) => P (.d (.int (-i))) L1
  | _ => False
section
variable {X : Cx} {C : Addr} {K : PySem.W.Frag}
theorem ptrs_vals {G : Hp} : ∀ {xs : List V} {qs : List Addr}, RpAll K C G xs (qs.map AV.p) → xs = qs.map V.ref
  | _, [], .nil => rfl
  | _, q :: qs, .cons h t => by
    have h : _ = V.ref q := h
    rw [List.map_cons, h, ← ptrs_vals t]
theorem RS.frz2 {G H : Hp} {L : LS} {a : Addr} {qs : List Addr} {dss : List (List PyData)} (s : RS K C G L H) (la : L a = some (qs.map AV.p)) (lq : Paired (fun q ds => L q = some (ds.map AV.d)) qs dss) :
    ∃ G', Dv G' (.ref a) (.list (dss.map PyData.list)) ∧ RS K C G' (delAll L (a :: qs)) H ∧ Go G L H G' (delAll L (a :: qs)) H := by
  have inL : ∀ b ∈ a :: qs, ∃ avs, L b = some avs := fun b hb => by
    rcases List.mem_cons.mp hb with e | hb
    · exact ⟨_, by rw [e]; exact la⟩
    · obtain ⟨ds, _, h⟩ := paired_memL lq hb
      exact ⟨_, h⟩
  have none : ∀ b ∈ a :: qs, G b = none := fun b hb => by
    obtain ⟨avs, h⟩ := inL b hb
    exact (s.ls b avs h).1
  let G' : Hp := fun b => if b ∈ a :: qs then H b else G b
  have G'in : ∀ b ∈ a :: qs, G' b = H b := fun b hb => if_pos hb
  have G'out : ∀ b, b ∉ a :: qs → G' b = G b := fun b hb => if_neg hb
  have x : Ex G G' := fun b o e => by
    by_cases hb : b ∈ a :: qs
    · rw [none b hb] at e
      cases e
    · rw [G'out b hb]
      exact e
  have lists : ∀ {qs2 : List Addr} {dss2 : List (List PyData)}, Paired (fun q ds => L q = some (ds.map AV.d)) qs2 dss2 → (∀ q ∈ qs2, q ∈ a :: qs) → DvAll G' (qs2.map V.ref) (dss2.map PyData.list) := by
    intro qs2 dss2 p
    induction p with
    | nil => exact fun _ => .nil
    | cons h t ih =>
      intro hm
      refine .cons ?_ (ih fun q hq => hm q (List.mem_cons_of_mem _ hq))
      obtain ⟨_, xs, h3, h4⟩ := s.ls _ _ h
      exact .lst ((G'in _ (hm _ List.mem_cons_self)).trans h3) (h4.toD.mono x)
  refine ⟨G', ?_, ⟨fun b o e => ?_, fun b bvs e => ?_⟩, ⟨x, fun b o h1 h2 h3 => ?_⟩⟩
  · obtain ⟨_, xs, h3, h4⟩ := s.ls a _ la
    have ex := ptrs_vals h4
    subst ex
    exact .lst ((G'in a List.mem_cons_self).trans h3) (lists lq fun q hq => List.mem_cons_of_mem _ hq)
  · by_cases hb : b ∈ a :: qs
    · rw [G'in b hb] at e
      exact e
    · rw [G'out b hb] at e
      exact s.ex b o e
  · unfold delAll at e
    by_cases hb : b ∈ a :: qs
    · rw [if_pos hb] at e
      cases e
    · rw [if_neg hb] at e
      obtain ⟨h1, xs, h2, h3⟩ := s.ls b bvs e
      exact ⟨(G'out b hb).trans h1, xs, h2, h3.mono x⟩
  · have hb : b ∉ a :: qs := fun hb => by
      obtain ⟨avs, h⟩ := inL b hb
      rw [h] at h3
      cases h3
    exact ⟨h1, (G'out b hb).trans h2, by unfold delAll; rw [if_neg hb]; exact h3⟩
theorem ae_varFF (i : Nat) {x : Str} {pos : Pos} (hN : X.N[i]? = some x := by rfl) (hv : Vis X.env.scope x := by first | exact Or.inl rfl | exact Or.inr (Or.inl rfl) | exact Or.inr (Or.inr rfl)) (hd : (x == ("__debug__" : Str)) = false := by decide)
    (hcd : (x == ("__classdict__" : Str)) = false := by decide) : AE X C (.Name x pos) (tVar i) (aVarFF i) := by
  refine ⟨pe_var hN hv hd hcd, fun σ env G L H P Q r s h k => ?_⟩
  unfold aVarFF at h
  split at h
  · rename_i a e
    obtain ⟨qs, dss, h1, h2, h3⟩ := h
    obtain ⟨v, q1, q2⟩ := r.at_ i _ e
    obtain ⟨G', d1, s1, g1⟩ := s.frz2 h1 h2
    have q2 : v = .ref a := q2
    subst q2
    exact ⟨_, q1, k _ (.d (.list (dss.map PyData.list))) G' _ H g1 s1 d1 h3⟩
  · exact h.elim
theorem ae_neg {a : Expr} {ta : TE} {aa : ATE} {pos : Pos} (h : AE X C a ta aa) : AE X C (.UnaryOp .USub a pos) (tUn (rU fun i => .int (-i)) ta) (aNeg aa) := ⟨pe_un un_neg h.pe, fun σ env G L H P Q r s q k => by
  refine h.sim σ env G L H _ _ r s q fun v av G1 L1 H1 g1 s1 r1 p => ?_
  split at p
  · rename_i i
    have r1 : Dv G1 v (.int i) := r1
    cases r1
    exact ⟨i, rfl, k _ (.d (.int (-i))) G1 L1 H1 g1 s1 (.int _) p⟩
  · exact p.elim⟩
end
end VS

set_option Elab.async false
set_option linter.all false
set_option maxRecDepth 100000
set_option maxHeartbeats 4000000
set_option autoImplicit false
namespace VS
open PySem L2 PySem.Spec PyProof.Rows

def topS (i : Nat) : Stmt := PySem.Challenge.pw_linklines_k71_whole_what_stays_and_order.main.body.getD i (.Pass ⟨0, 0, 0, 0⟩)
def LET : Str := "abcdefghijklmnopqrstuvwxyz"
def RIGHTSV : List V := [.str "r", .str "rw", .str "rx"]
def ALIGNSV : List V := [.int 1, .int 2, .int 4, .int 8, .int 16, .int 32, .int 64]
def PAGESV : List V := [.int 8, .int 16, .int 32, .int 64]
structure Txt (K : PySem.W.Frag) (mg : Str → Option Value) (C : Addr) (tk : Tok) (aR aA aP : Addr) : Prop where
  cl : Cls K C
  nPage : NoAttr K C "kept_page"
  nParts : NoAttr K C "kept_parts"
  isi : mg "isinstance" = none
  len_ : mg "len" = none
  int_ : mg "int" = none
  bool_ : mg "bool" = none
  str_ : mg "str" = none
  list_ : mg "list" = none
  tuple_ : mg "tuple" = none
  dict_ : mg "dict" = none
  min_ : mg "min" = none
  sum_ : mg "sum" = none
  all_ : mg "all" = none
  any_ : mg "any" = none
  sorted_ : mg "sorted" = none
  range_ : mg "range" = none
  enumerate_ : mg "enumerate" = none
  zip_ : mg "zip" = none
  letters : mg "LETTERS" = some (.str LET tk)
  rights : mg "RIGHTS" = some (.ref aR)
  aligns : mg "ALIGNS" = some (.ref aA)
  pages : mg "PAGES" = some (.ref aP)
  rightsQ : ∀ H, SqT K H aR RIGHTSV
  alignsQ : ∀ H, SqT K H aA ALIGNSV
  pagesQ : ∀ H, SqT K H aP PAGESV
/-- a part -/
structure Part where
  w : Str
  r : Str
  al : Int
  lo : Int
  hi : Int
  z : Bool
def encP (p : Part) : PyData := .tuple [.str p.w, .str p.r, .int p.al, .int p.lo, .int p.hi, .bool p.z]
def encPs (ps : List Part) : List PyData := ps.map encP
def dInts (ns : List Int) : PyData := .list (ns.map PyData.int)
def dStrs (ns : List Str) : PyData := .list (ns.map PyData.str)
def dRows (rs : List (List Int)) : PyData := .list (rs.map encT)
/-- lists of lists of ints -/
def dLists (rs : List (List Int)) : PyData := .list (rs.map dInts)

abbrev s_is_integer : Stmt := topS 2
theorem sc_is_integer : FnScope ["thing"] ["thing"] (defScope s_is_integer) := ⟨rfl, rfl, rfl, by decide +kernel, rfl, by decide +kernel, by decide +kernel⟩
abbrev s_is_natural : Stmt := topS 3
theorem sc_is_natural : FnScope ["thing"] ["thing"] (defScope s_is_natural) := ⟨rfl, rfl, rfl, by decide +kernel, rfl, by decide +kernel, by decide +kernel⟩
abbrev s_is_list : Stmt := topS 4
theorem sc_is_list : FnScope ["thing"] ["thing"] (defScope s_is_list) := ⟨rfl, rfl, rfl, by decide +kernel, rfl, by decide +kernel, by decide +kernel⟩
abbrev s_is_word : Stmt := topS 5
theorem sc_is_word : FnScope ["thing", "sign"] ["thing"] (defScope s_is_word) := ⟨rfl, rfl, rfl, by decide +kernel, rfl, by decide +kernel, by decide +kernel⟩
abbrev s_is_part : Stmt := topS 16
theorem sc_is_part : FnScope ["thing", "page", "met", "word", "rights", "align", "least", "most", "zeros"] ["thing", "page", "met"] (defScope s_is_part) := ⟨rfl, rfl, rfl, by decide +kernel, rfl, by decide +kernel, by decide +kernel⟩
abbrev s_checked_sizes : Stmt := topS 18
theorem sc_checked_sizes : FnScope ["plan", "sizes", "parts", "index", "size"] ["plan", "sizes"] (defScope s_checked_sizes) := ⟨rfl, rfl, rfl, by decide +kernel, rfl, by decide +kernel, by decide +kernel⟩
abbrev s_lifted : Stmt := topS 19
theorem sc_lifted : FnScope ["place", "step", "rest"] ["place", "step", "rest"] (defScope s_lifted) := ⟨rfl, rfl, rfl, by decide +kernel, rfl, by decide +kernel, by decide +kernel⟩
abbrev s_lowest : Stmt := topS 20
theorem sc_lowest : FnScope ["plan", "number", "end", "parts"] ["plan", "number", "end"] (defScope s_lowest) := ⟨rfl, rfl, rfl, by decide +kernel, rfl, by decide +kernel, by decide +kernel⟩
abbrev s_earliest_of : Stmt := topS 21
theorem sc_earliest_of : FnScope ["plan", "sizes", "found", "end", "bits", "number", "part", "address", "offset"] ["plan", "sizes"] (defScope s_earliest_of) := ⟨rfl, rfl, rfl, by decide +kernel, rfl, by decide +kernel, by decide +kernel⟩
abbrev s_pages_up_to : Stmt := topS 23
theorem sc_pages_up_to : FnScope ["plan", "end"] ["plan", "end"] (defScope s_pages_up_to) := ⟨rfl, rfl, rfl, by decide +kernel, rfl, by decide +kernel, by decide +kernel⟩
abbrev s_all_orders : Stmt := topS 24
theorem sc_all_orders : FnScope ["numbers", "found", "place", "number", "rest"] ["numbers"] (defScope s_all_orders) := ⟨rfl, rfl, rfl, by decide +kernel, rfl, by decide +kernel, by decide +kernel⟩
abbrev s_runs_of : Stmt := topS 25
theorem sc_runs_of : FnScope ["plan", "found", "number", "part"] ["plan"] (defScope s_runs_of) := ⟨rfl, rfl, rfl, by decide +kernel, rfl, by decide +kernel, by decide +kernel⟩
abbrev s_end_of_run : Stmt := topS 26
theorem sc_end_of_run : FnScope ["plan", "sizes", "order", "end", "number"] ["plan", "sizes", "order"] (defScope s_end_of_run) := ⟨rfl, rfl, rfl, by decide +kernel, rfl, by decide +kernel, by decide +kernel⟩
abbrev s_best_of_run : Stmt := topS 27
theorem sc_best_of_run : FnScope ["plan", "sizes", "run", "is_last", "bits", "zeros", "ahead", "best", "found", "behind", "end", "weight", "number"] ["plan", "sizes", "run", "is_last"] (defScope s_best_of_run) := ⟨rfl, rfl, rfl, by decide +kernel, rfl, by decide +kernel, by decide +kernel⟩
abbrev s_best_order : Stmt := topS 28
theorem sc_best_order : FnScope ["plan", "sizes", "lengths", "runs", "found", "number", "run"] ["plan", "sizes"] (defScope s_best_order) := ⟨rfl, rfl, rfl, by decide +kernel, rfl, by decide +kernel, by decide +kernel⟩
abbrev s_number_of : Stmt := topS 30
theorem sc_number_of : FnScope ["plan", "word", "number", "part"] ["plan", "word"] (defScope s_number_of) := ⟨rfl, rfl, rfl, by decide +kernel, rfl, by decide +kernel, by decide +kernel⟩
abbrev s_leasts : Stmt := topS 31
theorem sc_leasts : FnScope ["plan", "part"] ["plan"] (defScope s_leasts) := ⟨rfl, rfl, rfl, by decide +kernel, rfl, by decide +kernel, by decide +kernel⟩
abbrev s_mosts : Stmt := topS 32
theorem sc_mosts : FnScope ["plan", "part"] ["plan"] (defScope s_mosts) := ⟨rfl, rfl, rfl, by decide +kernel, rfl, by decide +kernel, by decide +kernel⟩
abbrev s_rows_between : Stmt := topS 33
theorem sc_rows_between : FnScope ["low", "high", "found", "least", "most", "longer", "row", "number"] ["low", "high"] (defScope s_rows_between) := ⟨rfl, rfl, rfl, by decide +kernel, rfl, by decide +kernel, by decide +kernel⟩
abbrev s_is_within : Stmt := topS 34
theorem sc_is_within : FnScope ["one", "other", "number", "most"] ["one", "other"] (defScope s_is_within) := ⟨rfl, rfl, rfl, by decide +kernel, rfl, by decide +kernel, by decide +kernel⟩
abbrev s_least_rows : Stmt := topS 35
theorem sc_least_rows : FnScope ["rows", "row", "other"] ["rows"] (defScope s_least_rows) := ⟨rfl, rfl, rfl, by decide +kernel, rfl, by decide +kernel, by decide +kernel⟩
abbrev s_steady : Stmt := topS 36
theorem sc_steady : FnScope ["plan", "low", "high", "part", "one", "other"] ["plan"] (defScope s_steady) := ⟨rfl, rfl, rfl, by decide +kernel, rfl, by decide +kernel, by decide +kernel⟩
abbrev s_least_moves : Stmt := topS 37
theorem sc_least_moves : FnScope ["plan", "word", "home", "rows", "number", "low", "row"] ["plan", "word"] (defScope s_least_moves) := ⟨rfl, rfl, rfl, by decide +kernel, rfl, by decide +kernel, by decide +kernel⟩
abbrev s_law_source : Stmt := topS 39
theorem sc_law_source : FnScope ["_law_script", "_law_turn", "_law_cell", "_law_seed", "_law_other"] ["_law_script", "_law_turn"] (defScope s_law_source) := ⟨rfl, rfl, rfl, by decide +kernel, rfl, by decide +kernel, by decide +kernel⟩
abbrev s_law_draw : Stmt := topS 40
theorem sc_law_draw : FnScope ["_law_source_here", "_law_many", "_law_mixed_here", "_law_found"] ["_law_source_here", "_law_many"] (defScope s_law_draw) := ⟨rfl, rfl, rfl, by decide +kernel, rfl, by decide +kernel, by decide +kernel⟩
abbrev s_law_pick : Stmt := topS 41
theorem sc_law_pick : FnScope ["_law_source_here", "_law_things"] ["_law_source_here", "_law_things"] (defScope s_law_pick) := ⟨rfl, rfl, rfl, by decide +kernel, rfl, by decide +kernel, by decide +kernel⟩
abbrev s_law_mixed : Stmt := topS 42
theorem sc_law_mixed : FnScope ["_law_source_here", "_law_things", "_law_left", "_law_found"] ["_law_source_here", "_law_things"] (defScope s_law_mixed) := ⟨rfl, rfl, rfl, by decide +kernel, rfl, by decide +kernel, by decide +kernel⟩
abbrev s_law_loose : Stmt := topS 43
theorem sc_law_loose : FnScope ["_law_source_here", "_law_thing", "_law_found", "_law_part"] ["_law_source_here", "_law_thing"] (defScope s_law_loose) := ⟨rfl, rfl, rfl, by decide +kernel, rfl, by decide +kernel, by decide +kernel⟩
abbrev s_law_same : Stmt := topS 44
theorem sc_law_same : FnScope ["_law_found", "_law_due", "_law_x", "_law_y"] ["_law_found", "_law_due"] (defScope s_law_same) := ⟨rfl, rfl, rfl, by decide +kernel, rfl, by decide +kernel, by decide +kernel⟩
abbrev s_law_parts : Stmt := topS 45
theorem sc_law_parts : FnScope ["_law_source_here", "_law_page", "_law_many", "_law_spread", "_law_rights", "_law_word", "_law_words", "_law_found", "_law_least", "_law_zeros", "_law_align", "_law_more", "_law_one"] ["_law_source_here", "_law_page", "_law_many", "_law_spread"] (defScope s_law_parts) := ⟨rfl, rfl, rfl, by decide +kernel, rfl, by decide +kernel, by decide +kernel⟩
abbrev s_law_some_sizes : Stmt := topS 46
theorem sc_law_some_sizes : FnScope ["_law_source_here", "_law_parts_here", "_law_part"] ["_law_source_here", "_law_parts_here"] (defScope s_law_some_sizes) := ⟨rfl, rfl, rfl, by decide +kernel, rfl, by decide +kernel, by decide +kernel⟩
abbrev s_law_lowest : Stmt := topS 47
theorem sc_law_lowest : FnScope ["_law_page", "_law_parts_here", "_law_k", "_law_end_here", "_law_is_border", "_law_place"] ["_law_page", "_law_parts_here", "_law_k", "_law_end_here"] (defScope s_law_lowest) := ⟨rfl, rfl, rfl, by decide +kernel, rfl, by decide +kernel, by decide +kernel⟩
abbrev s_law_addresses : Stmt := topS 48
theorem sc_law_addresses : FnScope ["_law_page", "_law_parts_here", "_law_sizes", "_law_found", "_law_end_here", "_law_k", "_law_size"] ["_law_page", "_law_parts_here", "_law_sizes"] (defScope s_law_addresses) := ⟨rfl, rfl, rfl, by decide +kernel, rfl, by decide +kernel, by decide +kernel⟩
abbrev s_law_rows : Stmt := topS 49
theorem sc_law_rows : FnScope ["_law_low", "_law_high", "_law_found", "_law_least", "_law_most", "_law_longer", "_law_row", "_law_number"] ["_law_low", "_law_high"] (defScope s_law_rows) := ⟨rfl, rfl, rfl, by decide +kernel, rfl, by decide +kernel, by decide +kernel⟩
abbrev s_law_all_sizes : Stmt := topS 50
theorem sc_law_all_sizes : FnScope ["_law_parts_here", "_law_part"] ["_law_parts_here"] (defScope s_law_all_sizes) := ⟨rfl, rfl, rfl, by decide +kernel, rfl, by decide +kernel, by decide +kernel⟩
abbrev s_law_few : Stmt := topS 51
theorem sc_law_few : FnScope ["_law_source_here", "_law_most", "_law_part", "_law_page", "_law_many", "_law_found", "_law_whole", "_law_free", "_law_wide", "_law_is_kept"] ["_law_source_here", "_law_most"] (defScope s_law_few) := ⟨rfl, rfl, rfl, by decide +kernel, rfl, by decide +kernel, by decide +kernel⟩
abbrev s_law_is_below : Stmt := topS 52
theorem sc_law_is_below : FnScope ["_law_one", "_law_other", "_law_x", "_law_y"] ["_law_one", "_law_other"] (defScope s_law_is_below) := ⟨rfl, rfl, rfl, by decide +kernel, rfl, by decide +kernel, by decide +kernel⟩
abbrev s_law_orders : Stmt := topS 53
theorem sc_law_orders : FnScope ["_law_things", "_law_found", "_law_k", "_law_thing", "_law_rest"] ["_law_things"] (defScope s_law_orders) := ⟨rfl, rfl, rfl, by decide +kernel, rfl, by decide +kernel, by decide +kernel⟩
abbrev s_law_whole_orders : Stmt := topS 54
theorem sc_law_whole_orders : FnScope ["_law_parts_here", "_law_lots", "_law_found", "_law_lot", "_law_k", "_law_part", "_law_longer", "_law_row", "_law_order"] ["_law_parts_here"] (defScope s_law_whole_orders) := ⟨rfl, rfl, rfl, by decide +kernel, rfl, by decide +kernel, by decide +kernel⟩
abbrev s_law_end : Stmt := topS 55
theorem sc_law_end : FnScope ["_law_page", "_law_parts_here", "_law_sizes", "_law_order", "_law_places", "_law_k"] ["_law_page", "_law_parts_here", "_law_sizes", "_law_order"] (defScope s_law_end) := ⟨rfl, rfl, rfl, by decide +kernel, rfl, by decide +kernel, by decide +kernel⟩
abbrev s_law_moves_right : Stmt := topS 56
theorem sc_law_moves_right : FnScope ["_law_plan", "_law_page", "_law_parts_here", "_law_rows_here", "_law_low", "_law_lots", "_law_stays", "_law_k", "_law_part", "_law_moved", "_law_due", "_law_sizes", "_law_less"] ["_law_plan", "_law_page", "_law_parts_here", "_law_rows_here"] (defScope s_law_moves_right) := ⟨rfl, rfl, rfl, by decide +kernel, rfl, by decide +kernel, by decide +kernel⟩
abbrev s_law : Stmt := topS 57
theorem sc_law : FnScope ["_law_script", "_law_turn", "_law_source_here", "_law_best", "_law_order", "_law_page", "_law_parts_here", "_law_plan", "_law_sizes", "_law_end_here"] ["_law_script"] (defScope s_law) := ⟨rfl, rfl, rfl, by decide +kernel, rfl, by decide +kernel, by decide +kernel⟩
end VS

set_option Elab.async false
set_option linter.all false
set_option maxRecDepth 100000
set_option maxHeartbeats 4000000
set_option autoImplicit false
namespace VS
open PySem L2 PySem.Spec PyProof.Rows
section
variable {P : Program} {w : World} {K : PySem.W.Frag} {mg : Str → Option Value} {base : Heap} {C : Addr} {tk : Tok} {aR aA aP : Addr}

/-! ### kinds -/
theorem kit_int_int : kitB "int" "int" = some true := by decide +kernel
theorem kit_int_bool : kitB "int" "bool" = some false := by decide +kernel
theorem kit_bool_bool : kitB "bool" "bool" = some true := by decide +kernel
theorem kit_str_str : kitB "str" "str" = some true := by decide +kernel
theorem kits_list : kitBs "list" ["list", "tuple"] = some true := by decide +kernel
theorem kits_tuple : kitBs "tuple" ["list", "tuple"] = some true := by decide +kernel

def F_is_integer : List AV → LS → AK → Prop := fun avs L Q => ∃ i : Int, avs = [.d (.int i)] ∧ Q (.d (.bool true)) L
theorem ok_is_integer (T : Txt K mg C tk aR aA aP) (D : Def K mg "is_integer" s_is_integer) : FnG P w K mg base C 1 "is_integer" F_is_integer := by
  refine fnG D sc_is_integer ?len (fun _ _ _ _ _ _ us hl => match us, hl with | [_], _ => rfl) (fun f cdv A outer s H E hr avs L Q h => ?_)
  case len =>
    rintro avs L Q ⟨i, rfl, _⟩
    rfl
  have nd := (sc_is_integer).nd
  have hu := hr.units
  have hu1 := hu_of hr
  have hu65 : (A.deeper (envOfC "is_integer" (defScope s_is_integer) s.heap.objs.size f cdv)).units + 65 < cLine := by
    have := hr.un
    omega
  obtain ⟨i, rfl, q⟩ := h
  refine ⟨_, _, (ass_one (as_ret (ae_and (ae_isi K rfl T.isi PyProof.Rows.boot_isinstance (ae_var 0) rfl T.int_ PyProof.Rows.boot_int) (ae_one (ae_not (ae_isi K rfl T.isi PyProof.Rows.boot_isinstance (ae_var 0) rfl T.bool_ PyProof.Rows.boot_bool)))))), ?_⟩
  exact ⟨.int i, true, rfl, kit_int_int, fun _ => ⟨.int i, false, rfl, kit_int_bool, q⟩, nofun⟩

def F_is_natural : List AV → LS → AK → Prop := fun avs L Q => ∃ i : Int, avs = [.d (.int i)] ∧ 0 ≤ i ∧ Q (.d (.bool true)) L
theorem ok_is_natural (T : Txt K mg C tk aR aA aP) (D : Def K mg "is_natural" s_is_natural) (G_is_integer : FnG P w K mg base C 1 "is_integer" F_is_integer) : FnG P w K mg base C 2 "is_natural" F_is_natural := by
  refine fnG D sc_is_natural ?len (fun _ _ _ _ _ _ us hl => match us, hl with | [_], _ => rfl) (fun f cdv A outer s H E hr avs L Q h => ?_)
  case len =>
    rintro avs L Q ⟨i, rfl, _⟩
    rfl
  have nd := (sc_is_natural).nd
  have hu := hr.units
  have hu1 := hu_of hr
  have hu65 : (A.deeper (envOfC "is_natural" (defScope s_is_natural) s.heap.objs.size f cdv)).units + 65 < cLine := by
    have := hr.un
    omega
  obtain ⟨i, rfl, h0, q⟩ := h
  refine ⟨_, _, (ass_one (as_ret (ae_and (ae_fn K G_is_integer (hr.mono (by first | decide | omega)) (aa_cons (ae_var 0) aa_nil)) (ae_one (ae_cmp ao_ge (ae_var 0) ae_int))))), ?_⟩
  refine ⟨i, rfl, fun _ => ?_, nofun⟩
  show Q (.d (.bool (decide (0 ≤ i)))) L
  rw [decide_eq_true h0]
  exact q

def F_is_list : List AV → LS → AK → Prop := fun avs L Q => ∃ d : PyData, avs = [.d d] ∧ (tyN d = "list" ∨ tyN d = "tuple") ∧ Q (.d (.bool true)) L
theorem ok_is_list (T : Txt K mg C tk aR aA aP) (D : Def K mg "is_list" s_is_list) : FnG P w K mg base C 1 "is_list" F_is_list := by
  refine fnG D sc_is_list ?len (fun _ _ _ _ _ _ us hl => match us, hl with | [_], _ => rfl) (fun f cdv A outer s H E hr avs L Q h => ?_)
  case len =>
    rintro avs L Q ⟨i, rfl, _⟩
    rfl
  have nd := (sc_is_list).nd
  have hu := hr.units
  have hu1 := hu_of hr
  have hu65 : (A.deeper (envOfC "is_list" (defScope s_is_list) s.heap.objs.size f cdv)).units + 65 < cLine := by
    have := hr.un
    omega
  obtain ⟨d, rfl, hd, q⟩ := h
  refine ⟨_, _, (ass_one (as_ret (ae_isiT K rfl T.isi PyProof.Rows.boot_isinstance (ae_var 0) (ptys_cons rfl T.list_ PyProof.Rows.boot_list (ptys_cons rfl T.tuple_ PyProof.Rows.boot_tuple ptys_nil)) (by decide)))), ?_⟩
  refine ⟨d, true, rfl, ?_, q⟩
  rcases hd with e | e
  · rw [e]
    exact kits_list
  · rw [e]
    exact kits_tuple

/-- a comprehension that changes nothing -/
theorem lc_filterT {α : Type} (xs : List α) (enc : α → AV) (keep : α → Bool) (val : α → PyData) {ai : AIT} {ag : AV → Env → (Env → Prop) → Prop} {at_ : ATT} {ae : ATE} {vs : List Nat} {env : Env} {L : LS} {Q : AK}
    (ha : ∀ R : List AV → LS → Prop, R (xs.map enc) L → ai env L R) (hl : xs.length < 100000)
    (ht : ∀ (x : α) (S1 : AK) (S0 : LS → Prop), x ∈ xs → (keep x = true → S1 (.d (val x)) L) → (keep x = false → S0 L) → ag (enc x) (wipeE env vs) fun env2 => at_ env2 L fun b L3 => (b = true → ae env2 L3 S1) ∧ (b = false → S0 L3))
    (hq : Q (.d (.list ((xs.filter keep).map val))) L) : aLc ai ag at_ ae vs env L Q := by
  refine aLc_by (ha _ ⟨by rw [List.length_map]; exact hl, fun i acc L' => L' = L ∧ acc = ((xs.take i).filter keep).map val, ⟨rfl, rfl⟩, ?_, ?_⟩)
  · rintro i av acc L' hi ⟨rfl, rfl⟩
    rw [List.getElem?_map] at hi
    obtain ⟨x, hx, rfl⟩ := Option.map_eq_some_iff.mp hi
    have e : xs.take (i + 1) = xs.take i ++ [x] := by
      rw [List.take_add_one, hx]
      rfl
    refine ht x _ _ (List.mem_of_getElem? hx) (fun hk => ?_) (fun hk => ?_)
    · refine ⟨rfl, ?_⟩
      rw [e, List.filter_append, List.map_append, List.filter_cons, if_pos hk]
      rfl
    · refine ⟨rfl, ?_⟩
      rw [e, List.filter_append, List.map_append, List.filter_cons, if_neg (by rw [hk]; decide)]
      show _ = _ ++ []
      rw [List.append_nil]
  · rintro acc L' ⟨rfl, rfl⟩
    rw [List.length_map, List.take_length]
    exact hq
theorem lc_mapT {α : Type} (xs : List α) (enc : α → AV) (val : α → PyData) {ai : AIT} {ag : AV → Env → (Env → Prop) → Prop} {at_ : ATT} {ae : ATE} {vs : List Nat} {env : Env} {L : LS} {Q : AK}
    (ha : ∀ R : List AV → LS → Prop, R (xs.map enc) L → ai env L R) (hl : xs.length < 100000)
    (ht : ∀ (x : α) (S1 : AK) (S0 : LS → Prop), x ∈ xs → S1 (.d (val x)) L → ag (enc x) (wipeE env vs) fun env2 => at_ env2 L fun b L3 => (b = true → ae env2 L3 S1) ∧ (b = false → S0 L3))
    (hq : Q (.d (.list (xs.map val))) L) : aLc ai ag at_ ae vs env L Q := by
  refine lc_filterT xs enc (fun _ => true) val ha hl (fun x S1 S0 hx h1 _ => ht x S1 S0 hx (h1 rfl)) ?_
  rw [List.filter_eq_self.mpr fun _ _ => rfl]
  exact hq
def okW (z : Str) : Prop := 1 ≤ z.length ∧ z.length ≤ 8 ∧ ∀ c ∈ z.cps.toList, c ∈ LET.cps.toList
def F_is_word : List AV → LS → AK → Prop := fun avs L Q => ∃ z : Str, avs = [.d (.str z)] ∧ okW z ∧ Q (.d (.bool true)) L
theorem ok_is_word (T : Txt K mg C tk aR aA aP) (D : Def K mg "is_word" s_is_word) : FnG P w K mg base C 1 "is_word" F_is_word := by
  refine fnG D sc_is_word ?len (fun _ _ _ _ _ _ us hl => match us, hl with | [_], _ => rfl) (fun f cdv A outer s H E hr avs L Q h => ?_)
  case len =>
    rintro avs L Q ⟨i, rfl, _⟩
    rfl
  have nd := (sc_is_word).nd
  have hu := hr.units
  have hu1 := hu_of hr
  have hu65 : (A.deeper (envOfC "is_word" (defScope s_is_word) s.heap.objs.size f cdv)).units + 65 < cLine := by
    have := hr.un
    omega
  obtain ⟨z, rfl, ⟨h1, h2, h3⟩, q⟩ := h
  refine ⟨_, _, (ass_one (as_ret (ae_and (ae_isi K rfl T.isi PyProof.Rows.boot_isinstance (ae_var 0) rfl T.str_ PyProof.Rows.boot_str) (ae_and (ae_chain ao_le ao_le ae_int (ae_callB ac_lenS rfl T.len_ PySem.boot_len (aa_cons (ae_var 0) aa_nil)) ae_int) (ae_one (ae_callB (ac_all K rfl) rfl T.all_ PyProof.Rows.boot_all (aa_cons (ae_lc [("sign", 1)] nd (ai_s (ae_var 0)) (by kernel_rfl) (fun _ _ _ _ _ => (ag_name 1 nd)) (fun _ _ _ _ _ => ats_nil) (fun _ _ _ _ _ => (ae_cmp ao_inS (ae_var 1) (ae_globS rfl T.letters)))) aa_nil))))))), ?_⟩
  refine ⟨.str z, true, rfl, kit_str_str, fun _ => ?_, nofun⟩
  refine ⟨by omega, fun _ => ⟨fun _ => ?_, fun e => ?_⟩, fun e => ?_⟩
  · have hs : z.cps.toList.length = z.length := by simp [Str.length]
    refine lc_mapT z.cps.toList (fun c => AV.d (.str ⟨#[c]⟩)) (fun _ => .bool true) (fun R r => r) (by rw [hs]; omega) (fun c S1 S0 hc r => ?_) ?_
    · refine ⟨fun _ => ?_, nofun⟩
      refine ⟨c, rfl, ?_⟩
      rw [decide_eq_true (h3 c hc)]
      exact r
    · refine ⟨z.cps.toList.map fun _ => true, ?_, ?_⟩
      · rw [List.map_map]
        rfl
      · have e : (z.cps.toList.map fun _ => true).all id = true := by simp
        rw [e]
        exact q
  · exact absurd (of_decide_eq_false e) (by omega)
  · exact absurd (of_decide_eq_false e) (by omega)

def F_is_part : List AV → LS → AK → Prop := fun avs L Q => ∃ (p : Part) (pg : Int) (a : Addr) (met : List Str), avs = [.d (encP p), .d (.int pg), .p a] ∧ L a = some ((met.map PyData.str).map AV.d) ∧
  okW p.w ∧ PyData.strOk p.w = true ∧ (∀ z ∈ met, PyData.strOk z = true) ∧ met.length ≤ 100 ∧ p.w ∉ met ∧ inV (.str p.r) RIGHTSV = true ∧ inV (.int p.al) ALIGNSV = true ∧ p.al ≤ pg ∧ 0 ≤ p.lo ∧ p.lo ≤ p.hi ∧ Q (.d (.bool true)) L
theorem eqv_int (a b : Int) : PyData.eqv (.int a) (.int b) = (a == b) := by simp [PyData.eqv]
theorem eqv_str (a b : Str) : PyData.eqv (.str a) (.str b) = (a == b) := by simp [PyData.eqv]
theorem shaped_int (a : Int) : SeqAt.shaped (.int a) = true := by simp [SeqAt.shaped, PyData.canLay0, PyData.depth]
theorem shaped_str {a : Str} (h : PyData.strOk a = true) : SeqAt.shaped (.str a) = true := by simp [SeqAt.shaped, PyData.canLay0, PyData.depth, h]
theorem shaped_bool (a : Bool) : SeqAt.shaped (.bool a) = true := by simp [SeqAt.shaped, PyData.canLay0, PyData.depth]
end
end VS

set_option Elab.async false
set_option linter.all false
set_option maxRecDepth 100000
set_option maxHeartbeats 4000000
set_option autoImplicit false
namespace VS
open PySem L2 PySem.Spec PyProof.Rows

def noPart : Part := ⟨"", "", 1, 0, 0, false⟩
def pt (ps : List Part) (k : Nat) : Part := ps.getD k noPart
def sz (ss : List Int) (k : Nat) : Int := ss.getD k 0
/-- the least multiple of s from e on -/
def up (s e : Int) : Int := e + (0 - e) % s
def stepAt (pg : Int) (ps : List Part) (k : Nat) : Int := if 0 < k ∧ (pt ps k).r ≠ (pt ps (k - 1)).r then pg else (pt ps k).al
def endAt (pg : Int) (ps : List Part) (ss : List Int) : Nat → Int
  | 0 => 0
  | k + 1 => up (stepAt pg ps k) (endAt pg ps ss k) + sz ss k
def adr (pg : Int) (ps : List Part) (ss : List Int) (k : Nat) : Int := up (stepAt pg ps k) (endAt pg ps ss k)
/-- what Plan takes, and what the law draws -/
structure OkPlan (pg : Int) (ps : List Part) : Prop where
  pgV : inV (.int pg) PAGESV = true
  w : ∀ p ∈ ps, okW p.w
  wS : ∀ p ∈ ps, PyData.strOk p.w = true
  rV : ∀ p ∈ ps, inV (.str p.r) RIGHTSV = true
  alV : ∀ p ∈ ps, inV (.int p.al) ALIGNSV = true
  alP : ∀ p ∈ ps, p.al ≤ pg
  lo0 : ∀ p ∈ ps, 0 ≤ p.lo
  lohi : ∀ p ∈ ps, p.lo ≤ p.hi
  hi1 : ∀ p ∈ ps, p.hi ≤ 1000
  nd : (ps.map Part.w).Nodup
  zz : ∀ k, k + 1 < ps.length → (pt ps k).z = true → (pt ps (k + 1)).z = false → (pt ps k).r ≠ (pt ps (k + 1)).r
  len1 : 1 ≤ ps.length
  len5 : ps.length ≤ 5
theorem inV_int {i : Int} : ∀ {ns : List Int}, inV (.int i) (ns.map V.int) = true → i ∈ ns
  | [], h => by simp [inV] at h
  | n :: ns, h => by
    have h : (eqV (V.int n) (V.int i) || inV (.int i) (ns.map V.int)) = true := h
    rw [Bool.or_eq_true] at h
    rcases h with h | h
    · have e : n = i := by simpa [eqV] using h
      rw [e]
      exact List.mem_cons_self
    · exact List.mem_cons_of_mem _ (inV_int h)
theorem inV_str {i : Str} : ∀ {ns : List Str}, inV (.str i) (ns.map V.str) = true → i ∈ ns
  | [], h => by simp [inV] at h
  | n :: ns, h => by
    have h : (eqV (V.str n) (V.str i) || inV (.str i) (ns.map V.str)) = true := h
    rw [Bool.or_eq_true] at h
    rcases h with h | h
    · have e : n = i := by simpa [eqV] using h
      rw [e]
      exact List.mem_cons_self
    · exact List.mem_cons_of_mem _ (inV_str h)
theorem al_of {i : Int} (h : inV (.int i) ALIGNSV = true) : i = 1 ∨ i = 2 ∨ i = 4 ∨ i = 8 ∨ i = 16 ∨ i = 32 ∨ i = 64 := by
  have q : i ∈ ([1, 2, 4, 8, 16, 32, 64] : List Int) := inV_int h
  simpa using q
theorem pg_of {i : Int} (h : inV (.int i) PAGESV = true) : i = 8 ∨ i = 16 ∨ i = 32 ∨ i = 64 := by
  have q : i ∈ ([8, 16, 32, 64] : List Int) := inV_int h
  simpa using q
theorem rights_ok {r : Str} (h : inV (.str r) RIGHTSV = true) : PyData.strOk r = true := by
  have q : r ∈ (["r", "rw", "rx"] : List Str) := inV_str h
  have e : ∀ z ∈ (["r", "rw", "rx"] : List Str), PyData.strOk z = true := by decide +kernel
  exact e r q
section
variable {pg : Int} {ps : List Part}
theorem OkPlan.pg0 (o : OkPlan pg ps) : 0 < pg := by
  have := pg_of o.pgV
  omega
theorem OkPlan.pg64 (o : OkPlan pg ps) : pg ≤ 64 := by
  have := pg_of o.pgV
  omega
theorem pt_mem {k : Nat} (h : k < ps.length) : pt ps k ∈ ps := by
  unfold pt
  rw [List.getD_eq_getElem?_getD, List.getElem?_eq_getElem h]
  exact List.getElem_mem h
theorem OkPlan.al0 (o : OkPlan pg ps) {k : Nat} (h : k < ps.length) : 0 < (pt ps k).al := by
  have := al_of (o.alV _ (pt_mem h))
  omega
theorem OkPlan.rS (o : OkPlan pg ps) {k : Nat} (h : k < ps.length) : PyData.strOk (pt ps k).r = true := rights_ok (o.rV _ (pt_mem h))
theorem pt_get {k : Nat} (h : k < ps.length) : ps[k]? = some (pt ps k) := by
  unfold pt
  rw [List.getD_eq_getElem?_getD, List.getElem?_eq_getElem h]
  rfl
theorem enc_get {k : Nat} (h : k < ps.length) : (encPs ps)[k]? = some (encP (pt ps k)) := by
  unfold encPs
  rw [List.getElem?_map, pt_get h]
  rfl
theorem enc_at {k : Nat} (h : k < ps.length) : atI (encPs ps) (k : Int) = some (encP (pt ps k)) := atI_nat (enc_get h)
theorem enc_at1 {k : Nat} (h : k < ps.length) (h0 : 0 < k) : atI (encPs ps) ((k : Int) - 1) = some (encP (pt ps (k - 1))) := by
  have e : (k : Int) - 1 = ((k - 1 : Nat) : Int) := by omega
  rw [e]
  exact enc_at (by omega)
theorem enc_len : (encPs ps).length = ps.length := by
  unfold encPs
  rw [List.length_map]
theorem stepAt_pos (o : OkPlan pg ps) {k : Nat} (h : k < ps.length) : 0 < stepAt pg ps k := by
  unfold stepAt
  split
  · exact o.pg0
  · exact o.al0 h
end
theorem dints_at {ns : List Int} {k : Nat} (h : k < ns.length) : atI (ns.map PyData.int) (k : Int) = some (.int (sz ns k)) := by
  refine atI_nat ?_
  rw [List.getElem?_map, List.getElem?_eq_getElem h]
  unfold sz
  rw [List.getD_eq_getElem?_getD, List.getElem?_eq_getElem h]
  rfl
theorem sz_get {ns : List Int} {k : Nat} (h : k < ns.length) : ns[k]? = some (sz ns k) := by
  unfold sz
  rw [List.getD_eq_getElem?_getD, List.getElem?_eq_getElem h]
  rfl
end VS

set_option Elab.async false
set_option linter.all false
set_option maxRecDepth 100000
set_option maxHeartbeats 4000000
set_option autoImplicit false
namespace VS
open PySem L2 PySem.Spec PyProof.Rows
section
variable {P : Program} {w : World} {K : PySem.W.Frag} {mg : Str → Option Value} {base : Heap} {C : Addr} {tk : Tok} {aR aA aP : Addr}

theorem any_str {x : Str} : ∀ {met : List Str}, x ∉ met → ((met.map PyData.str).any fun z => PyData.eqv z (.str x)) = false
  | [], _ => rfl
  | y :: r, h => by
    rw [List.map_cons, List.any_cons, any_str fun q => h (List.mem_cons_of_mem _ q), Bool.or_false, eqv_str]
    exact beq_eq_false_iff_ne.mpr fun e => h (by rw [e]; exact List.mem_cons_self)
theorem strs_lay : ∀ {met : List Str}, (∀ z ∈ met, PyData.strOk z = true) → PyData.canLayAll0 (met.map PyData.str) = true
  | [], _ => by simp [PyData.canLayAll0]
  | y :: r, h => by
    rw [List.map_cons]
    simp [PyData.canLayAll0, PyData.canLay0, h y List.mem_cons_self, strs_lay fun z hz => h z (List.mem_cons_of_mem _ hz)]
theorem strs_depth : ∀ (met : List Str), PyData.depthAll (met.map PyData.str) = 0
  | [] => by simp [PyData.depthAll]
  | y :: r => by
    rw [List.map_cons]
    simp [PyData.depthAll, PyData.depth, strs_depth r]
theorem shaped_strs {met : List Str} (h : ∀ z ∈ met, PyData.strOk z = true) : SeqAt.shaped (.list (met.map PyData.str)) = true := by
  simp [SeqAt.shaped, PyData.canLay0, PyData.depth, strs_lay h, strs_depth]
theorem view_p {L : LS} {a : Addr} {ds : List PyData} (h : L a = some (ds.map AV.d)) : view L (.p a) = some (.list ds) := by
  show ((L a).bind allD).map PyData.list = _
  rw [h]
  show (allD (ds.map AV.d)).map PyData.list = _
  rw [allD_map]
  rfl
theorem ok_is_part (T : Txt K mg C tk aR aA aP) (D : Def K mg "is_part" s_is_part) (G_is_integer : FnG P w K mg base C 1 "is_integer" F_is_integer) (G_is_natural : FnG P w K mg base C 2 "is_natural" F_is_natural)
    (G_is_list : FnG P w K mg base C 1 "is_list" F_is_list) (G_is_word : FnG P w K mg base C 1 "is_word" F_is_word) : FnG P w K mg base C 3 "is_part" F_is_part := by
  refine fnG D sc_is_part ?len (fun _ _ _ _ _ _ us hl => match us, hl with | [_, _, _], _ => rfl) (fun f cdv A outer s H E hr avs L Q h => ?_)
  case len =>
    rintro avs L Q ⟨p, pg, a, met, rfl, _⟩
    rfl
  have nd := (sc_is_part).nd
  have hu := hr.units
  have hu1 := hu_of hr
  have hu65 : (A.deeper (envOfC "is_part" (defScope s_is_part) s.heap.objs.size f cdv)).units + 65 < cLine := by
    have := hr.un
    omega
  obtain ⟨p, pg, a, met, rfl, hL, hw, hwS, hmS, hml, hn, hr1, ha1, hal, hlo, hhi, q⟩ := h
  refine ⟨_, _, (ass_cons (as_if (AW.toT (aw_or (at_not (at_val (ae_fn K G_is_list (hr.mono (by first | decide | omega)) (aa_cons (ae_var 0) aa_nil)))) (aw_or (at_cmp (ao_ne K hu) (ae_callB (ac_len K) rfl T.len_ PySem.boot_len (aa_cons (ae_var 0) aa_nil)) ae_int) (aw_or (at_not (at_val (ae_fn K G_is_word (hr.mono (by first | decide | omega)) (aa_cons (ae_ix (ai_tup K) (ae_var 0) ae_int) aa_nil)))) (aw_or1 (at_cmp (ao_in K hu65) (ae_ix (ai_tup K) (ae_var 0) ae_int) (ae_var 2))))))) (ass_one (as_ret ae_bl)) ass_nil)
      (ass_cons (as_asg (ae_var 0) (ag_tup K (n := 6) rfl (ags_cons (ag_name 3 nd) (ags_cons (ag_name 4 nd) (ags_cons (ag_name 5 nd) (ags_cons (ag_name 6 nd) (ags_cons (ag_name 7 nd) (ags_cons (ag_name 8 nd) ags_nil))))))))
      (ass_cons (as_if (AW.toT (aw_or (at_not (at_val (ae_isi K rfl T.isi PyProof.Rows.boot_isinstance (ae_var 4) rfl T.str_ PyProof.Rows.boot_str))) (aw_or (at_niK K rfl T.rights T.rightsQ (by decide +kernel) (ae_var 4)) (aw_or1 (at_not (at_val (ae_isi K rfl T.isi PyProof.Rows.boot_isinstance (ae_var 8) rfl T.bool_ PyProof.Rows.boot_bool))))))) (ass_one (as_ret ae_bl)) ass_nil)
      (ass_cons (as_if (AW.toT (aw_or (at_not (at_val (ae_fn K G_is_integer (hr.mono (by first | decide | omega)) (aa_cons (ae_var 5) aa_nil)))) (aw_or (at_niK K rfl T.aligns T.alignsQ (by decide +kernel) (ae_var 5)) (aw_or1 (at_cmp ao_gt (ae_var 5) (ae_var 1)))))) (ass_one (as_ret ae_bl)) ass_nil)
      (ass_one (as_ret (ae_and (ae_fn K G_is_natural (hr.mono (by first | decide | omega)) (aa_cons (ae_var 6) aa_nil)) (ae_and (ae_fn K G_is_natural (hr.mono (by first | decide | omega)) (aa_cons (ae_var 7) aa_nil)) (ae_one (ae_cmp ao_le (ae_var 6) (ae_var 7))))))))))), ?_⟩
  -- if not is_list(thing) or len(thing) != 6 or ..
  refine ⟨encP p, rfl, .inr rfl, nofun, fun _ => ?_⟩
  refine ⟨6, rfl, .int 6, .int 6, rfl, rfl, shaped_int 6, shaped_int 6, ?_⟩
  rw [eqv_int]
  refine ⟨nofun, fun _ => ?_⟩
  refine ⟨.str p.w, rfl, p.w, rfl, hw, nofun, fun _ => ?_⟩
  refine ⟨.str p.w, rfl, .str p.w, met.map PyData.str, rfl, view_p hL, shaped_str hwS, shaped_strs hmS, ?_⟩
  rw [any_str hn]
  refine ⟨nofun, fun _ => ?_⟩
  -- word, rights, align, least, most, zeros = thing
  refine ⟨rfl, ?_⟩
  -- if not isinstance(rights, str) or ..
  refine ⟨.str p.r, true, rfl, kit_str_str, nofun, fun _ => ?_⟩
  show (_ = true → _) ∧ (_ = false → _)
  rw [hr1]
  refine ⟨nofun, fun _ => ?_⟩
  refine ⟨.bool p.z, true, rfl, kit_bool_bool, nofun, fun _ => ?_⟩
  -- if not is_integer(align) or ..
  refine ⟨p.al, rfl, nofun, fun _ => ?_⟩
  show (_ = true → _) ∧ (_ = false → _)
  rw [ha1]
  refine ⟨nofun, fun _ => ?_⟩
  refine ⟨fun z => ?_, fun _ => ?_⟩
  · have z : decide (pg < p.al) = true := z
    rw [decide_eq_true_eq] at z
    omega
  refine ⟨p.lo, rfl, hlo, fun _ => ?_, nofun⟩
  refine ⟨p.hi, rfl, by omega, fun _ => ?_, nofun⟩
  show Q (.d (.bool (decide (p.lo ≤ p.hi)))) L
  rw [decide_eq_true hhi]
  exact q

def F_lifted : List AV → LS → AK → Prop := fun avs L Q => ∃ a s r : Int, avs = [.d (.int a), .d (.int s), .d (.int r)] ∧ 0 < s ∧ Q (.d (.int (a + (r - a) % s))) L
theorem ok_lifted (D : Def K mg "lifted" s_lifted) : FnG P w K mg base C 1 "lifted" F_lifted := by
  refine fnG D sc_lifted ?len (fun _ _ _ _ _ _ us hl => match us, hl with | [_, _, _], _ => rfl) (fun f cdv A outer s H E hr avs L Q h => ?_)
  case len =>
    rintro avs L Q ⟨p, pg, a, rfl, _⟩
    rfl
  have nd := (sc_lifted).nd
  have hu := hr.units
  have hu1 := hu_of hr
  have hu65 : (A.deeper (envOfC "lifted" (defScope s_lifted) s.heap.objs.size f cdv)).units + 65 < cLine := by
    have := hr.un
    omega
  obtain ⟨a, s, r, rfl, h0, q⟩ := h
  refine ⟨_, _, (ass_one (as_ret (ae_op ao_add (ae_var 0) (ae_op ao_mod (ae_op ao_sub (ae_var 2) (ae_var 0)) (ae_var 1))))), ?_⟩
  exact ⟨h0, q⟩

def F_lowest : List AV → LS → AK → Prop := fun avs L Q => ∃ (pg : Int) (ps : List Part) (k : Nat) (e : Int), avs = [.pl pg (encPs ps), .d (.int (k : Int)), .d (.int e)] ∧ OkPlan pg ps ∧ k < ps.length ∧ Q (.d (.int (up (stepAt pg ps k) e))) L
theorem ok_lowest (T : Txt K mg C tk aR aA aP) (D : Def K mg "lowest" s_lowest) (G_lifted : FnG P w K mg base C 1 "lifted" F_lifted) : FnG P w K mg base C 2 "lowest" F_lowest := by
  refine fnG D sc_lowest ?len (fun _ _ _ _ _ _ us hl => match us, hl with | [_, _, _], _ => rfl) (fun f cdv A outer s H E hr avs L Q h => ?_)
  case len =>
    rintro avs L Q ⟨p, pg, a, e, rfl, _⟩
    rfl
  have nd := (sc_lowest).nd
  have hu := hr.units
  have hu1 := hu_of hr
  have hu65 : (A.deeper (envOfC "lowest" (defScope s_lowest) s.heap.objs.size f cdv)).units + 65 < cLine := by
    have := hr.un
    omega
  obtain ⟨pg, ps, k, e, rfl, o, hk, q⟩ := h
  refine ⟨_, _, (ass_cons (as_set 3 nd (ae_parts K T.cl T.nParts (ae_var 0)))
      (ass_cons (as_if (AW.toT (aw_and (at_cmp ao_gt (ae_var 1) ae_int) (aw_and1 (at_cmp (ao_ne K hu) (ae_ix (ai_tup K) (ae_ix (ai_tup K) (ae_var 3) (ae_var 1)) ae_int) (ae_ix (ai_tup K) (ae_ix (ai_tup K) (ae_var 3) (ae_op ao_sub (ae_var 1) ae_int)) ae_int))))) (ass_one (as_ret (ae_fn K G_lifted (hr.mono (by first | decide | omega)) (aa_cons (ae_var 2) (aa_cons (ae_page K T.cl T.nPage (ae_var 0)) (aa_cons ae_int aa_nil)))))) ass_nil)
      (ass_one (as_ret (ae_fn K G_lifted (hr.mono (by first | decide | omega)) (aa_cons (ae_var 2) (aa_cons (ae_ix (ai_tup K) (ae_ix (ai_tup K) (ae_var 3) (ae_var 1)) ae_int) (aa_cons ae_int aa_nil)))))))), ?_⟩
  have fin : 0 < stepAt pg ps k := stepAt_pos o hk
  have two : (¬ (0 < k ∧ (pt ps k).r ≠ (pt ps (k - 1)).r)) → (∃ d, atI (encPs ps) (k : Int) = some d ∧ True) → 0 < (pt ps k).al ∧ Q (.d (.int (e + (0 - e) % (pt ps k).al))) L := fun hb _ => by
    unfold stepAt at q
    rw [if_neg hb] at q
    exact ⟨o.al0 hk, q⟩
  refine ⟨fun h0 => ?_, fun h0 => ⟨nofun, fun _ => ?_⟩⟩
  · have h0 : decide (0 < (k : Int)) = true := h0
    rw [decide_eq_true_eq] at h0
    have h0' : 0 < k := by omega
    refine ⟨_, enc_at hk, .str _, rfl, _, enc_at1 hk h0', .str _, rfl, .str _, .str _, rfl, rfl, shaped_str (o.rS hk), shaped_str (o.rS (by omega)), ?_⟩
    rw [eqv_str]
    refine ⟨fun hne => ?_, fun hne => ?_⟩
    · have hne : (!((pt ps k).r == (pt ps (k - 1)).r)) = true := hne
      have ne : (pt ps k).r ≠ (pt ps (k - 1)).r := by simpa using hne
      refine ⟨e, pg, 0, rfl, o.pg0, ?_⟩
      unfold stepAt at q
      rw [if_pos ⟨h0', ne⟩] at q
      exact q
    · have hne : (!((pt ps k).r == (pt ps (k - 1)).r)) = false := hne
      have eq : (pt ps k).r = (pt ps (k - 1)).r := by simpa using hne
      obtain ⟨t1, t2⟩ := two (fun z => z.2 eq) ⟨_, enc_at hk, trivial⟩
      exact ⟨_, enc_at hk, .int _, rfl, e, _, 0, rfl, t1, t2⟩
  · have h0 : decide (0 < (k : Int)) = false := h0
    rw [decide_eq_false_iff_not] at h0
    obtain ⟨t1, t2⟩ := two (fun z => h0 (by omega)) ⟨_, enc_at hk, trivial⟩
    exact ⟨_, enc_at hk, .int _, rfl, e, _, 0, rfl, t1, t2⟩
end
end VS

set_option Elab.async false
set_option linter.all false
set_option maxRecDepth 100000
set_option maxHeartbeats 4000000
set_option autoImplicit false
namespace VS
open PySem L2 PySem.Spec PyProof.Rows
section
variable {P : Program} {w : World} {K : PySem.W.Frag} {mg : Str → Option Value} {base : Heap} {C : Addr} {tk : Tok} {aR aA aP : Addr}

theorem enum_turn {ps : List Part} {i : Nat} {av : AV} (h : ((enumF 0 (encPs ps)).map AV.d)[i]? = some av) : i < ps.length ∧ av = .d (.tuple [.int (i : Nat), encP (pt ps i)]) := by
  rw [List.getElem?_map, enumF_get, Nat.zero_add] at h
  obtain ⟨d, h1, h2⟩ := Option.map_eq_some_iff.mp h
  obtain ⟨e, h3, h4⟩ := Option.map_eq_some_iff.mp h1
  have hi : i < ps.length := by
    have := (List.getElem?_eq_some_iff.mp h3).1
    rwa [enc_len] at this
  rw [enc_get hi] at h3
  cases h3
  subst h4 h2
  exact ⟨hi, rfl⟩
theorem enumD_turn {ds : List PyData} {i : Nat} {av : AV} (h : ((enumF 0 ds).map AV.d)[i]? = some av) : ∃ d, ds[i]? = some d ∧ av = .d (.tuple [.int (i : Nat), d]) := by
  rw [List.getElem?_map, enumF_get, Nat.zero_add] at h
  obtain ⟨d, h1, h2⟩ := Option.map_eq_some_iff.mp h
  obtain ⟨e, h3, h4⟩ := Option.map_eq_some_iff.mp h1
  subst h4 h2
  exact ⟨e, h3, rfl⟩
theorem enumF_map_len (ds : List PyData) : ((enumF 0 ds).map AV.d).length = ds.length := by
  rw [List.length_map, enumF_len]
/-- sizes: a list or a tuple of ints -/
def SzD (d : PyData) (ss : List Int) : Prop := d = .list (ss.map PyData.int) ∨ d = .tuple (ss.map PyData.int)
theorem ixQ_sz {d : PyData} {ss : List Int} (h : SzD d ss) {k : Nat} (hk : k < ss.length) {L : LS} {Q : AK} (q : Q (.d (.int (sz ss k))) L) : aIxQ (.d d) (.d (.int (k : Int))) L Q := by
  unfold aIxQ
  rcases h with rfl | rfl
  · exact ⟨_, dints_at hk, q⟩
  · exact ⟨_, dints_at hk, q⟩
def Adrs (pg : Int) (ps : List Part) (ss : List Int) (n : Nat) (acc : List PyData) : Prop := acc.length = n ∧ ∀ k, k < n → ∃ o, acc[k]? = some (.tuple [.int (adr pg ps ss k), o])
theorem Adrs.snoc {pg : Int} {ps : List Part} {ss : List Int} {n : Nat} {acc : List PyData} (h : Adrs pg ps ss n acc) (o : PyData) : Adrs pg ps ss (n + 1) (acc ++ [.tuple [.int (adr pg ps ss n), o]]) := by
  refine ⟨by rw [List.length_append, h.1]; rfl, fun k hk => ?_⟩
  by_cases e : k < n
  · obtain ⟨o', h'⟩ := h.2 k e
    exact ⟨o', by rw [List.getElem?_append_left (by rw [h.1]; exact e)]; exact h'⟩
  · have e2 : k = n := by omega
    subst e2
    exact ⟨o, by rw [List.getElem?_append_right (by rw [h.1]; exact Nat.le_refl _), h.1, Nat.sub_self]; rfl⟩
def F_earliest_of : List AV → LS → AK → Prop := fun avs L Q => ∃ (pg : Int) (ps : List Part) (d : PyData) (ss : List Int), avs = [.pl pg (encPs ps), .d d] ∧ OkPlan pg ps ∧ SzD d ss ∧ ss.length = ps.length ∧
  ∀ acc, Adrs pg ps ss ps.length acc → Q (.d (.list acc)) L
theorem ok_earliest_of (T : Txt K mg C tk aR aA aP) (D : Def K mg "earliest_of" s_earliest_of) (G_lifted : FnG P w K mg base C 1 "lifted" F_lifted) (G_lowest : FnG P w K mg base C 2 "lowest" F_lowest) : FnG P w K mg base C 3 "earliest_of" F_earliest_of := by
  refine fnG D sc_earliest_of ?len (fun _ _ _ _ _ _ us hl => match us, hl with | [_, _], _ => rfl) (fun f cdv A outer s H E hr avs L Q h => ?_)
  case len =>
    rintro avs L Q ⟨p, pg, a, e, rfl, _⟩
    rfl
  have nd := (sc_earliest_of).nd
  have hu := hr.units
  have hu1 := hu_of hr
  have hu65 : (A.deeper (envOfC "earliest_of" (defScope s_earliest_of) s.heap.objs.size f cdv)).units + 65 < cLine := by
    have := hr.un
    omega
  obtain ⟨pg, ps, d, ss, rfl, o, hd, hl, q⟩ := h
  refine ⟨_, _, (ass_cons (as_par3 2 3 4 rfl nd (aa_cons (ae_lstM aa_nil) (aa_cons ae_int (aa_cons ae_int aa_nil))))
      (ass_cons (as_for (ai_eT K rfl T.enumerate_ (aa_cons (ae_parts K T.cl T.nParts (ae_var 0)) aa_nil)) (ag_tup K (n := 2) rfl (ags_cons (ag_name 5 nd) (ags_cons (ag_name 6 nd) ags_nil))) (ass_cons (as_par 7 8 rfl nd (aa_cons (ae_fn K G_lowest (hr.mono (by first | decide | omega)) (aa_cons (ae_var 0) (aa_cons (ae_var 5) (aa_cons (ae_var 3) aa_nil)))) (aa_cons ae_non aa_nil)))
      (ass_cons (as_if (at_not (at_val (ae_ix (ai_tup K) (ae_var 6) ae_int))) (ass_cons (as_set 8 nd (ae_fn K G_lifted (hr.mono (by first | decide | omega)) (aa_cons (ae_var 4) (aa_cons (ae_page K T.cl T.nPage (ae_var 0)) (aa_cons (ae_var 7) aa_nil)))))
      (ass_one (as_set 4 nd (ae_op ao_add (ae_var 8) (ae_ix (ai_seq K) (ae_var 1) (ae_var 5)))))) ass_nil)
      (ass_cons (as_set 3 nd (ae_op ao_add (ae_var 7) (ae_ix (ai_seq K) (ae_var 1) (ae_var 5))))
      (ass_one (as_expr (ae_app K (ae_var 2) (aa_cons (ae_tup (aa_cons (ae_var 7) (aa_cons (ae_var 8) aa_nil))) aa_nil))))))))
      (ass_one (as_ret (ae_varF 2))))), ?_⟩
  refine ⟨Nat.zero_le _, fun a ha => ?_⟩
  refine aFor_of ((enumF 0 (encPs ps)).map AV.d) (fun i env' L' => ∃ (acc : List PyData) (bits : Int) (x5 x6 x7 x8 : Option AV), env' = [some (.pl pg (encPs ps)), some (.d d), some (.p a), some (.d (.int (endAt pg ps ss i))), some (.d (.int bits)), x5, x6, x7, x8] ∧
    L' = put L a (acc.map AV.d) ∧ Adrs pg ps ss i acc) (fun R r => r) ⟨[], 0, none, none, none, none, rfl, rfl, rfl, fun k hk => absurd hk (Nat.not_lt_zero _)⟩ ?_ ?_
  · rintro i av env' L' hi ⟨acc, bits, x5, x6, x7, x8, rfl, rfl, hacc⟩
    obtain ⟨hk, rfl⟩ := enum_turn hi
    have h5 := o.len5
    have hks : i < ss.length := by omega
    refine ⟨rfl, ?_⟩
    refine ⟨pg, ps, i, _, rfl, o, hk, ?_⟩
    refine ⟨.bool (pt ps i).z, rfl, fun hz => ?_, fun hz => ?_⟩
    · refine ⟨bits, pg, _, rfl, o.pg0, ?_⟩
      refine ixQ_sz hd hks ?_
      refine ixQ_sz hd hks ?_
      refine ⟨⟨_, put_same⟩, _, rfl, (by show (2 : Nat) ≤ 100000; decide), _, put_same, by rw [List.length_map, hacc.1]; omega, ?_⟩
      rw [put_put]
      exact ⟨_, _, _, _, _, _, rfl, by rw [List.map_append]; rfl, hacc.snoc _⟩
    · refine ixQ_sz hd hks ?_
      refine ⟨⟨_, put_same⟩, _, rfl, (by show (2 : Nat) ≤ 100000; decide), _, put_same, by rw [List.length_map, hacc.1]; omega, ?_⟩
      rw [put_put]
      exact ⟨_, _, _, _, _, _, rfl, by rw [List.map_append]; rfl, hacc.snoc _⟩
  · rintro env' L' ⟨acc, bits, x5, x6, x7, x8, rfl, rfl, hacc⟩
    rw [enumF_map_len, enc_len] at hacc
    refine ⟨acc, ?_, ?_⟩
    · rw [put_same]
      exact allD_map acc
    · rw [del_put ha]
      exact q acc hacc

def F_checked_sizes : List AV → LS → AK → Prop := fun avs L Q => ∃ (pg : Int) (ps : List Part) (d : PyData) (ss : List Int), avs = [.pl pg (encPs ps), .d d] ∧ OkPlan pg ps ∧ SzD d ss ∧ ss.length = ps.length ∧
  (∀ k, k < ps.length → (pt ps k).lo ≤ sz ss k ∧ sz ss k ≤ (pt ps k).hi) ∧ Q (.d (dInts ss)) L
theorem ok_checked_sizes (T : Txt K mg C tk aR aA aP) (D : Def K mg "checked_sizes" s_checked_sizes) (G_is_integer : FnG P w K mg base C 1 "is_integer" F_is_integer) (G_is_list : FnG P w K mg base C 1 "is_list" F_is_list) : FnG P w K mg base C 2 "checked_sizes" F_checked_sizes := by
  refine fnG D sc_checked_sizes ?len (fun _ _ _ _ _ _ us hl => match us, hl with | [_, _], _ => rfl) (fun f cdv A outer s H E hr avs L Q h => ?_)
  case len =>
    rintro avs L Q ⟨p, pg, a, e, rfl, _⟩
    rfl
  have nd := (sc_checked_sizes).nd
  have hu := hr.units
  have hu1 := hu_of hr
  have hu65 : (A.deeper (envOfC "checked_sizes" (defScope s_checked_sizes) s.heap.objs.size f cdv)).units + 65 < cLine := by
    have := hr.un
    omega
  obtain ⟨pg, ps, d, ss, rfl, o, hd, hl, hb, q⟩ := h
  have turn : ∀ (k : Nat) (d : PyData), (ss.map PyData.int)[k]? = some d → k < ss.length ∧ d = .int (sz ss k) := fun k d h => by
    rw [List.getElem?_map] at h
    obtain ⟨n, h1, h2⟩ := Option.map_eq_some_iff.mp h
    have hk := (List.getElem?_eq_some_iff.mp h1).1
    rw [sz_get hk] at h1
    cases h1
    exact ⟨hk, h2.symm⟩
  rcases hd with rfl | rfl
  · refine ⟨_, _, (ass_cons (as_if (at_not (at_val (ae_fn K G_is_list (hr.mono (by first | decide | omega)) (aa_cons (ae_var 1) aa_nil)))) (ass_one as_never) ass_nil)
      (ass_cons (as_set 2 nd (ae_parts K T.cl T.nParts (ae_var 0)))
      (ass_cons (as_for (ai_e K rfl T.enumerate_ (aa_cons (ae_var 1) aa_nil)) (ag_tup K (n := 2) rfl (ags_cons (ag_name 3 nd) (ags_cons (ag_name 4 nd) ags_nil))) (ass_one (as_if (AW.toT (aw_or (at_cmp ao_ge (ae_var 3) (ae_callB (ac_len K) rfl T.len_ PySem.boot_len (aa_cons (ae_var 2) aa_nil))) (aw_or (at_not (at_val (ae_fn K G_is_integer (hr.mono (by first | decide | omega)) (aa_cons (ae_var 4) aa_nil)))) (aw_or1 (at_not (at_chain ao_le ao_le (ae_ix (ai_tup K) (ae_ix (ai_tup K) (ae_var 2) (ae_var 3)) ae_int) (ae_var 4) (ae_ix (ai_tup K) (ae_ix (ai_tup K) (ae_var 2) (ae_var 3)) ae_int))))))) (ass_one as_never) ass_nil)))
      (ass_cons (as_if (at_cmp ao_lt (ae_callB (ac_len K) rfl T.len_ PySem.boot_len (aa_cons (ae_var 1) aa_nil)) (ae_callB (ac_len K) rfl T.len_ PySem.boot_len (aa_cons (ae_var 2) aa_nil))) (ass_one as_never) ass_nil)
      (ass_one (as_ret (ae_callTy (ac_listOf K) rfl T.list_ PyProof.Rows.boot_list (aa_cons (ae_var 1) aa_nil)))))))), ?_⟩
    refine ⟨_, rfl, .inl rfl, nofun, fun _ => ?_⟩
    refine aFor_of ((enumF 0 (ss.map PyData.int)).map AV.d) (fun i env' L' => ∃ (x3 x4 : Option AV), env' = [some (.pl pg (encPs ps)), some (.d (.list (ss.map PyData.int))), some (.d (.tuple (encPs ps))), x3, x4] ∧ L' = L) (fun R r => r) ⟨none, none, rfl, rfl⟩ ?_ ?_
    · rintro i av env' L' hi ⟨x3, x4, rfl, rfl⟩
      obtain ⟨d, hd, rfl⟩ := enumD_turn hi
      obtain ⟨hk, rfl⟩ := turn i d hd
      have hkp : i < ps.length := by omega
      obtain ⟨b1, b2⟩ := hb i hkp
      refine ⟨rfl, ?_⟩
      refine ⟨_, rfl, ?_⟩
      rw [enc_len]
      refine ⟨fun h => ?_, fun _ => ?_⟩
      · have h := of_decide_eq_true h
        omega
      refine ⟨_, rfl, nofun, fun _ => ?_⟩
      refine ⟨_, enc_at hkp, _, rfl, fun _ => ?_, fun h => absurd b1 (of_decide_eq_false h)⟩
      refine ⟨_, enc_at hkp, _, rfl, ?_⟩
      refine ⟨fun h => ?_, fun _ => ⟨_, _, rfl, rfl⟩⟩
      have h : (!decide (sz ss i ≤ (pt ps i).hi)) = true := h
      simp at h
      omega
    · rintro env' L' ⟨x3, x4, rfl, rfl⟩
      refine ⟨_, rfl, _, rfl, ?_⟩
      rw [enc_len, List.length_map]
      refine ⟨fun h => ?_, fun _ => q⟩
      have h := of_decide_eq_true h
      omega
  · refine ⟨_, _, (ass_cons (as_if (at_not (at_val (ae_fn K G_is_list (hr.mono (by first | decide | omega)) (aa_cons (ae_var 1) aa_nil)))) (ass_one as_never) ass_nil)
      (ass_cons (as_set 2 nd (ae_parts K T.cl T.nParts (ae_var 0)))
      (ass_cons (as_for (ai_eT K rfl T.enumerate_ (aa_cons (ae_var 1) aa_nil)) (ag_tup K (n := 2) rfl (ags_cons (ag_name 3 nd) (ags_cons (ag_name 4 nd) ags_nil))) (ass_one (as_if (AW.toT (aw_or (at_cmp ao_ge (ae_var 3) (ae_callB (ac_len K) rfl T.len_ PySem.boot_len (aa_cons (ae_var 2) aa_nil))) (aw_or (at_not (at_val (ae_fn K G_is_integer (hr.mono (by first | decide | omega)) (aa_cons (ae_var 4) aa_nil)))) (aw_or1 (at_not (at_chain ao_le ao_le (ae_ix (ai_tup K) (ae_ix (ai_tup K) (ae_var 2) (ae_var 3)) ae_int) (ae_var 4) (ae_ix (ai_tup K) (ae_ix (ai_tup K) (ae_var 2) (ae_var 3)) ae_int))))))) (ass_one as_never) ass_nil)))
      (ass_cons (as_if (at_cmp ao_lt (ae_callB (ac_len K) rfl T.len_ PySem.boot_len (aa_cons (ae_var 1) aa_nil)) (ae_callB (ac_len K) rfl T.len_ PySem.boot_len (aa_cons (ae_var 2) aa_nil))) (ass_one as_never) ass_nil)
      (ass_one (as_ret (ae_callTy (ac_listOf K) rfl T.list_ PyProof.Rows.boot_list (aa_cons (ae_var 1) aa_nil)))))))), ?_⟩
    refine ⟨_, rfl, .inr rfl, nofun, fun _ => ?_⟩
    refine aFor_of ((enumF 0 (ss.map PyData.int)).map AV.d) (fun i env' L' => ∃ (x3 x4 : Option AV), env' = [some (.pl pg (encPs ps)), some (.d (.tuple (ss.map PyData.int))), some (.d (.tuple (encPs ps))), x3, x4] ∧ L' = L) (fun R r => r) ⟨none, none, rfl, rfl⟩ ?_ ?_
    · rintro i av env' L' hi ⟨x3, x4, rfl, rfl⟩
      obtain ⟨d, hd, rfl⟩ := enumD_turn hi
      obtain ⟨hk, rfl⟩ := turn i d hd
      have hkp : i < ps.length := by omega
      obtain ⟨b1, b2⟩ := hb i hkp
      refine ⟨rfl, ?_⟩
      refine ⟨_, rfl, ?_⟩
      rw [enc_len]
      refine ⟨fun h => ?_, fun _ => ?_⟩
      · have h := of_decide_eq_true h
        omega
      refine ⟨_, rfl, nofun, fun _ => ?_⟩
      refine ⟨_, enc_at hkp, _, rfl, fun _ => ?_, fun h => absurd b1 (of_decide_eq_false h)⟩
      refine ⟨_, enc_at hkp, _, rfl, ?_⟩
      refine ⟨fun h => ?_, fun _ => ⟨_, _, rfl, rfl⟩⟩
      have h : (!decide (sz ss i ≤ (pt ps i).hi)) = true := h
      simp at h
      omega
    · rintro env' L' ⟨x3, x4, rfl, rfl⟩
      refine ⟨_, rfl, _, rfl, ?_⟩
      rw [enc_len, List.length_map]
      refine ⟨fun h => ?_, fun _ => q⟩
      have h := of_decide_eq_true h
      omega

def pagesM (pg e : Int) : Int := up pg e / pg
def F_pages_up_to : List AV → LS → AK → Prop := fun avs L Q => ∃ (pg : Int) (ps : List Part) (e : Int), avs = [.pl pg (encPs ps), .d (.int e)] ∧ OkPlan pg ps ∧ Q (.d (.int (pagesM pg e))) L
theorem ok_pages_up_to (T : Txt K mg C tk aR aA aP) (D : Def K mg "pages_up_to" s_pages_up_to) (G_lifted : FnG P w K mg base C 1 "lifted" F_lifted) : FnG P w K mg base C 2 "pages_up_to" F_pages_up_to := by
  refine fnG D sc_pages_up_to ?len (fun _ _ _ _ _ _ us hl => match us, hl with | [_, _], _ => rfl) (fun f cdv A outer s H E hr avs L Q h => ?_)
  case len =>
    rintro avs L Q ⟨p, pg, a, rfl, _⟩
    rfl
  have nd := (sc_pages_up_to).nd
  have hu := hr.units
  have hu1 := hu_of hr
  have hu65 : (A.deeper (envOfC "pages_up_to" (defScope s_pages_up_to) s.heap.objs.size f cdv)).units + 65 < cLine := by
    have := hr.un
    omega
  obtain ⟨pg, ps, e, rfl, o, q⟩ := h
  have h64 := o.pg64
  have h0 := o.pg0
  refine ⟨_, _, (ass_one (as_ret (ae_op ao_fdiv (ae_fn K G_lifted (hr.mono (by first | decide | omega)) (aa_cons (ae_var 1) (aa_cons (ae_page K T.cl T.nPage (ae_var 0)) (aa_cons ae_int aa_nil)))) (ae_page K T.cl T.nPage (ae_var 0))))), ?_⟩
  exact ⟨e, pg, 0, rfl, h0, ⟨h0, by omega⟩, q⟩

/-- the end of parts in an order, from a page's begin on -/
def eor (ps : List Part) (ss : List Int) (e : Int) : List Nat → Int
  | [] => e
  | k :: r => eor ps ss (up (pt ps k).al e + sz ss k) r
theorem eor_snoc (ps : List Part) (ss : List Int) : ∀ (r : List Nat) (e : Int) (k : Nat), eor ps ss e (r ++ [k]) = up (pt ps k).al (eor ps ss e r) + sz ss k
  | [], _, _ => rfl
  | _ :: r, _, k => eor_snoc ps ss r _ k
def nats (ks : List Nat) : List Int := ks.map fun (k : Nat) => (k : Int)
def F_end_of_run : List AV → LS → AK → Prop := fun avs L Q => ∃ (pg : Int) (ps : List Part) (ss : List Int) (ks : List Nat), avs = [.pl pg (encPs ps), .d (dInts ss), .d (dInts (nats ks))] ∧ OkPlan pg ps ∧ ss.length = ps.length ∧ (∀ k ∈ ks, k < ps.length) ∧ ks.length ≤ 1000 ∧ Q (.d (.int (eor ps ss 0 ks))) L
theorem nats_map (ks : List Nat) : ((nats ks).map PyData.int).map AV.d = ks.map fun (k : Nat) => AV.d (.int (k : Int)) := by
  unfold nats
  rw [List.map_map, List.map_map]
  rfl
theorem take_succ {α : Type} {xs : List α} {i : Nat} {x : α} (h : xs[i]? = some x) : xs.take (i + 1) = xs.take i ++ [x] := by
  rw [List.take_add_one, h]
  rfl
theorem ok_end_of_run (T : Txt K mg C tk aR aA aP) (D : Def K mg "end_of_run" s_end_of_run) (G_lifted : FnG P w K mg base C 1 "lifted" F_lifted) : FnG P w K mg base C 2 "end_of_run" F_end_of_run := by
  refine fnG D sc_end_of_run ?len (fun _ _ _ _ _ _ us hl => match us, hl with | [_, _, _], _ => rfl) (fun f cdv A outer s H E hr avs L Q h => ?_)
  case len =>
    rintro avs L Q ⟨p, pg, a, e, rfl, _⟩
    rfl
  have nd := (sc_end_of_run).nd
  have hu := hr.units
  have hu1 := hu_of hr
  have hu65 : (A.deeper (envOfC "end_of_run" (defScope s_end_of_run) s.heap.objs.size f cdv)).units + 65 < cLine := by
    have := hr.un
    omega
  obtain ⟨pg, ps, ss, ks, rfl, o, hl, hk, hz, q⟩ := h
  refine ⟨_, _, (ass_cons (as_set 3 nd ae_int)
      (ass_cons (as_for (ai_l K (ae_var 2)) (ag_name 4 nd) (ass_one (as_set 3 nd (ae_op ao_add (ae_fn K G_lifted (hr.mono (by first | decide | omega)) (aa_cons (ae_var 3) (aa_cons (ae_ix (ai_tup K) (ae_ix (ai_tup K) (ae_parts K T.cl T.nParts (ae_var 0)) (ae_var 4)) ae_int) (aa_cons ae_int aa_nil)))) (ae_ix (ai_list K) (ae_var 1) (ae_var 4))))))
      (ass_one (as_ret (ae_var 3))))), ?_⟩
  refine aFor_of (ks.map fun (k : Nat) => AV.d (.int (k : Int))) (fun i env' L' => ∃ (x4 : Option AV), env' = [some (.pl pg (encPs ps)), some (.d (dInts ss)), some (.d (dInts (nats ks))), some (.d (.int (eor ps ss 0 (ks.take i)))), x4] ∧ L' = L) (fun R r => by rw [← nats_map] at r; exact r) ⟨none, rfl, rfl⟩ ?_ ?_
  · rintro i av env' L' hi ⟨x4, rfl, rfl⟩
    rw [List.getElem?_map] at hi
    obtain ⟨k, h1, rfl⟩ := Option.map_eq_some_iff.mp hi
    have hkp := hk k (List.mem_of_getElem? h1)
    have hks : k < ss.length := by omega
    refine ⟨_, enc_at hkp, _, rfl, _, _, _, rfl, o.al0 hkp, ?_⟩
    refine ⟨_, dints_at hks, some (.d (.int (k : Int))), ?_, rfl⟩
    rw [take_succ h1, eor_snoc]
    rfl
  · rintro env' L' ⟨x4, rfl, rfl⟩
    rw [List.length_map, List.take_length]
    exact q

def lowsOf (ps : List Part) : List Int := ps.map Part.lo
def highsOf (ps : List Part) : List Int := ps.map Part.hi
def F_leasts : List AV → LS → AK → Prop := fun avs L Q => ∃ (pg : Int) (ps : List Part), avs = [.pl pg (encPs ps)] ∧ OkPlan pg ps ∧ Q (.d (dInts (lowsOf ps))) L
def F_mosts : List AV → LS → AK → Prop := fun avs L Q => ∃ (pg : Int) (ps : List Part), avs = [.pl pg (encPs ps)] ∧ OkPlan pg ps ∧ Q (.d (dInts (highsOf ps))) L
theorem encPs_av (ps : List Part) : (encPs ps).map AV.d = ps.map fun p => AV.d (encP p) := by
  unfold encPs
  rw [List.map_map]
  rfl
theorem ok_leasts (T : Txt K mg C tk aR aA aP) (D : Def K mg "leasts" s_leasts) : FnG P w K mg base C 1 "leasts" F_leasts := by
  refine fnG D sc_leasts ?len (fun _ _ _ _ _ _ us hl => match us, hl with | [_], _ => rfl) (fun f cdv A outer s H E hr avs L Q h => ?_)
  case len =>
    rintro avs L Q ⟨p, pg, rfl, _⟩
    rfl
  have nd := (sc_leasts).nd
  have hu := hr.units
  have hu1 := hu_of hr
  have hu65 : (A.deeper (envOfC "leasts" (defScope s_leasts) s.heap.objs.size f cdv)).units + 65 < cLine := by
    have := hr.un
    omega
  obtain ⟨pg, ps, rfl, o, q⟩ := h
  have h5 := o.len5
  refine ⟨_, _, (ass_one (as_ret (ae_lc [("part", 1)] nd (ai_t K (ae_parts K T.cl T.nParts (ae_var 0))) (by kernel_rfl) (fun _ _ _ _ _ => (ag_name 1 nd)) (fun _ _ _ _ _ => ats_nil) (fun _ _ _ _ _ => (ae_ix (ai_tup K) (ae_var 1) ae_int))))), ?_⟩
  refine lc_mapT ps (fun p => AV.d (encP p)) (fun p => .int p.lo) (fun R r => by rw [← encPs_av] at r; exact r) (by omega) (fun p S1 S0 hp r => ⟨fun _ => ⟨_, rfl, r⟩, nofun⟩) ?_
  unfold dInts lowsOf at q
  rw [List.map_map] at q
  exact q
theorem ok_mosts (T : Txt K mg C tk aR aA aP) (D : Def K mg "mosts" s_mosts) : FnG P w K mg base C 1 "mosts" F_mosts := by
  refine fnG D sc_mosts ?len (fun _ _ _ _ _ _ us hl => match us, hl with | [_], _ => rfl) (fun f cdv A outer s H E hr avs L Q h => ?_)
  case len =>
    rintro avs L Q ⟨p, pg, rfl, _⟩
    rfl
  have nd := (sc_mosts).nd
  have hu := hr.units
  have hu1 := hu_of hr
  have hu65 : (A.deeper (envOfC "mosts" (defScope s_mosts) s.heap.objs.size f cdv)).units + 65 < cLine := by
    have := hr.un
    omega
  obtain ⟨pg, ps, rfl, o, q⟩ := h
  have h5 := o.len5
  refine ⟨_, _, (ass_one (as_ret (ae_lc [("part", 1)] nd (ai_t K (ae_parts K T.cl T.nParts (ae_var 0))) (by kernel_rfl) (fun _ _ _ _ _ => (ag_name 1 nd)) (fun _ _ _ _ _ => ats_nil) (fun _ _ _ _ _ => (ae_ix (ai_tup K) (ae_var 1) ae_int))))), ?_⟩
  refine lc_mapT ps (fun p => AV.d (encP p)) (fun p => .int p.hi) (fun R r => by rw [← encPs_av] at r; exact r) (by omega) (fun p S1 S0 hp r => ⟨fun _ => ⟨_, rfl, r⟩, nofun⟩) ?_
  unfold dInts highsOf at q
  rw [List.map_map] at q
  exact q

def F_number_of : List AV → LS → AK → Prop := fun avs L Q => ∃ (pg : Int) (ps : List Part) (k : Nat), avs = [.pl pg (encPs ps), .d (.str (pt ps k).w)] ∧ OkPlan pg ps ∧ k < ps.length ∧ Q (.d (.int (k : Int))) L
theorem nd_w {pg : Int} {ps : List Part} (o : OkPlan pg ps) {i k : Nat} (hi : i < ps.length) (hk : k < ps.length) (e : (pt ps i).w = (pt ps k).w) : i = k := by
  have h1 : (ps.map Part.w)[i]? = some (pt ps i).w := by rw [List.getElem?_map, pt_get hi]; rfl
  have h2 : (ps.map Part.w)[k]? = some (pt ps k).w := by rw [List.getElem?_map, pt_get hk]; rfl
  rw [← e] at h2
  exact nd_ix o.nd h1 h2
theorem ok_number_of (T : Txt K mg C tk aR aA aP) (D : Def K mg "number_of" s_number_of) (G_is_word : FnG P w K mg base C 1 "is_word" F_is_word) : FnG P w K mg base C 2 "number_of" F_number_of := by
  refine fnG D sc_number_of ?len (fun _ _ _ _ _ _ us hl => match us, hl with | [_, _], _ => rfl) (fun f cdv A outer s H E hr avs L Q h => ?_)
  case len =>
    rintro avs L Q ⟨p, pg, a, rfl, _⟩
    rfl
  have nd := (sc_number_of).nd
  have hu := hr.units
  have hu1 := hu_of hr
  have hu65 : (A.deeper (envOfC "number_of" (defScope s_number_of) s.heap.objs.size f cdv)).units + 65 < cLine := by
    have := hr.un
    omega
  obtain ⟨pg, ps, k, rfl, o, hk, q⟩ := h
  refine ⟨_, _, (ass_cons (as_for (ai_eT K rfl T.enumerate_ (aa_cons (ae_parts K T.cl T.nParts (ae_var 0)) aa_nil)) (ag_tup K (n := 2) rfl (ags_cons (ag_name 2 nd) (ags_cons (ag_name 3 nd) ags_nil))) (ass_one (as_if (AW.toT (aw_and (at_val (ae_fn K G_is_word (hr.mono (by first | decide | omega)) (aa_cons (ae_var 1) aa_nil))) (aw_and1 (at_cmp (ao_eq K hu) (ae_ix (ai_tup K) (ae_var 3) ae_int) (ae_var 1))))) (ass_one (as_ret (ae_var 2))) ass_nil)))
      (ass_one as_never)), ?_⟩
  refine aFor_of ((enumF 0 (encPs ps)).map AV.d) (fun i env' L' => ∃ (x2 x3 : Option AV), env' = [some (.pl pg (encPs ps)), some (.d (.str (pt ps k).w)), x2, x3] ∧ L' = L ∧ i ≤ k) (fun R r => r) ⟨none, none, rfl, rfl, Nat.zero_le _⟩ ?_ ?_
  · rintro i av env' L' hi ⟨x2, x3, rfl, rfl, hik⟩
    obtain ⟨hip, rfl⟩ := enum_turn hi
    refine ⟨rfl, ?_⟩
    refine ⟨_, rfl, o.w _ (pt_mem hk), fun _ => ?_, nofun⟩
    refine ⟨_, rfl, _, _, rfl, rfl, shaped_str (o.wS _ (pt_mem hip)), shaped_str (o.wS _ (pt_mem hk)), ?_⟩
    rw [eqv_str]
    refine ⟨fun h => ?_, fun h => ⟨_, _, rfl, rfl, ?_⟩⟩
    · have e := nd_w o hip hk (by simpa using h)
      subst e
      exact q
    · have ne : (pt ps i).w ≠ (pt ps k).w := by
        have h : ((pt ps i).w == (pt ps k).w) = false := h
        simpa using h
      have : i ≠ k := fun e => ne (by rw [e])
      omega
  · rintro env' L' ⟨x2, x3, rfl, rfl, hik⟩
    rw [enumF_map_len, enc_len] at hik
    exact absurd hik (by omega)
end
end VS

set_option Elab.async false
set_option linter.all false
set_option maxRecDepth 100000
set_option maxHeartbeats 4000000
set_option autoImplicit false
namespace VS
open PySem L2 PySem.Spec PyProof.Rows

/-! ### all orders -/
def ords {α : Type} : Nat → List α → List (List α)
  | 0, _ => [[]]
  | n + 1, l => if l.isEmpty then [[]] else (List.range l.length).flatMap fun i => (l[i]?).elim [] fun x => (ords n (l.take i ++ l.drop (i + 1))).map (x :: ·)
theorem flatMap_succ {α : Type} (f : Nat → List α) (i : Nat) : (List.range (i + 1)).flatMap f = (List.range i).flatMap f ++ f i := by
  rw [List.range_succ, List.flatMap_append, List.flatMap_cons, List.flatMap_nil, List.append_nil]
/-- the numbers of orders are small -/
def fac : Nat → Nat
  | 0 => 1
  | n + 1 => (n + 1) * fac n
theorem flatMap_len_le {α : Type} (f : Nat → List α) (b : Nat) : ∀ n : Nat, (∀ i, i < n → (f i).length ≤ b) → ((List.range n).flatMap f).length ≤ n * b
  | 0, _ => by simp
  | n + 1, h => by
    rw [flatMap_succ, List.length_append, Nat.succ_mul]
    have h1 := flatMap_len_le f b n fun i hi => h i (Nat.lt_succ_of_lt hi)
    have h2 := h n (Nat.lt_succ_self n)
    omega
theorem ords_len {α : Type} : ∀ (n : Nat) (l : List α), l.length ≤ n → (ords n l).length ≤ fac n
  | 0, _, _ => by simp [ords, fac]
  | n + 1, l, h => by
    unfold ords
    split
    · show 1 ≤ (n + 1) * fac n
      have : 1 ≤ fac n := by
        clear h
        induction n with
        | zero => exact Nat.le_refl _
        | succ n ih =>
          show 1 ≤ (n + 1) * fac n
          exact Nat.le_trans ih (Nat.le_mul_of_pos_left _ (Nat.succ_pos n))
      exact Nat.le_trans this (Nat.le_mul_of_pos_left _ (Nat.succ_pos n))
    · refine Nat.le_trans (flatMap_len_le _ (fac n) l.length fun i hi => ?_) (Nat.mul_le_mul_right _ h)
      rw [List.getElem?_eq_getElem hi]
      show (List.map _ _).length ≤ _
      rw [List.length_map]
      refine ords_len n _ ?_
      rw [List.length_append, List.length_take, List.length_drop]
      omega
theorem ords_mem_len {α : Type} : ∀ (m : Nat) (l : List α) (r : List α), r ∈ ords m l → r.length ≤ m
  | 0, l, r, h => by
    simp [ords] at h
    rw [h]
    exact Nat.le_refl _
  | m + 1, l, r, h => by
    unfold ords at h
    split at h
    · simp at h
      rw [h]
      exact Nat.zero_le _
    · obtain ⟨j, hj, h2⟩ := List.mem_flatMap.mp h
      rw [List.getElem?_eq_getElem (List.mem_range.mp hj)] at h2
      obtain ⟨y, h3, rfl⟩ := List.mem_map.mp h2
      have := ords_mem_len m _ _ h3
      rw [List.length_cons]
      omega
theorem cut_pre {α : Type} (xs : List α) (i : Nat) (h : i ≤ xs.length) : cutD xs none (some (i : Int)) = xs.take i := by
  unfold cutD
  rw [HT.sIx_none, HT.sIx_nat, List.drop_zero, Nat.sub_zero, Nat.min_eq_left h]
theorem cut_suf {α : Type} (xs : List α) (i : Nat) (h : i ≤ xs.length) : cutD xs (some (i : Int)) none = xs.drop i := by
  unfold cutD
  rw [HT.sIx_none, HT.sIx_nat, Nat.min_eq_left h]
  exact List.take_of_length_le (by rw [List.length_drop]; omega)
theorem dInts_shaped (ns : List Int) : SeqAt.shaped (dInts ns) = true := by
  have h1 : ∀ ns : List Int, PyData.canLayAll0 (ns.map PyData.int) = true := fun ns => by
    induction ns with
    | nil => simp [PyData.canLayAll0]
    | cons n r ih =>
      rw [List.map_cons]
      simp [PyData.canLayAll0, PyData.canLay0, ih]
  have h2 : ∀ ns : List Int, PyData.depthAll (ns.map PyData.int) = 0 := fun ns => by
    induction ns with
    | nil => simp [PyData.depthAll]
    | cons n r ih =>
      rw [List.map_cons]
      simp [PyData.depthAll, PyData.depth, ih]
  simp [SeqAt.shaped, dInts, PyData.canLay0, PyData.depth, h1, h2]
theorem eqv_nil (ns : List Int) : PyData.eqv (dInts ns) (.list []) = ns.isEmpty := by
  cases ns with
  | nil => simp [dInts, PyData.eqv, PyData.eqvAll]
  | cons n r => simp [dInts, PyData.eqv, PyData.eqvAll]
theorem dInts_take (ns : List Int) (i : Nat) : (ns.map PyData.int).take i = (ns.take i).map PyData.int := by rw [List.map_take]
theorem dLists_app (a b : List (List Int)) : (a.map dInts) ++ (b.map dInts) = (a ++ b).map dInts := by rw [List.map_append]
section
variable {P : Program} {w : World} {K : PySem.W.Frag} {mg : Str → Option Value} {base : Heap} {C : Addr} {tk : Tok} {aR aA aP : Addr}
def F_all_orders (n : Nat) : List AV → LS → AK → Prop := fun avs L Q => ∃ ns : List Int, avs = [.d (dInts ns)] ∧ ns.length ≤ n ∧ Q (.d (dLists (ords n ns))) L
theorem ords_step {n : Nat} {ns : List Int} {i : Nat} {x : Int} (hx : ns[i]? = some x) : ((ns[i]?).elim [] fun x => (ords n (ns.take i ++ ns.drop (i + 1))).map (x :: ·)) = (ords n (ns.take i ++ ns.drop (i + 1))).map (x :: ·) := by rw [hx]; rfl
theorem sum_small {n m : Nat} (h : n ≤ 5) (l : Nat) (hm : m ≤ l * fac n) (hl : l ≤ 6) : m ≤ 5000 := by
  have h1 : fac n ≤ 120 := by
    rcases Nat.lt_or_ge n 6 with h6 | h6
    · have : n = 0 ∨ n = 1 ∨ n = 2 ∨ n = 3 ∨ n = 4 ∨ n = 5 := by omega
      rcases this with rfl | rfl | rfl | rfl | rfl | rfl <;> decide
    · omega
  have h2 : l * fac n ≤ 6 * 120 := Nat.mul_le_mul hl h1
  omega
theorem ok_all_orders0 (T : Txt K mg C tk aR aA aP) (D : Def K mg "all_orders" s_all_orders) : FnG P w K mg base C 1 "all_orders" (F_all_orders 0) := by
  refine fnG D sc_all_orders ?len (fun _ _ _ _ _ _ us hl => match us, hl with | [_], _ => rfl) (fun f cdv A outer s H E hr avs L Q h => ?_)
  case len =>
    rintro avs L Q ⟨ns, rfl, _⟩
    rfl
  have nd := (sc_all_orders).nd
  have hu := hr.units
  have hu1 := hu_of hr
  have hu65 : (A.deeper (envOfC "all_orders" (defScope s_all_orders) s.heap.objs.size f cdv)).units + 65 < cLine := by
    have := hr.un
    omega
  obtain ⟨ns, rfl, hn, q⟩ := h
  have e : ns = [] := List.length_eq_zero_iff.mp (by omega)
  subst e
  refine ⟨_, _, (ass_cons (as_if (at_cmp (ao_eq K hu) (ae_var 0) (ae_lst aa_nil)) (ass_one (as_ret (ae_lst (aa_cons (ae_lst aa_nil) aa_nil)))) ass_nil) ass_never), ?_⟩
  refine ⟨[], rfl, Nat.zero_le _, _, _, rfl, rfl, dInts_shaped [], dInts_shaped [], ?_⟩
  have e := eqv_nil []
  refine ⟨fun _ => ?_, fun h => ?_⟩
  · exact ⟨[], rfl, Nat.zero_le _, [dInts []], rfl, (by show (1 : Nat) ≤ 100000; decide), q⟩
  · rw [e] at h
    cases h
theorem ok_all_ordersS (T : Txt K mg C tk aR aA aP) (D : Def K mg "all_orders" s_all_orders) (n : Nat) (hn5 : n + 1 ≤ 5) (G_all_orders : FnG P w K mg base C (n + 1) "all_orders" (F_all_orders n)) : FnG P w K mg base C (n + 1 + 1) "all_orders" (F_all_orders (n + 1)) := by
  refine fnG D sc_all_orders ?len (fun _ _ _ _ _ _ us hl => match us, hl with | [_], _ => rfl) (fun f cdv A outer s H E hr avs L Q h => ?_)
  case len =>
    rintro avs L Q ⟨ns, rfl, _⟩
    rfl
  have nd := (sc_all_orders).nd
  have hu := hr.units
  have hu1 := hu_of hr
  have hu65 : (A.deeper (envOfC "all_orders" (defScope s_all_orders) s.heap.objs.size f cdv)).units + 65 < cLine := by
    have := hr.un
    omega
  obtain ⟨ns, rfl, hn, q⟩ := h
  refine ⟨_, _, (ass_cons (as_if (at_cmp (ao_eq K hu) (ae_var 0) (ae_lst aa_nil)) (ass_one (as_ret (ae_lst (aa_cons (ae_lst aa_nil) aa_nil)))) ass_nil)
      (ass_cons (as_set 1 nd (ae_lstM aa_nil))
      (ass_cons (as_for (ai_e K rfl T.enumerate_ (aa_cons (ae_var 0) aa_nil)) (ag_tup K (n := 2) rfl (ags_cons (ag_name 2 nd) (ags_cons (ag_name 3 nd) ags_nil))) (ass_one (as_expr (ae_ext K (ae_var 1) (aa_cons (ae_lc [("rest", 4)] nd (ai_l K (ae_fn K G_all_orders (hr.mono (by first | decide | omega)) (aa_cons (ae_op ao_cat (ae_slL K (ae_var 0) ap_none (ap_some (ae_var 2))) (ae_slL K (ae_var 0) (ap_some (ae_op ao_add (ae_var 2) ae_int)) ap_none)) aa_nil))) (by kernel_rfl) (fun _ _ _ _ _ => (ag_name 4 nd)) (fun _ _ _ _ _ => ats_nil) (fun _ _ _ _ _ => (ae_lst (aa_cons (ae_var 3) (aa_star K (ae_var 4) aa_nil))))) aa_nil)))))
      (ass_one (as_ret (ae_varF 1)))))), ?_⟩
  refine ⟨[], rfl, Nat.zero_le _, _, _, rfl, rfl, dInts_shaped ns, dInts_shaped [], ?_⟩
  have e := eqv_nil ns
  refine ⟨fun hb => ?_, fun hb => ?_⟩
  · rw [e] at hb
    unfold ords at q
    rw [if_pos hb] at q
    exact ⟨[], rfl, Nat.zero_le _, [dInts []], rfl, (by show (1 : Nat) ≤ 100000; decide), q⟩
  · rw [e] at hb
    unfold ords at q
    rw [if_neg (by rw [hb]; decide)] at q
    refine ⟨Nat.zero_le _, fun a ha => ?_⟩
    refine aFor_of ((enumF 0 (ns.map PyData.int)).map AV.d) (fun i env' L' => ∃ (x2 x3 : Option AV), env' = [some (.d (dInts ns)), some (.p a), x2, x3, none] ∧
      L' = put L a ((((List.range i).flatMap fun i => (ns[i]?).elim [] fun x => (ords n (ns.take i ++ ns.drop (i + 1))).map (x :: ·)).map dInts).map AV.d)) (fun R r => r) ⟨none, none, rfl, rfl⟩ ?_ ?_
    · rintro i av env' L' hi ⟨x2, x3, rfl, rfl⟩
      obtain ⟨d, hd, rfl⟩ := enumD_turn hi
      rw [List.getElem?_map] at hd
      obtain ⟨x, hx, rfl⟩ := Option.map_eq_some_iff.mp hd
      have hin : i < ns.length := (List.getElem?_eq_some_iff.mp hx).1
      have step : ∀ j, j < i + 1 → ((ns[j]?).elim [] fun x => (ords n (ns.take j ++ ns.drop (j + 1))).map (x :: ·) : List (List Int)).length ≤ fac n := fun j hj => by
        rw [List.getElem?_eq_getElem (by omega : j < ns.length)]
        show (List.map _ _).length ≤ _
        rw [List.length_map]
        refine ords_len n _ ?_
        rw [List.length_append, List.length_take, List.length_drop]
        omega
      have lens := flatMap_len_le (fun i => ((ns[i]?).elim [] fun x => (ords n (ns.take i ++ ns.drop (i + 1))).map (x :: ·) : List (List Int))) (fac n) (i + 1) step
      have small := sum_small (by omega) (i + 1) lens (by omega)
      rw [flatMap_succ, ords_step hx, List.length_append] at small
      refine ⟨rfl, ⟨_, put_same⟩, ?_⟩
      refine lc_mapT (ords n (ns.take i ++ ns.drop (i + 1))) (fun r => AV.d (dInts r)) (fun r => dInts (x :: r)) (fun R r => ?_) ?_ (fun r S1 S0 hr s => ⟨fun _ => ?_, nofun⟩) ?_
      · refine ⟨?_, ns.take i ++ ns.drop (i + 1), ?_, ?_, ?_⟩
        · show (cutD (ns.map PyData.int) none (some (i : Int))).length + (cutD (ns.map PyData.int) (some ((i : Int) + 1)) none).length ≤ 100000
          have e1 : ((i : Int) + 1) = ((i + 1 : Nat) : Int) := by omega
          rw [e1, cut_pre _ _ (by rw [List.length_map]; omega), cut_suf _ _ (by rw [List.length_map]; omega), List.length_take, List.length_drop, List.length_map]
          omega
        · show [AV.d (.list (cutD (ns.map PyData.int) none (some (i : Int)) ++ cutD (ns.map PyData.int) (some ((i : Int) + 1)) none))] = _
          have e1 : ((i : Int) + 1) = ((i + 1 : Nat) : Int) := by omega
          rw [e1, cut_pre _ _ (by rw [List.length_map]; omega), cut_suf _ _ (by rw [List.length_map]; omega)]
          unfold dInts
          rw [List.map_append, List.map_take, List.map_drop]
        · rw [List.length_append, List.length_take, List.length_drop]
          omega
        · have er : (ords n (ns.take i ++ ns.drop (i + 1))).map (fun r => AV.d (dInts r)) = ((ords n (ns.take i ++ ns.drop (i + 1))).map dInts).map AV.d := by
            rw [List.map_map]
            rfl
          rw [er] at r
          exact r
      · rw [List.length_map] at small
        omega
      · refine ⟨(x :: r).map PyData.int, by rw [List.append_nil]; exact allD_map ((x :: r).map PyData.int), ?_, s⟩
        have h3 := ords_mem_len n _ r hr
        show (([PyData.int x] ++ r.map PyData.int : List PyData)).length ≤ 100000
        rw [List.length_append, List.length_map]
        show 1 + r.length ≤ 100000
        omega
      · refine ⟨_, put_same, ?_, ?_⟩
        · rw [List.length_map, List.length_map, List.length_map]
          rw [List.length_map] at small
          omega
        · refine ⟨_, _, rfl, ?_⟩
          rw [put_put, flatMap_succ, ords_step hx, List.map_append, List.map_append]
          have er : ((ords n (ns.take i ++ ns.drop (i + 1))).map (x :: ·)).map (dInts) = (ords n (ns.take i ++ ns.drop (i + 1))).map (fun r => dInts (x :: r)) := by
            rw [List.map_map]
            rfl
          rw [er]
    · rintro env' L' ⟨x2, x3, rfl, rfl⟩
      refine ⟨_, (by rw [put_same]; exact allD_map _), ?_⟩
      rw [List.length_map, enumF_len, List.length_map, del_put ha]
      exact q
theorem ok_all_orders (T : Txt K mg C tk aR aA aP) (D : Def K mg "all_orders" s_all_orders) : ∀ n : Nat, n ≤ 5 → FnG P w K mg base C (n + 1) "all_orders" (F_all_orders n)
  | 0, _ => ok_all_orders0 T D
  | n + 1, h => ok_all_ordersS T D n h (ok_all_orders T D n (by omega))
end
end VS

set_option Elab.async false
set_option linter.all false
set_option maxRecDepth 100000
set_option maxHeartbeats 4000000
set_option autoImplicit false
namespace VS
open PySem L2 PySem.Spec PyProof.Rows
section
variable {P : Program} {w : World} {K : PySem.W.Frag} {mg : Str → Option Value} {base : Heap} {C : Addr} {tk : Tok} {aR aA aP : Addr}
theorem ok_law_orders0 (T : Txt K mg C tk aR aA aP) (D : Def K mg "_law_orders" s_law_orders) : FnG P w K mg base C 1 "_law_orders" (F_all_orders 0) := by
  refine fnG D sc_law_orders ?len (fun _ _ _ _ _ _ us hl => match us, hl with | [_], _ => rfl) (fun f cdv A outer s H E hr avs L Q h => ?_)
  case len =>
    rintro avs L Q ⟨ns, rfl, _⟩
    rfl
  have nd := (sc_law_orders).nd
  have hu := hr.units
  have hu1 := hu_of hr
  have hu65 : (A.deeper (envOfC "_law_orders" (defScope s_law_orders) s.heap.objs.size f cdv)).units + 65 < cLine := by
    have := hr.un
    omega
  obtain ⟨ns, rfl, hn, q⟩ := h
  have e : ns = [] := List.length_eq_zero_iff.mp (by omega)
  subst e
  refine ⟨_, _, (ass_cons (as_if (at_cmp (ao_eq K hu) (ae_var 0) (ae_lst aa_nil)) (ass_one (as_ret (ae_lst (aa_cons (ae_lst aa_nil) aa_nil)))) ass_nil) ass_never), ?_⟩
  refine ⟨[], rfl, Nat.zero_le _, _, _, rfl, rfl, dInts_shaped [], dInts_shaped [], ?_⟩
  have e := eqv_nil []
  refine ⟨fun _ => ?_, fun h => ?_⟩
  · exact ⟨[], rfl, Nat.zero_le _, [dInts []], rfl, (by show (1 : Nat) ≤ 100000; decide), q⟩
  · rw [e] at h
    cases h
theorem ok_law_ordersS (T : Txt K mg C tk aR aA aP) (D : Def K mg "_law_orders" s_law_orders) (n : Nat) (hn5 : n + 1 ≤ 5) (G_law_orders : FnG P w K mg base C (n + 1) "_law_orders" (F_all_orders n)) : FnG P w K mg base C (n + 1 + 1) "_law_orders" (F_all_orders (n + 1)) := by
  refine fnG D sc_law_orders ?len (fun _ _ _ _ _ _ us hl => match us, hl with | [_], _ => rfl) (fun f cdv A outer s H E hr avs L Q h => ?_)
  case len =>
    rintro avs L Q ⟨ns, rfl, _⟩
    rfl
  have nd := (sc_law_orders).nd
  have hu := hr.units
  have hu1 := hu_of hr
  have hu65 : (A.deeper (envOfC "_law_orders" (defScope s_law_orders) s.heap.objs.size f cdv)).units + 65 < cLine := by
    have := hr.un
    omega
  obtain ⟨ns, rfl, hn, q⟩ := h
  refine ⟨_, _, (ass_cons (as_if (at_cmp (ao_eq K hu) (ae_var 0) (ae_lst aa_nil)) (ass_one (as_ret (ae_lst (aa_cons (ae_lst aa_nil) aa_nil)))) ass_nil)
      (ass_cons (as_set 1 nd (ae_lstM aa_nil))
      (ass_cons (as_for (ai_e K rfl T.enumerate_ (aa_cons (ae_var 0) aa_nil)) (ag_tup K (n := 2) rfl (ags_cons (ag_name 2 nd) (ags_cons (ag_name 3 nd) ags_nil))) (ass_one (as_expr (ae_ext K (ae_var 1) (aa_cons (ae_lc [("_law_rest", 4)] nd (ai_l K (ae_fn K G_law_orders (hr.mono (by first | decide | omega)) (aa_cons (ae_op ao_cat (ae_slL K (ae_var 0) ap_none (ap_some (ae_var 2))) (ae_slL K (ae_var 0) (ap_some (ae_op ao_add (ae_var 2) ae_int)) ap_none)) aa_nil))) (by kernel_rfl) (fun _ _ _ _ _ => (ag_name 4 nd)) (fun _ _ _ _ _ => ats_nil) (fun _ _ _ _ _ => (ae_op ao_cat (ae_lst (aa_cons (ae_var 3) aa_nil)) (ae_var 4)))) aa_nil)))))
      (ass_one (as_ret (ae_varF 1)))))), ?_⟩
  refine ⟨[], rfl, Nat.zero_le _, _, _, rfl, rfl, dInts_shaped ns, dInts_shaped [], ?_⟩
  have e := eqv_nil ns
  refine ⟨fun hb => ?_, fun hb => ?_⟩
  · rw [e] at hb
    unfold ords at q
    rw [if_pos hb] at q
    exact ⟨[], rfl, Nat.zero_le _, [dInts []], rfl, (by show (1 : Nat) ≤ 100000; decide), q⟩
  · rw [e] at hb
    unfold ords at q
    rw [if_neg (by rw [hb]; decide)] at q
    refine ⟨Nat.zero_le _, fun a ha => ?_⟩
    refine aFor_of ((enumF 0 (ns.map PyData.int)).map AV.d) (fun i env' L' => ∃ (x2 x3 : Option AV), env' = [some (.d (dInts ns)), some (.p a), x2, x3, none] ∧
      L' = put L a ((((List.range i).flatMap fun i => (ns[i]?).elim [] fun x => (ords n (ns.take i ++ ns.drop (i + 1))).map (x :: ·)).map dInts).map AV.d)) (fun R r => r) ⟨none, none, rfl, rfl⟩ ?_ ?_
    · rintro i av env' L' hi ⟨x2, x3, rfl, rfl⟩
      obtain ⟨d, hd, rfl⟩ := enumD_turn hi
      rw [List.getElem?_map] at hd
      obtain ⟨x, hx, rfl⟩ := Option.map_eq_some_iff.mp hd
      have hin : i < ns.length := (List.getElem?_eq_some_iff.mp hx).1
      have step : ∀ j, j < i + 1 → ((ns[j]?).elim [] fun x => (ords n (ns.take j ++ ns.drop (j + 1))).map (x :: ·) : List (List Int)).length ≤ fac n := fun j hj => by
        rw [List.getElem?_eq_getElem (by omega : j < ns.length)]
        show (List.map _ _).length ≤ _
        rw [List.length_map]
        refine ords_len n _ ?_
        rw [List.length_append, List.length_take, List.length_drop]
        omega
      have lens := flatMap_len_le (fun i => ((ns[i]?).elim [] fun x => (ords n (ns.take i ++ ns.drop (i + 1))).map (x :: ·) : List (List Int))) (fac n) (i + 1) step
      have small := sum_small (by omega) (i + 1) lens (by omega)
      rw [flatMap_succ, ords_step hx, List.length_append] at small
      refine ⟨rfl, ⟨_, put_same⟩, ?_⟩
      refine lc_mapT (ords n (ns.take i ++ ns.drop (i + 1))) (fun r => AV.d (dInts r)) (fun r => dInts (x :: r)) (fun R r => ?_) ?_ (fun r S1 S0 hr s => ⟨fun _ => ?_, nofun⟩) ?_
      · refine ⟨?_, ns.take i ++ ns.drop (i + 1), ?_, ?_, ?_⟩
        · show (cutD (ns.map PyData.int) none (some (i : Int))).length + (cutD (ns.map PyData.int) (some ((i : Int) + 1)) none).length ≤ 100000
          have e1 : ((i : Int) + 1) = ((i + 1 : Nat) : Int) := by omega
          rw [e1, cut_pre _ _ (by rw [List.length_map]; omega), cut_suf _ _ (by rw [List.length_map]; omega), List.length_take, List.length_drop, List.length_map]
          omega
        · show [AV.d (.list (cutD (ns.map PyData.int) none (some (i : Int)) ++ cutD (ns.map PyData.int) (some ((i : Int) + 1)) none))] = _
          have e1 : ((i : Int) + 1) = ((i + 1 : Nat) : Int) := by omega
          rw [e1, cut_pre _ _ (by rw [List.length_map]; omega), cut_suf _ _ (by rw [List.length_map]; omega)]
          unfold dInts
          rw [List.map_append, List.map_take, List.map_drop]
        · rw [List.length_append, List.length_take, List.length_drop]
          omega
        · have er : (ords n (ns.take i ++ ns.drop (i + 1))).map (fun r => AV.d (dInts r)) = ((ords n (ns.take i ++ ns.drop (i + 1))).map dInts).map AV.d := by
            rw [List.map_map]
            rfl
          rw [er] at r
          exact r
      · rw [List.length_map] at small
        omega
      · refine ⟨[.int x], rfl, (by show (1 : Nat) ≤ 100000; decide), ?_⟩
        have h3 := ords_mem_len n _ r hr
        refine ⟨?_, s⟩
        rw [List.length_map]
        show 1 + r.length ≤ 100000
        omega
      · refine ⟨_, put_same, ?_, ?_⟩
        · rw [List.length_map, List.length_map, List.length_map]
          rw [List.length_map] at small
          omega
        · refine ⟨_, _, rfl, ?_⟩
          rw [put_put, flatMap_succ, ords_step hx, List.map_append, List.map_append]
          have er : ((ords n (ns.take i ++ ns.drop (i + 1))).map (x :: ·)).map (dInts) = (ords n (ns.take i ++ ns.drop (i + 1))).map (fun r => dInts (x :: r)) := by
            rw [List.map_map]
            rfl
          rw [er]
    · rintro env' L' ⟨x2, x3, rfl, rfl⟩
      refine ⟨_, (by rw [put_same]; exact allD_map _), ?_⟩
      rw [List.length_map, enumF_len, List.length_map, del_put ha]
      exact q
theorem ok_law_orders (T : Txt K mg C tk aR aA aP) (D : Def K mg "_law_orders" s_law_orders) : ∀ n : Nat, n ≤ 5 → FnG P w K mg base C (n + 1) "_law_orders" (F_all_orders n)
  | 0, _ => ok_law_orders0 T D
  | n + 1, h => ok_law_ordersS T D n h (ok_law_orders T D n (by omega))

/-! ### rows -/
def grow (fs : List (List Int)) (b : Int × Int) : List (List Int) := fs.flatMap fun r => (List.range (b.2 + 1 - b.1).toNat).map fun (i : Nat) => r ++ [b.1 + (i : Int)]
def rowsB (bs : List (Int × Int)) : List (List Int) := bs.foldl grow [[]]
structure BoxOk (bs : List (Int × Int)) : Prop where
  len : bs.length ≤ 1000
  few : ∀ i, (rowsB (bs.take i)).length ≤ 63
  b : ∀ b ∈ bs, 0 ≤ b.1 ∧ b.1 ≤ b.2 ∧ b.2 ≤ 1000
theorem rowsB_snoc {bs : List (Int × Int)} {i : Nat} {b : Int × Int} (h : bs[i]? = some b) : rowsB (bs.take (i + 1)) = grow (rowsB (bs.take i)) b := by
  unfold rowsB
  rw [take_succ h, List.foldl_append]
  rfl
theorem grow_snoc {fs : List (List Int)} {j : Nat} {r : List Int} (h : fs[j]? = some r) (b : Int × Int) : grow (fs.take (j + 1)) b = grow (fs.take j) b ++ (List.range (b.2 + 1 - b.1).toNat).map fun (i : Nat) => r ++ [b.1 + (i : Int)] := by
  unfold grow
  rw [take_succ h, List.flatMap_append, List.flatMap_cons, List.flatMap_nil, List.append_nil]
theorem grow_take_le (fs : List (List Int)) (j : Nat) (b : Int × Int) : (grow (fs.take j) b).length ≤ (grow fs b).length := by
  have e : grow fs b = grow (fs.take j) b ++ grow (fs.drop j) b := by
    unfold grow
    rw [← List.flatMap_append, List.take_append_drop]
  rw [e, List.length_append]
  omega
theorem rowsB_len : ∀ (bs : List (Int × Int)) (fs : List (List Int)) (n : Nat), (∀ r ∈ fs, r.length = n) → ∀ r ∈ bs.foldl grow fs, r.length = n + bs.length
  | [], fs, n, h, r, hr => by
    rw [h r hr]
    rfl
  | b :: bs, fs, n, h, r, hr => by
    have := rowsB_len bs (grow fs b) (n + 1) (fun r' hr' => by
      obtain ⟨r0, h0, h1⟩ := List.mem_flatMap.mp hr'
      obtain ⟨i, _, rfl⟩ := List.mem_map.mp h1
      rw [List.length_append, h r0 h0]
      rfl) r hr
    rw [this, List.length_cons]
    omega
theorem zip_data (bs : List (Int × Int)) : (zipF ((bs.map Prod.fst).map PyData.int) ((bs.map Prod.snd).map PyData.int)).map AV.d = bs.map fun b => AV.d (.tuple [.int b.1, .int b.2]) := by
  induction bs with
  | nil => rfl
  | cons b bs ih =>
    show AV.d _ :: (zipF ((bs.map Prod.fst).map PyData.int) ((bs.map Prod.snd).map PyData.int)).map AV.d = _
    rw [ih]
    rfl
theorem dRows_av (fs : List (List Int)) : (fs.map encT).map AV.d = fs.map fun r => AV.d (encT r) := by
  rw [List.map_map]
  rfl
def F_rows : List AV → LS → AK → Prop := fun avs L Q => ∃ bs : List (Int × Int), avs = [.d (dInts (bs.map Prod.fst)), .d (dInts (bs.map Prod.snd))] ∧ BoxOk bs ∧ Q (.d (dRows (rowsB bs))) L
theorem ok_rows_between (T : Txt K mg C tk aR aA aP) (D : Def K mg "rows_between" s_rows_between) : FnG P w K mg base C 1 "rows_between" F_rows := by
  refine fnG D sc_rows_between ?len (fun _ _ _ _ _ _ us hl => match us, hl with | [_, _], _ => rfl) (fun f cdv A outer s H E hr avs L Q h => ?_)
  case len =>
    rintro avs L Q ⟨p, rfl, _⟩
    rfl
  have nd := (sc_rows_between).nd
  have hu := hr.units
  have hu1 := hu_of hr
  have hu65 : (A.deeper (envOfC "rows_between" (defScope s_rows_between) s.heap.objs.size f cdv)).units + 65 < cLine := by
    have := hr.un
    omega
  obtain ⟨bs, rfl, o, q⟩ := h
  refine ⟨_, _, (ass_cons (as_set 2 nd (ae_lst (aa_cons (ae_tup aa_nil) aa_nil)))
      (ass_cons (as_for (ai_z K rfl T.zip_ (aa_cons (ae_var 0) (aa_cons (ae_var 1) aa_nil))) (ag_tup K (n := 2) rfl (ags_cons (ag_name 3 nd) (ags_cons (ag_name 4 nd) ags_nil))) (ass_cons (as_set 5 nd (ae_lstM aa_nil))
      (ass_cons (as_for (ai_l K (ae_var 2)) (ag_name 6 nd) (ass_one (as_expr (ae_ext K (ae_var 5) (aa_cons (ae_lc [("number", 7)] nd (ai_r2 rfl T.range_ (aa_cons (ae_var 3) (aa_cons (ae_op ao_add (ae_var 4) ae_int) aa_nil))) (by kernel_rfl) (fun _ _ _ _ _ => (ag_name 7 nd)) (fun _ _ _ _ _ => ats_nil) (fun _ _ _ _ _ => (ae_tup (aa_star K (ae_var 6) (aa_cons (ae_var 7) aa_nil))))) aa_nil)))))
      (ass_one (as_set 2 nd (ae_varF 5))))))
      (ass_one (as_ret (ae_var 2))))), ?_⟩
  refine ⟨_, rfl, (by show (0 : Nat) ≤ 100000; decide), _, rfl, (by show (1 : Nat) ≤ 100000; decide), ?_⟩
  refine aFor_of (bs.map fun b => AV.d (.tuple [.int b.1, .int b.2])) (fun i env' L' => ∃ (x3 x4 x5 x6 : Option AV), env' = [some (.d (dInts (bs.map Prod.fst))), some (.d (dInts (bs.map Prod.snd))), some (.d (dRows (rowsB (bs.take i)))), x3, x4, x5, x6, none] ∧ L' = L)
    (fun R r => by rw [← zip_data] at r; exact r) ⟨none, none, none, none, rfl, rfl⟩ ?_ ?_
  · rintro i av env' L' hi ⟨x3, x4, x5, x6, rfl, rfl⟩
    rw [List.getElem?_map] at hi
    obtain ⟨b, hb, rfl⟩ := Option.map_eq_some_iff.mp hi
    obtain ⟨b0, b1, b2⟩ := o.b b (List.mem_of_getElem? hb)
    have hbl := (List.getElem?_eq_some_iff.mp hb).1
    have f1 := o.few (i + 1)
    rw [rowsB_snoc hb] at f1
    generalize hfs : rowsB (bs.take i) = fs at f1
    refine ⟨rfl, ?_⟩
    refine ⟨Nat.zero_le _, fun a ha => ?_⟩
    refine aFor_of (fs.map fun r => AV.d (encT r)) (fun j env' M => ∃ (x6 : Option AV), env' = [some (.d (dInts (bs.map Prod.fst))), some (.d (dInts (bs.map Prod.snd))), some (.d (dRows fs)), some (.d (.int b.1)), some (.d (.int b.2)), some (.p a), x6, none] ∧
      M = put L' a (((grow (fs.take j) b).map encT).map AV.d)) (fun R r => by rw [← dRows_av] at r; exact r) ⟨_, rfl, rfl⟩ ?_ ?_
    · rintro j av env' L1 hj ⟨x6, rfl, hL1⟩
      rw [List.getElem?_map] at hj
      obtain ⟨r, hr, rfl⟩ := Option.map_eq_some_iff.mp hj
      have f2 := grow_take_le fs (j + 1) b
      rw [grow_snoc hr, List.length_append, List.length_map, List.length_range] at f2
      have hrl : r.length ≤ 1000 := by
        have h1 := rowsB_len (bs.take i) [[]] 0 (fun r hr => by rw [List.mem_singleton.mp hr]; rfl) r (by show r ∈ rowsB _; rw [hfs]; exact List.mem_of_getElem? hr)
        rw [List.length_take] at h1
        have := o.len
        omega
      have hget : L1 a = some (((grow (fs.take j) b).map encT).map AV.d) := by rw [hL1, put_same]
      refine ⟨⟨_, hget⟩, ?_⟩
      refine lc_mapT ((List.range (b.2 + 1 - b.1).toNat).map fun (i : Nat) => b.1 + (i : Int)) (fun n => AV.d (.int n)) (fun n => encT (r ++ [n])) (fun R z => ?_) ?_ (fun n S1 S0 hn z => ⟨fun _ => ?_, nofun⟩) ?_
      · refine ⟨by omega, ?_⟩
        rw [List.map_map] at z
        exact z
      · rw [List.length_map, List.length_range]
        omega
      · refine ⟨(r ++ [n]).map PyData.int, ?_, ?_, z⟩
        · show allD ((r.map PyData.int).map AV.d ++ [AV.d (.int n)]) = _
          rw [List.map_append, ← allD_map, List.map_append]
          rfl
        · rw [List.length_map, List.length_append]
          show r.length + 1 ≤ 100000
          omega
      · refine ⟨_, hget, ?_, ?_⟩
        · rw [List.length_map, List.length_map, List.length_map, List.length_map, List.length_range]
          omega
        · refine ⟨_, rfl, ?_⟩
          have er : ((List.range (b.2 + 1 - b.1).toNat).map fun (i : Nat) => b.1 + (i : Int)).map (fun n => encT (r ++ [n])) = ((List.range (b.2 + 1 - b.1).toNat).map fun (i : Nat) => r ++ [b.1 + (i : Int)]).map encT := by
            rw [List.map_map, List.map_map]
            rfl
          rw [hL1, put_put, grow_snoc hr, List.map_append, List.map_append, er]
    · rintro env' L1 ⟨x6, rfl, hL1⟩
      have hget : L1 a = some (((grow fs b).map encT).map AV.d) := by
        rw [hL1, put_same, List.length_map, List.take_length]
      refine ⟨(grow fs b).map encT, (by rw [hget]; exact allD_map _), ?_⟩
      rw [hL1, del_put ha]
      exact ⟨_, _, _, _, by rw [rowsB_snoc hb, hfs]; rfl, rfl⟩
  · rintro env' L' ⟨x3, x4, x5, x6, rfl, rfl⟩
    rw [List.length_map, List.take_length]
    exact q
theorem ok_law_rows (T : Txt K mg C tk aR aA aP) (D : Def K mg "_law_rows" s_law_rows) : FnG P w K mg base C 1 "_law_rows" F_rows := by
  refine fnG D sc_law_rows ?len (fun _ _ _ _ _ _ us hl => match us, hl with | [_, _], _ => rfl) (fun f cdv A outer s H E hr avs L Q h => ?_)
  case len =>
    rintro avs L Q ⟨p, rfl, _⟩
    rfl
  have nd := (sc_law_rows).nd
  have hu := hr.units
  have hu1 := hu_of hr
  have hu65 : (A.deeper (envOfC "_law_rows" (defScope s_law_rows) s.heap.objs.size f cdv)).units + 65 < cLine := by
    have := hr.un
    omega
  obtain ⟨bs, rfl, o, q⟩ := h
  refine ⟨_, _, (ass_cons (as_set 2 nd (ae_lst (aa_cons (ae_tup aa_nil) aa_nil)))
      (ass_cons (as_for (ai_z K rfl T.zip_ (aa_cons (ae_var 0) (aa_cons (ae_var 1) aa_nil))) (ag_tup K (n := 2) rfl (ags_cons (ag_name 3 nd) (ags_cons (ag_name 4 nd) ags_nil))) (ass_cons (as_set 5 nd (ae_lstM aa_nil))
      (ass_cons (as_for (ai_l K (ae_var 2)) (ag_name 6 nd) (ass_one (as_expr (ae_ext K (ae_var 5) (aa_cons (ae_lc [("_law_number", 7)] nd (ai_r2 rfl T.range_ (aa_cons (ae_var 3) (aa_cons (ae_op ao_add (ae_var 4) ae_int) aa_nil))) (by kernel_rfl) (fun _ _ _ _ _ => (ag_name 7 nd)) (fun _ _ _ _ _ => ats_nil) (fun _ _ _ _ _ => (ae_op (ao_catT K) (ae_var 6) (ae_tup (aa_cons (ae_var 7) aa_nil))))) aa_nil)))))
      (ass_one (as_set 2 nd (ae_varF 5))))))
      (ass_one (as_ret (ae_var 2))))), ?_⟩
  refine ⟨_, rfl, (by show (0 : Nat) ≤ 100000; decide), _, rfl, (by show (1 : Nat) ≤ 100000; decide), ?_⟩
  refine aFor_of (bs.map fun b => AV.d (.tuple [.int b.1, .int b.2])) (fun i env' L' => ∃ (x3 x4 x5 x6 : Option AV), env' = [some (.d (dInts (bs.map Prod.fst))), some (.d (dInts (bs.map Prod.snd))), some (.d (dRows (rowsB (bs.take i)))), x3, x4, x5, x6, none] ∧ L' = L)
    (fun R r => by rw [← zip_data] at r; exact r) ⟨none, none, none, none, rfl, rfl⟩ ?_ ?_
  · rintro i av env' L' hi ⟨x3, x4, x5, x6, rfl, rfl⟩
    rw [List.getElem?_map] at hi
    obtain ⟨b, hb, rfl⟩ := Option.map_eq_some_iff.mp hi
    obtain ⟨b0, b1, b2⟩ := o.b b (List.mem_of_getElem? hb)
    have hbl := (List.getElem?_eq_some_iff.mp hb).1
    have f1 := o.few (i + 1)
    rw [rowsB_snoc hb] at f1
    generalize hfs : rowsB (bs.take i) = fs at f1
    refine ⟨rfl, ?_⟩
    refine ⟨Nat.zero_le _, fun a ha => ?_⟩
    refine aFor_of (fs.map fun r => AV.d (encT r)) (fun j env' M => ∃ (x6 : Option AV), env' = [some (.d (dInts (bs.map Prod.fst))), some (.d (dInts (bs.map Prod.snd))), some (.d (dRows fs)), some (.d (.int b.1)), some (.d (.int b.2)), some (.p a), x6, none] ∧
      M = put L' a (((grow (fs.take j) b).map encT).map AV.d)) (fun R r => by rw [← dRows_av] at r; exact r) ⟨_, rfl, rfl⟩ ?_ ?_
    · rintro j av env' L1 hj ⟨x6, rfl, hL1⟩
      rw [List.getElem?_map] at hj
      obtain ⟨r, hr, rfl⟩ := Option.map_eq_some_iff.mp hj
      have f2 := grow_take_le fs (j + 1) b
      rw [grow_snoc hr, List.length_append, List.length_map, List.length_range] at f2
      have hrl : r.length ≤ 1000 := by
        have h1 := rowsB_len (bs.take i) [[]] 0 (fun r hr => by rw [List.mem_singleton.mp hr]; rfl) r (by show r ∈ rowsB _; rw [hfs]; exact List.mem_of_getElem? hr)
        rw [List.length_take] at h1
        have := o.len
        omega
      have hget : L1 a = some (((grow (fs.take j) b).map encT).map AV.d) := by rw [hL1, put_same]
      refine ⟨⟨_, hget⟩, ?_⟩
      refine lc_mapT ((List.range (b.2 + 1 - b.1).toNat).map fun (i : Nat) => b.1 + (i : Int)) (fun n => AV.d (.int n)) (fun n => encT (r ++ [n])) (fun R z => ?_) ?_ (fun n S1 S0 hn z => ⟨fun _ => ?_, nofun⟩) ?_
      · refine ⟨by omega, ?_⟩
        rw [List.map_map] at z
        exact z
      · rw [List.length_map, List.length_range]
        omega
      · refine ⟨[.int n], rfl, (by show (1 : Nat) ≤ 100000; decide), ?_, ?_⟩
        · rw [List.length_map]
          show r.length + 1 ≤ 100000
          omega
        · have e : r.map PyData.int ++ [PyData.int n] = (r ++ [n]).map PyData.int := by
            rw [List.map_append]
            rfl
          show S1 (.d (.tuple (r.map PyData.int ++ [PyData.int n]))) _
          rw [e]
          exact z
      · refine ⟨_, hget, ?_, ?_⟩
        · rw [List.length_map, List.length_map, List.length_map, List.length_map, List.length_range]
          omega
        · refine ⟨_, rfl, ?_⟩
          have er : ((List.range (b.2 + 1 - b.1).toNat).map fun (i : Nat) => b.1 + (i : Int)).map (fun n => encT (r ++ [n])) = ((List.range (b.2 + 1 - b.1).toNat).map fun (i : Nat) => r ++ [b.1 + (i : Int)]).map encT := by
            rw [List.map_map, List.map_map]
            rfl
          rw [hL1, put_put, grow_snoc hr, List.map_append, List.map_append, er]
    · rintro env' L1 ⟨x6, rfl, hL1⟩
      have hget : L1 a = some (((grow fs b).map encT).map AV.d) := by
        rw [hL1, put_same, List.length_map, List.take_length]
      refine ⟨(grow fs b).map encT, (by rw [hget]; exact allD_map _), ?_⟩
      rw [hL1, del_put ha]
      exact ⟨_, _, _, _, by rw [rowsB_snoc hb, hfs]; rfl, rfl⟩
  · rintro env' L' ⟨x3, x4, x5, x6, rfl, rfl⟩
    rw [List.length_map, List.take_length]
    exact q

def withinM (a b : List Int) : Bool := (a.zip b).all fun p => decide (p.1 ≤ p.2)
theorem zip_tup : ∀ (a b : List Int), (zipF (a.map PyData.int) (b.map PyData.int)).map AV.d = (a.zip b).map fun p => AV.d (.tuple [.int p.1, .int p.2])
  | [], b => by cases b <;> rfl
  | _ :: _, [] => rfl
  | x :: a, y :: b => by
    show AV.d _ :: (zipF (a.map PyData.int) (b.map PyData.int)).map AV.d = _
    rw [zip_tup a b]
    rfl
def F_within : List AV → LS → AK → Prop := fun avs L Q => ∃ a b : List Int, avs = [.d (encT a), .d (encT b)] ∧ a.length ≤ 1000 ∧ Q (.d (.bool (withinM a b))) L
theorem ok_is_within (T : Txt K mg C tk aR aA aP) (D : Def K mg "is_within" s_is_within) : FnG P w K mg base C 1 "is_within" F_within := by
  refine fnG D sc_is_within ?len (fun _ _ _ _ _ _ us hl => match us, hl with | [_, _], _ => rfl) (fun f cdv A outer s H E hr avs L Q h => ?_)
  case len =>
    rintro avs L Q ⟨p, a, rfl, _⟩
    rfl
  have nd := (sc_is_within).nd
  have hu := hr.units
  have hu1 := hu_of hr
  have hu65 : (A.deeper (envOfC "is_within" (defScope s_is_within) s.heap.objs.size f cdv)).units + 65 < cLine := by
    have := hr.un
    omega
  obtain ⟨a, b, rfl, hl, q⟩ := h
  refine ⟨_, _, (ass_one (as_ret (ae_callB (ac_all K rfl) rfl T.all_ PyProof.Rows.boot_all (aa_cons (ae_lc [("number", 2), ("most", 3)] nd (ai_z K rfl T.zip_ (aa_cons (ae_var 0) (aa_cons (ae_var 1) aa_nil))) (by kernel_rfl) (fun _ _ _ _ _ => (ag_tup K (n := 2) rfl (ags_cons (ag_name 2 nd) (ags_cons (ag_name 3 nd) ags_nil)))) (fun _ _ _ _ _ => ats_nil) (fun _ _ _ _ _ => (ae_cmp ao_le (ae_var 2) (ae_var 3)))) aa_nil)))), ?_⟩
  refine lc_mapT (a.zip b) (fun p => AV.d (.tuple [.int p.1, .int p.2])) (fun p => .bool (decide (p.1 ≤ p.2))) (fun R r => by rw [← zip_tup] at r; exact r) (by rw [List.length_zip]; omega) (fun p S1 S0 hp r => ⟨rfl, fun _ => r, nofun⟩) ?_
  refine ⟨(a.zip b).map fun p => decide (p.1 ≤ p.2), by rw [List.map_map]; rfl, ?_⟩
  rw [List.all_map]
  exact q
theorem ok_law_is_below (T : Txt K mg C tk aR aA aP) (D : Def K mg "_law_is_below" s_law_is_below) : FnG P w K mg base C 1 "_law_is_below" F_within := by
  refine fnG D sc_law_is_below ?len (fun _ _ _ _ _ _ us hl => match us, hl with | [_, _], _ => rfl) (fun f cdv A outer s H E hr avs L Q h => ?_)
  case len =>
    rintro avs L Q ⟨p, a, rfl, _⟩
    rfl
  have nd := (sc_law_is_below).nd
  have hu := hr.units
  have hu1 := hu_of hr
  have hu65 : (A.deeper (envOfC "_law_is_below" (defScope s_law_is_below) s.heap.objs.size f cdv)).units + 65 < cLine := by
    have := hr.un
    omega
  obtain ⟨a, b, rfl, hl, q⟩ := h
  refine ⟨_, _, (ass_one (as_ret (ae_callB (ac_all K rfl) rfl T.all_ PyProof.Rows.boot_all (aa_cons (ae_lc [("_law_x", 2), ("_law_y", 3)] nd (ai_z K rfl T.zip_ (aa_cons (ae_var 0) (aa_cons (ae_var 1) aa_nil))) (by kernel_rfl) (fun _ _ _ _ _ => (ag_tup K (n := 2) rfl (ags_cons (ag_name 2 nd) (ags_cons (ag_name 3 nd) ags_nil)))) (fun _ _ _ _ _ => ats_nil) (fun _ _ _ _ _ => (ae_cmp ao_le (ae_var 2) (ae_var 3)))) aa_nil)))), ?_⟩
  refine lc_mapT (a.zip b) (fun p => AV.d (.tuple [.int p.1, .int p.2])) (fun p => .bool (decide (p.1 ≤ p.2))) (fun R r => by rw [← zip_tup] at r; exact r) (by rw [List.length_zip]; omega) (fun p S1 S0 hp r => ⟨rfl, fun _ => r, nofun⟩) ?_
  refine ⟨(a.zip b).map fun p => decide (p.1 ≤ p.2), by rw [List.map_map]; rfl, ?_⟩
  rw [List.all_map]
  exact q

def boxOf (ps : List Part) : List (Int × Int) := ps.map fun p => (p.lo, p.hi)
def F_law_all_sizes : List AV → LS → AK → Prop := fun avs L Q => ∃ (ps : List Part), avs = [.d (.list (encPs ps))] ∧ BoxOk (boxOf ps) ∧ Q (.d (dRows (rowsB (boxOf ps)))) L
theorem ok_law_all_sizes (T : Txt K mg C tk aR aA aP) (D : Def K mg "_law_all_sizes" s_law_all_sizes) (G_law_rows : FnG P w K mg base C 1 "_law_rows" F_rows) : FnG P w K mg base C 2 "_law_all_sizes" F_law_all_sizes := by
  refine fnG D sc_law_all_sizes ?len (fun _ _ _ _ _ _ us hl => match us, hl with | [_], _ => rfl) (fun f cdv A outer s H E hr avs L Q h => ?_)
  case len =>
    rintro avs L Q ⟨p, rfl, _⟩
    rfl
  have nd := (sc_law_all_sizes).nd
  have hu := hr.units
  have hu1 := hu_of hr
  have hu65 : (A.deeper (envOfC "_law_all_sizes" (defScope s_law_all_sizes) s.heap.objs.size f cdv)).units + 65 < cLine := by
    have := hr.un
    omega
  obtain ⟨ps, rfl, o, q⟩ := h
  have hl := o.len
  unfold boxOf at hl
  rw [List.length_map] at hl
  refine ⟨_, _, (ass_one (as_ret (ae_fn K G_law_rows (hr.mono (by first | decide | omega)) (aa_cons (ae_lc [("_law_part", 1)] nd (ai_l K (ae_var 0)) (by kernel_rfl) (fun _ _ _ _ _ => (ag_name 1 nd)) (fun _ _ _ _ _ => ats_nil) (fun _ _ _ _ _ => (ae_ix (ai_tup K) (ae_var 1) ae_int))) (aa_cons (ae_lc [("_law_part", 1)] nd (ai_l K (ae_var 0)) (by kernel_rfl) (fun _ _ _ _ _ => (ag_name 1 nd)) (fun _ _ _ _ _ => ats_nil) (fun _ _ _ _ _ => (ae_ix (ai_tup K) (ae_var 1) ae_int))) aa_nil))))), ?_⟩
  refine lc_mapT ps (fun p => AV.d (encP p)) (fun p => .int p.lo) (fun R r => by rw [← encPs_av] at r; exact r) (by omega) (fun p S1 S0 hp r => ⟨fun _ => ⟨_, rfl, r⟩, nofun⟩) ?_
  refine lc_mapT ps (fun p => AV.d (encP p)) (fun p => .int p.hi) (fun R r => by rw [← encPs_av] at r; exact r) (by omega) (fun p S1 S0 hp r => ⟨fun _ => ⟨_, rfl, r⟩, nofun⟩) ?_
  refine ⟨boxOf ps, ?_, o, q⟩
  unfold boxOf dInts
  rw [List.map_map, List.map_map, List.map_map, List.map_map]
  rfl
theorem encT_shaped (r : List Int) : SeqAt.shaped (encT r) = true := by
  have h := dInts_shaped r
  unfold SeqAt.shaped dInts PyData.canLay0 PyData.depth at h
  unfold SeqAt.shaped encT PyData.canLay0 PyData.depth
  exact h
theorem ints_eqv : ∀ (a b : List Int), PyData.eqvAll (a.map PyData.int) (b.map PyData.int) = (a == b)
  | [], [] => by simp [PyData.eqvAll]
  | [], _ :: _ => by simp [PyData.eqvAll]
  | _ :: _, [] => by simp [PyData.eqvAll]
  | x :: a, y :: b => by
    rw [List.map_cons, List.map_cons]
    simp only [PyData.eqvAll, PyData.eqv, ints_eqv a b]
    by_cases h1 : x = y
    · subst h1
      simp
    · simp [h1]
theorem encT_eqv (a b : List Int) : PyData.eqv (encT a) (encT b) = (a == b) := by
  unfold encT
  simp only [PyData.eqv]
  exact ints_eqv a b
theorem dInts_eqv (a b : List Int) : PyData.eqv (dInts a) (dInts b) = (a == b) := by
  unfold dInts
  simp only [PyData.eqv]
  exact ints_eqv a b
end
end VS

set_option Elab.async false
set_option linter.all false
set_option maxRecDepth 100000
set_option maxHeartbeats 4000000
set_option autoImplicit false
namespace VS
open PySem L2 PySem.Spec PyProof.Rows
section
variable {P : Program} {w : World} {K : PySem.W.Frag} {mg : Str → Option Value} {base : Heap} {C : Addr} {tk : Tok} {aR aA aP : Addr}
/-- a comprehension that changes nothing, over one of many lists -/
theorem lc_filterN {α : Type} (Good : List α → Prop) (enc : α → AV) (keep : α → Bool) (val : α → PyData) {ai : AIT} {ag : AV → Env → (Env → Prop) → Prop} {at_ : ATT} {ae : ATE} {vs : List Nat} {env : Env} {L : LS} {Q : AK}
    (ha : ∀ R : List AV → LS → Prop, (∀ xs, Good xs → R (xs.map enc) L) → ai env L R) (hl : ∀ xs, Good xs → xs.length < 100000)
    (ht : ∀ xs, Good xs → ∀ (x : α) (S1 : AK) (S0 : LS → Prop), x ∈ xs → (keep x = true → S1 (.d (val x)) L) → (keep x = false → S0 L) → ag (enc x) (wipeE env vs) fun env2 => at_ env2 L fun b L3 => (b = true → ae env2 L3 S1) ∧ (b = false → S0 L3))
    (hq : ∀ xs, Good xs → Q (.d (.list ((xs.filter keep).map val))) L) : aLc ai ag at_ ae vs env L Q := by
  refine aLc_by (ha _ fun xs hg => ⟨by rw [List.length_map]; exact hl xs hg, fun i acc L' => L' = L ∧ acc = ((xs.take i).filter keep).map val, ⟨rfl, rfl⟩, ?_, ?_⟩)
  · rintro i av acc L' hi ⟨rfl, rfl⟩
    rw [List.getElem?_map] at hi
    obtain ⟨x, hx, rfl⟩ := Option.map_eq_some_iff.mp hi
    have e : xs.take (i + 1) = xs.take i ++ [x] := by
      rw [List.take_add_one, hx]
      rfl
    refine ht xs hg x _ _ (List.mem_of_getElem? hx) (fun hk => ?_) (fun hk => ?_)
    · refine ⟨rfl, ?_⟩
      rw [e, List.filter_append, List.map_append, List.filter_cons, if_pos hk]
      rfl
    · refine ⟨rfl, ?_⟩
      rw [e, List.filter_append, List.map_append, List.filter_cons, if_neg (by rw [hk]; decide)]
      show _ = _ ++ []
      rw [List.append_nil]
  · rintro acc L' ⟨rfl, rfl⟩
    rw [List.length_map, List.take_length]
    exact hq xs hg
/-- no other row of these lies below -/
def isMin (rs : List (List Int)) (r : List Int) : Bool := !(rs.map fun o => !(r == o) && withinM o r).any id
def BB : Int := 2000
def F_least_rows : List AV → LS → AK → Prop := fun avs L Q => ∃ (rs : List (List Int)) (d : Nat), avs = [.d (dRows rs)] ∧ 1 ≤ d ∧ d ≤ 1000 ∧ rs.length < 64 ∧ (∀ r ∈ rs, r.length = d ∧ TS.Bd BB r) ∧
  ∀ ys : List (List Int), ys.Perm rs → ys.Pairwise (fun x y => TS.code BB x ≤ TS.code BB y) → Q (.d (dRows (ys.filter (isMin rs)))) L
theorem ok_least_rows (T : Txt K mg C tk aR aA aP) (D : Def K mg "least_rows" s_least_rows) (G_is_within : FnG P w K mg base C 1 "is_within" F_within) : FnG P w K mg base C 2 "least_rows" F_least_rows := by
  refine fnG D sc_least_rows ?len (fun _ _ _ _ _ _ us hl => match us, hl with | [_], _ => rfl) (fun f cdv A outer s H E hr avs L Q h => ?_)
  case len =>
    rintro avs L Q ⟨p, d, rfl, _⟩
    rfl
  have nd := (sc_least_rows).nd
  have hu := hr.units
  have hu1 := hu_of hr
  have hu65 : (A.deeper (envOfC "least_rows" (defScope s_least_rows) s.heap.objs.size f cdv)).units + 65 < cLine := by
    have := hr.un
    omega
  obtain ⟨rs, d, rfl, hd, hd1, h64, hb, q⟩ := h
  refine ⟨_, _, (ass_one (as_ret (ae_lc [("row", 1)] nd (ai_l K (ae_callB (ac_sortedT K (B := BB) hd) rfl T.sorted_ PyProof.Rows.boot_sorted (aa_cons (ae_var 0) aa_nil))) (by kernel_rfl) (fun _ _ _ _ _ => (ag_name 1 nd)) (fun _ _ _ _ _ => (ats_one (at_not (at_val (ae_callB (ac_any K rfl) rfl T.any_ PyProof.Rows.boot_any (aa_cons (ae_lc [("other", 2)] nd (ai_l K (ae_var 0)) (by kernel_rfl) (fun _ _ _ _ _ => (ag_name 2 nd)) (fun _ _ _ _ _ => ats_nil) (fun _ _ _ _ _ => (ae_and (ae_cmp (ao_ne K hu) (ae_var 1) (ae_var 2)) (ae_one (ae_fn K G_is_within (hr.mono (by first | decide | omega)) (aa_cons (ae_var 2) (aa_cons (ae_var 1) aa_nil))))))) aa_nil)))))) (fun _ _ _ _ _ => (ae_var 1))))), ?_⟩
  refine lc_filterN (fun ys => ys.Perm rs ∧ ys.Pairwise (fun x y => TS.code BB x ≤ TS.code BB y)) (fun r => AV.d (encT r)) (isMin rs) encT (fun R z => ?_) (fun xs hg => ?_) (fun xs hg x S1 S0 hx s1 s0 => ?_) (fun xs hg => ?_)
  · refine ⟨rs, rfl, h64, hb, fun ys hp hs => ?_⟩
    have z := z ys ⟨hp, hs⟩
    rw [← dRows_av] at z
    exact z
  · rw [hg.1.length_eq]
    omega
  · refine lc_mapT rs (fun r => AV.d (encT r)) (fun o => .bool (!(x == o) && withinM o x)) (fun R r => by rw [← dRows_av] at r; exact r) (by omega) (fun o T1 T0 ho r => ⟨fun _ => ?_, nofun⟩) ?_
    · refine ⟨encT x, encT o, rfl, rfl, encT_shaped x, encT_shaped o, ?_⟩
      rw [encT_eqv]
      refine ⟨fun h1 => ?_, fun h0 => ?_⟩
      · refine ⟨o, x, rfl, by rw [(hb o ho).1]; exact hd1, ?_⟩
        rw [h1] at r
        exact r
      · rw [h0] at r
        exact r
    · refine ⟨rs.map fun o => !(x == o) && withinM o x, by rw [List.map_map]; rfl, ?_⟩
      exact ⟨fun h1 => s1 h1, fun h0 => s0 h0⟩
  · exact q xs hg.1 hg.2
theorem ofInts_len {ps : List Part} : (lowsOf ps).length = ps.length ∧ (highsOf ps).length = ps.length := by
  unfold lowsOf highsOf
  exact ⟨List.length_map .., List.length_map ..⟩
theorem zip3_data {n : Nat} {a : List PyData} {b c : List PyData} (f g h : Nat → PyData) (ha : a.length = n) (hb : b.length = n) (hc : c.length = n) (fa : ∀ k, k < n → a[k]? = some (f k)) (fb : ∀ k, k < n → b[k]? = some (g k)) (fc : ∀ k, k < n → c[k]? = some (h k)) :
    (zip3F a b c).map AV.d = (List.range n).map fun k => AV.d (.tuple [f k, g k, h k]) := by
  have hl : (zip3F a b c).length = n := by rw [zip3F_len a b c (by rw [ha, hb]) (by rw [ha, hc]), ha]
  refine List.ext_getElem? fun i => ?_
  rw [List.getElem?_map, List.getElem?_map]
  by_cases hi : i < n
  · rw [List.getElem?_range hi, zip3F_get a b c i _ _ _ (fa i hi) (fb i hi) (fc i hi)]
    rfl
  · rw [List.getElem?_eq_none (by rw [hl]; omega), List.getElem?_eq_none (by rw [List.length_range]; omega)]
    rfl
/-- the words whose address stays -/
def steadyM (pg : Int) (ps : List Part) : List Str := ((List.range ps.length).filter fun k => adr pg ps (lowsOf ps) k == adr pg ps (highsOf ps) k).map fun k => (pt ps k).w
def F_steady : List AV → LS → AK → Prop := fun avs L Q => ∃ (pg : Int) (ps : List Part), avs = [.pl pg (encPs ps)] ∧ OkPlan pg ps ∧
  ∀ ys : List Str, ys.Perm (steadyM pg ps) → PyProof.Rows.sortedS ys = true → Q (.d (dStrs ys)) L
theorem ok_steady (T : Txt K mg C tk aR aA aP) (D : Def K mg "steady" s_steady) (G_leasts : FnG P w K mg base C 1 "leasts" F_leasts) (G_mosts : FnG P w K mg base C 1 "mosts" F_mosts) (G_earliest_of : FnG P w K mg base C 3 "earliest_of" F_earliest_of) : FnG P w K mg base C 4 "steady" F_steady := by
  refine fnG D sc_steady ?len (fun _ _ _ _ _ _ us hl => match us, hl with | [_], _ => rfl) (fun f cdv A outer s H E hr avs L Q h => ?_)
  case len =>
    rintro avs L Q ⟨p, d, rfl, _⟩
    rfl
  have nd := (sc_steady).nd
  have hu := hr.units
  have hu1 := hu_of hr
  have hu65 : (A.deeper (envOfC "steady" (defScope s_steady) s.heap.objs.size f cdv)).units + 65 < cLine := by
    have := hr.un
    omega
  obtain ⟨pg, ps, rfl, o, q⟩ := h
  have h5 := o.len5
  refine ⟨_, _, (ass_cons (as_par 1 2 rfl nd (aa_cons (ae_fn K G_earliest_of (hr.mono (by first | decide | omega)) (aa_cons (ae_var 0) (aa_cons (ae_fn K G_leasts (hr.mono (by first | decide | omega)) (aa_cons (ae_var 0) aa_nil)) aa_nil))) (aa_cons (ae_fn K G_earliest_of (hr.mono (by first | decide | omega)) (aa_cons (ae_var 0) (aa_cons (ae_fn K G_mosts (hr.mono (by first | decide | omega)) (aa_cons (ae_var 0) aa_nil)) aa_nil))) aa_nil)))
      (ass_one (as_ret (ae_callB (ac_sortedS K) rfl T.sorted_ PyProof.Rows.boot_sorted (aa_cons (ae_lc [("part", 3), ("one", 4), ("other", 5)] nd (ai_z3 K rfl T.zip_ (aa_cons (ae_parts K T.cl T.nParts (ae_var 0)) (aa_cons (ae_var 1) (aa_cons (ae_var 2) aa_nil)))) (by kernel_rfl) (fun _ _ _ _ _ => (ag_tup K (n := 3) rfl (ags_cons (ag_name 3 nd) (ags_cons (ag_name 4 nd) (ags_cons (ag_name 5 nd) ags_nil))))) (fun _ _ _ _ _ => (ats_one (at_cmp (ao_eq K hu) (ae_ix (ai_tup K) (ae_var 4) ae_int) (ae_ix (ai_tup K) (ae_var 5) ae_int)))) (fun _ _ _ _ _ => (ae_ix (ai_tup K) (ae_var 3) ae_int))) aa_nil))))), ?_⟩
  refine ⟨pg, ps, rfl, o, ?_⟩
  refine ⟨pg, ps, _, lowsOf ps, rfl, o, .inl rfl, ofInts_len.1, fun acc hacc => ?_⟩
  refine ⟨pg, ps, rfl, o, ?_⟩
  refine ⟨pg, ps, _, highsOf ps, rfl, o, .inl rfl, ofInts_len.2, fun bcc hbcc => ?_⟩
  obtain ⟨oa, ha⟩ : ∃ oa : Nat → PyData, ∀ k, k < ps.length → acc[k]? = some (.tuple [.int (adr pg ps (lowsOf ps) k), oa k]) :=
    ⟨fun k => if h : k < ps.length then (hacc.2 k h).choose else .none, fun k h => by simp only [dif_pos h]; exact (hacc.2 k h).choose_spec⟩
  obtain ⟨ob, hb⟩ : ∃ oa : Nat → PyData, ∀ k, k < ps.length → bcc[k]? = some (.tuple [.int (adr pg ps (highsOf ps) k), oa k]) :=
    ⟨fun k => if h : k < ps.length then (hbcc.2 k h).choose else .none, fun k h => by simp only [dif_pos h]; exact (hbcc.2 k h).choose_spec⟩
  refine lc_filterT (List.range ps.length) (fun k => AV.d (.tuple [encP (pt ps k), .tuple [.int (adr pg ps (lowsOf ps) k), oa k], .tuple [.int (adr pg ps (highsOf ps) k), ob k]])) (fun k => adr pg ps (lowsOf ps) k == adr pg ps (highsOf ps) k) (fun k => .str (pt ps k).w)
    (fun R r => ⟨by rw [enc_len, hacc.1], by rw [enc_len, hbcc.1], ?_⟩) (by rw [List.length_range]; omega) (fun k S1 S0 hk s1 s0 => ⟨rfl, ?_⟩) ?_
  · rw [zip3_data (fun k => encP (pt ps k)) (fun k => .tuple [.int (adr pg ps (lowsOf ps) k), oa k]) (fun k => .tuple [.int (adr pg ps (highsOf ps) k), ob k]) enc_len hacc.1 hbcc.1 (fun k h => enc_get h) ha hb]
    exact r
  · refine ⟨_, rfl, _, rfl, _, _, rfl, rfl, shaped_int _, shaped_int _, ?_⟩
    rw [eqv_int]
    exact ⟨fun h1 => ⟨_, rfl, s1 h1⟩, s0⟩
  · refine ⟨steadyM pg ps, ?_, ?_, q⟩
    · unfold steadyM
      rw [List.map_map]
      rfl
    · unfold steadyM
      rw [List.length_map]
      have := List.length_filter_le (fun k => adr pg ps (lowsOf ps) k == adr pg ps (highsOf ps) k) (List.range ps.length)
      rw [List.length_range] at this
      omega
/-- the rows that differ from the least one before part k alone -/
def boxTo (ps : List Part) (k : Nat) : List (Int × Int) := (boxOf ps).take k ++ (ps.drop k).map fun p => (p.lo, p.lo)
theorem boxTo_fst (ps : List Part) (k : Nat) : (boxTo ps k).map Prod.fst = lowsOf ps := by
  unfold boxTo boxOf lowsOf
  rw [List.map_append, ← List.map_take, List.map_map, List.map_map]
  show (ps.take k).map Part.lo ++ (ps.drop k).map Part.lo = _
  rw [← List.map_append, List.take_append_drop]
theorem boxTo_snd (ps : List Part) (k : Nat) : (boxTo ps k).map Prod.snd = (highsOf ps).take k ++ (lowsOf ps).drop k := by
  unfold boxTo boxOf lowsOf highsOf
  rw [List.map_append, ← List.map_take, List.map_map, List.map_map, ← List.map_take, ← List.map_drop]
  rfl
theorem rowsB_bd : ∀ (bs : List (Int × Int)) (fs : List (List Int)), (∀ b ∈ bs, 0 ≤ b.1 ∧ b.1 ≤ b.2 ∧ b.2 ≤ 1000) → (∀ r ∈ fs, TS.Bd BB r) → ∀ r ∈ bs.foldl grow fs, TS.Bd BB r
  | [], fs, hb, h, r, hr => h r hr
  | b :: bs, fs, hb, h, r, hr => by
    refine rowsB_bd bs (grow fs b) (fun b' h' => hb b' (List.mem_cons_of_mem _ h')) (fun r' hr' => ?_) r hr
    obtain ⟨r0, h0, h1⟩ := List.mem_flatMap.mp hr'
    obtain ⟨i, h2, rfl⟩ := List.mem_map.mp h1
    have h2 := List.mem_range.mp h2
    obtain ⟨b0, b1, b2⟩ := hb b List.mem_cons_self
    intro m hm
    rcases List.mem_append.mp hm with hm | hm
    · exact h r0 h0 m hm
    · rw [List.mem_singleton.mp hm]
      show _ ∧ _ < (2000 : Int)
      omega
theorem rowsB_rows {bs : List (Int × Int)} (o : BoxOk bs) : ∀ r ∈ rowsB bs, r.length = bs.length ∧ TS.Bd BB r := fun r hr =>
  ⟨by rw [rowsB_len bs [[]] 0 (fun r hr => by rw [List.mem_singleton.mp hr]; rfl) r hr, Nat.zero_add], rowsB_bd bs [[]] o.b (fun r hr => by rw [List.mem_singleton.mp hr]; intro m hm; cases hm) r hr⟩
def movedM (pg : Int) (ps : List Part) (k : Nat) : List (List Int) := (rowsB (boxTo ps k)).filter fun r => !(adr pg ps r k == adr pg ps (lowsOf ps) k)
def F_least_moves : List AV → LS → AK → Prop := fun avs L Q => ∃ (pg : Int) (ps : List Part) (k : Nat), avs = [.pl pg (encPs ps), .d (.str (pt ps k).w)] ∧ OkPlan pg ps ∧ k < ps.length ∧ BoxOk (boxTo ps k) ∧
  ∀ ys : List (List Int), ys.Perm (movedM pg ps k) → ys.Pairwise (fun x y => TS.code BB x ≤ TS.code BB y) → Q (.d (dRows (ys.filter (isMin (movedM pg ps k))))) L
theorem adr_at {pg : Int} {ps : List Part} {ss : List Int} {n : Nat} {acc : List PyData} (h : Adrs pg ps ss n acc) {k : Nat} (hk : k < n) : ∃ o, atI acc (k : Int) = some (.tuple [.int (adr pg ps ss k), o]) :=
  let ⟨o, e⟩ := h.2 k hk
  ⟨o, atI_nat e⟩
theorem ok_least_moves (T : Txt K mg C tk aR aA aP) (D : Def K mg "least_moves" s_least_moves) (G_leasts : FnG P w K mg base C 1 "leasts" F_leasts) (G_mosts : FnG P w K mg base C 1 "mosts" F_mosts) (G_earliest_of : FnG P w K mg base C 3 "earliest_of" F_earliest_of)
    (G_number_of : FnG P w K mg base C 2 "number_of" F_number_of) (G_rows_between : FnG P w K mg base C 1 "rows_between" F_rows) (G_least_rows : FnG P w K mg base C 2 "least_rows" F_least_rows) : FnG P w K mg base C 4 "least_moves" F_least_moves := by
  refine fnG D sc_least_moves ?len (fun _ _ _ _ _ _ us hl => match us, hl with | [_, _], _ => rfl) (fun f cdv A outer s H E hr avs L Q h => ?_)
  case len =>
    rintro avs L Q ⟨p, d, k, rfl, _⟩
    rfl
  have nd := (sc_least_moves).nd
  have hu := hr.units
  have hu1 := hu_of hr
  have hu65 : (A.deeper (envOfC "least_moves" (defScope s_least_moves) s.heap.objs.size f cdv)).units + 65 < cLine := by
    have := hr.un
    omega
  obtain ⟨pg, ps, k, rfl, o, hk, ob, q⟩ := h
  have h5 := o.len5
  refine ⟨_, _, (ass_cons (as_asg (ae_tup (aa_cons (ae_fn K G_number_of (hr.mono (by first | decide | omega)) (aa_cons (ae_var 0) (aa_cons (ae_var 1) aa_nil))) (aa_cons (ae_fn K G_leasts (hr.mono (by first | decide | omega)) (aa_cons (ae_var 0) aa_nil)) aa_nil))) (ag_tup K (n := 2) rfl (ags_cons (ag_name 4 nd) (ags_cons (ag_name 5 nd) ags_nil))))
      (ass_cons (as_set 2 nd (ae_ix (ai_tup K) (ae_ix (ai_list K) (ae_fn K G_earliest_of (hr.mono (by first | decide | omega)) (aa_cons (ae_var 0) (aa_cons (ae_var 5) aa_nil))) (ae_var 4)) ae_int))
      (ass_cons (as_set 3 nd (ae_fn K G_rows_between (hr.mono (by first | decide | omega)) (aa_cons (ae_var 5) (aa_cons (ae_lst (aa_star K (ae_slL K (ae_fn K G_mosts (hr.mono (by first | decide | omega)) (aa_cons (ae_var 0) aa_nil)) ap_none (ap_some (ae_var 4))) (aa_star K (ae_slL K (ae_var 5) (ap_some (ae_var 4)) ap_none) aa_nil))) aa_nil))))
      (ass_one (as_ret (ae_fn K G_least_rows (hr.mono (by first | decide | omega)) (aa_cons (ae_lc [("row", 6)] nd (ai_l K (ae_var 3)) (by kernel_rfl) (fun _ _ _ _ _ => (ag_name 6 nd)) (fun _ _ _ _ _ => (ats_one (at_cmp (ao_ne K hu) (ae_ix (ai_tup K) (ae_ix (ai_list K) (ae_fn K G_earliest_of (hr.mono (by first | decide | omega)) (aa_cons (ae_var 0) (aa_cons (ae_var 6) aa_nil))) (ae_var 4)) ae_int) (ae_var 2)))) (fun _ _ _ _ _ => (ae_var 6))) aa_nil))))))), ?_⟩
  refine ⟨pg, ps, k, rfl, o, hk, ?_⟩
  refine ⟨pg, ps, rfl, o, ?_⟩
  refine ⟨_, rfl, (by show (2 : Nat) ≤ 100000; decide), rfl, ?_⟩
  refine ⟨pg, ps, _, lowsOf ps, rfl, o, .inl rfl, ofInts_len.1, fun acc hacc => ?_⟩
  obtain ⟨oa, ha⟩ := adr_at hacc hk
  refine ⟨_, ha, _, rfl, ?_⟩
  refine ⟨pg, ps, rfl, o, ?_⟩
  refine ⟨((boxTo ps k).map Prod.snd).map PyData.int, ?_, ?_, boxTo ps k, ?_, ob, ?_⟩
  · show allD (List.map AV.d (cutD ((highsOf ps).map PyData.int) none (some (k : Int))) ++ (List.map AV.d (cutD ((lowsOf ps).map PyData.int) (some (k : Int)) none) ++ [])) = _
    rw [cut_pre _ _ (by rw [List.length_map, ofInts_len.2]; omega), cut_suf _ _ (by rw [List.length_map, ofInts_len.1]; omega), List.append_nil, ← List.map_append, allD_map, boxTo_snd, List.map_append, List.map_take, List.map_drop]
  · rw [List.length_map, List.length_map]
    have := ob.len
    omega
  · rw [boxTo_fst]
    rfl
  have hlen : (boxTo ps k).length = ps.length := by
    have e := congrArg List.length (boxTo_fst ps k)
    rw [List.length_map, ofInts_len.1] at e
    exact e
  have hfull : (rowsB (boxTo ps k)).length ≤ 63 := by
    have := ob.few (boxTo ps k).length
    rwa [List.take_length] at this
  refine lc_filterT (rowsB (boxTo ps k)) (fun r => AV.d (encT r)) (fun r => !(adr pg ps r k == adr pg ps (lowsOf ps) k)) encT (fun R r => by rw [← dRows_av] at r; exact r) (by omega) (fun r S1 S0 hr s1 s0 => ?_) ?_
  · refine ⟨pg, ps, _, r, rfl, o, .inr rfl, by rw [(rowsB_rows ob r hr).1, hlen], fun bcc hbcc => ?_⟩
    obtain ⟨oc, hc⟩ := adr_at hbcc hk
    refine ⟨_, hc, _, rfl, _, _, rfl, rfl, shaped_int _, shaped_int _, ?_⟩
    rw [eqv_int]
    exact ⟨s1, s0⟩
  · have hf := List.length_filter_le (fun r => !(adr pg ps r k == adr pg ps (lowsOf ps) k)) (rowsB (boxTo ps k))
    refine ⟨movedM pg ps k, ps.length, rfl, o.len1, by omega, ?_, fun r hr => ?_, q⟩
    · unfold movedM
      omega
    · have := rowsB_rows ob r (List.mem_filter.mp hr).1
      rw [hlen] at this
      exact this
end
end VS

set_option Elab.async false
set_option linter.all false
set_option maxRecDepth 100000
set_option maxHeartbeats 4000000
set_option autoImplicit false
namespace VS
open PySem L2 PySem.Spec PyProof.Rows

/-! ### lists of lists that grow -/
structure Nest (L : LS) (a : Addr) (qs : List Addr) (dss : List (List PyData)) (L' : LS) : Prop where
  top : L' a = some (qs.map AV.p)
  low : Paired (fun q ds => L' q = some (ds.map AV.d)) qs dss
  nd : (a :: qs).Nodup
  back : delAll L' (a :: qs) = L
theorem Nest.start {L : LS} {a : Addr} (h : L a = none) : Nest L a [] [] (put L a []) := by
  refine ⟨put_same, .nil, by simp, ?_⟩
  funext b
  unfold delAll put
  by_cases e : b = a
  · subst e
    simp [h]
  · simp [e]
theorem Nest.some_ {L : LS} {a : Addr} {qs : List Addr} {dss : List (List PyData)} {L' : LS} (n : Nest L a qs dss L') {q : Addr} (h : q ∈ a :: qs) : ∃ o, L' q = some o := by
  rcases List.mem_cons.mp h with e | h
  · subst e
    exact ⟨_, n.top⟩
  · obtain ⟨ds, _, e⟩ := paired_memL n.low h
    exact ⟨_, e⟩
theorem paired_put {L' : LS} {x : Addr} {v : List AV} : ∀ {qs : List Addr} {dss : List (List PyData)}, x ∉ qs → Paired (fun q ds => L' q = some (ds.map AV.d)) qs dss → Paired (fun q ds => put L' x v q = some (ds.map AV.d)) qs dss
  | _, _, _, .nil => .nil
  | _, _, h, .cons e t => .cons (by rw [put_ne fun z => h (by rw [← z]; exact List.mem_cons_self)]; exact e) (paired_put (fun z => h (List.mem_cons_of_mem _ z)) t)
theorem Nest.new {L : LS} {a : Addr} {qs : List Addr} {dss : List (List PyData)} {L' : LS} (n : Nest L a qs dss L') {p : Addr} (hp : L' p = none) : Nest L a (qs ++ [p]) (dss ++ [[]]) (put (put L' p []) a ((qs ++ [p]).map AV.p)) := by
  have hn : p ∉ a :: qs := fun z => by
    obtain ⟨o, e⟩ := n.some_ z
    rw [hp] at e
    cases e
  have pa : p ≠ a := fun z => hn (by rw [z]; exact List.mem_cons_self)
  have aq : a ∉ qs := (List.nodup_cons.mp n.nd).1
  refine ⟨put_same, ?_, ?_, ?_⟩
  · refine Paired.snoc (paired_put aq (paired_put (fun z => hn (List.mem_cons_of_mem _ z)) n.low)) ?_
    rw [put_ne pa, put_same]
    rfl
  · rw [← List.cons_append]
    refine List.nodup_append.mpr ⟨n.nd, by simp, fun x hx y hy => ?_⟩
    rw [List.mem_singleton.mp hy]
    rintro rfl
    exact hn hx
  · rw [← n.back]
    funext b
    unfold delAll put
    by_cases h1 : b ∈ a :: qs
    · rw [if_pos h1, if_pos (by rw [← List.cons_append]; exact List.mem_append_left _ h1)]
    · rw [if_neg h1]
      by_cases h2 : b = p
      · subst h2
        rw [if_pos (by simp), hp]
      · rw [if_neg (by rw [← List.cons_append]; exact fun z => (List.mem_append.mp z).elim h1 fun z => h2 (List.mem_singleton.mp z)), if_neg fun z => h1 (by rw [z]; exact List.mem_cons_self), if_neg h2]
theorem paired_snoc {α β : Type} {R : α → β → Prop} : ∀ {m : List β} {y : β} {l : List α}, Paired R l (m ++ [y]) → ∃ l0 x, l = l0 ++ [x] ∧ Paired R l0 m ∧ R x y
  | [], _, _, .cons h .nil => ⟨[], _, rfl, .nil, h⟩
  | z :: m, y, _, .cons h t => by
    obtain ⟨l0, x, e, h1, h2⟩ := paired_snoc (m := m) t
    exact ⟨_ :: l0, x, by rw [e]; rfl, .cons h h1, h2⟩
theorem Nest.app {L : LS} {a : Addr} {qs : List Addr} {dss : List (List PyData)} {ds : List PyData} {L' : LS} (n : Nest L a qs (dss ++ [ds]) L') : ∃ q0 q, qs = q0 ++ [q] ∧ L' q = some (ds.map AV.d) ∧ ∀ d, Nest L a qs (dss ++ [ds ++ [d]]) (put L' q (ds.map AV.d ++ [.d d])) := by
  obtain ⟨q0, q, e, h1, h2⟩ := paired_snoc n.low
  refine ⟨q0, q, e, h2, fun d => ?_⟩
  have nd := n.nd
  subst e
  have aq : a ≠ q := fun z => (List.nodup_cons.mp nd).1 (by rw [z]; simp)
  have qq : q ∉ q0 := fun z => (List.nodup_append.mp (List.nodup_cons.mp nd).2).2.2 q z q (by simp) rfl
  refine ⟨by rw [put_ne aq]; exact n.top, Paired.snoc (paired_put qq h1) (by rw [put_same, List.map_append]; rfl), nd, ?_⟩
  rw [← n.back]
  funext b
  unfold delAll put
  by_cases hb : b ∈ a :: (q0 ++ [q])
  · rw [if_pos hb, if_pos hb]
  · rw [if_neg hb, if_neg hb, if_neg fun z => hb (by rw [z]; simp)]
theorem atI_last {α : Type} (l : List α) (x : α) : atI (l ++ [x]) (-1) = some x := by
  unfold atI ixN
  rw [if_neg (by omega), if_pos (by rw [List.length_append]; simp; omega)]
  have e : ((-1 : Int) + ((l ++ [x]).length : Nat)).toNat = l.length := by
    rw [List.length_append]
    simp
    omega
  show (l ++ [x])[_]? = _
  rw [e, List.getElem?_append_right (Nat.le_refl _), Nat.sub_self]
  rfl

/-! ### lots of neighbours -/
def addLast (l : List (List Nat)) (i : Nat) : List (List Nat) := l.dropLast ++ [l.getLast?.getD [] ++ [i]]
theorem addLast_snoc (l : List (List Nat)) (r : List Nat) (i : Nat) : addLast (l ++ [r]) i = l ++ [r ++ [i]] := by
  unfold addLast
  simp
def lotsTo (nw : Nat → Bool) : Nat → List (List Nat)
  | 0 => []
  | i + 1 => if nw i then lotsTo nw i ++ [[i]] else addLast (lotsTo nw i) i
theorem snoc_of {α : Type} : ∀ l : List α, l ≠ [] → ∃ l0 x, l = l0 ++ [x]
  | [], h => absurd rfl h
  | [x], _ => ⟨[], x, rfl⟩
  | x :: y :: l, _ => by
    obtain ⟨l0, z, e⟩ := snoc_of (y :: l) (by simp)
    exact ⟨x :: l0, z, by rw [e]; rfl⟩
theorem lotsTo_ne {nw : Nat → Bool} (h0 : nw 0 = true) : ∀ i, lotsTo nw (i + 1) ≠ []
  | i => by
    unfold lotsTo
    split
    · simp
    · unfold addLast
      simp
theorem lotsTo_len {nw : Nat → Bool} : ∀ i, (lotsTo nw i).length ≤ i
  | 0 => Nat.le_refl _
  | i + 1 => by
    have := lotsTo_len (nw := nw) i
    unfold lotsTo
    split
    · rw [List.length_append]
      show _ + 1 ≤ _
      omega
    · unfold addLast
      rw [List.length_append, List.length_dropLast]
      show _ + 1 ≤ _
      omega
theorem lotsTo_mem {nw : Nat → Bool} (h0 : nw 0 = true) : ∀ i, ∀ r ∈ lotsTo nw i, r.length ≤ i ∧ ∀ k ∈ r, k < i
  | 0, r, h => by cases h
  | i + 1, r, h => by
    unfold lotsTo at h
    split at h
    · rcases List.mem_append.mp h with h | h
      · obtain ⟨h1, h2⟩ := lotsTo_mem h0 i r h
        exact ⟨by omega, fun k hk => by have := h2 k hk; omega⟩
      · rw [List.mem_singleton.mp h]
        exact ⟨by simp, fun k hk => by rw [List.mem_singleton.mp hk]; omega⟩
    · rename_i hn
      have hi : i ≠ 0 := fun e => hn (by rw [e]; exact h0)
      obtain ⟨j, rfl⟩ : ∃ j, i = j + 1 := ⟨i - 1, by omega⟩
      obtain ⟨l0, x, e⟩ := snoc_of _ (lotsTo_ne (nw := nw) h0 j)
      rw [e, addLast_snoc] at h
      rcases List.mem_append.mp h with h | h
      · obtain ⟨h1, h2⟩ := lotsTo_mem h0 (j + 1) r (by rw [e]; exact List.mem_append_left _ h)
        exact ⟨by omega, fun k hk => by have := h2 k hk; omega⟩
      · obtain ⟨h1, h2⟩ := lotsTo_mem h0 (j + 1) x (by rw [e]; simp)
        rw [List.mem_singleton.mp h]
        refine ⟨by rw [List.length_append]; simp; omega, fun k hk => ?_⟩
        rcases List.mem_append.mp hk with hk | hk
        · have := h2 k hk
          omega
        · rw [List.mem_singleton.mp hk]
          omega
def nwR (ps : List Part) (i : Nat) : Bool := i == 0 || !((pt ps i).r == (pt ps (i - 1)).r)
def nwL (ps : List Part) (i : Nat) : Bool := i == 0 || !((pt ps i).r == (pt ps (i - 1)).r && (pt ps i).z == (pt ps (i - 1)).z)
def runsM (ps : List Part) : List (List Nat) := lotsTo (nwR ps) ps.length
def lotsM (ps : List Part) : List (List Nat) := lotsTo (nwL ps) ps.length
def dLots (l : List (List Nat)) : List (List PyData) := l.map fun r => (nats r).map PyData.int
theorem dLots_d (l : List (List Nat)) : PyData.list ((dLots l).map PyData.list) = dLists (l.map nats) := by
  unfold dLots dLists
  rw [List.map_map, List.map_map]
  rfl
theorem dLots_snoc (l : List (List Nat)) (r : List Nat) : dLots (l ++ [r]) = dLots l ++ [(nats r).map PyData.int] := by
  unfold dLots
  rw [List.map_append]
  rfl
theorem nats_snoc (r : List Nat) (i : Nat) : (nats (r ++ [i])).map PyData.int = (nats r).map PyData.int ++ [.int (i : Int)] := by
  unfold nats
  rw [List.map_append, List.map_append]
  rfl
section
variable {P : Program} {w : World} {K : PySem.W.Frag} {mg : Str → Option Value} {base : Heap} {C : Addr} {tk : Tok} {aR aA aP : Addr}
theorem or_two {b1 nw : Bool} {S N U : Prop} (h1 : b1 = true → nw = true) (hS : nw = true → S) (hN : nw = false → N) (hU : b1 = false → (nw = true → S) → (nw = false → N) → U) : (b1 = true → (true = true → S) ∧ (true = false → N)) ∧ (b1 = false → U) :=
  ⟨fun h => ⟨fun _ => hS (h1 h), nofun⟩, fun h => hU h hS hN⟩
theorem nest_len {L : LS} {a : Addr} {nw : Nat → Bool} {i : Nat} {L' : LS} {qs : List Addr} (n : Nest L a qs (dLots (lotsTo nw i)) L') : qs.length ≤ i := by
  rw [n.low.length]
  unfold dLots
  rw [List.length_map]
  exact lotsTo_len i
def F_runs_of : List AV → LS → AK → Prop := fun avs L Q => ∃ (pg : Int) (ps : List Part), avs = [.pl pg (encPs ps)] ∧ OkPlan pg ps ∧ Q (.d (dLists ((runsM ps).map nats))) L
theorem ok_runs_of (T : Txt K mg C tk aR aA aP) (D : Def K mg "runs_of" s_runs_of) : FnG P w K mg base C 1 "runs_of" F_runs_of := by
  refine fnG D sc_runs_of ?len (fun _ _ _ _ _ _ us hl => match us, hl with | [_], _ => rfl) (fun f cdv A outer s H E hr avs L Q h => ?_)
  case len =>
    rintro avs L Q ⟨p, d, rfl, _⟩
    rfl
  have nd := (sc_runs_of).nd
  have hu := hr.units
  have hu1 := hu_of hr
  have hu65 : (A.deeper (envOfC "runs_of" (defScope s_runs_of) s.heap.objs.size f cdv)).units + 65 < cLine := by
    have := hr.un
    omega
  obtain ⟨pg, ps, rfl, o, q⟩ := h
  have h5 := o.len5
  refine ⟨_, _, (ass_cons (as_set 1 nd (ae_lstM aa_nil))
      (ass_cons (as_for (ai_eT K rfl T.enumerate_ (aa_cons (ae_parts K T.cl T.nParts (ae_var 0)) aa_nil)) (ag_tup K (n := 2) rfl (ags_cons (ag_name 2 nd) (ags_cons (ag_name 3 nd) ags_nil))) (ass_cons (as_if (AW.toT (aw_or (at_cmp (ao_eq K hu) (ae_var 2) ae_int) (aw_or1 (at_cmp (ao_ne K hu) (ae_ix (ai_tup K) (ae_var 3) ae_int) (ae_ix (ai_tup K) (ae_ix (ai_tup K) (ae_parts K T.cl T.nParts (ae_var 0)) (ae_op ao_sub (ae_var 2) ae_int)) ae_int))))) (ass_one (as_expr (ae_app K (ae_var 1) (aa_cons (ae_lstM aa_nil) aa_nil)))) ass_nil)
      (ass_one (as_expr (ae_app K (ae_ix (ai_list K) (ae_var 1) (ae_neg ae_int)) (aa_cons (ae_var 2) aa_nil))))))
      (ass_one (as_ret (ae_varFF 1))))), ?_⟩
  refine ⟨Nat.zero_le _, fun a ha => ?_⟩
  refine aFor_of ((enumF 0 (encPs ps)).map AV.d) (fun i env' L' => ∃ (qs : List Addr) (x2 x3 : Option AV), env' = [some (.pl pg (encPs ps)), some (.p a), x2, x3] ∧ Nest L a qs (dLots (lotsTo (nwR ps) i)) L') (fun R r => r) ⟨[], none, none, rfl, Nest.start ha⟩ ?_ ?_
  · rintro i av env' L' hi ⟨qs, x2, x3, rfl, n⟩
    obtain ⟨hk, rfl⟩ := enum_turn hi
    have hq := nest_len n
    refine ⟨rfl, ?_⟩
    refine ⟨_, _, rfl, rfl, shaped_int _, shaped_int _, ?_⟩
    rw [eqv_int]
    refine or_two (nw := nwR ps i) (fun h => ?_) (fun h => ?_) (fun h => ?_) (fun hb hS hN => ?_)
    · have e : i = 0 := by simpa using h
      rw [e]
      rfl
    · refine ⟨⟨_, n.top⟩, Nat.zero_le _, fun p hp => ?_⟩
      have pa : a ≠ p := fun e => by
        rw [← e, n.top] at hp
        cases hp
      have n1 := n.new hp
      rw [List.map_append] at n1
      obtain ⟨q0, q1, e, h1, h2⟩ := n1.app
      have h2 := h2 (.int (i : Int))
      have e0 : dLots (lotsTo (nwR ps) i) ++ [[] ++ [.int (i : Int)]] = dLots (lotsTo (nwR ps) (i + 1)) := by
        show _ = dLots (if nwR ps i = true then _ else _)
        rw [if_pos h, dLots_snoc]
        rfl
      rw [e0] at h2
      refine ⟨qs.map AV.p, by rw [put_ne pa]; exact n.top, by rw [List.length_map]; omega, ?_⟩
      obtain ⟨e1, e2⟩ := List.append_inj' e rfl
      cases e2
      subst e1
      exact ⟨_, .p p, n1.top, (by rw [List.map_append]; exact atI_last _ _), ⟨_, h1⟩, _, h1, (by show (0 : Nat) < 100000; decide), qs ++ [p], _, _, rfl, h2⟩
    · have hi0 : i ≠ 0 := fun e => by
        rw [e] at h
        cases h
      obtain ⟨j, rfl⟩ : ∃ j, i = j + 1 := ⟨i - 1, by omega⟩
      obtain ⟨l0, r, e⟩ := snoc_of _ (lotsTo_ne (nw := nwR ps) rfl j)
      have hr := (lotsTo_mem (nw := nwR ps) rfl (j + 1) r (by rw [e]; simp)).1
      have e0 : lotsTo (nwR ps) (j + 1 + 1) = l0 ++ [r ++ [j + 1]] := by
        show (if nwR ps (j + 1) = true then _ else _) = _
        rw [if_neg (by rw [h]; decide), e, addLast_snoc]
      rw [e, dLots_snoc] at n
      obtain ⟨q0, q1, eq, h1, h2⟩ := n.app
      have h2 := h2 (.int ((j + 1 : Nat) : Int))
      rw [← nats_snoc, ← dLots_snoc, ← e0] at h2
      subst eq
      refine ⟨_, .p q1, n.top, ?_, ⟨_, h1⟩, _, h1, ?_, _, _, _, rfl, h2⟩
      · rw [List.map_append]
        exact atI_last _ _
      · unfold nats
        rw [List.length_map, List.length_map, List.length_map]
        omega
    · have hi0 : i ≠ 0 := fun e => by
        rw [e] at hb
        cases hb
      refine ⟨_, rfl, _, enc_at1 hk (by omega), _, rfl, _, _, rfl, rfl, shaped_str (o.rS hk), shaped_str (o.rS (by omega)), ?_⟩
      rw [eqv_str]
      have e : nwR ps i = !((pt ps i).r == (pt ps (i - 1)).r) := by
        unfold nwR
        have : (i == 0) = false := by simpa using hi0
        rw [this, Bool.false_or]
      rw [e] at hS hN
      exact ⟨hS, hN⟩
  · rintro env' L' ⟨qs, x2, x3, rfl, n⟩
    rw [enumF_map_len, enc_len] at n
    refine ⟨qs, _, n.top, n.low, ?_⟩
    rw [n.back, dLots_d]
    exact q
end
end VS

set_option Elab.async false
set_option linter.all false
set_option maxRecDepth 100000
set_option maxHeartbeats 4000000
set_option autoImplicit false
namespace VS
open PySem L2 PySem.Spec PyProof.Rows

/-! ### the first of the least -/
def IsPick {α : Type} (f : α → Int) (l : List α) (x : α) : Prop := ∃ l1 l2, l = l1 ++ x :: l2 ∧ (∀ y ∈ l1, f x < f y) ∧ ∀ y ∈ l2, f x ≤ f y
theorem IsPick.mem {α : Type} {f : α → Int} {l : List α} {x : α} (h : IsPick f l x) : x ∈ l := by
  obtain ⟨l1, l2, e, _⟩ := h
  rw [e]
  simp
theorem IsPick.le {α : Type} {f : α → Int} {l : List α} {x : α} (h : IsPick f l x) : ∀ y ∈ l, f x ≤ f y := by
  obtain ⟨l1, l2, e, h1, h2⟩ := h
  intro y hy
  rw [e] at hy
  rcases List.mem_append.mp hy with hy | hy
  · exact Int.le_of_lt (h1 y hy)
  · rcases List.mem_cons.mp hy with e | hy
    · rw [e]
      exact Int.le_refl _
    · exact h2 y hy
theorem IsPick.one {α : Type} {f : α → Int} (x : α) : IsPick f [x] x := ⟨[], [], rfl, nofun, nofun⟩
theorem IsPick.keep {α : Type} {f : α → Int} {l : List α} {x y : α} (h : IsPick f l x) (n : ¬ f y < f x) : IsPick f (l ++ [y]) x := by
  obtain ⟨l1, l2, e, h1, h2⟩ := h
  refine ⟨l1, l2 ++ [y], by rw [e]; simp, h1, fun z hz => ?_⟩
  rcases List.mem_append.mp hz with hz | hz
  · exact h2 z hz
  · rw [List.mem_singleton.mp hz]
    omega
theorem IsPick.swap {α : Type} {f : α → Int} {l : List α} {x y : α} (h : IsPick f l x) (n : f y < f x) : IsPick f (l ++ [y]) y :=
  ⟨l, [], rfl, fun z hz => by have := h.le z hz; omega, nofun⟩
/-- what a loop keeps of the best -/
def PickSt {α : Type} (f : α → Int) (l : List α) (b g : AV) (enc : α → PyData) : Prop := (l = [] ∧ b = .d .none ∧ g = .d .none) ∨ ∃ x, IsPick f l x ∧ b = .d (.int (f x)) ∧ g = .d (enc x)

theorem ords_map {α β : Type} (f : α → β) : ∀ (n : Nat) (l : List α), ords n (l.map f) = (ords n l).map (List.map f)
  | 0, _ => rfl
  | n + 1, l => by
    unfold ords
    have e : (l.map f).isEmpty = l.isEmpty := by cases l <;> rfl
    rw [e]
    split
    · rfl
    · rw [List.map_flatMap, List.length_map]
      congr 1
      funext i
      rw [List.getElem?_map]
      cases h : l[i]? with
      | none => rfl
      | some x =>
        show List.map _ (ords n ((l.map f).take i ++ (l.map f).drop (i + 1))) = List.map _ (List.map _ _)
        rw [← List.map_take, ← List.map_drop, ← List.map_append, ords_map f n, List.map_map, List.map_map]
        rfl
theorem ords_sub {α : Type} : ∀ (n : Nat) (l : List α), ∀ r ∈ ords n l, ∀ k ∈ r, k ∈ l
  | 0, _, r, h, k, hk => by
    simp [ords] at h
    rw [h] at hk
    cases hk
  | n + 1, l, r, h, k, hk => by
    unfold ords at h
    split at h
    · simp at h
      rw [h] at hk
      cases hk
    · obtain ⟨j, hj, h2⟩ := List.mem_flatMap.mp h
      rw [List.getElem?_eq_getElem (List.mem_range.mp hj)] at h2
      obtain ⟨y, h3, rfl⟩ := List.mem_map.mp h2
      rcases List.mem_cons.mp hk with e | hk
      · rw [e]
        exact List.getElem_mem _
      · rcases List.mem_append.mp (ords_sub n _ y h3 k hk) with h4 | h4
        · exact List.mem_of_mem_take h4
        · exact List.mem_of_mem_drop h4
theorem nats_ords (ks : List Nat) : ords 5 (nats ks) = (ords 5 ks).map nats := ords_map _ 5 ks
def bitsOf (ps : List Part) (run : List Nat) : List Nat := run.filter fun k => !(pt ps k).z
def zerosOf (ps : List Part) (run : List Nat) : List Nat := run.filter fun k => (pt ps k).z
def runOrd (ps : List Part) (run : List Nat) : List (List Nat) := (ords 5 (bitsOf ps run)).flatMap fun a => (ords 5 (zerosOf ps run)).map (a ++ ·)
def wt (pg : Int) (ps : List Part) (ss : List Int) (last : Bool) (o : List Nat) : Int := if last then eor ps ss 0 o else pagesM pg (eor ps ss 0 o)
section
variable {P : Program} {w : World} {K : PySem.W.Frag} {mg : Str → Option Value} {base : Heap} {C : Addr} {tk : Tok} {aR aA aP : Addr}
def F_best_of_run : List AV → LS → AK → Prop := fun avs L Q => ∃ (pg : Int) (ps : List Part) (ss : List Int) (run : List Nat) (last : Bool), avs = [.pl pg (encPs ps), .d (dInts ss), .d (dInts (nats run)), .d (.bool last)] ∧ OkPlan pg ps ∧ ss.length = ps.length ∧
  (∀ k ∈ run, k < ps.length) ∧ run.length ≤ 5 ∧ ∀ o, IsPick (wt pg ps ss last) (runOrd ps run) o → Q (.d (dInts (nats o))) L
theorem nats_data (ks : List Nat) : (nats ks).map PyData.int = ks.map fun (k : Nat) => PyData.int (k : Int) := by
  unfold nats
  rw [List.map_map]
  rfl
theorem nats_app (a b : List Nat) : nats (a ++ b) = nats a ++ nats b := List.map_append
theorem ords_pos {α : Type} : ∀ (n : Nat) (l : List α), l.length ≤ n → ords n l ≠ []
  | 0, _, _ => by simp [ords]
  | n + 1, l, h => by
    unfold ords
    split
    · simp
    · rename_i hn
      have hl : 0 < l.length := by
        cases l with
        | nil => exact absurd rfl hn
        | cons x l => simp
      intro e
      rw [List.flatMap_eq_nil_iff] at e
      have e := e 0 (List.mem_range.mpr hl)
      rw [List.getElem?_eq_getElem hl] at e
      have e : List.map _ _ = [] := e
      rw [List.map_eq_nil_iff] at e
      refine ords_pos n _ ?_ e
      rw [List.length_append, List.length_take, List.length_drop]
      omega
theorem dLists_av (l : List (List Nat)) : ((l.map nats).map dInts).map AV.d = l.map fun o => AV.d (dInts (nats o)) := by
  rw [List.map_map, List.map_map]
  rfl
theorem ok_best_of_run (T : Txt K mg C tk aR aA aP) (D : Def K mg "best_of_run" s_best_of_run) (G_all_orders : FnG P w K mg base C 6 "all_orders" (F_all_orders 5)) (G_end_of_run : FnG P w K mg base C 2 "end_of_run" F_end_of_run) (G_pages_up_to : FnG P w K mg base C 2 "pages_up_to" F_pages_up_to) :
    FnG P w K mg base C 7 "best_of_run" F_best_of_run := by
  refine fnG D sc_best_of_run ?len (fun _ _ _ _ _ _ us hl => match us, hl with | [_, _, _, _], _ => rfl) (fun f cdv A outer s H E hr avs L Q h => ?_)
  case len =>
    rintro avs L Q ⟨p, d, e, e2, e3, rfl, _⟩
    rfl
  have nd := (sc_best_of_run).nd
  have hu := hr.units
  have hu1 := hu_of hr
  have hu65 : (A.deeper (envOfC "best_of_run" (defScope s_best_of_run) s.heap.objs.size f cdv)).units + 65 < cLine := by
    have := hr.un
    omega
  obtain ⟨pg, ps, ss, run, last, rfl, o, hl, hk, h5, q⟩ := h
  refine ⟨_, _, (ass_cons (as_set 4 nd (ae_fn K G_all_orders (hr.mono (by first | decide | omega)) (aa_cons (ae_lc [("number", 12)] nd (ai_l K (ae_var 2)) (by kernel_rfl) (fun _ _ _ _ _ => (ag_name 12 nd)) (fun _ _ _ _ _ => (ats_one (at_not (at_val (ae_ix (ai_tup K) (ae_ix (ai_tup K) (ae_parts K T.cl T.nParts (ae_var 0)) (ae_var 12)) ae_int))))) (fun _ _ _ _ _ => (ae_var 12))) aa_nil)))
      (ass_cons (as_set 5 nd (ae_fn K G_all_orders (hr.mono (by first | decide | omega)) (aa_cons (ae_lc [("number", 12)] nd (ai_l K (ae_var 2)) (by kernel_rfl) (fun _ _ _ _ _ => (ag_name 12 nd)) (fun _ _ _ _ _ => (ats_one (at_val (ae_ix (ai_tup K) (ae_ix (ai_tup K) (ae_parts K T.cl T.nParts (ae_var 0)) (ae_var 12)) ae_int)))) (fun _ _ _ _ _ => (ae_var 12))) aa_nil)))
      (ass_cons (as_asg (ae_tup (aa_cons ae_non (aa_cons ae_non aa_nil))) (ag_tup K (n := 2) rfl (ags_cons (ag_name 7 nd) (ags_cons (ag_name 8 nd) ags_nil))))
      (ass_cons (as_for (ai_l K (ae_var 4)) (ag_name 6 nd) (ass_one (as_for (ai_l K (ae_var 5)) (ag_name 9 nd) (ass_cons (as_set 10 nd (ae_fn K G_end_of_run (hr.mono (by first | decide | omega)) (aa_cons (ae_var 0) (aa_cons (ae_var 1) (aa_cons (ae_op ao_cat (ae_var 6) (ae_var 9)) aa_nil)))))
      (ass_cons (as_set 11 nd (ae_if (at_val (ae_var 3)) (ae_var 10) (ae_fn K G_pages_up_to (hr.mono (by first | decide | omega)) (aa_cons (ae_var 0) (aa_cons (ae_var 10) aa_nil)))))
      (ass_one (as_if (AW.toT (aw_or (at_cmp ao_isN (ae_var 7) ae_non) (aw_or1 (at_cmp ao_lt (ae_var 11) (ae_var 7))))) (ass_one (as_par 7 8 rfl nd (aa_cons (ae_var 11) (aa_cons (ae_op ao_cat (ae_var 6) (ae_var 9)) aa_nil)))) ass_nil)))))))
      (ass_one (as_ret (ae_var 8))))))), ?_⟩
  have hb5 : (bitsOf ps run).length ≤ 5 := Nat.le_trans (List.length_filter_le _ _) h5
  have hz5 : (zerosOf ps run).length ≤ 5 := Nat.le_trans (List.length_filter_le _ _) h5
  refine lc_filterT run (fun (k : Nat) => AV.d (.int (k : Int))) (fun k => !(pt ps k).z) (fun (k : Nat) => .int (k : Int)) (fun R r => by rw [← nats_map] at r; exact r) (by omega) (fun k S1 S0 hm s1 s0 => ?_) ?_
  · exact ⟨_, enc_at (hk k hm), _, rfl, s1, s0⟩
  refine ⟨nats (bitsOf ps run), by rw [← nats_data]; rfl, by unfold nats; rw [List.length_map]; exact hb5, ?_⟩
  refine lc_filterT run (fun (k : Nat) => AV.d (.int (k : Int))) (fun k => (pt ps k).z) (fun (k : Nat) => .int (k : Int)) (fun R r => by rw [← nats_map] at r; exact r) (by omega) (fun k S1 S0 hm s1 s0 => ?_) ?_
  · exact ⟨_, enc_at (hk k hm), _, rfl, s1, s0⟩
  refine ⟨nats (zerosOf ps run), by rw [← nats_data]; rfl, by unfold nats; rw [List.length_map]; exact hz5, ?_⟩
  rw [nats_ords, nats_ords]
  refine ⟨_, rfl, (by show (2 : Nat) ≤ 100000; decide), rfl, ?_⟩
  have hpos := ords_pos 5 _ hz5
  have hpos2 := ords_pos 5 _ hb5
  unfold runOrd at q
  have mA : ∀ o ∈ ords 5 (bitsOf ps run), o.length ≤ 5 ∧ ∀ k ∈ o, k < ps.length := fun o ho => ⟨ords_mem_len 5 _ o ho, fun k hm => hk k ((List.mem_filter.mp (ords_sub 5 _ o ho k hm)).1)⟩
  have mZ : ∀ o ∈ ords 5 (zerosOf ps run), o.length ≤ 5 ∧ ∀ k ∈ o, k < ps.length := fun o ho => ⟨ords_mem_len 5 _ o ho, fun k hm => hk k ((List.mem_filter.mp (ords_sub 5 _ o ho k hm)).1)⟩
  generalize ords 5 (bitsOf ps run) = As at q mA hpos2
  generalize ords 5 (zerosOf ps run) = Zs at q mZ hpos
  refine aFor_of (As.map fun o => AV.d (dInts (nats o))) (fun i env' L' => ∃ (x6 x9 x10 x11 : Option AV) (b g : AV), env' = [some (.pl pg (encPs ps)), some (.d (dInts ss)), some (.d (dInts (nats run))), some (.d (.bool last)), some (.d (dLists (As.map nats))), some (.d (dLists (Zs.map nats))), x6, some b, some g, x9, x10, x11, none] ∧ L' = L ∧
    PickSt (wt pg ps ss last) ((As.take i).flatMap fun a => Zs.map (a ++ ·)) b g (fun o => dInts (nats o))) (fun R r => by rw [← dLists_av] at r; exact r) ⟨none, none, none, none, _, _, rfl, rfl, .inl ⟨rfl, rfl, rfl⟩⟩ ?_ ?_
  · rintro i av env' L' hi ⟨x6, x9, x10, x11, b, g, rfl, rfl, st⟩
    rw [List.getElem?_map] at hi
    obtain ⟨a, ha, rfl⟩ := Option.map_eq_some_iff.mp hi
    obtain ⟨a5, ak⟩ := mA a (List.mem_of_getElem? ha)
    rw [take_succ ha, List.flatMap_append, List.flatMap_cons, List.flatMap_nil, List.append_nil]
    generalize (As.take i).flatMap (fun a => Zs.map (a ++ ·)) = done at st
    refine aFor_of (Zs.map fun o => AV.d (dInts (nats o))) (fun j env' M => ∃ (x9 x10 x11 : Option AV) (b g : AV), env' = [some (.pl pg (encPs ps)), some (.d (dInts ss)), some (.d (dInts (nats run))), some (.d (.bool last)), some (.d (dLists (As.map nats))), some (.d (dLists (Zs.map nats))), some (.d (dInts (nats a))), some b, some g, x9, x10, x11, none] ∧ M = L' ∧
      PickSt (wt pg ps ss last) (done ++ (Zs.take j).map (a ++ ·)) b g (fun o => dInts (nats o))) (fun R r => by rw [← dLists_av] at r; exact r) ⟨_, _, _, _, _, rfl, rfl, by rw [List.take_zero, List.map_nil, List.append_nil]; exact st⟩ ?_ ?_
    · rintro j av env' M hj ⟨x9, x10, x11, b, g, rfl, rfl, st⟩
      rw [List.getElem?_map] at hj
      obtain ⟨z, hz, rfl⟩ := Option.map_eq_some_iff.mp hj
      obtain ⟨z5, zk⟩ := mZ z (List.mem_of_getElem? hz)
      rw [take_succ hz, List.map_append, ← List.append_assoc]
      generalize done ++ (Zs.take j).map (a ++ ·) = seen at st
      have hlen : (a ++ z).length ≤ 1000 := by
        rw [List.length_append]
        omega
      have cat : (nats a).map PyData.int ++ (nats z).map PyData.int = (nats (a ++ z)).map PyData.int := by rw [nats_app, List.map_append]
      have small : ((nats a).map PyData.int).length + ((nats z).map PyData.int).length ≤ 100000 := by
        unfold nats
        rw [List.length_map, List.length_map, List.length_map, List.length_map]
        omega
      refine ⟨small, pg, ps, ss, a ++ z, by rw [cat]; rfl, o, hl, fun k hm => (List.mem_append.mp hm).elim (ak k) (zk k), hlen, ?_⟩
      have e1 : last = true → eor ps ss 0 (a ++ z) = wt pg ps ss last (a ++ z) := fun h => by
        unfold wt
        rw [h]
        rfl
      have e2 : last = false → pagesM pg (eor ps ss 0 (a ++ z)) = wt pg ps ss last (a ++ z) := fun h => by
        unfold wt
        rw [h]
        rfl
      refine ⟨fun hlast => ?_, fun hlast => ⟨pg, ps, _, rfl, o, ?_⟩⟩
      · rw [e1 hlast]
        rcases st with ⟨rfl, rfl, rfl⟩ | ⟨x, hx, rfl, rfl⟩
        · refine ⟨fun _ => ⟨fun _ => ⟨small, _, _, _, _, _, rfl, rfl, .inr ⟨a ++ z, IsPick.one _, rfl, by rw [cat]; rfl⟩⟩, nofun⟩, nofun⟩
        · refine ⟨nofun, fun _ => ⟨fun hlt => ⟨small, _, _, _, _, _, rfl, rfl, .inr ⟨a ++ z, hx.swap (of_decide_eq_true hlt), rfl, by rw [cat]; rfl⟩⟩, fun hge => ⟨_, _, _, _, _, rfl, rfl, .inr ⟨x, hx.keep (of_decide_eq_false hge), rfl, rfl⟩⟩⟩⟩
      · rw [e2 hlast]
        rcases st with ⟨rfl, rfl, rfl⟩ | ⟨x, hx, rfl, rfl⟩
        · refine ⟨fun _ => ⟨fun _ => ⟨small, _, _, _, _, _, rfl, rfl, .inr ⟨a ++ z, IsPick.one _, rfl, by rw [cat]; rfl⟩⟩, nofun⟩, nofun⟩
        · refine ⟨nofun, fun _ => ⟨fun hlt => ⟨small, _, _, _, _, _, rfl, rfl, .inr ⟨a ++ z, hx.swap (of_decide_eq_true hlt), rfl, by rw [cat]; rfl⟩⟩, fun hge => ⟨_, _, _, _, _, rfl, rfl, .inr ⟨x, hx.keep (of_decide_eq_false hge), rfl, rfl⟩⟩⟩⟩
    · rintro env' M ⟨x9, x10, x11, b, g, rfl, rfl, st⟩
      rw [List.length_map, List.take_length] at st
      exact ⟨_, _, _, _, _, _, rfl, rfl, st⟩
  · rintro env' L' ⟨x6, x9, x10, x11, b, g, rfl, rfl, st⟩
    rw [List.length_map, List.take_length] at st
    rcases st with ⟨h0, _, _⟩ | ⟨x, hx, rfl, rfl⟩
    · rw [List.flatMap_eq_nil_iff] at h0
      obtain ⟨a, as, e⟩ := List.exists_cons_of_ne_nil hpos2
      have := h0 a (by rw [e]; exact List.mem_cons_self)
      rw [List.map_eq_nil_iff] at this
      exact absurd this hpos
    · exact q x hx
end
end VS

set_option Elab.async false
set_option linter.all false
set_option maxRecDepth 100000
set_option maxHeartbeats 4000000
set_option autoImplicit false
namespace VS
open PySem L2 PySem.Spec PyProof.Rows
theorem runOrd_mem {ps : List Part} {run : List Nat} {o : List Nat} (h : o ∈ runOrd ps run) : o.length ≤ 10 ∧ ∀ k ∈ o, k ∈ run := by
  obtain ⟨a, ha, h2⟩ := List.mem_flatMap.mp h
  obtain ⟨z, hz, rfl⟩ := List.mem_map.mp h2
  have h3 := ords_mem_len 5 _ a ha
  have h4 := ords_mem_len 5 _ z hz
  refine ⟨by rw [List.length_append]; omega, fun k hk => ?_⟩
  rcases List.mem_append.mp hk with hk | hk
  · exact (List.mem_filter.mp (ords_sub 5 _ a ha k hk)).1
  · exact (List.mem_filter.mp (ords_sub 5 _ z hz k hk)).1
section
variable {P : Program} {w : World} {K : PySem.W.Frag} {mg : Str → Option Value} {base : Heap} {C : Addr} {tk : Tok} {aR aA aP : Addr}
/-- the best orders of the runs -/
def BestOs (pg : Int) (ps : List Part) (ss : List Int) (n : Nat) (os : List (List Nat)) : Prop := os.length = n ∧ ∀ i r, i < n → (runsM ps)[i]? = some r → ∃ o, os[i]? = some o ∧ IsPick (wt pg ps ss (i + 1 == (runsM ps).length)) (runOrd ps r) o
def F_best_order : List AV → LS → AK → Prop := fun avs L Q => ∃ (pg : Int) (ps : List Part) (d : PyData) (ss : List Int), avs = [.pl pg (encPs ps), .d d] ∧ OkPlan pg ps ∧ SzD d ss ∧ ss.length = ps.length ∧
  (∀ k, k < ps.length → (pt ps k).lo ≤ sz ss k ∧ sz ss k ≤ (pt ps k).hi) ∧ ∀ os, BestOs pg ps ss (runsM ps).length os → Q (.d (dInts (nats os.flatten))) L
theorem BestOs.snoc {pg : Int} {ps : List Part} {ss : List Int} {i : Nat} {os : List (List Nat)} {r o : List Nat} (h : BestOs pg ps ss i os) (hr : (runsM ps)[i]? = some r) (ho : IsPick (wt pg ps ss (i + 1 == (runsM ps).length)) (runOrd ps r) o) : BestOs pg ps ss (i + 1) (os ++ [o]) := by
  refine ⟨by rw [List.length_append, h.1]; rfl, fun j r' hj hr' => ?_⟩
  by_cases e : j = i
  · subst e
    rw [hr] at hr'
    cases hr'
    exact ⟨o, by rw [List.getElem?_append_right (by rw [h.1]; exact Nat.le_refl _), h.1, Nat.sub_self]; rfl, ho⟩
  · obtain ⟨o', h1, h2⟩ := h.2 j r' (by omega) hr'
    exact ⟨o', by rw [List.getElem?_append_left (by rw [h.1]; omega)]; exact h1, h2⟩
theorem ok_best_order (T : Txt K mg C tk aR aA aP) (D : Def K mg "best_order" s_best_order) (G_checked_sizes : FnG P w K mg base C 2 "checked_sizes" F_checked_sizes) (G_runs_of : FnG P w K mg base C 1 "runs_of" F_runs_of) (G_best_of_run : FnG P w K mg base C 7 "best_of_run" F_best_of_run) :
    FnG P w K mg base C 8 "best_order" F_best_order := by
  refine fnG D sc_best_order ?len (fun _ _ _ _ _ _ us hl => match us, hl with | [_, _], _ => rfl) (fun f cdv A outer s H E hr avs L Q h => ?_)
  case len =>
    rintro avs L Q ⟨p, d, e, e2, rfl, _⟩
    rfl
  have nd := (sc_best_order).nd
  have hu := hr.units
  have hu1 := hu_of hr
  have hu65 : (A.deeper (envOfC "best_order" (defScope s_best_order) s.heap.objs.size f cdv)).units + 65 < cLine := by
    have := hr.un
    omega
  obtain ⟨pg, ps, d, ss, rfl, o, hd, hl, hb, q⟩ := h
  have h5 := o.len5
  have hn : (runsM ps).length ≤ 5 := Nat.le_trans (lotsTo_len _) h5
  refine ⟨_, _, (ass_cons (as_par3 2 3 4 rfl nd (aa_cons (ae_fn K G_checked_sizes (hr.mono (by first | decide | omega)) (aa_cons (ae_var 0) (aa_cons (ae_var 1) aa_nil))) (aa_cons (ae_fn K G_runs_of (hr.mono (by first | decide | omega)) (aa_cons (ae_var 0) aa_nil)) (aa_cons (ae_lstM aa_nil) aa_nil))))
      (ass_cons (as_for (ai_e K rfl T.enumerate_ (aa_cons (ae_var 3) aa_nil)) (ag_tup K (n := 2) rfl (ags_cons (ag_name 5 nd) (ags_cons (ag_name 6 nd) ags_nil))) (ass_one (as_expr (ae_ext K (ae_var 4) (aa_cons (ae_fn K G_best_of_run (hr.mono (by first | decide | omega)) (aa_cons (ae_var 0) (aa_cons (ae_var 2) (aa_cons (ae_var 6) (aa_cons (ae_cmp (ao_eq K hu) (ae_var 5) (ae_op ao_sub (ae_callB (ac_len K) rfl T.len_ PySem.boot_len (aa_cons (ae_var 3) aa_nil)) ae_int)) aa_nil))))) aa_nil)))))
      (ass_one (as_ret (ae_varF 4))))), ?_⟩
  refine ⟨pg, ps, d, ss, rfl, o, hd, hl, hb, ?_⟩
  refine ⟨pg, ps, rfl, o, ?_⟩
  refine ⟨Nat.zero_le _, fun a ha => ?_⟩
  refine aFor_of ((enumF 0 (((runsM ps).map nats).map dInts)).map AV.d) (fun i env' L' => ∃ (os : List (List Nat)) (x5 x6 : Option AV), env' = [some (.pl pg (encPs ps)), some (.d d), some (.d (dInts ss)), some (.d (dLists ((runsM ps).map nats))), some (.p a), x5, x6] ∧
    L' = put L a (((nats os.flatten).map PyData.int).map AV.d) ∧ BestOs pg ps ss i os ∧ os.flatten.length ≤ 10 * i) (fun R r => r) ⟨[], none, none, rfl, rfl, ⟨rfl, fun i r h => absurd h (Nat.not_lt_zero _)⟩, Nat.le_refl _⟩ ?_ ?_
  · rintro i av env' L' hi ⟨os, x5, x6, rfl, rfl, bo, hf⟩
    obtain ⟨d, hd, rfl⟩ := enumD_turn hi
    rw [List.getElem?_map, List.getElem?_map, Option.map_map] at hd
    obtain ⟨r, hr, rfl⟩ := Option.map_eq_some_iff.mp hd
    have hin := (List.getElem?_eq_some_iff.mp hr).1
    obtain ⟨r5, rk⟩ := lotsTo_mem (nw := nwR ps) rfl ps.length r (List.mem_of_getElem? hr)
    refine ⟨rfl, ⟨_, put_same⟩, _, rfl, _, _, rfl, rfl, shaped_int _, shaped_int _, ?_⟩
    rw [eqv_int, List.length_map, List.length_map]
    have el : ((i : Int) == ((runsM ps).length : Int) - 1) = (i + 1 == (runsM ps).length) := by
      rw [Bool.eq_iff_iff]
      simp
      omega
    rw [el]
    refine ⟨pg, ps, ss, r, _, rfl, o, hl, rk, by omega, fun ob hob => ?_⟩
    have m := runOrd_mem hob.mem
    refine ⟨_, put_same, ?_, os ++ [ob], _, _, rfl, ?_, bo.snoc hr hob, ?_⟩
    · unfold nats
      rw [List.length_map, List.length_map, List.length_map, List.length_map, List.length_map]
      omega
    · rw [put_put, List.flatten_append, nats_app, List.map_append, List.map_append]
      show _ = put L a (_ ++ ((nats ([ob].flatten)).map PyData.int).map AV.d)
      rw [List.flatten_cons, List.flatten_nil, List.append_nil]
    · rw [List.flatten_append, List.length_append, List.flatten_cons, List.flatten_nil, List.append_nil]
      omega
  · rintro env' L' ⟨os, x5, x6, rfl, rfl, bo, hf⟩
    rw [enumF_map_len, List.length_map, List.length_map] at bo
    refine ⟨_, (by rw [put_same]; exact allD_map _), ?_⟩
    rw [del_put ha]
    exact q os bo

/-! ### the law's whole orders -/
def wholeOrd (ls : List (List Nat)) : List (List Nat) := ls.foldl (fun fs l => fs.flatMap fun r => (ords 5 l).map (r ++ ·)) [[]]
theorem wholeOrd_snoc (ls : List (List Nat)) (l : List Nat) : wholeOrd (ls ++ [l]) = (wholeOrd ls).flatMap fun r => (ords 5 l).map (r ++ ·) := by
  unfold wholeOrd
  rw [List.foldl_append]
  rfl
def F_law_whole_orders : List AV → LS → AK → Prop := fun avs L Q => ∃ (pg : Int) (ps : List Part), avs = [.d (.list (encPs ps))] ∧ OkPlan pg ps ∧ Q (.d (dLists ((wholeOrd (lotsM ps)).map nats))) L
theorem ords_fac {α : Type} : ∀ (n : Nat) (l : List α), l.length ≤ n → (ords n l).length ≤ fac l.length
  | 0, l, h => by
    have e : l = [] := List.length_eq_zero_iff.mp (by omega)
    rw [e]
    exact Nat.le_refl _
  | n + 1, l, h => by
    unfold ords
    split
    · rename_i he
      have e : l = [] := by simpa using he
      rw [e]
      exact Nat.le_refl _
    · rename_i hn
      obtain ⟨m, hm⟩ : ∃ m, l.length = m + 1 := by
        cases l with
        | nil => exact absurd rfl hn
        | cons x l => exact ⟨l.length, rfl⟩
      rw [hm]
      show _ ≤ (m + 1) * fac m
      refine flatMap_len_le _ (fac m) (m + 1) fun i hi => ?_
      rw [List.getElem?_eq_getElem (by omega : i < l.length)]
      show (List.map _ _).length ≤ _
      have hl : (l.take i ++ l.drop (i + 1)).length = m := by
        rw [List.length_append, List.length_take, List.length_drop]
        omega
      have := ords_fac n (l.take i ++ l.drop (i + 1)) (by omega)
      rw [hl] at this
      rw [List.length_map]
      exact this
theorem fac_mul (a : Nat) : ∀ b, fac a * fac b ≤ fac (a + b)
  | 0 => by
    show fac a * 1 ≤ _
    rw [Nat.mul_one]
    exact Nat.le_refl _
  | b + 1 => by
    show fac a * ((b + 1) * fac b) ≤ (a + b + 1) * fac (a + b)
    rw [Nat.mul_left_comm]
    exact Nat.mul_le_mul (by omega) (fac_mul a b)
theorem flatMap_le {α β : Type} (g : α → List β) (b : Nat) : ∀ l : List α, (∀ x ∈ l, (g x).length ≤ b) → (l.flatMap g).length ≤ l.length * b
  | [], _ => by simp
  | x :: l, h => by
    rw [List.flatMap_cons, List.length_append, List.length_cons, Nat.succ_mul]
    have h1 := h x List.mem_cons_self
    have h2 := flatMap_le g b l fun y hy => h y (List.mem_cons_of_mem _ hy)
    omega
theorem wholeOrd_fac : ∀ (ls : List (List Nat)) (fs : List (List Nat)) (m : Nat), (∀ l ∈ ls, l.length ≤ 5) → fs.length ≤ fac m → (ls.foldl (fun fs l => fs.flatMap fun r => (ords 5 l).map (r ++ ·)) fs).length ≤ fac (m + ls.flatten.length)
  | [], fs, m, _, h => h
  | l :: ls, fs, m, h5, h => by
    have h1 : (fs.flatMap fun r => (ords 5 l).map (r ++ ·)).length ≤ fac (m + l.length) := by
      refine Nat.le_trans (flatMap_le _ (fac l.length) fs fun x _ => ?_) (Nat.le_trans (Nat.mul_le_mul_right _ h) (fac_mul m l.length))
      rw [List.length_map]
      exact ords_fac 5 l (h5 l List.mem_cons_self)
    have := wholeOrd_fac ls _ (m + l.length) (fun l' h' => h5 l' (List.mem_cons_of_mem _ h')) h1
    rw [List.flatten_cons, List.length_append, ← Nat.add_assoc]
    exact this
theorem wholeOrd_mem : ∀ (ls : List (List Nat)) (fs : List (List Nat)) (m : Nat), (∀ r ∈ fs, r.length ≤ m) → ∀ r ∈ ls.foldl (fun fs l => fs.flatMap fun r => (ords 5 l).map (r ++ ·)) fs, r.length ≤ m + 5 * ls.length
  | [], fs, m, h, r, hr => h r hr
  | l :: ls, fs, m, h, r, hr => by
    have := wholeOrd_mem ls _ (m + 5) (fun r' h' => by
      obtain ⟨r0, h0, h1⟩ := List.mem_flatMap.mp h'
      obtain ⟨z, h2, rfl⟩ := List.mem_map.mp h1
      have h3 := ords_mem_len 5 _ z h2
      have h4 := h r0 h0
      rw [List.length_append]
      omega) r hr
    rw [List.length_cons]
    omega
theorem lotsTo_flat {nw : Nat → Bool} (h0 : nw 0 = true) : ∀ i, (lotsTo nw i).flatten = List.range i
  | 0 => rfl
  | i + 1 => by
    have ih := lotsTo_flat h0 i
    rw [List.range_succ]
    unfold lotsTo
    split
    · rw [List.flatten_append, ih]
      rfl
    · rename_i hn
      have hi : i ≠ 0 := fun e => hn (by rw [e]; exact h0)
      obtain ⟨j, rfl⟩ : ∃ j, i = j + 1 := ⟨i - 1, by omega⟩
      obtain ⟨l0, x, e⟩ := snoc_of _ (lotsTo_ne (nw := nw) h0 j)
      rw [e] at ih
      rw [e, addLast_snoc, List.flatten_append, ← ih, List.flatten_append]
      simp
theorem take_flat {α : Type} : ∀ (ls : List (List α)) (i : Nat), (ls.take i).flatten.length ≤ ls.flatten.length
  | [], i => by simp
  | l :: ls, 0 => by simp
  | l :: ls, i + 1 => by
    have := take_flat ls i
    rw [List.take_succ_cons, List.flatten_cons, List.flatten_cons, List.length_append, List.length_append]
    omega
theorem fac_small {m : Nat} (h : m ≤ 5) : fac m ≤ 120 := by
  have : m = 0 ∨ m = 1 ∨ m = 2 ∨ m = 3 ∨ m = 4 ∨ m = 5 := by omega
  rcases this with rfl | rfl | rfl | rfl | rfl | rfl <;> decide
theorem whole_few {nw : Nat → Bool} (h0 : nw 0 = true) {n : Nat} (hn : n ≤ 5) (i : Nat) : (wholeOrd ((lotsTo nw n).take i)).length ≤ 120 := by
  have h1 := wholeOrd_fac ((lotsTo nw n).take i) [[]] 0 (fun l hl => Nat.le_trans (lotsTo_mem h0 n l (List.mem_of_mem_take hl)).1 hn) (Nat.le_refl _)
  have h2 := take_flat (lotsTo nw n) i
  rw [lotsTo_flat h0, List.length_range] at h2
  exact Nat.le_trans h1 (fac_small (by omega))
theorem flatMap_take_le {α β : Type} (g : α → List β) (l : List α) (j : Nat) : ((l.take j).flatMap g).length ≤ (l.flatMap g).length := by
  have e : l.flatMap g = (l.take j).flatMap g ++ (l.drop j).flatMap g := by
    rw [← List.flatMap_append, List.take_append_drop]
  rw [e, List.length_append]
  omega
theorem eqv_pair (a b : Str) (x y : Bool) : PyData.eqv (.tuple [.str a, .bool x]) (.tuple [.str b, .bool y]) = (a == b && x == y) := by
  simp [PyData.eqv, PyData.eqvAll]
theorem shaped_pair {a : Str} (x : Bool) (h : PyData.strOk a = true) : SeqAt.shaped (.tuple [.str a, .bool x]) = true := by
  simp [SeqAt.shaped, PyData.canLay0, PyData.canLayAll0, PyData.depth, PyData.depthAll, h]
theorem ok_law_whole_orders (T : Txt K mg C tk aR aA aP) (D : Def K mg "_law_whole_orders" s_law_whole_orders) (G_law_orders : FnG P w K mg base C 6 "_law_orders" (F_all_orders 5)) : FnG P w K mg base C 7 "_law_whole_orders" F_law_whole_orders := by
  refine fnG D sc_law_whole_orders ?len (fun _ _ _ _ _ _ us hl => match us, hl with | [_], _ => rfl) (fun f cdv A outer s H E hr avs L Q h => ?_)
  case len =>
    rintro avs L Q ⟨p, d, rfl, _⟩
    rfl
  have nd := (sc_law_whole_orders).nd
  have hu := hr.units
  have hu1 := hu_of hr
  have hu65 : (A.deeper (envOfC "_law_whole_orders" (defScope s_law_whole_orders) s.heap.objs.size f cdv)).units + 65 < cLine := by
    have := hr.un
    omega
  obtain ⟨pg, ps, rfl, o, q⟩ := h
  have h5 := o.len5
  refine ⟨_, _, (ass_cons (as_set 1 nd (ae_lstM aa_nil))
      (ass_cons (as_for (ai_e K rfl T.enumerate_ (aa_cons (ae_var 0) aa_nil)) (ag_tup K (n := 2) rfl (ags_cons (ag_name 4 nd) (ags_cons (ag_name 5 nd) ags_nil))) (ass_cons (as_if (AW.toT (aw_or (at_cmp (ao_eq K hu) (ae_var 4) ae_int) (aw_or1 (at_cmp (ao_ne K hu) (ae_tup (aa_cons (ae_ix (ai_tup K) (ae_var 5) ae_int) (aa_cons (ae_ix (ai_tup K) (ae_var 5) ae_int) aa_nil))) (ae_tup (aa_cons (ae_ix (ai_tup K) (ae_ix (ai_list K) (ae_var 0) (ae_op ao_sub (ae_var 4) ae_int)) ae_int) (aa_cons (ae_ix (ai_tup K) (ae_ix (ai_list K) (ae_var 0) (ae_op ao_sub (ae_var 4) ae_int)) ae_int) aa_nil))))))) (ass_one (as_expr (ae_app K (ae_var 1) (aa_cons (ae_lstM aa_nil) aa_nil)))) ass_nil)
      (ass_one (as_expr (ae_app K (ae_ix (ai_list K) (ae_var 1) (ae_neg ae_int)) (aa_cons (ae_var 4) aa_nil))))))
      (ass_cons (as_set 2 nd (ae_lst (aa_cons (ae_lst aa_nil) aa_nil)))
      (ass_cons (as_for (ai_l K (ae_varFF 1)) (ag_name 3 nd) (ass_cons (as_set 6 nd (ae_lstM aa_nil))
      (ass_cons (as_for (ai_l K (ae_var 2)) (ag_name 7 nd) (ass_one (as_expr (ae_ext K (ae_var 6) (aa_cons (ae_lc [("_law_order", 8)] nd (ai_l K (ae_fn K G_law_orders (hr.mono (by first | decide | omega)) (aa_cons (ae_var 3) aa_nil))) (by kernel_rfl) (fun _ _ _ _ _ => (ag_name 8 nd)) (fun _ _ _ _ _ => ats_nil) (fun _ _ _ _ _ => (ae_op ao_cat (ae_var 7) (ae_var 8)))) aa_nil)))))
      (ass_one (as_set 2 nd (ae_varF 6))))))
      (ass_one (as_ret (ae_var 2))))))), ?_⟩
  refine ⟨Nat.zero_le _, fun a ha => ?_⟩
  refine aFor_of ((enumF 0 (encPs ps)).map AV.d) (fun i env' L' => ∃ (qs : List Addr) (x4 x5 : Option AV), env' = [some (.d (.list (encPs ps))), some (.p a), none, none, x4, x5, none, none, none] ∧ Nest L a qs (dLots (lotsTo (nwL ps) i)) L') (fun R r => r) ⟨[], none, none, rfl, Nest.start ha⟩ ?_ ?_
  · rintro i av env' L' hi ⟨qs, x2, x3, rfl, n⟩
    obtain ⟨hk, rfl⟩ := enum_turn hi
    have hq := nest_len n
    refine ⟨rfl, ?_⟩
    refine ⟨_, _, rfl, rfl, shaped_int _, shaped_int _, ?_⟩
    rw [eqv_int]
    refine or_two (nw := nwL ps i) (fun h => ?_) (fun h => ?_) (fun h => ?_) (fun hb hS hN => ?_)
    · have e : i = 0 := by simpa using h
      rw [e]
      rfl
    · refine ⟨⟨_, n.top⟩, Nat.zero_le _, fun p hp => ?_⟩
      have pa : a ≠ p := fun e => by
        rw [← e, n.top] at hp
        cases hp
      have n1 := n.new hp
      rw [List.map_append] at n1
      obtain ⟨q0, q1, e, h1, h2⟩ := n1.app
      have h2 := h2 (.int (i : Int))
      have e0 : dLots (lotsTo (nwL ps) i) ++ [[] ++ [.int (i : Int)]] = dLots (lotsTo (nwL ps) (i + 1)) := by
        show _ = dLots (if nwL ps i = true then _ else _)
        rw [if_pos h, dLots_snoc]
        rfl
      rw [e0] at h2
      refine ⟨qs.map AV.p, by rw [put_ne pa]; exact n.top, by rw [List.length_map]; omega, ?_⟩
      obtain ⟨e1, e2⟩ := List.append_inj' e rfl
      cases e2
      subst e1
      exact ⟨_, .p p, n1.top, (by rw [List.map_append]; exact atI_last _ _), ⟨_, h1⟩, _, h1, (by show (0 : Nat) < 100000; decide), qs ++ [p], _, _, rfl, h2⟩
    · have hi0 : i ≠ 0 := fun e => by
        rw [e] at h
        cases h
      obtain ⟨j, rfl⟩ : ∃ j, i = j + 1 := ⟨i - 1, by omega⟩
      obtain ⟨l0, r, e⟩ := snoc_of _ (lotsTo_ne (nw := nwL ps) rfl j)
      have hr := (lotsTo_mem (nw := nwL ps) rfl (j + 1) r (by rw [e]; simp)).1
      have e0 : lotsTo (nwL ps) (j + 1 + 1) = l0 ++ [r ++ [j + 1]] := by
        show (if nwL ps (j + 1) = true then _ else _) = _
        rw [if_neg (by rw [h]; decide), e, addLast_snoc]
      rw [e, dLots_snoc] at n
      obtain ⟨q0, q1, eq, h1, h2⟩ := n.app
      have h2 := h2 (.int ((j + 1 : Nat) : Int))
      rw [← nats_snoc, ← dLots_snoc, ← e0] at h2
      subst eq
      refine ⟨_, .p q1, n.top, ?_, ⟨_, h1⟩, _, h1, ?_, _, _, _, rfl, h2⟩
      · rw [List.map_append]
        exact atI_last _ _
      · unfold nats
        rw [List.length_map, List.length_map, List.length_map]
        omega
    · have hi0 : i ≠ 0 := fun e => by
        rw [e] at hb
        cases hb
      have e1 := enc_at1 hk (by omega)
      refine ⟨_, rfl, _, rfl, _, rfl, (by show (2 : Nat) ≤ 100000; decide), _, e1, _, rfl, _, e1, _, rfl, _, rfl, (by show (2 : Nat) ≤ 100000; decide), _, _, rfl, rfl, shaped_pair _ (o.rS hk), shaped_pair _ (o.rS (by omega)), ?_⟩
      rw [eqv_pair]
      have e : nwL ps i = !((pt ps i).r == (pt ps (i - 1)).r && (pt ps i).z == (pt ps (i - 1)).z) := by
        unfold nwL
        have : (i == 0) = false := by simpa using hi0
        rw [this, Bool.false_or]
      rw [e] at hS hN
      exact ⟨hS, hN⟩
  · rintro env' L' ⟨qs, x2, x3, rfl, n⟩
    rw [enumF_map_len, enc_len] at n
    refine ⟨_, rfl, (by show (0 : Nat) ≤ 100000; decide), _, rfl, (by show (1 : Nat) ≤ 100000; decide), ?_⟩
    have hll : (lotsM ps).length ≤ 5 := Nat.le_trans (lotsTo_len _) h5
    have hl0 : nwL ps 0 = true := rfl
    have eavs : ((dLots (lotsTo (nwL ps) ps.length)).map PyData.list).map AV.d = (lotsM ps).map fun o => AV.d (dInts (nats o)) := by
      unfold dLots lotsM
      rw [List.map_map, List.map_map]
      rfl
    refine aFor_by ⟨qs, _, n.top, n.low, fun i env' M => ∃ (x3 x4 x5 x6 x7 : Option AV), env' = [some (.d (.list (encPs ps))), some (.p a), some (.d (dLists ((wholeOrd ((lotsM ps).take i)).map nats))), x3, x4, x5, x6, x7, none] ∧ M = L, ⟨_, _, _, _, _, rfl, n.back⟩, ?_, ?_⟩
    · rintro i av env' M hi ⟨x3, x4, x5, x6, x7, rfl, rfl⟩
      rw [eavs, List.getElem?_map] at hi
      obtain ⟨l, hl, rfl⟩ := Option.map_eq_some_iff.mp hi
      have hil := (List.getElem?_eq_some_iff.mp hl).1
      obtain ⟨l5, lk⟩ := lotsTo_mem (nw := nwL ps) rfl ps.length l (List.mem_of_getElem? hl)
      have few := whole_few (nw := nwL ps) rfl h5 (i + 1)
      have few : (wholeOrd ((lotsM ps).take (i + 1))).length ≤ 120 := few
      have rlen := wholeOrd_mem ((lotsM ps).take i) [[]] 0 (fun r hr => by rw [List.mem_singleton.mp hr]; exact Nat.le_refl _)
      have rlen : ∀ r ∈ wholeOrd ((lotsM ps).take i), r.length ≤ 0 + 5 * ((lotsM ps).take i).length := rlen
      rw [List.length_take] at rlen
      rw [take_succ hl, wholeOrd_snoc] at few
      have hwo : wholeOrd ((lotsM ps).take (i + 1)) = (wholeOrd ((lotsM ps).take i)).flatMap fun r => (ords 5 l).map (r ++ ·) := by rw [take_succ hl, wholeOrd_snoc]
      generalize wholeOrd ((lotsM ps).take i) = fs at few rlen hwo ⊢
      refine ⟨Nat.zero_le _, fun b hb => ?_⟩
      refine aFor_of (fs.map fun o => AV.d (dInts (nats o))) (fun j env' N => ∃ (x4 x5 x7 : Option AV), env' = [some (.d (.list (encPs ps))), some (.p a), some (.d (dLists (fs.map nats))), some (.d (dInts (nats l))), x4, x5, some (.p b), x7, none] ∧
        N = put M b ((((fs.take j).flatMap fun r => (ords 5 l).map (r ++ ·)).map fun o => dInts (nats o)).map AV.d)) (fun R r => by rw [← dLists_av] at r; exact r) ⟨_, _, _, rfl, rfl⟩ ?_ ?_
      · rintro j av env' N hj ⟨x4, x5, x7, rfl, rfl⟩
        rw [List.getElem?_map] at hj
        obtain ⟨r, hr, rfl⟩ := Option.map_eq_some_iff.mp hj
        have f2 := flatMap_take_le (fun r => (ords 5 l).map (r ++ ·)) fs (j + 1)
        rw [take_succ hr, List.flatMap_append, List.flatMap_cons, List.flatMap_nil, List.append_nil] at f2
        have hrl := rlen r (List.mem_of_getElem? hr)
        refine ⟨⟨_, put_same⟩, ?_⟩
        refine lc_mapT (ords 5 l) (fun o => AV.d (dInts (nats o))) (fun o => dInts (nats (r ++ o))) (fun R z => ⟨nats l, rfl, by unfold nats; rw [List.length_map]; omega, ?_⟩) ?_ (fun o S1 S0 ho z => ⟨fun _ => ⟨?_, ?_⟩, nofun⟩) ?_
        · rw [nats_ords]
          rw [← dLists_av] at z
          exact z
        · rw [List.length_append, List.length_map] at f2
          omega
        · have := ords_mem_len 5 _ o ho
          unfold nats
          rw [List.length_map, List.length_map, List.length_map, List.length_map]
          omega
        · have e : (nats r).map PyData.int ++ (nats o).map PyData.int = (nats (r ++ o)).map PyData.int := by rw [nats_app, List.map_append]
          show S1 (.d (.list ((nats r).map PyData.int ++ (nats o).map PyData.int))) _
          rw [e]
          exact z
        · refine ⟨_, put_same, ?_, ?_⟩
          · rw [List.length_append, List.length_map] at f2
            rw [List.length_map, List.length_map, List.length_map]
            omega
          · refine ⟨_, _, _, rfl, ?_⟩
            have er : ((ords 5 l).map (r ++ ·)).map (fun o => dInts (nats o)) = (ords 5 l).map fun o => dInts (nats (r ++ o)) := by
              rw [List.map_map]
              rfl
            rw [put_put, take_succ hr, List.flatMap_append, List.flatMap_cons, List.flatMap_nil, List.append_nil, List.map_append, List.map_append, er]
      · rintro env' N ⟨x4, x5, x7, rfl, rfl⟩
        rw [List.length_map, List.take_length]
        refine ⟨_, (by rw [put_same]; exact allD_map _), ?_⟩
        rw [del_put hb]
        have e : dLists ((fs.flatMap fun r => (ords 5 l).map (r ++ ·)).map nats) = .list ((fs.flatMap fun r => (ords 5 l).map (r ++ ·)).map fun o => dInts (nats o)) := by
          unfold dLists
          rw [List.map_map]
          rfl
        exact ⟨_, _, _, _, _, (by rw [hwo, e]; rfl), rfl⟩
    · rintro env' M ⟨x3, x4, x5, x6, x7, rfl, rfl⟩
      rw [eavs, List.length_map, List.take_length]
      exact q
end
end VS

set_option Elab.async false
set_option linter.all false
set_option maxRecDepth 100000
set_option maxHeartbeats 4000000
set_option autoImplicit false
namespace VS
open PySem L2 PySem.Spec PyProof.Rows

/-! ### the law's draws -/
structure Src (n : Nat) (s : Int × Int × Int) : Prop where
  x0 : 0 ≤ s.1
  b0 : 0 ≤ s.2.1
  b1 : s.2.1 < 2147483647
  c0 : 0 ≤ s.2.2
  c1 : s.2.2 ≤ n
def srcL (s : Int × Int × Int) : List AV := [.d (.int s.1), .d (.int s.2.1), .d (.int s.2.2)]
theorem Src.mono {n m : Nat} {s : Int × Int × Int} (h : Src n s) (e : n ≤ m) : Src m s := ⟨h.x0, h.b0, h.b1, h.c0, by have := h.c1; omega⟩
section
variable {P : Program} {w : World} {K : PySem.W.Frag} {mg : Str → Option Value} {base : Heap} {C : Addr} {tk : Tok} {aR aA aP : Addr}
def F_law_source : List AV → LS → AK → Prop := fun avs L Q => ∃ (ns : List Int) (t : Nat), avs = [.sc ns, .d (.int (t : Int))] ∧ t ≤ 2 ∧ ∀ p s, L p = none → Src 0 s → Q (.p p) (put L p (srcL s))
theorem ok_law_source (T : Txt K mg C tk aR aA aP) (D : Def K mg "_law_source" s_law_source) : FnG P w K mg base C 1 "_law_source" F_law_source := by
  refine fnG D sc_law_source ?len (fun _ _ _ _ _ _ us hl => match us, hl with | [_, _], _ => rfl) (fun f cdv A outer s H E hr avs L Q h => ?_)
  case len =>
    rintro avs L Q ⟨p, d, rfl, _⟩
    rfl
  have nd := (sc_law_source).nd
  have hu := hr.units
  have hu1 := hu_of hr
  have hu65 : (A.deeper (envOfC "_law_source" (defScope s_law_source) s.heap.objs.size f cdv)).units + 65 < cLine := by
    have := hr.un
    omega
  obtain ⟨ns, t, rfl, ht, q⟩ := h
  refine ⟨_, _, (ass_cons (as_set 2 nd (ae_if (at_cmp ao_lt (ae_var 1) (ae_callB (ac_len K) rfl T.len_ PySem.boot_len (aa_cons (ae_var 0) aa_nil))) (ae_ix (ai_list K) (ae_var 0) (ae_var 1)) (ae_op ao_add (ae_op ao_add (ae_op ao_mod (ae_callTy ac_int rfl T.int_ PyProof.Rows.boot_int (aa_cons (ae_callB (ac_sum K rfl) rfl T.sum_ PyProof.Rows.boot_sum (aa_cons (ae_slL K (ae_var 0) ap_none (ap_some ae_int)) aa_nil)) aa_nil)) ae_int) (ae_op ao_mul ae_int (ae_var 1))) ae_int)))
      (ass_cons (as_set 3 nd (ae_op ao_add (ae_op ao_mul ae_int (ae_var 1)) ae_int))
      (ass_cons (as_for (ai_l K (ae_var 0)) (ag_name 4 nd) (ass_one (as_set 3 nd (ae_op ao_mod (ae_callTy ac_int rfl T.int_ PyProof.Rows.boot_int (aa_cons (ae_op ao_add (ae_op ao_mul (ae_var 3) ae_int) (ae_var 4)) aa_nil)) ae_int))))
      (ass_one (as_ret (ae_lstM (aa_cons (ae_if (at_cmp ao_ge (ae_var 2) (ae_op ao_pow ae_int ae_int)) (ae_op ao_fdiv (ae_var 2) ae_int) ae_int) (aa_cons (ae_op ao_mod (ae_callTy ac_int rfl T.int_ PyProof.Rows.boot_int (aa_cons (ae_op ao_add (ae_var 3) (ae_op ao_mul ae_int (ae_var 2))) aa_nil)) ae_int) (aa_cons ae_int aa_nil))))))))), ?_⟩
  refine ⟨_, rfl, ?_⟩
  refine ⟨fun hlt => ?_, fun hge => ?_⟩
  · have hlt : decide ((t : Int) < (ns.length : Int)) = true := hlt
    have hlt := of_decide_eq_true hlt
    have ht2 : t < ns.length := by omega
    refine ⟨sz ns t, atI_nat (sz_get ht2), .inl (by decide), ?_⟩
    refine aFor_of (ns.map fun n => AV.d (.int n)) (fun i env' L' => ∃ (cell seed : Int) (x4 : Option AV), env' = [some (.sc ns), some (.d (.int (t : Int))), some (.d (.int cell)), some (.d (.int seed)), x4] ∧ L' = L) (fun R r => r) ⟨_, _, _, rfl, rfl⟩ ?_ ?_
    · rintro i av env' L' hi ⟨cell, seed, x4, rfl, rfl⟩
      rw [List.getElem?_map] at hi
      obtain ⟨o, _, rfl⟩ := Option.map_eq_some_iff.mp hi
      exact ⟨.inr (by decide), (by show (0 : Int) < 2147483629; decide), _, _, _, rfl, rfl⟩
    · rintro env' L' ⟨cell, seed, x4, rfl, rfl⟩
      have m0 := Int.emod_nonneg (seed + 69621 * cell) (by decide : (2147483629 : Int) ≠ 0)
      have m1 := Int.emod_lt_of_pos (seed + 69621 * cell) (by decide : (0 : Int) < 2147483629)
      refine ⟨⟨by decide, by decide, by decide⟩, fun hc => ?_, fun hc => ?_⟩
      · have hc : decide ((10 : Int) ^ (18 : Int).toNat ≤ cell) = true := hc
        have hc := of_decide_eq_true hc
        have e18 : (10 : Int) ^ (18 : Int).toNat = 1000000000000000000 := by decide
        rw [e18] at hc
        refine ⟨⟨by decide, by decide⟩, .inl (by decide), (by show (0 : Int) < 2147483629; decide), (by show (3 : Nat) ≤ 100000; decide), fun p hp => ?_⟩
        exact q p (cell / 2, (seed + 69621 * cell) % 2147483629, 0) hp ⟨Int.ediv_nonneg (by omega) (by decide), m0, by show (seed + 69621 * cell) % 2147483629 < 2147483647; omega, Int.le_refl _, Int.le_refl _⟩
      · refine ⟨.inl (by decide), (by show (0 : Int) < 2147483629; decide), (by show (3 : Nat) ≤ 100000; decide), fun p hp => ?_⟩
        exact q p (0, (seed + 69621 * cell) % 2147483629, 0) hp ⟨Int.le_refl _, m0, by show (seed + 69621 * cell) % 2147483629 < 2147483647; omega, Int.le_refl _, Int.le_refl _⟩
  · refine ⟨((cutD ns none (some 1))), rfl, (by show (0 : Int) < 1000003; decide), .inl (by decide), .inl (by decide), ?_⟩
    refine aFor_of (ns.map fun n => AV.d (.int n)) (fun i env' L' => ∃ (cell seed : Int) (x4 : Option AV), env' = [some (.sc ns), some (.d (.int (t : Int))), some (.d (.int cell)), some (.d (.int seed)), x4] ∧ L' = L) (fun R r => r) ⟨_, _, _, rfl, rfl⟩ ?_ ?_
    · rintro i av env' L' hi ⟨cell, seed, x4, rfl, rfl⟩
      rw [List.getElem?_map] at hi
      obtain ⟨o, _, rfl⟩ := Option.map_eq_some_iff.mp hi
      exact ⟨.inr (by decide), (by show (0 : Int) < 2147483629; decide), _, _, _, rfl, rfl⟩
    · rintro env' L' ⟨cell, seed, x4, rfl, rfl⟩
      have m0 := Int.emod_nonneg (seed + 69621 * cell) (by decide : (2147483629 : Int) ≠ 0)
      have m1 := Int.emod_lt_of_pos (seed + 69621 * cell) (by decide : (0 : Int) < 2147483629)
      refine ⟨⟨by decide, by decide, by decide⟩, fun hc => ?_, fun hc => ?_⟩
      · have hc : decide ((10 : Int) ^ (18 : Int).toNat ≤ cell) = true := hc
        have hc := of_decide_eq_true hc
        have e18 : (10 : Int) ^ (18 : Int).toNat = 1000000000000000000 := by decide
        rw [e18] at hc
        refine ⟨⟨by decide, by decide⟩, .inl (by decide), (by show (0 : Int) < 2147483629; decide), (by show (3 : Nat) ≤ 100000; decide), fun p hp => ?_⟩
        exact q p (cell / 2, (seed + 69621 * cell) % 2147483629, 0) hp ⟨Int.ediv_nonneg (by omega) (by decide), m0, by show (seed + 69621 * cell) % 2147483629 < 2147483647; omega, Int.le_refl _, Int.le_refl _⟩
      · refine ⟨.inl (by decide), (by show (0 : Int) < 2147483629; decide), (by show (3 : Nat) ≤ 100000; decide), fun p hp => ?_⟩
        exact q p (0, (seed + 69621 * cell) % 2147483629, 0) hp ⟨Int.le_refl _, m0, by show (seed + 69621 * cell) % 2147483629 < 2147483647; omega, Int.le_refl _, Int.le_refl _⟩
def F_law_draw : List AV → LS → AK → Prop := fun avs L Q => ∃ (a : Addr) (many : Int) (s : Int × Int × Int) (n : Nat), avs = [.p a, .d (.int many)] ∧ 1 ≤ many ∧ many ≤ 100000 ∧ L a = some (srcL s) ∧ Src n s ∧ n ≤ 1000000 ∧
  ∀ r s', 0 ≤ r → r < many → Src (n + 1) s' → Q (.d (.int r)) (put L a (srcL s'))
theorem ok_law_draw (T : Txt K mg C tk aR aA aP) (D : Def K mg "_law_draw" s_law_draw) : FnG P w K mg base C 1 "_law_draw" F_law_draw := by
  refine fnG D sc_law_draw ?len (fun _ _ _ _ _ _ us hl => match us, hl with | [_, _], _ => rfl) (fun f cdv A outer s H E hr avs L Q h => ?_)
  case len =>
    rintro avs L Q ⟨p, d, e, e2, rfl, _⟩
    rfl
  have nd := (sc_law_draw).nd
  have hu := hr.units
  have hu1 := hu_of hr
  have hu65 : (A.deeper (envOfC "_law_draw" (defScope s_law_draw) s.heap.objs.size f cdv)).units + 65 < cLine := by
    have := hr.un
    omega
  obtain ⟨a, many, ⟨x, b, c⟩, n, rfl, hm1, hm2, hL, hs, hn, q⟩ := h
  have x0 : 0 ≤ x := hs.x0
  have b0 : 0 ≤ b := hs.b0
  have b1 : b < 2147483647 := hs.b1
  have c0 : 0 ≤ c := hs.c0
  have c1 : c ≤ n := hs.c1
  refine ⟨_, _, (ass_cons (as_if (at_cmp ao_gt (ae_ix (ai_list K) (ae_var 0) ae_int) ae_int) (ass_cons (as_set 3 nd (ae_op ao_mod (ae_callTy ac_int rfl T.int_ PyProof.Rows.boot_int (aa_cons (ae_ix (ai_list K) (ae_var 0) ae_int) aa_nil)) (ae_var 1)))
      (ass_cons (as_setIx (ae_op ao_fdiv (ae_ix (ai_list K) (ae_var 0) ae_int) (ae_var 1)) (ae_var 0) ae_int)
      (ass_one (as_ret (ae_var 3))))) ass_nil)
      (ass_cons (as_setIx (ae_op ao_add (ae_ix (ai_list K) (ae_var 0) ae_int) ae_int) (ae_var 0) ae_int)
      (ass_cons (as_set 2 nd (ae_op ao_mod (ae_op ao_pow (ae_callTy ac_int rfl T.int_ PyProof.Rows.boot_int (aa_cons (ae_op ao_add (ae_ix (ai_list K) (ae_var 0) ae_int) (ae_op ao_mul ae_int (ae_ix (ai_list K) (ae_var 0) ae_int))) aa_nil)) ae_int) ae_int))
      (ass_one (as_ret (ae_op ao_mod (ae_op ao_fdiv (ae_op ao_mod (ae_callTy ac_int rfl T.int_ PyProof.Rows.boot_int (aa_cons (ae_op ao_mul (ae_op ao_add (ae_var 2) (ae_ix (ai_list K) (ae_var 0) ae_int)) ae_int) aa_nil)) ae_int) ae_int) (ae_var 1))))))), ?_⟩
  refine ⟨_, _, hL, rfl, fun hx => ?_, fun hx => ?_⟩
  · have hx : decide (0 < x) = true := hx
    refine ⟨_, _, hL, rfl, by omega, ?_⟩
    refine ⟨_, _, hL, rfl, ⟨by omega, by omega⟩, _, hL, by decide, (by show (0 : Int) < ((3 : Nat) : Int); decide), ?_⟩
    refine q (x % many) (x / many, b, c) (Int.emod_nonneg _ (by omega)) (Int.emod_lt_of_pos _ (by omega)) ⟨Int.ediv_nonneg x0 (by omega), b0, b1, c0, ?_⟩
    show c ≤ ((n + 1 : Nat) : Int)
    omega
  · refine ⟨_, _, hL, rfl, _, hL, by decide, (by show (2 : Int) < ((3 : Nat) : Int); decide), ?_⟩
    have big : (2 : Nat) ^ 64 = 18446744073709551616 := by decide
    have big2 : (2 : Int) ^ 64 = 18446744073709551616 := by decide
    refine ⟨_, .d (.int b), put_same, rfl, _, .d (.int (c + 1)), put_same, rfl, .inl (by rw [big2]; omega), ?_⟩
    refine ⟨⟨by omega, by omega, ?_⟩, (by show (0 : Int) < 2147483647; omega), ?_⟩
    · show (b + 6373 * (c + 1)).natAbs < _
      rw [big]
      omega
    refine ⟨_, .d (.int (c + 1)), put_same, rfl, .inr (by rw [big2]; omega), (by show (0 : Int) < 2147483629; omega), ⟨by omega, by omega⟩, (by show 0 < many; omega), ?_⟩
    refine q _ (x, b, c + 1) (Int.emod_nonneg _ (by omega)) (Int.emod_lt_of_pos _ (by omega)) ⟨x0, b0, b1, ?_, ?_⟩
    · show 0 ≤ c + 1
      omega
    · show c + 1 ≤ ((n + 1 : Nat) : Int)
      omega
def F_law_pick : List AV → LS → AK → Prop := fun avs L Q => ∃ (a : Addr) (ds : List PyData) (s : Int × Int × Int) (n : Nat), avs = [.p a, .d (.list ds)] ∧ 1 ≤ ds.length ∧ ds.length ≤ 1000 ∧ L a = some (srcL s) ∧ Src n s ∧ n ≤ 1000000 ∧
  ∀ d s', d ∈ ds → Src (n + 1) s' → Q (.d d) (put L a (srcL s'))
theorem ok_law_pick (T : Txt K mg C tk aR aA aP) (D : Def K mg "_law_pick" s_law_pick) (G_law_draw : FnG P w K mg base C 1 "_law_draw" F_law_draw) : FnG P w K mg base C 2 "_law_pick" F_law_pick := by
  refine fnG D sc_law_pick ?len (fun _ _ _ _ _ _ us hl => match us, hl with | [_, _], _ => rfl) (fun f cdv A outer s H E hr avs L Q h => ?_)
  case len =>
    rintro avs L Q ⟨p, d, e, e2, rfl, _⟩
    rfl
  have nd := (sc_law_pick).nd
  have hu := hr.units
  have hu1 := hu_of hr
  have hu65 : (A.deeper (envOfC "_law_pick" (defScope s_law_pick) s.heap.objs.size f cdv)).units + 65 < cLine := by
    have := hr.un
    omega
  obtain ⟨a, ds, s0, n, rfl, h1, h2, hL, hs, hn, q⟩ := h
  refine ⟨_, _, (ass_one (as_ret (ae_ix (ai_list K) (ae_var 1) (ae_fn K G_law_draw (hr.mono (by first | decide | omega)) (aa_cons (ae_var 0) (aa_cons (ae_callB (ac_len K) rfl T.len_ PySem.boot_len (aa_cons (ae_var 1) aa_nil)) aa_nil)))))), ?_⟩
  refine ⟨_, rfl, a, ds.length, s0, n, rfl, by omega, by omega, hL, hs, hn, fun r s' r0 r1 hs' => ?_⟩
  obtain ⟨k, rfl⟩ := Int.eq_ofNat_of_zero_le r0
  have hk : k < ds.length := by omega
  exact ⟨ds[k], atI_nat (List.getElem?_eq_getElem hk), q _ s' (List.getElem_mem hk) hs'⟩
theorem del_put_ne {L : LS} {a b : Addr} {x : List AV} (h : b ≠ a) : del (put L b x) a = put (del L a) b x := by
  funext c
  unfold del put
  show (if c = a then none else if c = b then some x else L c) = if c = b then some x else if c = a then none else L c
  by_cases e : c = a
  · rw [if_pos e, if_neg (by rw [e]; exact Ne.symm h), if_pos e]
  · rw [if_neg e]
    by_cases e2 : c = b
    · rw [if_pos e2, if_pos e2]
    · rw [if_neg e2, if_neg e2, if_neg e]
theorem eqv_nil_list (ds : List PyData) : PyData.eqv (.list ds) (.list []) = ds.isEmpty := by
  cases ds with
  | nil => simp [PyData.eqv, PyData.eqvAll]
  | cons n r => simp [PyData.eqv, PyData.eqvAll]
theorem map_erase {α β : Type} (f : α → β) : ∀ (l : List α) (k : Nat), (l.map f).eraseIdx k = (l.eraseIdx k).map f
  | [], _ => rfl
  | x :: l, 0 => rfl
  | x :: l, k + 1 => by
    show f x :: (l.map f).eraseIdx k = _
    rw [map_erase f l k]
    rfl
theorem perm_erase {α : Type} : ∀ (l : List α) (k : Nat) (h : k < l.length), ([l[k]] ++ l.eraseIdx k).Perm l
  | x :: l, 0, _ => List.Perm.refl _
  | x :: l, k + 1, h => by
    have := perm_erase l k (by simpa using h)
    exact (List.Perm.swap x _ _).trans (this.cons x)
def F_law_mixed : List AV → LS → AK → Prop := fun avs L Q => ∃ (a : Addr) (zs : List Str) (s : Int × Int × Int) (n : Nat), avs = [.p a, .d (dStrs zs)] ∧ zs.length ≤ 100 ∧ (∀ z ∈ zs, PyData.strOk z = true) ∧ L a = some (srcL s) ∧ Src n s ∧ n ≤ 100000 ∧
  ∀ ys s', ys.Perm zs → Src (n + zs.length) s' → Q (.d (dStrs ys)) (put L a (srcL s'))
theorem ok_law_mixed (T : Txt K mg C tk aR aA aP) (D : Def K mg "_law_mixed" s_law_mixed) (G_law_draw : FnG P w K mg base C 1 "_law_draw" F_law_draw) : FnG P w K mg base C 2 "_law_mixed" F_law_mixed := by
  refine fnG D sc_law_mixed ?len (fun _ _ _ _ _ _ us hl => match us, hl with | [_, _], _ => rfl) (fun f cdv A outer s H E hr avs L Q h => ?_)
  case len =>
    rintro avs L Q ⟨p, d, e, e2, rfl, _⟩
    rfl
  have nd := (sc_law_mixed).nd
  have hu := hr.units
  have hu1 := hu_of hr
  have hu65 : (A.deeper (envOfC "_law_mixed" (defScope s_law_mixed) s.heap.objs.size f cdv)).units + 65 < cLine := by
    have := hr.un
    omega
  obtain ⟨a, zs, s0, n, rfl, hz, hok, hL, hs, hn, q⟩ := h
  refine ⟨_, _, (ass_cons (as_par 2 3 rfl nd (aa_cons (ae_callTy (ac_listOfM K) rfl T.list_ PyProof.Rows.boot_list (aa_cons (ae_var 1) aa_nil)) (aa_cons (ae_lstM aa_nil) aa_nil)))
      (ass_consF 2 (as_while (at_cmp (ao_ne K hu) (ae_var 2) (ae_lst aa_nil)) (ass_one (as_expr (ae_app K (ae_var 3) (aa_cons (ae_pop K (ae_var 2) (aa_cons (ae_fn K G_law_draw (hr.mono (by first | decide | omega)) (aa_cons (ae_var 0) (aa_cons (ae_callB (ac_len K) rfl T.len_ PySem.boot_len (aa_cons (ae_var 2) aa_nil)) aa_nil))) aa_nil)) aa_nil)))))
      (ass_one (as_ret (ae_varF 3))))), ?_⟩
  refine fun p1 h1 => ⟨Nat.zero_le _, fun p2 h2 => ?_⟩
  have n1 : p1 ≠ a := fun e => by rw [e, hL] at h1; cases h1
  have n21 : p2 ≠ p1 := fun e => by rw [e, put_same] at h2; cases h2
  rw [put_ne n21] at h2
  have n2 : p2 ≠ a := fun e => by rw [e, hL] at h2; cases h2
  refine aWhile_of (fun m env' L' => ∃ (left found : List Str) (s' : Int × Int × Int), env' = [some (.p a), some (.d (dStrs zs)), some (.p p1), some (.p p2)] ∧ L' = put (put (put L p1 ((left.map PyData.str).map AV.d)) p2 ((found.map PyData.str).map AV.d)) a (srcL s') ∧
    (found ++ left).Perm zs ∧ left.length = m ∧ Src (n + found.length) s') zs.length ⟨zs, [], s0, rfl, ?_, List.Perm.refl _, rfl, hs⟩ ?_
  · funext b
    unfold put
    by_cases e : b = a
    · rw [if_pos e, e, if_neg (Ne.symm n2), if_neg (Ne.symm n1), hL]
    · rw [if_neg e]
      rfl
  · rintro m env' L' ⟨left, found, s', rfl, rfl, hp, hm, hs'⟩
    have hlen : found.length + left.length = zs.length := by
      rw [← List.length_append]
      exact hp.length_eq
    have okl : ∀ z ∈ left, PyData.strOk z = true := fun z h => hok z (hp.subset (List.mem_append_right _ h))
    have hv : put (put (put L p1 ((left.map PyData.str).map AV.d)) p2 ((found.map PyData.str).map AV.d)) a (srcL s') p1 = some ((left.map PyData.str).map AV.d) := by rw [put_ne n1, put_ne (Ne.symm n21), put_same]
    have hf : ∀ x y, put (put (put L p1 x) p2 ((found.map PyData.str).map AV.d)) a y p2 = some ((found.map PyData.str).map AV.d) := fun x y => by rw [put_ne n2, put_same]
    refine ⟨_, rfl, (by show (0 : Nat) ≤ 100000; decide), .list (left.map PyData.str), .list [], view_p hv, rfl, shaped_strs okl, shaped_strs (met := []) nofun, ?_⟩
    rw [eqv_nil_list]
    refine ⟨fun hne => ?_, fun he => ?_⟩
    · have hpos : 0 < left.length := by
        cases left with
        | nil => cases hne
        | cons x l => simp
      refine ⟨⟨_, hf _ _⟩, ⟨_, hv⟩, left.length, ?_, a, left.length, s', n + found.length, rfl, by omega, by omega, put_same, hs', by omega, fun r s2 r0 r1 hs2 => ?_⟩
      · show (put _ a _ p1).map List.length = _
        rw [hv]
        simp
      obtain ⟨k, rfl⟩ := Int.eq_ofNat_of_zero_le r0
      have hk : k < left.length := by omega
      rw [put_put]
      have hv2 : ∀ y, put (put (put L p1 ((left.map PyData.str).map AV.d)) p2 ((found.map PyData.str).map AV.d)) a y p1 = some ((left.map PyData.str).map AV.d) := fun y => by rw [put_ne n1, put_ne (Ne.symm n21), put_same]
      refine ⟨_, .d (.str left[k]), hv2 _, by omega, by omega, ?_, ?_⟩
      · show ((left.map PyData.str).map AV.d)[(k : Int).toNat]? = _
        rw [Int.toNat_natCast, List.getElem?_map, List.getElem?_map, List.getElem?_eq_getElem hk]
        rfl
      refine ⟨_, (by rw [put_ne n21]; exact hf _ _), ?_, m - 1, by omega, left.eraseIdx k, found ++ [left[k]], s2, rfl, ?_, ?_, ?_, ?_⟩
      · rw [List.length_map, List.length_map]
        omega
      · funext b
        have e1 : ((left.map PyData.str).map AV.d).eraseIdx (k : Int).toNat = ((left.eraseIdx k).map PyData.str).map AV.d := by
          rw [Int.toNat_natCast, map_erase, map_erase]
        rw [e1, List.map_append, List.map_append]
        unfold put
        by_cases e2 : b = p2
        · rw [if_pos e2, if_neg (by rw [e2]; exact n2), if_pos e2]
          rfl
        · rw [if_neg e2, if_neg e2, if_neg e2]
          by_cases e3 : b = p1
          · rw [if_pos e3, if_neg (by rw [e3]; exact n1), if_pos e3]
          · rw [if_neg e3, if_neg e3, if_neg e3]
      · refine List.Perm.trans ?_ hp
        rw [List.append_assoc]
        refine List.Perm.append_left _ ?_
        exact perm_erase left k hk
      · rw [List.length_eraseIdx, if_pos hk]
        omega
      · rw [List.length_append]
        exact hs2
    · have hl : left = [] := by
        cases left with
        | nil => rfl
        | cons x l => cases he
      subst hl
      refine ⟨[], by rw [hv]; rfl, ?_⟩
      refine ⟨found.map PyData.str, ?_, ?_⟩
      · rw [del_ne n21, hf]
        exact allD_map _
      · have e : del (del (put (put (put L p1 ((([] : List Str).map PyData.str).map AV.d)) p2 ((found.map PyData.str).map AV.d)) a (srcL s')) p1) p2 = put L a (srcL s') := by
          rw [del_put_ne (Ne.symm n1), del_put_ne n21, del_put h1, del_put_ne (Ne.symm n2), del_put h2]
        rw [e]
        rw [List.append_nil] at hp
        refine q found s' hp ?_
        rw [← hp.length_eq]
        exact hs'
end
end VS

set_option Elab.async false
set_option linter.all false
set_option maxRecDepth 100000
set_option maxHeartbeats 4000000
set_option autoImplicit false
namespace VS
open PySem L2 PySem.Spec PyProof.Rows
/-- what the law's addresses need -/
structure OkL (pg : Int) (ps : List Part) : Prop where
  pg0 : 0 < pg
  al0 : ∀ p ∈ ps, 0 < p.al
  rS : ∀ p ∈ ps, PyData.strOk p.r = true
  len : ps.length ≤ 1000
theorem OkPlan.l {pg : Int} {ps : List Part} (o : OkPlan pg ps) : OkL pg ps := ⟨o.pg0, fun p h => by have := al_of (o.alV p h); omega, fun p h => rights_ok (o.rV p h), by have := o.len5; omega⟩
/-- no multiple of s lies between -/
theorem up_first {s e j : Int} (hs : 0 < s) (h0 : 0 ≤ j) (h1 : e + j ≤ up s e) (h2 : (e + j) % s = 0) : e + j = up s e := by
  unfold up at h1 ⊢
  have hlt := Int.emod_lt_of_pos (0 - e) hs
  have hj : j % s = j := Int.emod_eq_of_lt h0 (by omega)
  have e1 : (0 - e) % s = j % s := by
    have : 0 - e = j - (e + j) := by omega
    rw [this, Int.sub_emod, h2, Int.sub_zero, Int.emod_emod]
  omega
theorem up_zero {s e : Int} (hs : 0 < s) : up s e % s = 0 := by
  unfold up
  have : (e + (0 - e) % s) % s = (e + (0 - e)) % s := by rw [Int.add_emod, Int.emod_emod, ← Int.add_emod]
  rw [this]
  have : e + (0 - e) = 0 := by omega
  rw [this]
  rfl
theorem up_ge {s e : Int} (hs : 0 < s) : e ≤ up s e := by
  unfold up
  have := Int.emod_nonneg (0 - e) (by omega : s ≠ 0)
  omega
section
variable {P : Program} {w : World} {K : PySem.W.Frag} {mg : Str → Option Value} {base : Heap} {C : Addr} {tk : Tok} {aR aA aP : Addr}
def F_law_some_sizes : List AV → LS → AK → Prop := fun avs L Q => ∃ (a : Addr) (ps : List Part) (s : Int × Int × Int) (n : Nat), avs = [.p a, .d (.list (encPs ps))] ∧ ps.length ≤ 100 ∧ (∀ p ∈ ps, p.lo ≤ p.hi ∧ p.hi - p.lo ≤ 1000) ∧ L a = some (srcL s) ∧ Src n s ∧ n ≤ 100000 ∧
  ∀ vs s', vs.length = ps.length → (∀ k, k < ps.length → (pt ps k).lo ≤ sz vs k ∧ sz vs k ≤ (pt ps k).hi) → Src (n + ps.length) s' → Q (.d (dInts vs)) (put L a (srcL s'))
theorem sz_snoc (vs : List Int) (v : Int) (k : Nat) (h : k < vs.length) : sz (vs ++ [v]) k = sz vs k := by
  unfold sz
  rw [List.getD_eq_getElem?_getD, List.getD_eq_getElem?_getD, List.getElem?_append_left h]
theorem sz_last (vs : List Int) (v : Int) : sz (vs ++ [v]) vs.length = v := by
  unfold sz
  rw [List.getD_eq_getElem?_getD, List.getElem?_append_right (Nat.le_refl _), Nat.sub_self]
  rfl
theorem part_turn {ps : List Part} {i : Nat} {av : AV} (h : ((encPs ps).map AV.d)[i]? = some av) : i < ps.length ∧ av = .d (encP (pt ps i)) := by
  rw [List.getElem?_map] at h
  obtain ⟨d, h1, h2⟩ := Option.map_eq_some_iff.mp h
  have hi : i < ps.length := by
    have := (List.getElem?_eq_some_iff.mp h1).1
    rwa [enc_len] at this
  rw [enc_get hi] at h1
  cases h1
  exact ⟨hi, h2.symm⟩
theorem ok_law_some_sizes (T : Txt K mg C tk aR aA aP) (D : Def K mg "_law_some_sizes" s_law_some_sizes) (G_law_draw : FnG P w K mg base C 1 "_law_draw" F_law_draw) : FnG P w K mg base C 2 "_law_some_sizes" F_law_some_sizes := by
  refine fnG D sc_law_some_sizes ?len (fun _ _ _ _ _ _ us hl => match us, hl with | [_, _], _ => rfl) (fun f cdv A outer s H E hr avs L Q h => ?_)
  case len =>
    rintro avs L Q ⟨p, d, e, e2, rfl, _⟩
    rfl
  have nd := (sc_law_some_sizes).nd
  have hu := hr.units
  have hu1 := hu_of hr
  have hu65 : (A.deeper (envOfC "_law_some_sizes" (defScope s_law_some_sizes) s.heap.objs.size f cdv)).units + 65 < cLine := by
    have := hr.un
    omega
  obtain ⟨a, ps, s0, n, rfl, hl, hb, hL, hs, hn, q⟩ := h
  refine ⟨_, _, (ass_one (as_ret (ae_lc [("_law_part", 2)] nd (ai_l K (ae_var 1)) (by kernel_rfl) (fun _ _ _ _ _ => (ag_name 2 nd)) (fun _ _ _ _ _ => ats_nil) (fun _ _ _ _ _ => (ae_op ao_add (ae_ix (ai_tup K) (ae_var 2) ae_int) (ae_fn K G_law_draw (hr.mono (by first | decide | omega)) (aa_cons (ae_var 0) (aa_cons (ae_op ao_add (ae_op ao_sub (ae_ix (ai_tup K) (ae_var 2) ae_int) (ae_ix (ai_tup K) (ae_var 2) ae_int)) ae_int) aa_nil)))))))), ?_⟩
  refine aLc_by ⟨by rw [List.length_map, enc_len]; omega, fun i acc L' => ∃ (vs : List Int) (s' : Int × Int × Int), acc = vs.map PyData.int ∧ L' = put L a (srcL s') ∧ vs.length = i ∧ (∀ k, k < i → (pt ps k).lo ≤ sz vs k ∧ sz vs k ≤ (pt ps k).hi) ∧ Src (n + i) s',
    ⟨[], s0, rfl, ?_, rfl, nofun, hs⟩, ?_, ?_⟩
  · funext b
    unfold put
    by_cases e : b = a
    · rw [if_pos e, e, hL]
    · rw [if_neg e]
  · rintro i av acc L' hi ⟨vs, s', rfl, rfl, hvl, hvb, hs'⟩
    obtain ⟨hk, rfl⟩ := part_turn hi
    obtain ⟨b1, b2⟩ := hb _ (pt_mem hk)
    refine ⟨fun _ => ⟨_, rfl, _, rfl, _, rfl, a, _, s', n + i, rfl, (by show 1 ≤ (pt ps i).hi - (pt ps i).lo + 1; omega), (by show (pt ps i).hi - (pt ps i).lo + 1 ≤ 100000; omega), put_same, hs', by omega, fun r s2 r0 r1 hs2 => ?_⟩, nofun⟩
    have r1 : r < (pt ps i).hi - (pt ps i).lo + 1 := r1
    refine ⟨vs ++ [(pt ps i).lo + r], s2, by rw [List.map_append]; rfl, put_put, by rw [List.length_append, hvl]; rfl, fun k hk2 => ?_, hs2⟩
    by_cases e : k = i
    · subst e
      have e2 := sz_last vs ((pt ps k).lo + r)
      rw [hvl] at e2
      rw [e2]
      omega
    · rw [sz_snoc _ _ _ (by omega)]
      exact hvb k (by omega)
  · rintro acc L' ⟨vs, s', rfl, rfl, hvl, hvb, hs'⟩
    rw [List.length_map, enc_len] at hvl hvb hs'
    exact q vs s' hvl hvb hs'
def F_law_lowest : List AV → LS → AK → Prop := fun avs L Q => ∃ (pg : Int) (ps : List Part) (k : Nat) (e : Int), avs = [.d (.int pg), .d (.list (encPs ps)), .d (.int (k : Int)), .d (.int e)] ∧ OkL pg ps ∧ k < ps.length ∧ Q (.d (.int (up (stepAt pg ps k) e))) L
theorem ok_law_lowest (T : Txt K mg C tk aR aA aP) (D : Def K mg "_law_lowest" s_law_lowest) : FnG P w K mg base C 1 "_law_lowest" F_law_lowest := by
  refine fnG D sc_law_lowest ?len (fun _ _ _ _ _ _ us hl => match us, hl with | [_, _, _, _], _ => rfl) (fun f cdv A outer s H E hr avs L Q h => ?_)
  case len =>
    rintro avs L Q ⟨p, d, e, e2, rfl, _⟩
    rfl
  have nd := (sc_law_lowest).nd
  have hu := hr.units
  have hu1 := hu_of hr
  have hu65 : (A.deeper (envOfC "_law_lowest" (defScope s_law_lowest) s.heap.objs.size f cdv)).units + 65 < cLine := by
    have := hr.un
    omega
  obtain ⟨pg, ps, k, e, rfl, o, hk, q⟩ := h
  have hal := o.al0 _ (pt_mem hk)
  have hrS := o.rS _ (pt_mem hk)
  have hpg := o.pg0
  refine ⟨_, _, (ass_cons (as_set 4 nd (ae_and (ae_cmp ao_gt (ae_var 2) ae_int) (ae_one (ae_cmp (ao_ne K hu) (ae_ix (ai_tup K) (ae_ix (ai_list K) (ae_var 1) (ae_var 2)) ae_int) (ae_ix (ai_tup K) (ae_ix (ai_list K) (ae_var 1) (ae_op ao_sub (ae_var 2) ae_int)) ae_int)))))
      (ass_cons (as_set 5 nd (ae_var 3))
      (ass_cons (as_while (at_cmp (ao_ne K hu) (ae_op ao_mod (ae_var 5) (ae_if (at_val (ae_var 4)) (ae_var 0) (ae_ix (ai_tup K) (ae_ix (ai_list K) (ae_var 1) (ae_var 2)) ae_int))) ae_int) (ass_one (as_set 5 nd (ae_op ao_add (ae_var 5) ae_int))))
      (ass_one (as_ret (ae_var 5)))))), ?_⟩
  have main : ∀ (st : Int) (b : Bool), 0 < st → st = (if b = true then pg else (pt ps k).al) → Q (.d (.int (up st e))) L →
      (aSeq (aSet 5 (aVar 3)) (aSeq (aWhile (aTest (aOp aNeD (aOp (aI (fun _ j => 0 < j) fun i j => .int (i % j)) (aVar 5) (aIf (aTest (aVar 4)) (aVar 0) (aOp aIxT (aOp aIxL (aVar 1) (aVar 2)) (aC (.int 2))))) (aC (.int 0)))) (aSet 5 (aOp (aI0 fun i j => .int (i + j)) (aVar 5) (aC (.int 1))))) (aRet (aVar 5)))) { nx := fun _ L' => Q (.d .none) L', rt := Q }
      [some (.d (.int pg)), some (.d (.list (encPs ps))), some (.d (.int (k : Int))), some (.d (.int e)), some (.d (.bool b)), none] L := by
    intro st b hst est q
    refine aWhile_of (fun m env' L' => ∃ j : Int, env' = [some (.d (.int pg)), some (.d (.list (encPs ps))), some (.d (.int (k : Int))), some (.d (.int e)), some (.d (.bool b)), some (.d (.int (e + j)))] ∧ L' = L ∧ 0 ≤ j ∧ e + j + m = up st e) (up st e - e).toNat ⟨0, by rw [Int.add_zero]; rfl, rfl, Int.le_refl _, ?_⟩ ?_
    · have := up_ge (s := st) (e := e) hst
      omega
    · rintro m env' L' ⟨j, rfl, rfl, j0, hj⟩
      have fin : ∀ st' : Int, st' = st → 0 < st' ∧ ∃ d e', view L' (AV.d (.int ((e + j) % st'))) = some d ∧ view L' (.d (.int 0)) = some e' ∧ SeqAt.shaped d = true ∧ SeqAt.shaped e' = true ∧
          (((!PyData.eqv d e') = true → ∃ m', m' < m ∧ ∃ j' : Int, [some (AV.d (.int pg)), some (AV.d (.list (encPs ps))), some (AV.d (.int (k : Int))), some (AV.d (.int e)), some (AV.d (.bool b)), some (AV.d (.int (e + j + 1)))] = [some (AV.d (.int pg)), some (AV.d (.list (encPs ps))), some (AV.d (.int (k : Int))), some (AV.d (.int e)), some (AV.d (.bool b)), some (AV.d (.int (e + j')))] ∧ L' = L' ∧ 0 ≤ j' ∧ e + j' + m' = up st e) ∧
            ((!PyData.eqv d e') = false → Q (.d (.int (e + j))) L')) := by
        rintro st' rfl
        refine ⟨hst, _, _, rfl, rfl, shaped_int _, shaped_int _, ?_⟩
        rw [eqv_int]
        refine ⟨fun hne => ?_, fun he => ?_⟩
        · have hm : m ≠ 0 := fun hm => by
            have e1 : e + j = up st' e := by omega
            rw [e1, up_zero hst] at hne
            cases hne
          exact ⟨m - 1, by omega, j + 1, by rw [Int.add_assoc], rfl, by omega, by omega⟩
        · have h0 : (e + j) % st' = 0 := by simpa using he
          rw [up_first hst j0 (by omega) h0]
          exact q
      cases b with
      | true => exact ⟨fun _ => fin pg (by rw [est]; rfl), nofun⟩
      | false => exact ⟨nofun, fun _ => ⟨_, enc_at hk, _, rfl, fin (pt ps k).al (by rw [est]; rfl)⟩⟩
  unfold stepAt at q
  refine ⟨fun h0 => ?_, fun h0 => ?_⟩
  · have h0 : decide (0 < (k : Int)) = true := h0
    have h0 := of_decide_eq_true h0
    have h0' : 0 < k := by omega
    have e1 := enc_at1 hk h0'
    refine ⟨_, enc_at hk, _, rfl, _, e1, _, rfl, _, _, rfl, rfl, shaped_str hrS, shaped_str (o.rS _ (pt_mem (by omega))), ?_⟩
    rw [eqv_str]
    by_cases hr : (pt ps k).r = (pt ps (k - 1)).r
    · rw [if_neg (fun z => z.2 hr)] at q
      have e2 : (!((pt ps k).r == (pt ps (k - 1)).r)) = false := by rw [hr]; simp
      exact main _ _ hal (by rw [e2]; rfl) q
    · rw [if_pos ⟨h0', hr⟩] at q
      have e2 : (!((pt ps k).r == (pt ps (k - 1)).r)) = true := by simpa using hr
      exact main _ _ hpg (by rw [e2]; rfl) q
  · have h0 : decide (0 < (k : Int)) = false := h0
    have h0 := of_decide_eq_false h0
    rw [if_neg (fun z => h0 (by omega))] at q
    exact main _ _ hal (by simp) q
end
end VS

set_option Elab.async false
set_option linter.all false
set_option maxRecDepth 100000
set_option maxHeartbeats 4000000
set_option autoImplicit false
namespace VS
open PySem L2 PySem.Spec PyProof.Rows
def adrs (pg : Int) (ps : List Part) (ss : List Int) : List Int := (List.range ps.length).map (adr pg ps ss)
section
variable {P : Program} {w : World} {K : PySem.W.Frag} {mg : Str → Option Value} {base : Heap} {C : Addr} {tk : Tok} {aR aA aP : Addr}
def F_law_addresses : List AV → LS → AK → Prop := fun avs L Q => ∃ (pg : Int) (ps : List Part) (d : PyData) (ss : List Int), avs = [.d (.int pg), .d (.list (encPs ps)), .d d] ∧ OkL pg ps ∧ SzD d ss ∧ ss.length = ps.length ∧ Q (.d (dInts (adrs pg ps ss))) L
theorem ints_turn {ss : List Int} {i : Nat} {av : AV} (h : ((enumF 0 (ss.map PyData.int)).map AV.d)[i]? = some av) : i < ss.length ∧ av = .d (.tuple [.int (i : Nat), .int (sz ss i)]) := by
  obtain ⟨d, hd, rfl⟩ := enumD_turn h
  rw [List.getElem?_map] at hd
  obtain ⟨n, h1, rfl⟩ := Option.map_eq_some_iff.mp hd
  have hk := (List.getElem?_eq_some_iff.mp h1).1
  rw [sz_get hk] at h1
  cases h1
  exact ⟨hk, rfl⟩
theorem ok_law_addresses (T : Txt K mg C tk aR aA aP) (D : Def K mg "_law_addresses" s_law_addresses) (G_law_lowest : FnG P w K mg base C 1 "_law_lowest" F_law_lowest) : FnG P w K mg base C 2 "_law_addresses" F_law_addresses := by
  refine fnG D sc_law_addresses ?len (fun _ _ _ _ _ _ us hl => match us, hl with | [_, _, _], _ => rfl) (fun f cdv A outer s H E hr avs L Q h => ?_)
  case len =>
    rintro avs L Q ⟨p, d, e, e2, rfl, _⟩
    rfl
  have nd := (sc_law_addresses).nd
  have hu := hr.units
  have hu1 := hu_of hr
  have hu65 : (A.deeper (envOfC "_law_addresses" (defScope s_law_addresses) s.heap.objs.size f cdv)).units + 65 < cLine := by
    have := hr.un
    omega
  obtain ⟨pg, ps, d, ss, rfl, o, hd, hl, q⟩ := h
  have hlen := o.len
  rcases hd with rfl | rfl
  · refine ⟨_, _, (ass_cons (as_par 3 4 rfl nd (aa_cons (ae_lstM aa_nil) (aa_cons ae_int aa_nil)))
      (ass_cons (as_for (ai_e K rfl T.enumerate_ (aa_cons (ae_var 2) aa_nil)) (ag_tup K (n := 2) rfl (ags_cons (ag_name 5 nd) (ags_cons (ag_name 6 nd) ags_nil))) (ass_cons (as_expr (ae_app K (ae_var 3) (aa_cons (ae_fn K G_law_lowest (hr.mono (by first | decide | omega)) (aa_cons (ae_var 0) (aa_cons (ae_var 1) (aa_cons (ae_var 5) (aa_cons (ae_var 4) aa_nil))))) aa_nil)))
      (ass_one (as_set 4 nd (ae_op ao_add (ae_ix (ai_list K) (ae_var 3) (ae_neg ae_int)) (ae_var 6))))))
      (ass_one (as_ret (ae_varF 3))))), ?_⟩
    refine ⟨Nat.zero_le _, fun a ha => ?_⟩
    refine aFor_of ((enumF 0 (ss.map PyData.int)).map AV.d) (fun i env' L' => ∃ (x5 x6 : Option AV), env' = [some (.d (.int pg)), some (.d (.list (encPs ps))), some (.d (.list (ss.map PyData.int))), some (.p a), some (.d (.int (endAt pg ps ss i))), x5, x6] ∧
      L' = put L a ((((List.range i).map (adr pg ps ss)).map PyData.int).map AV.d)) (fun R r => r) ⟨none, none, rfl, rfl⟩ ?_ ?_
    · rintro i av env' L' hi ⟨x5, x6, rfl, rfl⟩
      obtain ⟨hk, rfl⟩ := ints_turn hi
      have hkp : i < ps.length := by omega
      refine ⟨rfl, ⟨_, put_same⟩, pg, ps, i, _, rfl, o, hkp, _, put_same, ?_, ?_⟩
      · rw [List.length_map, List.length_map, List.length_map, List.length_range]
        omega
      · rw [put_put]
        refine ⟨_, .d (.int (adr pg ps ss i)), put_same, atI_last _ _, _, _, rfl, ?_⟩
        rw [List.range_succ, List.map_append, List.map_append, List.map_append]
        rfl
    · rintro env' L' ⟨x5, x6, rfl, rfl⟩
      rw [enumF_map_len, List.length_map]
      refine ⟨_, (by rw [put_same]; exact allD_map _), ?_⟩
      rw [del_put ha, hl]
      exact q
  · refine ⟨_, _, (ass_cons (as_par 3 4 rfl nd (aa_cons (ae_lstM aa_nil) (aa_cons ae_int aa_nil)))
      (ass_cons (as_for (ai_eT K rfl T.enumerate_ (aa_cons (ae_var 2) aa_nil)) (ag_tup K (n := 2) rfl (ags_cons (ag_name 5 nd) (ags_cons (ag_name 6 nd) ags_nil))) (ass_cons (as_expr (ae_app K (ae_var 3) (aa_cons (ae_fn K G_law_lowest (hr.mono (by first | decide | omega)) (aa_cons (ae_var 0) (aa_cons (ae_var 1) (aa_cons (ae_var 5) (aa_cons (ae_var 4) aa_nil))))) aa_nil)))
      (ass_one (as_set 4 nd (ae_op ao_add (ae_ix (ai_list K) (ae_var 3) (ae_neg ae_int)) (ae_var 6))))))
      (ass_one (as_ret (ae_varF 3))))), ?_⟩
    refine ⟨Nat.zero_le _, fun a ha => ?_⟩
    refine aFor_of ((enumF 0 (ss.map PyData.int)).map AV.d) (fun i env' L' => ∃ (x5 x6 : Option AV), env' = [some (.d (.int pg)), some (.d (.list (encPs ps))), some (.d (.tuple (ss.map PyData.int))), some (.p a), some (.d (.int (endAt pg ps ss i))), x5, x6] ∧
      L' = put L a ((((List.range i).map (adr pg ps ss)).map PyData.int).map AV.d)) (fun R r => r) ⟨none, none, rfl, rfl⟩ ?_ ?_
    · rintro i av env' L' hi ⟨x5, x6, rfl, rfl⟩
      obtain ⟨hk, rfl⟩ := ints_turn hi
      have hkp : i < ps.length := by omega
      refine ⟨rfl, ⟨_, put_same⟩, pg, ps, i, _, rfl, o, hkp, _, put_same, ?_, ?_⟩
      · rw [List.length_map, List.length_map, List.length_map, List.length_range]
        omega
      · rw [put_put]
        refine ⟨_, .d (.int (adr pg ps ss i)), put_same, atI_last _ _, _, _, rfl, ?_⟩
        rw [List.range_succ, List.map_append, List.map_append, List.map_append]
        rfl
    · rintro env' L' ⟨x5, x6, rfl, rfl⟩
      rw [enumF_map_len, List.length_map]
      refine ⟨_, (by rw [put_same]; exact allD_map _), ?_⟩
      rw [del_put ha, hl]
      exact q
def F_law_end : List AV → LS → AK → Prop := fun avs L Q => ∃ (pg : Int) (ps : List Part) (ss : List Int) (ord : List Nat), avs = [.d (.int pg), .d (.list (encPs ps)), .d (dInts ss), .d (dInts (nats ord))] ∧ OkL pg ps ∧ ss.length = ps.length ∧ ord ≠ [] ∧ ord.length ≤ 100 ∧ (∀ k ∈ ord, k < ps.length) ∧
  Q (.d (.int (endAt pg (ord.map (pt ps)) (ord.map (sz ss)) ord.length))) L
theorem ok_law_end (T : Txt K mg C tk aR aA aP) (D : Def K mg "_law_end" s_law_end) (G_law_addresses : FnG P w K mg base C 2 "_law_addresses" F_law_addresses) : FnG P w K mg base C 3 "_law_end" F_law_end := by
  refine fnG D sc_law_end ?len (fun _ _ _ _ _ _ us hl => match us, hl with | [_, _, _, _], _ => rfl) (fun f cdv A outer s H E hr avs L Q h => ?_)
  case len =>
    rintro avs L Q ⟨p, d, e, e2, rfl, _⟩
    rfl
  have nd := (sc_law_end).nd
  have hu := hr.units
  have hu1 := hu_of hr
  have hu65 : (A.deeper (envOfC "_law_end" (defScope s_law_end) s.heap.objs.size f cdv)).units + 65 < cLine := by
    have := hr.un
    omega
  obtain ⟨pg, ps, ss, ord, rfl, o, hl, hne, hol, hk, q⟩ := h
  refine ⟨_, _, (ass_cons (as_set 4 nd (ae_fn K G_law_addresses (hr.mono (by first | decide | omega)) (aa_cons (ae_var 0) (aa_cons (ae_lc [("_law_k", 5)] nd (ai_l K (ae_var 3)) (by kernel_rfl) (fun _ _ _ _ _ => (ag_name 5 nd)) (fun _ _ _ _ _ => ats_nil) (fun _ _ _ _ _ => (ae_ix (ai_list K) (ae_var 1) (ae_var 5)))) (aa_cons (ae_lc [("_law_k", 5)] nd (ai_l K (ae_var 3)) (by kernel_rfl) (fun _ _ _ _ _ => (ag_name 5 nd)) (fun _ _ _ _ _ => ats_nil) (fun _ _ _ _ _ => (ae_ix (ai_list K) (ae_var 2) (ae_var 5)))) aa_nil)))))
      (ass_one (as_ret (ae_op ao_add (ae_ix (ai_list K) (ae_var 4) (ae_neg ae_int)) (ae_ix (ai_list K) (ae_var 2) (ae_ix (ai_list K) (ae_var 3) (ae_neg ae_int))))))), ?_⟩
  refine lc_mapT ord (fun (k : Nat) => AV.d (.int (k : Int))) (fun k => encP (pt ps k)) (fun R r => by rw [← nats_map] at r; exact r) (by omega) (fun k S1 S0 hm r => ⟨fun _ => ⟨_, enc_at (hk k hm), r⟩, nofun⟩) ?_
  refine lc_mapT ord (fun (k : Nat) => AV.d (.int (k : Int))) (fun k => .int (sz ss k)) (fun R r => by rw [← nats_map] at r; exact r) (by omega) (fun k S1 S0 hm r => ⟨fun _ => ⟨_, dints_at (by have := hk k hm; omega), r⟩, nofun⟩) ?_
  refine ⟨pg, ord.map (pt ps), _, ord.map (sz ss), ?_, ⟨o.pg0, fun p h => ?_, fun p h => ?_, ?_⟩, .inl rfl, ?_, ?_⟩
  · unfold encPs
    rw [List.map_map, List.map_map]
    rfl
  · obtain ⟨k, h1, rfl⟩ := List.mem_map.mp h
    exact o.al0 _ (pt_mem (hk k h1))
  · obtain ⟨k, h1, rfl⟩ := List.mem_map.mp h
    exact o.rS _ (pt_mem (hk k h1))
  · rw [List.length_map]
    omega
  · rw [List.length_map, List.length_map]
  · obtain ⟨o0, k, rfl⟩ := snoc_of ord hne
    have hkk : k < ps.length := hk k (by simp)
    have el : (o0 ++ [k]).length = o0.length + 1 := by rw [List.length_append]; rfl
    rw [el] at q
    have es : sz ((o0 ++ [k]).map (sz ss)) o0.length = sz ss k := by
      rw [List.map_append]
      have := sz_last (o0.map (sz ss)) (sz ss k)
      rw [List.length_map] at this
      exact this
    have q : Q (.d (.int (adr pg ((o0 ++ [k]).map (pt ps)) ((o0 ++ [k]).map (sz ss)) o0.length + sz ((o0 ++ [k]).map (sz ss)) o0.length))) L := q
    rw [es] at q
    refine ⟨.int (adr pg ((o0 ++ [k]).map (pt ps)) ((o0 ++ [k]).map (sz ss)) o0.length), ?_, .int (k : Int), ?_, .int (sz ss k), dints_at (by omega), q⟩
    · unfold adrs
      rw [List.length_map, el, List.range_succ, List.map_append, List.map_append]
      exact atI_last _ _
    · rw [nats_app, List.map_append]
      exact atI_last _ _

/-! ### loose -/
theorem kits_int : kitBs "int" ["list", "tuple"] = some false := by decide +kernel
theorem kits_str : kitBs "str" ["list", "tuple"] = some false := by decide +kernel
def F_loose0 : List AV → LS → AK → Prop := fun avs L Q => ∃ (a : Addr) (i : Int), avs = [.p a, .d (.int i)] ∧ Q (.d (.int i)) L
theorem ok_loose0 (T : Txt K mg C tk aR aA aP) (D : Def K mg "_law_loose" s_law_loose) : FnG P w K mg base C 1 "_law_loose" F_loose0 := by
  refine fnG D sc_law_loose ?len (fun _ _ _ _ _ _ us hl => match us, hl with | [_, _], _ => rfl) (fun f cdv A outer s H E hr avs L Q h => ?_)
  case len =>
    rintro avs L Q ⟨p, d, rfl, _⟩
    rfl
  have nd := (sc_law_loose).nd
  have hu := hr.units
  have hu1 := hu_of hr
  have hu65 : (A.deeper (envOfC "_law_loose" (defScope s_law_loose) s.heap.objs.size f cdv)).units + 65 < cLine := by
    have := hr.un
    omega
  obtain ⟨a, i, rfl, q⟩ := h
  refine ⟨_, _, (ass_cons (as_if (at_val (ae_isiT K rfl T.isi PyProof.Rows.boot_isinstance (ae_var 1) (ptys_cons rfl T.list_ PyProof.Rows.boot_list (ptys_cons rfl T.tuple_ PyProof.Rows.boot_tuple ptys_nil)) (by decide))) ass_never ass_nil) (ass_one (as_ret (ae_var 1)))), ?_⟩
  exact ⟨_, _, rfl, kits_int, nofun, fun _ => q⟩
def F_loose : List AV → LS → AK → Prop := fun avs L Q => ∃ (a : Addr) (ss : List Int) (s : Int × Int × Int) (n : Nat), avs = [.p a, .d (dInts ss)] ∧ ss.length ≤ 1000 ∧ L a = some (srcL s) ∧ Src n s ∧ n ≤ 100000 ∧ ∀ d s', SzD d ss → Src (n + 1) s' → Q (.d d) (put L a (srcL s'))
theorem ok_loose (T : Txt K mg C tk aR aA aP) (D : Def K mg "_law_loose" s_law_loose) (G_law_draw : FnG P w K mg base C 1 "_law_draw" F_law_draw) (G_law_loose : FnG P w K mg base C 1 "_law_loose" F_loose0) : FnG P w K mg base C 2 "_law_loose" F_loose := by
  refine fnG D sc_law_loose ?len (fun _ _ _ _ _ _ us hl => match us, hl with | [_, _], _ => rfl) (fun f cdv A outer s H E hr avs L Q h => ?_)
  case len =>
    rintro avs L Q ⟨p, d, e, e2, rfl, _⟩
    rfl
  have nd := (sc_law_loose).nd
  have hu := hr.units
  have hu1 := hu_of hr
  have hu65 : (A.deeper (envOfC "_law_loose" (defScope s_law_loose) s.heap.objs.size f cdv)).units + 65 < cLine := by
    have := hr.un
    omega
  obtain ⟨a, ss, s0, n, rfl, hl, hL, hs, hn, q⟩ := h
  refine ⟨_, _, (ass_cons (as_if (at_val (ae_isiT K rfl T.isi PyProof.Rows.boot_isinstance (ae_var 1) (ptys_cons rfl T.list_ PyProof.Rows.boot_list (ptys_cons rfl T.tuple_ PyProof.Rows.boot_tuple ptys_nil)) (by decide))) (ass_cons (as_setLc 2 [("_law_part", 3)] nd (ai_l K (ae_var 1)) (by kernel_rfl) (fun _ _ _ _ _ => (ag_name 3 nd)) (fun _ _ _ _ _ => ats_nil) (fun _ _ _ _ _ => (ae_fn K G_law_loose (hr.mono (by first | decide | omega)) (aa_cons (ae_var 0) (aa_cons (ae_var 3) aa_nil)))))
      (ass_one (as_ret (ae_if (at_cmp (ao_eq K hu) (ae_fn K G_law_draw (hr.mono (by first | decide | omega)) (aa_cons (ae_var 0) (aa_cons ae_int aa_nil))) ae_int) (ae_var 2) (ae_callTy (ac_tupOf K) rfl T.tuple_ PyProof.Rows.boot_tuple (aa_cons (ae_var 2) aa_nil)))))) ass_nil)
      (ass_one (as_ret (ae_var 1)))), ?_⟩
  refine ⟨_, _, rfl, kits_list, fun _ => ?_, nofun⟩
  refine lc_mapT ss (fun i => AV.d (.int i)) PyData.int (fun R r => ?_) (by omega) (fun i S1 S0 hm r => ⟨fun _ => ⟨a, i, rfl, r⟩, nofun⟩) ?_
  · have e : (ss.map fun i => AV.d (.int i)) = (ss.map PyData.int).map AV.d := by rw [List.map_map]; rfl
    rw [e] at r
    exact r
  refine ⟨a, 2, s0, n, rfl, by omega, by omega, hL, hs, by omega, fun r s' r0 r1 hs' => ?_⟩
  refine ⟨_, _, rfl, rfl, shaped_int _, shaped_int _, fun _ => q _ s' (.inl rfl) hs', fun _ => q _ s' (.inr rfl) hs'⟩

/-! ### same -/
def SameOk : Nat → PyData → Prop
  | 0, d => (∃ i, d = .int i) ∨ ∃ z, d = .str z ∧ PyData.strOk z = true
  | n + 1, d => ((∃ i, d = .int i) ∨ ∃ z, d = .str z ∧ PyData.strOk z = true) ∨ ∃ ds, (d = .list ds ∨ d = .tuple ds) ∧ ds.length ≤ 1000 ∧ ∀ x ∈ ds, SameOk n x
def F_same (n : Nat) : List AV → LS → AK → Prop := fun avs L Q => ∃ d, avs = [.d d, .d d] ∧ SameOk n d ∧ Q (.d (.bool true)) L
theorem kit_ll : kitB "list" "list" = some true := by decide +kernel
theorem kit_lt : kitB "list" "tuple" = some false := by decide +kernel
theorem kit_tl : kitB "tuple" "list" = some false := by decide +kernel
theorem kit_tt : kitB "tuple" "tuple" = some true := by decide +kernel
theorem kit_id : kitB "int" "dict" = some false := by decide +kernel
theorem kit_sd : kitB "str" "dict" = some false := by decide +kernel
theorem kit_si : kitB "str" "int" = some false := by decide +kernel
theorem kits_str4 : kitBs "str" ["int", "list", "tuple", "dict"] = some false := by decide +kernel
theorem eqv_bool (a b : Bool) : PyData.eqv (.bool a) (.bool b) = (a == b) := by simp [PyData.eqv]
theorem ok_same0 (T : Txt K mg C tk aR aA aP) (D : Def K mg "_law_same" s_law_same) : FnG P w K mg base C 1 "_law_same" (F_same 0) := by
  refine fnG D sc_law_same ?len (fun _ _ _ _ _ _ us hl => match us, hl with | [_, _], _ => rfl) (fun f cdv A outer s H E hr avs L Q h => ?_)
  case len =>
    rintro avs L Q ⟨d, rfl, _⟩
    rfl
  have nd := (sc_law_same).nd
  have hu := hr.units
  have hu1 := hu_of hr
  have hu65 : (A.deeper (envOfC "_law_same" (defScope s_law_same) s.heap.objs.size f cdv)).units + 65 < cLine := by
    have := hr.un
    omega
  obtain ⟨d, rfl, hd, q⟩ := h
  refine ⟨_, _, (ass_cons (as_if (at_val (ae_isiT K rfl T.isi PyProof.Rows.boot_isinstance (ae_var 1) (ptys_cons rfl T.list_ PyProof.Rows.boot_list (ptys_cons rfl T.tuple_ PyProof.Rows.boot_tuple ptys_nil)) (by decide))) ass_never ass_nil)
      (ass_cons (as_if (at_val (ae_isi K rfl T.isi PyProof.Rows.boot_isinstance (ae_var 1) rfl T.dict_ PyProof.Rows.boot_dict)) ass_never ass_nil)
      (ass_cons (as_if (at_val (ae_isi K rfl T.isi PyProof.Rows.boot_isinstance (ae_var 1) rfl T.int_ PyProof.Rows.boot_int)) (ass_one (as_ret (ae_and (ae_isi K rfl T.isi PyProof.Rows.boot_isinstance (ae_var 0) rfl T.int_ PyProof.Rows.boot_int) (ae_and (ae_cmp (ao_eq K hu) (ae_isi K rfl T.isi PyProof.Rows.boot_isinstance (ae_var 0) rfl T.bool_ PyProof.Rows.boot_bool) (ae_isi K rfl T.isi PyProof.Rows.boot_isinstance (ae_var 1) rfl T.bool_ PyProof.Rows.boot_bool)) (ae_one (ae_cmp (ao_eq K hu) (ae_var 0) (ae_var 1))))))) ass_nil)
      (ass_one (as_ret (ae_and (ae_not (ae_isiT K rfl T.isi PyProof.Rows.boot_isinstance (ae_var 0) (ptys_cons rfl T.int_ PyProof.Rows.boot_int (ptys_cons rfl T.list_ PyProof.Rows.boot_list (ptys_cons rfl T.tuple_ PyProof.Rows.boot_tuple (ptys_cons rfl T.dict_ PyProof.Rows.boot_dict ptys_nil)))) (by decide))) (ae_one (ae_cmp (ao_eq K hu) (ae_var 0) (ae_var 1))))))))), ?_⟩
  rcases hd with ⟨i, rfl⟩ | ⟨z, rfl, hz⟩
  · refine ⟨_, _, rfl, kits_int, nofun, fun _ => ?_⟩
    refine ⟨_, _, rfl, kit_id, nofun, fun _ => ?_⟩
    refine ⟨_, _, rfl, kit_int_int, fun _ => ?_, nofun⟩
    refine ⟨_, _, rfl, kit_int_int, fun _ => ?_, nofun⟩
    refine ⟨_, _, rfl, kit_int_bool, _, _, rfl, kit_int_bool, _, _, rfl, rfl, shaped_bool _, shaped_bool _, ?_⟩
    rw [eqv_bool]
    refine ⟨fun _ => ?_, nofun⟩
    refine ⟨_, _, rfl, rfl, shaped_int _, shaped_int _, ?_⟩
    rw [eqv_int, beq_self_eq_true]
    exact q
  · refine ⟨_, _, rfl, kits_str, nofun, fun _ => ?_⟩
    refine ⟨_, _, rfl, kit_sd, nofun, fun _ => ?_⟩
    refine ⟨_, _, rfl, kit_si, nofun, fun _ => ?_⟩
    refine ⟨_, _, rfl, kits_str4, fun _ => ?_, nofun⟩
    refine ⟨_, _, rfl, rfl, shaped_str hz, shaped_str hz, ?_⟩
    rw [eqv_str, beq_self_eq_true]
    exact q
theorem zip_self : ∀ ds : List PyData, (zipF ds ds).map AV.d = ds.map fun x => AV.d (.tuple [x, x])
  | [] => rfl
  | x :: ds => by
    show AV.d _ :: (zipF ds ds).map AV.d = _
    rw [zip_self ds]
    rfl
theorem ok_sameS (T : Txt K mg C tk aR aA aP) (D : Def K mg "_law_same" s_law_same) (n : Nat) (G_law_same : FnG P w K mg base C (n + 1) "_law_same" (F_same n)) : FnG P w K mg base C (n + 1 + 1) "_law_same" (F_same (n + 1)) := by
  refine fnG D sc_law_same ?len (fun _ _ _ _ _ _ us hl => match us, hl with | [_, _], _ => rfl) (fun f cdv A outer s H E hr avs L Q h => ?_)
  case len =>
    rintro avs L Q ⟨d, rfl, _⟩
    rfl
  have nd := (sc_law_same).nd
  have hu := hr.units
  have hu1 := hu_of hr
  have hu65 : (A.deeper (envOfC "_law_same" (defScope s_law_same) s.heap.objs.size f cdv)).units + 65 < cLine := by
    have := hr.un
    omega
  obtain ⟨d, rfl, hd, q⟩ := h
  refine ⟨_, _, (ass_cons (as_if (at_val (ae_isiT K rfl T.isi PyProof.Rows.boot_isinstance (ae_var 1) (ptys_cons rfl T.list_ PyProof.Rows.boot_list (ptys_cons rfl T.tuple_ PyProof.Rows.boot_tuple ptys_nil)) (by decide))) (ass_cons (as_if (AW.toT (aw_or (at_cmp (ao_ne K hu) (ae_isi K rfl T.isi PyProof.Rows.boot_isinstance (ae_var 0) rfl T.list_ PyProof.Rows.boot_list) (ae_isi K rfl T.isi PyProof.Rows.boot_isinstance (ae_var 1) rfl T.list_ PyProof.Rows.boot_list)) (aw_or1 (at_cmp (ao_ne K hu) (ae_isi K rfl T.isi PyProof.Rows.boot_isinstance (ae_var 0) rfl T.tuple_ PyProof.Rows.boot_tuple) (ae_isi K rfl T.isi PyProof.Rows.boot_isinstance (ae_var 1) rfl T.tuple_ PyProof.Rows.boot_tuple))))) (ass_one (as_ret ae_bl)) ass_nil)
      (ass_one (as_ret (ae_and (ae_cmp (ao_eq K hu) (ae_callB (ac_len K) rfl T.len_ PySem.boot_len (aa_cons (ae_var 0) aa_nil)) (ae_callB (ac_len K) rfl T.len_ PySem.boot_len (aa_cons (ae_var 1) aa_nil))) (ae_one (ae_callB (ac_all K rfl) rfl T.all_ PyProof.Rows.boot_all (aa_cons (ae_lc [("_law_x", 2), ("_law_y", 3)] nd (ai_z K rfl T.zip_ (aa_cons (ae_var 0) (aa_cons (ae_var 1) aa_nil))) (by kernel_rfl) (fun _ _ _ _ _ => (ag_tup K (n := 2) rfl (ags_cons (ag_name 2 nd) (ags_cons (ag_name 3 nd) ags_nil)))) (fun _ _ _ _ _ => ats_nil) (fun _ _ _ _ _ => (ae_fn K G_law_same (hr.mono (by first | decide | omega)) (aa_cons (ae_var 2) (aa_cons (ae_var 3) aa_nil))))) aa_nil))))))) ass_nil)
      (ass_cons (as_if (at_val (ae_isi K rfl T.isi PyProof.Rows.boot_isinstance (ae_var 1) rfl T.dict_ PyProof.Rows.boot_dict)) ass_never ass_nil)
      (ass_cons (as_if (at_val (ae_isi K rfl T.isi PyProof.Rows.boot_isinstance (ae_var 1) rfl T.int_ PyProof.Rows.boot_int)) (ass_one (as_ret (ae_and (ae_isi K rfl T.isi PyProof.Rows.boot_isinstance (ae_var 0) rfl T.int_ PyProof.Rows.boot_int) (ae_and (ae_cmp (ao_eq K hu) (ae_isi K rfl T.isi PyProof.Rows.boot_isinstance (ae_var 0) rfl T.bool_ PyProof.Rows.boot_bool) (ae_isi K rfl T.isi PyProof.Rows.boot_isinstance (ae_var 1) rfl T.bool_ PyProof.Rows.boot_bool)) (ae_one (ae_cmp (ao_eq K hu) (ae_var 0) (ae_var 1))))))) ass_nil)
      (ass_one (as_ret (ae_and (ae_not (ae_isiT K rfl T.isi PyProof.Rows.boot_isinstance (ae_var 0) (ptys_cons rfl T.int_ PyProof.Rows.boot_int (ptys_cons rfl T.list_ PyProof.Rows.boot_list (ptys_cons rfl T.tuple_ PyProof.Rows.boot_tuple (ptys_cons rfl T.dict_ PyProof.Rows.boot_dict ptys_nil)))) (by decide))) (ae_one (ae_cmp (ao_eq K hu) (ae_var 0) (ae_var 1))))))))), ?_⟩
  rcases hd with (⟨i, rfl⟩ | ⟨z, rfl, hz⟩) | ⟨ds, rfl | rfl, hl, hm⟩
  · refine ⟨_, _, rfl, kits_int, nofun, fun _ => ?_⟩
    refine ⟨_, _, rfl, kit_id, nofun, fun _ => ?_⟩
    refine ⟨_, _, rfl, kit_int_int, fun _ => ?_, nofun⟩
    refine ⟨_, _, rfl, kit_int_int, fun _ => ?_, nofun⟩
    refine ⟨_, _, rfl, kit_int_bool, _, _, rfl, kit_int_bool, _, _, rfl, rfl, shaped_bool _, shaped_bool _, ?_⟩
    rw [eqv_bool]
    refine ⟨fun _ => ?_, nofun⟩
    refine ⟨_, _, rfl, rfl, shaped_int _, shaped_int _, ?_⟩
    rw [eqv_int, beq_self_eq_true]
    exact q
  · refine ⟨_, _, rfl, kits_str, nofun, fun _ => ?_⟩
    refine ⟨_, _, rfl, kit_sd, nofun, fun _ => ?_⟩
    refine ⟨_, _, rfl, kit_si, nofun, fun _ => ?_⟩
    refine ⟨_, _, rfl, kits_str4, fun _ => ?_, nofun⟩
    refine ⟨_, _, rfl, rfl, shaped_str hz, shaped_str hz, ?_⟩
    rw [eqv_str, beq_self_eq_true]
    exact q
  · refine ⟨_, _, rfl, kits_list, fun _ => ?_, nofun⟩
    refine ⟨_, _, rfl, kit_ll, _, _, rfl, kit_ll, _, _, rfl, rfl, shaped_bool _, shaped_bool _, ?_⟩
    rw [eqv_bool]
    refine ⟨nofun, fun _ => ?_⟩
    refine ⟨_, _, rfl, kit_lt, _, _, rfl, kit_lt, _, _, rfl, rfl, shaped_bool _, shaped_bool _, ?_⟩
    rw [eqv_bool]
    refine ⟨nofun, fun _ => ?_⟩
    refine ⟨_, rfl, _, rfl, _, _, rfl, rfl, shaped_int _, shaped_int _, ?_⟩
    rw [eqv_int, beq_self_eq_true]
    refine ⟨fun _ => ?_, nofun⟩
    refine lc_mapT ds (fun x => AV.d (.tuple [x, x])) (fun _ => .bool true) (fun R r => by rw [← zip_self] at r; exact r) (by omega) (fun x S1 S0 hx r => ⟨rfl, fun _ => ⟨x, rfl, hm x hx, r⟩, nofun⟩) ?_
    refine ⟨ds.map fun _ => true, by rw [List.map_map]; rfl, ?_⟩
    have e : (ds.map fun _ => true).all id = true := by simp
    rw [e]
    exact q
  · refine ⟨_, _, rfl, kits_tuple, fun _ => ?_, nofun⟩
    refine ⟨_, _, rfl, kit_tl, _, _, rfl, kit_tl, _, _, rfl, rfl, shaped_bool _, shaped_bool _, ?_⟩
    rw [eqv_bool]
    refine ⟨nofun, fun _ => ?_⟩
    refine ⟨_, _, rfl, kit_tt, _, _, rfl, kit_tt, _, _, rfl, rfl, shaped_bool _, shaped_bool _, ?_⟩
    rw [eqv_bool]
    refine ⟨nofun, fun _ => ?_⟩
    refine ⟨_, rfl, _, rfl, _, _, rfl, rfl, shaped_int _, shaped_int _, ?_⟩
    rw [eqv_int, beq_self_eq_true]
    refine ⟨fun _ => ?_, nofun⟩
    refine lc_mapT ds (fun x => AV.d (.tuple [x, x])) (fun _ => .bool true) (fun R r => by rw [← zip_self] at r; exact r) (by omega) (fun x S1 S0 hx r => ⟨rfl, fun _ => ⟨x, rfl, hm x hx, r⟩, nofun⟩) ?_
    refine ⟨ds.map fun _ => true, by rw [List.map_map]; rfl, ?_⟩
    have e : (ds.map fun _ => true).all id = true := by simp
    rw [e]
    exact q
end
end VS

set_option Elab.async false
set_option linter.all false
set_option maxRecDepth 100000
set_option maxHeartbeats 4000000
set_option autoImplicit false
namespace VS
open PySem L2 PySem.Spec PyProof.Rows
/-- several roads come to one place -/
theorem cut2 {A B : Type} {GOAL : Prop} (G : A → B → Prop) (ok : A → B → Prop) (main : (∀ x y, ok x y → G x y) → GOAL) (rest : ∀ x y, ok x y → G x y) : GOAL := main rest
theorem cut1 {A : Type} {GOAL : Prop} (G : A → Prop) (ok : A → Prop) (main : (∀ x, ok x → G x) → GOAL) (rest : ∀ x, ok x → G x) : GOAL := main rest
/-- what a comprehension asks of what it walks -/
def LcR (ag : AV → Env → (Env → Prop) → Prop) (at_ : ATT) (ae : ATE) (vs : List Nat) (env : Env) (P : AK) : List AV → LS → Prop := fun avs L1 => avs.length < 100000 ∧ ∃ W : Nat → List PyData → LS → Prop, W 0 [] L1 ∧
    (∀ (i : Nat) (av : AV) (acc : List PyData) (L' : LS), avs[i]? = some av → W i acc L' → ag av (wipeE env vs) fun env2 => at_ env2 L' fun b L3 =>
      (b = true → ae env2 L3 fun y L4 => match y with
        | .d d => W (i + 1) (acc ++ [d]) L4
        | _ => False) ∧ (b = false → W (i + 1) acc L3)) ∧
    ∀ (acc : List PyData) (L' : LS), W avs.length acc L' → P (.d (.list acc)) L'
theorem aLc_R {ai : AIT} {ag : AV → Env → (Env → Prop) → Prop} {at_ : ATT} {ae : ATE} {vs : List Nat} {env : Env} {L : LS} {P : AK} (h : ai env L (LcR ag at_ ae vs env P)) : aLc ai ag at_ ae vs env L P := aLc_by h
theorem LcR_filter {α : Type} (xs : List α) (enc : α → AV) (keep : α → Bool) (val : α → PyData) {ag : AV → Env → (Env → Prop) → Prop} {at_ : ATT} {ae : ATE} {vs : List Nat} {env : Env} {L : LS} {Q : AK} (hl : xs.length < 100000)
    (ht : ∀ (x : α) (S1 : AK) (S0 : LS → Prop), x ∈ xs → (keep x = true → S1 (.d (val x)) L) → (keep x = false → S0 L) → ag (enc x) (wipeE env vs) fun env2 => at_ env2 L fun b L3 => (b = true → ae env2 L3 S1) ∧ (b = false → S0 L3))
    (hq : Q (.d (.list ((xs.filter keep).map val))) L) : LcR ag at_ ae vs env Q (xs.map enc) L := by
  refine ⟨by rw [List.length_map]; exact hl, fun i acc L' => L' = L ∧ acc = ((xs.take i).filter keep).map val, ⟨rfl, rfl⟩, ?_, ?_⟩
  · rintro i av acc L' hi ⟨rfl, rfl⟩
    rw [List.getElem?_map] at hi
    obtain ⟨x, hx, rfl⟩ := Option.map_eq_some_iff.mp hi
    have e : xs.take (i + 1) = xs.take i ++ [x] := by
      rw [List.take_add_one, hx]
      rfl
    refine ht x _ _ (List.mem_of_getElem? hx) (fun hk => ?_) (fun hk => ?_)
    · refine ⟨rfl, ?_⟩
      rw [e, List.filter_append, List.map_append, List.filter_cons, if_pos hk]
      rfl
    · refine ⟨rfl, ?_⟩
      rw [e, List.filter_append, List.map_append, List.filter_cons, if_neg (by rw [hk]; decide)]
      show _ = _ ++ []
      rw [List.append_nil]
  · rintro acc L' ⟨rfl, rfl⟩
    rw [List.length_map, List.take_length]
    exact hq
theorem al_first {pg al : Int} (h1 : 1 ≤ pg) (ha : inV (.int al) ALIGNSV = true) : ∃ al', atI ((([al, 1] : List Int).filter fun x => decide (x ≤ pg)).map PyData.int) 0 = some (.int al') ∧ inV (.int al') ALIGNSV = true ∧ al' ≤ pg := by
  by_cases h : al ≤ pg
  · refine ⟨al, ?_, ha, h⟩
    rw [List.filter_cons, if_pos (decide_eq_true h), List.filter_cons, if_pos (decide_eq_true h1)]
    rfl
  · refine ⟨1, ?_, by decide +kernel, h1⟩
    rw [List.filter_cons, if_neg (fun z => h (of_decide_eq_true z)), List.filter_cons, if_pos (decide_eq_true h1)]
    rfl
structure PartOk (pg : Int) (p : Part) : Prop where
  w : okW p.w
  wS : PyData.strOk p.w = true
  rV : inV (.str p.r) RIGHTSV = true
  alV : inV (.int p.al) ALIGNSV = true
  alP : p.al ≤ pg
  lo0 : 0 ≤ p.lo
  lohi : p.lo ≤ p.hi
  hi1 : p.hi ≤ 1000
def ZZ (ps : List Part) : Prop := ∀ k, k + 1 < ps.length → (pt ps k).z = true → (pt ps (k + 1)).z = false → (pt ps k).r ≠ (pt ps (k + 1)).r
theorem pt_app {ps : List Part} (qs : List Part) {k : Nat} (h : k < ps.length) : pt (ps ++ qs) k = pt ps k := by
  unfold pt
  rw [List.getD_eq_getElem?_getD, List.getD_eq_getElem?_getD, List.getElem?_append_left h]
theorem pt_last (ps : List Part) (p : Part) : pt (ps ++ [p]) ps.length = p := by
  unfold pt
  rw [List.getD_eq_getElem?_getD, List.getElem?_append_right (Nat.le_refl _), Nat.sub_self]
  rfl
theorem ZZ.snoc {ps : List Part} {p : Part} (h : ZZ ps) (hp : ∀ l0 q, ps = l0 ++ [q] → q.z = true → p.z = false → q.r ≠ p.r) : ZZ (ps ++ [p]) := by
  intro k hk h1 h2
  rw [List.length_append] at hk
  have hk : k + 1 < ps.length + 1 := hk
  by_cases e : k + 1 = ps.length
  · obtain ⟨l0, q, rfl⟩ := snoc_of ps (fun e2 => by rw [e2] at e; cases e)
    have e3 : k = l0.length := by
      rw [List.length_append] at e
      have e : k + 1 = l0.length + 1 := e
      omega
    have e4 : pt (l0 ++ [q] ++ [p]) k = q := by
      rw [pt_app _ (by omega), e3]
      exact pt_last l0 q
    rw [e4] at h1 ⊢
    rw [e, pt_last] at h2 ⊢
    exact hp l0 q rfl h1 h2
  · rw [pt_app _ (by omega)] at h1 ⊢
    rw [pt_app _ (by omega)] at h2 ⊢
    exact h k (by omega) h1 h2
theorem encPs_lay : ∀ {ps : List Part}, (∀ p ∈ ps, PyData.strOk p.w = true ∧ PyData.strOk p.r = true) → PyData.canLayAll0 (encPs ps) = true
  | [], _ => by simp [encPs, PyData.canLayAll0]
  | p :: ps, h => by
    obtain ⟨h1, h2⟩ := h p List.mem_cons_self
    have ih := encPs_lay fun q hq => h q (List.mem_cons_of_mem _ hq)
    unfold encPs at ih ⊢
    rw [List.map_cons]
    simp [PyData.canLayAll0, PyData.canLay0, encP, h1, h2, ih]
theorem encPs_depth : ∀ (ps : List Part), PyData.depthAll (encPs ps) ≤ 1
  | [] => by simp [encPs, PyData.depthAll]
  | p :: ps => by
    have ih := encPs_depth ps
    unfold encPs at ih ⊢
    rw [List.map_cons]
    simp [PyData.depthAll, PyData.depth, encP]
    omega
theorem shaped_encPs {ps : List Part} (h : ∀ p ∈ ps, PyData.strOk p.w = true ∧ PyData.strOk p.r = true) : SeqAt.shaped (.list (encPs ps)) = true := by
  have h1 := encPs_lay h
  have h2 := encPs_depth ps
  simp [SeqAt.shaped, PyData.canLay0, PyData.depth, h1]
  omega
def ws8 : List Str := ["a", "bss", "cc", "data", "e", "f", "g", "h"]
theorem ws8_ok : ∀ z ∈ ws8, okW z ∧ PyData.strOk z = true := by
  unfold okW
  decide +kernel
theorem ws8_nd : ws8.Nodup := by decide +kernel
theorem rights3 {d : PyData} (h : d ∈ [PyData.str "rx", .str "r", .str "rw"]) : ∃ r, d = .str r ∧ inV (.str r) RIGHTSV = true := by
  simp at h
  rcases h with rfl | rfl | rfl <;> exact ⟨_, rfl, by decide +kernel⟩
theorem pick_al {d : PyData} (h : d ∈ [PyData.int 1, .int 1, .int 2, .int 4, .int 8, .int 16]) : ∃ i, d = .int i ∧ inV (.int i) ALIGNSV = true := by
  simp at h
  rcases h with rfl | rfl | rfl | rfl | rfl <;> exact ⟨_, rfl, by decide +kernel⟩
theorem pick_lo {pg : Int} (h0 : 0 < pg) (h64 : pg ≤ 64) {d : PyData} (h : d ∈ [PyData.int 0, .int 1, .int 2, .int 3, .int 5, .int 7, .int pg, .int (pg + 1)]) : ∃ i, d = .int i ∧ 0 ≤ i ∧ i ≤ 65 := by
  simp at h
  rcases h with rfl | rfl | rfl | rfl | rfl | rfl | rfl | rfl <;> exact ⟨_, rfl, by omega, by omega⟩
theorem pick_more {sp r : Int} (h0 : 1 ≤ sp) (h1 : sp ≤ 100) (r0 : 0 ≤ r) (r1 : r ≤ 100) {d : PyData} (h : d ∈ [PyData.int 0, .int 0, .int 1, .int sp, .int r]) : ∃ i, d = .int i ∧ 0 ≤ i ∧ i ≤ 100 := by
  simp at h
  rcases h with rfl | rfl | rfl | rfl <;> exact ⟨_, rfl, by omega, by omega⟩
section
variable {P : Program} {w : World} {K : PySem.W.Frag} {mg : Str → Option Value} {base : Heap} {C : Addr} {tk : Tok} {aR aA aP : Addr}
def F_law_parts : List AV → LS → AK → Prop := fun avs L Q => ∃ (a : Addr) (pg : Int) (many : Nat) (sp : Int) (s : Int × Int × Int) (n : Nat), avs = [.p a, .d (.int pg), .d (.int (many : Int)), .d (.int sp)] ∧ inV (.int pg) PAGESV = true ∧ 1 ≤ many ∧ many ≤ 5 ∧ 1 ≤ sp ∧ sp ≤ 100 ∧
  L a = some (srcL s) ∧ Src n s ∧ n ≤ 10000 ∧ ∀ ps s', OkPlan pg ps → Src (n + 100) s' → Q (.d (.list (encPs ps))) (put L a (srcL s'))
theorem put_self {L : LS} {a : Addr} {x : List AV} (h : L a = some x) : put L a x = L := by
  funext b
  unfold put
  by_cases e : b = a
  · rw [if_pos e, e, h]
  · rw [if_neg e]
theorem ok_law_parts (T : Txt K mg C tk aR aA aP) (D : Def K mg "_law_parts" s_law_parts) (G_law_draw : FnG P w K mg base C 1 "_law_draw" F_law_draw) (G_law_pick : FnG P w K mg base C 2 "_law_pick" F_law_pick) (G_law_mixed : FnG P w K mg base C 2 "_law_mixed" F_law_mixed) :
    FnG P w K mg base C 3 "_law_parts" F_law_parts := by
  refine fnG D sc_law_parts ?len (fun _ _ _ _ _ _ us hl => match us, hl with | [_, _, _, _], _ => rfl) (fun f cdv A outer s H E hr avs L Q h => ?_)
  case len =>
    rintro avs L Q ⟨p, d, e, e2, e3, e4, rfl, _⟩
    rfl
  have nd := (sc_law_parts).nd
  have hu := hr.units
  have hu1 := hu_of hr
  have hu65 : (A.deeper (envOfC "_law_parts" (defScope s_law_parts) s.heap.objs.size f cdv)).units + 65 < cLine := by
    have := hr.un
    omega
  obtain ⟨a, pg, many, sp, s0, n, rfl, hpg, hm1, hm5, hsp, hsp2, hL, hs, hn, q⟩ := h
  have hpgc := pg_of hpg
  refine ⟨_, _, (ass_cons (as_par 6 7 rfl nd (aa_cons (ae_slL K (ae_fn K G_law_mixed (hr.mono (by first | decide | omega)) (aa_cons (ae_var 0) (aa_cons (ae_lst (aa_cons ae_str (aa_cons ae_str (aa_cons ae_str (aa_cons ae_str (aa_cons ae_str (aa_cons ae_str (aa_cons ae_str (aa_cons ae_str aa_nil))))))))) aa_nil))) ap_none (ap_some (ae_var 2))) (aa_cons (ae_lstM aa_nil) aa_nil)))
      (ass_cons (as_set 4 nd (ae_fn K G_law_pick (hr.mono (by first | decide | omega)) (aa_cons (ae_var 0) (aa_cons (ae_lst (aa_cons ae_str (aa_cons ae_str (aa_cons ae_str aa_nil)))) aa_nil))))
      (ass_cons (as_for (ai_l K (ae_var 6)) (ag_name 5 nd) (ass_cons (as_if (at_cmp (ao_eq K hu) (ae_fn K G_law_draw (hr.mono (by first | decide | omega)) (aa_cons (ae_var 0) (aa_cons ae_int aa_nil))) ae_int) (ass_one (as_set 4 nd (ae_fn K G_law_pick (hr.mono (by first | decide | omega)) (aa_cons (ae_var 0) (aa_cons (ae_lst (aa_cons ae_str (aa_cons ae_str (aa_cons ae_str aa_nil)))) aa_nil))))) ass_nil)
      (ass_cons (as_set 8 nd (ae_fn K G_law_pick (hr.mono (by first | decide | omega)) (aa_cons (ae_var 0) (aa_cons (ae_lst (aa_cons ae_int (aa_cons ae_int (aa_cons ae_int (aa_cons ae_int (aa_cons ae_int (aa_cons ae_int (aa_cons (ae_var 1) (aa_cons (ae_op ao_add (ae_var 1) ae_int) aa_nil))))))))) aa_nil))))
      (ass_cons (as_set 9 nd (ae_or (ae_cmp (ao_eq K hu) (ae_fn K G_law_draw (hr.mono (by first | decide | omega)) (aa_cons (ae_var 0) (aa_cons ae_int aa_nil))) ae_int) (ae_one (ae_and (ae_cmp (ao_ne K hu) (ae_var 7) (ae_lst aa_nil)) (ae_and (ae_ix (ai_tup K) (ae_ix (ai_list K) (ae_var 7) (ae_neg ae_int)) ae_int) (ae_one (ae_cmp (ao_eq K hu) (ae_ix (ai_tup K) (ae_ix (ai_list K) (ae_var 7) (ae_neg ae_int)) ae_int) (ae_var 4))))))))
      (ass_cons (as_set 10 nd (ae_ix (ai_list K) (ae_lc [("_law_one", 12)] nd (ai_l K (ae_op ao_cat (ae_lst (aa_cons (ae_fn K G_law_pick (hr.mono (by first | decide | omega)) (aa_cons (ae_var 0) (aa_cons (ae_lst (aa_cons ae_int (aa_cons ae_int (aa_cons ae_int (aa_cons ae_int (aa_cons ae_int (aa_cons ae_int aa_nil))))))) aa_nil))) aa_nil)) (ae_lst (aa_cons ae_int aa_nil)))) (by kernel_rfl) (fun _ _ _ _ _ => (ag_name 12 nd)) (fun _ _ _ _ _ => (ats_one (at_cmp ao_le (ae_var 12) (ae_var 1)))) (fun _ _ _ _ _ => (ae_var 12))) ae_int))
      (ass_cons (as_set 11 nd (ae_fn K G_law_pick (hr.mono (by first | decide | omega)) (aa_cons (ae_var 0) (aa_cons (ae_lst (aa_cons ae_int (aa_cons ae_int (aa_cons ae_int (aa_cons (ae_var 3) (aa_cons (ae_fn K G_law_draw (hr.mono (by first | decide | omega)) (aa_cons (ae_var 0) (aa_cons (ae_op ao_add (ae_var 3) ae_int) aa_nil))) aa_nil)))))) aa_nil))))
      (ass_one (as_expr (ae_app K (ae_var 7) (aa_cons (ae_tup (aa_cons (ae_var 5) (aa_cons (ae_var 4) (aa_cons (ae_var 10) (aa_cons (ae_var 8) (aa_cons (ae_op ao_add (ae_var 8) (ae_var 11)) (aa_cons (ae_var 9) aa_nil))))))) aa_nil))))))))))
      (ass_one (as_ret (ae_varF 7)))))), ?_⟩
  refine ⟨_, rfl, (by show (8 : Nat) ≤ 100000; decide), a, ws8, s0, n, rfl, (by show (8 : Nat) ≤ 100; decide), fun z hz => (ws8_ok z hz).2, hL, hs, by omega, fun ys s1 hys hs1 => ?_⟩
  have hyl : ys.length = 8 := hys.length_eq
  have ecut : cutD (ys.map PyData.str) none (some (many : Int)) = (ys.take many).map PyData.str := by
    rw [cut_pre _ _ (by rw [List.length_map, hyl]; omega), List.map_take]
  have hws : ∀ z ∈ ys.take many, okW z ∧ PyData.strOk z = true := fun z hz => ws8_ok z (hys.subset (List.mem_of_mem_take hz))
  have hwn : (ys.take many).Nodup := List.Nodup.sublist (List.take_sublist _ _) (hys.nodup_iff.mpr ws8_nd)
  have hwl : (ys.take many).length = many := by rw [List.length_take, hyl]; omega
  rw [dStrs]
  refine (show _ from ?_ : _)
  refine ⟨Nat.zero_le _, fun b hb => ?_⟩
  have hba : b ≠ a := fun e => by rw [e, put_same] at hb; cases hb
  have hLb : L b = none := by rw [put_ne hba] at hb; exact hb
  rw [put_comm (Ne.symm hba)]
  have hs1 : Src (n + 8) s1 := hs1
  generalize ys.take many = ws at ecut hws hwn hwl
  have S1 : ∀ x s, put (put L b x) a s a = some s := fun x s => put_same
  refine ⟨_, rfl, (by show (3 : Nat) ≤ 100000; decide), a, _, s1, n + 8, rfl, (by show 1 ≤ 3; decide), (by show (3 : Nat) ≤ 1000; decide), put_same, hs1, by omega, fun d s2 hd hs2 => ?_⟩
  obtain ⟨r, rfl, hr1⟩ := rights3 hd
  rw [put_put]
  refine aFor_of (ws.map fun z => AV.d (.str z)) (fun i env' L' => ∃ (ps : List Part) (r : Str) (s : Int × Int × Int) (x5 x8 x9 x10 x11 : Option AV), env' = [some (.p a), some (.d (.int pg)), some (.d (.int (many : Int))), some (.d (.int sp)), some (.d (.str r)), x5, some (.d (.list (ws.map PyData.str))), some (.p b), x8, x9, x10, x11, none] ∧
    L' = put (put L b ((encPs ps).map AV.d)) a (srcL s) ∧ inV (.str r) RIGHTSV = true ∧ Src (n + 9 + 8 * i) s ∧ ps.map Part.w = ws.take i ∧ (∀ p ∈ ps, PartOk pg p) ∧ ZZ ps) (fun R z => ?_) ⟨[], r, s2, none, none, none, none, none, ?_, rfl, hr1, hs2, rfl, nofun, fun k hk => absurd hk (Nat.not_lt_zero _)⟩ ?_ ?_
  · show R ((cutD (ys.map PyData.str) none (some (many : Int))).map AV.d) _
    rw [ecut]
    have e : (ws.map fun z => AV.d (.str z)) = (ws.map PyData.str).map AV.d := by rw [List.map_map]; rfl
    rw [e] at z
    exact z
  · rw [← ecut]
    rfl
  · rintro i av env' L' hi ⟨ps, r, s, x5, x8, x9, x10, x11, rfl, rfl, hr, hs, hw, hok, hz⟩
    rw [List.getElem?_map] at hi
    obtain ⟨wd, hwd, rfl⟩ := Option.map_eq_some_iff.mp hi
    have hiw := (List.getElem?_eq_some_iff.mp hwd).1
    obtain ⟨wd1, wd2⟩ := hws wd (List.mem_of_getElem? hwd)
    have hpl : ps.length = i := by
      have e := congrArg List.length hw
      rw [List.length_map, List.length_take] at e
      omega
    have hsh : SeqAt.shaped (.list (encPs ps)) = true := shaped_encPs fun p hp => ⟨(hok p hp).wS, rights_ok (hok p hp).rV⟩
    refine ⟨a, 3, s, n + 9 + 8 * i, rfl, by decide, by decide, put_same, hs, by omega, fun d0 s3 d00 d01 hs3 => ?_⟩
    rw [put_put]
    refine ⟨_, _, rfl, rfl, shaped_int _, shaped_int _, ?_⟩
    apply cut2 _ (fun (r : Str) (s : Int × Int × Int) => inV (.str r) RIGHTSV = true ∧ Src (n + 9 + 8 * i + 2) s)
    · intro rest
      refine ⟨fun _ => ?_, fun _ => ?_⟩
      · refine ⟨_, rfl, (by show (3 : Nat) ≤ 100000; decide), a, _, s3, n + 9 + 8 * i + 1, rfl, (by show 1 ≤ 3; decide), (by show (3 : Nat) ≤ 1000; decide), put_same, hs3, by omega, fun d s4 hd hs4 => ?_⟩
        obtain ⟨r2, rfl, hr2⟩ := rights3 hd
        rw [put_put]
        exact rest r2 s4 ⟨hr2, hs4⟩
      · exact rest r s3 ⟨hr, hs3.mono (by omega)⟩
    · rintro r s3 ⟨hr, hs3⟩
      refine ⟨_, rfl, (by show (8 : Nat) ≤ 100000; decide), a, _, s3, n + 9 + 8 * i + 2, rfl, (by show 1 ≤ 8; decide), (by show (8 : Nat) ≤ 1000; decide), put_same, hs3, by omega, fun d s4 hd hs4 => ?_⟩
      obtain ⟨lo, rfl, lo0, lo1⟩ := pick_lo (by omega) (by omega) hd
      rw [put_put]
      refine ⟨a, 5, s4, n + 9 + 8 * i + 3, rfl, by decide, by decide, put_same, hs4, by omega, fun dz s5 dz0 dz1 hs5 => ?_⟩
      rw [put_put]
      have hg : put (put L b ((encPs ps).map AV.d)) a (srcL s5) b = some ((encPs ps).map AV.d) := by rw [put_ne hba, put_same]
      refine ⟨_, _, rfl, rfl, shaped_int _, shaped_int _, ?_⟩
      apply cut1 _ (fun (z : Bool) => ∀ l0 q, ps = l0 ++ [q] → q.z = true → z = false → q.r ≠ r)
      · intro rest
        refine ⟨?c1, ?c2⟩
        case c2 =>
          intro _
          refine ⟨_, rfl, (by show (0 : Nat) ≤ 100000; decide), .list (encPs ps), .list [], view_p hg, rfl, hsh, shaped_strs (met := []) nofun, ?_⟩
          rw [eqv_nil_list]
          by_cases hnil : ps ≠ []
          · obtain ⟨l0, lq, e⟩ := snoc_of ps hnil
            have elast : (encPs ps).map AV.d = (encPs l0).map AV.d ++ [.d (encP lq)] := by
              rw [e]
              unfold encPs
              rw [List.map_append, List.map_append]
              rfl
            have ene : (!(encPs ps).isEmpty) = true := by
              rw [e]
              unfold encPs
              simp
            have hq := hok lq (by rw [e]; simp)
            have uniq : ∀ l1 q, ps = l1 ++ [q] → q = lq := fun l1 q e2 => by
              rw [e] at e2
              have := (List.append_inj' e2 rfl).2
              simpa using this.symm
            have ix : atI ((encPs ps).map AV.d) (-1) = some (.d (encP lq)) := by
              rw [elast]
              exact atI_last _ _
            rw [ene]
            refine ⟨fun _ => ?_, nofun⟩
            refine ⟨_, .d (encP lq), hg, ix, _, rfl, fun hz1 => ?_, fun hz0 => ?_⟩
            · refine ⟨_, .d (encP lq), hg, ix, _, rfl, _, _, rfl, rfl, shaped_str (rights_ok hq.rV), shaped_str (rights_ok hr), ?_⟩
              rw [eqv_str]
              generalize hzz : (lq.r == r) = zz
              refine rest zz fun l1 q e2 _ h2 => ?_
              rw [uniq l1 q e2]
              rw [h2] at hzz
              simpa using hzz
            · refine rest false fun l1 q e2 h1 _ => ?_
              rw [uniq l1 q e2, hz0] at h1
              cases h1
          · have hnil : ps = [] := Classical.not_not.mp hnil
            have ene : (!(encPs ps).isEmpty) = false := by
              rw [hnil]
              rfl
            rw [ene]
            refine ⟨nofun, fun _ => rest false fun l0 q e => ?_⟩
            rw [hnil] at e
            have := congrArg List.length e
            simp at this
        case c1 =>
          intro _
          exact rest true fun _ _ _ _ h => nomatch h
      · intro z hzc
        refine aLc_R ⟨_, rfl, (by show (6 : Nat) ≤ 100000; decide), a, _, s5, n + 9 + 8 * i + 4, rfl, (by show 1 ≤ 6; decide), (by show (6 : Nat) ≤ 1000; decide), put_same, hs5, by omega, fun d s6 hd hs6 => ?_⟩
        obtain ⟨al, rfl, hal⟩ := pick_al hd
        rw [put_put]
        refine ⟨_, rfl, (by show (1 : Nat) ≤ 100000; decide), _, rfl, (by show (1 : Nat) ≤ 100000; decide), (by show (2 : Nat) ≤ 100000; decide), ?_⟩
        refine LcR_filter [al, 1] (fun x => AV.d (.int x)) (fun x => decide (x ≤ pg)) PyData.int (by show (2 : Nat) < 100000; decide) (fun x T1 T0 _ t1 t0 => ⟨t1, t0⟩) ?_
        obtain ⟨al2, h1, hal2, hal3⟩ := al_first (pg := pg) (by omega) hal
        refine ⟨_, h1, ?_⟩
        refine ⟨a, sp + 1, s6, n + 9 + 8 * i + 5, rfl, by omega, by omega, put_same, hs6, by omega, fun rr s7 rr0 rr1 hs7 => ?_⟩
        rw [put_put]
        refine ⟨_, rfl, (by show (5 : Nat) ≤ 100000; decide), a, _, s7, n + 9 + 8 * i + 6, rfl, (by show 1 ≤ 5; decide), (by show (5 : Nat) ≤ 1000; decide), put_same, hs7, by omega, fun d s8 hd hs8 => ?_⟩
        obtain ⟨m, rfl, m0, m1⟩ := pick_more hsp hsp2 rr0 (by omega) hd
        rw [put_put]
        have hg8 : put (put L b ((encPs ps).map AV.d)) a (srcL s8) b = some ((encPs ps).map AV.d) := by rw [put_ne hba, put_same]
        refine ⟨⟨_, hg8⟩, _, rfl, (by show (6 : Nat) ≤ 100000; decide), _, hg8, ?_, ps ++ [⟨wd, r, al2, lo, lo + m, z⟩], r, s8, _, _, _, _, _, rfl, ?_, hr, hs8.mono (by omega), ?_, fun p hp => ?_, hz.snoc fun l0 q e h1 h2 => hzc l0 q e h1 h2⟩
        · rw [List.length_map, enc_len, hpl]
          omega
        · rw [put_comm (Ne.symm hba), put_put]
          unfold encPs
          rw [List.map_append, List.map_append]
          rfl
        · rw [List.map_append, hw, take_succ hwd]
          rfl
        · rcases List.mem_append.mp hp with hp | hp
          · exact hok p hp
          · rw [List.mem_singleton.mp hp]
            refine ⟨wd1, wd2, hr, hal2, hal3, lo0, ?_, ?_⟩
            · show lo ≤ lo + m
              omega
            · show lo + m ≤ 1000
              omega
  · rintro env' L' ⟨ps, r, s, x5, x8, x9, x10, x11, rfl, rfl, hr, hs, hw, hok, hz⟩
    rw [List.length_map] at hw hs
    rw [List.take_length] at hw
    have hpl : ps.length = many := by
      have e := congrArg List.length hw
      rw [List.length_map, hwl] at e
      exact e
    refine ⟨encPs ps, by rw [put_ne hba, put_same]; exact allD_map _, ?_⟩
    have e : del (put (put L b ((encPs ps).map AV.d)) a (srcL s)) b = put L a (srcL s) := by
      rw [del_put_ne (Ne.symm hba), del_put hLb]
    rw [e]
    refine q ps s ⟨hpg, fun p h => (hok p h).w, fun p h => (hok p h).wS, fun p h => (hok p h).rV, fun p h => (hok p h).alV, fun p h => (hok p h).alP, fun p h => (hok p h).lo0, fun p h => (hok p h).lohi, fun p h => (hok p h).hi1, by rw [hw]; exact hwn, hz, by omega, by omega⟩ (hs.mono (by omega))
end
end VS

set_option Elab.async false
set_option linter.all false
set_option maxRecDepth 100000
set_option maxHeartbeats 4000000
set_option autoImplicit false
namespace VS
open PySem L2 PySem.Spec PyProof.Rows
def prodW : List Part → Int
  | [] => 1
  | p :: ps => (p.hi - p.lo + 1) * prodW ps
theorem prodW_snoc : ∀ (ps : List Part) (p : Part), prodW (ps ++ [p]) = prodW ps * (p.hi - p.lo + 1)
  | [], p => by
    show (p.hi - p.lo + 1) * 1 = 1 * (p.hi - p.lo + 1)
    omega
  | q :: ps, p => by
    show (q.hi - q.lo + 1) * prodW (ps ++ [p]) = (q.hi - q.lo + 1) * prodW ps * (p.hi - p.lo + 1)
    rw [prodW_snoc ps p, Int.mul_assoc]
def shut (p : Part) : Part := ⟨p.w, p.r, p.al, p.lo, p.lo, p.z⟩
def Shuts (ps qs : List Part) (n : Nat) : Prop := qs.length = n ∧ ∀ j, j < n → pt qs j = pt ps j ∨ pt qs j = shut (pt ps j)
theorem Shuts.snoc {ps qs : List Part} {n : Nat} {q : Part} (h : Shuts ps qs n) (hq : q = pt ps n ∨ q = shut (pt ps n)) : Shuts ps (qs ++ [q]) (n + 1) := by
  refine ⟨by rw [List.length_append, h.1]; rfl, fun j hj => ?_⟩
  by_cases e : j = n
  · subst e
    have := pt_last qs q
    rw [h.1] at this
    rw [this]
    exact hq
  · rw [pt_app _ (by rw [h.1]; omega)]
    exact h.2 j (by omega)
theorem mem_pt {ps : List Part} {p : Part} (h : p ∈ ps) : ∃ k, k < ps.length ∧ p = pt ps k := by
  obtain ⟨k, hk⟩ := List.mem_iff_getElem?.mp h
  have hl := (List.getElem?_eq_some_iff.mp hk).1
  rw [pt_get hl] at hk
  cases hk
  exact ⟨k, hl, rfl⟩
theorem Shuts.ok {pg : Int} {ps qs : List Part} (o : OkPlan pg ps) (h : Shuts ps qs ps.length) : OkPlan pg qs := by
  obtain ⟨hl, hs⟩ := h
  have one : ∀ p ∈ qs, ∃ k, k < ps.length ∧ (p = pt ps k ∨ p = shut (pt ps k)) := fun p hp => by
    obtain ⟨k, hk, rfl⟩ := mem_pt hp
    exact ⟨k, by omega, hs k (by omega)⟩
  have same : ∀ k, k < ps.length → (pt qs k).r = (pt ps k).r ∧ (pt qs k).z = (pt ps k).z ∧ (pt qs k).w = (pt ps k).w := fun k hk => by
    rcases hs k hk with e | e <;> rw [e] <;> exact ⟨rfl, rfl, rfl⟩
  refine ⟨o.pgV, fun p hp => ?_, fun p hp => ?_, fun p hp => ?_, fun p hp => ?_, fun p hp => ?_, fun p hp => ?_, fun p hp => ?_, fun p hp => ?_, ?_, fun k hk h1 h2 => ?_, by rw [hl]; exact o.len1, by rw [hl]; exact o.len5⟩
  · obtain ⟨k, hk, e | e⟩ := one p hp <;> rw [e] <;> exact o.w (pt ps k) (pt_mem hk)
  · obtain ⟨k, hk, e | e⟩ := one p hp <;> rw [e] <;> exact o.wS (pt ps k) (pt_mem hk)
  · obtain ⟨k, hk, e | e⟩ := one p hp <;> rw [e] <;> exact o.rV (pt ps k) (pt_mem hk)
  · obtain ⟨k, hk, e | e⟩ := one p hp <;> rw [e] <;> exact o.alV (pt ps k) (pt_mem hk)
  · obtain ⟨k, hk, e | e⟩ := one p hp <;> rw [e] <;> exact o.alP (pt ps k) (pt_mem hk)
  · obtain ⟨k, hk, e | e⟩ := one p hp <;> rw [e] <;> exact o.lo0 (pt ps k) (pt_mem hk)
  · obtain ⟨k, hk, e | e⟩ := one p hp
    · rw [e]
      exact o.lohi _ (pt_mem hk)
    · rw [e]
      exact Int.le_refl _
  · obtain ⟨k, hk, e | e⟩ := one p hp
    · rw [e]
      exact o.hi1 _ (pt_mem hk)
    · rw [e]
      exact Int.le_trans (o.lohi _ (pt_mem hk)) (o.hi1 _ (pt_mem hk))
  · have e : qs.map Part.w = ps.map Part.w := by
      refine List.ext_getElem? fun i => ?_
      rw [List.getElem?_map, List.getElem?_map]
      by_cases hi : i < ps.length
      · rw [pt_get hi, pt_get (by omega : i < qs.length)]
        show some _ = some _
        rw [(same i hi).2.2]
      · rw [List.getElem?_eq_none (by omega), List.getElem?_eq_none (by omega)]
    rw [e]
    exact o.nd
  · obtain ⟨a1, a2, _⟩ := same k (by omega)
    obtain ⟨b1, b2, _⟩ := same (k + 1) (by omega)
    rw [a1, b1]
    rw [a2] at h1
    rw [b2] at h2
    exact o.zz k (by omega) h1 h2
theorem pick_pg {d : PyData} (h : d ∈ [PyData.int 8, .int 8, .int 16, .int 32]) : ∃ i, d = .int i ∧ inV (.int i) PAGESV = true := by
  simp at h
  rcases h with rfl | rfl | rfl <;> exact ⟨_, rfl, by decide +kernel⟩
theorem pick_sp {d : PyData} (h : d ∈ [PyData.int 2, .int 4, .int 9]) : ∃ i, d = .int i ∧ 1 ≤ i ∧ i ≤ 100 := by
  simp at h
  rcases h with rfl | rfl | rfl <;> exact ⟨_, rfl, by omega, by omega⟩
theorem cut4 (a b c d e f : PyData) : cutD [a, b, c, d, e, f] none (some 4) = [a, b, c, d] := cut_pre [a, b, c, d, e, f] 4 (by show (4 : Nat) ≤ 6; decide)
section
variable {P : Program} {w : World} {K : PySem.W.Frag} {mg : Str → Option Value} {base : Heap} {C : Addr} {tk : Tok} {aR aA aP : Addr}
def F_law_few : List AV → LS → AK → Prop := fun avs L Q => ∃ (a : Addr) (most : Int) (s : Int × Int × Int) (n : Nat), avs = [.p a, .d (.int most)] ∧ 1 ≤ most ∧ most ≤ 60 ∧ L a = some (srcL s) ∧ Src n s ∧ n ≤ 5000 ∧
  ∀ pg ps s', OkPlan pg ps → prodW ps ≤ most → Src (n + 110) s' → Q (.d (.tuple [.int pg, .list (encPs ps)])) (put L a (srcL s'))
theorem ok_law_few (T : Txt K mg C tk aR aA aP) (D : Def K mg "_law_few" s_law_few) (G_law_draw : FnG P w K mg base C 1 "_law_draw" F_law_draw) (G_law_pick : FnG P w K mg base C 2 "_law_pick" F_law_pick) (G_law_parts : FnG P w K mg base C 3 "_law_parts" F_law_parts) :
    FnG P w K mg base C 4 "_law_few" F_law_few := by
  refine fnG D sc_law_few ?len (fun _ _ _ _ _ _ us hl => match us, hl with | [_, _], _ => rfl) (fun f cdv A outer s H E hr avs L Q h => ?_)
  case len =>
    rintro avs L Q ⟨p, d, e, e2, rfl, _⟩
    rfl
  have nd := (sc_law_few).nd
  have hu := hr.units
  have hu1 := hu_of hr
  have hu65 : (A.deeper (envOfC "_law_few" (defScope s_law_few) s.heap.objs.size f cdv)).units + 65 < cLine := by
    have := hr.un
    omega
  obtain ⟨a, most, s0, n, rfl, hm1, hm60, hL, hs, hn, q⟩ := h
  refine ⟨_, _, (ass_cons (as_par 3 4 rfl nd (aa_cons (ae_fn K G_law_pick (hr.mono (by first | decide | omega)) (aa_cons (ae_var 0) (aa_cons (ae_lst (aa_cons ae_int (aa_cons ae_int (aa_cons ae_int (aa_cons ae_int aa_nil))))) aa_nil))) (aa_cons (ae_op ao_add ae_int (ae_fn K G_law_draw (hr.mono (by first | decide | omega)) (aa_cons (ae_var 0) (aa_cons ae_int aa_nil)))) aa_nil)))
      (ass_cons (as_par3 5 6 7 rfl nd (aa_cons (ae_lstM aa_nil) (aa_cons ae_int (aa_cons ae_int aa_nil))))
      (ass_cons (as_for (ai_l K (ae_fn K G_law_parts (hr.mono (by first | decide | omega)) (aa_cons (ae_var 0) (aa_cons (ae_var 3) (aa_cons (ae_var 4) (aa_cons (ae_fn K G_law_pick (hr.mono (by first | decide | omega)) (aa_cons (ae_var 0) (aa_cons (ae_lst (aa_cons ae_int (aa_cons ae_int (aa_cons ae_int aa_nil)))) aa_nil))) aa_nil)))))) (ag_name 2 nd) (ass_cons (as_set 8 nd (ae_op ao_add (ae_op ao_sub (ae_ix (ai_tup K) (ae_var 2) ae_int) (ae_ix (ai_tup K) (ae_var 2) ae_int)) ae_int))
      (ass_cons (as_set 9 nd (ae_and (ae_cmp ao_le (ae_op ao_mul (ae_var 6) (ae_var 8)) (ae_var 1)) (ae_one (ae_or (ae_cmp (ao_eq K hu) (ae_var 8) ae_int) (ae_one (ae_cmp ao_lt (ae_var 7) ae_int))))))
      (ass_cons (as_expr (ae_app K (ae_var 5) (aa_cons (ae_if (at_val (ae_var 9)) (ae_var 2) (ae_op (ao_catT K) (ae_slT K (ae_var 2) ap_none (ap_some ae_int)) (ae_tup (aa_cons (ae_ix (ai_tup K) (ae_var 2) ae_int) (aa_cons (ae_ix (ai_tup K) (ae_var 2) ae_int) aa_nil))))) aa_nil)))
      (ass_one (as_par 6 7 rfl nd (aa_cons (ae_op ao_mul (ae_var 6) (ae_if (at_val (ae_var 9)) (ae_var 8) ae_int)) (aa_cons (ae_op ao_add (ae_var 7) (ae_callTy ac_int rfl T.int_ PyProof.Rows.boot_int (aa_cons (ae_and (ae_var 9) (ae_one (ae_cmp ao_gt (ae_var 8) ae_int))) aa_nil))) aa_nil))))))))
      (ass_one (as_ret (ae_tup (aa_cons (ae_var 3) (aa_cons (ae_varF 5) aa_nil)))))))), ?_⟩
  refine ⟨_, rfl, (by show (4 : Nat) ≤ 100000; decide), a, _, s0, n, rfl, (by show 1 ≤ 4; decide), (by show (4 : Nat) ≤ 1000; decide), hL, hs, by omega, fun d s1 hd hs1 => ?_⟩
  obtain ⟨pg, rfl, hpg⟩ := pick_pg hd
  refine ⟨a, 5, s1, n + 1, rfl, by decide, by decide, put_same, hs1, by omega, fun r s2 r0 r1 hs2 => ?_⟩
  rw [put_put]
  obtain ⟨k, rfl⟩ := Int.eq_ofNat_of_zero_le r0
  have ek : (1 : Int) + (k : Int) = ((k + 1 : Nat) : Int) := by omega
  refine ⟨Nat.zero_le _, fun b hb => ?_⟩
  have hba : b ≠ a := fun e => by rw [e, put_same] at hb; cases hb
  have hLb : L b = none := by rw [put_ne hba] at hb; exact hb
  rw [put_comm (Ne.symm hba)]
  refine aFor_by ⟨_, rfl, (by show (3 : Nat) ≤ 100000; decide), a, _, s2, n + 2, rfl, (by show 1 ≤ 3; decide), (by show (3 : Nat) ≤ 1000; decide), put_same, hs2, by omega, fun d s3 hd hs3 => ?_⟩
  obtain ⟨sp, rfl, sp1, sp2⟩ := pick_sp hd
  rw [put_put]
  refine ⟨a, pg, k + 1, sp, s3, n + 3, (by rw [← ek]), hpg, by omega, by omega, sp1, sp2, put_same, hs3, by omega, fun ps s4 ho hs4 => ?_⟩
  rw [put_put]
  refine ⟨fun i env' L' => ∃ (qs : List Part) (whole free : Int) (x2 x8 x9 : Option AV), env' = [some (.p a), some (.d (.int most)), x2, some (.d (.int pg)), some (.d (.int (1 + (k : Int)))), some (.p b), some (.d (.int whole)), some (.d (.int free)), x8, x9] ∧
    L' = put (put L b ((encPs qs).map AV.d)) a (srcL s4) ∧ Shuts ps qs i ∧ prodW qs = whole ∧ 1 ≤ whole ∧ whole ≤ most, ⟨[], 1, 0, none, none, none, rfl, rfl, ⟨rfl, nofun⟩, rfl, Int.le_refl _, hm1⟩, ?_, ?_⟩
  · rintro i av env' L' hi ⟨qs, whole, free, x2, x8, x9, rfl, rfl, hsh, hpr, hw1, hw2⟩
    obtain ⟨hi5, rfl⟩ := part_turn hi
    have h5 := ho.len5
    have hlh := ho.lohi _ (pt_mem hi5)
    refine ⟨_, rfl, _, rfl, ?_⟩
    refine ⟨.inl ⟨by omega, by omega⟩, ?_⟩
    apply cut1 _ (fun (c : Bool) => c = true → whole * ((pt ps i).hi - (pt ps i).lo + 1) ≤ most)
    · intro rest
      refine ⟨?c1, ?c2⟩
      case c1 =>
        intro hc
        have hc : decide (whole * ((pt ps i).hi - (pt ps i).lo + 1) ≤ most) = true := hc
        have hc := of_decide_eq_true hc
        refine ⟨_, _, rfl, rfl, shaped_int _, shaped_int _, ?_⟩
        refine ⟨?c3, ?c4⟩
        case c4 =>
          intro _
          conv => whnf
          dsimp only
          generalize hcc : decide (free < 3) = cc
          exact rest cc fun _ => hc
        case c3 =>
          intro _
          exact rest true fun _ => hc
      case c2 =>
        intro _
        exact rest false nofun
    · intro c hc
      have hg : put (put L b ((encPs qs).map AV.d)) a (srcL s4) b = some ((encPs qs).map AV.d) := by rw [put_ne hba, put_same]
      have hgl : ((encPs qs).map AV.d).length < 100000 := by
        rw [List.length_map, enc_len, hsh.1]
        omega
      refine ⟨⟨_, hg⟩, ?_⟩
      have stp : ∀ qq : Part, put (put (put L b ((encPs qs).map AV.d)) a (srcL s4)) b ((encPs qs).map AV.d ++ [.d (encP qq)]) = put (put L b ((encPs (qs ++ [qq])).map AV.d)) a (srcL s4) := fun qq => by
        rw [put_comm (Ne.symm hba), put_put]
        unfold encPs
        rw [List.map_append, List.map_append]
        rfl
      cases c with
      | true =>
        have hc := hc rfl
        have hpos := Int.mul_pos (a := whole) (b := (pt ps i).hi - (pt ps i).lo + 1) (by omega) (by omega)
        refine ⟨fun _ => ⟨_, hg, hgl, ?_⟩, nofun⟩
        refine ⟨fun _ => ?_, nofun⟩
        refine ⟨.inl ⟨by omega, by omega⟩, fun _ => ?_, nofun⟩
        exact ⟨qs ++ [pt ps i], _, _, _, _, _, rfl, stp _, hsh.snoc (.inl rfl), by rw [prodW_snoc, hpr], by show 1 ≤ whole * ((pt ps i).hi - (pt ps i).lo + 1); omega, hc⟩
      | false =>
        refine ⟨nofun, fun _ => ?_⟩
        refine ⟨_, rfl, _, rfl, _, rfl, (by show (2 : Nat) ≤ 100000; decide), ?_⟩
        rw [cut4]
        refine ⟨(by show (6 : Nat) ≤ 100000; decide), _, hg, hgl, ?_⟩
        refine ⟨nofun, fun _ => ?_⟩
        refine ⟨.inl ⟨by omega, by omega⟩, nofun, fun _ => ?_⟩
        refine ⟨qs ++ [shut (pt ps i)], _, _, _, _, _, rfl, stp (shut (pt ps i)), hsh.snoc (.inr rfl), ?_, ?_, ?_⟩
        · rw [prodW_snoc, hpr]
          show whole * ((pt ps i).lo - (pt ps i).lo + 1) = whole * 1
          have : (pt ps i).lo - (pt ps i).lo + 1 = 1 := by omega
          rw [this]
        · show 1 ≤ whole * 1
          omega
        · show whole * 1 ≤ most
          omega
  · rintro env' L' ⟨qs, whole, free, x2, x8, x9, rfl, rfl, hsh, hpr, hw1, hw2⟩
    rw [List.length_map, enc_len] at hsh
    refine ⟨encPs qs, by rw [put_ne hba, put_same]; exact allD_map _, _, rfl, (by show (2 : Nat) ≤ 100000; decide), ?_⟩
    have e : del (put (put L b ((encPs qs).map AV.d)) a (srcL s4)) b = put L a (srcL s4) := by
      rw [del_put_ne (Ne.symm hba), del_put hLb]
    rw [e]
    exact q pg qs s4 (hsh.ok ho) (by omega) (hs4.mono (by omega))
end
end VS

set_option Elab.async false
set_option linter.all false
set_option maxRecDepth 100000
set_option maxHeartbeats 4000000
set_option autoImplicit false
namespace VS
open PySem L2 PySem.Spec PyProof.Rows
/-! ### Plan -/
abbrev s_init : Stmt := inClass (topS 17) 0
theorem sc_init : FnScope ["self", "page", "parts", "met", "ahead", "index", "part"] ["self", "page", "parts"] (defScope s_init) := ⟨rfl, rfl, rfl, by decide +kernel, rfl, by decide +kernel, by decide +kernel⟩
theorem cut0 {GOAL : Prop} (G : Prop) (main : G → GOAL) (rest : G) : GOAL := main rest
def valOf : Stmt → Expr
  | .Assign _ e _ => e
  | _ => .Name "" ⟨0, 0, 0, 0⟩
structure Pre (X : Cx) (C : Addr) (sts : List Stmt) (u t : TS) (at_ : ATS) : Prop where
  ps : PSs X sts (fun D => t { D with nx := u D })
  sim : SimS X.K C t at_
section
variable {X : Cx} {C : Addr} {st : Stmt} {rest : List Stmt} {u t t2 : TS} {at_ at2 : ATS}
theorem pre_one (h1 : AS X C st t at_) (h2 : PSs X rest u) : Pre X C (st :: rest) u t at_ := ⟨pss_cons h1.ps h2, h1.sim⟩
theorem pre_cons (h1 : AS X C st t at_) (h2 : Pre X C rest u t2 at2) : Pre X C (st :: rest) u (tSeq t t2) (aSeq at_ at2) := ⟨pss_cons h1.ps h2.ps, simS_seq h1.sim h2.sim⟩
end
section
variable {P : Program} {w : World} {K : PySem.W.Frag} {mg : Str → Option Value} {base : Heap} {C : Addr} {tk : Tok} {aR aA aP : Addr}
def spInit (K : PySem.W.Frag) (C : Addr) : Sp := fun vs H Q _ => ∃ (G : Hp) (L : LS) (p dx : Addr) (pg : Int) (ps : List Part) (v : V), RS K C G L H ∧ vs = [.ref p, .int pg, v] ∧ Dv G v (.list (encPs ps)) ∧ OkPlan pg ps ∧ H p = some (.ins C dx []) ∧ G p = none ∧ L p = none ∧
  ∀ (G' : Hp) (H' : Hp), Ex G G' → (∀ a o, a ≠ p → H a = some o → G a = none → L a = none → H' a = some o ∧ G' a = none) → RS K C G' L H' → Rp K C G' (.ref p) (.pl pg (encPs ps)) → Q .non H'
theorem ok_init {f : Addr} {fd : FuncData} (F : Fun K "__init__" "Plan.__init__" s_init f fd) (T : Txt K mg C tk aR aA aP) (G_is_integer : FnG P w K mg base C 1 "is_integer" F_is_integer) (G_is_list : FnG P w K mg base C 1 "is_list" F_is_list) (G_is_part : FnG P w K mg base C 3 "is_part" F_is_part) :
    FnOk P w K mg base CX0 4 f fd ["self", "page", "parts"] (spInit K C) := by
  refine F.ok sc_init (fun vs H Q E h => ?_) (fun cdv A outer s H vs Q E hr h => ?_)
  · obtain ⟨G, L, p, dx, pg, ps, v, _, rfl, _⟩ := h
    rfl
  · have nd := sc_init.nd
    have hu := hr.units
    have hu1 := hu_of hr
    obtain ⟨G, L, p, dx, pg, ps, v, s0, rfl, rv, o, hp, gp, lp, k⟩ := h
    have tup : AE (cxOf CX0 P w K mg base ["self", "page", "parts", "met", "ahead", "index", "part"] "Plan.__init__" (defScope s_init) f cdv A outer s H E).nox C (valOf ((defBody s_init).getD 5 (.Pass ⟨0, 0, 0, 0⟩))) _ _ := (ae_callTy (ac_tupOf K) rfl T.tuple_ PyProof.Rows.boot_tuple (aa_cons (ae_lc [("part", 6)] nd (ai_l K (ae_var 2)) (by kernel_rfl) (fun _ _ _ _ _ => (ag_name 6 nd)) (fun _ _ _ _ _ => ats_nil) (fun _ _ _ _ _ => (ae_callTy (ac_tupOf K) rfl T.tuple_ PyProof.Rows.boot_tuple (aa_cons (ae_var 6) aa_nil)))) aa_nil))
    have pre : Pre (cxOf CX0 P w K mg base ["self", "page", "parts", "met", "ahead", "index", "part"] "Plan.__init__" (defScope s_init) f cdv A outer s H E).nox C (defBody s_init) _ _ _ :=
      (pre_cons (as_if (AW.toT (aw_or (at_not (at_val (ae_fn K G_is_integer (hr.mono (by first | decide | omega)) (aa_cons (ae_var 1) aa_nil)))) (aw_or1 (at_niK K rfl T.pages T.pagesQ (by decide +kernel) (ae_var 1))))) (ass_one as_never) ass_nil)
      (pre_cons (as_if (AW.toT (aw_or (at_not (at_val (ae_fn K G_is_list (hr.mono (by first | decide | omega)) (aa_cons (ae_var 2) aa_nil)))) (aw_or1 (at_cmp (ao_eq K hu) (ae_callB (ac_len K) rfl T.len_ PySem.boot_len (aa_cons (ae_var 2) aa_nil)) ae_int)))) (ass_one as_never) ass_nil)
      (pre_cons (as_par 3 4 rfl nd (aa_cons (ae_lstM aa_nil) (aa_cons ae_non aa_nil)))
      (pre_one (as_for (ai_e K rfl T.enumerate_ (aa_cons (ae_var 2) aa_nil)) (ag_tup K (n := 2) rfl (ags_cons (ag_name 5 nd) (ags_cons (ag_name 6 nd) ags_nil))) (ass_cons (as_if (at_not (at_val (ae_fn K G_is_part (hr.mono (by first | decide | omega)) (aa_cons (ae_var 6) (aa_cons (ae_var 1) (aa_cons (ae_var 3) aa_nil)))))) (ass_one as_never) ass_nil)
      (ass_cons (as_if (AW.toT (aw_and (at_cmp ao_notN (ae_var 4) ae_non) (aw_and (at_val (ae_ix (ai_tup K) (ae_var 4) ae_int)) (aw_and (at_not (at_val (ae_ix (ai_tup K) (ae_var 6) ae_int))) (aw_and1 (at_cmp (ao_eq K hu) (ae_ix (ai_tup K) (ae_var 4) ae_int) (ae_ix (ai_tup K) (ae_var 6) ae_int))))))) (ass_one as_never) ass_nil)
      (ass_cons (as_expr (ae_app K (ae_var 3) (aa_cons (ae_ix (ai_tup K) (ae_var 6) ae_int) aa_nil)))
      (ass_one (as_set 4 nd (ae_var 6)))))))
      (pss_cons (ps_fld (pv 0) (pv 1) rfl) (pss_one (ps_fld (pv 0) tup.pe rfl)))))))
    refine ⟨_, pre.ps, ?_⟩
    have h5 := o.len5
    have h1 := o.len1
    refine pre.sim _ { nx := fun env' L' => ∃ (b : Addr) (x4 x5 x6 : Option AV) (met : List PyData), env' = [some (.p p), some (.d (.int pg)), some (.d (.list (encPs ps))), some (.p b), x4, x5, x6] ∧ L' = put L b (met.map AV.d) ∧ L b = none, rt := fun _ _ => False }
      _ (startE ["self", "page", "parts", "met", "ahead", "index", "part"] [.p p, .d (.int pg), .d (.list (encPs ps))]) G L H (rel_start (.cons rfl (.cons (.int pg) (.cons rv .nil)))) s0 ?_ ⟨?_, fun _ _ _ _ _ _ _ _ z => z.elim, fun _ _ _ _ _ _ _ _ z => z.elim, fun _ _ _ _ _ _ _ _ z => z.elim⟩
    · refine ⟨pg, rfl, nofun, fun _ => ?_⟩
      show (_ = true → _) ∧ (_ = false → _)
      rw [o.pgV]
      refine ⟨nofun, fun _ => ?_⟩
      refine ⟨.list (encPs ps), rfl, .inl rfl, nofun, fun _ => ?_⟩
      refine ⟨_, rfl, _, _, rfl, rfl, shaped_int _, shaped_int _, ?_⟩
      rw [eqv_int]
      have e0 : (((encPs ps).length : Int) == 0) = false := by
        rw [enc_len]
        simp
        intro e
        rw [e] at h1
        simp at h1
      rw [e0]
      refine ⟨nofun, fun _ => ?_⟩
      refine ⟨Nat.zero_le _, fun b hb => ?_⟩
      refine aFor_of ((enumF 0 (encPs ps)).map AV.d) (fun i env' L' => ∃ (ah : AV) (x5 x6 : Option AV), env' = [some (.p p), some (.d (.int pg)), some (.d (.list (encPs ps))), some (.p b), some ah, x5, x6] ∧ L' = put L b ((((ps.take i).map Part.w).map PyData.str).map AV.d) ∧
        ((i = 0 ∧ ah = .d .none) ∨ (0 < i ∧ ah = .d (encP (pt ps (i - 1)))))) (fun R r => r) ⟨_, none, none, rfl, rfl, .inl ⟨rfl, rfl⟩⟩ ?_ ?_
      · rintro i av env' L' hi ⟨ah, x5, x6, rfl, rfl, hah⟩
        obtain ⟨hk, rfl⟩ := enum_turn hi
        have m := pt_mem hk
        refine ⟨rfl, ?_⟩
        refine ⟨pt ps i, pg, b, (ps.take i).map Part.w, rfl, put_same, o.w _ m, o.wS _ m, fun z hz => ?_, ?_, fun hz => ?_, o.rV _ m, o.alV _ m, o.alP _ m, o.lo0 _ m, o.lohi _ m, nofun, fun _ => ?_⟩
        · obtain ⟨q, hq, rfl⟩ := List.mem_map.mp hz
          exact o.wS q (List.mem_of_mem_take hq)
        · rw [List.length_map, List.length_take]
          omega
        · obtain ⟨q, hq, e⟩ := List.mem_map.mp hz
          obtain ⟨j, hj⟩ := List.mem_iff_getElem?.mp hq
          have hji : j < i := by
            have := (List.getElem?_eq_some_iff.mp hj).1
            rw [List.length_take] at this
            omega
          rw [List.getElem?_take_of_lt hji, pt_get (by omega)] at hj
          cases hj
          have := nd_w o (by omega) hk e
          omega
        · apply cut0
          · intro rest
            rcases hah with ⟨_, rfl⟩ | ⟨hi0, rfl⟩
            · refine ⟨nofun, fun _ => ⟨nofun, fun _ => ?_⟩⟩
              exact rest
            · refine ⟨fun _ => ?_, nofun⟩
              refine ⟨_, rfl, fun hz1 => ?_, fun _ => ⟨nofun, fun _ => rest⟩⟩
              refine ⟨_, rfl, fun hz2 => ?_, fun _ => ⟨nofun, fun _ => rest⟩⟩
              have hz2 : (pt ps i).z = false := by
                have hz2 : (!(pt ps i).z) = true := hz2
                simpa using hz2
              refine ⟨_, rfl, _, rfl, _, _, rfl, rfl, shaped_str (o.rS (by omega)), shaped_str (o.rS hk), ?_⟩
              rw [eqv_str]
              have hne := o.zz (i - 1) (by omega) hz1 (by rw [Nat.sub_add_cancel hi0]; exact hz2)
              rw [Nat.sub_add_cancel hi0] at hne
              rw [beq_eq_false_iff_ne.mpr hne]
              exact ⟨nofun, fun _ => rest⟩
          · refine ⟨⟨_, put_same⟩, _, rfl, _, put_same, ?_, _, _, _, rfl, ?_, .inr ⟨Nat.succ_pos _, rfl⟩⟩
            · rw [List.length_map, List.length_map, List.length_map, List.length_take]
              omega
            · rw [put_put, take_succ (pt_get hk), List.map_append, List.map_append, List.map_append]
              rfl
      · rintro env' L' ⟨ah, x5, x6, rfl, rfl, hah⟩
        exact ⟨b, _, _, _, _, rfl, rfl, hb⟩
    · rintro σ env' G1 L1 H1 g1 s1 r1 ⟨b, x4, x5, x6, met, rfl, rfl, hLb⟩
      obtain ⟨v0, i0, e0⟩ := r1.at_ 0 _ rfl
      have e0 : v0 = .ref p := e0
      subst e0
      obtain ⟨v1, i1, e1⟩ := r1.at_ 1 _ rfl
      have e1 : Dv G1 v1 (.int pg) := e1
      cases e1
      obtain ⟨o1, o2, o3⟩ := g1.out p _ hp gp lp
      obtain ⟨G2, _, s2, g2⟩ := s1.frz put_same (allD_map met)
      obtain ⟨p1, p2, p3⟩ := g2.out p _ o1 o2 o3
      rw [del_put hLb] at s2 p3 g2
      refine ⟨_, i1, _, i0, p, C, dx, [], rfl, o1, T.cl, T.nPage, (by show 0 < 1000; decide), ?_⟩
      have s3 := s2.mutH (o := .ins C dx (putF "kept_page" (.int pg) [])) p2 p3
      dsimp only
      unfold sFld
      refine tup.sim σ _ G2 L _ (fun av L' => av = .d (.tuple (encPs ps)) ∧ L' = L) _ (r1.mono g2.ex) s3 ?_ fun v av G3 L3 H3 g3 s4 r4 hP => ?_
      · refine lc_mapT ps (fun p => AV.d (encP p)) encP (fun R r => by rw [← encPs_av] at r; exact r) (by omega) (fun q S1 S0 hq r => ⟨fun _ => r, nofun⟩) ?_
        exact ⟨rfl, rfl⟩
      · obtain ⟨rfl, rfl⟩ := hP
        have r4 : Dv G3 v (.tuple (encPs ps)) := r4
        obtain ⟨t, xs, rfl, t1, t2⟩ : ∃ (t : Addr) (xs : List V), v = .ref t ∧ G3 t = some (.tup xs) ∧ DvAll G3 xs (encPs ps) := by
          cases r4 with
          | tup h1 h2 => exact ⟨_, _, rfl, h1, h2⟩
        obtain ⟨q1, q2, q3⟩ := g3.out p _ upd_same p2 p3
        refine ⟨_, i0, p, C, dx, _, rfl, q1, T.cl, T.nParts, (by show 1 < 1000; decide), ?_⟩
        have s5 := s4.mutH (o := .ins C dx (plF pg t)) q2 q3
        have x4 : Ex G3 (upd G3 p (.ins C dx (plF pg t))) := Ex.new q2
        refine k (upd G3 p (.ins C dx (plF pg t))) _ (((g1.ex.trans g2.ex).trans g3.ex).trans x4) (fun a u ne a1 a2 a3 => ?_) ⟨s5.ex.frz upd_same, fun a avs e => ?_⟩ ⟨p, dx, t, xs, rfl, upd_same, x4 _ _ t1, t2.mono x4⟩
        · obtain ⟨b1, b2, b3⟩ := g1.out a u a1 a2 a3
          obtain ⟨c1, c2, c3⟩ := g2.out a u b1 b2 b3
          obtain ⟨d1, d2, d3⟩ := g3.out a u (by rw [upd_ne ne]; exact c1) c2 c3
          exact ⟨by rw [upd_ne ne]; exact d1, by rw [upd_ne ne]; exact d2⟩
        · have ne : a ≠ p := fun z => by
            rw [z, q3] at e
            cases e
          obtain ⟨b1, ys, b2, b3⟩ := s5.ls a avs e
          exact ⟨by rw [upd_ne ne]; exact b1, ys, b2, b3.mono x4⟩
/-- Plan(page, parts) -/
def aPlan (aa : ATA) : ATE := fun env L P => aa env L fun avs L1 => ∃ (pg : Int) (ps : List Part), avs = [.d (.int pg), .d (.list (encPs ps))] ∧ OkPlan pg ps ∧ P (.pl pg (encPs ps)) L1
theorem ae_plan {X : Cx} {e : Expr} {es : List Expr} {t : TA} {aa : ATA} {pos p : Pos} {f : Addr} {fd : FuncData} (K : PySem.W.Frag) (M : Mk X.K C f) (F : FnOk X.prog X.w X.K X.mg X.base CX0 4 f fd ["self", "page", "parts"] (spInit X.K C)) (hb : Binds X.K fd ["self", "page", "parts"] []) (hm : X.mg "Plan" = some (.ref C)) (hr : Room 5 X.A) (ha : AA X C (e :: es) t aa)
    (hg : Gl X "Plan" := by rfl) (he : starEach (e :: es) X.env = (false, eval e X.env) :: starEach es X.env := by rfl) (hpl : (backTo pos (starEach es X.env)).any (·.1) = false := by rfl) (hK : X.K = K := by rfl) :
    AE X C (.Call (.Name "Plan" p) (e :: es) [] pos) (tMake C (spInit K C) [] E0 t) (aPlan aa) := by
  subst hK
  refine ⟨pe_make M F hr hg hm hb .nil pass0 ha.pa (by decide) he hpl, fun σ env G L H P' Q r s q k => ?_⟩
  refine ha.sim σ env G L H _ _ r s q fun vs avs G1 L1 H1 g1 s1 r1 p => ?_
  obtain ⟨pg, ps, rfl, o, hP⟩ := p
  obtain ⟨v, v2, rfl, rv, rv2⟩ := two_av r1
  have rv : Dv G1 v (.int pg) := rv
  cases rv
  intro x dx nx ndx nex
  obtain ⟨s2, _⟩ := s1.newH (o := .own x) ndx
  have nx2 : upd H1 dx (.own x) x = none := by rw [upd_ne (Ne.symm nex)]; exact nx
  obtain ⟨s3, _⟩ := s2.newH (o := .ins C dx []) nx2
  refine ⟨G1, L1, x, dx, pg, ps, v2, s3, rfl, rv2, o, upd_same, s1.ex.free nx, s1.fresh nx, fun G2 H2 ex out s4 r4 => ⟨rfl, ?_⟩⟩
  refine k _ (.pl pg (encPs ps)) G2 L1 H2 (g1.trans ⟨ex, fun a u a1 a2 a3 => ?_⟩) s4 r4 hP
  have n1 : a ≠ x := ne_of_none a1 nx
  have n2 : a ≠ dx := ne_of_none a1 ndx
  obtain ⟨b1, b2⟩ := out a u n1 (by rw [upd_ne n1, upd_ne n2]; exact a1) a2 a3
  exact ⟨b1, b2, a3⟩
end
end VS

set_option Elab.async false
set_option linter.all false
set_option maxRecDepth 100000
set_option maxHeartbeats 4000000
set_option autoImplicit false
namespace VS
open PySem L2 PySem.Spec PyProof.Rows

/-! ### sorted lists that hold the same are the same -/
theorem perm_sorted {α : Type} {R : α → α → Prop} : ∀ {l1 l2 : List α}, l1.Perm l2 → (∀ a ∈ l1, ∀ b ∈ l1, R a b → R b a → a = b) → l1.Pairwise R → l2.Pairwise R → l1 = l2
  | [], l2, p, _, _, _ => (List.nil_perm.mp p).symm
  | x :: l1, [], p, _, _, _ => absurd (List.perm_nil.mp p) (by simp)
  | x :: l1, y :: l2, p, anti, h1, h2 => by
    have exy : x = y := by
      have hx : x ∈ y :: l2 := p.subset List.mem_cons_self
      have hy : y ∈ x :: l1 := p.symm.subset List.mem_cons_self
      rcases List.mem_cons.mp hx with e | hx
      · exact e
      rcases List.mem_cons.mp hy with e | hy2
      · exact e.symm
      exact anti x List.mem_cons_self y hy ((List.pairwise_cons.mp h1).1 y hy2) ((List.pairwise_cons.mp h2).1 x hx)
    subst exy
    rw [perm_sorted (List.Perm.cons_inv p) (fun a ha b hb => anti a (List.mem_cons_of_mem _ ha) b (List.mem_cons_of_mem _ hb)) (List.pairwise_cons.mp h1).2 (List.pairwise_cons.mp h2).2]
def leS (a b : Str) : Prop := a.cps.toList ≤ b.cps.toList
theorem leS_of {a b : Str} (h : ltCps b.cps.toList a.cps.toList = false) : leS a b := by
  rw [ltCps_eq] at h
  exact List.not_lt.mp (of_decide_eq_false h)
theorem rising_pw : ∀ (l : List Str) (p : Str), risingS p l = true → (p :: l).Pairwise leS
  | [], p, _ => by simp
  | x :: r, p, h => by
    have h : (!ltCps x.cps.toList p.cps.toList && risingS x r) = true := h
    rw [Bool.and_eq_true] at h
    have h1 : leS p x := leS_of (by simpa using h.1)
    have ih := rising_pw r x h.2
    refine List.pairwise_cons.mpr ⟨fun z hz => ?_, ih⟩
    rcases List.mem_cons.mp hz with e | hz
    · rw [e]
      exact h1
    · exact List.le_trans h1 ((List.pairwise_cons.mp ih).1 z hz)
theorem sortedS_pw : ∀ {l : List Str}, PyProof.Rows.sortedS l = true → l.Pairwise leS
  | [], _ => .nil
  | x :: r, h => rising_pw r x h
theorem str_ext : ∀ {a b : Str}, a.cps.toList = b.cps.toList → a = b
  | ⟨a⟩, ⟨b⟩, h => by
    have : a = b := Array.toList_inj.mp h
    rw [this]
theorem sortedS_uniq {a b c : List Str} (h1 : a.Perm c) (h2 : b.Perm c) (s1 : PyProof.Rows.sortedS a = true) (s2 : PyProof.Rows.sortedS b = true) : a = b :=
  perm_sorted (h1.trans h2.symm) (fun x _ y _ r1 r2 => str_ext (List.le_antisymm r1 r2)) (sortedS_pw s1) (sortedS_pw s2)
theorem code_eq {B : Int} : ∀ {a b : List Int}, a.length = b.length → TS.Bd B a → TS.Bd B b → TS.code B a = TS.code B b → a = b
  | [], [], _, _, _, _ => rfl
  | [], _ :: _, h, _, _, _ => by simp at h
  | _ :: _, [], h, _, _, _ => by simp at h
  | x :: a, y :: b, h, h1, h2, e => by
    have hl : a.length = b.length := by simpa using h
    rcases Int.lt_trichotomy x y with q | q | q
    · have := TS.code_lt hl h1.tail h2.tail q
      omega
    · subst q
      have e2 : TS.code B a = TS.code B b := by
        have n1 := fun z => (TS.code_same (B := B) (d := x) hl).mpr z
        have n2 := fun z => (TS.code_same (B := B) (d := x) hl.symm).mpr z
        rcases Int.lt_trichotomy (TS.code B a) (TS.code B b) with z | z | z
        · have := n1 z
          omega
        · exact z
        · have := n2 z
          omega
      rw [code_eq hl h1.tail h2.tail e2]
    · have := TS.code_lt hl.symm h2.tail h1.tail q
      omega

/-! ### the rows of a box -/
def bx (bs : List (Int × Int)) (i : Nat) : Int × Int := bs.getD i (0, 0)
def InB (bs : List (Int × Int)) (r : List Int) : Prop := r.length = bs.length ∧ ∀ i, i < bs.length → (bx bs i).1 ≤ sz r i ∧ sz r i ≤ (bx bs i).2
theorem sz_cons0 (x : Int) (r : List Int) : sz (x :: r) 0 = x := rfl
theorem sz_consS (x : Int) (r : List Int) (i : Nat) : sz (x :: r) (i + 1) = sz r i := rfl
theorem bx_consS (b : Int × Int) (bs : List (Int × Int)) (i : Nat) : bx (b :: bs) (i + 1) = bx bs i := rfl
theorem InB_cons (b : Int × Int) (bs : List (Int × Int)) (x : Int) (r : List Int) : InB (b :: bs) (x :: r) ↔ (b.1 ≤ x ∧ x ≤ b.2) ∧ InB bs r := by
  constructor
  · rintro ⟨h1, h2⟩
    refine ⟨h2 0 (by simp), by simpa using h1, fun i hi => ?_⟩
    have := h2 (i + 1) (by simpa using hi)
    exact this
  · rintro ⟨h0, h1, h2⟩
    refine ⟨by simpa using h1, fun i hi => ?_⟩
    cases i with
    | zero => exact h0
    | succ i => exact h2 i (by simpa using hi)
theorem mem_grow {fs : List (List Int)} {b : Int × Int} {r : List Int} : r ∈ grow fs b ↔ ∃ r0 ∈ fs, ∃ x, b.1 ≤ x ∧ x ≤ b.2 ∧ r = r0 ++ [x] := by
  unfold grow
  rw [List.mem_flatMap]
  constructor
  · rintro ⟨r0, h0, h1⟩
    obtain ⟨i, hi, rfl⟩ := List.mem_map.mp h1
    have hi := List.mem_range.mp hi
    exact ⟨r0, h0, _, by omega, by omega, rfl⟩
  · rintro ⟨r0, h0, x, h1, h2, rfl⟩
    refine ⟨r0, h0, List.mem_map.mpr ⟨(x - b.1).toNat, List.mem_range.mpr (by omega), ?_⟩⟩
    have : b.1 + ((x - b.1).toNat : Int) = x := by omega
    rw [this]
theorem mem_foldl : ∀ (bs : List (Int × Int)) (fs : List (List Int)) (r : List Int), r ∈ bs.foldl grow fs ↔ ∃ r0 ∈ fs, ∃ t, InB bs t ∧ r = r0 ++ t
  | [], fs, r => by
    constructor
    · intro h
      exact ⟨r, h, [], ⟨rfl, nofun⟩, (List.append_nil r).symm⟩
    · rintro ⟨r0, h0, t, ⟨h1, _⟩, rfl⟩
      have : t = [] := List.length_eq_zero_iff.mp h1
      subst this
      rw [List.append_nil]
      exact h0
  | b :: bs, fs, r => by
    show r ∈ bs.foldl grow (grow fs b) ↔ _
    rw [mem_foldl bs]
    constructor
    · rintro ⟨r1, h1, t, ht, rfl⟩
      obtain ⟨r0, h0, x, x1, x2, rfl⟩ := mem_grow.mp h1
      exact ⟨r0, h0, x :: t, (InB_cons ..).mpr ⟨⟨x1, x2⟩, ht⟩, by simp⟩
    · rintro ⟨r0, h0, t, ht, rfl⟩
      cases t with
      | nil => exact absurd ht.1 (by simp)
      | cons x t =>
        obtain ⟨⟨x1, x2⟩, h2⟩ := (InB_cons ..).mp ht
        exact ⟨r0 ++ [x], mem_grow.mpr ⟨r0, h0, x, x1, x2, rfl⟩, t, h2, by simp⟩
theorem mem_rowsB (bs : List (Int × Int)) (r : List Int) : r ∈ rowsB bs ↔ InB bs r := by
  unfold rowsB
  rw [mem_foldl]
  constructor
  · rintro ⟨r0, h0, t, ht, rfl⟩
    rw [List.mem_singleton.mp h0]
    exact ht
  · intro h
    exact ⟨[], List.mem_singleton.mpr rfl, r, h, rfl⟩
theorem nodup_app {α : Type} {a b : List α} (h1 : a.Nodup) (h2 : b.Nodup) (h3 : ∀ x ∈ a, x ∉ b) : (a ++ b).Nodup := List.nodup_append.mpr ⟨h1, h2, fun x hx y hy e => h3 x hx (by rw [e]; exact hy)⟩
theorem grow_nodup : ∀ (fs : List (List Int)) (b : Int × Int), fs.Nodup → (grow fs b).Nodup
  | [], b, _ => by simp [grow]
  | r :: fs, b, h => by
    have hn := List.nodup_cons.mp h
    show (List.flatMap _ (r :: fs)).Nodup
    rw [List.flatMap_cons]
    refine nodup_app ?_ (grow_nodup fs b hn.2) fun x hx hx2 => ?_
    · refine List.pairwise_map.mpr (List.Pairwise.imp (fun {i j} hne e => hne ?_) List.nodup_range)
      have e := List.append_cancel_left e
      have e : b.1 + (i : Int) = b.1 + (j : Int) := by simpa using e
      omega
    · obtain ⟨i, _, rfl⟩ := List.mem_map.mp hx
      obtain ⟨r0, h0, y, _, _, e⟩ := mem_grow.mp hx2
      have := (List.append_inj' e rfl).1
      rw [this] at hn
      exact hn.1 h0
theorem foldl_nodup : ∀ (bs : List (Int × Int)) (fs : List (List Int)), fs.Nodup → (bs.foldl grow fs).Nodup
  | [], _, h => h
  | b :: bs, fs, h => foldl_nodup bs _ (grow_nodup fs b h)
theorem rowsB_nodup (bs : List (Int × Int)) : (rowsB bs).Nodup := foldl_nodup bs [[]] (by simp)
/-- the number of rows -/
def wN : List (Int × Int) → Nat
  | [] => 1
  | b :: bs => (b.2 + 1 - b.1).toNat * wN bs
theorem grow_len : ∀ (fs : List (List Int)) (b : Int × Int), (grow fs b).length = fs.length * (b.2 + 1 - b.1).toNat
  | [], b => by simp [grow]
  | r :: fs, b => by
    show (List.flatMap _ (r :: fs)).length = _
    rw [List.flatMap_cons, List.length_append, List.length_map, List.length_range, List.length_cons, Nat.succ_mul]
    have := grow_len fs b
    unfold grow at this
    rw [this]
    omega
theorem foldl_len : ∀ (bs : List (Int × Int)) (fs : List (List Int)), (bs.foldl grow fs).length = fs.length * wN bs
  | [], fs => (Nat.mul_one _).symm
  | b :: bs, fs => by
    show (bs.foldl grow (grow fs b)).length = _
    rw [foldl_len bs, grow_len, Nat.mul_assoc]
    rfl
theorem rowsB_wN (bs : List (Int × Int)) : (rowsB bs).length = wN bs := by
  unfold rowsB
  rw [foldl_len]
  simp
theorem wN_pos : ∀ (bs : List (Int × Int)), (∀ b ∈ bs, b.1 ≤ b.2) → 1 ≤ wN bs
  | [], _ => Nat.le_refl _
  | b :: bs, h => by
    have h1 := h b List.mem_cons_self
    have h2 := wN_pos bs fun c hc => h c (List.mem_cons_of_mem _ hc)
    exact Nat.mul_pos (by omega) h2
theorem wN_take : ∀ (bs : List (Int × Int)) (i : Nat), (∀ b ∈ bs, b.1 ≤ b.2) → wN (bs.take i) ≤ wN bs
  | [], i, _ => by simp [wN]
  | b :: bs, 0, h => by
    show 1 ≤ _
    exact wN_pos _ h
  | b :: bs, i + 1, h => by
    rw [List.take_succ_cons]
    exact Nat.mul_le_mul_left _ (wN_take bs i fun c hc => h c (List.mem_cons_of_mem _ hc))
theorem wN_box : ∀ (ps : List Part), (∀ p ∈ ps, p.lo ≤ p.hi) → (wN (boxOf ps) : Int) = prodW ps
  | [], _ => rfl
  | p :: ps, h => by
    have h1 := h p List.mem_cons_self
    have ih := wN_box ps fun c hc => h c (List.mem_cons_of_mem _ hc)
    show (((p.hi + 1 - p.lo).toNat * wN (boxOf ps) : Nat) : Int) = (p.hi - p.lo + 1) * prodW ps
    rw [Int.natCast_mul, ih]
    have : ((p.hi + 1 - p.lo).toNat : Int) = p.hi - p.lo + 1 := by omega
    rw [this]
theorem wN_to : ∀ (ps : List Part) (k : Nat), (∀ p ∈ ps, p.lo ≤ p.hi) → wN (boxTo ps k) ≤ wN (boxOf ps)
  | [], k, _ => by simp [boxTo, boxOf, wN]
  | p :: ps, 0, h => by
    have h1 := h p List.mem_cons_self
    have ih := wN_to ps 0 fun c hc => h c (List.mem_cons_of_mem _ hc)
    show (p.lo + 1 - p.lo).toNat * wN (boxTo ps 0) ≤ (p.hi + 1 - p.lo).toNat * wN (boxOf ps)
    exact Nat.mul_le_mul (by omega) ih
  | p :: ps, k + 1, h => by
    have ih := wN_to ps k fun c hc => h c (List.mem_cons_of_mem _ hc)
    show (p.hi + 1 - p.lo).toNat * wN (boxTo ps k) ≤ (p.hi + 1 - p.lo).toNat * wN (boxOf ps)
    exact Nat.mul_le_mul_left _ ih
section
variable {pg : Int} {ps : List Part}
theorem box_ok (o : OkPlan pg ps) (h : prodW ps ≤ 63) : BoxOk (boxOf ps) := by
  have hb : ∀ b ∈ boxOf ps, 0 ≤ b.1 ∧ b.1 ≤ b.2 ∧ b.2 ≤ 1000 := fun b hb => by
    obtain ⟨p, hp, rfl⟩ := List.mem_map.mp hb
    exact ⟨o.lo0 p hp, o.lohi p hp, o.hi1 p hp⟩
  have h5 := o.len5
  refine ⟨by unfold boxOf; rw [List.length_map]; omega, fun i => ?_, hb⟩
  rw [rowsB_wN]
  have h1 := wN_take (boxOf ps) i fun b h => (hb b h).2.1
  have h2 := wN_box ps o.lohi
  omega
theorem boxTo_ok (o : OkPlan pg ps) (h : prodW ps ≤ 63) (k : Nat) : BoxOk (boxTo ps k) := by
  have hb : ∀ b ∈ boxTo ps k, 0 ≤ b.1 ∧ b.1 ≤ b.2 ∧ b.2 ≤ 1000 := fun b hb => by
    rcases List.mem_append.mp hb with hb | hb
    · obtain ⟨p, hp, rfl⟩ := List.mem_map.mp (List.mem_of_mem_take hb)
      exact ⟨o.lo0 p hp, o.lohi p hp, o.hi1 p hp⟩
    · obtain ⟨p, hp, rfl⟩ := List.mem_map.mp hb
      have hp := List.mem_of_mem_drop hp
      exact ⟨o.lo0 p hp, Int.le_refl _, Int.le_trans (o.lohi p hp) (o.hi1 p hp)⟩
  have h5 := o.len5
  refine ⟨?_, fun i => ?_, hb⟩
  · unfold boxTo boxOf
    rw [List.length_append, List.length_take, List.length_map, List.length_map, List.length_drop]
    omega
  rw [rowsB_wN]
  have h1 := wN_take (boxTo ps k) i fun b h => (hb b h).2.1
  have h2 := wN_box ps o.lohi
  have h3 := wN_to ps k o.lohi
  omega
/-- sizes of the plan -/
def InP (ps : List Part) (r : List Int) : Prop := r.length = ps.length ∧ ∀ i, i < ps.length → (pt ps i).lo ≤ sz r i ∧ sz r i ≤ (pt ps i).hi
theorem bx_of {i : Nat} (h : i < ps.length) : bx (boxOf ps) i = ((pt ps i).lo, (pt ps i).hi) := by
  unfold bx boxOf
  rw [List.getD_eq_getElem?_getD, List.getElem?_map, pt_get h]
  rfl
theorem mem_R (r : List Int) : r ∈ rowsB (boxOf ps) ↔ InP ps r := by
  rw [mem_rowsB]
  have hl : (boxOf ps).length = ps.length := by unfold boxOf; rw [List.length_map]
  unfold InB InP
  rw [hl]
  constructor
  · rintro ⟨h1, h2⟩
    refine ⟨h1, fun i hi => ?_⟩
    have := h2 i hi
    rw [bx_of hi] at this
    exact this
  · rintro ⟨h1, h2⟩
    refine ⟨h1, fun i hi => ?_⟩
    rw [bx_of hi]
    exact h2 i hi
theorem bx_to {i k : Nat} (h : i < ps.length) : bx (boxTo ps k) i = if i < k then ((pt ps i).lo, (pt ps i).hi) else ((pt ps i).lo, (pt ps i).lo) := by
  unfold bx boxTo boxOf
  rw [List.getD_eq_getElem?_getD]
  have hl : (List.take k (List.map (fun p : Part => (p.lo, p.hi)) ps)).length = min k ps.length := by rw [List.length_take, List.length_map]
  by_cases hk : i < k
  · rw [if_pos hk, List.getElem?_append_left (by rw [hl]; omega), List.getElem?_take_of_lt hk, List.getElem?_map, pt_get h]
    rfl
  · rw [if_neg hk, List.getElem?_append_right (by rw [hl]; omega), hl, List.getElem?_map, List.getElem?_drop]
    have : k + (i - min k ps.length) = i := by omega
    rw [this, pt_get h]
    rfl
theorem mem_To (o : OkPlan pg ps) (k : Nat) (r : List Int) : r ∈ rowsB (boxTo ps k) ↔ InP ps r ∧ ∀ i, k ≤ i → i < ps.length → sz r i = (pt ps i).lo := by
  rw [mem_rowsB]
  have hl : (boxTo ps k).length = ps.length := by
    have e := congrArg List.length (boxTo_fst ps k)
    rw [List.length_map, ofInts_len.1] at e
    exact e
  unfold InB InP
  rw [hl]
  constructor
  · rintro ⟨h1, h2⟩
    refine ⟨⟨h1, fun i hi => ?_⟩, fun i hk hi => ?_⟩
    · have := h2 i hi
      rw [bx_to hi] at this
      have hh := o.lohi _ (pt_mem hi)
      split at this
      · exact this
      · have t : (pt ps i).lo ≤ sz r i ∧ sz r i ≤ (pt ps i).lo := this
        omega
    · have := h2 i hi
      rw [bx_to hi, if_neg (by omega)] at this
      have t : (pt ps i).lo ≤ sz r i ∧ sz r i ≤ (pt ps i).lo := this
      omega
  · rintro ⟨⟨h1, h2⟩, h3⟩
    refine ⟨h1, fun i hi => ?_⟩
    rw [bx_to hi]
    split
    · exact h2 i hi
    · rename_i hk
      have := h3 i (by omega) hi
      show (pt ps i).lo ≤ sz r i ∧ sz r i ≤ (pt ps i).lo
      omega
end
end VS

set_option Elab.async false
set_option linter.all false
set_option maxRecDepth 100000
set_option maxHeartbeats 4000000
set_option autoImplicit false
namespace VS
open PySem L2 PySem.Spec PyProof.Rows

/-! ### addresses go up with the sizes -/
theorem up_least {s e m : Int} (hs : 0 < s) (h1 : e ≤ m) (h2 : m % s = 0) : up s e ≤ m := by
  unfold up
  have e1 : (0 - e) % s = (m - e) % s := by
    have : 0 - e = (m - e) - m := by omega
    rw [this, Int.sub_emod, h2, Int.sub_zero, Int.emod_emod]
  have h3 : (m - e) % s ≤ m - e := by
    have q1 := Int.emod_add_mul_ediv (m - e) s
    have q2 : 0 ≤ (m - e) / s := Int.ediv_nonneg (by omega) (by omega)
    have q3 := Int.mul_nonneg (by omega : 0 ≤ s) q2
    omega
  omega
theorem up_mono {s e e' : Int} (hs : 0 < s) (h : e ≤ e') : up s e ≤ up s e' := up_least hs (Int.le_trans h (up_ge hs)) (up_zero hs)
section
variable {pg : Int} {ps : List Part}
theorem end_mono (o : OkPlan pg ps) {a b : List Int} : ∀ k, k ≤ ps.length → (∀ i, i < k → sz a i ≤ sz b i) → endAt pg ps a k ≤ endAt pg ps b k
  | 0, _, _ => Int.le_refl _
  | k + 1, hk, h => by
    show up _ (endAt pg ps a k) + sz a k ≤ up _ (endAt pg ps b k) + sz b k
    have h1 := up_mono (stepAt_pos o (by omega : k < ps.length)) (end_mono o k (by omega) fun i hi => h i (by omega))
    have h2 := h k (by omega)
    omega
theorem adr_mono (o : OkPlan pg ps) {a b : List Int} {k : Nat} (hk : k < ps.length) (h : ∀ i, i < k → sz a i ≤ sz b i) : adr pg ps a k ≤ adr pg ps b k := up_mono (stepAt_pos o hk) (end_mono o k (by omega) h)
theorem end_same {a b : List Int} : ∀ k, (∀ i, i < k → sz a i = sz b i) → endAt pg ps a k = endAt pg ps b k
  | 0, _ => rfl
  | k + 1, h => by
    show up _ (endAt pg ps a k) + sz a k = up _ (endAt pg ps b k) + sz b k
    rw [end_same k fun i hi => h i (by omega), h k (by omega)]
theorem adr_same {a b : List Int} {k : Nat} (h : ∀ i, i < k → sz a i = sz b i) : adr pg ps a k = adr pg ps b k := by
  unfold adr
  rw [end_same k h]
theorem sz_lows {i : Nat} (h : i < ps.length) : sz (lowsOf ps) i = (pt ps i).lo := by
  unfold sz lowsOf
  rw [List.getD_eq_getElem?_getD, List.getElem?_map, pt_get h]
  rfl
theorem sz_highs {i : Nat} (h : i < ps.length) : sz (highsOf ps) i = (pt ps i).hi := by
  unfold sz highsOf
  rw [List.getD_eq_getElem?_getD, List.getElem?_map, pt_get h]
  rfl
theorem lows_in (o : OkPlan pg ps) : InP ps (lowsOf ps) := ⟨ofInts_len.1, fun i hi => by rw [sz_lows hi]; exact ⟨Int.le_refl _, o.lohi _ (pt_mem hi)⟩⟩
theorem highs_in (o : OkPlan pg ps) : InP ps (highsOf ps) := ⟨ofInts_len.2, fun i hi => by rw [sz_highs hi]; exact ⟨o.lohi _ (pt_mem hi), Int.le_refl _⟩⟩
/-- whether sizes move a part -/
def mv (pg : Int) (ps : List Part) (k : Nat) (r : List Int) : Bool := !(adr pg ps r k == adr pg ps (lowsOf ps) k)
theorem mv_true {k : Nat} {r : List Int} : mv pg ps k r = true ↔ adr pg ps r k ≠ adr pg ps (lowsOf ps) k := by
  unfold mv
  simp
theorem lows_le {r : List Int} (h : InP ps r) {k : Nat} (hk : k ≤ ps.length) : ∀ i, i < k → sz (lowsOf ps) i ≤ sz r i := fun i hi => by
  rw [sz_lows (by omega)]
  exact (h.2 i (by omega)).1
def staysK (pg : Int) (ps : List Part) (k : Nat) : Bool := ((rowsB (boxOf ps)).map fun r => adr pg ps r k == adr pg ps (lowsOf ps) k).all id
theorem stays_eq (o : OkPlan pg ps) {k : Nat} (hk : k < ps.length) : (adr pg ps (lowsOf ps) k == adr pg ps (highsOf ps) k) = staysK pg ps k := by
  rw [Bool.eq_iff_iff]
  unfold staysK
  rw [List.all_map, List.all_eq_true, beq_iff_eq]
  constructor
  · intro e r hr
    have hr := (mem_R r).mp hr
    have h1 := adr_mono o hk (lows_le hr (by omega))
    have h2 : adr pg ps r k ≤ adr pg ps (highsOf ps) k := adr_mono o hk fun i hi => by
      rw [sz_highs (by omega)]
      exact (hr.2 i (by omega)).2
    show (adr pg ps r k == adr pg ps (lowsOf ps) k) = true
    rw [beq_iff_eq]
    omega
  · intro h
    have := h (highsOf ps) ((mem_R _).mpr (highs_in o))
    have this : (adr pg ps (highsOf ps) k == adr pg ps (lowsOf ps) k) = true := this
    rw [beq_iff_eq] at this
    exact this.symm
def staysM (pg : Int) (ps : List Part) : List Str := ((List.range ps.length).filter (staysK pg ps)).map fun k => (pt ps k).w
theorem steady_stays (o : OkPlan pg ps) : steadyM pg ps = staysM pg ps := by
  unfold steadyM staysM
  congr 1
  refine List.filter_congr fun k hk => ?_
  exact stays_eq o (List.mem_range.mp hk)

/-! ### the least of the moving rows -/
theorem within_iff : ∀ {a b : List Int}, a.length = b.length → (withinM a b = true ↔ ∀ i, i < a.length → sz a i ≤ sz b i)
  | [], [], _ => ⟨fun _ i h => absurd h (Nat.not_lt_zero _), fun _ => rfl⟩
  | [], _ :: _, h => by simp at h
  | _ :: _, [], h => by simp at h
  | x :: a, y :: b, h => by
    have ih := within_iff (a := a) (b := b) (by simpa using h)
    unfold withinM at ih ⊢
    rw [List.zip_cons_cons, List.all_cons, Bool.and_eq_true, ih]
    constructor
    · rintro ⟨h1, h2⟩ i hi
      cases i with
      | zero => exact of_decide_eq_true h1
      | succ i => exact h2 i (by simpa using hi)
    · intro h2
      exact ⟨decide_eq_true (h2 0 (by simp)), fun i hi => h2 (i + 1) (by simpa using hi)⟩
theorem sz_ext : ∀ {a b : List Int}, a.length = b.length → (∀ i, i < a.length → sz a i = sz b i) → a = b
  | [], [], _, _ => rfl
  | [], _ :: _, h, _ => by simp at h
  | _ :: _, [], h, _ => by simp at h
  | x :: a, y :: b, h, h2 => by
    have h0 : x = y := h2 0 (by simp)
    rw [h0, sz_ext (a := a) (b := b) (by simpa using h) fun i hi => h2 (i + 1) (by simpa using hi)]
theorem sum_le : ∀ {a b : List Int}, a.length = b.length → (∀ i, i < a.length → sz a i ≤ sz b i) → a.sum ≤ b.sum ∧ (a.sum = b.sum → a = b)
  | [], [], _, _ => ⟨Int.le_refl _, fun _ => rfl⟩
  | [], _ :: _, h, _ => by simp at h
  | _ :: _, [], h, _ => by simp at h
  | x :: a, y :: b, h, h2 => by
    have h0 : x ≤ y := h2 0 (by simp)
    obtain ⟨i1, i2⟩ := sum_le (a := a) (b := b) (by simpa using h) fun i hi => h2 (i + 1) (by simpa using hi)
    rw [List.sum_cons, List.sum_cons]
    refine ⟨by omega, fun e => ?_⟩
    rw [i2 (by omega), show x = y by omega]
theorem sum_nonneg : ∀ {a : List Int}, (∀ x ∈ a, 0 ≤ x) → 0 ≤ a.sum
  | [], _ => Int.le_refl _
  | x :: a, h => by
    rw [List.sum_cons]
    have h1 := h x List.mem_cons_self
    have h2 := sum_nonneg fun y hy => h y (List.mem_cons_of_mem _ hy)
    omega
/-- no other row of these lies below, told plainly -/
def MinIn (rs : List (List Int)) (r : List Int) : Prop := ∀ o ∈ rs, withinM o r = true → o = r
theorem isMin_iff {rs : List (List Int)} {r : List Int} : isMin rs r = true ↔ MinIn rs r := by
  unfold isMin MinIn
  rw [List.any_map]
  simp only [Bool.not_eq_true', List.any_eq_false, Function.comp, id]
  constructor
  · intro h o ho hw
    have := h o ho
    rw [hw, Bool.and_true] at this
    by_cases e : r = o
    · exact e.symm
    · exact absurd (by simpa using e) this
  · intro h o ho hc
    rw [Bool.and_eq_true] at hc
    have := h o ho hc.2
    rw [this] at hc
    simp at hc
/-- below each row there is a least one -/
theorem min_below {rs : List (List Int)} {n : Nat} (hl : ∀ r ∈ rs, r.length = n ∧ ∀ x ∈ r, 0 ≤ x) : ∀ (m : Nat) (r : List Int), r ∈ rs → r.sum.toNat ≤ m → ∃ q ∈ rs, MinIn rs q ∧ withinM q r = true
  | m, r, hr, hm => by
    by_cases hmin : MinIn rs r
    · refine ⟨r, hr, hmin, (within_iff rfl).mpr fun i _ => Int.le_refl _⟩
    · have : ∃ o, o ∈ rs ∧ withinM o r = true ∧ o ≠ r := Classical.byContradiction fun hc => hmin fun o ho hw => Classical.byContradiction fun hne => hc ⟨o, ho, hw, hne⟩
      obtain ⟨o, ho, hw, hne⟩ := this
      have el : o.length = r.length := by rw [(hl o ho).1, (hl r hr).1]
      have hp := (within_iff el).mp hw
      obtain ⟨s1, s2⟩ := sum_le el hp
      have s3 := sum_nonneg (hl o ho).2
      have hlt : o.sum < r.sum := by
        rcases Int.lt_or_le o.sum r.sum with h | h
        · exact h
        · exact absurd (s2 (by omega)) hne
      cases m with
      | zero => omega
      | succ m =>
        obtain ⟨q, hq, h1, h2⟩ := min_below hl m o ho (by omega)
        have eq : q.length = o.length := by rw [(hl q hq).1, (hl o ho).1]
        refine ⟨q, hq, h1, (within_iff (by rw [eq, el])).mpr fun i hi => ?_⟩
        exact Int.le_trans ((within_iff eq).mp h2 i hi) (hp i (by rw [← eq]; exact hi))
def movedL (pg : Int) (ps : List Part) (k : Nat) : List (List Int) := (rowsB (boxOf ps)).filter (mv pg ps k)
def dueL (pg : Int) (ps : List Part) (k : Nat) : List (List Int) := (movedL pg ps k).filter (isMin (movedL pg ps k))
theorem mem_movedL {k : Nat} {r : List Int} : r ∈ movedL pg ps k ↔ InP ps r ∧ adr pg ps r k ≠ adr pg ps (lowsOf ps) k := by
  unfold movedL
  rw [List.mem_filter, mem_R, mv_true]
theorem mem_movedM (o : OkPlan pg ps) {k : Nat} {r : List Int} : r ∈ movedM pg ps k ↔ (InP ps r ∧ ∀ i, k ≤ i → i < ps.length → sz r i = (pt ps i).lo) ∧ adr pg ps r k ≠ adr pg ps (lowsOf ps) k := by
  unfold movedM
  rw [List.mem_filter, mem_To o]
  have : (!(adr pg ps r k == adr pg ps (lowsOf ps) k)) = mv pg ps k r := rfl
  rw [this, mv_true]
/-- the sizes from part k on fall to the least -/
def cutTo (ps : List Part) (k : Nat) (r : List Int) : List Int := r.take k ++ (lowsOf ps).drop k
theorem sz_cutTo {k i : Nat} {r : List Int} (hr : r.length = ps.length) (hi : i < ps.length) : sz (cutTo ps k r) i = if i < k then sz r i else (pt ps i).lo := by
  have hlw := (ofInts_len (ps := ps)).1
  unfold sz cutTo
  rw [List.getD_eq_getElem?_getD, List.getD_eq_getElem?_getD]
  by_cases hk : i < k
  · rw [if_pos hk, List.getElem?_append_left (by rw [List.length_take]; omega), List.getElem?_take_of_lt hk]
  · rw [if_neg hk, List.getElem?_append_right (by rw [List.length_take]; omega), List.length_take, List.getElem?_drop]
    have e : k + (i - min k r.length) = i := by omega
    rw [e, ← sz_lows hi]
    unfold sz
    rw [List.getD_eq_getElem?_getD]
theorem cutTo_len {k : Nat} {r : List Int} (hr : r.length = ps.length) : (cutTo ps k r).length = ps.length := by
  have hlw := (ofInts_len (ps := ps)).1
  unfold cutTo
  rw [List.length_append, List.length_take, List.length_drop]
  omega
theorem min_same (o : OkPlan pg ps) {k : Nat} (hk : k < ps.length) (r : List Int) : (r ∈ movedM pg ps k ∧ MinIn (movedM pg ps k) r) ↔ (r ∈ movedL pg ps k ∧ MinIn (movedL pg ps k) r) := by
  constructor
  · rintro ⟨h1, h2⟩
    obtain ⟨⟨i1, i2⟩, i3⟩ := (mem_movedM o).mp h1
    refine ⟨mem_movedL.mpr ⟨i1, i3⟩, fun q hq hw => ?_⟩
    obtain ⟨j1, j2⟩ := mem_movedL.mp hq
    refine h2 q ((mem_movedM o).mpr ⟨⟨j1, fun i hi hin => ?_⟩, j2⟩) hw
    have e1 := (within_iff (by rw [j1.1, i1.1])).mp hw i (by rw [j1.1]; exact hin)
    rw [i2 i hi hin] at e1
    have e2 := (j1.2 i hin).1
    omega
  · rintro ⟨h1, h2⟩
    obtain ⟨i1, i2⟩ := mem_movedL.mp h1
    have hlen := cutTo_len (k := k) i1.1
    have hcut : InP ps (cutTo ps k r) := ⟨hlen, fun i hi => by
      rw [sz_cutTo i1.1 hi]
      split
      · exact i1.2 i hi
      · exact ⟨Int.le_refl _, o.lohi _ (pt_mem hi)⟩⟩
    have ha : adr pg ps (cutTo ps k r) k = adr pg ps r k := adr_same fun i hi => by rw [sz_cutTo i1.1 (by omega), if_pos hi]
    have hw : withinM (cutTo ps k r) r = true := (within_iff (by rw [hlen, i1.1])).mpr fun i hi => by
      rw [hlen] at hi
      rw [sz_cutTo i1.1 hi]
      split
      · exact Int.le_refl _
      · exact (i1.2 i hi).1
    have e := h2 (cutTo ps k r) (mem_movedL.mpr ⟨hcut, by rw [ha]; exact i2⟩) hw
    have low : ∀ i, k ≤ i → i < ps.length → sz r i = (pt ps i).lo := fun i hi hin => by
      rw [← e, sz_cutTo i1.1 hin, if_neg (by omega)]
    refine ⟨(mem_movedM o).mpr ⟨⟨i1, low⟩, i2⟩, fun q hq hw2 => ?_⟩
    obtain ⟨⟨j1, _⟩, j3⟩ := (mem_movedM o).mp hq
    exact h2 q (mem_movedL.mpr ⟨j1, j3⟩) hw2
theorem movedM_nodup (k : Nat) : (movedM pg ps k).Nodup := (rowsB_nodup _).filter _
theorem movedL_nodup (k : Nat) : (movedL pg ps k).Nodup := (rowsB_nodup _).filter _
theorem due_perm (o : OkPlan pg ps) {k : Nat} (hk : k < ps.length) : ((movedM pg ps k).filter (isMin (movedM pg ps k))).Perm (dueL pg ps k) := by
  refine (List.perm_ext_iff_of_nodup ((movedM_nodup k).filter _) ((movedL_nodup k).filter _)).mpr fun r => ?_
  rw [List.mem_filter, List.mem_filter, isMin_iff, isMin_iff]
  exact min_same o hk r
theorem inP_bd (o : OkPlan pg ps) {r : List Int} (h : InP ps r) : r.length = ps.length ∧ TS.Bd BB r := by
  refine ⟨h.1, fun m hm => ?_⟩
  obtain ⟨i, hi⟩ := List.mem_iff_getElem?.mp hm
  have hil := (List.getElem?_eq_some_iff.mp hi).1
  rw [sz_get hil] at hi
  cases hi
  obtain ⟨h1, h2⟩ := h.2 i (by rw [← h.1]; exact hil)
  have h3 := o.lo0 _ (pt_mem (ps := ps) (k := i) (by rw [← h.1]; exact hil))
  have h4 := o.hi1 _ (pt_mem (ps := ps) (k := i) (by rw [← h.1]; exact hil))
  show _ ∧ _ < (2000 : Int)
  omega
/-- the program's least moves are what the law awaits -/
theorem least_eq (o : OkPlan pg ps) {k : Nat} (hk : k < ps.length) {ys zs : List (List Int)} (h1 : ys.Perm (movedM pg ps k)) (p1 : ys.Pairwise (fun x y => TS.code BB x ≤ TS.code BB y)) (h2 : zs.Perm (dueL pg ps k)) (p2 : zs.Pairwise (fun x y => TS.code BB x ≤ TS.code BB y)) :
    ys.filter (isMin (movedM pg ps k)) = zs := by
  have hp : (ys.filter (isMin (movedM pg ps k))).Perm zs := ((h1.filter _).trans (due_perm o hk)).trans h2.symm
  refine perm_sorted hp (fun a ha b hb r1 r2 => ?_) (p1.sublist (List.filter_sublist)) p2
  have ma := (mem_movedM o).mp (h1.subset (List.mem_filter.mp ha).1)
  have mb := (mem_movedM o).mp (h1.subset (List.mem_filter.mp hb).1)
  obtain ⟨a1, a2⟩ := inP_bd o ma.1.1
  obtain ⟨b1, b2⟩ := inP_bd o mb.1.1
  exact code_eq (by rw [a1, b1]) a2 b2 (Int.le_antisymm r1 r2)
theorem mem_dueL {k : Nat} {r : List Int} : r ∈ dueL pg ps k ↔ r ∈ movedL pg ps k ∧ MinIn (movedL pg ps k) r := by
  unfold dueL
  rw [List.mem_filter, isMin_iff]
theorem moved_above (o : OkPlan pg ps) {k : Nat} (hk : k < ps.length) {r : List Int} (hr : InP ps r) : r ∈ movedL pg ps k ↔ ∃ q ∈ dueL pg ps k, withinM q r = true := by
  constructor
  · intro h
    obtain ⟨q, hq, h1, h2⟩ := min_below (rs := movedL pg ps k) (n := ps.length) (fun r hr => by
      obtain ⟨h1, h2⟩ := inP_bd o (mem_movedL.mp hr).1
      exact ⟨h1, fun x hx => (h2 x hx).1⟩) _ r h (Nat.le_refl _)
    exact ⟨q, mem_dueL.mpr ⟨hq, h1⟩, h2⟩
  · rintro ⟨q, hq, hw⟩
    obtain ⟨i1, i2⟩ := mem_movedL.mp (mem_dueL.mp hq).1
    refine mem_movedL.mpr ⟨hr, fun e => ?_⟩
    have h1 := adr_mono o hk (lows_le i1 (by omega))
    have h2 : adr pg ps q k ≤ adr pg ps r k := adr_mono o hk fun i hi => (within_iff (by rw [i1.1, hr.1])).mp hw i (by rw [i1.1]; omega)
    omega
theorem due_nil (o : OkPlan pg ps) {k : Nat} (hk : k < ps.length) : (dueL pg ps k).isEmpty = (staysM pg ps).any fun z => z == (pt ps k).w := by
  have h1 : (dueL pg ps k).isEmpty = staysK pg ps k := by
    rw [Bool.eq_iff_iff, List.isEmpty_iff]
    unfold staysK
    rw [List.all_map, List.all_eq_true]
    constructor
    · intro hd r hr
      have hr := (mem_R r).mp hr
      show (adr pg ps r k == adr pg ps (lowsOf ps) k) = true
      rw [beq_iff_eq]
      refine Classical.byContradiction fun hne => ?_
      obtain ⟨q, hq, _⟩ := (moved_above o hk hr).mp (mem_movedL.mpr ⟨hr, hne⟩)
      rw [hd] at hq
      cases hq
    · intro h
      refine List.eq_nil_iff_forall_not_mem.mpr fun q hq => ?_
      obtain ⟨i1, i2⟩ := mem_movedL.mp (mem_dueL.mp hq).1
      have := h q ((mem_R q).mpr i1)
      have this : (adr pg ps q k == adr pg ps (lowsOf ps) k) = true := this
      rw [beq_iff_eq] at this
      exact i2 this
  rw [h1, Bool.eq_iff_iff, List.any_eq_true]
  unfold staysM
  constructor
  · intro h
    exact ⟨(pt ps k).w, List.mem_map.mpr ⟨k, List.mem_filter.mpr ⟨List.mem_range.mpr hk, h⟩, rfl⟩, by simp⟩
  · rintro ⟨z, hz, e⟩
    obtain ⟨j, hj, rfl⟩ := List.mem_map.mp hz
    obtain ⟨hj1, hj2⟩ := List.mem_filter.mp hj
    have e : (pt ps j).w = (pt ps k).w := by simpa using e
    have := nd_w o (List.mem_range.mp hj1) hk e
    rw [← this]
    exact hj2
end
end VS

set_option Elab.async false
set_option linter.all false
set_option maxRecDepth 100000
set_option maxHeartbeats 4000000
set_option autoImplicit false
namespace VS
open PySem L2 PySem.Spec PyProof.Rows
theorem rows_lay : ∀ (rs : List (List Int)), PyData.canLayAll0 (rs.map encT) = true
  | [] => by simp [PyData.canLayAll0]
  | r :: rs => by
    have ih := rows_lay rs
    have h := encT_shaped r
    unfold SeqAt.shaped at h
    rw [Bool.and_eq_true] at h
    rw [List.map_cons]
    simp [PyData.canLayAll0, ih, h.1]
theorem ints_depth : ∀ (ns : List Int), PyData.depthAll (ns.map PyData.int) = 0
  | [] => by simp [PyData.depthAll]
  | n :: ns => by
    rw [List.map_cons]
    simp [PyData.depthAll, PyData.depth, ints_depth ns]
theorem rows_depth : ∀ (rs : List (List Int)), PyData.depthAll (rs.map encT) ≤ 1
  | [] => by simp [PyData.depthAll]
  | r :: rs => by
    have ih := rows_depth rs
    rw [List.map_cons]
    simp [PyData.depthAll, PyData.depth, encT, ints_depth]
    omega
theorem shaped_rows (rs : List (List Int)) : SeqAt.shaped (dRows rs) = true := by
  have h1 := rows_lay rs
  have h2 := rows_depth rs
  simp [SeqAt.shaped, dRows, PyData.canLay0, PyData.depth, h1]
  omega
theorem enum_range (ps : List Part) : (enumF 0 (encPs ps)).map AV.d = (List.range ps.length).map fun (k : Nat) => AV.d (.tuple [.int (k : Int), encP (pt ps k)]) := by
  refine List.ext_getElem? fun i => ?_
  by_cases hi : i < ps.length
  · rw [List.getElem?_map, enumF_get, Nat.zero_add, enc_get hi, List.getElem?_map, List.getElem?_range hi]
    rfl
  · rw [List.getElem?_eq_none (by rw [enumF_map_len, enc_len]; omega), List.getElem?_eq_none (by rw [List.length_map, List.length_range]; omega)]
theorem adrs_at {pg : Int} {ps : List Part} {ss : List Int} {k : Nat} (h : k < ps.length) : atI ((adrs pg ps ss).map PyData.int) (k : Int) = some (.int (adr pg ps ss k)) := by
  refine atI_nat ?_
  unfold adrs
  rw [List.getElem?_map, List.getElem?_map, List.getElem?_range h]
  rfl
theorem isMin' (rs : List (List Int)) (r : List Int) : (!(rs.map fun o => !(o == r) && withinM o r).any id) = isMin rs r := by
  unfold isMin
  congr 3
  funext o
  rw [BEq.comm]
theorem same_strs {ys : List Str} (h : ∀ z ∈ ys, PyData.strOk z = true) (hl : ys.length ≤ 1000) : SameOk 2 (dStrs ys) := by
  refine .inr ⟨ys.map PyData.str, .inl rfl, by rw [List.length_map]; exact hl, fun x hx => ?_⟩
  obtain ⟨z, hz, rfl⟩ := List.mem_map.mp hx
  exact .inl (.inr ⟨z, rfl, h z hz⟩)
theorem same_ints {ns : List Int} (hl : ns.length ≤ 1000) : SameOk 2 (dInts ns) := by
  refine .inr ⟨ns.map PyData.int, .inl rfl, by rw [List.length_map]; exact hl, fun x hx => ?_⟩
  obtain ⟨z, hz, rfl⟩ := List.mem_map.mp hx
  exact .inl (.inl ⟨z, rfl⟩)
theorem same_rows {rs : List (List Int)} (hl : rs.length ≤ 1000) (hr : ∀ r ∈ rs, r.length ≤ 1000) : SameOk 2 (dRows rs) := by
  refine .inr ⟨rs.map encT, .inl rfl, by rw [List.length_map]; exact hl, fun x hx => ?_⟩
  obtain ⟨r, hr', rfl⟩ := List.mem_map.mp hx
  refine .inr ⟨r.map PyData.int, .inr rfl, by rw [List.length_map]; exact hr r hr', fun y hy => ?_⟩
  obtain ⟨z, hz, rfl⟩ := List.mem_map.mp hy
  exact .inl ⟨z, rfl⟩
theorem any_enc (rs : List (List Int)) (r : List Int) : ((rs.map encT).any fun z => PyData.eqv z (encT r)) = decide (r ∈ rs) := by
  rw [List.any_map, Bool.eq_iff_iff, List.any_eq_true, decide_eq_true_eq]
  constructor
  · rintro ⟨o, ho, e⟩
    have e : PyData.eqv (encT o) (encT r) = true := e
    rw [encT_eqv, beq_iff_eq] at e
    rw [← e]
    exact ho
  · intro h
    exact ⟨r, h, by show PyData.eqv (encT r) (encT r) = true; rw [encT_eqv]; simp⟩
theorem any_strs (zs : List Str) (z : Str) : ((zs.map PyData.str).any fun y => PyData.eqv y (.str z)) = zs.any fun y => y == z := by
  rw [List.any_map]
  have e : ((fun y => PyData.eqv y (.str z)) ∘ PyData.str) = fun y => y == z := by
    funext y
    exact eqv_str y z
  rw [e]
section
variable {P : Program} {w : World} {K : PySem.W.Frag} {mg : Str → Option Value} {base : Heap} {C : Addr} {tk : Tok} {aR aA aP : Addr}
def F_law_moves_right : List AV → LS → AK → Prop := fun avs L Q => ∃ (pg : Int) (ps : List Part), avs = [.pl pg (encPs ps), .d (.int pg), .d (.list (encPs ps)), .d (dRows (rowsB (boxOf ps)))] ∧ OkPlan pg ps ∧ prodW ps ≤ 60 ∧ Q (.d (.bool true)) L
theorem ok_law_moves_right (T : Txt K mg C tk aR aA aP) (D : Def K mg "_law_moves_right" s_law_moves_right) (G_law_addresses : FnG P w K mg base C 2 "_law_addresses" F_law_addresses) (G_law_is_below : FnG P w K mg base C 1 "_law_is_below" F_within)
    (G_law_same : FnG P w K mg base C 3 "_law_same" (F_same 2)) (G_least_moves : FnG P w K mg base C 4 "least_moves" F_least_moves) (G_steady : FnG P w K mg base C 4 "steady" F_steady) : FnG P w K mg base C 5 "_law_moves_right" F_law_moves_right := by
  refine fnG D sc_law_moves_right ?len (fun _ _ _ _ _ _ us hl => match us, hl with | [_, _, _, _], _ => rfl) (fun f cdv A outer s H E hr avs L Q h => ?_)
  case len =>
    rintro avs L Q ⟨p, d, rfl, _⟩
    rfl
  have nd := (sc_law_moves_right).nd
  have hu := hr.units
  have hu1 := hu_of hr
  have hu65 : (A.deeper (envOfC "_law_moves_right" (defScope s_law_moves_right) s.heap.objs.size f cdv)).units + 65 < cLine := by
    have := hr.un
    omega
  obtain ⟨pg, ps, rfl, o, hw60, q⟩ := h
  have h5 := o.len5
  have hd := o.len1
  have bok := box_ok o (by omega)
  have hR : (rowsB (boxOf ps)).length ≤ 63 := by
    have := bok.few (boxOf ps).length
    rwa [List.take_length] at this
  have hlow : lowsOf ps ∈ rowsB (boxOf ps) := (mem_R _).mpr (lows_in o)
  have elow : (ps.map fun p => PyData.int p.lo) = (lowsOf ps).map PyData.int := by
    unfold lowsOf
    rw [List.map_map]
    rfl
  have inP : ∀ r ∈ rowsB (boxOf ps), InP ps r := fun r hr => (mem_R r).mp hr
  refine ⟨_, _, (ass_cons (as_set 4 nd (ae_callTy (ac_tupOf K) rfl T.tuple_ PyProof.Rows.boot_tuple (aa_cons (ae_lc [("_law_part", 8)] nd (ai_l K (ae_var 2)) (by kernel_rfl) (fun _ _ _ _ _ => (ag_name 8 nd)) (fun _ _ _ _ _ => ats_nil) (fun _ _ _ _ _ => (ae_ix (ai_tup K) (ae_var 8) ae_int))) aa_nil)))
      (ass_cons (as_set 5 nd (ae_callTy (ac_dict rfl hu) rfl T.dict_ PyProof.Rows.boot_dict (aa_cons (ae_lc [("_law_sizes", 11)] nd (ai_l K (ae_var 3)) (by kernel_rfl) (fun _ _ _ _ _ => (ag_name 11 nd)) (fun _ _ _ _ _ => ats_nil) (fun _ _ _ _ _ => (ae_tup (aa_cons (ae_var 11) (aa_cons (ae_fn K G_law_addresses (hr.mono (by first | decide | omega)) (aa_cons (ae_var 1) (aa_cons (ae_var 2) (aa_cons (ae_var 11) aa_nil)))) aa_nil))))) aa_nil)))
      (ass_cons (as_setLc 6 [("_law_k", 7), ("_law_part", 8)] nd (ai_e K rfl T.enumerate_ (aa_cons (ae_var 2) aa_nil)) (by kernel_rfl) (fun _ _ _ _ _ => (ag_tup K (n := 2) rfl (ags_cons (ag_name 7 nd) (ags_cons (ag_name 8 nd) ags_nil)))) (fun _ _ _ _ _ => (ats_one (at_val (ae_callB (ac_all K rfl) rfl T.all_ PyProof.Rows.boot_all (aa_cons (ae_lc [("_law_sizes", 11)] nd (ai_l K (ae_var 3)) (by kernel_rfl) (fun _ _ _ _ _ => (ag_name 11 nd)) (fun _ _ _ _ _ => ats_nil) (fun _ _ _ _ _ => (ae_cmp (ao_eq K hu) (ae_ix (ai_list K) (ae_getD hu1 (ae_var 5) (ae_var 11)) (ae_var 7)) (ae_ix (ai_list K) (ae_getD hu1 (ae_var 5) (ae_var 4)) (ae_var 7))))) aa_nil))))) (fun _ _ _ _ _ => (ae_ix (ai_tup K) (ae_var 8) ae_int)))
      (ass_cons (as_if (at_not (at_val (ae_fn K G_law_same (hr.mono (by first | decide | omega)) (aa_cons (ae_fn K G_steady (hr.mono (by first | decide | omega)) (aa_cons (ae_var 0) aa_nil)) (aa_cons (ae_callB (ac_sortedS K) rfl T.sorted_ PyProof.Rows.boot_sorted (aa_cons (ae_var 6) aa_nil)) aa_nil))))) (ass_one (as_ret ae_bl)) ass_nil)
      (ass_cons (as_for (ai_e K rfl T.enumerate_ (aa_cons (ae_var 2) aa_nil)) (ag_tup K (n := 2) rfl (ags_cons (ag_name 7 nd) (ags_cons (ag_name 8 nd) ags_nil))) (ass_cons (as_set 9 nd (ae_lc [("_law_sizes", 11)] nd (ai_l K (ae_var 3)) (by kernel_rfl) (fun _ _ _ _ _ => (ag_name 11 nd)) (fun _ _ _ _ _ => (ats_one (at_cmp (ao_ne K hu) (ae_ix (ai_list K) (ae_getD hu1 (ae_var 5) (ae_var 11)) (ae_var 7)) (ae_ix (ai_list K) (ae_getD hu1 (ae_var 5) (ae_var 4)) (ae_var 7))))) (fun _ _ _ _ _ => (ae_var 11))))
      (ass_cons (as_set 10 nd (ae_lstM aa_nil))
      (ass_consF 10 (as_for (ai_l K (ae_var 9)) (ag_name 11 nd) (ass_one (as_if (at_not (at_val (ae_callB (ac_any K rfl) rfl T.any_ PyProof.Rows.boot_any (aa_cons (ae_lc [("_law_less", 12)] nd (ai_l K (ae_var 9)) (by kernel_rfl) (fun _ _ _ _ _ => (ag_name 12 nd)) (fun _ _ _ _ _ => ats_nil) (fun _ _ _ _ _ => (ae_and (ae_cmp (ao_ne K hu) (ae_var 12) (ae_var 11)) (ae_one (ae_fn K G_law_is_below (hr.mono (by first | decide | omega)) (aa_cons (ae_var 12) (aa_cons (ae_var 11) aa_nil))))))) aa_nil)))) (ass_one (as_expr (ae_app K (ae_var 10) (aa_cons (ae_var 11) aa_nil)))) ass_nil)))
      (ass_cons (as_if (AW.toT (aw_or (at_not (at_val (ae_fn K G_law_same (hr.mono (by first | decide | omega)) (aa_cons (ae_fn K G_least_moves (hr.mono (by first | decide | omega)) (aa_cons (ae_var 0) (aa_cons (ae_ix (ai_tup K) (ae_var 8) ae_int) aa_nil))) (aa_cons (ae_callB (ac_sortedT K (B := BB) hd) rfl T.sorted_ PyProof.Rows.boot_sorted (aa_cons (ae_var 10) aa_nil)) aa_nil))))) (aw_or1 (at_cmp (ao_ne K hu) (ae_cmp (ao_eq K hu) (ae_var 10) (ae_lst aa_nil)) (ae_cmp (ao_in K hu65) (ae_ix (ai_tup K) (ae_var 8) ae_int) (ae_var 6)))))) (ass_one (as_ret ae_bl)) ass_nil)
      (ass_one (as_if (at_val (ae_callB (ac_any K rfl) rfl T.any_ PyProof.Rows.boot_any (aa_cons (ae_lc [("_law_sizes", 11)] nd (ai_l K (ae_var 3)) (by kernel_rfl) (fun _ _ _ _ _ => (ag_name 11 nd)) (fun _ _ _ _ _ => ats_nil) (fun _ _ _ _ _ => (ae_cmp (ao_ne K hu) (ae_cmp (ao_in K hu65) (ae_var 11) (ae_var 9)) (ae_callB (ac_any K rfl) rfl T.any_ PyProof.Rows.boot_any (aa_cons (ae_lc [("_law_less", 12)] nd (ai_l K (ae_var 10)) (by kernel_rfl) (fun _ _ _ _ _ => (ag_name 12 nd)) (fun _ _ _ _ _ => ats_nil) (fun _ _ _ _ _ => (ae_fn K G_law_is_below (hr.mono (by first | decide | omega)) (aa_cons (ae_var 12) (aa_cons (ae_var 11) aa_nil))))) aa_nil))))) aa_nil))) (ass_one (as_ret ae_bl)) ass_nil)))))))
      (ass_one (as_ret ae_bl))))))), ?_⟩
  refine lc_mapT ps (fun p => AV.d (encP p)) (fun p => .int p.lo) (fun R r => by rw [← encPs_av] at r; exact r) (by omega) (fun p S1 S0 hp r => ⟨fun _ => ⟨_, rfl, r⟩, nofun⟩) ?_
  rw [elow]
  refine lc_mapT (rowsB (boxOf ps)) (fun r => AV.d (encT r)) (fun r => .tuple [encT r, dInts (adrs pg ps r)]) (fun R r => by rw [← dRows_av] at r; exact r) (by omega) (fun r S1 S0 hr z => ⟨fun _ => ⟨pg, ps, encT r, r, rfl, o.l, .inr rfl, (inP r hr).1, _, rfl, (by show (2 : Nat) ≤ 100000; decide), z⟩, nofun⟩) ?_
  refine ⟨(rowsB (boxOf ps)).map fun r => (r, dInts (adrs pg ps r)), fun k => if k ∈ rowsB (boxOf ps) then some (dInts (adrs pg ps k)) else none, by rw [List.map_map]; rfl, fun k d hk => ?_, ?_⟩
  · have hk : (if k ∈ rowsB (boxOf ps) then some (dInts (adrs pg ps k)) else none) = some d := hk
    by_cases hm : k ∈ rowsB (boxOf ps)
    · rw [if_pos hm] at hk
      cases hk
      refine ⟨⟨_, List.mem_map.mpr ⟨k, hm, rfl⟩⟩, fun d' h => ?_⟩
      obtain ⟨r, _, e⟩ := List.mem_map.mp h
      cases e
      rfl
    · rw [if_neg hm] at hk
      cases hk
  have hf : ∀ r, r ∈ rowsB (boxOf ps) → (fun k => if k ∈ rowsB (boxOf ps) then some (dInts (adrs pg ps k)) else none) r = some (dInts (adrs pg ps r)) := fun r hr => if_pos hr
  generalize (fun k => if k ∈ rowsB (boxOf ps) then some (dInts (adrs pg ps k)) else none) = f5 at hf
  refine lc_filterT (List.range ps.length) (fun (k : Nat) => AV.d (.tuple [.int (k : Int), encP (pt ps k)])) (staysK pg ps) (fun k => .str (pt ps k).w) (fun R r => by rw [← enum_range] at r; exact r) (by rw [List.length_range]; omega) (fun k S1 S0 hk s1 s0 => ⟨rfl, ?_⟩) ?_
  · have hk := List.mem_range.mp hk
    refine lc_mapT (rowsB (boxOf ps)) (fun r => AV.d (encT r)) (fun r => .bool (adr pg ps r k == adr pg ps (lowsOf ps) k)) (fun R r => by rw [← dRows_av] at r; exact r) (by omega) (fun r T1 T0 hr z => ⟨fun _ => ?_, nofun⟩) ?_
    · refine ⟨r, _, rfl, hf r hr, _, adrs_at hk, lowsOf ps, _, rfl, hf _ hlow, _, adrs_at hk, _, _, rfl, rfl, shaped_int _, shaped_int _, ?_⟩
      rw [eqv_int]
      exact z
    · refine ⟨(rowsB (boxOf ps)).map fun r => adr pg ps r k == adr pg ps (lowsOf ps) k, by rw [List.map_map]; rfl, ?_⟩
      exact ⟨fun h1 => ⟨_, rfl, s1 h1⟩, s0⟩
  have estays : (((List.range ps.length).filter (staysK pg ps)).map fun k => PyData.str (pt ps k).w) = (staysM pg ps).map PyData.str := by
    unfold staysM
    rw [List.map_map]
    rfl
  rw [estays]
  have hsl : (staysM pg ps).length ≤ 5 := by
    unfold staysM
    rw [List.length_map]
    have := List.length_filter_le (staysK pg ps) (List.range ps.length)
    rw [List.length_range] at this
    omega
  have hso : ∀ z ∈ staysM pg ps, PyData.strOk z = true := fun z hz => by
    obtain ⟨k, hk, rfl⟩ := List.mem_map.mp hz
    exact o.wS _ (pt_mem (List.mem_range.mp (List.mem_filter.mp hk).1))
  refine ⟨pg, ps, rfl, o, fun ys hys sys => ?_⟩
  rw [steady_stays o] at hys
  refine ⟨staysM pg ps, rfl, by omega, fun zs hzs szs => ?_⟩
  have eyz := sortedS_uniq hys hzs sys szs
  subst eyz
  refine ⟨dStrs ys, rfl, same_strs (fun z hz => hso z (hys.subset hz)) (by rw [hys.length_eq]; omega), nofun, fun _ => ?_⟩
  refine aFor_of ((enumF 0 (encPs ps)).map AV.d) (fun i env' L' => ∃ (x7 x8 x9 x10 x11 : Option AV), env' = [some (.pl pg (encPs ps)), some (.d (.int pg)), some (.d (.list (encPs ps))), some (.d (dRows (rowsB (boxOf ps)))), some (.d (encT (lowsOf ps))), some (.dc f5), some (.d (.list ((staysM pg ps).map PyData.str))), x7, x8, x9, x10, x11, none] ∧ L' = L)
    (fun R r => r) ⟨_, _, _, _, _, rfl, rfl⟩ ?_ ?_
  · rintro k av env' L' hi ⟨x7, x8, x9, x10, x11, rfl, rfl⟩
    obtain ⟨hk, rfl⟩ := enum_turn hi
    refine ⟨rfl, ?_⟩
    have hMl : (movedL pg ps k).length ≤ 63 := Nat.le_trans (List.length_filter_le _ _) hR
    have hDl : (dueL pg ps k).length ≤ 63 := Nat.le_trans (List.length_filter_le _ _) hMl
    have inM : ∀ r ∈ movedL pg ps k, InP ps r := fun r hr => (mem_movedL.mp hr).1
    refine lc_filterT (rowsB (boxOf ps)) (fun r => AV.d (encT r)) (mv pg ps k) encT (fun R r => by rw [← dRows_av] at r; exact r) (by omega) (fun r S1 S0 hr s1 s0 => ?_) ?_
    · refine ⟨r, _, rfl, hf r hr, _, adrs_at hk, lowsOf ps, _, rfl, hf _ hlow, _, adrs_at hk, _, _, rfl, rfl, shaped_int _, shaped_int _, ?_⟩
      rw [eqv_int]
      exact ⟨s1, s0⟩
    refine ⟨Nat.zero_le _, fun p hp => ?_⟩
    refine aFor_of ((movedL pg ps k).map fun r => AV.d (encT r)) (fun i env' M => ∃ (x11 : Option AV), env' = [some (.pl pg (encPs ps)), some (.d (.int pg)), some (.d (.list (encPs ps))), some (.d (dRows (rowsB (boxOf ps)))), some (.d (encT (lowsOf ps))), some (.dc f5), some (.d (.list ((staysM pg ps).map PyData.str))), some (.d (.int (k : Int))), some (.d (encP (pt ps k))), some (.d (dRows (movedL pg ps k))), some (.p p), x11, none] ∧
      M = put L' p (((((movedL pg ps k).take i).filter (isMin (movedL pg ps k))).map encT).map AV.d)) (fun R r => by rw [← dRows_av] at r; exact r) ⟨_, rfl, rfl⟩ ?_ ?_
    · rintro i av env' M hi2 ⟨x11, rfl, rfl⟩
      rw [List.getElem?_map] at hi2
      obtain ⟨r, hr, rfl⟩ := Option.map_eq_some_iff.mp hi2
      have hrm := inM r (List.mem_of_getElem? hr)
      refine lc_mapT (movedL pg ps k) (fun r => AV.d (encT r)) (fun o => .bool (!(o == r) && withinM o r)) (fun R r => by rw [← dRows_av] at r; exact r) (by omega) (fun q T1 T0 hq z => ⟨fun _ => ?_, nofun⟩) ?_
      · refine ⟨_, _, rfl, rfl, encT_shaped _, encT_shaped _, ?_⟩
        rw [encT_eqv]
        refine ⟨fun h1 => ⟨q, r, rfl, by rw [(inM q hq).1]; omega, ?_⟩, fun h0 => ?_⟩
        · rw [h1] at z
          exact z
        · rw [h0] at z
          exact z
      · refine ⟨(movedL pg ps k).map fun o => !(o == r) && withinM o r, by rw [List.map_map]; rfl, ?_⟩
        show (_ = true → _) ∧ (_ = false → _)
        rw [isMin']
        refine ⟨fun h1 => ?_, fun h0 => ?_⟩
        · refine ⟨⟨_, put_same⟩, _, put_same, ?_, _, rfl, ?_⟩
          · rw [List.length_map, List.length_map]
            have := List.length_filter_le (isMin (movedL pg ps k)) ((movedL pg ps k).take i)
            rw [List.length_take] at this
            omega
          · rw [put_put, take_succ hr, List.filter_append, List.filter_cons, if_pos h1, List.map_append, List.map_append]
            rfl
        · refine ⟨_, rfl, ?_⟩
          rw [take_succ hr, List.filter_append, List.filter_cons, if_neg (by rw [h0]; decide)]
          show _ = put L' p (((_ ++ []).map encT).map AV.d)
          rw [List.append_nil]
    · rintro env' M ⟨x11, rfl, rfl⟩
      rw [List.length_map, List.take_length]
      refine ⟨_, (by rw [put_same]; exact allD_map _), ?_⟩
      rw [del_put hp]
      refine ⟨_, rfl, pg, ps, k, rfl, o, hk, boxTo_ok o (by omega) k, fun ys p1 s1 => ?_⟩
      refine ⟨dueL pg ps k, rfl, by omega, fun r hr => inP_bd o (inM r (mem_dueL.mp hr).1), fun zs p2 s2 => ?_⟩
      rw [least_eq o hk p1 s1 p2 s2]
      refine ⟨dRows zs, rfl, same_rows (by rw [p2.length_eq]; omega) (fun r hr => ?_), nofun, fun _ => ?_⟩
      · have := (inM r (mem_dueL.mp (p2.subset hr)).1).1
        omega
      refine ⟨_, rfl, (by show (0 : Nat) ≤ 100000; decide), dRows (dueL pg ps k), .list [], rfl, rfl, shaped_rows _, shaped_strs (met := []) nofun, ?_⟩
      refine ⟨_, rfl, _, _, rfl, rfl, shaped_str (o.wS _ (pt_mem hk)), shaped_strs hso, ?_⟩
      refine ⟨_, _, rfl, rfl, shaped_bool _, shaped_bool _, ?_⟩
      have e1 : PyData.eqv (dRows (dueL pg ps k)) (.list []) = (staysM pg ps).any fun z => z == (pt ps k).w := by
        unfold dRows
        rw [eqv_nil_list, ← due_nil o hk]
        cases dueL pg ps k <;> rfl
      rw [eqv_bool, e1, any_strs, beq_self_eq_true]
      refine ⟨nofun, fun _ => ?_⟩
      refine lc_mapT (rowsB (boxOf ps)) (fun r => AV.d (encT r)) (fun r => .bool false) (fun R r => by rw [← dRows_av] at r; exact r) (by omega) (fun r T1 T0 hr z => ⟨fun _ => ?_, nofun⟩) ?_
      · refine ⟨_, _, rfl, rfl, encT_shaped _, shaped_rows _, ?_⟩
        refine lc_mapT (dueL pg ps k) (fun r => AV.d (encT r)) (fun q => .bool (withinM q r)) (fun R r => by rw [← dRows_av] at r; exact r) (by omega) (fun q U1 U0 hq z => ⟨fun _ => ⟨q, r, rfl, by rw [(inM q (mem_dueL.mp hq).1).1]; omega, z⟩, nofun⟩) ?_
        refine ⟨(dueL pg ps k).map fun q => withinM q r, by rw [List.map_map]; rfl, ?_⟩
        refine ⟨_, _, rfl, rfl, shaped_bool _, shaped_bool _, ?_⟩
        have e2 : decide (r ∈ movedL pg ps k) = ((dueL pg ps k).map fun q => withinM q r).any id := by
          rw [List.any_map, Bool.eq_iff_iff, decide_eq_true_eq, List.any_eq_true]
          exact moved_above o hk (inP r hr)
        have e3 : ((movedL pg ps k).map encT).any (fun z => PyData.eqv z (encT r)) = decide (r ∈ movedL pg ps k) := any_enc _ _
        rw [eqv_bool, e3, e2, beq_self_eq_true]
        exact z
      · refine ⟨(rowsB (boxOf ps)).map fun _ => false, by rw [List.map_map]; rfl, ?_⟩
        have e4 : ((rowsB (boxOf ps)).map fun _ => false).any id = false := by
          rw [List.any_map]
          simp
        rw [e4]
        exact ⟨nofun, fun _ => ⟨_, _, _, _, _, rfl, rfl⟩⟩
  · rintro env' L' ⟨x7, x8, x9, x10, x11, rfl, rfl⟩
    exact q
end
end VS

set_option Elab.async false
set_option linter.all false
set_option maxRecDepth 100000
set_option maxHeartbeats 4000000
set_option autoImplicit false
namespace VS
open PySem L2 PySem.Spec PyProof.Rows

/-! ### the first of the least, of products -/
theorem IsPick.uniq {α : Type} {f : α → Int} {l : List α} {x y : α} (h1 : IsPick f l x) (h2 : IsPick f l y) : x = y := by
  obtain ⟨a1, a2, e1, p1, p2⟩ := h1
  obtain ⟨b1, b2, e2, q1, q2⟩ := h2
  have hx : l[a1.length]? = some x := by rw [e1, List.getElem?_append_right (Nat.le_refl _), Nat.sub_self]; rfl
  have hy : l[b1.length]? = some y := by rw [e2, List.getElem?_append_right (Nat.le_refl _), Nat.sub_self]; rfl
  rcases Nat.lt_trichotomy a1.length b1.length with h | h | h
  · -- x lies ahead of y
    have hxb : x ∈ b1 := by
      rw [e2, List.getElem?_append_left h] at hx
      exact List.mem_of_getElem? hx
    have hya : y ∈ a2 := by
      rw [e1, List.getElem?_append_right (by omega)] at hy
      obtain ⟨m, hm⟩ : ∃ m, b1.length - a1.length = m + 1 := ⟨b1.length - a1.length - 1, by omega⟩
      rw [hm, List.getElem?_cons_succ] at hy
      exact List.mem_of_getElem? hy
    have := q1 x hxb
    have := p2 y hya
    omega
  · rw [h, hy] at hx
    exact (Option.some.inj hx).symm
  · have hya : y ∈ a1 := by
      rw [e1, List.getElem?_append_left h] at hy
      exact List.mem_of_getElem? hy
    have hxb : x ∈ b2 := by
      rw [e2, List.getElem?_append_right (by omega)] at hx
      obtain ⟨m, hm⟩ : ∃ m, a1.length - b1.length = m + 1 := ⟨a1.length - b1.length - 1, by omega⟩
      rw [hm, List.getElem?_cons_succ] at hx
      exact List.mem_of_getElem? hx
    have := p1 y hya
    have := q2 x hxb
    omega
def prodL {α : Type} (A O : List (List α)) : List (List α) := A.flatMap fun r => O.map (r ++ ·)
theorem mem_prodL {α : Type} {A O : List (List α)} {z : List α} : z ∈ prodL A O ↔ ∃ r ∈ A, ∃ o ∈ O, z = r ++ o := by
  unfold prodL
  rw [List.mem_flatMap]
  constructor
  · rintro ⟨r, hr, h⟩
    obtain ⟨o, ho, rfl⟩ := List.mem_map.mp h
    exact ⟨r, hr, o, ho, rfl⟩
  · rintro ⟨r, hr, o, ho, rfl⟩
    exact ⟨r, hr, List.mem_map.mpr ⟨o, ho, rfl⟩⟩
theorem pick_prod {α : Type} {f g h : List α → Int} {c : Int} (hc : 0 < c) {A O : List (List α)} {x y : List α} (hx : IsPick g A x) (hy : IsPick h O y) (hf : ∀ r ∈ A, ∀ o ∈ O, f (r ++ o) = g r + c * h o) : IsPick f (prodL A O) (x ++ y) := by
  have fx := hf x hx.mem y hy.mem
  have hyl := hy.le
  obtain ⟨a1, a2, e1, p1, p2⟩ := hx
  obtain ⟨o1, o2, e2, q1, q2⟩ := hy
  have le : ∀ o ∈ O, c * h y ≤ c * h o := fun o ho => Int.mul_le_mul_of_nonneg_left (hyl o ho) (by omega)
  refine ⟨prodL a1 O ++ o1.map (x ++ ·), o2.map (x ++ ·) ++ prodL a2 O, ?_, fun z hz => ?_, fun z hz => ?_⟩
  · unfold prodL
    rw [e1, List.flatMap_append, List.flatMap_cons]
    have : O.map (x ++ ·) = o1.map (x ++ ·) ++ (x ++ y) :: o2.map (x ++ ·) := by rw [e2, List.map_append]; rfl
    rw [this]
    simp [List.append_assoc]
  · rcases List.mem_append.mp hz with hz | hz
    · obtain ⟨r, hr, o, ho, rfl⟩ := mem_prodL.mp hz
      rw [fx, hf r (by rw [e1]; exact List.mem_append_left _ hr) o ho]
      have := p1 r hr
      have := le o ho
      omega
    · obtain ⟨o, ho, rfl⟩ := List.mem_map.mp hz
      have hoO : o ∈ O := by rw [e2]; exact List.mem_append_left _ ho
      rw [fx, hf x (by rw [e1]; simp) o hoO]
      have : c * h y < c * h o := Int.mul_lt_mul_of_pos_left (q1 o ho) hc
      omega
  · rcases List.mem_append.mp hz with hz | hz
    · obtain ⟨o, ho, rfl⟩ := List.mem_map.mp hz
      have hoO : o ∈ O := by rw [e2]; exact List.mem_append_right _ (List.mem_cons_of_mem _ ho)
      rw [fx, hf x (by rw [e1]; simp) o hoO]
      have := le o hoO
      omega
    · obtain ⟨r, hr, o, ho, rfl⟩ := mem_prodL.mp hz
      rw [fx, hf r (by rw [e1]; exact List.mem_append_right _ (List.mem_cons_of_mem _ hr)) o ho]
      have := p2 r hr
      have := le o ho
      omega

/-! ### the runs -/
section
variable {pg : Int} {ps : List Part}
def rt (ps : List Part) (k : Nat) : Str := (pt ps k).r
structure RunsOk (ps : List Part) (l : List (List Nat)) : Prop where
  ne : ∀ run ∈ l, run ≠ []
  same : ∀ run ∈ l, ∀ a ∈ run, ∀ b ∈ run, rt ps a = rt ps b
  adj : ∀ (j : Nat) (x y : List Nat), l[j]? = some x → l[j + 1]? = some y → ∀ a ∈ x, ∀ b ∈ y, rt ps a ≠ rt ps b
theorem nwR_succ (i : Nat) : nwR ps (i + 1) = !(rt ps (i + 1) == rt ps i) := rfl
theorem nwL_succ (i : Nat) : nwL ps (i + 1) = !(rt ps (i + 1) == rt ps i && (pt ps (i + 1)).z == (pt ps i).z) := rfl
theorem runs_ok : ∀ i : Nat, RunsOk ps (lotsTo (nwR ps) (i + 1)) ∧ ∃ l0 x0, lotsTo (nwR ps) (i + 1) = l0 ++ [x0 ++ [i]]
  | 0 => by
    have e : lotsTo (nwR ps) 1 = [[0]] := rfl
    rw [e]
    refine ⟨⟨fun run h => ?_, fun run h a ha b hb => ?_, fun j x y h1 h2 => ?_⟩, [], [], rfl⟩
    · rw [List.mem_singleton.mp h]
      simp
    · rw [List.mem_singleton.mp h] at ha hb
      rw [List.mem_singleton.mp ha, List.mem_singleton.mp hb]
    · rw [List.getElem?_cons_succ] at h2
      simp at h2
  | i + 1 => by
    obtain ⟨o, l0, x0, e⟩ := runs_ok i
    show RunsOk ps (if nwR ps (i + 1) = true then lotsTo (nwR ps) (i + 1) ++ [[i + 1]] else addLast (lotsTo (nwR ps) (i + 1)) (i + 1)) ∧ ∃ l1 x1, (if nwR ps (i + 1) = true then lotsTo (nwR ps) (i + 1) ++ [[i + 1]] else addLast (lotsTo (nwR ps) (i + 1)) (i + 1)) = l1 ++ [x1 ++ [i + 1]]
    rw [e] at o ⊢
    have lastIn : x0 ++ [i] ∈ l0 ++ [x0 ++ [i]] := by simp
    by_cases h : nwR ps (i + 1) = true
    · rw [if_pos h]
      have hne : rt ps (i + 1) ≠ rt ps i := by
        rw [nwR_succ] at h
        simpa using h
      refine ⟨⟨fun run hr => ?_, fun run hr a ha b hb => ?_, fun j x y h1 h2 a ha b hb => ?_⟩, _, [], rfl⟩
      · rcases List.mem_append.mp hr with hr | hr
        · exact o.ne run hr
        · rw [List.mem_singleton.mp hr]
          simp
      · rcases List.mem_append.mp hr with hr | hr
        · exact o.same run hr a ha b hb
        · rw [List.mem_singleton.mp hr] at ha hb
          rw [List.mem_singleton.mp ha, List.mem_singleton.mp hb]
      · by_cases hj : j + 1 < (l0 ++ [x0 ++ [i]]).length
        · rw [List.getElem?_append_left (by omega)] at h1
          rw [List.getElem?_append_left hj] at h2
          exact o.adj j x y h1 h2 a ha b hb
        · have hl : (l0 ++ [x0 ++ [i]]).length = l0.length + 1 := by rw [List.length_append]; rfl
          have hlt := (List.getElem?_eq_some_iff.mp h2).1
          rw [List.length_append, hl] at hlt
          have hlt : j + 1 < l0.length + 1 + 1 := hlt
          have ej : j = l0.length := by omega
          subst ej
          rw [List.getElem?_append_left (by omega), List.getElem?_append_right (Nat.le_refl _), Nat.sub_self] at h1
          rw [List.getElem?_append_right (by omega), hl, Nat.sub_self] at h2
          cases h1
          cases h2
          rw [List.mem_singleton.mp hb]
          have := o.same _ lastIn a ha i (by simp)
          rw [this]
          exact Ne.symm hne
    · rw [if_neg h, addLast_snoc]
      have heq : rt ps (i + 1) = rt ps i := by
        rw [nwR_succ] at h
        simpa using h
      have inn : ∀ a ∈ x0 ++ [i] ++ [i + 1], rt ps a = rt ps i := fun a ha => by
        rcases List.mem_append.mp ha with ha | ha
        · exact o.same _ lastIn a ha i (by simp)
        · rw [List.mem_singleton.mp ha]
          exact heq
      refine ⟨⟨fun run hr => ?_, fun run hr a ha b hb => ?_, fun j x y h1 h2 a ha b hb => ?_⟩, l0, x0 ++ [i], rfl⟩
      · rcases List.mem_append.mp hr with hr | hr
        · exact o.ne run (List.mem_append_left _ hr)
        · rw [List.mem_singleton.mp hr]
          simp
      · rcases List.mem_append.mp hr with hr | hr
        · exact o.same run (List.mem_append_left _ hr) a ha b hb
        · rw [List.mem_singleton.mp hr] at ha hb
          rw [inn a ha, inn b hb]
      · have hlt := (List.getElem?_eq_some_iff.mp h2).1
        rw [List.length_append] at hlt
        have hlt : j + 1 < l0.length + 1 := hlt
        rw [List.getElem?_append_left (by omega)] at h1
        by_cases hj : j + 1 < l0.length
        · rw [List.getElem?_append_left hj] at h2
          exact o.adj j x y (by rw [List.getElem?_append_left (by omega)]; exact h1) (by rw [List.getElem?_append_left hj]; exact h2) a ha b hb
        · have ej : j + 1 = l0.length := by omega
          rw [ej, List.getElem?_append_right (Nat.le_refl _), Nat.sub_self] at h2
          cases h2
          have h3 := o.adj j x (x0 ++ [i]) (by rw [List.getElem?_append_left (by omega)]; exact h1) (by rw [ej, List.getElem?_append_right (Nat.le_refl _), Nat.sub_self]; rfl) a ha i (by simp)
          rw [inn b hb]
          exact h3

/-! ### whole orders are products over runs -/
def prodRun (ps : List Part) (rs : List (List Nat)) : List (List Nat) := rs.foldl (fun fs run => prodL fs (runOrd ps run)) [[]]
theorem prodRun_snoc (rs : List (List Nat)) (run : List Nat) : prodRun ps (rs ++ [run]) = prodL (prodRun ps rs) (runOrd ps run) := by
  unfold prodRun
  rw [List.foldl_append]
  rfl
def optL (l : List Nat) : List (List Nat) := if l = [] then [] else [l]
theorem prodL_one (A : List (List Nat)) : prodL A [[]] = A := by
  unfold prodL
  induction A with
  | nil => rfl
  | cons r A ih =>
    rw [List.flatMap_cons, ih]
    simp
theorem wholeOrd_opt (ls : List (List Nat)) (l : List Nat) : wholeOrd (ls ++ optL l) = prodL (wholeOrd ls) (ords 5 l) := by
  unfold optL
  by_cases h : l = []
  · rw [if_pos h, List.append_nil, h]
    exact (prodL_one _).symm
  · rw [if_neg h, wholeOrd_snoc]
    rfl
theorem prodL_assoc (A B C : List (List Nat)) : prodL (prodL A B) C = prodL A (prodL B C) := by
  unfold prodL
  rw [List.flatMap_assoc]
  congr 1
  funext r
  rw [List.flatMap_map, List.map_flatMap]
  congr 1
  funext b
  rw [List.map_map]
  congr 1
  funext c
  exact List.append_assoc ..
theorem runOrd_prod (run : List Nat) : runOrd ps run = prodL (ords 5 (bitsOf ps run)) (ords 5 (zerosOf ps run)) := rfl
theorem whole_step {Ls R : List (List Nat)} {run : List Nat} (h : wholeOrd Ls = prodRun ps R) : wholeOrd (Ls ++ optL (bitsOf ps run) ++ optL (zerosOf ps run)) = prodRun ps (R ++ [run]) := by
  rw [wholeOrd_opt, wholeOrd_opt, prodL_assoc, ← runOrd_prod, prodRun_snoc, h]
theorem bits_snoc (run : List Nat) (i : Nat) : bitsOf ps (run ++ [i]) = bitsOf ps run ++ if (pt ps i).z = true then [] else [i] := by
  unfold bitsOf
  rw [List.filter_append, List.filter_cons]
  cases h : (pt ps i).z <;> simp [h]
theorem zeros_snoc (run : List Nat) (i : Nat) : zerosOf ps (run ++ [i]) = zerosOf ps run ++ if (pt ps i).z = true then [i] else [] := by
  unfold zerosOf
  rw [List.filter_append, List.filter_cons]
  cases h : (pt ps i).z <;> simp [h]
theorem optL_ne {l : List Nat} (h : l ≠ []) : optL l = [l] := if_neg h
theorem optL_nil : optL [] = [] := rfl
theorem whole_runs (o : OkPlan pg ps) : ∀ i : Nat, i < ps.length → ∃ R run Ls, lotsTo (nwR ps) (i + 1) = R ++ [run] ∧ lotsTo (nwL ps) (i + 1) = Ls ++ optL (bitsOf ps run) ++ optL (zerosOf ps run) ∧ wholeOrd Ls = prodRun ps R ∧
    ((pt ps i).z = true → zerosOf ps run ≠ []) ∧ ((pt ps i).z = false → zerosOf ps run = [] ∧ bitsOf ps run ≠ [])
  | 0, _ => by
    refine ⟨[], [0], [], rfl, ?_, rfl, ?_, ?_⟩
    · show [[0]] = _
      have h1 := bits_snoc (ps := ps) [] 0
      have h2 := zeros_snoc (ps := ps) [] 0
      rw [List.nil_append] at h1 h2
      rw [h1, h2]
      cases h : (pt ps 0).z <;> rfl
    · intro h
      have h2 := zeros_snoc (ps := ps) [] 0
      rw [List.nil_append, h] at h2
      rw [h2]
      simp
    · intro h
      have h1 := bits_snoc (ps := ps) [] 0
      have h2 := zeros_snoc (ps := ps) [] 0
      rw [List.nil_append, h] at h1 h2
      rw [h1, h2]
      exact ⟨rfl, by simp [bitsOf]⟩
  | i + 1, hi => by
    obtain ⟨R, run, Ls, e1, e2, e3, z1, z2⟩ := whole_runs o i (by omega)
    have nR : lotsTo (nwR ps) (i + 1 + 1) = if nwR ps (i + 1) = true then lotsTo (nwR ps) (i + 1) ++ [[i + 1]] else addLast (lotsTo (nwR ps) (i + 1)) (i + 1) := rfl
    have nL : lotsTo (nwL ps) (i + 1 + 1) = if nwL ps (i + 1) = true then lotsTo (nwL ps) (i + 1) ++ [[i + 1]] else addLast (lotsTo (nwL ps) (i + 1)) (i + 1) := rfl
    rw [nR, nL, e1]
    by_cases hr : rt ps (i + 1) = rt ps i
    · have q1 : nwR ps (i + 1) = false := by
        rw [nwR_succ, hr]
        simp
      rw [if_neg (by rw [q1]; decide), addLast_snoc]
      refine ⟨R, run ++ [i + 1], Ls, rfl, ?_, e3, ?_, ?_⟩
      · rw [e2, bits_snoc, zeros_snoc]
        cases hz : (pt ps (i + 1)).z with
        | true =>
          rw [if_pos rfl, if_pos rfl, List.append_nil]
          cases hz0 : (pt ps i).z with
          | true =>
            have q2 : nwL ps (i + 1) = false := by
              rw [nwL_succ, hr, hz, hz0]
              simp
            have hne := z1 hz0
            rw [if_neg (by rw [q2]; decide), optL_ne hne, addLast_snoc, optL_ne (l := zerosOf ps run ++ [i + 1]) (by simp)]
          | false =>
            have q2 : nwL ps (i + 1) = true := by
              rw [nwL_succ, hr, hz, hz0]
              simp
            have hne := (z2 hz0).1
            rw [if_pos q2, hne, optL_nil, List.append_nil, List.nil_append, optL_ne (l := [i + 1]) (by simp)]
        | false =>
          simp only [Bool.false_eq_true, if_false, List.append_nil]
          cases hz0 : (pt ps i).z with
          | true => exact absurd hr (Ne.symm (o.zz i hi hz0 hz))
          | false =>
            have q2 : nwL ps (i + 1) = false := by
              rw [nwL_succ, hr, hz, hz0]
              simp
            obtain ⟨hn, hne⟩ := z2 hz0
            rw [if_neg (by rw [q2]; decide), hn, optL_nil, List.append_nil, List.append_nil, optL_ne hne, addLast_snoc, optL_ne (l := bitsOf ps run ++ [i + 1]) (by simp)]
      · intro hz
        rw [zeros_snoc, hz, if_pos rfl]
        simp
      · intro hz
        rw [zeros_snoc, bits_snoc, hz, if_neg (by decide), if_neg (by decide)]
        cases hz0 : (pt ps i).z with
        | true => exact absurd hr (Ne.symm (o.zz i hi hz0 hz))
        | false => exact ⟨by rw [(z2 hz0).1]; rfl, by simp⟩
    · have q1 : nwR ps (i + 1) = true := by
        rw [nwR_succ]
        simpa using hr
      have q2 : nwL ps (i + 1) = true := by
        rw [nwL_succ]
        simp [hr]
      rw [if_pos q1, if_pos q2, e2]
      have h1 := bits_snoc (ps := ps) [] (i + 1)
      have h2 := zeros_snoc (ps := ps) [] (i + 1)
      rw [List.nil_append] at h1 h2
      refine ⟨R ++ [run], [i + 1], _, rfl, ?_, whole_step e3, ?_, ?_⟩
      · rw [h1, h2]
        cases h : (pt ps (i + 1)).z with
        | true =>
          rw [if_pos rfl, if_pos rfl]
          show _ = _ ++ [] ++ [[i + 1]]
          rw [List.append_nil]
        | false =>
          rw [if_neg (by decide), if_neg (by decide)]
          show _ = _ ++ [[i + 1]] ++ []
          rw [List.append_nil]
      · intro h
        rw [h2, h, if_pos rfl]
        simp
      · intro h
        rw [h1, h2, h, if_neg (by decide), if_neg (by decide)]
        exact ⟨rfl, by simp [bitsOf]⟩
theorem whole_eq (o : OkPlan pg ps) : wholeOrd (lotsM ps) = prodRun ps (runsM ps) := by
  obtain ⟨m, hm⟩ : ∃ m, ps.length = m + 1 := ⟨ps.length - 1, by have := o.len1; omega⟩
  obtain ⟨R, run, Ls, e1, e2, e3, _⟩ := whole_runs o m (by omega)
  unfold lotsM runsM
  rw [hm, e1, e2]
  exact whole_step e3
end
end VS

set_option Elab.async false
set_option linter.all false
set_option maxRecDepth 100000
set_option maxHeartbeats 4000000
set_option autoImplicit false
namespace VS
open PySem L2 PySem.Spec PyProof.Rows

theorem al_dvd {pg al : Int} (h1 : pg = 8 ∨ pg = 16 ∨ pg = 32 ∨ pg = 64) (h2 : al = 1 ∨ al = 2 ∨ al = 4 ∨ al = 8 ∨ al = 16 ∨ al = 32 ∨ al = 64) (h3 : al ≤ pg) : pg % al = 0 := by
  rcases h1 with rfl | rfl | rfl | rfl <;> rcases h2 with rfl | rfl | rfl | rfl | rfl | rfl | rfl <;> first | rfl | omega
theorem up_mul {s m : Int} (h : m % s = 0) : up s m = m := by
  unfold up
  have : (0 - m) % s = 0 := by rw [Int.sub_emod, h, Int.zero_emod, Int.sub_zero, Int.zero_emod]
  rw [this, Int.add_zero]
theorem up_base {s b e : Int} (h : b % s = 0) : up s (b + e) = b + up s e := by
  unfold up
  have : (0 - (b + e)) % s = (0 - e) % s := by
    have e1 : 0 - (b + e) = (0 - e) - b := by omega
    rw [e1, Int.sub_emod, h, Int.sub_zero, Int.emod_emod]
  rw [this, Int.add_assoc]
theorem mul_al {pg al m : Int} (h1 : pg % al = 0) (h2 : m % pg = 0) : m % al = 0 :=
  Int.emod_eq_zero_of_dvd (Int.dvd_trans (Int.dvd_of_emod_eq_zero h1) (Int.dvd_of_emod_eq_zero h2))
def endL (pg : Int) (ps : List Part) (ss : List Int) (o : List Nat) : Int := endAt pg (o.map (pt ps)) (o.map (sz ss)) o.length
section
variable {pg : Int} {ps : List Part} {ss : List Int}
theorem sz_app {a : List Int} (b : List Int) {k : Nat} (h : k < a.length) : sz (a ++ b) k = sz a k := by
  unfold sz
  rw [List.getD_eq_getElem?_getD, List.getD_eq_getElem?_getD, List.getElem?_append_left h]
theorem stepAt_pre {p1 : List Part} (p2 : List Part) {k : Nat} (h : k < p1.length) : stepAt pg (p1 ++ p2) k = stepAt pg p1 k := by
  unfold stepAt
  rw [pt_app _ h, pt_app _ (by omega : k - 1 < p1.length)]
theorem end_pre {p1 : List Part} {s1 : List Int} (p2 : List Part) (s2 : List Int) (hl : s1.length = p1.length) : ∀ k, k ≤ p1.length → endAt pg (p1 ++ p2) (s1 ++ s2) k = endAt pg p1 s1 k
  | 0, _ => rfl
  | k + 1, h => by
    show up _ (endAt pg (p1 ++ p2) (s1 ++ s2) k) + sz (s1 ++ s2) k = up _ (endAt pg p1 s1 k) + sz s1 k
    rw [end_pre p2 s2 hl k (by omega), stepAt_pre _ (by omega), sz_app _ (by omega)]
theorem pt_map {o : List Nat} {i m : Nat} (h : o[i]? = some m) : pt (o.map (pt ps)) i = pt ps m := by
  unfold pt
  rw [List.getD_eq_getElem?_getD, List.getElem?_map, h]
  rfl
theorem sz_map {o : List Nat} {i m : Nat} (h : o[i]? = some m) : sz (o.map (sz ss)) i = sz ss m := by
  unfold sz
  rw [List.getD_eq_getElem?_getD, List.getElem?_map, h]
  rfl
theorem endL_nil : endL pg ps ss [] = 0 := rfl
theorem endL_snoc (o : List Nat) (k : Nat) : endL pg ps ss (o ++ [k]) = up (stepAt pg ((o ++ [k]).map (pt ps)) o.length) (endL pg ps ss o) + sz ss k := by
  have hl : (o ++ [k]).length = o.length + 1 := by rw [List.length_append]; rfl
  have hk : (o ++ [k])[o.length]? = some k := by rw [List.getElem?_append_right (Nat.le_refl _), Nat.sub_self]; rfl
  unfold endL
  rw [hl]
  show up _ (endAt pg ((o ++ [k]).map (pt ps)) ((o ++ [k]).map (sz ss)) o.length) + sz ((o ++ [k]).map (sz ss)) o.length = _
  rw [sz_map hk]
  have e : endAt pg ((o ++ [k]).map (pt ps)) ((o ++ [k]).map (sz ss)) o.length = endAt pg (o.map (pt ps)) (o.map (sz ss)) o.length := by
    rw [List.map_append, List.map_append]
    exact end_pre _ _ (by rw [List.length_map, List.length_map]) _ (by rw [List.length_map]; exact Nat.le_refl _)
  rw [e]
theorem step_first (k : Nat) : stepAt pg (([] ++ [k] : List Nat).map (pt ps)) 0 = (pt ps k).al := rfl
theorem step_next (o : List Nat) (j k : Nat) : stepAt pg (((o ++ [j]) ++ [k]).map (pt ps)) (o ++ [j]).length = if rt ps k ≠ rt ps j then pg else (pt ps k).al := by
  have hl : (o ++ [j]).length = o.length + 1 := by rw [List.length_append]; rfl
  have hk : ((o ++ [j]) ++ [k])[(o ++ [j]).length]? = some k := by rw [List.getElem?_append_right (Nat.le_refl _), Nat.sub_self]; rfl
  have hj : ((o ++ [j]) ++ [k])[(o ++ [j]).length - 1]? = some j := by
    rw [List.getElem?_append_left (by omega), hl]
    show (o ++ [j])[o.length]? = _
    rw [List.getElem?_append_right (Nat.le_refl _), Nat.sub_self]
    rfl
  unfold stepAt
  rw [pt_map hk, pt_map hj]
  unfold rt
  by_cases h : (pt ps k).r ≠ (pt ps j).r
  · rw [if_pos h, if_pos ⟨by omega, h⟩]
  · rw [if_neg h, if_neg fun z => h z.2]
/-- what runs of one right want -/
structure RunIn (pg : Int) (ps : List Part) (c : Str) (o : List Nat) : Prop where
  al : ∀ k ∈ o, pg % (pt ps k).al = 0
  r : ∀ k ∈ o, rt ps k = c
def Bord (ps : List Part) (c : Str) (r : List Nat) : Prop := r = [] ∨ ∃ r0 j, r = r0 ++ [j] ∧ rt ps j ≠ c
theorem endL_run (hpg : 0 < pg) {c : Str} {r : List Nat} (hb : Bord ps c r) : ∀ (n : Nat) (o : List Nat), o.length = n + 1 → RunIn pg ps c o → endL pg ps ss (r ++ o) = eor ps ss (up pg (endL pg ps ss r)) o
  | 0, o, hl, ho => by
    obtain ⟨o0, x, rfl⟩ := snoc_of o (fun e => by rw [e] at hl; cases hl)
    have e0 : o0 = [] := by
      rw [List.length_append] at hl
      exact List.length_eq_zero_iff.mp (by simpa using hl)
    subst e0
    have hal := ho.al x (by simp)
    have hx := ho.r x (by simp)
    rw [List.nil_append]
    rcases hb with rfl | ⟨r0, j, rfl, hj⟩
    · rw [endL_snoc, List.length_nil, step_first, endL_nil]
      have e1 : up pg 0 = 0 := up_mul (Int.zero_emod _)
      rw [e1]
      rfl
    · rw [endL_snoc, step_next, if_pos (by rw [hx]; exact Ne.symm hj)]
      show _ = up (pt ps x).al (up pg (endL pg ps ss (r0 ++ [j]))) + sz ss x
      rw [up_mul (mul_al hal (up_zero hpg))]
  | n + 1, o, hl, ho => by
    obtain ⟨o1, y, rfl⟩ := snoc_of o (fun e => by rw [e] at hl; cases hl)
    have hl1 : o1.length = n + 1 := by
      rw [List.length_append] at hl
      simpa using hl
    have ih := endL_run hpg hb n o1 hl1 ⟨fun k hk => ho.al k (List.mem_append_left _ hk), fun k hk => ho.r k (List.mem_append_left _ hk)⟩
    obtain ⟨o2, z, rfl⟩ := snoc_of o1 (fun e => by rw [e] at hl1; cases hl1)
    have hy := ho.r y (by simp)
    have hz := ho.r z (by simp)
    rw [← List.append_assoc, endL_snoc, eor_snoc, ← ih]
    have e1 : r ++ (o2 ++ [z]) = (r ++ o2) ++ [z] := (List.append_assoc ..).symm
    rw [e1, step_next, if_neg (by rw [hy, hz]; simp)]
theorem eor_base {b : Int} : ∀ (o : List Nat) (e : Int), (∀ k ∈ o, b % (pt ps k).al = 0) → eor ps ss (b + e) o = b + eor ps ss e o
  | [], e, _ => rfl
  | k :: r, e, h => by
    show eor ps ss (up (pt ps k).al (b + e) + sz ss k) r = b + eor ps ss (up (pt ps k).al e + sz ss k) r
    rw [up_base (h k List.mem_cons_self), Int.add_assoc, eor_base r _ fun m hm => h m (List.mem_cons_of_mem _ hm)]
/-- an order of a run behind the rest -/
theorem endL_app (hpg : 0 < pg) {c : Str} {r o : List Nat} (hb : Bord ps c r) (hne : o ≠ []) (ho : RunIn pg ps c o) : endL pg ps ss (r ++ o) = up pg (endL pg ps ss r) + eor ps ss 0 o := by
  obtain ⟨n, hn⟩ : ∃ n, o.length = n + 1 := ⟨o.length - 1, by
    have : 0 < o.length := List.length_pos_iff.mpr hne
    omega⟩
  rw [endL_run hpg hb n o hn ho]
  have := eor_base (ps := ps) (ss := ss) (b := up pg (endL pg ps ss r)) o 0 fun k hk => mul_al (ho.al k hk) (up_zero hpg)
  rw [Int.add_zero] at this
  exact this
theorem up_pages (hpg : 0 < pg) (b e : Int) (hb : b % pg = 0) : up pg (b + e) = b + pg * pagesM pg e := by
  rw [up_base hb]
  unfold pagesM
  rw [Int.mul_ediv_cancel' (Int.dvd_of_emod_eq_zero (up_zero hpg))]
theorem ords_full {α : Type} : ∀ (n : Nat) (l : List α), l.length ≤ n → ∀ r ∈ ords n l, r.length = l.length
  | 0, l, h, r, hr => by
    simp [ords] at hr
    rw [hr]
    have : l.length = 0 := by omega
    rw [this]
    rfl
  | n + 1, l, h, r, hr => by
    unfold ords at hr
    split at hr
    · rename_i he
      simp at hr
      rw [hr, List.isEmpty_iff.mp he]
    · obtain ⟨j, hj, h2⟩ := List.mem_flatMap.mp hr
      have hj := List.mem_range.mp hj
      rw [List.getElem?_eq_getElem hj] at h2
      obtain ⟨y, h3, rfl⟩ := List.mem_map.mp h2
      have hl : (l.take j ++ l.drop (j + 1)).length = l.length - 1 := by
        rw [List.length_append, List.length_take, List.length_drop]
        omega
      have := ords_full n _ (by omega) y h3
      rw [List.length_cons, this, hl]
      omega
theorem runOrd_ne {run o : List Nat} (h5 : run.length ≤ 5) (hr : run ≠ []) (ho : o ∈ runOrd ps run) : o ≠ [] := by
  obtain ⟨a, ha, h2⟩ := List.mem_flatMap.mp ho
  obtain ⟨z, hz, rfl⟩ := List.mem_map.mp h2
  have la := ords_full 5 _ (Nat.le_trans (List.length_filter_le _ _) h5) a ha
  have lz := ords_full 5 _ (Nat.le_trans (List.length_filter_le _ _) h5) z hz
  intro e
  have e := List.append_eq_nil_iff.mp e
  rw [e.1] at la
  rw [e.2] at lz
  obtain ⟨k, ks, ek⟩ := List.exists_cons_of_ne_nil hr
  have b0 : bitsOf ps run = [] := List.length_eq_zero_iff.mp la.symm
  have z0 : zerosOf ps run = [] := List.length_eq_zero_iff.mp lz.symm
  unfold bitsOf at b0
  unfold zerosOf at z0
  rw [List.filter_eq_nil_iff] at b0 z0
  have h1 := b0 k (by rw [ek]; exact List.mem_cons_self)
  have h2 := z0 k (by rw [ek]; exact List.mem_cons_self)
  cases h : (pt ps k).z <;> rw [h] at h1 h2 <;> simp at h1 h2
theorem prodRun_mem (l : List (List Nat)) (hok : ∀ run ∈ l, run ≠ [] ∧ run.length ≤ 5) : ∀ j, j < l.length → ∀ r ∈ prodRun ps (l.take (j + 1)), ∃ run r0 m, l[j]? = some run ∧ r = r0 ++ [m] ∧ m ∈ run := by
  intro j hj r hr
  have hg : l[j]? = some l[j] := List.getElem?_eq_getElem hj
  rw [take_succ hg, prodRun_snoc] at hr
  obtain ⟨a, _, o, ho, rfl⟩ := mem_prodL.mp hr
  obtain ⟨h1, h2⟩ := hok l[j] (List.getElem_mem hj)
  obtain ⟨o0, m, rfl⟩ := snoc_of o (runOrd_ne h2 h1 ho)
  exact ⟨l[j], a ++ o0, m, hg, (List.append_assoc ..).symm, (runOrd_mem ho).2 m (by simp)⟩
theorem best_pick (o : OkPlan pg ps) {os : List (List Nat)} (hb : BestOs pg ps ss (runsM ps).length os) : IsPick (endL pg ps ss) (prodRun ps (runsM ps)) os.flatten := by
  have hpg := o.pg0
  obtain ⟨m, hm⟩ : ∃ m, ps.length = m + 1 := ⟨ps.length - 1, by have := o.len1; omega⟩
  have ro : RunsOk ps (runsM ps) := by
    have := (runs_ok (ps := ps) m).1
    unfold runsM
    rw [hm]
    exact this
  have rm : ∀ run ∈ runsM ps, run.length ≤ 5 ∧ ∀ k ∈ run, k < ps.length := fun run hr => by
    obtain ⟨h1, h2⟩ := lotsTo_mem (nw := nwR ps) rfl ps.length run hr
    have := o.len5
    exact ⟨by omega, h2⟩
  have hok : ∀ run ∈ runsM ps, run ≠ [] ∧ run.length ≤ 5 := fun run hr => ⟨ro.ne run hr, (rm run hr).1⟩
  have hne : runsM ps ≠ [] := by
    unfold runsM
    rw [hm]
    exact lotsTo_ne rfl m
  have alr : ∀ run ∈ runsM ps, ∀ k ∈ run, pg % (pt ps k).al = 0 := fun run hr k hk => by
    have hp := pt_mem ((rm run hr).2 k hk)
    exact al_dvd (pg_of o.pgV) (al_of (o.alV _ hp)) (o.alP _ hp)
  -- what stands ahead of a run ends in other rights
  have bord : ∀ j run, (runsM ps)[j]? = some run → ∀ a ∈ run, ∀ r ∈ prodRun ps ((runsM ps).take j), Bord ps (rt ps a) r := fun j run hr a ha r hrr => by
    cases j with
    | zero =>
      refine .inl ?_
      have hrr : r ∈ ([[]] : List (List Nat)) := hrr
      exact List.mem_singleton.mp hrr
    | succ j =>
      have hl := (List.getElem?_eq_some_iff.mp hr).1
      obtain ⟨run0, r0, x, h1, h2, h3⟩ := prodRun_mem (runsM ps) hok j (by omega) r hrr
      exact .inr ⟨r0, x, h2, ro.adj j run0 run h1 hr x h3 a ha⟩
  have app : ∀ j run, (runsM ps)[j]? = some run → ∀ r ∈ prodRun ps ((runsM ps).take j), ∀ ob ∈ runOrd ps run, endL pg ps ss (r ++ ob) = up pg (endL pg ps ss r) + eor ps ss 0 ob := fun j run hr r hrr ob hob => by
    have hmem := List.mem_of_getElem? hr
    have hobm := (runOrd_mem hob).2
    obtain ⟨a, as, ea⟩ := List.exists_cons_of_ne_nil (ro.ne run hmem)
    have hma : a ∈ run := by rw [ea]; exact List.mem_cons_self
    exact endL_app hpg (bord j run hr a hma r hrr) (runOrd_ne (rm run hmem).1 (ro.ne run hmem) hob) ⟨fun k hk => alr run hmem k (hobm k hk), fun k hk => ro.same run hmem k (hobm k hk) a hma⟩
  have upto : ∀ j, j < (runsM ps).length → IsPick (fun r => up pg (endL pg ps ss r)) (prodRun ps ((runsM ps).take j)) (os.take j).flatten := by
    intro j
    induction j with
    | zero =>
      intro _
      exact IsPick.one []
    | succ j ih =>
      intro hj
      have hg : (runsM ps)[j]? = some (runsM ps)[j] := List.getElem?_eq_getElem (by omega)
      obtain ⟨ob, h1, h2⟩ := hb.2 j _ (by omega) hg
      have hf : (j + 1 == (runsM ps).length) = false := by
        rw [beq_eq_false_iff_ne]
        omega
      rw [hf] at h2
      rw [take_succ hg, prodRun_snoc, take_succ h1, List.flatten_append, List.flatten_cons, List.flatten_nil, List.append_nil]
      refine pick_prod hpg (ih (by omega)) h2 fun r hr ob hob => ?_
      show up pg (endL pg ps ss (r ++ ob)) = up pg (endL pg ps ss r) + pg * pagesM pg (eor ps ss 0 ob)
      rw [app j _ hg r hr ob hob, up_pages hpg _ _ (up_zero hpg)]
  obtain ⟨l, hl⟩ : ∃ l, (runsM ps).length = l + 1 := ⟨(runsM ps).length - 1, by
    have : 0 < (runsM ps).length := List.length_pos_iff.mpr hne
    omega⟩
  have hg : (runsM ps)[l]? = some (runsM ps)[l] := List.getElem?_eq_getElem (by omega)
  obtain ⟨ob, h1, h2⟩ := hb.2 l _ (by omega) hg
  have hf : (l + 1 == (runsM ps).length) = true := by
    rw [beq_iff_eq]
    exact hl.symm
  rw [hf] at h2
  have eR : runsM ps = (runsM ps).take l ++ [(runsM ps)[l]] := by
    rw [← take_succ hg, ← hl, List.take_length]
  have eO : os = os.take l ++ [ob] := by
    rw [← take_succ h1, ← hl, ← hb.1, List.take_length]
  have e1 : prodRun ps (runsM ps) = prodL (prodRun ps ((runsM ps).take l)) (runOrd ps (runsM ps)[l]) := by
    rw [← prodRun_snoc, ← eR]
  have e2 : os.flatten = (os.take l).flatten ++ ob := by
    rw [congrArg List.flatten eO, List.flatten_append, List.flatten_cons, List.flatten_nil, List.append_nil]
  rw [e1, e2]
  refine pick_prod (c := 1) (by decide) (upto l (by omega)) h2 fun r hr ob hob => ?_
  show endL pg ps ss (r ++ ob) = up pg (endL pg ps ss r) + 1 * eor ps ss 0 ob
  rw [app l _ hg r hr ob hob, Int.one_mul]
theorem best_eq (o : OkPlan pg ps) {os : List (List Nat)} (hb : BestOs pg ps ss (runsM ps).length os) {x : List Nat} (hx : IsPick (endL pg ps ss) (wholeOrd (lotsM ps)) x) : os.flatten = x := by
  rw [whole_eq o] at hx
  exact (best_pick o hb).uniq hx
end
end VS

set_option Elab.async false
set_option linter.all false
set_option maxRecDepth 100000
set_option maxHeartbeats 4000000
set_option autoImplicit false
namespace VS
open PySem L2 PySem.Spec PyProof.Rows
theorem cut3 {A B D : Type} {GOAL : Prop} (G : A → B → D → Prop) (ok : A → B → D → Prop) (main : (∀ x y z, ok x y z → G x y z) → GOAL) (rest : ∀ x y z, ok x y z → G x y z) : GOAL := main rest
theorem whole_sub : ∀ (ls fs : List (List Nat)) (P : Nat → Prop), (∀ l ∈ ls, ∀ k ∈ l, P k) → (∀ r ∈ fs, ∀ k ∈ r, P k) → ∀ r ∈ ls.foldl (fun fs l => fs.flatMap fun r => (ords 5 l).map (r ++ ·)) fs, ∀ k ∈ r, P k
  | [], fs, P, _, h, r, hr => h r hr
  | l :: ls, fs, P, hl, h, r, hr => whole_sub ls _ P (fun l' h' => hl l' (List.mem_cons_of_mem _ h')) (fun r' hr' k hk => by
      obtain ⟨r0, h0, h1⟩ := List.mem_flatMap.mp hr'
      obtain ⟨z, h2, rfl⟩ := List.mem_map.mp h1
      rcases List.mem_append.mp hk with hk | hk
      · exact h r0 h0 k hk
      · exact hl l List.mem_cons_self k (ords_sub 5 l z h2 k hk)) r hr
theorem whole_len : ∀ (ls fs : List (List Nat)) (n : Nat), (∀ l ∈ ls, l.length ≤ 5) → (∀ r ∈ fs, r.length = n) → ∀ r ∈ ls.foldl (fun fs l => fs.flatMap fun r => (ords 5 l).map (r ++ ·)) fs, r.length = n + ls.flatten.length
  | [], fs, n, _, h, r, hr => h r hr
  | l :: ls, fs, n, h5, h, r, hr => by
    have := whole_len ls _ (n + l.length) (fun l' h' => h5 l' (List.mem_cons_of_mem _ h')) (fun r' hr' => by
      obtain ⟨r0, h0, h1⟩ := List.mem_flatMap.mp hr'
      obtain ⟨z, h2, rfl⟩ := List.mem_map.mp h1
      rw [List.length_append, h r0 h0, ords_full 5 l (h5 l List.mem_cons_self) z h2]) r hr
    rw [this, List.flatten_cons, List.length_append]
    omega
theorem whole_ne : ∀ (ls fs : List (List Nat)), (∀ l ∈ ls, l.length ≤ 5) → fs ≠ [] → ls.foldl (fun fs l => fs.flatMap fun r => (ords 5 l).map (r ++ ·)) fs ≠ []
  | [], fs, _, h => h
  | l :: ls, fs, h5, h => whole_ne ls _ (fun l' h' => h5 l' (List.mem_cons_of_mem _ h')) fun e => by
    rw [List.flatMap_eq_nil_iff] at e
    obtain ⟨r, rs, er⟩ := List.exists_cons_of_ne_nil h
    have := e r (by rw [er]; exact List.mem_cons_self)
    rw [List.map_eq_nil_iff] at this
    exact ords_pos 5 l (h5 l List.mem_cons_self) this
theorem whole_facts {pg : Int} {ps : List Part} (o : OkPlan pg ps) : wholeOrd (lotsM ps) ≠ [] ∧ ∀ r ∈ wholeOrd (lotsM ps), r ≠ [] ∧ r.length ≤ 5 ∧ ∀ k ∈ r, k < ps.length := by
  have h5 := o.len5
  have h1 := o.len1
  have lm := lotsTo_mem (nw := nwL ps) rfl ps.length
  have l5 : ∀ l ∈ lotsM ps, l.length ≤ 5 := fun l hl => Nat.le_trans (lm l hl).1 h5
  refine ⟨whole_ne _ [[]] l5 (by simp), fun r hr => ?_⟩
  have hl := whole_len (lotsM ps) [[]] 0 l5 (fun r hr => by rw [List.mem_singleton.mp hr]; rfl) r hr
  have ef : (lotsM ps).flatten = List.range ps.length := lotsTo_flat rfl ps.length
  rw [ef, List.length_range] at hl
  refine ⟨fun e => ?_, by omega, whole_sub (lotsM ps) [[]] (fun k => k < ps.length) (fun l hl k hk => (lm l hl).2 k hk) (fun r hr k hk => by rw [List.mem_singleton.mp hr] at hk; cases hk) r hr⟩
  rw [e] at hl
  simp at hl
  omega
def BestSt (f : List Nat → Int) (l : List (List Nat)) (b : AV) : Prop := (l = [] ∧ b = .d .none) ∨ ∃ x, IsPick f l x ∧ b = .d (.tuple [.int (f x), dInts (nats x)])
section
variable {P : Program} {w : World} {K : PySem.W.Frag} {mg : Str → Option Value} {base : Heap} {C : Addr} {tk : Tok} {aR aA aP : Addr}
def F_law : List AV → LS → AK → Prop := fun avs L Q => ∃ ns : List Int, avs = [.sc ns] ∧ ns.length ≤ 63 ∧ ∀ L', Q (.d (.bool true)) L'
theorem fnK {f : Addr} {fd : FuncData} {x : Str} {st : Stmt} {N ps : List Str} {k : Nat} {FF : List AV → LS → AK → Prop} (F : Fun K x x st f fd) (S : FnScope N ps (defScope st)) (len : ∀ avs L Q, FF avs L Q → avs.length = ps.length)
    (hbody : ∀ (cdv : Value) (A : Around) (outer : List PySem.Env) (s : Shared) (H : Hp) (E : XK), Room k (A.deeper (envOfC x (defScope st) s.heap.objs.size f cdv)) → ∀ avs L Q, FF avs L Q →
      ∃ t at_, ASs (cxOf CX0 P w K mg base N x (defScope st) f cdv A outer s H E).nox C (defBody st) t at_ ∧ at_ { nx := fun _ L' => Q (.d .none) L', rt := Q } (startE N avs) L) : FnOk P w K mg base CX0 (k + 1) f fd ps (spA K C FF) := by
  refine F.ok S (fun vs H Q E h => ?_) (fun cdv A outer s H vs Q E hr h => ?_)
  · obtain ⟨G, L, avs, P0, _, r, ff, _⟩ := h
    rw [r.length, len avs L P0 ff]
  · obtain ⟨G, L, avs, P0, s0, r, ff, k0⟩ := h
    obtain ⟨t, at_, hb, hq⟩ := hbody cdv A outer s H E hr avs L P0 ff
    refine ⟨t, hb.ps, hb.sim _ { nx := fun _ L' => P0 (.d .none) L', rt := P0 } _ _ G L H (rel_start r) s0 hq ⟨fun σ env G' L' H' g s' r' p => ?_, fun v av G' L' H' g s' r' p => ?_, fun _ _ _ _ _ _ _ _ p => p.elim, fun _ _ _ _ _ _ _ _ p => p.elim⟩⟩
    · exact k0 .non (.d .none) G' L' H' g s' .non p
    · exact k0 v av G' L' H' g s' r' p
theorem ok_law {f : Addr} {fd : FuncData} (F : Fun K "law" "law" s_law f fd) (T : Txt K mg C tk aR aA aP) {fI : Addr} {fdI : FuncData} (PM : Mk K C fI) (PF : FnOk P w K mg base CX0 4 fI fdI ["self", "page", "parts"] (spInit K C)) (PB : Binds K fdI ["self", "page", "parts"] []) (PG : mg "Plan" = some (.ref C))
    (G_law_source : FnG P w K mg base C 1 "_law_source" F_law_source) (G_law_few : FnG P w K mg base C 4 "_law_few" F_law_few) (G_law_some_sizes : FnG P w K mg base C 2 "_law_some_sizes" F_law_some_sizes) (G_law_moves_right : FnG P w K mg base C 5 "_law_moves_right" F_law_moves_right)
    (G_law_all_sizes : FnG P w K mg base C 2 "_law_all_sizes" F_law_all_sizes) (G_law_whole_orders : FnG P w K mg base C 7 "_law_whole_orders" F_law_whole_orders) (G_law_end : FnG P w K mg base C 3 "_law_end" F_law_end) (G_law_same : FnG P w K mg base C 3 "_law_same" (F_same 2))
    (G_best_order : FnG P w K mg base C 8 "best_order" F_best_order) (G_law_loose : FnG P w K mg base C 2 "_law_loose" F_loose) : FnOk P w K mg base CX0 9 f fd ["_law_script"] (spA K C F_law) := by
  refine fnK F sc_law ?len (fun cdv A outer s H E hr avs L Q h => ?_)
  case len =>
    rintro avs L Q ⟨p, rfl, _⟩
    rfl
  have nd := (sc_law).nd
  have hu := hr.units
  have hu1 := hu_of hr
  have hu65 : (A.deeper (envOfC "law" (defScope s_law) s.heap.objs.size f cdv)).units + 65 < cLine := by
    have := hr.un
    omega
  obtain ⟨ns, rfl, hn63, q⟩ := h
  refine ⟨_, _, (ass_cons (as_for (ai_r1 rfl T.range_ (aa_cons (ae_op ao_add ae_int (ae_callB (ac_min rfl) rfl T.min_ PyProof.Rows.boot_min (aa_cons (ae_callB (ac_len K) rfl T.len_ PySem.boot_len (aa_cons (ae_var 0) aa_nil)) (aa_cons ae_int aa_nil)))) aa_nil)) (ag_name 1 nd) (ass_cons (as_set 2 nd (ae_fn K G_law_source (hr.mono (by first | decide | omega)) (aa_cons (ae_var 0) (aa_cons (ae_var 1) aa_nil))))
      (ass_cons (as_asg (ae_fn K G_law_few (hr.mono (by first | decide | omega)) (aa_cons (ae_var 2) (aa_cons (ae_if (at_cmp (ao_eq K hu) (ae_var 1) ae_int) ae_int ae_int) aa_nil))) (ag_tup K (n := 2) rfl (ags_cons (ag_name 5 nd) (ags_cons (ag_name 6 nd) ags_nil))))
      (ass_cons (as_par 7 8 rfl nd (aa_cons (ae_plan K PM PF PB PG (hr.mono (by first | decide | omega)) (aa_cons (ae_var 5) (aa_cons (ae_var 6) aa_nil))) (aa_cons (ae_fn K G_law_some_sizes (hr.mono (by first | decide | omega)) (aa_cons (ae_var 2) (aa_cons (ae_var 6) aa_nil))) aa_nil)))
      (ass_cons (as_if (at_not (at_val (ae_fn K G_law_moves_right (hr.mono (by first | decide | omega)) (aa_cons (ae_var 7) (aa_cons (ae_var 5) (aa_cons (ae_var 6) (aa_cons (ae_fn K G_law_all_sizes (hr.mono (by first | decide | omega)) (aa_cons (ae_var 6) aa_nil)) aa_nil))))))) (ass_one (as_ret ae_bl)) ass_nil)
      (ass_cons (as_set 3 nd ae_non)
      (ass_cons (as_for (ai_l K (ae_fn K G_law_whole_orders (hr.mono (by first | decide | omega)) (aa_cons (ae_var 6) aa_nil))) (ag_name 4 nd) (ass_cons (as_set 9 nd (ae_fn K G_law_end (hr.mono (by first | decide | omega)) (aa_cons (ae_var 5) (aa_cons (ae_var 6) (aa_cons (ae_var 8) (aa_cons (ae_var 4) aa_nil))))))
      (ass_one (as_set 3 nd (ae_if (AW.toT (aw_or (at_cmp ao_isN (ae_var 3) ae_non) (aw_or1 (at_cmp ao_lt (ae_var 9) (ae_ix (ai_tup K) (ae_var 3) ae_int))))) (ae_tup (aa_cons (ae_var 9) (aa_cons (ae_var 4) aa_nil))) (ae_var 3))))))
      (ass_one (as_if (at_not (at_val (ae_fn K G_law_same (hr.mono (by first | decide | omega)) (aa_cons (ae_fn K G_best_order (hr.mono (by first | decide | omega)) (aa_cons (ae_var 7) (aa_cons (ae_fn K G_law_loose (hr.mono (by first | decide | omega)) (aa_cons (ae_var 2) (aa_cons (ae_var 8) aa_nil))) aa_nil))) (aa_cons (ae_ix (ai_tup K) (ae_var 3) ae_int) aa_nil))))) (ass_one (as_ret ae_bl)) ass_nil)))))))))
      (ass_one (as_ret ae_bl))), ?_⟩
  generalize hm : (1 : Int) + (if (2 : Int) < (ns.length : Int) then (2 : Int) else (ns.length : Int)) = m
  have hm3 : 1 ≤ m ∧ m ≤ 3 := by
    rw [← hm]
    split <;> omega
  refine aFor_of ((List.range m.toNat).map fun (i : Nat) => AV.d (.int (i : Int))) (fun i env' L' => ∃ (x1 x2 x3 x4 x5 x6 x7 x8 x9 : Option AV), env' = [some (.sc ns), x1, x2, x3, x4, x5, x6, x7, x8, x9]) (fun R r => ?_) ⟨_, _, _, _, _, _, _, _, _, rfl⟩ ?_ ?_
  · refine ⟨_, rfl, ?_⟩
    show -100000 ≤ (1 : Int) + (if (2 : Int) < (ns.length : Int) then (2 : Int) else (ns.length : Int)) ∧ (1 : Int) + (if (2 : Int) < (ns.length : Int) then (2 : Int) else (ns.length : Int)) ≤ 100000 ∧ R ((List.range ((1 : Int) + (if (2 : Int) < (ns.length : Int) then (2 : Int) else (ns.length : Int))).toNat).map fun (i : Nat) => AV.d (.int (i : Int))) _
    rw [hm]
    exact ⟨by omega, by omega, r⟩
  · rintro i av env' L1 hi ⟨x1, x2, x3, x4, x5, x6, x7, x8, x9, rfl⟩
    rw [List.getElem?_map] at hi
    obtain ⟨i', hi', rfl⟩ := Option.map_eq_some_iff.mp hi
    have hil := (List.getElem?_eq_some_iff.mp hi').1
    rw [List.getElem?_range (by rw [List.length_range] at hil; exact hil)] at hi'
    cases hi'
    rw [List.length_range] at hil
    refine ⟨ns, i, rfl, by omega, fun p s hp hs => ?_⟩
    refine ⟨_, _, rfl, rfl, shaped_int _, shaped_int _, ?_⟩
    apply cut3 _ (fun (pg : Int) (ps : List Part) (s1 : Int × Int × Int) => OkPlan pg ps ∧ prodW ps ≤ 60 ∧ Src 110 s1)
    · intro rest
      refine ⟨fun _ => ?_, fun _ => ?_⟩
      · refine ⟨p, 60, s, 0, rfl, by decide, by decide, put_same, hs, by decide, fun pg ps s1 o hw hs1 => ?_⟩
        rw [put_put]
        exact rest pg ps s1 ⟨o, hw, hs1.mono (by decide)⟩
      · refine ⟨p, 20, s, 0, rfl, by decide, by decide, put_same, hs, by decide, fun pg ps s1 o hw hs1 => ?_⟩
        rw [put_put]
        exact rest pg ps s1 ⟨o, by omega, hs1.mono (by decide)⟩
    · rintro pg ps s1 ⟨o, hw, hs1⟩
      have h5 := o.len5
      refine ⟨rfl, ?_⟩
      refine ⟨pg, ps, rfl, o, ?_⟩
      refine ⟨p, ps, s1, 110, rfl, by omega, fun q hq => ⟨o.lohi q hq, by have := o.hi1 q hq; have := o.lo0 q hq; omega⟩, put_same, hs1, by decide, fun vs s2 hvl hvb hs2 => ?_⟩
      rw [put_put]
      refine ⟨ps, rfl, box_ok o (by omega), ?_⟩
      refine ⟨pg, ps, rfl, o, hw, nofun, fun _ => ?_⟩
      obtain ⟨wne, wf⟩ := whole_facts o
      refine aFor_of ((wholeOrd (lotsM ps)).map fun o => AV.d (dInts (nats o))) (fun j env' M => ∃ (b : AV) (x4 x9 : Option AV), env' = [some (.sc ns), some (.d (.int (i : Int))), some (.p p), some b, x4, some (.d (.int pg)), some (.d (.list (encPs ps))), some (.pl pg (encPs ps)), some (.d (dInts vs)), x9] ∧ M = put L1 p (srcL s2) ∧
        BestSt (endL pg ps vs) ((wholeOrd (lotsM ps)).take j) b) (fun R r => ⟨pg, ps, rfl, o, ?_⟩) ⟨_, _, _, rfl, rfl, .inl ⟨rfl, rfl⟩⟩ ?_ ?_
      · rw [← dLists_av] at r
        exact r
      · rintro j av env' M hj ⟨b, x4, x9, rfl, rfl, st⟩
        rw [List.getElem?_map] at hj
        obtain ⟨ord, ho, rfl⟩ := Option.map_eq_some_iff.mp hj
        obtain ⟨on, ol, ok⟩ := wf ord (List.mem_of_getElem? ho)
        rw [show BestSt (endL pg ps vs) ((wholeOrd (lotsM ps)).take j) b = BestSt (endL pg ps vs) ((wholeOrd (lotsM ps)).take j) b from rfl] at st
        refine ⟨pg, ps, vs, ord, rfl, o.l, hvl, on, by omega, ok, ?_⟩
        have enx : ∀ b', BestSt (endL pg ps vs) ((wholeOrd (lotsM ps)).take j ++ [ord]) b' → BestSt (endL pg ps vs) ((wholeOrd (lotsM ps)).take (j + 1)) b' := fun b' h => by
          rw [take_succ ho]
          exact h
        rcases st with ⟨h0, rfl⟩ | ⟨x, hx, rfl⟩
        · refine ⟨fun _ => ⟨fun _ => ⟨_, rfl, (by show (2 : Nat) ≤ 100000; decide), _, _, _, rfl, rfl, enx _ ?_⟩, nofun⟩, nofun⟩
          rw [h0]
          exact .inr ⟨ord, IsPick.one _, rfl⟩
        · refine ⟨nofun, fun _ => ⟨_, rfl, fun hlt => ⟨_, rfl, (by show (2 : Nat) ≤ 100000; decide), _, _, _, rfl, rfl, enx _ ?_⟩, fun hge => ⟨_, _, _, rfl, rfl, enx _ ?_⟩⟩⟩
          · exact .inr ⟨ord, hx.swap (of_decide_eq_true hlt), rfl⟩
          · exact .inr ⟨x, hx.keep (of_decide_eq_false hge), rfl⟩
      · rintro env' M ⟨b, x4, x9, rfl, rfl, st⟩
        rw [List.length_map, List.take_length] at st
        rcases st with ⟨h0, _⟩ | ⟨x, hx, rfl⟩
        · exact absurd h0 wne
        · refine ⟨p, vs, s2, 110 + ps.length, rfl, by omega, put_same, hs2, by omega, fun d s3 hd hs3 => ?_⟩
          refine ⟨pg, ps, d, vs, rfl, o, hd, hvl, hvb, fun os hos => ?_⟩
          have e := best_eq o hos hx
          obtain ⟨_, xl, _⟩ := wf x hx.mem
          rw [e]
          refine ⟨_, rfl, dInts (nats x), rfl, same_ints (by unfold nats; rw [List.length_map]; omega), nofun, fun _ => ?_⟩
          exact ⟨_, _, _, _, _, _, _, _, _, rfl⟩
  · rintro env' L1 ⟨x1, x2, x3, x4, x5, x6, x7, x8, x9, rfl⟩
    exact q L1
end
end VS

set_option Elab.async false
set_option linter.all false
set_option maxRecDepth 100000
set_option maxHeartbeats 4000000
set_option autoImplicit false
namespace VS
open PySem L2 PySem.Spec PyProof.Rows
def DefM (K : PySem.W.Frag) (x : Str) (st : Stmt) : Prop := ∃ (f : Addr) (oc : Value) (od an : Option Addr) (sl : Array (Option Value)) (kV dc pm cd ct : Value), PySem.W.nsIn K mainGlobals x = some (some (.ref f)) ∧
  K.lookup f = some ⟨oc, od, .func (PySem.W.fnOf x x (defArgs st) (defBody st) (defScope st) .none kV dc pm an cd ct), sl⟩ ∧ PySem.W.codeIn K cd x = true ∧ PySem.W.keepIn K (.ref f) = true
def TupM (K : PySem.W.Frag) (x : Str) (vals : List V) : Prop := ∃ (a : Addr) (od : Option Addr) (sl : Array (Option Value)) (its : Array Value) (n : Nat), PySem.W.nsIn K mainGlobals x = some (some (.ref a)) ∧
  K.lookup a = some ⟨.type "tuple", od, .seq its n, sl⟩ ∧ its.size ≤ sizeLine ∧ Vals vals its.toList
def StrM (K : PySem.W.Frag) (x : Str) (z : Str) : Prop := ∃ t : Tok, PySem.W.nsIn K mainGlobals x = some (some (.str z t))
theorem DefM.mk_ {K : PySem.W.Frag} {h : Heap} {mg : Str → Option Value} {x : Str} {st : Stmt} (X : K.In h) (G : h.Ns mainGlobals mg) (d : DefM K x st) : Def K mg x st := by
  obtain ⟨f, oc, od, an, sl, kV, dc, pm, cd, ct, a, l, c, k⟩ := d
  exact ⟨f, _, fun_mk (st := st) l c k, PySem.W.mg_of X G a⟩
def spLaw (K : PySem.W.Frag) : Sp := fun vs H Q _ => ∃ (a : Addr) (ns : List Int), vs = [.ref a] ∧ SqL K H a (ns.map V.int) ∧ ns.length ≤ 63 ∧ ∀ H', Q (.bl true) H'
theorem spLaw_spA (K : PySem.W.Frag) (C : Addr) (vs : List V) (H : Hp) (Q : VK) (E : XK) (h : spLaw K vs H Q E) : spA K C F_law vs H Q E := by
  obtain ⟨a, ns, rfl, hS, hl, q⟩ := h
  refine ⟨H, fun _ => none, [.sc ns], fun av _ => av = .d (.bool true), ⟨Ex.refl H, nofun⟩, .cons ⟨a, rfl, hS⟩ .nil, ⟨ns, rfl, hl, fun _ => rfl⟩, fun v av G' L' H' _ _ r p => ?_⟩
  subst p
  have r : Dv G' v (.bool true) := r
  cases r
  exact q H'
theorem all_mk {l : PySem.W.OpenLaw} {w : World} {K : PySem.W.Frag} {h : Heap} {mg : Str → Option Value} {fa C fI : Addr} (X : K.In h) (G : h.Ns mainGlobals mg) (hfa : mg "law" = some (.ref fa))
    {oc : Value} {od an : Option Addr} {sl : Array (Option Value)} {kV dc pm cd ct : Value}
    (aC : PySem.W.nsIn K mainGlobals "Plan" = some (some (.ref C)))
    (a1 : PySem.W.findIn K (.ref C) "__init__" = some (some (.ref fI))) (i1 : PySem.W.isFn K (.ref fI) = true) (l1 : K.lookup fI = some ⟨oc, od, .func (PySem.W.fnOf "__init__" "Plan.__init__" (defArgs s_init) (defBody s_init) (defScope s_init) .none kV dc pm an cd ct), sl⟩) (c1 : PySem.W.codeIn K cd "Plan.__init__" = true) (k1 : PySem.W.keepIn K (.ref fI) = true)
    (pg : PySem.W.plainGet K C Str.empty = true) (hd : PySem.W.hasDictIn K C = true) (po : PySem.W.plainOver K C = true) (sa : PySem.W.findIn K (.ref C) "__setattr__" = some (some (.builtin "object.__setattr__"))) (mk : PySem.W.makesIn K C = true) (kc : PySem.W.keepIn K (.ref C) = true)
    (nPage : PySem.W.findIn K (.ref C) "kept_page" = some none) (nParts : PySem.W.findIn K (.ref C) "kept_parts" = some none)
    (tL : StrM K "LETTERS" LET) (tR : TupM K "RIGHTS" RIGHTSV) (tA : TupM K "ALIGNS" ALIGNSV) (tP : TupM K "PAGES" PAGESV)
    (z_isinstance : PySem.W.nsIn K mainGlobals "isinstance" = some none)
    (z_len : PySem.W.nsIn K mainGlobals "len" = some none)
    (z_int : PySem.W.nsIn K mainGlobals "int" = some none)
    (z_bool : PySem.W.nsIn K mainGlobals "bool" = some none)
    (z_str : PySem.W.nsIn K mainGlobals "str" = some none)
    (z_list : PySem.W.nsIn K mainGlobals "list" = some none)
    (z_tuple : PySem.W.nsIn K mainGlobals "tuple" = some none)
    (z_dict : PySem.W.nsIn K mainGlobals "dict" = some none)
    (z_min : PySem.W.nsIn K mainGlobals "min" = some none)
    (z_sum : PySem.W.nsIn K mainGlobals "sum" = some none)
    (z_all : PySem.W.nsIn K mainGlobals "all" = some none)
    (z_any : PySem.W.nsIn K mainGlobals "any" = some none)
    (z_sorted : PySem.W.nsIn K mainGlobals "sorted" = some none)
    (z_range : PySem.W.nsIn K mainGlobals "range" = some none)
    (z_enumerate : PySem.W.nsIn K mainGlobals "enumerate" = some none)
    (z_zip : PySem.W.nsIn K mainGlobals "zip" = some none)
    (d_is_integer : DefM K "is_integer" s_is_integer)
    (d_is_natural : DefM K "is_natural" s_is_natural)
    (d_is_list : DefM K "is_list" s_is_list)
    (d_is_word : DefM K "is_word" s_is_word)
    (d_is_part : DefM K "is_part" s_is_part)
    (d_lifted : DefM K "lifted" s_lifted)
    (d_lowest : DefM K "lowest" s_lowest)
    (d_earliest_of : DefM K "earliest_of" s_earliest_of)
    (d_checked_sizes : DefM K "checked_sizes" s_checked_sizes)
    (d_pages_up_to : DefM K "pages_up_to" s_pages_up_to)
    (d_end_of_run : DefM K "end_of_run" s_end_of_run)
    (d_leasts : DefM K "leasts" s_leasts)
    (d_mosts : DefM K "mosts" s_mosts)
    (d_number_of : DefM K "number_of" s_number_of)
    (d_all_orders : DefM K "all_orders" s_all_orders)
    (d_law_orders : DefM K "_law_orders" s_law_orders)
    (d_rows_between : DefM K "rows_between" s_rows_between)
    (d_law_rows : DefM K "_law_rows" s_law_rows)
    (d_is_within : DefM K "is_within" s_is_within)
    (d_law_is_below : DefM K "_law_is_below" s_law_is_below)
    (d_law_all_sizes : DefM K "_law_all_sizes" s_law_all_sizes)
    (d_least_rows : DefM K "least_rows" s_least_rows)
    (d_steady : DefM K "steady" s_steady)
    (d_least_moves : DefM K "least_moves" s_least_moves)
    (d_runs_of : DefM K "runs_of" s_runs_of)
    (d_best_of_run : DefM K "best_of_run" s_best_of_run)
    (d_best_order : DefM K "best_order" s_best_order)
    (d_law_whole_orders : DefM K "_law_whole_orders" s_law_whole_orders)
    (d_law_source : DefM K "_law_source" s_law_source)
    (d_law_draw : DefM K "_law_draw" s_law_draw)
    (d_law_pick : DefM K "_law_pick" s_law_pick)
    (d_law_mixed : DefM K "_law_mixed" s_law_mixed)
    (d_law_some_sizes : DefM K "_law_some_sizes" s_law_some_sizes)
    (d_law_lowest : DefM K "_law_lowest" s_law_lowest)
    (d_law_addresses : DefM K "_law_addresses" s_law_addresses)
    (d_law_end : DefM K "_law_end" s_law_end)
    (d_law_loose : DefM K "_law_loose" s_law_loose)
    (d_law_same : DefM K "_law_same" s_law_same)
    (d_law_parts : DefM K "_law_parts" s_law_parts)
    (d_law_few : DefM K "_law_few" s_law_few)
    (d_law_moves_right : DefM K "_law_moves_right" s_law_moves_right)
    (d_law : DefM K "law" s_law) :
    ∃ fd : FuncData, (∀ (s : Shared) (v : Value), BindsTo s fd ⟨[v], []⟩ [("_law_script", v)]) ∧ ∀ base : Heap, K.In base → base.Ns mainGlobals mg → FnOk l.prog w K mg base CX0 9 fa fd ["_law_script"] (spLaw K) := by
  obtain ⟨tk, eL⟩ := tL
  obtain ⟨aR, odR, slR, itsR, nR, eR, lR, zR, vR⟩ := tR
  obtain ⟨aA, odA, slA, itsA, nA, eA, lA, zA, vA⟩ := tA
  obtain ⟨aP, odP, slP, itsP, nP, eP, lP, zP, vP⟩ := tP
  obtain ⟨f, oc', od', an', sl', kV', dc', pm', cd', ct', a, l', c, k⟩ := d_law
  have e := hfa.symm.trans (PySem.W.mg_of X G a)
  cases e
  have T : Txt K mg C tk aR aA aP := { cl := ⟨pg, hd, po, sa⟩, nPage := nPage, nParts := nParts, isi := PySem.W.mg_none_of X G z_isinstance, len_ := PySem.W.mg_none_of X G z_len, int_ := PySem.W.mg_none_of X G z_int, bool_ := PySem.W.mg_none_of X G z_bool, str_ := PySem.W.mg_none_of X G z_str, list_ := PySem.W.mg_none_of X G z_list, tuple_ := PySem.W.mg_none_of X G z_tuple, dict_ := PySem.W.mg_none_of X G z_dict, min_ := PySem.W.mg_none_of X G z_min, sum_ := PySem.W.mg_none_of X G z_sum, all_ := PySem.W.mg_none_of X G z_all, any_ := PySem.W.mg_none_of X G z_any, sorted_ := PySem.W.mg_none_of X G z_sorted, range_ := PySem.W.mg_none_of X G z_range, enumerate_ := PySem.W.mg_none_of X G z_enumerate, zip_ := PySem.W.mg_none_of X G z_zip, letters := PySem.W.mg_of X G eL, rights := PySem.W.mg_of X G eR, aligns := PySem.W.mg_of X G eA, pages := PySem.W.mg_of X G eP, rightsQ := fun _ => .inr ⟨_, itsR, nR, lR, rfl, rfl, zR, vR⟩, alignsQ := fun _ => .inr ⟨_, itsA, nA, lA, rfl, rfl, zA, vA⟩, pagesQ := fun _ => .inr ⟨_, itsP, nP, lP, rfl, rfl, zP, vP⟩ }
  have FI := fun_mk (st := s_init) l1 c1 k1
  have bI := FI.binds (ps := ["self", "page", "parts"]) fun _ _ _ _ _ _ us hl => match us, hl with | [_, _, _], _ => rfl
  have D_is_integer := d_is_integer.mk_ X G
  have D_is_natural := d_is_natural.mk_ X G
  have D_is_list := d_is_list.mk_ X G
  have D_is_word := d_is_word.mk_ X G
  have D_is_part := d_is_part.mk_ X G
  have D_lifted := d_lifted.mk_ X G
  have D_lowest := d_lowest.mk_ X G
  have D_earliest_of := d_earliest_of.mk_ X G
  have D_checked_sizes := d_checked_sizes.mk_ X G
  have D_pages_up_to := d_pages_up_to.mk_ X G
  have D_end_of_run := d_end_of_run.mk_ X G
  have D_leasts := d_leasts.mk_ X G
  have D_mosts := d_mosts.mk_ X G
  have D_number_of := d_number_of.mk_ X G
  have D_all_orders := d_all_orders.mk_ X G
  have D_law_orders := d_law_orders.mk_ X G
  have D_rows_between := d_rows_between.mk_ X G
  have D_law_rows := d_law_rows.mk_ X G
  have D_is_within := d_is_within.mk_ X G
  have D_law_is_below := d_law_is_below.mk_ X G
  have D_law_all_sizes := d_law_all_sizes.mk_ X G
  have D_least_rows := d_least_rows.mk_ X G
  have D_steady := d_steady.mk_ X G
  have D_least_moves := d_least_moves.mk_ X G
  have D_runs_of := d_runs_of.mk_ X G
  have D_best_of_run := d_best_of_run.mk_ X G
  have D_best_order := d_best_order.mk_ X G
  have D_law_whole_orders := d_law_whole_orders.mk_ X G
  have D_law_source := d_law_source.mk_ X G
  have D_law_draw := d_law_draw.mk_ X G
  have D_law_pick := d_law_pick.mk_ X G
  have D_law_mixed := d_law_mixed.mk_ X G
  have D_law_some_sizes := d_law_some_sizes.mk_ X G
  have D_law_lowest := d_law_lowest.mk_ X G
  have D_law_addresses := d_law_addresses.mk_ X G
  have D_law_end := d_law_end.mk_ X G
  have D_law_loose := d_law_loose.mk_ X G
  have D_law_same := d_law_same.mk_ X G
  have D_law_parts := d_law_parts.mk_ X G
  have D_law_few := d_law_few.mk_ X G
  have D_law_moves_right := d_law_moves_right.mk_ X G
  refine ⟨PySem.W.fnOf "law" "law" (defArgs s_law) (defBody s_law) (defScope s_law) .none kV' dc' pm' an' cd' ct', fun s v => .of_eq rfl, fun base _ _ => ?_⟩
  have G_is_integer := ok_is_integer (P := l.prog) (w := w) (base := base) (C := C) T D_is_integer 
  have G_is_natural := ok_is_natural (P := l.prog) (w := w) (base := base) (C := C) T D_is_natural G_is_integer
  have G_is_list := ok_is_list (P := l.prog) (w := w) (base := base) (C := C) T D_is_list 
  have G_is_word := ok_is_word (P := l.prog) (w := w) (base := base) (C := C) T D_is_word 
  have G_is_part := ok_is_part (P := l.prog) (w := w) (base := base) (C := C) T D_is_part G_is_integer G_is_natural G_is_list G_is_word
  have G_lifted := ok_lifted (P := l.prog) (w := w) (base := base) (C := C) D_lifted 
  have G_lowest := ok_lowest (P := l.prog) (w := w) (base := base) (C := C) T D_lowest G_lifted
  have G_earliest_of := ok_earliest_of (P := l.prog) (w := w) (base := base) (C := C) T D_earliest_of G_lifted G_lowest
  have G_checked_sizes := ok_checked_sizes (P := l.prog) (w := w) (base := base) (C := C) T D_checked_sizes G_is_integer G_is_list
  have G_pages_up_to := ok_pages_up_to (P := l.prog) (w := w) (base := base) (C := C) T D_pages_up_to G_lifted
  have G_end_of_run := ok_end_of_run (P := l.prog) (w := w) (base := base) (C := C) T D_end_of_run G_lifted
  have G_leasts := ok_leasts (P := l.prog) (w := w) (base := base) (C := C) T D_leasts 
  have G_mosts := ok_mosts (P := l.prog) (w := w) (base := base) (C := C) T D_mosts 
  have G_number_of := ok_number_of (P := l.prog) (w := w) (base := base) (C := C) T D_number_of G_is_word
  have G_all_orders := ok_all_orders (P := l.prog) (w := w) (base := base) (C := C) T D_all_orders 5 (by decide)
  have G_law_orders := ok_law_orders (P := l.prog) (w := w) (base := base) (C := C) T D_law_orders 5 (by decide)
  have G_rows_between := ok_rows_between (P := l.prog) (w := w) (base := base) (C := C) T D_rows_between 
  have G_law_rows := ok_law_rows (P := l.prog) (w := w) (base := base) (C := C) T D_law_rows 
  have G_is_within := ok_is_within (P := l.prog) (w := w) (base := base) (C := C) T D_is_within 
  have G_law_is_below := ok_law_is_below (P := l.prog) (w := w) (base := base) (C := C) T D_law_is_below 
  have G_law_all_sizes := ok_law_all_sizes (P := l.prog) (w := w) (base := base) (C := C) T D_law_all_sizes G_law_rows
  have G_least_rows := ok_least_rows (P := l.prog) (w := w) (base := base) (C := C) T D_least_rows G_is_within
  have G_steady := ok_steady (P := l.prog) (w := w) (base := base) (C := C) T D_steady G_leasts G_mosts G_earliest_of
  have G_least_moves := ok_least_moves (P := l.prog) (w := w) (base := base) (C := C) T D_least_moves G_leasts G_mosts G_earliest_of G_number_of G_rows_between G_least_rows
  have G_runs_of := ok_runs_of (P := l.prog) (w := w) (base := base) (C := C) T D_runs_of 
  have G_best_of_run := ok_best_of_run (P := l.prog) (w := w) (base := base) (C := C) T D_best_of_run G_all_orders G_end_of_run G_pages_up_to
  have G_best_order := ok_best_order (P := l.prog) (w := w) (base := base) (C := C) T D_best_order G_checked_sizes G_runs_of G_best_of_run
  have G_law_whole_orders := ok_law_whole_orders (P := l.prog) (w := w) (base := base) (C := C) T D_law_whole_orders G_law_orders
  have G_law_source := ok_law_source (P := l.prog) (w := w) (base := base) (C := C) T D_law_source 
  have G_law_draw := ok_law_draw (P := l.prog) (w := w) (base := base) (C := C) T D_law_draw 
  have G_law_pick := ok_law_pick (P := l.prog) (w := w) (base := base) (C := C) T D_law_pick G_law_draw
  have G_law_mixed := ok_law_mixed (P := l.prog) (w := w) (base := base) (C := C) T D_law_mixed G_law_draw
  have G_law_some_sizes := ok_law_some_sizes (P := l.prog) (w := w) (base := base) (C := C) T D_law_some_sizes G_law_draw
  have G_law_lowest := ok_law_lowest (P := l.prog) (w := w) (base := base) (C := C) T D_law_lowest 
  have G_law_addresses := ok_law_addresses (P := l.prog) (w := w) (base := base) (C := C) T D_law_addresses G_law_lowest
  have G_law_end := ok_law_end (P := l.prog) (w := w) (base := base) (C := C) T D_law_end G_law_addresses
  have G_law_loose0 := ok_loose0 (P := l.prog) (w := w) (base := base) (C := C) T D_law_loose
  have G_law_loose := ok_loose (P := l.prog) (w := w) (base := base) (C := C) T D_law_loose G_law_draw G_law_loose0
  have G_same0 := ok_same0 (P := l.prog) (w := w) (base := base) (C := C) T D_law_same
  have G_same1 := ok_sameS (P := l.prog) (w := w) (base := base) (C := C) T D_law_same 0 G_same0
  have G_law_same := ok_sameS (P := l.prog) (w := w) (base := base) (C := C) T D_law_same 1 G_same1
  have G_law_parts := ok_law_parts (P := l.prog) (w := w) (base := base) (C := C) T D_law_parts G_law_draw G_law_pick G_law_mixed
  have G_law_few := ok_law_few (P := l.prog) (w := w) (base := base) (C := C) T D_law_few G_law_draw G_law_pick G_law_parts
  have G_init := ok_init (P := l.prog) (w := w) (base := base) (C := C) FI T G_is_integer G_is_list G_is_part
  have G_law_moves_right := ok_law_moves_right (P := l.prog) (w := w) (base := base) (C := C) T D_law_moves_right G_law_addresses G_law_is_below G_law_same G_least_moves G_steady
  exact (ok_law (P := l.prog) (w := w) (base := base) (fun_mk (st := s_law) l' c k) T ⟨mk, a1, i1, kc⟩ G_init bI (PySem.W.mg_of X G aC) G_law_source G_law_few G_law_some_sizes G_law_moves_right G_law_all_sizes G_law_whole_orders G_law_end G_law_same G_best_order G_law_loose).imp (spLaw_spA K C)
theorem walk {l : PySem.W.OpenLaw} {q : Program} {loose : List Str} {XP : (Str → Option Value) → Heap → Prop} {YP : World → Heap → Prop} {d : DefRec} {K : Params → PySem.W.Frag} (hn : l.most = some 63) (hdf : d.params.defaults = [])
    (hY : ∀ (w : World) (h : Heap), YP w h → (K w.params).In h)
    (F : ∀ (w : World) (mg : Str → Option Value) (fa : Addr) (h : Heap), (K w.params).In h → h.Ns mainGlobals mg → mg d.name = some (.ref fa) →
      ∃ fd : FuncData, (∀ (s : Shared) (u : Value), BindsTo s fd ⟨[u], []⟩ [("_law_script", u)]) ∧ ∀ base : Heap, (K w.params).In base → base.Ns mainGlobals mg → FnOk l.prog w (K w.params) mg base CX0 9 fa fd ["_law_script"] (spLaw (K w.params))) :
    PySem.W.WalkO q loose XP YP l.row.toRowW d [] (fun f vs => PySem.call f vs) :=
  L2.walk_of (n := 63) (k := 9) (x := "_law_script") (CX := fun _ => CX0) (sp := fun w => spLaw (K w.params)) hn (by decide) hdf ⟨rfl, by decide, by decide⟩ hY F (fun _ _ a ns hl _ hS => ⟨a, ns, rfl, hS, hl, fun _ => rfl⟩) fun _ _ _ _ _ z => z
end VS

open PySem PySem.W PyProof.Rows
set_option Elab.async false
set_option maxRecDepth 100000 in
set_option maxHeartbeats 0 in
theorem PySem.Challenge.cw_linklines_k71_whole_what_stays_and_order_holds : PySem.Challenge.rw_linklines_k71_whole_what_stays_and_order.Holds := by
  w_on; o_law; k_head; (case hw => w_witness2)
  k_fill
  refine VS.walk (l := PySem.Challenge.rw_linklines_k71_whole_what_stays_and_order) rfl rfl (fun w h Y => PySem.W.kIn_of Y) ?F
  case F =>
    intro w mg fa h KX G hmg
    refine' VS.all_mk KX G hmg ?aC ?a1 ?i1 ?l1 ?c1 ?k1 ?pg ?hd ?po ?sa ?mk ?kc ?nPage ?nParts ?tL ?tR ?tA ?tP ?z_isinstance ?z_len ?z_int ?z_bool ?z_str ?z_list ?z_tuple ?z_dict ?z_min ?z_sum ?z_all ?z_any ?z_sorted ?z_range ?z_enumerate ?z_zip ?d_is_integer ?d_is_natural ?d_is_list ?d_is_word ?d_is_part ?d_lifted ?d_lowest ?d_earliest_of ?d_checked_sizes ?d_pages_up_to ?d_end_of_run ?d_leasts ?d_mosts ?d_number_of ?d_all_orders ?d_law_orders ?d_rows_between ?d_law_rows ?d_is_within ?d_law_is_below ?d_law_all_sizes ?d_least_rows ?d_steady ?d_least_moves ?d_runs_of ?d_best_of_run ?d_best_order ?d_law_whole_orders ?d_law_source ?d_law_draw ?d_law_pick ?d_law_mixed ?d_law_some_sizes ?d_law_lowest ?d_law_addresses ?d_law_end ?d_law_loose ?d_law_same ?d_law_parts ?d_law_few ?d_law_moves_right ?d_law
    (case aC => k_is)
    (case a1 => k_is)
    (case i1 => k_is)
    (case l1 => k_is)
    (case c1 => k_is)
    (case k1 => k_is)
    (case pg => k_is)
    (case hd => k_is)
    (case po => k_is)
    (case sa => k_is)
    (case mk => k_is)
    (case kc => k_is)
    (case nPage => k_is)
    (case nParts => k_is)
    (case z_isinstance => k_is)
    (case z_len => k_is)
    (case z_int => k_is)
    (case z_bool => k_is)
    (case z_str => k_is)
    (case z_list => k_is)
    (case z_tuple => k_is)
    (case z_dict => k_is)
    (case z_min => k_is)
    (case z_sum => k_is)
    (case z_all => k_is)
    (case z_any => k_is)
    (case z_sorted => k_is)
    (case z_range => k_is)
    (case z_enumerate => k_is)
    (case z_zip => k_is)
    (case tL => exact ⟨_, by k_is⟩)
    (case tR => exact ⟨_, _, _, _, _, by k_is, by k_is, by exact Nat.le_of_ble_eq_true rfl, by repeat (first | exact .nil | refine .cons ⟨_, rfl⟩ ?_)⟩)
    (case tA => exact ⟨_, _, _, _, _, by k_is, by k_is, by exact Nat.le_of_ble_eq_true rfl, by repeat (first | exact .nil | refine .cons ⟨_, rfl⟩ ?_)⟩)
    (case tP => exact ⟨_, _, _, _, _, by k_is, by k_is, by exact Nat.le_of_ble_eq_true rfl, by repeat (first | exact .nil | refine .cons ⟨_, rfl⟩ ?_)⟩)
    (case d_is_integer => exact ⟨_, _, _, _, _, _, _, _, _, _, by k_is, by k_is, by k_is, by k_is⟩)
    (case d_is_natural => exact ⟨_, _, _, _, _, _, _, _, _, _, by k_is, by k_is, by k_is, by k_is⟩)
    (case d_is_list => exact ⟨_, _, _, _, _, _, _, _, _, _, by k_is, by k_is, by k_is, by k_is⟩)
    (case d_is_word => exact ⟨_, _, _, _, _, _, _, _, _, _, by k_is, by k_is, by k_is, by k_is⟩)
    (case d_is_part => exact ⟨_, _, _, _, _, _, _, _, _, _, by k_is, by k_is, by k_is, by k_is⟩)
    (case d_lifted => exact ⟨_, _, _, _, _, _, _, _, _, _, by k_is, by k_is, by k_is, by k_is⟩)
    (case d_lowest => exact ⟨_, _, _, _, _, _, _, _, _, _, by k_is, by k_is, by k_is, by k_is⟩)
    (case d_earliest_of => exact ⟨_, _, _, _, _, _, _, _, _, _, by k_is, by k_is, by k_is, by k_is⟩)
    (case d_checked_sizes => exact ⟨_, _, _, _, _, _, _, _, _, _, by k_is, by k_is, by k_is, by k_is⟩)
    (case d_pages_up_to => exact ⟨_, _, _, _, _, _, _, _, _, _, by k_is, by k_is, by k_is, by k_is⟩)
    (case d_end_of_run => exact ⟨_, _, _, _, _, _, _, _, _, _, by k_is, by k_is, by k_is, by k_is⟩)
    (case d_leasts => exact ⟨_, _, _, _, _, _, _, _, _, _, by k_is, by k_is, by k_is, by k_is⟩)
    (case d_mosts => exact ⟨_, _, _, _, _, _, _, _, _, _, by k_is, by k_is, by k_is, by k_is⟩)
    (case d_number_of => exact ⟨_, _, _, _, _, _, _, _, _, _, by k_is, by k_is, by k_is, by k_is⟩)
    (case d_all_orders => exact ⟨_, _, _, _, _, _, _, _, _, _, by k_is, by k_is, by k_is, by k_is⟩)
    (case d_law_orders => exact ⟨_, _, _, _, _, _, _, _, _, _, by k_is, by k_is, by k_is, by k_is⟩)
    (case d_rows_between => exact ⟨_, _, _, _, _, _, _, _, _, _, by k_is, by k_is, by k_is, by k_is⟩)
    (case d_law_rows => exact ⟨_, _, _, _, _, _, _, _, _, _, by k_is, by k_is, by k_is, by k_is⟩)
    (case d_is_within => exact ⟨_, _, _, _, _, _, _, _, _, _, by k_is, by k_is, by k_is, by k_is⟩)
    (case d_law_is_below => exact ⟨_, _, _, _, _, _, _, _, _, _, by k_is, by k_is, by k_is, by k_is⟩)
    (case d_law_all_sizes => exact ⟨_, _, _, _, _, _, _, _, _, _, by k_is, by k_is, by k_is, by k_is⟩)
    (case d_least_rows => exact ⟨_, _, _, _, _, _, _, _, _, _, by k_is, by k_is, by k_is, by k_is⟩)
    (case d_steady => exact ⟨_, _, _, _, _, _, _, _, _, _, by k_is, by k_is, by k_is, by k_is⟩)
    (case d_least_moves => exact ⟨_, _, _, _, _, _, _, _, _, _, by k_is, by k_is, by k_is, by k_is⟩)
    (case d_runs_of => exact ⟨_, _, _, _, _, _, _, _, _, _, by k_is, by k_is, by k_is, by k_is⟩)
    (case d_best_of_run => exact ⟨_, _, _, _, _, _, _, _, _, _, by k_is, by k_is, by k_is, by k_is⟩)
    (case d_best_order => exact ⟨_, _, _, _, _, _, _, _, _, _, by k_is, by k_is, by k_is, by k_is⟩)
    (case d_law_whole_orders => exact ⟨_, _, _, _, _, _, _, _, _, _, by k_is, by k_is, by k_is, by k_is⟩)
    (case d_law_source => exact ⟨_, _, _, _, _, _, _, _, _, _, by k_is, by k_is, by k_is, by k_is⟩)
    (case d_law_draw => exact ⟨_, _, _, _, _, _, _, _, _, _, by k_is, by k_is, by k_is, by k_is⟩)
    (case d_law_pick => exact ⟨_, _, _, _, _, _, _, _, _, _, by k_is, by k_is, by k_is, by k_is⟩)
    (case d_law_mixed => exact ⟨_, _, _, _, _, _, _, _, _, _, by k_is, by k_is, by k_is, by k_is⟩)
    (case d_law_some_sizes => exact ⟨_, _, _, _, _, _, _, _, _, _, by k_is, by k_is, by k_is, by k_is⟩)
    (case d_law_lowest => exact ⟨_, _, _, _, _, _, _, _, _, _, by k_is, by k_is, by k_is, by k_is⟩)
    (case d_law_addresses => exact ⟨_, _, _, _, _, _, _, _, _, _, by k_is, by k_is, by k_is, by k_is⟩)
    (case d_law_end => exact ⟨_, _, _, _, _, _, _, _, _, _, by k_is, by k_is, by k_is, by k_is⟩)
    (case d_law_loose => exact ⟨_, _, _, _, _, _, _, _, _, _, by k_is, by k_is, by k_is, by k_is⟩)
    (case d_law_same => exact ⟨_, _, _, _, _, _, _, _, _, _, by k_is, by k_is, by k_is, by k_is⟩)
    (case d_law_parts => exact ⟨_, _, _, _, _, _, _, _, _, _, by k_is, by k_is, by k_is, by k_is⟩)
    (case d_law_few => exact ⟨_, _, _, _, _, _, _, _, _, _, by k_is, by k_is, by k_is, by k_is⟩)
    (case d_law_moves_right => exact ⟨_, _, _, _, _, _, _, _, _, _, by k_is, by k_is, by k_is, by k_is⟩)
    (case d_law => exact ⟨_, _, _, _, _, _, _, _, _, _, by k_is, by k_is, by k_is, by k_is⟩)

