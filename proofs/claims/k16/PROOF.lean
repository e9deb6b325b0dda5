import PyProof.Rows.All
import HandS.ForMost
import HandS.ForExc
import HandS.Evl
import HandS.IsInst
import HandS.Style
import HandS.TupMul
import HandS.TupAny
import HandS.Wide
import HandS.TupLe
import HandS.Zip
import KE.DatumOrd
import PyProof.ReprRoads
import PyProof.Rows.ReprR
import HandS.Flow
import HandS.HeadHook2
import PySem.Challenge.RW_tunehouse_k16_whole_two_lines_below_a_gi
set_option Elab.async false
set_option linter.all false
set_option maxRecDepth 100000
set_option maxHeartbeats 4000000
namespace Pl
open PySem PySem.Spec PyProof.Rows L2
open Evl (Ex ex_t ex_l)

/-! frozen data -/
mutual
inductive Is (K : PySem.W.Frag) (H : Hp) : V → PyData → Prop
  | non : Is K H .non .none
  | bl (b : Bool) : Is K H (.bl b) (.bool b)
  | int (i : Int) : Is K H (.int i) (.int i)
  | str (x : Str) : Is K H (.str x) (.str x)
  | lst {a : Addr} {xs : List V} {ds : List PyData} : SqL K H a xs → IsAll K H xs ds → Is K H (.ref a) (.list ds)
  | tup {a : Addr} {xs : List V} {ds : List PyData} : SqT K H a xs → IsAll K H xs ds → Is K H (.ref a) (.tuple ds)
inductive IsAll (K : PySem.W.Frag) (H : Hp) : List V → List PyData → Prop
  | nil : IsAll K H [] []
  | cons {v : V} {vs : List V} {d : PyData} {ds : List PyData} : Is K H v d → IsAll K H vs ds → IsAll K H (v :: vs) (d :: ds)
end
section
variable {K : PySem.W.Frag} {G H H' : Hp}
mutual
theorem Is.mono (e : Ex H H') : ∀ {v : V} {d : PyData}, Is K H v d → Is K H' v d
  | _, _, .non => .non
  | _, _, .bl b => .bl b
  | _, _, .int i => .int i
  | _, _, .str x => .str x
  | _, _, .lst h t => .lst (ex_l e h) (IsAll.mono e t)
  | _, _, .tup h t => .tup (ex_t e h) (IsAll.mono e t)
theorem IsAll.mono (e : Ex H H') : ∀ {vs : List V} {ds : List PyData}, IsAll K H vs ds → IsAll K H' vs ds
  | _, _, .nil => .nil
  | _, _, .cons h t => .cons (Is.mono e h) (IsAll.mono e t)
end
mutual
theorem Is.dp : ∀ {v : V} {d : PyData}, Is K H v d → Dp K H v d
  | _, _, .non => .non
  | _, _, .bl b => .bl b
  | _, _, .int i => .int i
  | _, _, .str x => .str x
  | _, _, .lst h t => .lst h (IsAll.dp t)
  | _, _, .tup h t => .tup h (IsAll.dp t)
theorem IsAll.dp : ∀ {vs : List V} {ds : List PyData}, IsAll K H vs ds → DpAll K H vs ds
  | _, _, .nil => .nil
  | _, _, .cons h t => .cons (Is.dp h) (IsAll.dp t)
end
theorem IsAll.length : ∀ {vs : List V} {ds : List PyData}, IsAll K H vs ds → vs.length = ds.length
  | _, _, .nil => rfl
  | _, _, .cons _ t => congrArg (· + 1) (IsAll.length t)
theorem IsAll.get : ∀ {vs : List V} {ds : List PyData} {i : Nat} {d : PyData}, IsAll K H vs ds → ds[i]? = some d → ∃ v, vs[i]? = some v ∧ Is K H v d
  | _, _, _, _, .nil, e => by simp at e
  | _, _, 0, _, .cons h _, e => by
    simp at e
    subst e
    exact ⟨_, rfl, h⟩
  | _, _, i + 1, _, .cons _ t, e => by
    obtain ⟨v, h1, h2⟩ := IsAll.get (i := i) t (by simpa using e)
    exact ⟨v, by simpa using h1, h2⟩
theorem IsAll.get' : ∀ {vs : List V} {ds : List PyData} {i : Nat} {v : V}, IsAll K H vs ds → vs[i]? = some v → ∃ d, ds[i]? = some d ∧ Is K H v d
  | _, _, _, _, .nil, e => by simp at e
  | _, _, 0, _, .cons h _, e => by
    simp at e
    subst e
    exact ⟨_, rfl, h⟩
  | _, _, i + 1, _, .cons _ t, e => by
    obtain ⟨v, h1, h2⟩ := IsAll.get' (i := i) t (by simpa using e)
    exact ⟨v, by simpa using h1, h2⟩
theorem IsAll.app : ∀ {vs ws : List V} {ds es : List PyData}, IsAll K H vs ds → IsAll K H ws es → IsAll K H (vs ++ ws) (ds ++ es)
  | _, _, _, _, .nil, t => t
  | _, _, _, _, .cons h r, t => .cons h (IsAll.app r t)
theorem IsAll.snoc {vs : List V} {ds : List PyData} {v : V} {d : PyData} (h : IsAll K H vs ds) (t : Is K H v d) : IsAll K H (vs ++ [v]) (ds ++ [d]) := h.app (.cons t .nil)
theorem IsAll.set : ∀ {vs : List V} {ds : List PyData} {v : V} {d : PyData} (i : Nat), IsAll K H vs ds → Is K H v d → IsAll K H (vs.set i v) (ds.set i d)
  | _, _, _, _, _, .nil, _ => .nil
  | _, _, _, _, 0, .cons _ r, t => .cons t r
  | _, _, _, _, i + 1, .cons h r, t => .cons h (IsAll.set i r t)
theorem IsAll.drop : ∀ {vs : List V} {ds : List PyData} (i : Nat), IsAll K H vs ds → IsAll K H (vs.drop i) (ds.drop i)
  | _, _, 0, t => t
  | _, _, _ + 1, .nil => .nil
  | _, _, i + 1, .cons _ r => IsAll.drop i r
theorem IsAll.take : ∀ {vs : List V} {ds : List PyData} (i : Nat), IsAll K H vs ds → IsAll K H (vs.take i) (ds.take i)
  | _, _, 0, _ => .nil
  | _, _, _ + 1, .nil => .nil
  | _, _, i + 1, .cons h r => .cons h (IsAll.take i r)
theorem IsAll.dropLast {vs : List V} {ds : List PyData} (h : IsAll K H vs ds) : IsAll K H vs.dropLast ds.dropLast := by
  rw [List.dropLast_eq_take, List.dropLast_eq_take, h.length]
  exact h.take _
theorem IsAll.rep {vs : List V} {ds : List PyData} (h : IsAll K H vs ds) : ∀ k : Nat, IsAll K H (List.replicate k vs).flatten (List.replicate k ds).flatten
  | 0 => .nil
  | k + 1 => by
    rw [List.replicate_succ, List.replicate_succ, List.flatten_cons, List.flatten_cons]
    exact h.app (IsAll.rep h k)
theorem IsAll.ints : ∀ {vs : List V} {ns : List Int}, IsAll K H vs (ns.map PyData.int) → vs = ns.map V.int
  | _, [], h => by
    cases h
    rfl
  | _, n :: ns, h => by
    rw [List.map_cons] at h
    cases h with
    | cons h1 h2 =>
      cases h1
      rw [IsAll.ints h2, List.map_cons]
theorem IsAll.bls : ∀ {vs : List V} {ns : List Bool}, IsAll K H vs (ns.map PyData.bool) → vs = ns.map V.bl
  | _, [], h => by
    cases h
    rfl
  | _, n :: ns, h => by
    rw [List.map_cons] at h
    cases h with
    | cons h1 h2 =>
      cases h1
      rw [IsAll.bls h2, List.map_cons]
theorem IsAll.of_ints : ∀ ns : List Int, IsAll K H (ns.map V.int) (ns.map PyData.int)
  | [] => .nil
  | n :: ns => .cons (.int n) (IsAll.of_ints ns)
end

/-! growth without change -/
structure PSt (G H G' H' : Hp) : Prop where
  gg : Ex G G'
  hh : Ex H H'
  gh : Ex G' H'
  fr : ∀ a, G a = none → H a ≠ none → G' a = none
theorem PSt.refl {G H : Hp} (e : Ex G H) : PSt G H G H := ⟨Ex.refl G, Ex.refl H, e, fun _ h _ => h⟩
theorem PSt.trans {G H G1 H1 G2 H2 : Hp} (a : PSt G H G1 H1) (b : PSt G1 H1 G2 H2) : PSt G H G2 H2 :=
  ⟨a.gg.trans b.gg, a.hh.trans b.hh, b.gh, fun x h1 h2 => b.fr x (a.fr x h1 h2) fun z => by
    cases e : H x with
    | none => exact h2 e
    | some o =>
      rw [a.hh x o e] at z
      cases z⟩
theorem no_of {G H : Hp} (e : Ex G H) {p : Addr} (h : H p = none) : G p = none := by
  cases q : G p with
  | none => rfl
  | some o =>
    rw [e p o q] at h
    cases h
theorem ex_upd {G H : Hp} {p : Addr} {o : HO} (e : Ex G H) (h : G p = none) : Ex (upd G p o) (upd H p o) := fun a u q => by
  by_cases hp : a = p
  · subst hp
    rw [upd_same] at q ⊢
    exact q
  · rw [upd_ne hp] at q ⊢
    exact e a u q
theorem PSt.new {G H : Hp} {p : Addr} {o : HO} (e : Ex G H) (h : H p = none) : PSt G H (upd G p o) (upd H p o) :=
  ⟨Ex.new (no_of e h), Ex.new h, ex_upd e (no_of e h), fun a h1 h2 => by
    rw [upd_ne fun z => h2 (by rw [z]; exact h)]
    exact h1⟩
/-- something new that is not frozen -/
theorem PSt.newH {G H : Hp} {p : Addr} {o : HO} (e : Ex G H) (h : H p = none) : PSt G H G (upd H p o) :=
  ⟨Ex.refl G, Ex.new h, e.trans (Ex.new h), fun a h1 _ => h1⟩

/-! slots -/
/-- what is said of an own thing: of its address, its content, over what is frozen -/
structure Ow where
  p : PySem.W.Frag → Hp → Addr → HO → Prop
  up : ∀ {K : PySem.W.Frag} {G G' : Hp} {a : Addr} {o : HO}, Ex G G' → p K G a o → p K G' a o
inductive Sl where
  | un
  | dat (d : PyData)
  | lst (a : Addr) (ds : List PyData)
  | obj (a : Addr) (o : Ow)
def Sl.own : Sl → Option Addr
  | .un => none
  | .dat _ => none
  | .lst a _ => some a
  | .obj a _ => some a
abbrev Rho := List Sl
def OwnAt (ρ : Rho) (i : Nat) (a : Addr) : Prop := ∃ s, ρ[i]? = some s ∧ s.own = some a
def Own (ρ : Rho) (a : Addr) : Prop := ∃ i, OwnAt ρ i a
def SlOk (K : PySem.W.Frag) (σ : L2.St) (G H : Hp) (i : Nat) : Sl → Prop
  | .un => True
  | .dat d => ∃ v, σ[i]? = some (some v) ∧ Is K G v d
  | .lst a ds => σ[i]? = some (some (.ref a)) ∧ G a = none ∧ ∃ vs, H a = some (.lst vs) ∧ IsAll K G vs ds
  | .obj a o => σ[i]? = some (some (.ref a)) ∧ G a = none ∧ ∃ u, H a = some u ∧ o.p K G a u
structure Rel (K : PySem.W.Frag) (ρ : Rho) (σ : L2.St) (G H : Hp) : Prop where
  ex : Ex G H
  len : ρ.length = σ.length
  sl : ∀ i s, ρ[i]? = some s → SlOk K σ G H i s
  ds : ∀ i j a, OwnAt ρ i a → OwnAt ρ j a → i = j
structure Stp (ρ : Rho) (G H : Hp) (ρ' : Rho) (G' H' : Hp) : Prop where
  gg : Ex G G'
  fr : ∀ a, ¬ Own ρ a → G a = none → H a ≠ none → G' a = none
  kp : ∀ a o, ¬ Own ρ a → H a = some o → H' a = some o
  al : ∀ a, H a ≠ none → H' a ≠ none
  ow : ∀ a, Own ρ' a → Own ρ a ∨ H a = none
theorem Stp.refl {ρ : Rho} {G H : Hp} : Stp ρ G H ρ G H := ⟨Ex.refl G, fun _ _ h _ => h, fun _ _ _ h => h, fun _ h => h, fun _ h => .inl h⟩
theorem Stp.trans {ρ ρ1 ρ2 : Rho} {G H G1 H1 G2 H2 : Hp} (a : Stp ρ G H ρ1 G1 H1) (b : Stp ρ1 G1 H1 ρ2 G2 H2) : Stp ρ G H ρ2 G2 H2 := by
  have no : ∀ x, ¬ Own ρ x → H x ≠ none → ¬ Own ρ1 x := fun x h1 h2 z => by
    rcases a.ow x z with z | z
    · exact h1 z
    · exact h2 z
  refine ⟨a.gg.trans b.gg, fun x h1 h2 h3 => b.fr x (no x h1 h3) (a.fr x h1 h2 h3) (a.al x h3), fun x o h1 h2 => ?_, fun x h => b.al x (a.al x h), fun x h => ?_⟩
  · exact b.kp x o (no x h1 fun z => by rw [h2] at z; cases z) (a.kp x o h1 h2)
  · rcases b.ow x h with z | z
    · exact a.ow x z
    · refine .inr ?_
      cases e : H x with
      | none => rfl
      | some o => exact absurd z (a.al x fun q => by rw [e] at q; cases q)
theorem PSt.stp {ρ : Rho} {G H G' H' : Hp} (p : PSt G H G' H') : Stp ρ G H ρ G' H' :=
  ⟨p.gg, fun a _ h1 h2 => p.fr a h1 h2, fun a o _ h => p.hh a o h, (fun a h z => by
    cases e : H a with
    | none => exact h e
    | some o =>
      rw [p.hh a o e] at z
      cases z), fun _ h => .inl h⟩
section
variable {K : PySem.W.Frag} {ρ ρ' : Rho} {σ : L2.St} {G H G' H' : Hp}
theorem SlOk.pure {i : Nat} {s : Sl} (p : PSt G H G' H') (h : SlOk K σ G H i s) : SlOk K σ G' H' i s := by
  cases s with
  | un => trivial
  | dat d =>
    obtain ⟨v, e, h⟩ := h
    exact ⟨v, e, h.mono p.gg⟩
  | lst a ds =>
    obtain ⟨e, n, vs, h1, h2⟩ := h
    exact ⟨e, p.fr a n (by rw [h1]; exact nofun), vs, p.hh _ _ h1, h2.mono p.gg⟩
  | obj a o =>
    obtain ⟨e, n, u, h1, h2⟩ := h
    exact ⟨e, p.fr a n (by rw [h1]; exact nofun), u, p.hh _ _ h1, o.up p.gg h2⟩
theorem Rel.pure (r : Rel K ρ σ G H) (p : PSt G H G' H') : Rel K ρ σ G' H' := ⟨p.gh, r.len, fun i s e => (r.sl i s e).pure p, r.ds⟩
theorem Rel.ownH (r : Rel K ρ σ G H) {i : Nat} {a : Addr} (h : OwnAt ρ i a) : G a = none ∧ H a ≠ none ∧ σ[i]? = some (some (.ref a)) := by
  obtain ⟨s, e, h⟩ := h
  have q := r.sl i s e
  cases s with
  | un => cases h
  | dat d => cases h
  | lst b ds =>
    cases h
    obtain ⟨e, n, vs, h1, h2⟩ := q
    exact ⟨n, by rw [h1]; exact nofun, e⟩
  | obj b o =>
    cases h
    obtain ⟨e, n, u, h1, h2⟩ := q
    exact ⟨n, by rw [h1]; exact nofun, e⟩
theorem ownAt_set {s : Sl} {i j : Nat} {a : Addr} (h : OwnAt (ρ.set i s) j a) : (j = i ∧ s.own = some a) ∨ (j ≠ i ∧ OwnAt ρ j a) := by
  obtain ⟨t, e, h⟩ := h
  by_cases hj : j = i
  · subst hj
    by_cases hl : j < ρ.length
    · rw [List.getElem?_set_self hl] at e
      cases e
      exact .inl ⟨rfl, h⟩
    · rw [List.getElem?_eq_none (by rw [List.length_set]; omega)] at e
      cases e
  · rw [List.getElem?_set_ne (Ne.symm hj)] at e
    exact .inr ⟨hj, t, e, h⟩
theorem SlOk.slot {σ' : L2.St} {i : Nat} {s : Sl} (h : SlOk K σ G H i s) (e : σ'[i]? = σ[i]?) : SlOk K σ' G H i s := by
  cases s with
  | un => trivial
  | dat d =>
    obtain ⟨v, q, h⟩ := h
    exact ⟨v, e.trans q, h⟩
  | lst a ds =>
    obtain ⟨q, h⟩ := h
    exact ⟨e.trans q, h⟩
  | obj a o =>
    obtain ⟨q, h⟩ := h
    exact ⟨e.trans q, h⟩
/-- a slot set: s is in order at the new σ -/
theorem Rel.set {s : Sl} {i : Nat} {o : Option V} (r : Rel K ρ σ G H) (h : i < ρ.length → SlOk K (σ.set i o) G H i s) (hn : ∀ a, s.own = some a → ¬ Own ρ a) : Rel K (ρ.set i s) (σ.set i o) G H := by
  refine ⟨r.ex, by rw [List.length_set, List.length_set, r.len], fun j t e => ?_, fun j k a h1 h2 => ?_⟩
  · by_cases hj : j = i
    · subst hj
      by_cases hl : j < ρ.length
      · rw [List.getElem?_set_self hl] at e
        cases e
        exact h hl
      · rw [List.getElem?_eq_none (by rw [List.length_set]; omega)] at e
        cases e
    · rw [List.getElem?_set_ne (Ne.symm hj)] at e
      exact (r.sl j t e).slot (by rw [List.getElem?_set_ne (Ne.symm hj)])
  · rcases ownAt_set h1 with ⟨e1, q1⟩ | ⟨e1, q1⟩ <;> rcases ownAt_set h2 with ⟨e2, q2⟩ | ⟨e2, q2⟩
    · exact e1.trans e2.symm
    · exact absurd ⟨k, q2⟩ (hn a q1)
    · exact absurd ⟨j, q1⟩ (hn a q2)
    · exact r.ds j k a q1 q2
theorem Rel.dat {i : Nat} {v : V} {d : PyData} (r : Rel K ρ σ G H) (h : Is K G v d) : Rel K (ρ.set i (.dat d)) (σ.set i (some v)) G H :=
  r.set (fun hl => ⟨v, by rw [List.getElem?_set_self (by rw [← r.len]; exact hl)], h⟩) fun a z => by cases z
theorem own_dat {i : Nat} {d : PyData} {a : Addr} (h : Own (ρ.set i (.dat d)) a) : Own ρ a := by
  obtain ⟨j, h⟩ := h
  rcases ownAt_set h with ⟨_, q⟩ | ⟨_, q⟩
  · cases q
  · exact ⟨j, q⟩
theorem Stp.dat {i : Nat} {d : PyData} : Stp ρ G H (ρ.set i (.dat d)) G H := ⟨Ex.refl G, fun _ _ h _ => h, fun _ _ _ h => h, fun _ h => h, fun _ h => .inl (own_dat h)⟩
/-- an own list newly laid in a slot -/
theorem Rel.new {i : Nat} {a : Addr} {vs : List V} {ds : List PyData} (r : Rel K ρ σ G H) (hG : G a = none) (hH : H a = some (.lst vs)) (h : IsAll K G vs ds) (hn : ¬ Own ρ a) : Rel K (ρ.set i (.lst a ds)) (σ.set i (some (.ref a))) G H :=
  r.set (fun hl => ⟨by rw [List.getElem?_set_self (by rw [← r.len]; exact hl)], hG, vs, hH, h⟩) fun b z => by cases z; exact hn
/-- an own list changed -/
theorem Rel.upd {i : Nat} {a : Addr} {vs : List V} {ds es : List PyData} (r : Rel K ρ σ G H) (e : ρ[i]? = some (.lst a ds)) (h : IsAll K G vs es) : Rel K (ρ.set i (.lst a es)) σ G (upd H a (.lst vs)) := by
  have hi : i < ρ.length := (List.getElem?_eq_some_iff.mp e).1
  have own : OwnAt ρ i a := ⟨_, e, rfl⟩
  obtain ⟨nG, nH, eσ⟩ := r.ownH own
  refine ⟨Ex.mut r.ex nG, by rw [List.length_set, r.len], fun j t q => ?_, fun j k b h1 h2 => ?_⟩
  · by_cases hj : j = i
    · subst hj
      rw [List.getElem?_set_self hi] at q
      cases q
      exact ⟨eσ, nG, vs, upd_same, h⟩
    · rw [List.getElem?_set_ne (Ne.symm hj)] at q
      have z := r.sl j t q
      cases t with
      | un => trivial
      | dat d => exact z
      | lst b fs =>
        obtain ⟨z1, z2, ws, z3, z4⟩ := z
        exact ⟨z1, z2, ws, by rw [upd_ne fun y => hj (r.ds j i a ⟨_, q, by rw [← y]; rfl⟩ own)]; exact z3, z4⟩
      | obj b o =>
        obtain ⟨z1, z2, u, z3, z4⟩ := z
        exact ⟨z1, z2, u, by rw [upd_ne fun y => hj (r.ds j i a ⟨_, q, by rw [← y]; rfl⟩ own)]; exact z3, z4⟩
  · have back : ∀ j, OwnAt (ρ.set i (.lst a es)) j b → OwnAt ρ j b := fun j h => by
      rcases ownAt_set h with ⟨e1, q⟩ | ⟨_, q⟩
      · cases q
        rw [e1]
        exact own
      · exact q
    exact r.ds j k b (back j h1) (back k h2)
theorem Stp.upd {i : Nat} {a : Addr} {vs : List V} {ds es : List PyData} (e : ρ[i]? = some (.lst a ds)) : Stp ρ G H (ρ.set i (.lst a es)) G (upd H a (.lst vs)) := by
  have own : Own ρ a := ⟨i, _, e, rfl⟩
  refine ⟨Ex.refl G, fun _ _ h _ => h, fun b o h1 h2 => ?_, fun b h => ?_, fun b h => ?_⟩
  · rw [upd_ne fun z => h1 (by rw [z]; exact own)]
    exact h2
  · by_cases hb : b = a
    · rw [hb, upd_same]
      exact fun z => by cases z
    · rw [upd_ne hb]
      exact h
  · obtain ⟨j, h⟩ := h
    rcases ownAt_set h with ⟨_, q⟩ | ⟨_, q⟩
    · cases q
      exact .inl own
    · exact .inl ⟨j, q⟩
/-- the same object with other slots: a ρ that says no more -/
structure Weak (ρ ρ' : Rho) : Prop where
  len : ρ'.length = ρ.length
  sl : ∀ (i : Nat) (s : Sl), ρ'[i]? = some s → s = Sl.un ∨ ρ[i]? = some s
theorem Weak.own (w : Weak ρ ρ') {i : Nat} {a : Addr} (h : OwnAt ρ' i a) : OwnAt ρ i a := by
  obtain ⟨s, e, h⟩ := h
  rcases w.sl i s e with z | z
  · rw [z] at h
    cases h
  · exact ⟨s, z, h⟩
theorem Rel.weak (r : Rel K ρ σ G H) (w : Weak ρ ρ') : Rel K ρ' σ G H :=
  ⟨r.ex, w.len.trans r.len, fun i s e => by
    rcases w.sl i s e with z | z
    · rw [z]
      trivial
    · exact r.sl i s z, fun i j a h1 h2 => r.ds i j a (w.own h1) (w.own h2)⟩
theorem Weak.stp (w : Weak ρ ρ') : Stp ρ G H ρ' G H := ⟨Ex.refl G, fun _ _ h _ => h, fun _ _ _ h => h, fun _ h => h, fun _ ⟨i, h⟩ => .inl ⟨i, w.own h⟩⟩
/-- an own list frozen -/
theorem Rel.freeze {i : Nat} {a : Addr} {ds : List PyData} (r : Rel K ρ σ G H) (e : ρ[i]? = some (.lst a ds)) : ∃ G', Rel K (ρ.set i (.dat (.list ds))) σ G' H ∧ Stp ρ G H (ρ.set i (.dat (.list ds))) G' H := by
  have hi : i < ρ.length := (List.getElem?_eq_some_iff.mp e).1
  have own : OwnAt ρ i a := ⟨_, e, rfl⟩
  obtain ⟨eσ, nG, vs, hH, hv⟩ := r.sl i _ e
  have e1 : Ex G (L2.upd G a (.lst vs)) := Ex.new nG
  have e2 : Ex (L2.upd G a (.lst vs)) H := fun b o q => by
    by_cases hb : b = a
    · subst hb
      rw [upd_same] at q
      cases q
      exact hH
    · rw [upd_ne hb] at q
      exact r.ex b o q
  refine ⟨L2.upd G a (.lst vs), ⟨e2, by rw [List.length_set, r.len], fun j t q => ?_, fun j k b h1 h2 => ?_⟩, ⟨e1, fun b h1 h2 _ => ?_, fun _ _ _ h => h, fun _ h => h, fun _ h => .inl (own_dat h)⟩⟩
  · by_cases hj : j = i
    · subst hj
      rw [List.getElem?_set_self hi] at q
      cases q
      exact ⟨_, eσ, .lst (SqL.of upd_same) (hv.mono e1)⟩
    · rw [List.getElem?_set_ne (Ne.symm hj)] at q
      have z := r.sl j t q
      cases t with
      | un => trivial
      | dat d =>
        obtain ⟨v, z1, z2⟩ := z
        exact ⟨v, z1, z2.mono e1⟩
      | lst b fs =>
        obtain ⟨z1, z2, ws, z3, z4⟩ := z
        exact ⟨z1, by rw [upd_ne fun y => hj (r.ds j i a ⟨_, q, by rw [← y]; rfl⟩ own)]; exact z2, ws, z3, z4.mono e1⟩
      | obj b o =>
        obtain ⟨z1, z2, u, z3, z4⟩ := z
        exact ⟨z1, by rw [upd_ne fun y => hj (r.ds j i a ⟨_, q, by rw [← y]; rfl⟩ own)]; exact z2, u, z3, o.up e1 z4⟩
  · have back : ∀ j, OwnAt (ρ.set i (.dat (.list ds))) j b → OwnAt ρ j b := fun j h => by
      rcases ownAt_set h with ⟨_, q⟩ | ⟨_, q⟩
      · cases q
      · exact q
    exact r.ds j k b (back j h1) (back k h2)
  · rw [upd_ne fun z => h1 (by rw [z]; exact ⟨i, own⟩)]
    exact h2
end
end Pl
namespace Pl
open PySem PySem.Spec PyProof.Rows L2
open Evl (Ex ex_t ex_l)

/-! the readings that say just what runs (structures: nothing unfolds them) -/
section
variable (X : Cx)
structure TeR (e : Expr) (σ : L2.St) (H : Hp) (Q : VK) : Prop where
  run : ∀ pins s, Inv X pins σ H s → wpAny (model X.prog X.w) X.A (eval e X.env) (EP X pins σ Q) X.xe s
structure TtR (e : Expr) (σ : L2.St) (H : Hp) (Q : Bool → Hp → Prop) : Prop where
  run : ∀ pins s, Inv X pins σ H s → wpAny (model X.prog X.w) X.A (isTrue e X.env (eval e X.env)) (TP X pins σ Q) X.xe s
structure TwR (e : Expr) (σ : L2.St) (H : Hp) (Q : Bool → Hp → Prop) : Prop where
  run : ∀ whole pins s, Inv X pins σ H s → wpAny (model X.prog X.w) X.A (isTrue e X.env whole) (TP X pins σ Q) X.xe s
structure TaR (es : List Expr) (σ : L2.St) (H : Hp) (Q : List V → Hp → Prop) : Prop where
  run : ∀ pos pins s, Inv X pins σ H s → wpAny (model X.prog X.w) X.A (spliced (backTo pos (starEach es X.env))) (AP X pins σ Q) X.xe s
structure TsR (st : Stmt) (D : Ends) (σ : L2.St) (H : Hp) : Prop where
  run : ∀ pins s, Inv X pins σ H s → wpAny (model X.prog X.w) X.A (exec st X.env) (SP X pins D) X.xe s
structure TbR (sts : List Stmt) (D : Ends) (σ : L2.St) (H : Hp) : Prop where
  run : ∀ pins s, Inv X pins σ H s → wpAny (model X.prog X.w) X.A (execs sts X.env) (SP X pins D) X.xe s
structure TgR (tg : Expr) (v : V) (σ : L2.St) (H : Hp) (Q : L2.St → Hp → Prop) : Prop where
  run : ∀ pins s u, Inv X pins σ H s → RelV v u → wpAny (model X.prog X.w) X.A (assign tg X.env u) (fun _ s' => ∃ σ' H', Inv X pins σ' H' s' ∧ Q σ' H') X.xe s
structure TgsR (ts : List Expr) (vs : List V) (σ : L2.St) (H : Hp) (Q : L2.St → Hp → Prop) : Prop where
  run : ∀ pins s us, Inv X pins σ H s → Vals vs us → wpAny (model X.prog X.w) X.A (assignInOrder ((assignEach ts X.env).map (·.2)) us) (fun _ s' => ∃ σ' H', Inv X pins σ' H' s' ∧ Q σ' H') X.xe s
structure TiR (tg iter : Expr) (σ : L2.St) (H : Hp) (R : It → Hp → Prop) : Prop where
  run : ∀ pins s, Inv X pins σ H s → wpAny (model X.prog X.w) X.A (eval iter X.env) (fun v s1 => wpAny (model X.prog X.w) X.A (pyIter v) (PIE X pins σ tg R) X.xe s1) X.xe s
structure TfR (ifs : List Expr) (σ : L2.St) (H : Hp) (Q : Bool → Hp → Prop) : Prop where
  run : ∀ pins s, Inv X pins σ H s →
    wpAny (model X.prog X.w) X.A (forIn ifs true fun c r => if r = true then do let ok ← isTrue c X.env (eval c X.env); pure (ForInStep.yield ok) else pure (ForInStep.yield r)) (TP X pins σ Q) X.xe s
def teW (e : Expr) : TE := fun σ H Q => TeR X e σ H Q
def ttW (e : Expr) : TT := fun σ H Q => TtR X e σ H Q
def twW (e : Expr) : TT := fun σ H Q => TwR X e σ H Q
def taW (es : List Expr) : TA := fun σ H Q => TaR X es σ H Q
def tsW (st : Stmt) : TS := fun D σ H => TsR X st D σ H
def tbW (sts : List Stmt) : TS := fun D σ H => TbR X sts D σ H
def tgW (tg : Expr) : TG := fun v σ H Q => TgR X tg v σ H Q
def tgsW (ts : List Expr) : TGs := fun vs σ H Q => TgsR X ts vs σ H Q
def tiW (tg iter : Expr) : TI := fun σ H R => TiR X tg iter σ H R
def tfW (ifs : List Expr) : TT := fun σ H Q => TfR X ifs σ H Q
end
section
variable {X : Cx} {e tg iter : Expr} {es ts ifs : List Expr} {st : Stmt} {sts : List Stmt} {σ : L2.St} {H : Hp}
theorem pe_W : PE X e (teW X e) := ⟨fun pins s _ _ _ I h => h.run pins s I⟩
theorem pt_W : PT X e (ttW X e) := ⟨fun pins s _ _ _ I h => h.run pins s I⟩
theorem pw_W : PW X e (twW X e) := ⟨fun wh pins s _ _ _ I h => h.run wh pins s I⟩
theorem pa_W : PA X es (taW X es) := ⟨fun pos pins s _ _ _ I h => h.run pos pins s I⟩
theorem ps_W : PS X st (tsW X st) := ⟨fun pins s _ _ _ I h => h.run pins s I⟩
theorem pb_W : PSs X sts (tbW X sts) := ⟨fun pins s _ _ _ I h => h.run pins s I⟩
theorem pg_W : PG X tg (tgW X tg) := ⟨fun pins s _ _ _ u _ I r h => h.run pins s u I r⟩
theorem pgs_W : PGs X ts (tgsW X ts) := ⟨fun pins s _ _ _ us _ I r h => h.run pins s us I r⟩
theorem pi_W : PI X tg iter (tiW X tg iter) := ⟨fun pins s _ _ _ I h => h.run pins s I⟩
theorem pf_W : PTs X ifs (tfW X ifs) := ⟨fun pins s _ _ _ I h => h.run pins s I⟩
theorem te_of {t : TE} {Q : VK} (h : PE X e t) (q : t σ H Q) : teW X e σ H Q := ⟨fun pins s I => h.run pins s σ H Q I q⟩
theorem tt_of {t : TT} {Q : Bool → Hp → Prop} (h : PT X e t) (q : t σ H Q) : ttW X e σ H Q := ⟨fun pins s I => h.run pins s σ H Q I q⟩
theorem tw_of {t : TT} {Q : Bool → Hp → Prop} (h : PW X e t) (q : t σ H Q) : twW X e σ H Q := ⟨fun wh pins s I => h.run wh pins s σ H Q I q⟩
theorem ta_of {t : TA} {Q : List V → Hp → Prop} (h : PA X es t) (q : t σ H Q) : taW X es σ H Q := ⟨fun pos pins s I => h.run pos pins s σ H Q I q⟩
theorem ts_of {t : TS} {D : Ends} (h : PS X st t) (q : t D σ H) : tsW X st D σ H := ⟨fun pins s I => h.run pins s σ H D I q⟩
theorem tb_of {t : TS} {D : Ends} (h : PSs X sts t) (q : t D σ H) : tbW X sts D σ H := ⟨fun pins s I => h.run pins s σ H D I q⟩
theorem tg_of {t : TG} {v : V} {Q : L2.St → Hp → Prop} (h : PG X tg t) (q : t v σ H Q) : tgW X tg v σ H Q := ⟨fun pins s u I r => h.run pins s σ H v u Q I r q⟩
theorem tgs_of {t : TGs} {vs : List V} {Q : L2.St → Hp → Prop} (h : PGs X ts t) (q : t vs σ H Q) : tgsW X ts vs σ H Q := ⟨fun pins s us I r => h.run pins s σ H vs us Q I r q⟩
theorem ti_of {t : TI} {R : It → Hp → Prop} (h : PI X tg iter t) (q : t σ H R) : tiW X tg iter σ H R := ⟨fun pins s I => h.run pins s σ H R I q⟩
theorem tf_of {t : TT} {Q : Bool → Hp → Prop} (h : PTs X ifs t) (q : t σ H Q) : tfW X ifs σ H Q := ⟨fun pins s I => h.run pins s σ H Q I q⟩
end

/-! judgements over slots -/
section
variable (X : Cx)
/-- an expression gives frozen data -/
def EvW (e : Expr) (ρ : Rho) (Q : PyData → Rho → Prop) : Prop := ∀ (σ : L2.St) (G H : Hp), Rel X.K ρ σ G H → ∀ R : VK,
  (∀ v d ρ' G' H', Rel X.K ρ' σ G' H' → Stp ρ G H ρ' G' H' → Is X.K G' v d → Q d ρ' → R v H') → teW X e σ H R
/-- an expression gives a new list, not yet frozen -/
def ElW (e : Expr) (ρ : Rho) (Q : List PyData → Rho → Prop) : Prop := ∀ (σ : L2.St) (G H : Hp), Rel X.K ρ σ G H → ∀ R : VK,
  (∀ a vs ds ρ' G' H', Rel X.K ρ' σ G' H' → Stp ρ G H ρ' G' H' → G' a = none → ¬ Own ρ' a → H a = none → H' a = some (.lst vs) → IsAll X.K G' vs ds → Q ds ρ' → R (.ref a) H') → teW X e σ H R
def TvW (e : Expr) (ρ : Rho) (Q : Bool → Rho → Prop) : Prop := ∀ (σ : L2.St) (G H : Hp), Rel X.K ρ σ G H → ∀ R : Bool → Hp → Prop,
  (∀ b ρ' G' H', Rel X.K ρ' σ G' H' → Stp ρ G H ρ' G' H' → Q b ρ' → R b H') → ttW X e σ H R
def TwW (e : Expr) (ρ : Rho) (Q : Bool → Rho → Prop) : Prop := ∀ (σ : L2.St) (G H : Hp), Rel X.K ρ σ G H → ∀ R : Bool → Hp → Prop,
  (∀ b ρ' G' H', Rel X.K ρ' σ G' H' → Stp ρ G H ρ' G' H' → Q b ρ' → R b H') → twW X e σ H R
def TfW (ifs : List Expr) (ρ : Rho) (Q : Bool → Rho → Prop) : Prop := ∀ (σ : L2.St) (G H : Hp), Rel X.K ρ σ G H → ∀ R : Bool → Hp → Prop,
  (∀ b ρ' G' H', Rel X.K ρ' σ G' H' → Stp ρ G H ρ' G' H' → Q b ρ' → R b H') → tfW X ifs σ H R
def AvW (es : List Expr) (ρ : Rho) (Q : List PyData → Rho → Prop) : Prop := ∀ (σ : L2.St) (G H : Hp), Rel X.K ρ σ G H → ∀ R : List V → Hp → Prop,
  (∀ vs ds ρ' G' H', Rel X.K ρ' σ G' H' → Stp ρ G H ρ' G' H' → IsAll X.K G' vs ds → Q ds ρ' → R vs H') → taW X es σ H R
/-- only slots in W are changed -/
structure Chg (W : Nat → Prop) (σ σ' : L2.St) : Prop where
  len : σ'.length = σ.length
  out : ∀ j, ¬ W j → σ'[j]? = σ[j]?
theorem Chg.refl {W : Nat → Prop} {σ : L2.St} : Chg W σ σ := ⟨rfl, fun _ _ => rfl⟩
theorem Chg.trans {W : Nat → Prop} {σ σ1 σ2 : L2.St} (a : Chg W σ σ1) (b : Chg W σ1 σ2) : Chg W σ σ2 := ⟨b.len.trans a.len, fun j h => (b.out j h).trans (a.out j h)⟩
structure En where
  nx : Rho → Prop
  rt : PyData → Rho → Prop
  bk : Rho → Prop := fun _ => False
  ct : Rho → Prop := fun _ => False
structure Meets (K : PySem.W.Frag) (ρ : Rho) (G H : Hp) (D : En) (T : Ends) : Prop where
  nx : ∀ ρ' σ' G' H', Rel K ρ' σ' G' H' → Stp ρ G H ρ' G' H' → D.nx ρ' → T.nx σ' H'
  rt : ∀ v d ρ' σ' G' H', Rel K ρ' σ' G' H' → Stp ρ G H ρ' G' H' → Is K G' v d → D.rt d ρ' → T.rt v H'
  bk : ∀ ρ' σ' G' H', Rel K ρ' σ' G' H' → Stp ρ G H ρ' G' H' → D.bk ρ' → T.bk σ' H'
  ct : ∀ ρ' σ' G' H', Rel K ρ' σ' G' H' → Stp ρ G H ρ' G' H' → D.ct ρ' → T.ct σ' H'
def SvW (st : Stmt) (ρ : Rho) (D : En) : Prop := ∀ (σ : L2.St) (G H : Hp), Rel X.K ρ σ G H → ∀ T : Ends, Meets X.K ρ G H D T → tsW X st T σ H
def BvW (sts : List Stmt) (ρ : Rho) (D : En) : Prop := ∀ (σ : L2.St) (G H : Hp), Rel X.K ρ σ G H → ∀ T : Ends, Meets X.K ρ G H D T → tbW X sts T σ H
def GvW (W : Nat → Prop) (tg : Expr) (d : PyData) (ρ : Rho) (Q : Rho → Prop) : Prop := ∀ (σ : L2.St) (G H : Hp) (v : V), Rel X.K ρ σ G H → Is X.K G v d → ∀ R : L2.St → Hp → Prop,
  (∀ ρ' σ' G' H', Rel X.K ρ' σ' G' H' → Stp ρ G H ρ' G' H' → Chg W σ σ' → Q ρ' → R σ' H') → tgW X tg v σ H R
def GsW (W : Nat → Prop) (ts : List Expr) (ds : List PyData) (ρ : Rho) (Q : Rho → Prop) : Prop := ∀ (σ : L2.St) (G H : Hp) (vs : List V), Rel X.K ρ σ G H → IsAll X.K G vs ds → ∀ R : L2.St → Hp → Prop,
  (∀ ρ' σ' G' H', Rel X.K ρ' σ' G' H' → Stp ρ G H ρ' G' H' → Chg W σ σ' → Q ρ' → R σ' H') → tgsW X ts vs σ H R
/-- what is walked yields ds, while Good holds -/
def Yld (K : PySem.W.Frag) (J : It) (σ : L2.St) (G0 : Hp) (Good : Rho → Prop) (ds : List PyData) : Prop := ∀ (i : Nat) (ρ : Rho) (σ' : L2.St) (G H : Hp), Rel K ρ σ' G H → Ex G0 G → Good ρ →
  (i < ds.length → J.go i H ∧ ∀ x H', J.yld i H x H' → ∃ d G', ds[i]? = some d ∧ PSt G H G' H' ∧ Is K G' x d) ∧ (ds.length ≤ i → J.stop i H)
def IvW (tg iter : Expr) (ρ : Rho) (Q : List PyData → (Rho → Prop) → Rho → Prop) : Prop := ∀ (σ : L2.St) (G H : Hp), Rel X.K ρ σ G H → ∀ R : It → Hp → Prop,
  (∀ ds Good J ρ' G' H', Rel X.K ρ' σ G' H' → Stp ρ G H ρ' G' H' → Yld X.K J σ G' Good ds → Q ds Good ρ' → R J H') → tiW X tg iter σ H R
abbrev Ev (e : Expr) (ρ : Rho) (d : PyData) : Prop := EvW X e ρ fun d' ρ' => d' = d ∧ ρ' = ρ
abbrev El (e : Expr) (ρ : Rho) (ds : List PyData) : Prop := ElW X e ρ fun d' ρ' => d' = ds ∧ ρ' = ρ
abbrev Tv (e : Expr) (ρ : Rho) (b : Bool) : Prop := TvW X e ρ fun b' ρ' => b' = b ∧ ρ' = ρ
abbrev Tw (e : Expr) (ρ : Rho) (b : Bool) : Prop := TwW X e ρ fun b' ρ' => b' = b ∧ ρ' = ρ
abbrev Tf (ifs : List Expr) (ρ : Rho) (b : Bool) : Prop := TfW X ifs ρ fun b' ρ' => b' = b ∧ ρ' = ρ
abbrev Av (es : List Expr) (ρ : Rho) (ds : List PyData) : Prop := AvW X es ρ fun d' ρ' => d' = ds ∧ ρ' = ρ
end

section
variable {X : Cx} {e a b c tg iter : Expr} {es ts ifs : List Expr} {ρ : Rho} {d f : PyData} {ds : List PyData} {pos : Pos}
theorem EvW.imp {Q Q' : PyData → Rho → Prop} (h : EvW X e ρ Q) (q : ∀ d ρ', Q d ρ' → Q' d ρ') : EvW X e ρ Q' := fun σ G H r R k => h σ G H r R fun v d ρ' G' H' r' s i z => k v d ρ' G' H' r' s i (q d ρ' z)
theorem ElW.imp {Q Q' : List PyData → Rho → Prop} (h : ElW X e ρ Q) (q : ∀ d ρ', Q d ρ' → Q' d ρ') : ElW X e ρ Q' := fun σ G H r R k => h σ G H r R fun a vs d ρ' G' H' r' s n1 n2 n3 n4 i z => k a vs d ρ' G' H' r' s n1 n2 n3 n4 i (q d ρ' z)
theorem TvW.imp {Q Q' : Bool → Rho → Prop} (h : TvW X e ρ Q) (q : ∀ d ρ', Q d ρ' → Q' d ρ') : TvW X e ρ Q' := fun σ G H r R k => h σ G H r R fun d ρ' G' H' r' s z => k d ρ' G' H' r' s (q d ρ' z)
theorem TwW.imp {Q Q' : Bool → Rho → Prop} (h : TwW X e ρ Q) (q : ∀ d ρ', Q d ρ' → Q' d ρ') : TwW X e ρ Q' := fun σ G H r R k => h σ G H r R fun d ρ' G' H' r' s z => k d ρ' G' H' r' s (q d ρ' z)
theorem TfW.imp {Q Q' : Bool → Rho → Prop} (h : TfW X ifs ρ Q) (q : ∀ d ρ', Q d ρ' → Q' d ρ') : TfW X ifs ρ Q' := fun σ G H r R k => h σ G H r R fun d ρ' G' H' r' s z => k d ρ' G' H' r' s (q d ρ' z)
theorem AvW.imp {Q Q' : List PyData → Rho → Prop} (h : AvW X es ρ Q) (q : ∀ d ρ', Q d ρ' → Q' d ρ') : AvW X es ρ Q' := fun σ G H r R k => h σ G H r R fun vs d ρ' G' H' r' s i z => k vs d ρ' G' H' r' s i (q d ρ' z)
theorem Ev.w {Q : PyData → Rho → Prop} (h : Ev X e ρ d) (q : Q d ρ) : EvW X e ρ Q := EvW.imp h fun _ _ ⟨h1, h2⟩ => by
  subst h1
  subst h2
  exact q
theorem El.w {Q : List PyData → Rho → Prop} (h : El X e ρ ds) (q : Q ds ρ) : ElW X e ρ Q := ElW.imp h fun _ _ ⟨h1, h2⟩ => by
  subst h1
  subst h2
  exact q
theorem Tv.w {Q : Bool → Rho → Prop} {k : Bool} (h : Tv X e ρ k) (q : Q k ρ) : TvW X e ρ Q := TvW.imp h fun _ _ ⟨h1, h2⟩ => by
  subst h1
  subst h2
  exact q
theorem Tw.w {Q : Bool → Rho → Prop} {k : Bool} (h : Tw X e ρ k) (q : Q k ρ) : TwW X e ρ Q := TwW.imp h fun _ _ ⟨h1, h2⟩ => by
  subst h1
  subst h2
  exact q
theorem Tf.w {Q : Bool → Rho → Prop} {k : Bool} (h : Tf X ifs ρ k) (q : Q k ρ) : TfW X ifs ρ Q := TfW.imp h fun _ _ ⟨h1, h2⟩ => by
  subst h1
  subst h2
  exact q
theorem Av.w {Q : List PyData → Rho → Prop} (h : Av X es ρ ds) (q : Q ds ρ) : AvW X es ρ Q := AvW.imp h fun _ _ ⟨h1, h2⟩ => by
  subst h1
  subst h2
  exact q
theorem Ev.to (h : Ev X e ρ d) (q : d = f) : Ev X e ρ f := by
  rw [← q]
  exact h
theorem Tv.to {k k' : Bool} (h : Tv X e ρ k) (q : k = k') : Tv X e ρ k' := by
  rw [← q]
  exact h
theorem Tw.to {k k' : Bool} (h : Tw X e ρ k) (q : k = k') : Tw X e ρ k' := by
  rw [← q]
  exact h

/-! names, constants -/
theorem ew_k {v : V} {Q : PyData → Rho → Prop} (h : PE X e (tC v)) (hi : ∀ G, Is X.K G v d) (q : Q d ρ) : EvW X e ρ Q := fun σ G H r R k => te_of h (show R v H from k v d ρ G H r .refl (hi G) q)
theorem ev_int {i : Int} {j pos} : Ev X (.Constant (.int i) j pos) ρ (.int i) := ew_k pe_int (fun _ => .int i) ⟨rfl, rfl⟩
theorem ev_bl {i : Bool} {j pos} : Ev X (.Constant (.bool i) j pos) ρ (.bool i) := ew_k pe_bl (fun _ => .bl i) ⟨rfl, rfl⟩
theorem ev_non {j pos} : Ev X (.Constant .none j pos) ρ .none := ew_k pe_non (fun _ => .non) ⟨rfl, rfl⟩
theorem ev_str {x : Str} {j pos} : Ev X (.Constant (.str x) j pos) ρ (.str x) := ew_k pe_str (fun _ => .str x) ⟨rfl, rfl⟩
theorem ev_var {i : Nat} {x : Str} (h : ρ[i]? = some (.dat d)) (hN : X.N[i]? = some x := by rfl) (hv : Vis X.env.scope x := by first | exact Or.inl rfl | exact Or.inr (Or.inl rfl) | exact Or.inr (Or.inr rfl)) (hd : (x == ("__debug__" : Str)) = false := by decide)
    (hcd : (x == ("__classdict__" : Str)) = false := by decide) : Ev X (.Name x pos) ρ d := fun σ G H r R k => by
  obtain ⟨v, e1, h1⟩ := r.sl i _ h
  exact te_of (pe_var hN hv hd hcd) ⟨v, e1, k v d ρ G H r .refl h1 ⟨rfl, rfl⟩⟩

/-! operators by values -/
def isN : PyData → Bool
  | .none => true
  | _ => false
def OpD (K : PySem.W.Frag) (r : R2) (d e : PyData) (k : PyData → Prop) : Prop := ∀ (G H : Hp) (v w : V), Ex G H → Is K G v d → Is K G w e → ∀ R : VK, (∀ u f G' H', PSt G H G' H' → Is K G' u f → k f → R u H') → r v w H R
theorem OpD.imp {K : PySem.W.Frag} {r : R2} {d e : PyData} {k k' : PyData → Prop} (h : OpD K r d e k) (q : ∀ f, k f → k' f) : OpD K r d e k' := fun G H v w x hv hw R z => h G H v w x hv hw R fun u f G' H' p i y => z u f G' H' p i (q f y)
variable {r : R2} {Q : PyData → Rho → Prop}
theorem two {ta tb : TE} {Qa : PyData → Rho → Prop} (ha : EvW X a ρ Qa) (hb : ∀ d ρ1, Qa d ρ1 → EvW X b ρ1 fun e ρ2 => OpD X.K r d e fun f => Q f ρ2) {σ : L2.St} {G H : Hp} (rel : Rel X.K ρ σ G H) {R : VK}
    (k : ∀ v d ρ' G' H', Rel X.K ρ' σ G' H' → Stp ρ G H ρ' G' H' → Is X.K G' v d → Q d ρ' → R v H') : tOp r (teW X a) (teW X b) σ H R :=
  ha σ G H rel _ fun v d ρ1 G1 H1 r1 s1 i1 q1 => hb d ρ1 q1 σ G1 H1 r1 _ fun w e ρ2 G2 H2 r2 s2 i2 q2 => q2 G2 H2 v w r2.ex (i1.mono s2.gg) i2 _ fun u f G3 H3 p i3 q3 =>
    k u f ρ2 G3 H3 (r2.pure p) ((s1.trans s2).trans p.stp) i3 q3
theorem ew_op {op : Operator} (ho : OpR X (binaryOp op) r) {Qa : PyData → Rho → Prop} (ha : EvW X a ρ Qa) (hb : ∀ d ρ1, Qa d ρ1 → EvW X b ρ1 fun e ρ2 => OpD X.K r d e fun f => Q f ρ2) : EvW X (.BinOp a op b pos) ρ Q :=
  fun σ G H rel R k => te_of (pe_op ho pe_W pe_W) (two (ta := teW X a) (tb := teW X b) ha hb rel k)
theorem ew_cmp {op : CmpOp} (ho : OpR X (compareOp op) r) (hm : behindInMarks op b = false) {Qa : PyData → Rho → Prop} (ha : EvW X a ρ Qa) (hb : ∀ d ρ1, Qa d ρ1 → EvW X b ρ1 fun e ρ2 => OpD X.K r d e fun f => Q f ρ2) : EvW X (.Compare a [op] [b] pos) ρ Q :=
  fun σ G H rel R k => te_of (pe_cmpR ho pe_W pe_W hm) (two (ta := teW X a) (tb := teW X b) ha hb rel k)
theorem tw_cmp {op : CmpOp} (ho : OpR X (compareOp op) r) (hm : behindInMarks op b = false) {Qa : PyData → Rho → Prop} {Q : Bool → Rho → Prop} (ha : EvW X a ρ Qa) (hb : ∀ d ρ1, Qa d ρ1 → EvW X b ρ1 fun e ρ2 => OpD X.K r d e fun f => ∃ k, f = .bool k ∧ Q k ρ2) : TvW X (.Compare a [op] [b] pos) ρ Q :=
  fun σ G H rel R k => tt_of (pt_cmpR ho pe_W pe_W hm) (two (ta := teW X a) (tb := teW X b) (Q := fun f ρ2 => ∃ k, f = .bool k ∧ Q k ρ2) ha hb rel fun v d ρ' G' H' r' s i ⟨b, e, q⟩ => by
    subst e
    cases i
    exact ⟨b, rfl, k b ρ' G' H' r' s q⟩)
theorem ev_op {op : Operator} (ho : OpR X (binaryOp op) r) {x y : PyData} (ha : Ev X a ρ x) (hb : Ev X b ρ y) (h : OpD X.K r x y (· = f)) : Ev X (.BinOp a op b pos) ρ f :=
  ew_op ho ha fun _ _ ⟨h1, h2⟩ => by
    subst h1
    subst h2
    exact hb.w (h.imp fun _ z => ⟨z, rfl⟩)
theorem ev_cmp {op : CmpOp} (ho : OpR X (compareOp op) r) {x y : PyData} (ha : Ev X a ρ x) (hb : Ev X b ρ y) (h : OpD X.K r x y (· = f)) (hm : behindInMarks op b = false := by exact nomark _) : Ev X (.Compare a [op] [b] pos) ρ f :=
  ew_cmp ho hm ha fun _ _ ⟨h1, h2⟩ => by
    subst h1
    subst h2
    exact hb.w (h.imp fun _ z => ⟨z, rfl⟩)
theorem tv_cmp {op : CmpOp} (ho : OpR X (compareOp op) r) {x y : PyData} {k : Bool} (ha : Ev X a ρ x) (hb : Ev X b ρ y) (h : OpD X.K r x y (· = .bool k)) (hm : behindInMarks op b = false := by exact nomark _) : Tv X (.Compare a [op] [b] pos) ρ k :=
  tw_cmp ho hm ha fun _ _ ⟨h1, h2⟩ => by
    subst h1
    subst h2
    exact hb.w (h.imp fun _ z => ⟨k, z, rfl, rfl⟩)
section
variable {K : PySem.W.Frag} {k : PyData → Prop}
theorem od_I0 {g : Int → Int → V} {i j : Int} (hg : ∀ G, Is K G (g i j) f) (q : k f) : OpD K (rI0 g) (.int i) (.int j) k := fun G H v w x hv hw R z => by
  cases hv
  cases hw
  exact ⟨i, j, rfl, rfl, z _ f G H (.refl x) (hg G) q⟩
theorem od_I {C : Int → Int → Prop} {g : Int → Int → V} {i j : Int} (hc : C i j) (hg : ∀ G, Is K G (g i j) f) (q : k f) : OpD K (rI C g) (.int i) (.int j) k := fun G H v w x hv hw R z => by
  cases hv
  cases hw
  exact ⟨i, j, rfl, rfl, hc, z _ f G H (.refl x) (hg G) q⟩
theorem od_eqD {d e : PyData} (hd : SeqAt.shaped d = true) (he : SeqAt.shaped e = true) (q : k (.bool (PyData.eqv d e))) : OpD K (rEqD K) d e k := fun G H v w x hv hw R z =>
  ⟨d, e, (hv.mono x).dp, (hw.mono x).dp, hd, he, z _ _ G H (.refl x) (.bl _) q⟩
theorem od_neD {d e : PyData} (hd : SeqAt.shaped d = true) (he : SeqAt.shaped e = true) (q : k (.bool (!PyData.eqv d e))) : OpD K (rNeD K) d e k := fun G H v w x hv hw R z =>
  ⟨d, e, (hv.mono x).dp, (hw.mono x).dp, hd, he, z _ _ G H (.refl x) (.bl _) q⟩
theorem od_eqI {i j : Int} (q : k (.bool (decide (i = j)))) : OpD K rEq (.int i) (.int j) k := fun G H v w x hv hw R z => by
  cases hv
  cases hw
  refine ⟨rfl, ?_⟩
  have e : decide (V.int i = V.int j) = decide (i = j) := by rw [dec_int, Bool.beq_eq_decide_eq]
  rw [e]
  exact z _ _ G H (.refl x) (.bl _) q
theorem od_neI {i j : Int} (q : k (.bool (!decide (i = j)))) : OpD K rNe (.int i) (.int j) k := fun G H v w x hv hw R z => by
  cases hv
  cases hw
  refine ⟨rfl, ?_⟩
  have e : decide (V.int i = V.int j) = decide (i = j) := by rw [dec_int, Bool.beq_eq_decide_eq]
  rw [e]
  exact z _ _ G H (.refl x) (.bl _) q
theorem od_eqS {i j : Str} (q : k (.bool (decide (i = j)))) : OpD K rEq (.str i) (.str j) k := fun G H v w x hv hw R z => by
  cases hv
  cases hw
  refine ⟨rfl, ?_⟩
  have e : decide (V.str i = V.str j) = decide (i = j) := by rw [dec_str, Bool.beq_eq_decide_eq]
  rw [e]
  exact z _ _ G H (.refl x) (.bl _) q
theorem od_neS {i j : Str} (q : k (.bool (!decide (i = j)))) : OpD K rNe (.str i) (.str j) k := fun G H v w x hv hw R z => by
  cases hv
  cases hw
  refine ⟨rfl, ?_⟩
  have e : decide (V.str i = V.str j) = decide (i = j) := by rw [dec_str, Bool.beq_eq_decide_eq]
  rw [e]
  exact z _ _ G H (.refl x) (.bl _) q
theorem is_none {G : Hp} {v : V} {d : PyData} (h : Is K G v d) : decide (v = .non) = isN d := by
  cases h <;> first | rfl | simp [isN]
theorem od_isN {d : PyData} (q : k (.bool (isN d))) : OpD K (fun x y H Q => y = .non ∧ Q (.bl (decide (x = .non))) H) d .none k := fun G H v w x hv hw R z => by
  cases hw
  refine ⟨rfl, ?_⟩
  rw [is_none hv]
  exact z _ _ G H (.refl x) (.bl _) q
theorem od_notN {d : PyData} (q : k (.bool (!isN d))) : OpD K (fun x y H Q => y = .non ∧ Q (.bl (!decide (x = .non))) H) d .none k := fun G H v w x hv hw R z => by
  cases hw
  refine ⟨rfl, ?_⟩
  rw [is_none hv]
  exact z _ _ G H (.refl x) (.bl _) q
theorem od_ixL {ds : List PyData} {i : Int} {d : PyData} (h : atI ds i = some d) (q : k d) : OpD K (rIxL K) (.list ds) (.int i) k := fun G H v w x hv hw R z => by
  cases hw
  cases hv with
  | lst h1 h2 =>
    obtain ⟨j, e1, e2, e3, e4, e5⟩ := atI_get h
    obtain ⟨u, e6, h3⟩ := h2.get e2
    refine ⟨_, _, i, u, rfl, rfl, ex_l x h1, ?_, z u d G H (.refl x) h3 q⟩
    unfold atI at h ⊢
    rw [h2.length]
    cases hx : ixN ds.length i with
    | none => rw [hx] at h; cases h
    | some j' =>
      have := (ixN_seq hx).1
      rw [e1] at this
      cases this
      exact e6
theorem od_ixT {ds : List PyData} {i : Int} {d : PyData} (h : atI ds i = some d) (q : k d) : OpD K (rIxT K) (.tuple ds) (.int i) k := fun G H v w x hv hw R z => by
  cases hw
  cases hv with
  | tup h1 h2 =>
    obtain ⟨j, e1, e2, e3, e4, e5⟩ := atI_get h
    obtain ⟨u, e6, h3⟩ := h2.get e2
    refine ⟨_, _, i, u, rfl, rfl, ex_t x h1, ?_, z u d G H (.refl x) h3 q⟩
    unfold atI at h ⊢
    rw [h2.length]
    cases hx : ixN ds.length i with
    | none => rw [hx] at h; cases h
    | some j' =>
      have := (ixN_seq hx).1
      rw [e1] at this
      cases this
      exact e6
theorem inV_S {G : Hp} {x : Str} : ∀ {vs : List V} {xs : List Str}, IsAll K G vs (xs.map PyData.str) → inV (.str x) vs = decide (x ∈ xs) ∧ vs.all flatV = true
  | _, [], h => by
    cases h
    exact ⟨rfl, rfl⟩
  | _, y :: ys, h => by
    rw [List.map_cons] at h
    cases h with
    | cons h1 h2 =>
      cases h1
      obtain ⟨e1, e2⟩ := inV_S (x := x) h2
      refine ⟨?_, by rw [List.all_cons, e2]; rfl⟩
      show (eqV (.str y) (.str x) || inV (.str x) _) = _
      rw [e1]
      show ((y == x) || _) = _
      by_cases e : y = x
      · subst e; simp
      · have e3 : (y == x) = false := by simpa using e
        rw [e3, Bool.false_or]
        simp [Ne.symm e]
theorem inV_I {G : Hp} {x : Int} : ∀ {vs : List V} {xs : List Int}, IsAll K G vs (xs.map PyData.int) → inV (.int x) vs = decide (x ∈ xs) ∧ vs.all flatV = true
  | _, [], h => by
    cases h
    exact ⟨rfl, rfl⟩
  | _, y :: ys, h => by
    rw [List.map_cons] at h
    cases h with
    | cons h1 h2 =>
      cases h1
      obtain ⟨e1, e2⟩ := inV_I (x := x) h2
      refine ⟨?_, by rw [List.all_cons, e2]; rfl⟩
      show (eqV (.int y) (.int x) || inV (.int x) _) = _
      rw [e1]
      show ((y == x) || _) = _
      by_cases e : y = x
      · subst e; simp
      · have e3 : (y == x) = false := by simpa using e
        rw [e3, Bool.false_or]
        simp [Ne.symm e]
theorem od_inS {neg : Bool} {x : Str} (xs : List Str) (q : k (.bool (if neg then !decide (x ∈ xs) else decide (x ∈ xs)))) : OpD K (rIn K neg) (.str x) (.tuple (xs.map PyData.str)) k := fun G H v w e hv hw R z => by
  cases hv
  cases hw with
  | tup h1 h2 =>
    obtain ⟨e1, e2⟩ := inV_S (x := x) h2
    refine ⟨_, _, rfl, .inr (ex_t e h1), rfl, e2, ?_⟩
    rw [e1]
    exact z _ _ G H (.refl e) (.bl _) q
theorem od_inI {neg : Bool} {x : Int} (xs : List Int) (q : k (.bool (if neg then !decide (x ∈ xs) else decide (x ∈ xs)))) : OpD K (rIn K neg) (.int x) (.tuple (xs.map PyData.int)) k := fun G H v w e hv hw R z => by
  cases hv
  cases hw with
  | tup h1 h2 =>
    obtain ⟨e1, e2⟩ := inV_I (x := x) h2
    refine ⟨_, _, rfl, .inr (ex_t e h1), rfl, e2, ?_⟩
    rw [e1]
    exact z _ _ G H (.refl e) (.bl _) q
end
end
end Pl
namespace Pl
open PySem PySem.Spec PyProof.Rows L2
open Evl (Ex ex_t ex_l)
section
variable {X : Cx} {e a b c tg iter : Expr} {es ts ifs rest : List Expr} {ρ : Rho} {d f : PyData} {ds : List PyData} {pos : Pos} {Q : PyData → Rho → Prop} {QT : Bool → Rho → Prop}

/-! one-place operators -/
def UnD (K : PySem.W.Frag) (r : V → Hp → VK → Prop) (d : PyData) (k : PyData → Prop) : Prop := ∀ (G H : Hp) (v : V), Ex G H → Is K G v d → ∀ R : VK, (∀ u f G' H', PSt G H G' H' → Is K G' u f → k f → R u H') → r v H R
theorem ew_un {op : UnaryOp} {r : V → Hp → VK → Prop} (ho : UnR X (unaryOp op) r) (ha : EvW X a ρ fun d ρ1 => UnD X.K r d fun f => Q f ρ1) : EvW X (.UnaryOp op a pos) ρ Q := fun σ G H rel R k =>
  te_of (pe_un ho pe_W) (ha σ G H rel _ fun v d ρ1 G1 H1 r1 s1 i1 q1 => q1 G1 H1 v r1.ex i1 _ fun u f G2 H2 p i2 q2 => k u f ρ1 G2 H2 (r1.pure p) (s1.trans p.stp) i2 q2)
theorem ev_neg {i : Int} (ha : Ev X a ρ (.int i)) : Ev X (.UnaryOp .USub a pos) ρ (.int (-i)) := ew_un un_neg (ha.w fun G H v x hv R z => by
  cases hv
  exact ⟨i, rfl, z _ _ G H (.refl x) (.int _) ⟨rfl, rfl⟩⟩)

/-! tests -/
theorem tv_val {k : Bool} (h : EvW X e ρ fun d ρ1 => ∃ k, d = .bool k ∧ QT k ρ1) (he : ∀ whole, isTrue e X.env whole = (do let v ← whole; standAt e.pos; holding [v] (truthy v)) := by intro _; rfl) : TvW X e ρ QT := fun σ G H rel R k =>
  tt_of (pt_val pe_W he) (h σ G H rel _ fun v d ρ1 G1 H1 r1 s1 i1 ⟨b, e1, q⟩ => by
    subst e1
    cases i1
    exact ⟨b, rfl, k b ρ1 G1 H1 r1 s1 q⟩)
theorem tv_bool {k : Bool} (h : Ev X e ρ (.bool k)) (he : ∀ whole, isTrue e X.env whole = (do let v ← whole; standAt e.pos; holding [v] (truthy v)) := by intro _; rfl) : Tv X e ρ k := tv_val (k := k) (h.w ⟨k, rfl, rfl, rfl⟩) he
/-- the truth of data -/
def tru : PyData → Option Bool
  | .none => some false
  | .bool b => some b
  | .int i => some (i != 0)
  | .list ds => some (!ds.isEmpty)
  | .tuple ds => some (!ds.isEmpty)
  | _ => none
theorem emp_of {K : PySem.W.Frag} {G : Hp} {vs : List V} {ds : List PyData} (h : IsAll K G vs ds) : vs.isEmpty = ds.isEmpty := by
  cases h <;> rfl
theorem tv_tru (h : EvW X e ρ fun d ρ1 => ∃ k, tru d = some k ∧ QT k ρ1) (he : ∀ whole, isTrue e X.env whole = (do let v ← whole; standAt e.pos; holding [v] (truthy v)) := by intro _; rfl) : TvW X e ρ QT := fun σ G H rel R k =>
  tt_of (pt_truth pe_W he) (h σ G H rel _ fun v d ρ1 G1 H1 r1 s1 i1 ⟨b, e1, q⟩ => by
    refine ⟨b, ?_, k b ρ1 G1 H1 r1 s1 q⟩
    cases i1 with
    | non => exact (Option.some.inj e1).symm
    | bl b => exact (Option.some.inj e1).symm
    | int i => exact (Option.some.inj e1).symm
    | str x => cases e1
    | lst h1 h2 =>
      refine .inl ⟨_, ex_l r1.ex h1, ?_⟩
      rw [emp_of h2]
      exact (Option.some.inj e1).symm
    | tup h1 h2 =>
      refine .inr (.inl ⟨_, ex_t r1.ex h1, ?_⟩)
      rw [emp_of h2]
      exact (Option.some.inj e1).symm)
/-- the truth of an own list, by its name -/
theorem tv_truO {i : Nat} {x : Str} {l : Addr} (h : ρ[i]? = some (.lst l ds)) (q : QT (!ds.isEmpty) ρ) (hN : X.N[i]? = some x := by rfl) (hv : Vis X.env.scope x := by first | exact Or.inl rfl | exact Or.inr (Or.inl rfl) | exact Or.inr (Or.inr rfl)) (hd : (x == ("__debug__" : Str)) = false := by decide)
    (hcd : (x == ("__classdict__" : Str)) = false := by decide) (he : ∀ whole, isTrue (.Name x pos) X.env whole = (do let v ← whole; standAt (Expr.Name x pos).pos; holding [v] (truthy v)) := by intro _; rfl) : TvW X (.Name x pos) ρ QT := fun σ G H rel R k => by
  obtain ⟨e1, nG, vs, hH, hv'⟩ := rel.sl i _ h
  refine tt_of (pt_truth (pe_var hN hv hd hcd) he) ⟨_, e1, !ds.isEmpty, ?_, k _ ρ G H rel .refl q⟩
  exact .inl ⟨_, SqL.of hH, by rw [emp_of hv']⟩
theorem tv_w (h : TwW X e ρ QT) : TvW X e ρ QT := fun σ G H rel R k => tt_of pw_W.pt (h σ G H rel R k)
theorem tw_and1 (ha : TvW X a ρ QT) : TwW X (.BoolOp .And [a] pos) ρ QT := fun σ G H rel R k => tw_of (pw_and1 pt_W) (ha σ G H rel R k)
theorem tw_or1 (ha : TvW X a ρ QT) : TwW X (.BoolOp .Or [a] pos) ρ QT := fun σ G H rel R k => tw_of (pw_or1 pt_W) (ha σ G H rel R k)
theorem tw_and (ha : TvW X a ρ fun k ρ1 => if k = true then TwW X (.BoolOp .And (b :: rest) pos) ρ1 QT else QT false ρ1) : TwW X (.BoolOp .And (a :: b :: rest) pos) ρ QT := fun σ G H rel R k => tw_of (pw_and pt_W pw_W) (ha σ G H rel _ fun c ρ1 G1 H1 r1 s1 q1 => by
  cases c with
  | true =>
    rw [if_pos rfl] at q1 ⊢
    exact q1 σ G1 H1 r1 R fun b ρ2 G2 H2 r2 s2 q2 => k b ρ2 G2 H2 r2 (s1.trans s2) q2
  | false =>
    rw [if_neg Bool.false_ne_true] at q1 ⊢
    exact k false ρ1 G1 H1 r1 s1 q1)
theorem tw_or (ha : TvW X a ρ fun k ρ1 => if k = true then QT true ρ1 else TwW X (.BoolOp .Or (b :: rest) pos) ρ1 QT) : TwW X (.BoolOp .Or (a :: b :: rest) pos) ρ QT := fun σ G H rel R k => tw_of (pw_or pt_W pw_W) (ha σ G H rel _ fun c ρ1 G1 H1 r1 s1 q1 => by
  cases c with
  | false =>
    rw [if_neg Bool.false_ne_true] at q1 ⊢
    exact q1 σ G1 H1 r1 R fun b ρ2 G2 H2 r2 s2 q2 => k b ρ2 G2 H2 r2 (s1.trans s2) q2
  | true =>
    rw [if_pos rfl] at q1 ⊢
    exact k true ρ1 G1 H1 r1 s1 q1)
theorem tw_and' {k : Bool} {kb : Bool} (ha : Tv X a ρ k) (hb : k = true → Tw X (.BoolOp .And (b :: rest) pos) ρ kb) : Tw X (.BoolOp .And (a :: b :: rest) pos) ρ (k && kb) := tw_and (ha.w (by
  cases k with
  | true =>
    rw [if_pos rfl]
    exact hb rfl
  | false =>
    rw [if_neg Bool.false_ne_true]
    exact ⟨rfl, rfl⟩))
theorem tw_or' {k : Bool} {kb : Bool} (ha : Tv X a ρ k) (hb : k = false → Tw X (.BoolOp .Or (b :: rest) pos) ρ kb) : Tw X (.BoolOp .Or (a :: b :: rest) pos) ρ (k || kb) := tw_or (ha.w (by
  cases k with
  | false =>
    rw [if_neg Bool.false_ne_true]
    exact hb rfl
  | true =>
    rw [if_pos rfl]
    exact ⟨rfl, rfl⟩))
theorem tv_not (ha : TvW X a ρ fun k ρ1 => QT (!k) ρ1) : TvW X (.UnaryOp .Not a pos) ρ QT := fun σ G H rel R k => tt_of (pt_not pt_W) (ha σ G H rel _ fun c ρ1 G1 H1 r1 s1 q1 => k _ ρ1 G1 H1 r1 s1 q1)
theorem tv_not' {k : Bool} (ha : Tv X a ρ k) : Tv X (.UnaryOp .Not a pos) ρ (!k) := tv_not (ha.w ⟨rfl, rfl⟩)
/-! and, or, not as values -/
theorem ew_one {op} (h : EvW X a ρ Q) : EvW X (.BoolOp op [a] pos) ρ Q := fun σ G H rel R k => te_of (pe_one pe_W) (h σ G H rel R k)
theorem ew_and (ha : EvW X a ρ fun d ρ1 => ∃ k, d = .bool k ∧ if k = true then EvW X (.BoolOp .And (b :: rest) pos) ρ1 Q else Q (.bool false) ρ1) : EvW X (.BoolOp .And (a :: b :: rest) pos) ρ Q := fun σ G H rel R k => te_of (pe_and pe_W pe_W) (ha σ G H rel _ fun v d ρ1 G1 H1 r1 s1 i1 ⟨c, e1, q1⟩ => by
  subst e1
  cases i1
  refine ⟨c, rfl, ?_⟩
  cases c with
  | true =>
    rw [if_pos rfl] at q1 ⊢
    exact q1 σ G1 H1 r1 R fun u f ρ2 G2 H2 r2 s2 i2 q2 => k u f ρ2 G2 H2 r2 (s1.trans s2) i2 q2
  | false =>
    rw [if_neg Bool.false_ne_true] at q1 ⊢
    exact k _ _ ρ1 G1 H1 r1 s1 (.bl false) q1)
theorem ew_or (ha : EvW X a ρ fun d ρ1 => ∃ k, d = .bool k ∧ if k = true then Q (.bool true) ρ1 else EvW X (.BoolOp .Or (b :: rest) pos) ρ1 Q) : EvW X (.BoolOp .Or (a :: b :: rest) pos) ρ Q := fun σ G H rel R k => te_of (pe_or pe_W pe_W) (ha σ G H rel _ fun v d ρ1 G1 H1 r1 s1 i1 ⟨c, e1, q1⟩ => by
  subst e1
  cases i1
  refine ⟨c, rfl, ?_⟩
  cases c with
  | false =>
    rw [if_neg Bool.false_ne_true] at q1 ⊢
    exact q1 σ G1 H1 r1 R fun u f ρ2 G2 H2 r2 s2 i2 q2 => k u f ρ2 G2 H2 r2 (s1.trans s2) i2 q2
  | true =>
    rw [if_pos rfl] at q1 ⊢
    exact k _ _ ρ1 G1 H1 r1 s1 (.bl true) q1)
theorem ev_and {k : Bool} {kb : Bool} (ha : Ev X a ρ (.bool k)) (hb : k = true → Ev X (.BoolOp .And (b :: rest) pos) ρ (.bool kb)) : Ev X (.BoolOp .And (a :: b :: rest) pos) ρ (.bool (k && kb)) := ew_and (ha.w ⟨k, rfl, by
  cases k with
  | true =>
    rw [if_pos rfl]
    exact hb rfl
  | false =>
    rw [if_neg Bool.false_ne_true]
    exact ⟨rfl, rfl⟩⟩)
theorem ev_or {k : Bool} {kb : Bool} (ha : Ev X a ρ (.bool k)) (hb : k = false → Ev X (.BoolOp .Or (b :: rest) pos) ρ (.bool kb)) : Ev X (.BoolOp .Or (a :: b :: rest) pos) ρ (.bool (k || kb)) := ew_or (ha.w ⟨k, rfl, by
  cases k with
  | false =>
    rw [if_neg Bool.false_ne_true]
    exact hb rfl
  | true =>
    rw [if_pos rfl]
    exact ⟨rfl, rfl⟩⟩)
theorem ev_one {op} (h : Ev X a ρ d) : Ev X (.BoolOp op [a] pos) ρ d := ew_one h
theorem ew_not (ha : EvW X a ρ fun d ρ1 => ∃ k, d = .bool k ∧ Q (.bool (!k)) ρ1) : EvW X (.UnaryOp .Not a pos) ρ Q := fun σ G H rel R k => te_of (pe_not pe_W) (ha σ G H rel _ fun v d ρ1 G1 H1 r1 s1 i1 ⟨c, e1, q1⟩ => by
  subst e1
  cases i1
  exact ⟨c, rfl, k _ _ ρ1 G1 H1 r1 s1 (.bl _) q1⟩)
theorem ev_not {k : Bool} (ha : Ev X a ρ (.bool k)) : Ev X (.UnaryOp .Not a pos) ρ (.bool (!k)) := ew_not (ha.w ⟨k, rfl, rfl, rfl⟩)
/-- a if t else b -/
theorem ew_if (hc : TvW X c ρ fun k ρ1 => if k = true then EvW X a ρ1 Q else EvW X b ρ1 Q) : EvW X (.IfExp c a b pos) ρ Q := fun σ G H rel R k => te_of (pe_ifExp pt_W pe_W pe_W) (hc σ G H rel _ fun c ρ1 G1 H1 r1 s1 q1 => by
  cases c with
  | true =>
    rw [if_pos rfl] at q1 ⊢
    exact q1 σ G1 H1 r1 R fun u f ρ2 G2 H2 r2 s2 i2 q2 => k u f ρ2 G2 H2 r2 (s1.trans s2) i2 q2
  | false =>
    rw [if_neg Bool.false_ne_true] at q1 ⊢
    exact q1 σ G1 H1 r1 R fun u f ρ2 G2 H2 r2 s2 i2 q2 => k u f ρ2 G2 H2 r2 (s1.trans s2) i2 q2)
theorem ev_if {k : Bool} (hc : Tv X c ρ k) (ha : k = true → Ev X a ρ d) (hb : k = false → Ev X b ρ d) : Ev X (.IfExp c a b pos) ρ d := ew_if (hc.w (by
  cases k with
  | true =>
    rw [if_pos rfl]
    exact ha rfl
  | false =>
    rw [if_neg Bool.false_ne_true]
    exact hb rfl))
/-- a op b op' c -/
theorem ew_chain {op op' : CmpOp} {r r' : R2} (ho : OpR X (compareOp op) r) (ho' : OpR X (compareOp op') r') {x y z : PyData} {k kc : Bool} (ha : Ev X a ρ x) (hb : Ev X b ρ y) (hc : k = true → Ev X c ρ z) (h1 : OpD X.K r x y (· = .bool k)) (h2 : k = true → OpD X.K r' y z (· = .bool kc)) (q : Q (.bool (k && kc)) ρ)
    (hm : lastMarks [op, op'] [b, c] = false := by with_unfolding_all rfl) : EvW X (.Compare a [op, op'] [b, c] pos) ρ Q := fun σ G H rel R kk => te_of (pe_chain ho ho' pe_W pe_W pe_W hm)
  (ha σ G H rel _ fun v _ _ G1 H1 r1 s1 i1 ⟨e1, e2⟩ => by
    subst e1
    subst e2
    exact hb σ G1 H1 r1 _ fun w _ _ G2 H2 r2 s2 i2 ⟨e3, e4⟩ => by
      subst e3
      subst e4
      exact h1 G2 H2 v w r2.ex (i1.mono s2.gg) i2 _ fun u f G3 H3 p i3 e5 => by
        subst e5
        cases i3
        refine ⟨k, rfl, ?_⟩
        cases k with
        | false =>
          rw [if_neg Bool.false_ne_true]
          exact kk _ _ _ G3 H3 (r2.pure p) ((s1.trans s2).trans p.stp) (.bl _) q
        | true =>
          rw [if_pos rfl]
          exact hc rfl σ G3 H3 (r2.pure p) _ fun w' _ _ G4 H4 r4 s4 i4 ⟨e6, e7⟩ => by
            subst e6
            subst e7
            exact h2 rfl G4 H4 w w' r4.ex ((i2.mono p.gg).mono s4.gg) i4 _ fun u f G5 H5 p5 i5 e8 => by
              subst e8
              exact kk _ _ _ G5 H5 (r4.pure p5) ((((s1.trans s2).trans p.stp).trans s4).trans p5.stp) i5 q)
theorem ev_chain {op op' : CmpOp} {r r' : R2} (ho : OpR X (compareOp op) r) (ho' : OpR X (compareOp op') r') {x y z : PyData} {k kc : Bool} (ha : Ev X a ρ x) (hb : Ev X b ρ y) (hc : k = true → Ev X c ρ z) (h1 : OpD X.K r x y (· = .bool k)) (h2 : k = true → OpD X.K r' y z (· = .bool kc))
    (hm : lastMarks [op, op'] [b, c] = false := by with_unfolding_all rfl) : Ev X (.Compare a [op, op'] [b, c] pos) ρ (.bool (k && kc)) := ew_chain ho ho' ha hb hc h1 h2 ⟨rfl, rfl⟩ hm
theorem tv_chain {op op' : CmpOp} {r r' : R2} (ho : OpR X (compareOp op) r) (ho' : OpR X (compareOp op') r') {x y z : PyData} {k kc : Bool} (ha : Ev X a ρ x) (hb : Ev X b ρ y) (hc : k = true → Ev X c ρ z) (h1 : OpD X.K r x y (· = .bool k)) (h2 : k = true → OpD X.K r' y z (· = .bool kc))
    (hm : lastMarks [op, op'] [b, c] = false := by with_unfolding_all rfl) : Tv X (.Compare a [op, op'] [b, c] pos) ρ (k && kc) := fun σ G H rel R kk => tt_of (pt_chain ho ho' pe_W pe_W pe_W hm)
  (ha σ G H rel _ fun v _ _ G1 H1 r1 s1 i1 ⟨e1, e2⟩ => by
    subst e1
    subst e2
    exact hb σ G1 H1 r1 _ fun w _ _ G2 H2 r2 s2 i2 ⟨e3, e4⟩ => by
      subst e3
      subst e4
      exact h1 G2 H2 v w r2.ex (i1.mono s2.gg) i2 _ fun u f G3 H3 p i3 e5 => by
        subst e5
        cases i3
        refine ⟨k, rfl, ?_⟩
        cases k with
        | false =>
          rw [if_neg Bool.false_ne_true]
          exact ⟨false, rfl, kk _ _ G3 H3 (r2.pure p) ((s1.trans s2).trans p.stp) ⟨rfl, rfl⟩⟩
        | true =>
          rw [if_pos rfl]
          exact hc rfl σ G3 H3 (r2.pure p) _ fun w' _ _ G4 H4 r4 s4 i4 ⟨e6, e7⟩ => by
            subst e6
            subst e7
            exact h2 rfl G4 H4 w w' r4.ex ((i2.mono p.gg).mono s4.gg) i4 _ fun u f G5 H5 p5 i5 e8 => by
              subst e8
              cases i5
              exact ⟨kc, rfl, kk _ _ G5 H5 (r4.pure p5) ((((s1.trans s2).trans p.stp).trans s4).trans p5.stp) ⟨rfl, rfl⟩⟩)

/-! arguments, displays -/
theorem aw_nil {Q : List PyData → Rho → Prop} (q : Q [] ρ) : AvW X [] ρ Q := fun σ G H rel R k => ta_of pa_nil (show R [] H from k [] [] ρ G H rel .refl .nil q)
theorem aw_cons {Q : List PyData → Rho → Prop} {Qa : PyData → Rho → Prop} (ha : EvW X e ρ Qa) (hr : ∀ d ρ1, Qa d ρ1 → AvW X es ρ1 fun ds ρ2 => Q (d :: ds) ρ2) (hs : starEach (e :: es) X.env = (false, eval e X.env) :: starEach es X.env := by rfl) : AvW X (e :: es) ρ Q := fun σ G H rel R k =>
  ta_of (pa_cons pe_W pa_W hs) (ha σ G H rel _ fun v d ρ1 G1 H1 r1 s1 i1 q1 => hr d ρ1 q1 σ G1 H1 r1 _ fun vs ds ρ2 G2 H2 r2 s2 i2 q2 => k (v :: vs) (d :: ds) ρ2 G2 H2 r2 (s1.trans s2) (.cons (i1.mono s2.gg) i2) q2)
theorem av_nil : Av X [] ρ [] := aw_nil ⟨rfl, rfl⟩
theorem av_cons (ha : Ev X e ρ d) (hr : Av X es ρ ds) (hs : starEach (e :: es) X.env = (false, eval e X.env) :: starEach es X.env := by rfl) : Av X (e :: es) ρ (d :: ds) := aw_cons ha (fun _ _ ⟨h1, h2⟩ => by
  subst h1
  subst h2
  exact hr.w ⟨rfl, rfl⟩) hs
theorem big {n : Nat} (h : n ≤ 1000000) : n ≤ sizeLine := Nat.le_trans h (by decide)
theorem bigL {n : Nat} (h : n < 1000000) : n < sizeLine := Nat.lt_of_lt_of_le h (by decide)
theorem ew_tup {x1} (h : AvW X es ρ fun ds ρ1 => ds.length ≤ 1000000 ∧ Q (.tuple ds) ρ1) : EvW X (.Tuple es x1 pos) ρ Q := fun σ G H rel R k => te_of (pe_tup pa_W) (h σ G H rel _ fun vs ds ρ1 G1 H1 r1 s1 i1 ⟨hz, q1⟩ => ⟨by rw [i1.length]; exact big hz, fun p hp => by
  have P : PSt G1 H1 (upd G1 p (.tup vs)) (upd H1 p (.tup vs)) := PSt.new r1.ex hp
  exact k _ _ ρ1 _ _ (r1.pure P) (s1.trans P.stp) (.tup (SqT.of upd_same) (i1.mono P.gg)) q1⟩)
theorem ev_tup {x1} (h : Av X es ρ ds) (hz : ds.length ≤ 1000000 := by first | exact Nat.le_of_ble_eq_true rfl | assumption) : Ev X (.Tuple es x1 pos) ρ (.tuple ds) := ew_tup (h.w ⟨hz, rfl, rfl⟩)
theorem own_new {K : PySem.W.Frag} {σ : L2.St} {G H : Hp} (r : Rel K ρ σ G H) {p : Addr} (hp : H p = none) : ¬ Own ρ p := fun ⟨i, h⟩ => (r.ownH h).2.1 hp
theorem el_lst' {QL : List PyData → Rho → Prop} (h : AvW X es ρ fun ds ρ1 => ds.length ≤ 1000000 ∧ QL ds ρ1) : ElW X (.List es pos) ρ QL := fun σ G H rel R k => te_of (pe_lst pa_W) (h σ G H rel _ fun vs ds ρ1 G1 H1 r1 s1 i1 ⟨hz, q1⟩ => ⟨by rw [i1.length]; exact big hz, fun p hp => by
  have P : PSt G1 H1 G1 (upd H1 p (.lst vs)) := PSt.newH r1.ex hp
  refine k p vs ds ρ1 _ _ (r1.pure P) (s1.trans P.stp) (no_of r1.ex hp) (own_new r1 hp) ?_ upd_same i1 q1
  cases e : H p with
  | none => rfl
  | some o => exact absurd hp (s1.al p (by rw [e]; exact nofun))⟩)
theorem el_lst (h : Av X es ρ ds) (hz : ds.length ≤ 1000000 := by first | exact Nat.le_of_ble_eq_true rfl | assumption) : El X (.List es pos) ρ ds := el_lst' (h.w ⟨hz, rfl, rfl⟩)
/-- a new list that is never changed is frozen -/
theorem ew_fz (h : ElW X e ρ fun ds ρ1 => Q (.list ds) ρ1) : EvW X e ρ Q := fun σ G H rel R k => h σ G H rel R fun a vs ds ρ1 G1 H1 r1 s1 n1 n2 n3 h1 i1 q1 => by
  have e1 : Ex G1 (upd G1 a (.lst vs)) := Ex.new n1
  have e2 : Ex (upd G1 a (.lst vs)) H1 := fun b o z => by
    by_cases hb : b = a
    · subst hb
      rw [upd_same] at z
      cases z
      exact h1
    · rw [upd_ne hb] at z
      exact r1.ex b o z
  have r2 : Rel X.K ρ1 σ (upd G1 a (.lst vs)) H1 := by
    refine ⟨e2, r1.len, fun i s z => ?_, r1.ds⟩
    have z1 := r1.sl i s z
    cases s with
    | un => trivial
    | dat d =>
      obtain ⟨v, z1, z2⟩ := z1
      exact ⟨v, z1, z2.mono e1⟩
    | lst b fs =>
      obtain ⟨z1, z2, ws, z3, z4⟩ := z1
      exact ⟨z1, by rw [upd_ne fun y => n2 ⟨i, _, z, by rw [← y]; rfl⟩]; exact z2, ws, z3, z4.mono e1⟩
    | obj b o =>
      obtain ⟨z1, z2, u, z3, z4⟩ := z1
      exact ⟨z1, by rw [upd_ne fun y => n2 ⟨i, _, z, by rw [← y]; rfl⟩]; exact z2, u, z3, o.up e1 z4⟩
  refine k _ _ ρ1 _ _ r2 ⟨s1.gg.trans e1, fun b h2 h3 h4 => ?_, s1.kp, s1.al, s1.ow⟩ (.lst (SqL.of upd_same) (i1.mono e1)) q1
  rw [upd_ne fun z => h4 (by rw [z]; exact n3)]
  exact s1.fr b h2 h3 h4
theorem ev_fz (h : El X e ρ ds) : Ev X e ρ (.list ds) := ew_fz (h.w ⟨rfl, rfl⟩)

/-! subscripts, slices -/
theorem ew_ix {r : R2} (hr : IxR X r) {Qa : PyData → Rho → Prop} (ha : EvW X a ρ Qa) (hb : ∀ d ρ1, Qa d ρ1 → EvW X b ρ1 fun e ρ2 => OpD X.K r d e fun f => Q f ρ2) (hs : PlainIx b := by exact fun _ _ => rfl) : EvW X (.Subscript a b pos) ρ Q :=
  fun σ G H rel R k => te_of (pe_ix hr pe_W pe_W hs) (two (ta := teW X a) (tb := teW X b) ha hb rel k)
theorem ev_ixL {i : Int} (ha : Ev X a ρ (.list ds)) (hb : Ev X b ρ (.int i)) (h : atI ds i = some d) (hs : PlainIx b := by exact fun _ _ => rfl) : Ev X (.Subscript a b pos) ρ d := ew_ix ix_list ha (fun _ _ ⟨h1, h2⟩ => by
  subst h1
  subst h2
  exact hb.w (od_ixL h ⟨rfl, rfl⟩)) hs
theorem ev_ixT {i : Int} (ha : Ev X a ρ (.tuple ds)) (hb : Ev X b ρ (.int i)) (h : atI ds i = some d) (hs : PlainIx b := by exact fun _ _ => rfl) : Ev X (.Subscript a b pos) ρ d := ew_ix ix_tup ha (fun _ _ ⟨h1, h2⟩ => by
  subst h1
  subst h2
  exact hb.w (od_ixT h ⟨rfl, rfl⟩)) hs
/-- an item of an own list, the list by its name -/
theorem ew_ixO {i : Nat} {x : Str} {px : Pos} (hb : EvW X b ρ fun e ρ1 => ∃ l ds j d, ρ1[i]? = some (.lst l ds) ∧ e = .int j ∧ atI ds j = some d ∧ Q d ρ1) {l0 : Addr} {ds0 : List PyData} (h0 : ρ[i]? = some (.lst l0 ds0)) (hs : PlainIx b := by exact fun _ _ => rfl)
    (hN : X.N[i]? = some x := by rfl) (hv : Vis X.env.scope x := by first | exact Or.inl rfl | exact Or.inr (Or.inl rfl) | exact Or.inr (Or.inr rfl)) (hd : (x == ("__debug__" : Str)) = false := by decide) (hcd : (x == ("__classdict__" : Str)) = false := by decide) :
    EvW X (.Subscript (.Name x px) b pos) ρ Q := fun σ G H rel R k => by
  obtain ⟨e0, n0, vs0, hH0, hv0⟩ := rel.sl i _ h0
  refine te_of (pe_ix ix_list (pe_var hN hv hd hcd) pe_W hs) ⟨_, e0, hb σ G H rel _ fun v d ρ1 G1 H1 r1 s1 i1 ⟨l, ds, j, f, h1, h2, h3, q⟩ => ?_⟩
  subst h2
  cases i1
  obtain ⟨e1, n1, vs1, hH1, hv1⟩ := r1.sl i _ h1
  rw [e0] at e1
  cases e1
  obtain ⟨m, z1, z2, z3, z4, z5⟩ := atI_get h3
  obtain ⟨u, z6, z7⟩ := hv1.get z2
  refine ⟨_, _, j, u, rfl, rfl, SqL.of hH1, ?_, k u f ρ1 G1 H1 r1 s1 z7 q⟩
  unfold atI at h3 ⊢
  rw [hv1.length]
  cases hx : ixN ds.length j with
  | none => rw [hx] at h3; cases h3
  | some j' =>
    have := (ixN_seq hx).1
    rw [z1] at this
    cases this
    exact z6
theorem ev_ixO {i : Nat} {x : Str} {px : Pos} {l : Addr} {j : Int} (h0 : ρ[i]? = some (.lst l ds)) (hb : Ev X b ρ (.int j)) (h : atI ds j = some d) (hs : PlainIx b := by exact fun _ _ => rfl)
    (hN : X.N[i]? = some x := by rfl) (hv : Vis X.env.scope x := by first | exact Or.inl rfl | exact Or.inr (Or.inl rfl) | exact Or.inr (Or.inr rfl)) (hd : (x == ("__debug__" : Str)) = false := by decide) (hcd : (x == ("__classdict__" : Str)) = false := by decide) :
    Ev X (.Subscript (.Name x px) b pos) ρ d := ew_ixO (hb.w ⟨l, ds, j, d, h0, rfl, h, rfl, rfl⟩) h0 hs hN hv hd hcd

/-! built-in calls by values -/
def CaD (K : PySem.W.Frag) (r : List V → Hp → VK → Prop) (ds : List PyData) (k : PyData → Prop) : Prop := ∀ (G H : Hp) (vs : List V), Ex G H → IsAll K G vs ds → ∀ R : VK, (∀ u f G' H', PSt G H G' H' → Is K G' u f → k f → R u H') → r vs H R
theorem ew_callB {x : Str} {id : String} {px : Pos} {r : List V → Hp → VK → Prop} (hc : CallR X (.builtin id) r) (hm : X.mg x = none) (hv : bootBuiltins x = some (.builtin id)) (ha : AvW X (e :: es) ρ fun ds ρ1 => CaD X.K r ds fun f => Q f ρ1) (hg : Gl X x := by rfl) (hn : x ≠ "__name__" := by decide) (hdb : (x == ("__debug__" : Str)) = false := by decide)
    (he : starEach (e :: es) X.env = (false, eval e X.env) :: starEach es X.env := by rfl) (hpl : (backTo pos (starEach es X.env)).any (·.1) = false := by rfl) : EvW X (.Call (.Name x px) (e :: es) [] pos) ρ Q := fun σ G H rel R k =>
  te_of (pe_callB hc hg hm hv pa_W hn hdb he hpl) (ha σ G H rel _ fun vs ds ρ1 G1 H1 r1 s1 i1 q1 => q1 G1 H1 vs r1.ex i1 R fun u f G2 H2 p i2 q2 => k u f ρ1 G2 H2 (r1.pure p) (s1.trans p.stp) i2 q2)
theorem ew_callTy {x : Str} {T : String} {px : Pos} {r : List V → Hp → VK → Prop} (hc : CallR X (.type T) r) (hm : X.mg x = none) (hv : bootBuiltins x = some (.type T)) (ha : AvW X (e :: es) ρ fun ds ρ1 => CaD X.K r ds fun f => Q f ρ1) (hg : Gl X x := by rfl) (hn : x ≠ "__name__" := by decide) (hdb : (x == ("__debug__" : Str)) = false := by decide)
    (he : starEach (e :: es) X.env = (false, eval e X.env) :: starEach es X.env := by rfl) (hpl : (backTo pos (starEach es X.env)).any (·.1) = false := by rfl) : EvW X (.Call (.Name x px) (e :: es) [] pos) ρ Q := fun σ G H rel R k =>
  te_of (pe_callTy hc hg hm hv pa_W hn hdb he hpl) (ha σ G H rel _ fun vs ds ρ1 G1 H1 r1 s1 i1 q1 => q1 G1 H1 vs r1.ex i1 R fun u f G2 H2 p i2 q2 => k u f ρ1 G2 H2 (r1.pure p) (s1.trans p.stp) i2 q2)
theorem ev_abs {i : Int} {px : Pos} (hm : X.mg "abs" = none) (ha : Ev X a ρ (.int i)) (hg : Gl X "abs" := by rfl) (he : starEach [a] X.env = (false, eval a X.env) :: starEach [] X.env := by rfl) (hpl : (backTo pos (starEach [] X.env)).any (·.1) = false := by rfl) : Ev X (.Call (.Name "abs" px) [a] [] pos) ρ (.int (if i < 0 then -i else i)) :=
  ew_callB call_abs hm (by decide +kernel) ((av_cons ha av_nil he).w fun G H vs x hv R z => by
    cases hv with
    | cons h1 h2 =>
      cases h1
      cases h2
      exact ⟨i, rfl, z _ _ G H (.refl x) (.int _) ⟨rfl, rfl⟩⟩) hg (by decide) (by decide) he hpl
theorem ev_int1 {i : Int} {px : Pos} (hm : X.mg "int" = none) (ha : Ev X a ρ (.int i)) (hg : Gl X "int" := by rfl) (he : starEach [a] X.env = (false, eval a X.env) :: starEach [] X.env := by rfl) (hpl : (backTo pos (starEach [] X.env)).any (·.1) = false := by rfl) : Ev X (.Call (.Name "int" px) [a] [] pos) ρ (.int i) :=
  ew_callTy call_int1 hm (by decide +kernel) ((av_cons ha av_nil he).w fun G H vs x hv R z => by
    cases hv with
    | cons h1 h2 =>
      cases h1
      cases h2
      exact .inl ⟨i, rfl, z _ _ G H (.refl x) (.int _) ⟨rfl, rfl⟩⟩) hg (by decide) (by decide) he hpl
theorem ev_max2 {i j : Int} {px : Pos} (hc : X.calm = true) (hm : X.mg "max" = none) (ha : Av X [a, b] ρ [.int i, .int j]) (hg : Gl X "max" := by rfl) (he : starEach [a, b] X.env = (false, eval a X.env) :: starEach [b] X.env := by rfl) (hpl : (backTo pos (starEach [b] X.env)).any (·.1) = false := by rfl) : Ev X (.Call (.Name "max" px) [a, b] [] pos) ρ (.int (if j > i then j else i)) :=
  ew_callB (call_max2 hc) hm (by decide +kernel) (ha.w fun G H vs x hv R z => by
    cases hv with
    | cons h1 h2 =>
      cases h2 with
      | cons h2 h3 =>
        cases h1
        cases h2
        cases h3
        exact ⟨i, j, rfl, z _ _ G H (.refl x) (.int _) ⟨rfl, rfl⟩⟩) hg (by decide) (by decide) he hpl
theorem ev_min2 {i j : Int} {px : Pos} (hc : X.calm = true) (hm : X.mg "min" = none) (ha : Av X [a, b] ρ [.int i, .int j]) (hg : Gl X "min" := by rfl) (he : starEach [a, b] X.env = (false, eval a X.env) :: starEach [b] X.env := by rfl) (hpl : (backTo pos (starEach [b] X.env)).any (·.1) = false := by rfl) : Ev X (.Call (.Name "min" px) [a, b] [] pos) ρ (.int (if j < i then j else i)) :=
  ew_callB (call_min2 hc) hm (by decide +kernel) (ha.w fun G H vs x hv R z => by
    cases hv with
    | cons h1 h2 =>
      cases h2 with
      | cons h2 h3 =>
        cases h1
        cases h2
        cases h3
        exact ⟨i, j, rfl, z _ _ G H (.refl x) (.int _) ⟨rfl, rfl⟩⟩) hg (by decide) (by decide) he hpl
/-- len of data -/
def dlen : PyData → Option Nat
  | .list ds => some ds.length
  | .tuple ds => some ds.length
  | _ => none
theorem ew_len {px : Pos} (hm : X.mg "len" = none) (ha : EvW X a ρ fun d ρ1 => ∃ n, dlen d = some n ∧ Q (.int n) ρ1) (hg : Gl X "len" := by rfl) (he : starEach [a] X.env = (false, eval a X.env) :: starEach [] X.env := by rfl) (hpl : (backTo pos (starEach [] X.env)).any (·.1) = false := by rfl) : EvW X (.Call (.Name "len" px) [a] [] pos) ρ Q :=
  ew_callB call_len_seq hm PySem.boot_len (aw_cons ha (fun d ρ1 ⟨n, h, q⟩ => aw_nil fun G H vs x hv R z => by
    cases hv with
    | cons h1 h2 =>
      cases h2
      cases h1 with
      | lst h3 h4 =>
        refine ⟨_, _, rfl, .inl (ex_l x h3), z _ _ G H (.refl x) (.int _) ?_⟩
        rw [h4.length]
        cases h
        exact q
      | tup h3 h4 =>
        refine ⟨_, _, rfl, .inr (ex_t x h3), z _ _ G H (.refl x) (.int _) ?_⟩
        rw [h4.length]
        cases h
        exact q
      | _ => cases h) he) hg (by decide) (by decide) he hpl
theorem ev_len {px : Pos} {n : Nat} (hm : X.mg "len" = none) (ha : Ev X a ρ d) (h : dlen d = some n) (hg : Gl X "len" := by rfl) (he : starEach [a] X.env = (false, eval a X.env) :: starEach [] X.env := by rfl) (hpl : (backTo pos (starEach [] X.env)).any (·.1) = false := by rfl) : Ev X (.Call (.Name "len" px) [a] [] pos) ρ (.int n) :=
  ew_len hm (ha.w ⟨n, h, rfl, rfl⟩) hg he hpl
/-- len of an own list, by its name -/
theorem ev_lenO {i : Nat} {x : Str} {px pn : Pos} {l : Addr} (hm : X.mg "len" = none) (h0 : ρ[i]? = some (.lst l ds)) (hg : Gl X "len" := by rfl) (hN : X.N[i]? = some x := by rfl) (hv : Vis X.env.scope x := by first | exact Or.inl rfl | exact Or.inr (Or.inl rfl) | exact Or.inr (Or.inr rfl)) (hd : (x == ("__debug__" : Str)) = false := by decide) (hcd : (x == ("__classdict__" : Str)) = false := by decide)
    (he : starEach [.Name x pn] X.env = (false, eval (.Name x pn) X.env) :: starEach [] X.env := by rfl) (hpl : (backTo pos (starEach [] X.env)).any (·.1) = false := by rfl) : Ev X (.Call (.Name "len" px) [.Name x pn] [] pos) ρ (.int ds.length) := fun σ G H rel R k => by
  obtain ⟨e0, n0, vs0, hH0, hv0⟩ := rel.sl i _ h0
  refine te_of (pe_callB call_len_seq hg hm PySem.boot_len (pa_cons (pe_var hN hv hd hcd) pa_nil he) (by decide) (by decide) he hpl) ⟨_, e0, _, _, rfl, .inl (SqL.of hH0), ?_⟩
  rw [hv0.length]
  exact k _ _ ρ G H rel .refl (.int _) ⟨rfl, rfl⟩
/-- tuple of data -/
theorem ew_tuple {px : Pos} (hm : X.mg "tuple" = none) (ha : EvW X a ρ fun d ρ1 => ∃ ds, (d = .list ds ∨ d = .tuple ds) ∧ Q (.tuple ds) ρ1) (hg : Gl X "tuple" := by rfl) (he : starEach [a] X.env = (false, eval a X.env) :: starEach [] X.env := by rfl) (hpl : (backTo pos (starEach [] X.env)).any (·.1) = false := by rfl) : EvW X (.Call (.Name "tuple" px) [a] [] pos) ρ Q :=
  ew_callTy call_tuple_of hm (by decide +kernel) (aw_cons ha (fun d ρ1 ⟨ds, h, q⟩ => aw_nil fun G H vs x hv R z => by
    cases hv with
    | cons h1 h2 =>
      cases h2
      rcases h with h | h
      · subst h
        cases h1 with
        | lst h3 h4 =>
          rename_i _ xs0
          refine ⟨_, _, rfl, .inl ⟨ex_l x h3, fun p hp => ?_⟩⟩
          have P := PSt.new (o := .tup xs0) x hp
          exact z _ _ _ _ P (.tup (SqT.of upd_same) (h4.mono P.gg)) q
      · subst h
        cases h1 with
        | tup h3 h4 => exact ⟨_, _, rfl, .inr ⟨ex_t x h3, z _ _ G H (.refl x) (.tup h3 h4) q⟩⟩) he) hg (by decide) (by decide) he hpl
theorem ev_tuple {px : Pos} (hm : X.mg "tuple" = none) (ha : Ev X a ρ (.list ds)) (hg : Gl X "tuple" := by rfl) (he : starEach [a] X.env = (false, eval a X.env) :: starEach [] X.env := by rfl) (hpl : (backTo pos (starEach [] X.env)).any (·.1) = false := by rfl) : Ev X (.Call (.Name "tuple" px) [a] [] pos) ρ (.tuple ds) :=
  ew_tuple hm (ha.w ⟨ds, .inl rfl, rfl, rfl⟩) hg he hpl
theorem ev_tupleO {i : Nat} {x : Str} {px pn : Pos} {l : Addr} (hm : X.mg "tuple" = none) (h0 : ρ[i]? = some (.lst l ds)) (hg : Gl X "tuple" := by rfl) (hN : X.N[i]? = some x := by rfl) (hv : Vis X.env.scope x := by first | exact Or.inl rfl | exact Or.inr (Or.inl rfl) | exact Or.inr (Or.inr rfl)) (hd : (x == ("__debug__" : Str)) = false := by decide) (hcd : (x == ("__classdict__" : Str)) = false := by decide)
    (he : starEach [.Name x pn] X.env = (false, eval (.Name x pn) X.env) :: starEach [] X.env := by rfl) (hpl : (backTo pos (starEach [] X.env)).any (·.1) = false := by rfl) : Ev X (.Call (.Name "tuple" px) [.Name x pn] [] pos) ρ (.tuple ds) := fun σ G H rel R k => by
  obtain ⟨e0, n0, vs0, hH0, hv0⟩ := rel.sl i _ h0
  refine te_of (pe_callTy call_tuple_of hg hm (by decide +kernel) (pa_cons (pe_var hN hv hd hcd) pa_nil he) (by decide) (by decide) he hpl) ⟨_, e0, _, _, rfl, .inl ⟨SqL.of hH0, fun p hp => ?_⟩⟩
  have P := PSt.new (o := .tup vs0) rel.ex hp
  exact k _ _ ρ _ _ (rel.pure P) P.stp (.tup (SqT.of upd_same) (hv0.mono P.gg)) ⟨rfl, rfl⟩
/-- all, any of bools -/
theorem ew_all {px : Pos} (hc : X.calm = true) (hm : X.mg "all" = none) (ha : EvW X a ρ fun d ρ1 => ∃ bs : List Bool, d = .list (bs.map PyData.bool) ∧ Q (.bool (bs.all id)) ρ1) (hg : Gl X "all" := by rfl) (he : starEach [a] X.env = (false, eval a X.env) :: starEach [] X.env := by rfl) (hpl : (backTo pos (starEach [] X.env)).any (·.1) = false := by rfl) : EvW X (.Call (.Name "all" px) [a] [] pos) ρ Q :=
  ew_callB (cr_all hc) hm (by decide +kernel) (aw_cons ha (fun d ρ1 ⟨bs, h, q⟩ => aw_nil fun G H vs x hv R z => by
    subst h
    cases hv with
    | cons h1 h2 =>
      cases h2
      cases h1 with
      | lst h3 h4 =>
        have h5 := h4.bls
        subst h5
        exact ⟨_, bs, rfl, ex_l x h3, z _ _ G H (.refl x) (.bl _) q⟩) he) hg (by decide) (by decide) he hpl
theorem ew_any {px : Pos} (hc : X.calm = true) (hm : X.mg "any" = none) (ha : EvW X a ρ fun d ρ1 => ∃ bs : List Bool, d = .list (bs.map PyData.bool) ∧ Q (.bool (bs.any id)) ρ1) (hg : Gl X "any" := by rfl) (he : starEach [a] X.env = (false, eval a X.env) :: starEach [] X.env := by rfl) (hpl : (backTo pos (starEach [] X.env)).any (·.1) = false := by rfl) : EvW X (.Call (.Name "any" px) [a] [] pos) ρ Q :=
  ew_callB (cr_any hc) hm (by decide +kernel) (aw_cons ha (fun d ρ1 ⟨bs, h, q⟩ => aw_nil fun G H vs x hv R z => by
    subst h
    cases hv with
    | cons h1 h2 =>
      cases h2
      cases h1 with
      | lst h3 h4 =>
        have h5 := h4.bls
        subst h5
        exact ⟨_, bs, rfl, ex_l x h3, z _ _ G H (.refl x) (.bl _) q⟩) he) hg (by decide) (by decide) he hpl
theorem ew_minI {px : Pos} (hc : X.calm = true) (hm : X.mg "min" = none) (ha : EvW X a ρ fun d ρ1 => ∃ ns : List Int, d = .list (ns.map PyData.int) ∧ 0 < ns.length ∧ ∀ m, m ∈ ns → (∀ y, y ∈ ns → m ≤ y) → Q (.int m) ρ1) (hg : Gl X "min" := by rfl) (he : starEach [a] X.env = (false, eval a X.env) :: starEach [] X.env := by rfl) (hpl : (backTo pos (starEach [] X.env)).any (·.1) = false := by rfl) : EvW X (.Call (.Name "min" px) [a] [] pos) ρ Q :=
  ew_callB (cr_min hc) hm (by decide +kernel) (aw_cons ha (fun d ρ1 ⟨ns, h, hl, q⟩ => aw_nil fun G H vs x hv R z => by
    subst h
    cases hv with
    | cons h1 h2 =>
      cases h2
      cases h1 with
      | lst h3 h4 =>
        have h5 := h4.ints
        subst h5
        exact ⟨_, ns, rfl, ex_l x h3, hl, fun m h1 h2 => z _ _ G H (.refl x) (.int _) (q m h1 h2)⟩) he) hg (by decide) (by decide) he hpl
end
end Pl
namespace Pl
open PySem PySem.Spec PyProof.Rows L2
open Evl (Ex ex_t ex_l)
section
variable {K : PySem.W.Frag} {ρ ρ' : Rho} {G H G' H' : Hp} {D : En} {T : Ends}
/-- what is wanted from here is met from there, one step on -/
theorem Meets.step (m : Meets K ρ G H D T) (s : Stp ρ G H ρ' G' H') : Meets K ρ' G' H' D T :=
  ⟨fun r σ' G1 H1 a b q => m.nx r σ' G1 H1 a (s.trans b) q, fun v d r σ' G1 H1 a b i q => m.rt v d r σ' G1 H1 a (s.trans b) i q, fun r σ' G1 H1 a b q => m.bk r σ' G1 H1 a (s.trans b) q, fun r σ' G1 H1 a b q => m.ct r σ' G1 H1 a (s.trans b) q⟩
end
section
variable {X : Cx} {e a b c tg iter : Expr} {es ts ifs rest : List Expr} {st : Stmt} {sts body orelse : List Stmt} {ρ : Rho} {d f : PyData} {ds : List PyData} {pos : Pos} {D D' : En}
theorem BvW.imp (h : BvW X sts ρ D) (h1 : ∀ r, D.nx r → D'.nx r) (h2 : ∀ d r, D.rt d r → D'.rt d r) (h3 : ∀ r, D.bk r → D'.bk r) (h4 : ∀ r, D.ct r → D'.ct r) : BvW X sts ρ D' := fun σ G H rel T m =>
  h σ G H rel T ⟨fun r σ' G1 H1 a b q => m.nx r σ' G1 H1 a b (h1 r q), fun v d r σ' G1 H1 a b i q => m.rt v d r σ' G1 H1 a b i (h2 d r q), fun r σ' G1 H1 a b q => m.bk r σ' G1 H1 a b (h3 r q), fun r σ' G1 H1 a b q => m.ct r σ' G1 H1 a b (h4 r q)⟩
/-! blocks -/
theorem b_nil (q : D.nx ρ) : BvW X [] ρ D := fun σ G H rel T m => tb_of pss_nil (m.nx ρ σ G H rel .refl q)
theorem b_cons (h : SvW X st ρ { D with nx := fun ρ1 => BvW X sts ρ1 D }) : BvW X (st :: sts) ρ D := fun σ G H rel T m =>
  tb_of (pss_cons ps_W pb_W) (show tsW X st { T with nx := tbW X sts T } σ H from h σ G H rel _ ⟨fun ρ1 σ1 G1 H1 r1 s1 q => q σ1 G1 H1 r1 T (m.step s1), m.rt, m.bk, m.ct⟩)
/-- a slot, or several, forgotten -/
theorem b_weak {ρ' : Rho} (w : Weak ρ ρ') (h : BvW X sts ρ' D) : BvW X sts ρ D := fun σ G H rel T m => h σ G H (rel.weak w) T (m.step w.stp)
theorem b_freeze {i : Nat} {l : Addr} (e : ρ[i]? = some (.lst l ds)) (h : BvW X sts (ρ.set i (.dat (.list ds))) D) : BvW X sts ρ D := fun σ G H rel T m => by
  obtain ⟨G', r1, s1⟩ := rel.freeze e
  exact h σ G' H r1 T (m.step s1)
theorem s_pass (q : D.nx ρ) : SvW X (.Pass pos) ρ D := fun σ G H rel T m => ts_of ps_pass (m.nx ρ σ G H rel .refl q)
theorem s_ret (h : EvW X e ρ D.rt) : SvW X (.Return (some e) pos) ρ D := fun σ G H rel T m => ts_of (ps_ret pe_W) (h σ G H rel T.rt fun v d ρ1 G1 H1 r1 s1 i1 q1 => m.rt v d ρ1 σ G1 H1 r1 s1 i1 q1)
theorem s_if (hc : TvW X c ρ fun k ρ1 => if k = true then BvW X body ρ1 D else BvW X orelse ρ1 D) : SvW X (.If c body orelse pos) ρ D := fun σ G H rel T m => ts_of (ps_if pt_W pb_W pb_W) (hc σ G H rel _ fun k ρ1 G1 H1 r1 s1 q1 => by
  cases k with
  | true =>
    rw [if_pos rfl] at q1 ⊢
    exact q1 σ G1 H1 r1 T (m.step s1)
  | false =>
    rw [if_neg Bool.false_ne_true] at q1 ⊢
    exact q1 σ G1 H1 r1 T (m.step s1))
theorem s_if' {k : Bool} (hc : Tv X c ρ k) (h1 : k = true → BvW X body ρ D) (h2 : k = false → BvW X orelse ρ D) : SvW X (.If c body orelse pos) ρ D := s_if (hc.w (by
  cases k with
  | true =>
    rw [if_pos rfl]
    exact h1 rfl
  | false =>
    rw [if_neg Bool.false_ne_true]
    exact h2 rfl))
/-- name = data -/
theorem s_set {i : Nat} {x : Str} {px : Pos} (nd : X.N.Nodup) (h : EvW X e ρ fun d ρ1 => D.nx (ρ1.set i (.dat d))) (hi : X.N[i]? = some x := by rfl) (hx : Loc X.env.scope x := by first | exact Or.inl rfl | exact Or.inr rfl) (hs : swapsWith e (some (.Name x px)) pos.line X.env = pure false := by rfl)
    (hf : X.fn x = true ∨ X.env.scope.names.lookup x = some .local := by first | exact .inl rfl | exact .inr rfl) : SvW X (.Assign [.Name x px] e pos) ρ D := fun σ G H rel T m =>
  ts_of (ps_set nd hi hx pe_W hs hf) (h σ G H rel _ fun v d ρ1 G1 H1 r1 s1 i1 q1 => m.nx _ _ G1 H1 (r1.dat i1) (s1.trans Stp.dat) q1)
theorem Stp.newL {G H G1 H1 : Hp} {ρ ρ1 : Rho} {i : Nat} {l : Addr} {ds : List PyData} (s : Stp ρ G H ρ1 G1 H1) (n : H l = none) : Stp ρ G H (ρ1.set i (.lst l ds)) G1 H1 :=
  ⟨s.gg, s.fr, s.kp, s.al, fun b ⟨j, hb⟩ => by
    rcases ownAt_set hb with ⟨_, z⟩ | ⟨_, z⟩
    · cases z
      exact .inr n
    · exact s.ow b ⟨j, z⟩⟩
/-- name = a new list, owned from here -/
theorem s_setL {i : Nat} {x : Str} {px : Pos} (nd : X.N.Nodup) (h : ElW X e ρ fun ds ρ1 => ∀ l, D.nx (ρ1.set i (.lst l ds))) (hi : X.N[i]? = some x := by rfl) (hx : Loc X.env.scope x := by first | exact Or.inl rfl | exact Or.inr rfl) (hs : swapsWith e (some (.Name x px)) pos.line X.env = pure false := by rfl)
    (hf : X.fn x = true ∨ X.env.scope.names.lookup x = some .local := by first | exact .inl rfl | exact .inr rfl) : SvW X (.Assign [.Name x px] e pos) ρ D := fun σ G H rel T m =>
  ts_of (ps_set nd hi hx pe_W hs hf) (h σ G H rel _ fun l vs ds ρ1 G1 H1 r1 s1 n1 n2 n3 h1 i1 q1 => m.nx _ _ G1 H1 (r1.new n1 h1 i1 n2) (s1.newL n3) (q1 l))
/-! targets -/
theorem g_name {W : Nat → Prop} {i : Nat} {x : Str} {px : Pos} {QG : Rho → Prop} (nd : X.N.Nodup) (hW : W i) (q : QG (ρ.set i (.dat d))) (hi : X.N[i]? = some x := by rfl) (hx : Loc X.env.scope x := by first | exact Or.inl rfl | exact Or.inr rfl)
    (hf : X.fn x = true ∨ X.env.scope.names.lookup x = some .local := by first | exact .inl rfl | exact .inr rfl) : GvW X W (.Name x px) d ρ QG := fun σ G H v rel iv R k => tg_of (pg_name nd hi hx hf) (k _ _ G H (rel.dat iv) Stp.dat ⟨List.length_set .., fun j hj => List.getElem?_set_ne fun z => hj (by rw [← z]; exact hW)⟩ q)
theorem gs_nil {W : Nat → Prop} {QG : Rho → Prop} (q : QG ρ) : GsW X W [] [] ρ QG := fun σ G H vs rel iv R k => tgs_of pgs_nil (by
  cases iv
  exact ⟨rfl, k ρ σ G H rel .refl .refl q⟩)
theorem gs_cons {W : Nat → Prop} {QG : Rho → Prop} (h1 : GvW X W e d ρ fun ρ1 => GsW X W es ds ρ1 QG) (hs : (assignEach (e :: es) X.env).map (·.2) = assign e X.env :: (assignEach es X.env).map (·.2) := by rfl) : GsW X W (e :: es) (d :: ds) ρ QG := fun σ G H vs rel iv R k => tgs_of (pgs_cons pg_W pgs_W hs) (by
  cases iv with
  | cons i1 i2 =>
    exact ⟨_, _, rfl, h1 σ G H _ rel i1 _ fun ρ1 σ1 G1 H1 r1 s1 c1 q1 => q1 σ1 G1 H1 _ r1 (i2.mono s1.gg) R fun ρ2 σ2 G2 H2 r2 s2 c2 q2 => k ρ2 σ2 G2 H2 r2 (s1.trans s2) (c1.trans c2) q2⟩)
theorem g_tup {W : Nat → Prop} {QG : Rho → Prop} {k : Nat} (hc : X.calm = true) (h : GsW X W es ds ρ QG) (hn : (assignEach es X.env).length = ds.length := by rfl) (hst : (assignEach es X.env).findIdx? (·.1) = none := by rfl) : GvW X W (.Tuple es k pos) (.tuple ds) ρ QG := fun σ G H v rel iv R kk => tg_of (pg_tup hc pgs_W hn hst) (by
  cases iv with
  | tup h1 h2 => exact ⟨_, _, rfl, ex_t rel.ex h1, h2.length, h σ G H _ rel h2 R kk⟩)
theorem s_asg (h : EvW X e ρ fun d ρ1 => GvW X (fun _ => True) tg d ρ1 D.nx) (hs : swapsWithSole [tg] e pos.line X.env = pure false := by rfl) (hw : swappedStores [tg] e X.env = pure none := by rfl)
    (h1 : (assignEach [tg] X.env).map (·.2) = [assign tg X.env] := by rfl) : SvW X (.Assign [tg] e pos) ρ D := fun σ G H rel T m => ts_of (ps_asg pe_W pg_W hs hw h1) (h σ G H rel _ fun v d ρ1 G1 H1 r1 s1 i1 q1 => q1 σ G1 H1 v r1 i1 _ fun ρ2 σ2 G2 H2 r2 s2 _ q2 => m.nx ρ2 σ2 G2 H2 r2 (s1.trans s2) q2)
/-! several values at once, some of them new lists -/
def SlV (K : PySem.W.Frag) (G H : Hp) (v : V) : Sl → Prop
  | .un => False
  | .dat d => Is K G v d
  | .lst a ds => v = .ref a ∧ G a = none ∧ ∃ vs, H a = some (.lst vs) ∧ IsAll K G vs ds
  | .obj a o => v = .ref a ∧ G a = none ∧ ∃ u, H a = some u ∧ o.p K G a u
theorem SlV.step {K : PySem.W.Frag} {ρ ρ' : Rho} {G H G' H' : Hp} {v : V} {s : Sl} (h : SlV K G H v s) (hn : ∀ a, s.own = some a → ¬ Own ρ a) (p : Stp ρ G H ρ' G' H') : SlV K G' H' v s ∧ ∀ a, s.own = some a → ¬ Own ρ' a := by
  cases s with
  | un => exact h.elim
  | dat d => exact ⟨h.mono p.gg, fun a z => by cases z⟩
  | lst a ds =>
    obtain ⟨h1, h2, vs, h3, h4⟩ := h
    have no := hn a rfl
    refine ⟨⟨h1, p.fr a no h2 (by rw [h3]; exact nofun), vs, p.kp a _ no h3, h4.mono p.gg⟩, fun b z w => ?_⟩
    cases z
    rcases p.ow a w with w | w
    · exact no w
    · rw [h3] at w
      cases w
  | obj a o =>
    obtain ⟨h1, h2, u, h3, h4⟩ := h
    have no := hn a rfl
    refine ⟨⟨h1, p.fr a no h2 (by rw [h3]; exact nofun), u, p.kp a _ no h3, o.up p.gg h4⟩, fun b z w => ?_⟩
    cases z
    rcases p.ow a w with w | w
    · exact no w
    · rw [h3] at w
      cases w
/-- one value, new or frozen -/
def ExW (X : Cx) (e : Expr) (ρ : Rho) (Q : Sl → Rho → Prop) : Prop := ∀ (σ : L2.St) (G H : Hp), Rel X.K ρ σ G H → ∀ R : VK,
  (∀ v s ρ' G' H', Rel X.K ρ' σ G' H' → Stp ρ G H ρ' G' H' → SlV X.K G' H' v s → (∀ a, s.own = some a → ¬ Own ρ' a ∧ H a = none) → Q s ρ' → R v H') → teW X e σ H R
theorem ex_dat {Q : Sl → Rho → Prop} (h : EvW X e ρ fun d ρ1 => Q (.dat d) ρ1) : ExW X e ρ Q := fun σ G H rel R k => h σ G H rel R fun v d ρ1 G1 H1 r1 s1 i1 q1 => k v (.dat d) ρ1 G1 H1 r1 s1 i1 (fun a z => by cases z) q1
theorem ex_new {Q : Sl → Rho → Prop} (h : ElW X e ρ fun ds ρ1 => ∀ l, Q (.lst l ds) ρ1) : ExW X e ρ Q := fun σ G H rel R k => h σ G H rel R fun l vs ds ρ1 G1 H1 r1 s1 n1 n2 n3 h1 i1 q1 => k (.ref l) (.lst l ds) ρ1 G1 H1 r1 s1 ⟨rfl, n1, vs, h1, i1⟩ (fun a z => by
  cases z
  exact ⟨n2, n3⟩) (q1 l)
theorem Stp.unused {ρ ρ1 : Rho} {G H G1 H1 : Hp} (s : Stp ρ G H ρ1 G1 H1) {a : Addr} (h : H1 a = none) : H a = none := by
  cases q : H a with
  | none => rfl
  | some o => exact absurd h (s.al a (by rw [q]; exact nofun))
theorem SlV.ok {K : PySem.W.Frag} {σ : L2.St} {G H : Hp} {v : V} {s : Sl} {i : Nat} (h : SlV K G H v s) (e : σ[i]? = some (some v)) : SlOk K σ G H i s := by
  cases s with
  | un => exact h.elim
  | dat d => exact ⟨v, e, h⟩
  | lst a ds =>
    obtain ⟨rfl, h2, h3⟩ := h
    exact ⟨e, h2, h3⟩
  | obj a o =>
    obtain ⟨rfl, h2, u, h3, h4⟩ := h
    exact ⟨e, h2, u, h3, h4⟩
theorem Rel.lay {K : PySem.W.Frag} {ρ : Rho} {σ : L2.St} {G H : Hp} {i : Nat} {v : V} {s : Sl} (r : Rel K ρ σ G H) (h : SlV K G H v s) (hn : ∀ a, s.own = some a → ¬ Own ρ a) : Rel K (ρ.set i s) (σ.set i (some v)) G H :=
  r.set (fun hl => h.ok (by rw [List.getElem?_set_self (by rw [← r.len]; exact hl)])) hn
theorem Stp.lay {ρ ρ1 : Rho} {G H G1 H1 : Hp} {i : Nat} {s : Sl} (p : Stp ρ G H ρ1 G1 H1) (hn : ∀ a, s.own = some a → H a = none) : Stp ρ G H (ρ1.set i s) G1 H1 :=
  ⟨p.gg, p.fr, p.kp, p.al, fun b ⟨j, hb⟩ => by
    rcases ownAt_set hb with ⟨_, z⟩ | ⟨_, z⟩
    · exact .inr (hn b z)
    · exact p.ow b ⟨j, z⟩⟩
theorem own_set {ρ : Rho} {i : Nat} {s : Sl} {a : Addr} (h : Own (ρ.set i s) a) : s.own = some a ∨ Own ρ a := by
  obtain ⟨j, hb⟩ := h
  rcases ownAt_set hb with ⟨_, z⟩ | ⟨_, z⟩
  · exact .inl z
  · exact .inr ⟨j, z⟩
theorem SlV.inH {K : PySem.W.Frag} {G H : Hp} {v : V} {s : Sl} (h : SlV K G H v s) {a : Addr} (e : s.own = some a) : H a ≠ Option.none := by
  cases s with
  | un => exact h.elim
  | dat d => cases e
  | lst b ds =>
    cases e
    obtain ⟨h1, h2, vs, h3, h4⟩ := h
    rw [h3]
    exact nofun
  | obj b o =>
    cases e
    obtain ⟨h1, h2, u, h3, h4⟩ := h
    rw [h3]
    exact nofun
/-- a, b = x, y, plain local names -/
theorem s_par {i j : Nat} {x y : Str} {px py pt : Pos} {kt k2 pt2} (hc : X.calm = true) (nd : X.N.Nodup) (h : ExW X a ρ fun s ρ1 => ExW X b ρ1 fun t ρ2 => D.nx ((ρ2.set i s).set j t)) (hi : X.N[i]? = some x := by rfl) (hj : X.N[j]? = some y := by rfl) (hij : i ≠ j := by decide)
    (hx : X.env.scope.names.lookup x = some .local := by rfl) (hy : X.env.scope.names.lookup y = some .local := by rfl)
    (hw : swappedStores [.Tuple [.Name x px, .Name y py] kt pt] (.Tuple [a, b] k2 pt2) X.env = pure (some [x, y]) := by rfl)
    (hs : swapsWithSole [.Tuple [.Name x px, .Name y py] kt pt] (.Tuple [a, b] k2 pt2) pos.line X.env = pure false := by rfl)
    (e1 : starEach [a, b] X.env = (false, eval a X.env) :: starEach [b] X.env := by rfl) (e2 : starEach [b] X.env = (false, eval b X.env) :: starEach [] X.env := by rfl) :
    SvW X (.Assign [.Tuple [.Name x px, .Name y py] kt pt] (.Tuple [a, b] k2 pt2) pos) ρ D := fun σ G H rel T m => ts_of (ps_par hc nd hi hj hij hx hy (pa_cons pe_W (pa_cons pe_W pa_nil e2) e1) hw hs)
  (h σ G H rel _ fun v s ρ1 G1 H1 r1 s1 v1 n1 q1 => q1 σ G1 H1 r1 _ fun w t ρ2 G2 H2 r2 s2 v2 n2 q2 => by
    obtain ⟨v1', n1'⟩ := v1.step (fun a z => (n1 a z).1) s2
    refine ⟨v, w, rfl, m.nx _ _ G2 H2 ((r2.lay v1' n1').lay v2 fun a z o => ?_) (((s1.trans s2).lay fun a z => (n1 a z).2).lay fun a z => s1.unused (n2 a z).2) q2⟩
    rcases own_set o with o | o
    · exact v1.inH o (n2 a z).2
    · exact (n2 a z).1 o)
/-- .. three -/
theorem s_par3 {i j l : Nat} {x y z : Str} {px py pz pt : Pos} {kt k2 pt2} (hc : X.calm = true) (nd : X.N.Nodup) (h : ExW X a ρ fun s ρ1 => ExW X b ρ1 fun t ρ2 => ExW X c ρ2 fun u ρ3 => D.nx (((ρ3.set i s).set j t).set l u)) (hi : X.N[i]? = some x := by rfl) (hj : X.N[j]? = some y := by rfl) (hl : X.N[l]? = some z := by rfl)
    (hij : i ≠ j := by decide) (hil : i ≠ l := by decide) (hjl : j ≠ l := by decide) (hx : X.env.scope.names.lookup x = some .local := by rfl) (hy : X.env.scope.names.lookup y = some .local := by rfl) (hz : X.env.scope.names.lookup z = some .local := by rfl)
    (hw : swappedStores [.Tuple [.Name x px, .Name y py, .Name z pz] kt pt] (.Tuple [a, b, c] k2 pt2) X.env = pure (some [x, y, z]) := by rfl)
    (hs : swapsWithSole [.Tuple [.Name x px, .Name y py, .Name z pz] kt pt] (.Tuple [a, b, c] k2 pt2) pos.line X.env = pure false := by rfl)
    (e1 : starEach [a, b, c] X.env = (false, eval a X.env) :: starEach [b, c] X.env := by rfl) (e2 : starEach [b, c] X.env = (false, eval b X.env) :: starEach [c] X.env := by rfl) (e3 : starEach [c] X.env = (false, eval c X.env) :: starEach [] X.env := by rfl) :
    SvW X (.Assign [.Tuple [.Name x px, .Name y py, .Name z pz] kt pt] (.Tuple [a, b, c] k2 pt2) pos) ρ D := fun σ G H rel T m => ts_of (ps_par3 hc nd hi hj hl hij hil hjl hx hy hz (pa_cons pe_W (pa_cons pe_W (pa_cons pe_W pa_nil e3) e2) e1) hw hs)
  (h σ G H rel _ fun v s ρ1 G1 H1 r1 s1 v1 n1 q1 => q1 σ G1 H1 r1 _ fun w t ρ2 G2 H2 r2 s2 v2 n2 q2 => q2 σ G2 H2 r2 _ fun w' u ρ3 G3 H3 r3 s3 v3 n3 q3 => by
    obtain ⟨v1', n1'⟩ := v1.step (fun a z => (n1 a z).1) s2
    obtain ⟨v1'', n1''⟩ := v1'.step n1' s3
    obtain ⟨v2', n2'⟩ := v2.step (fun a z => (n2 a z).1) s3
    refine ⟨v, w, w', rfl, m.nx _ _ G3 H3 (((r3.lay v1'' n1'').lay v2' fun a z o => ?_).lay v3 fun a z o => ?_) (((((s1.trans s2).trans s3).lay fun a z => (n1 a z).2).lay fun a z => s1.unused (n2 a z).2).lay fun a z => (s1.trans s2).unused (n3 a z).2) q3⟩
    · rcases own_set o with o | o
      · exact v1.inH o (n2 a z).2
      · exact n2' a z o
    · rcases own_set o with o | o
      · exact v2.inH o (n3 a z).2
      · rcases own_set o with o | o
        · exact v1'.inH o (n3 a z).2
        · exact (n3 a z).1 o)
/-- a, b = x, y by a tuple (a name is a cell) -/
theorem s_tup2 {i j : Nat} {x y : Str} {px py pt : Pos} {kt k2 pt2} (hc : X.calm = true) (nd : X.N.Nodup) (h : ExW X a ρ fun s ρ1 => ExW X b ρ1 fun t ρ2 => D.nx ((ρ2.set i s).set j t)) (hi : X.N[i]? = some x := by rfl) (hj : X.N[j]? = some y := by rfl)
    (hx : Loc X.env.scope x := by first | exact Or.inl rfl | exact Or.inr rfl) (hy : Loc X.env.scope y := by first | exact Or.inl rfl | exact Or.inr rfl)
    (hfx : X.fn x = true ∨ X.env.scope.names.lookup x = some .local := by first | exact .inl rfl | exact .inr rfl) (hfy : X.fn y = true ∨ X.env.scope.names.lookup y = some .local := by first | exact .inl rfl | exact .inr rfl)
    (hs : swapsWithSole [.Tuple [.Name x px, .Name y py] kt pt] (.Tuple [a, b] k2 pt2) pos.line X.env = pure false := by rfl) (hw : swappedStores [.Tuple [.Name x px, .Name y py] kt pt] (.Tuple [a, b] k2 pt2) X.env = pure none := by rfl)
    (h1 : (assignEach [.Tuple [.Name x px, .Name y py] kt pt] X.env).map (·.2) = [assign (.Tuple [.Name x px, .Name y py] kt pt) X.env] := by rfl)
    (hn : (assignEach [.Name x px, .Name y py] X.env).length = 2 := by rfl) (hst : (assignEach [.Name x px, .Name y py] X.env).findIdx? (·.1) = none := by rfl)
    (g1 : (assignEach [.Name x px, .Name y py] X.env).map (·.2) = assign (.Name x px) X.env :: (assignEach [.Name y py] X.env).map (·.2) := by rfl) (g2 : (assignEach [.Name y py] X.env).map (·.2) = assign (.Name y py) X.env :: (assignEach [] X.env).map (·.2) := by rfl)
    (e1 : starEach [a, b] X.env = (false, eval a X.env) :: starEach [b] X.env := by rfl) (e2 : starEach [b] X.env = (false, eval b X.env) :: starEach [] X.env := by rfl) :
    SvW X (.Assign [.Tuple [.Name x px, .Name y py] kt pt] (.Tuple [a, b] k2 pt2) pos) ρ D := fun σ G H rel T m => ts_of (ps_asg (pe_tup (pa_cons pe_W (pa_cons pe_W pa_nil e2) e1)) (pg_tup hc (pgs_cons (pg_name nd hi hx hfx) (pgs_cons (pg_name nd hj hy hfy) pgs_nil g2) g1) hn hst) hs hw h1)
  (h σ G H rel _ fun v s ρ1 G1 H1 r1 s1 v1 n1 q1 => q1 σ G1 H1 r1 _ fun w t ρ2 G2 H2 r2 s2 v2 n2 q2 => by
    obtain ⟨v1', n1'⟩ := v1.step (fun a z => (n1 a z).1) s2
    refine ⟨by show 2 ≤ sizeLine; decide, fun p hp => ?_⟩
    have P : PSt G2 H2 G2 (upd H2 p (.tup [v, w])) := PSt.newH r2.ex hp
    obtain ⟨v1'', n1''⟩ := v1'.step n1' (P.stp (ρ := ρ2))
    obtain ⟨v2'', n2''⟩ := v2.step (fun a z => (n2 a z).1) (P.stp (ρ := ρ2))
    refine ⟨p, _, rfl, SqT.of upd_same, rfl, v, [w], rfl, w, [], rfl, rfl, m.nx _ _ G2 _ (((r2.pure P).lay v1'' n1'').lay v2'' fun a z o => ?_) ((((s1.trans s2).trans P.stp).lay fun a z => (n1 a z).2).lay fun a z => s1.unused (n2 a z).2) q2⟩
    rcases own_set o with o | o
    · exact v1.inH o (n2 a z).2
    · exact (n2 a z).1 o)
/-- o[i] = e, o an own list by its name -/
theorem s_setI {i : Nat} {x : Str} {px ps : Pos} (h : EvW X e ρ fun d ρ1 => EvW X b ρ1 fun j ρ2 => ∃ l ds n k, ρ2[i]? = some (.lst l ds) ∧ j = .int n ∧ ixN ds.length n = some k ∧ D.nx (ρ2.set i (.lst l (ds.set k d))))
    (hN : X.N[i]? = some x := by rfl) (hv : Vis X.env.scope x := by first | exact Or.inl rfl | exact Or.inr (Or.inl rfl) | exact Or.inr (Or.inr rfl)) (hd : (x == ("__debug__" : Str)) = false := by decide) (hcd : (x == ("__classdict__" : Str)) = false := by decide)
    (ha : ∀ v, assign (.Subscript (.Name x px) b ps) X.env v = (do
      let ov ← holding [v] (eval (.Name x px) X.env)
      let iv ← holding [v, ov] (eval b X.env)
      standAt ps
      holding [v, ov, iv] (setItem ov iv v)
      release [v, ov, iv] []) := by intro _; rfl)
    (h0 : ∃ l ds, ρ[i]? = some (.lst l ds) := by exact ⟨_, _, rfl⟩)
    (hs : swapsWithSole [.Subscript (.Name x px) b ps] e pos.line X.env = pure false := by rfl) (hw : swappedStores [.Subscript (.Name x px) b ps] e X.env = pure none := by rfl)
    (h1 : (assignEach [.Subscript (.Name x px) b ps] X.env).map (·.2) = [assign (.Subscript (.Name x px) b ps) X.env] := by rfl) : SvW X (.Assign [.Subscript (.Name x px) b ps] e pos) ρ D := fun σ G H rel T m => by
  obtain ⟨l0, ds0, h0⟩ := h0
  obtain ⟨e0, _⟩ := rel.sl i _ h0
  refine ts_of (ps_asg pe_W (pg_sub (pe_var hN hv hd hcd) pe_W set_list ha) hs hw h1) (h σ G H rel _ fun v d ρ1 G1 H1 r1 s1 i1 q1 => ⟨_, e0, q1 σ G1 H1 r1 _ fun w j ρ2 G2 H2 r2 s2 i2 ⟨l, ds, n, k, z1, z2, z3, q⟩ => ?_⟩)
  subst z2
  cases i2
  obtain ⟨e2, n2, vs2, hH2, hv2⟩ := r2.sl i _ z1
  rw [e0] at e2
  cases e2
  refine ⟨_, vs2, n, k, rfl, rfl, hH2, by rw [hv2.length]; exact z3, ?_⟩
  exact m.nx _ _ G2 _ (r2.upd z1 (hv2.set k (i1.mono s2.gg))) ((s1.trans s2).trans (Stp.upd z1)) q
/-- o.append(e) -/
theorem s_app {i : Nat} {x : Str} {px pa cp : Pos} (h : EvW X e ρ fun d ρ1 => ∃ l ds, ρ1[i]? = some (.lst l ds) ∧ ds.length < 1000000 ∧ D.nx (ρ1.set i (.lst l (ds ++ [d])))) (h0 : ∃ l ds, ρ[i]? = some (.lst l ds) := by exact ⟨_, _, rfl⟩)
    (hN : X.N[i]? = some x := by rfl) (hv : Vis X.env.scope x := by first | exact Or.inl rfl | exact Or.inr (Or.inl rfl) | exact Or.inr (Or.inr rfl)) (hd : (x == ("__debug__" : Str)) = false := by decide) (hcd : (x == ("__classdict__" : Str)) = false := by decide)
    (hbase : attributeBase (.Name x px) "append" X.env (eval (.Name x px) X.env) = eval (.Name x px) X.env := by rfl)
    (hfew : ((backTo cp (starEach [e] X.env)).all (fun x => !x.1) && (backToKw cp (keywordEach [] X.env)).all (fun x => x.1.isSome) && decide (([e] : List Expr).length + ([] : List Keyword).length + (if ([] : List Keyword).isEmpty then 0 else 1) < 30)) = true := by rfl)
    (hline : (pa.endLine == cp.line) = true := by rfl) (hst : starEach [e] X.env = (false, eval e X.env) :: starEach [] X.env := by rfl) (hplain : (backTo cp (starEach [] X.env)).any (·.1) = false := by rfl)
    (hs : swapsWith (.Call (.Attribute (.Name x px) "append" pa) [e] [] cp) none pos.line X.env = pure false := by rfl) : SvW X (.Expr (.Call (.Attribute (.Name x px) "append" pa) [e] [] cp) pos) ρ D := fun σ G H rel T m => by
  obtain ⟨l0, ds0, h0⟩ := h0
  obtain ⟨e0, n0, vs0, hH0, hv0⟩ := rel.sl i _ h0
  refine ts_of (ps_expr (pe_bm PySem.F.plainAttrs_list PySem.F.slot_list_append PySem.F.type_list_append mt_append (pe_var hN hv hd hcd) (pa_cons pe_W pa_nil hst) hbase hfew hline hst hplain) hs) ⟨_, e0, .inl ⟨rfl, _, SqL.of hH0⟩, h σ G H rel _ fun v d ρ1 G1 H1 r1 s1 i1 ⟨l, ds, z1, z2, q⟩ => ?_⟩
  obtain ⟨e2, n2, vs2, hH2, hv2⟩ := r1.sl i _ z1
  rw [e0] at e2
  cases e2
  exact ⟨_, vs2, v, rfl, rfl, hH2, by rw [hv2.length]; exact bigL z2, m.nx _ _ G1 _ (r1.upd z1 (hv2.snoc i1)) (s1.trans (Stp.upd z1)) q⟩
/-- o.extend(e) -/
theorem s_ext {i : Nat} {x : Str} {px pa cp : Pos} (h : ElW X e ρ fun es ρ1 => ∃ l ds, ρ1[i]? = some (.lst l ds) ∧ ds.length + es.length ≤ 1000000 ∧ D.nx (ρ1.set i (.lst l (ds ++ es)))) (h0 : ∃ l ds, ρ[i]? = some (.lst l ds) := by exact ⟨_, _, rfl⟩)
    (hN : X.N[i]? = some x := by rfl) (hv : Vis X.env.scope x := by first | exact Or.inl rfl | exact Or.inr (Or.inl rfl) | exact Or.inr (Or.inr rfl)) (hd : (x == ("__debug__" : Str)) = false := by decide) (hcd : (x == ("__classdict__" : Str)) = false := by decide)
    (hbase : attributeBase (.Name x px) "extend" X.env (eval (.Name x px) X.env) = eval (.Name x px) X.env := by rfl)
    (hfew : ((backTo cp (starEach [e] X.env)).all (fun x => !x.1) && (backToKw cp (keywordEach [] X.env)).all (fun x => x.1.isSome) && decide (([e] : List Expr).length + ([] : List Keyword).length + (if ([] : List Keyword).isEmpty then 0 else 1) < 30)) = true := by rfl)
    (hline : (pa.endLine == cp.line) = true := by rfl) (hst : starEach [e] X.env = (false, eval e X.env) :: starEach [] X.env := by rfl) (hplain : (backTo cp (starEach [] X.env)).any (·.1) = false := by rfl)
    (hs : swapsWith (.Call (.Attribute (.Name x px) "extend" pa) [e] [] cp) none pos.line X.env = pure false := by rfl) : SvW X (.Expr (.Call (.Attribute (.Name x px) "extend" pa) [e] [] cp) pos) ρ D := fun σ G H rel T m => by
  obtain ⟨l0, ds0, h0⟩ := h0
  obtain ⟨e0, n0, vs0, hH0, hv0⟩ := rel.sl i _ h0
  refine ts_of (ps_expr (pe_bm PySem.F.plainAttrs_list PySem.F.slot_list_extend PySem.F.type_list_extend mt_extend (pe_var hN hv hd hcd) (pa_cons pe_W pa_nil hst) hbase hfew hline hst hplain) hs) ⟨_, e0, .inl ⟨rfl, _, SqL.of hH0⟩, h σ G H rel _ fun b vs es ρ1 G1 H1 r1 s1 n1 n2 n3 h1 i1 ⟨l, ds, z1, z2, q⟩ => ?_⟩
  obtain ⟨e2, n2, vs2, hH2, hv2⟩ := r1.sl i _ z1
  rw [e0] at e2
  cases e2
  exact ⟨_, _, vs2, _, rfl, rfl, hH2, h1, by rw [hv2.length, i1.length]; exact big z2, m.nx _ _ G1 _ (r1.upd z1 (hv2.app i1)) (s1.trans (Stp.upd z1)) q⟩
/-- o.pop() -/
theorem ew_pop {i : Nat} {x : Str} {px pa cp : Pos} {l : Addr} {Q : PyData → Rho → Prop} (h0 : ρ[i]? = some (.lst l (ds ++ [d]))) (q : Q d (ρ.set i (.lst l ds)))
    (hN : X.N[i]? = some x := by rfl) (hv : Vis X.env.scope x := by first | exact Or.inl rfl | exact Or.inr (Or.inl rfl) | exact Or.inr (Or.inr rfl)) (hd : (x == ("__debug__" : Str)) = false := by decide) (hcd : (x == ("__classdict__" : Str)) = false := by decide)
    (hbase : attributeBase (.Name x px) "pop" X.env (eval (.Name x px) X.env) = eval (.Name x px) X.env := by rfl) (hline : (pa.endLine == cp.line) = true := by rfl) : EvW X (.Call (.Attribute (.Name x px) "pop" pa) [] [] cp) ρ Q := fun σ G H rel R k => by
  obtain ⟨e0, n0, vs0, hH0, hv0⟩ := rel.sl i _ h0
  obtain ⟨u, hu, iu⟩ := hv0.get (i := ds.length) (d := d) (by simp)
  have hl := hv0.length
  rw [List.length_append, List.length_singleton] at hl
  refine te_of (pe_bm0 PySem.F.plainAttrs_list PySem.F.slot_list_pop PySem.F.type_list_pop mt_pop (pe_var hN hv hd hcd) hbase hline) ⟨_, e0, .inl ⟨rfl, _, SqL.of hH0⟩, _, vs0, u, rfl, rfl, hH0, by rw [hl]; simpa using hu, ?_⟩
  have hv1 : IsAll X.K G vs0.dropLast ds := by
    have := hv0.dropLast
    rwa [List.dropLast_concat] at this
  exact k u d _ G _ (rel.upd h0 hv1) (Stp.upd h0) iu q
end
end Pl
namespace Pl
open PySem PySem.Spec PyProof.Rows L2
open Evl (Ex ex_t ex_l)
section
variable {X : Cx} {e a b c tg iter : Expr} {es ts ifs rest : List Expr} {st : Stmt} {sts body orelse : List Stmt} {ρ : Rho} {d f : PyData} {ds : List PyData} {pos : Pos} {D D' : En}

/-! what is walked -/
theorem iv_list {QI : List PyData → (Rho → Prop) → Rho → Prop} (h : EvW X iter ρ fun d ρ1 => ∃ ds, d = .list ds ∧ QI ds (fun _ => True) ρ1) : IvW X tg iter ρ QI := fun σ G H rel R k => ti_of (pi_list pe_W) (h σ G H rel _ fun v d ρ1 G1 H1 r1 s1 i1 ⟨ds, e1, q⟩ => by
  subst e1
  cases i1 with
  | lst h1 h2 =>
    rename_i l vs
    refine ⟨l, rfl, ⟨_, ex_l r1.ex h1⟩, k ds _ _ ρ1 G1 H1 r1 s1 (fun i ρ2 σ2 G2 H2 r2 e2 _ => ?_) q⟩
    have hq : SqL X.K H2 l vs := ex_l r2.ex (ex_l e2 h1)
    refine ⟨fun hi => ⟨⟨vs, vs[i]'(by rw [h2.length]; exact hi), hq, by simp⟩, fun x H' y => ?_⟩, fun hi => ⟨vs, hq, by rw [h2.length]; exact hi⟩⟩
    obtain ⟨ye, y⟩ := y
    subst ye
    obtain ⟨d, e3, h3⟩ := h2.get' (y vs hq)
    exact ⟨d, G2, e3, .refl r2.ex, h3.mono e2⟩)
theorem iv_tup {QI : List PyData → (Rho → Prop) → Rho → Prop} (h : EvW X iter ρ fun d ρ1 => ∃ ds, d = .tuple ds ∧ QI ds (fun _ => True) ρ1) : IvW X tg iter ρ QI := fun σ G H rel R k => ti_of (pi_tup pe_W) (h σ G H rel _ fun v d ρ1 G1 H1 r1 s1 i1 ⟨ds, e1, q⟩ => by
  subst e1
  cases i1 with
  | tup h1 h2 =>
    rename_i l vs
    refine ⟨l, rfl, ⟨_, ex_t r1.ex h1⟩, k ds _ _ ρ1 G1 H1 r1 s1 (fun i ρ2 σ2 G2 H2 r2 e2 _ => ?_) q⟩
    have hq : SqT X.K H2 l vs := ex_t r2.ex (ex_t e2 h1)
    refine ⟨fun hi => ⟨⟨vs, vs[i]'(by rw [h2.length]; exact hi), hq, by simp⟩, fun x H' y => ?_⟩, fun hi => ⟨vs, hq, by rw [h2.length]; exact hi⟩⟩
    obtain ⟨ye, y⟩ := y
    subst ye
    obtain ⟨d, e3, h3⟩ := h2.get' (y vs hq)
    exact ⟨d, G2, e3, .refl r2.ex, h3.mono e2⟩)
theorem iv_listO {i : Nat} {x : Str} {px : Pos} {l : Addr} {QI : List PyData → (Rho → Prop) → Rho → Prop} (h0 : ρ[i]? = some (.lst l ds)) (q : QI ds (fun ρ2 => ρ2[i]? = some (.lst l ds)) ρ)
    (hN : X.N[i]? = some x := by rfl) (hv : Vis X.env.scope x := by first | exact Or.inl rfl | exact Or.inr (Or.inl rfl) | exact Or.inr (Or.inr rfl)) (hd : (x == ("__debug__" : Str)) = false := by decide) (hcd : (x == ("__classdict__" : Str)) = false := by decide) : IvW X tg (.Name x px) ρ QI := fun σ G H rel R k => by
  obtain ⟨e0, n0, vs0, hH0, hv0⟩ := rel.sl i _ h0
  refine ti_of (pi_list (pe_var hN hv hd hcd)) ⟨_, e0, l, rfl, ⟨_, SqL.of hH0⟩, k ds _ _ ρ G H rel .refl (fun j ρ2 σ2 G2 H2 r2 e2 hG => ?_) q⟩
  obtain ⟨e1, n1, vs1, hH1, hv1⟩ := r2.sl i _ hG
  have hq : SqL X.K H2 l vs1 := SqL.of hH1
  refine ⟨fun hi => ⟨⟨vs1, vs1[j]'(by rw [hv1.length]; exact hi), hq, by simp⟩, fun x H' y => ?_⟩, fun hi => ⟨vs1, hq, by rw [hv1.length]; exact hi⟩⟩
  obtain ⟨ye, y⟩ := y
  subst ye
  obtain ⟨d, e3, h3⟩ := hv1.get' (y vs1 hq)
  exact ⟨d, G2, e3, .refl r2.ex, h3⟩
/-- lo, lo + 1, .. -/
def rng (lo : Int) (n : Nat) : List PyData := (List.range n).map fun (i : Nat) => PyData.int (lo + i)
def rngC (lo c : Int) (n : Nat) : List PyData := (List.range n).map fun (i : Nat) => PyData.int (lo + i * c)
theorem rng_len {lo : Int} {n : Nat} : (rng lo n).length = n := by simp [rng]
theorem rngC_len {lo c : Int} {n : Nat} : (rngC lo c n).length = n := by simp [rngC]
theorem rng_at {lo : Int} {n i : Nat} (h : i < n) : (rng lo n)[i]? = some (.int (lo + i)) := by simp [rng, h]
theorem rngC_at {lo c : Int} {n i : Nat} (h : i < n) : (rngC lo c n)[i]? = some (.int (lo + i * c)) := by simp [rngC, h]
theorem rng_get {lo : Int} {n i : Nat} {d : PyData} (h : (rng lo n)[i]? = some d) : i < n ∧ d = .int (lo + i) := by
  have hl := (List.getElem?_eq_some_iff.mp h).1
  rw [rng_len] at hl
  rw [rng_at hl] at h
  exact ⟨hl, (Option.some.inj h).symm⟩
theorem rngC_get {lo c : Int} {n i : Nat} {d : PyData} (h : (rngC lo c n)[i]? = some d) : i < n ∧ d = .int (lo + i * c) := by
  have hl := (List.getElem?_eq_some_iff.mp h).1
  rw [rngC_len] at hl
  rw [rngC_at hl] at h
  exact ⟨hl, (Option.some.inj h).symm⟩
theorem yld_rng {K : PySem.W.Frag} {σ : L2.St} {G : Hp} {Good : Rho → Prop} {lo : Int} {n : Nat} : Yld K (Itr lo n) σ G Good (rng lo n) := fun i ρ2 σ2 G2 H2 r2 e2 _ => by
  rw [rng_len]
  refine ⟨fun hi => ⟨hi, fun x H' y => ?_⟩, fun hi => hi⟩
  obtain ⟨ye, y⟩ := y
  subst ye
  subst y
  exact ⟨_, G2, rng_at hi, .refl r2.ex, .int _⟩
theorem yld_rngC {K : PySem.W.Frag} {σ : L2.St} {G : Hp} {Good : Rho → Prop} {lo c : Int} {n : Nat} : Yld K (Itc lo c n) σ G Good (rngC lo c n) := fun i ρ2 σ2 G2 H2 r2 e2 _ => by
  rw [rngC_len]
  refine ⟨fun hi => ⟨hi, fun x H' y => ?_⟩, fun hi => hi⟩
  obtain ⟨ye, y⟩ := y
  subst ye
  subst y
  exact ⟨_, G2, rngC_at hi, .refl r2.ex, .int _⟩
theorem iv_rng1 {p : Pos} {QI : List PyData → (Rho → Prop) → Rho → Prop} (hm : X.mg "range" = none) (ha : EvW X a ρ fun d ρ1 => ∃ n : Int, d = .int n ∧ -1000000 ≤ n ∧ n ≤ 1000000 ∧ QI (rng 0 n.toNat) (fun _ => True) ρ1) (hg : Gl X "range" := by rfl) (hs : starEach [a] X.env = [(false, eval a X.env)] := by rfl) : IvW X tg (.Call (.Name "range" p) [a] [] pos) ρ QI := fun σ G H rel R k =>
  ti_of (pi_range1 hg hm (pa_cons pe_W pa_nil hs) hs) (ha σ G H rel _ fun v d ρ1 G1 H1 r1 s1 i1 ⟨n, e1, h1, h2, q⟩ => by
    subst e1
    cases i1
    exact ⟨n, rfl, by omega, by omega, k _ _ _ ρ1 G1 H1 r1 s1 yld_rng q⟩)
theorem iv_rng2 {p : Pos} {QI : List PyData → (Rho → Prop) → Rho → Prop} (hm : X.mg "range" = none) (ha : AvW X [a, b] ρ fun ds ρ1 => ∃ lo n : Int, ds = [.int lo, .int n] ∧ -1000000 ≤ lo ∧ lo ≤ 1000000 ∧ -1000000 ≤ n ∧ n ≤ 1000000 ∧ QI (rng lo (n - lo).toNat) (fun _ => True) ρ1) (hg : Gl X "range" := by rfl) (hs : starEach [a, b] X.env = [(false, eval a X.env), (false, eval b X.env)] := by rfl) (hs2 : starEach [b] X.env = [(false, eval b X.env)] := by rfl) : IvW X tg (.Call (.Name "range" p) [a, b] [] pos) ρ QI := fun σ G H rel R k =>
  ti_of (pi_range2 hg hm pa_W hs hs2) (ha σ G H rel _ fun v d ρ1 G1 H1 r1 s1 i1 ⟨lo, n, e1, h1, h2, h3, h4, q⟩ => by
    subst e1
    cases i1 with
    | cons x1 x2 =>
      cases x2 with
      | cons x2 x3 =>
        cases x1
        cases x2
        cases x3
        exact ⟨lo, n, rfl, ⟨by omega, by omega, by omega, by omega⟩, k _ _ _ ρ1 G1 H1 r1 s1 yld_rng q⟩)
theorem iv_down {p : Pos} {QI : List PyData → (Rho → Prop) → Rho → Prop} (hm : X.mg "range" = none) (ha : AvW X [a, b, c] ρ fun ds ρ1 => ∃ lo n : Int, ds = [.int lo, .int n, .int (-1)] ∧ -1000000 ≤ lo ∧ lo ≤ 1000000 ∧ -1000000 ≤ n ∧ n ≤ 1000000 ∧ QI (rngC lo (-1) (lo - n).toNat) (fun _ => True) ρ1) (hg : Gl X "range" := by rfl)
    (hs : starEach [a, b, c] X.env = (false, eval a X.env) :: starEach [b, c] X.env := by rfl) (hpl : (backTo pos (starEach [b, c] X.env)).any (·.1) = false := by rfl) : IvW X tg (.Call (.Name "range" p) [a, b, c] [] pos) ρ QI := fun σ G H rel R k =>
  ti_of (pi_range3 hg hm pa_W hs hpl) (ha σ G H rel _ fun v d ρ1 G1 H1 r1 s1 i1 ⟨lo, n, e1, h1, h2, h3, h4, q⟩ => by
    subst e1
    cases i1 with
    | cons x1 x2 =>
      cases x2 with
      | cons x2 x3 =>
        cases x3 with
        | cons x3 x4 =>
          cases x1
          cases x2
          cases x3
          cases x4
          exact ⟨lo, n, -1, _, rfl, RgC.neg (by omega) (by omega) (by omega) (by omega), k _ _ _ ρ1 G1 H1 r1 s1 yld_rngC q⟩)

/-! loops -/
theorem s_for (hc : X.calm = true) (hi : IvW X tg iter ρ fun ds Good ρ1 => ∃ Pv : Nat → Rho → Prop, (∀ i ρ2, Pv i ρ2 → Good ρ2) ∧ Pv 0 ρ1 ∧
      (∀ i d ρ2, ds[i]? = some d → Pv i ρ2 → GvW X (fun _ => True) tg d ρ2 fun ρ3 => BvW X body ρ3 { D with nx := Pv (i + 1), ct := Pv (i + 1), bk := D.nx }) ∧ ∀ ρ2, Pv ds.length ρ2 → D.nx ρ2)
    (hp : PassesOwn (model X.prog X.w) X.A X.env X.xe := by exact PassesOwn.never) (hs : ∀ x, foldedSetIterable iter X.env x = pure x := by intro _; rfl) : SvW X (.For tg iter body [] pos) ρ D := fun σ G H rel T m =>
  ts_of (ps_for hp hc pi_W pg_W pb_W hs) (hi σ G H rel _ fun ds Good J ρ1 G1 H1 r1 s1 y1 ⟨Pv, hG, h0, hstep, hend⟩ => by
    refine ⟨fun i k σ' H' => ∃ ρ2 G2, Rel X.K ρ2 σ' G2 H' ∧ Stp ρ G H ρ2 G2 H' ∧ Ex G1 G2 ∧ i ≤ ds.length ∧ k = ds.length - i ∧ Pv i ρ2, ⟨_, ρ1, G1, r1, s1, Ex.refl G1, Nat.zero_le _, rfl, h0⟩, fun i k σ' H' ⟨ρ2, G2, r2, s2, e2, hle, hk, p2⟩ => ?_⟩
    have y := y1 i ρ2 σ' G2 H' r2 e2 (hG i ρ2 p2)
    by_cases hlt : i < ds.length
    · obtain ⟨go, yl⟩ := y.1 hlt
      refine .inr ⟨go, fun σ3 H3 => ∃ ρ3 G3, Rel X.K ρ3 σ3 G3 H3 ∧ Stp ρ G H ρ3 G3 H3 ∧ Ex G1 G3 ∧ Pv (i + 1) ρ3, fun σ3 H3 ⟨ρ3, G3, r3, s3, e3, p3⟩ => ⟨ds.length - (i + 1), by omega, ρ3, G3, r3, s3, e3, hlt, rfl, p3⟩, fun x H3 hy => ?_⟩
      obtain ⟨d, G3, ed, ps, ix⟩ := yl x H3 hy
      refine hstep i d ρ2 ed p2 σ' G3 H3 x (r2.pure ps) ix _ fun ρ4 σ4 G4 H4 r4 s4 _ q4 => q4 σ4 G4 H4 r4 _ ?_
      have st : Stp ρ G H ρ4 G4 H4 := (s2.trans ps.stp).trans s4
      have ee : Ex G1 G4 := (e2.trans ps.gg).trans s4.gg
      exact ⟨fun ρ5 σ5 G5 H5 r5 s5 q5 => ⟨ρ5, G5, r5, st.trans s5, ee.trans s5.gg, q5⟩, fun v d ρ5 σ5 G5 H5 r5 s5 i5 q5 => m.rt v d ρ5 σ5 G5 H5 r5 (st.trans s5) i5 q5,
        fun ρ5 σ5 G5 H5 r5 s5 q5 => m.nx ρ5 σ5 G5 H5 r5 (st.trans s5) q5, fun ρ5 σ5 G5 H5 r5 s5 q5 => ⟨ρ5, G5, r5, st.trans s5, ee.trans s5.gg, q5⟩⟩
    · have e : i = ds.length := by omega
      subst e
      exact .inl ⟨y.2 (Nat.le_refl _), m.nx ρ2 σ' G2 H' r2 s2 (hend ρ2 p2)⟩)
theorem s_while (W : Nat → Rho → Prop) (m0 : Nat) (h0 : W m0 ρ) (hs : ∀ k ρ1, W k ρ1 → TvW X c ρ1 fun b ρ2 => if b = true then BvW X body ρ2 { D with nx := fun ρ3 => ∃ k', k' < k ∧ W k' ρ3, ct := fun ρ3 => ∃ k', k' < k ∧ W k' ρ3, bk := D.nx } else D.nx ρ2)
    (hp : PassesOwn (model X.prog X.w) X.A X.env X.xe := by exact PassesOwn.never) : SvW X (.While c body [] pos) ρ D := fun σ G H rel T m =>
  ts_of (ps_while hp pt_W pb_W) (by
    refine ⟨fun k σ' H' => ∃ ρ1 G1, Rel X.K ρ1 σ' G1 H' ∧ Stp ρ G H ρ1 G1 H' ∧ W k ρ1, ⟨m0, ρ, G, rel, .refl, h0⟩, fun k σ' H' ⟨ρ1, G1, r1, s1, w1⟩ => ?_⟩
    refine hs k ρ1 w1 σ' G1 H' r1 _ fun b ρ2 G2 H2 r2 s2 q2 => ?_
    cases b with
    | false =>
      rw [if_neg Bool.false_ne_true] at q2 ⊢
      exact m.nx ρ2 σ' G2 H2 r2 (s1.trans s2) q2
    | true =>
      rw [if_pos rfl] at q2 ⊢
      refine ⟨fun σ3 H3 => ∃ k', k' < k ∧ ∃ ρ3 G3, Rel X.K ρ3 σ3 G3 H3 ∧ Stp ρ G H ρ3 G3 H3 ∧ W k' ρ3, fun σ3 H3 ⟨k', hk, z⟩ => ⟨k', hk, z⟩, q2 σ' G2 H2 r2 _ ?_⟩
      have st := s1.trans s2
      exact ⟨fun ρ5 σ5 G5 H5 r5 s5 ⟨k', hk, q5⟩ => ⟨k', hk, ρ5, G5, r5, st.trans s5, q5⟩, fun v d ρ5 σ5 G5 H5 r5 s5 i5 q5 => m.rt v d ρ5 σ5 G5 H5 r5 (st.trans s5) i5 q5,
        fun ρ5 σ5 G5 H5 r5 s5 q5 => m.nx ρ5 σ5 G5 H5 r5 (st.trans s5) q5, fun ρ5 σ5 G5 H5 r5 s5 ⟨k', hk, q5⟩ => ⟨k', hk, ρ5, G5, r5, st.trans s5, q5⟩⟩)

/-! comprehensions -/
def wipeR (ρ : Rho) : List Nat → Rho
  | [] => ρ
  | v :: vs => (wipeR ρ vs).set v .un
def back (ρ ρ5 : Rho) : List Nat → Rho
  | [] => ρ5
  | v :: vs => (back ρ ρ5 vs).set v (ρ.getD v .un)
theorem wipeR_len {ρ : Rho} : ∀ vs : List Nat, (wipeR ρ vs).length = ρ.length
  | [] => rfl
  | v :: vs => by
    unfold wipeR
    rw [List.length_set, wipeR_len vs]
theorem back_len {ρ ρ5 : Rho} : ∀ vs : List Nat, (back ρ ρ5 vs).length = ρ5.length
  | [] => rfl
  | v :: vs => by
    unfold back
    rw [List.length_set, back_len vs]
theorem wipeR_weak {ρ : Rho} : ∀ vs : List Nat, ∀ i s, (wipeR ρ vs)[i]? = some s → (s = .un) ∨ (i ∉ vs ∧ ρ[i]? = some s)
  | [], i, s, h => .inr ⟨by simp, h⟩
  | v :: vs, i, s, h => by
    unfold wipeR at h
    by_cases hi : v = i
    · subst hi
      by_cases hv : v < (wipeR ρ vs).length
      · rw [List.getElem?_set_self hv] at h
        cases h
        exact .inl rfl
      · rw [List.getElem?_eq_none (by simpa using hv)] at h
        cases h
    · rw [List.getElem?_set_ne hi] at h
      rcases wipeR_weak vs i s h with z | ⟨z1, z2⟩
      · exact .inl z
      · exact .inr ⟨by simp [z1, Ne.symm hi], z2⟩
theorem back_get {ρ ρ5 : Rho} (hl : ρ5.length = ρ.length) : ∀ vs : List Nat, ∀ i, (i ∈ vs → (back ρ ρ5 vs)[i]? = ρ[i]?) ∧ (i ∉ vs → (back ρ ρ5 vs)[i]? = ρ5[i]?)
  | [], i => ⟨fun h => by simp at h, fun _ => rfl⟩
  | v :: vs, i => by
    obtain ⟨h1, h2⟩ := back_get hl vs i
    unfold back
    by_cases hi : v = i
    · subst hi
      refine ⟨fun _ => ?_, fun h => absurd List.mem_cons_self h⟩
      by_cases hv : v < ρ.length
      · rw [List.getElem?_set_self (by rw [back_len, hl]; exact hv), List.getD_eq_getElem?_getD, List.getElem?_eq_getElem hv]
        rfl
      · rw [List.getElem?_eq_none (by rw [List.length_set, back_len, hl]; omega), List.getElem?_eq_none (by omega)]
    · rw [List.getElem?_set_ne hi]
      refine ⟨fun h => h1 ?_, fun h => h2 fun z => h (List.mem_cons_of_mem _ z)⟩
      rcases List.mem_cons.mp h with z | z
      · exact absurd z.symm hi
      · exact z
theorem wipe_in {σ : L2.St} {i : Nat} : ∀ {vs : List Nat}, i ∈ vs → (wipe σ vs)[i]? = if i < σ.length then some none else none
  | v :: vs, h => by
    unfold wipe
    by_cases hi : v = i
    · subst hi
      by_cases hv : v < σ.length
      · rw [List.getElem?_set_self (by rw [wipe_length]; exact hv), if_pos hv]
      · rw [List.getElem?_eq_none (by rw [List.length_set, wipe_length]; omega), if_neg hv]
    · rw [List.getElem?_set_ne hi]
      rcases List.mem_cons.mp h with z | z
      · exact absurd z.symm hi
      · exact wipe_in z
theorem wipe_chg {σ σ' : L2.St} {vs : List Nat} (c : Chg (· ∈ vs) (wipe σ vs) σ') : wipe σ' vs = wipe σ vs := by
  apply List.ext_getElem?
  intro i
  have hl : σ'.length = σ.length := by rw [c.len, wipe_length]
  by_cases hi : i ∈ vs
  · rw [wipe_in hi, wipe_in hi, hl]
  · rw [wipe_out hi, c.out i hi]
theorem wipe_rel {K : PySem.W.Frag} {ρ : Rho} {σ : L2.St} {G H : Hp} (r : Rel K ρ σ G H) (vs : List Nat) : Rel K (wipeR ρ vs) (wipe σ vs) G H := by
  refine ⟨r.ex, by rw [wipeR_len, wipe_length, r.len], fun i s e => ?_, fun i j a h1 h2 => ?_⟩
  · rcases wipeR_weak vs i s e with z | ⟨z1, z2⟩
    · rw [z]
      trivial
    · exact (r.sl i s z2).slot (wipe_out z1)
  · have bk : ∀ i, OwnAt (wipeR ρ vs) i a → OwnAt ρ i a := fun i ⟨s, e, h⟩ => by
      rcases wipeR_weak vs i s e with z | ⟨z1, z2⟩
      · rw [z] at h
        cases h
      · exact ⟨s, z2, h⟩
    exact r.ds i j a (bk i h1) (bk j h2)
theorem wipe_own {ρ : Rho} {vs : List Nat} {a : Addr} (h : Own (wipeR ρ vs) a) : ∃ i, i ∉ vs ∧ OwnAt ρ i a := by
  obtain ⟨i, s, e, h⟩ := h
  rcases wipeR_weak vs i s e with z | ⟨z1, z2⟩
  · rw [z] at h
    cases h
  · exact ⟨i, z1, s, z2, h⟩
/-- a turn of a block is over: the outer slots again -/
theorem block_back {K : PySem.W.Frag} {ρ ρ5 : Rho} {σ σ5 : L2.St} {G H G5 H5 : Hp} {vs : List Nat} (r : Rel K ρ σ G H) (r5 : Rel K ρ5 σ5 G5 H5) (s : Stp (wipeR ρ vs) G H ρ5 G5 H5) (c : Chg (· ∈ vs) (wipe σ vs) σ5) :
    Rel K (back ρ ρ5 vs) σ G5 H5 ∧ Stp ρ G H (back ρ ρ5 vs) G5 H5 := by
  have hl : ρ5.length = ρ.length := by rw [r5.len, c.len, wipe_length, r.len]
  have σe : ∀ i, i ∉ vs → σ[i]? = σ5[i]? := fun i hi => by rw [c.out i hi, wipe_out hi]
  have notW : ∀ {i a}, i ∈ vs → OwnAt ρ i a → ¬ Own (wipeR ρ vs) a := fun {i a} hi ho z => by
    obtain ⟨j, hj, z⟩ := wipe_own z
    exact hj (by rw [← r.ds i j a ho z]; exact hi)
  have own : ∀ {i a}, OwnAt (back ρ ρ5 vs) i a → (i ∈ vs ∧ OwnAt ρ i a) ∨ (i ∉ vs ∧ OwnAt ρ5 i a) := fun {i a} ⟨t, e, h⟩ => by
    by_cases hi : i ∈ vs
    · rw [(back_get hl vs i).1 hi] at e
      exact .inl ⟨hi, t, e, h⟩
    · rw [(back_get hl vs i).2 hi] at e
      exact .inr ⟨hi, t, e, h⟩
  refine ⟨⟨r5.ex, by rw [back_len, hl, r.len], fun i t e => ?_, fun i j a h1 h2 => ?_⟩, ⟨s.gg, fun a h1 h2 h3 => s.fr a (fun z => ?_) h2 h3, fun a o h1 h2 => s.kp a o (fun z => ?_) h2, s.al, fun a ⟨i, h⟩ => ?_⟩⟩
  · by_cases hi : i ∈ vs
    · rw [(back_get hl vs i).1 hi] at e
      have z := r.sl i t e
      cases t with
      | un => trivial
      | dat d =>
        obtain ⟨v, z1, z2⟩ := z
        exact ⟨v, z1, z2.mono s.gg⟩
      | lst b fs =>
        obtain ⟨z1, z2, ws, z3, z4⟩ := z
        have no := notW hi ⟨_, e, rfl⟩
        exact ⟨z1, s.fr b no z2 (by rw [z3]; exact nofun), ws, s.kp b _ no z3, z4.mono s.gg⟩
      | obj b o =>
        obtain ⟨z1, z2, u, z3, z4⟩ := z
        have no := notW hi ⟨_, e, rfl⟩
        exact ⟨z1, s.fr b no z2 (by rw [z3]; exact nofun), u, s.kp b _ no z3, o.up s.gg z4⟩
    · rw [(back_get hl vs i).2 hi] at e
      exact (r5.sl i t e).slot (σe i hi)
  · rcases own h1 with ⟨i1, o1⟩ | ⟨i1, o1⟩ <;> rcases own h2 with ⟨i2, o2⟩ | ⟨i2, o2⟩
    · exact r.ds i j a o1 o2
    · rcases s.ow a ⟨j, o2⟩ with z | z
      · exact absurd z (notW i1 o1)
      · exact absurd z (r.ownH o1).2.1
    · rcases s.ow a ⟨i, o1⟩ with z | z
      · exact absurd z (notW i2 o2)
      · exact absurd z (r.ownH o2).2.1
    · exact r5.ds i j a o1 o2
  · obtain ⟨j, _, z⟩ := wipe_own z
    exact h1 ⟨j, z⟩
  · obtain ⟨j, _, z⟩ := wipe_own z
    exact h1 ⟨j, z⟩
  · rcases own h with ⟨_, o1⟩ | ⟨_, o1⟩
    · exact .inl ⟨i, o1⟩
    · rcases s.ow a ⟨i, o1⟩ with z | z
      · obtain ⟨j, _, z⟩ := wipe_own z
        exact .inl ⟨j, z⟩
      · exact .inr z
theorem Rel.other {K : PySem.W.Frag} {ρ : Rho} {σ : L2.St} {G H : Hp} {l : Addr} {o : HO} (r : Rel K ρ σ G H) (hG : G l = none) (hn : ¬ Own ρ l) : Rel K ρ σ G (L2.upd H l o) := by
  refine ⟨Ex.mut r.ex hG, r.len, fun i s e => ?_, r.ds⟩
  have z := r.sl i s e
  cases s with
  | un => trivial
  | dat d => exact z
  | lst b fs =>
    obtain ⟨z1, z2, ws, z3, z4⟩ := z
    exact ⟨z1, z2, ws, by rw [upd_ne fun y => hn ⟨i, _, e, by rw [← y]; rfl⟩]; exact z3, z4⟩
  | obj b o =>
    obtain ⟨z1, z2, u, z3, z4⟩ := z
    exact ⟨z1, z2, u, by rw [upd_ne fun y => hn ⟨i, _, e, by rw [← y]; rfl⟩]; exact z3, z4⟩
theorem Stp.other {ρ ρ' : Rho} {G H G' H' : Hp} {l : Addr} {o : HO} (s : Stp ρ G H ρ' G' H') (n : H l = none) : Stp ρ G H ρ' G' (L2.upd H' l o) :=
  ⟨s.gg, s.fr, fun a u h1 h2 => by
    rw [upd_ne (ne_of_none h2 n)]
    exact s.kp a u h1 h2, fun a h => by
    by_cases e : a = l
    · rw [e] at h
      exact absurd n h
    · rw [upd_ne e]
      exact s.al a h, s.ow⟩
abbrev Bk (X : Cx) (scope : Scope) (s : Shared) (H : Hp) (C : Addr) (cl : List (Str × Addr)) (fp : List Addr) : Cx := X.blk s H scope (compEnvC scope cl C X.env) fp
/-- a list comprehension's reading -/
def LcW (X : Cx) (elt tg iter : Expr) (ifs : List Expr) (scope : Scope) (own : List (Str × Nat)) (ρ : Rho) (Q : List PyData → Rho → Prop) : Prop := ∀ (σ : L2.St) (G H : Hp), Rel X.K ρ σ G H → ∀ R : VK,
  (∀ a vs ds ρ' G' H', Rel X.K ρ' σ G' H' → Stp ρ G H ρ' G' H' → G' a = none → ¬ Own ρ' a → H a = none → H' a = some (.lst vs) → IsAll X.K G' vs ds → Q ds ρ' → R (.ref a) H') →
  tLc (tiW X tg iter) (fun v σ H Q => ∀ s H0 C cl fp, tgW (Bk X scope s H0 C cl fp) tg v σ H Q) (fun σ H Q => ∀ s H0 C cl fp, tfW (Bk X scope s H0 C cl fp) ifs σ H Q) (fun σ H Q => ∀ s H0 C cl fp, teW (Bk X scope s H0 C cl fp) elt σ H Q) (own.map (·.2)) σ H R
theorem LcW.imp {elt : Expr} {scope : Scope} {own : List (Str × Nat)} {Q Q' : List PyData → Rho → Prop} (h : LcW X elt tg iter ifs scope own ρ Q) (q : ∀ d ρ', Q d ρ' → Q' d ρ') : LcW X elt tg iter ifs scope own ρ Q' := fun σ G H r R k => h σ G H r R fun a vs d ρ' G' H' r' s n1 n2 n3 n4 i z => k a vs d ρ' G' H' r' s n1 n2 n3 n4 i (q d ρ' z)
theorem lc_go {elt : Expr} {scope : Scope} {own : List (Str × Nat)} {QL : List PyData → Rho → Prop}
    (hi : IvW X tg iter ρ fun ds Good ρ1 => ds.length ≤ 1000000 ∧ ∃ Pv : Nat → List PyData → Rho → Prop, (∀ i acc ρ2, Pv i acc ρ2 → Good ρ2) ∧ Pv 0 [] ρ1 ∧
      (∀ i d acc ρ2, ds[i]? = some d → Pv i acc ρ2 → ∀ s H C cl fp, GvW (Bk X scope s H C cl fp) (· ∈ own.map (·.2)) tg d (wipeR ρ2 (own.map (·.2))) fun ρ3 => ∀ s H C cl fp, TfW (Bk X scope s H C cl fp) ifs ρ3 fun b ρ4 =>
        if b = true then ∀ s H C cl fp, EvW (Bk X scope s H C cl fp) elt ρ4 fun y ρ5 => Pv (i + 1) (acc ++ [y]) (back ρ2 ρ5 (own.map (·.2))) else Pv (i + 1) acc (back ρ2 ρ4 (own.map (·.2)))) ∧
      ∀ acc ρ2, Pv ds.length acc ρ2 → QL acc ρ2) : LcW X elt tg iter ifs scope own ρ QL := fun σ G H rel R k => by
  refine hi σ G H rel _ fun ds Good J ρ1 G1 H1 r1 s1 y1 ⟨hz, Pv, hG, h0, hstep, hend⟩ Dl hDl => ?_
  have P0 : PSt G1 H1 G1 (L2.upd H1 Dl (.lst [])) := PSt.newH r1.ex hDl
  have nD : H Dl = none := s1.unused hDl
  refine ⟨fun i m H' => ∃ ρ2 G2 acc us, Rel X.K ρ2 σ G2 H' ∧ Stp ρ G H ρ2 G2 H' ∧ Ex G1 G2 ∧ H' Dl = some (.lst us) ∧ G2 Dl = none ∧ ¬ Own ρ2 Dl ∧ IsAll X.K G2 us acc ∧ acc.length ≤ i ∧ i ≤ ds.length ∧ m = ds.length - i ∧ Pv i acc ρ2,
    ⟨ds.length, ρ1, G1, [], [], r1.pure P0, s1.trans P0.stp, Ex.refl G1, upd_same, no_of r1.ex hDl, own_new r1 hDl, .nil, Nat.zero_le _, Nat.zero_le _, rfl, h0⟩, fun i m H' ⟨ρ2, G2, acc, us, r2, s2, e2, hD2, gD2, oD2, hall, hacc, hle, hm, p2⟩ => ?_⟩
  have y := y1 i ρ2 σ G2 H' r2 e2 (hG i acc ρ2 p2)
  by_cases hlt : i < ds.length
  · obtain ⟨go, yl⟩ := y.1 hlt
    refine .inr ⟨go, fun H3 => ∃ ρ2 G2 acc us, Rel X.K ρ2 σ G2 H3 ∧ Stp ρ G H ρ2 G2 H3 ∧ Ex G1 G2 ∧ H3 Dl = some (.lst us) ∧ G2 Dl = none ∧ ¬ Own ρ2 Dl ∧ IsAll X.K G2 us acc ∧ acc.length ≤ i + 1 ∧ Pv (i + 1) acc ρ2, fun H3 ⟨ρ3, G3, acc3, us3, z1, z2, z3, z4, z5, z6, z7, z8, z9⟩ => ⟨ds.length - (i + 1), by omega, ρ3, G3, acc3, us3, z1, z2, z3, z4, z5, z6, z7, z8, hlt, rfl, z9⟩, fun x H3 hy => ?_⟩
    obtain ⟨d, G3, ed, ps, ix⟩ := yl x H3 hy
    intro s0 H0 C cl fp
    refine hstep i d acc ρ2 ed p2 s0 H0 C cl fp (wipe σ (own.map (·.2))) G3 H3 x (wipe_rel (r2.pure ps) _) ix _ ?_
    intro ρ4 σ4 G4 H4 r4 s4 c4 q4
    refine ⟨wipe_chg c4, ?_⟩
    intro s0 H0 C cl fp
    refine q4 s0 H0 C cl fp σ4 G4 H4 r4 _ fun b ρ5 G5 H5 r5 s5 q5 => ?_
    have st5 : Stp (wipeR ρ2 (own.map (·.2))) G3 H3 ρ5 G5 H5 := s4.trans s5
    have nw : ¬ Own (wipeR ρ2 (own.map (·.2))) Dl := fun z => by
      obtain ⟨j, _, z⟩ := wipe_own z
      exact oD2 ⟨j, z⟩
    have hD3 : H3 Dl = some (.lst us) := ps.hh _ _ hD2
    have gD3 : G3 Dl = none := ps.fr _ gD2 (by rw [hD2]; exact nofun)
    have fin : ∀ {ρ6 G6 H6}, Rel X.K ρ6 σ4 G6 H6 → Stp (wipeR ρ2 (own.map (·.2))) G3 H3 ρ6 G6 H6 → Rel X.K (back ρ2 ρ6 (own.map (·.2))) σ G6 H6 ∧ Stp ρ G H (back ρ2 ρ6 (own.map (·.2))) G6 H6 ∧ Ex G1 G6 ∧ H6 Dl = some (.lst us) ∧ G6 Dl = none ∧ ¬ Own (back ρ2 ρ6 (own.map (·.2))) Dl ∧ IsAll X.K G6 us acc := fun {ρ6 G6 H6} r6 s6 => by
      obtain ⟨z1, z2⟩ := block_back (r2.pure ps) r6 s6 c4
      refine ⟨z1, (s2.trans ps.stp).trans z2, (e2.trans ps.gg).trans s6.gg, s6.kp _ _ nw hD3, s6.fr _ nw gD3 (by rw [hD3]; exact nofun), fun z => ?_, (hall.mono ps.gg).mono s6.gg⟩
      rcases z2.ow _ z with z | z
      · exact oD2 z
      · rw [hD3] at z
        cases z
    cases b with
    | false =>
      rw [if_neg Bool.false_ne_true] at q5 ⊢
      obtain ⟨z1, z2, z3, z4, z5, z6, z7⟩ := fin r5 st5
      exact ⟨_, G5, acc, us, z1, z2, z3, z4, z5, z6, z7, by omega, q5⟩
    | true =>
      rw [if_pos rfl] at q5 ⊢
      intro s0 H0 C cl fp
      refine q5 s0 H0 C cl fp σ4 G5 H5 r5 _ fun v y ρ6 G6 H6 r6 s6 i6 q6 => ?_
      obtain ⟨z1, z2, z3, z4, z5, z6, z7⟩ := fin r6 (st5.trans s6)
      refine ⟨us, z4, by rw [hall.length]; exact bigL (by omega), _, G6, acc ++ [y], us ++ [v], z1.other z5 z6, z2.other nD, z3, upd_same, z5, z6, z7.snoc i6, by rw [List.length_append]; exact Nat.succ_le_succ hacc, q6⟩
  · have e : i = ds.length := by omega
    subst e
    exact .inl ⟨y.2 (Nat.le_refl _), k Dl us acc ρ2 G2 H' r2 s2 gD2 oD2 nD hD2 hall (hend acc ρ2 p2)⟩
theorem el_of {elt : Expr} {scope : Scope} {own : List (Str × Nat)} {QL : List PyData → Rho → Prop} (h : LcW X elt tg iter ifs scope own ρ QL) (hc : X.calm = true) (nd : X.N.Nodup) (ok : BlkOk X.N X.env.scope scope own)
    (hs : ∀ x, foldedSetIterable iter X.env x = pure x := by intro _; rfl) : ElW X (.ListComp elt [⟨tg, iter, ifs, 0⟩] scope pos) ρ QL := fun σ G H rel R k =>
  te_of (pe_lc hc nd pi_W ok (fun s H0 C cl fp => ⟨fun pins s' σ H v u Q I r h => (h s H0 C cl fp).run pins s' u I r⟩) (fun s H0 C cl fp => ⟨fun pins s' σ H Q I h => (h s H0 C cl fp).run pins s' I⟩) (fun s H0 C cl fp => ⟨fun pins s' σ H Q I h => (h s H0 C cl fp).run pins s' I⟩) hs) (h σ G H rel R k)
/-- name = [..] on one line, the name a plain local: owned from here -/
theorem s_setLc {elt : Expr} {scope : Scope} {own : List (Str × Nat)} {i : Nat} {y : Str} {py spos : Pos} (hc : X.calm = true) (nd : X.N.Nodup) (ok : BlkOk X.N X.env.scope scope own) (h : LcW X elt tg iter ifs scope own ρ fun ds ρ1 => ∀ l, D.nx (ρ1.set i (.lst l ds)))
    (hsw : swapsWith (.ListComp elt [⟨tg, iter, ifs, 0⟩] scope pos) (some (.Name y py)) spos.line X.env = pure true := by exact sw_true rfl rfl rfl (by decide +kernel))
    (hy : X.N[i]? = some y := by rfl) (hyl : X.env.scope.names.lookup y = some .local := by rfl) (hs : ∀ x, foldedSetIterable iter X.env x = pure x := by intro _; rfl) : SvW X (.Assign [.Name y py] (.ListComp elt [⟨tg, iter, ifs, 0⟩] scope pos) spos) ρ D := fun σ G H rel T m =>
  ts_of (ps_setLc hc nd hy hyl hsw pi_W ok (fun s H0 C cl fp => ⟨fun pins s' σ H v u Q I r h => (h s H0 C cl fp).run pins s' u I r⟩) (fun s H0 C cl fp => ⟨fun pins s' σ H Q I h => (h s H0 C cl fp).run pins s' I⟩) (fun s H0 C cl fp => ⟨fun pins s' σ H Q I h => (h s H0 C cl fp).run pins s' I⟩) hs)
    (h σ G H rel _ fun l vs ds ρ1 G1 H1 r1 s1 n1 n2 n3 h1 i1 q1 => m.nx _ _ G1 H1 (r1.new n1 h1 i1 n2) (s1.newL n3) (q1 l))
theorem tf_nil {QT : Bool → Rho → Prop} (q : QT true ρ) : TfW X [] ρ QT := fun σ G H rel R k => tf_of pts_nil (k true ρ G H rel .refl q)
theorem tf_one {QT : Bool → Rho → Prop} (h : TvW X c ρ QT) : TfW X [c] ρ QT := fun σ G H rel R k => tf_of (pts_one pt_W) (h σ G H rel R k)
end
end Pl
namespace Pl
open PySem PySem.Spec PyProof.Rows L2
open Evl (Ex ex_t ex_l)
section
variable {X : Cx} {e a b c iter : Expr} {es ts ifs rest : List Expr} {st : Stmt} {sts body orelse : List Stmt} {ρ : Rho} {d f : PyData} {ds : List PyData} {pos : Pos} {D D' : En}

/-! comprehensions whose parts change nothing -/
theorem set_get {ρ : Rho} {j : Nat} {s : Sl} : (ρ.set j s).set j (ρ.getD j .un) = ρ := by
  apply List.ext_getElem?
  intro i
  by_cases hi : j = i
  · subst hi
    by_cases hj : j < ρ.length
    · rw [List.getElem?_set_self (by rw [List.length_set]; exact hj), List.getD_eq_getElem?_getD, List.getElem?_eq_getElem hj]
      rfl
    · rw [List.getElem?_eq_none (by rw [List.length_set, List.length_set]; omega), List.getElem?_eq_none (by omega)]
  · rw [List.getElem?_set_ne hi, List.getElem?_set_ne hi]
theorem back_one {ρ : Rho} {j : Nat} {s : Sl} : back ρ ((wipeR ρ [j]).set j s) [j] = ρ := by
  show (((ρ.set j .un).set j s)).set j (ρ.getD j .un) = ρ
  rw [List.set_set]
  exact set_get
theorem lc_map {α : Type} {elt : Expr} {x : Str} {px : Pos} {j : Nat} {scope : Scope} (xs : List α) (enc : α → PyData) (p : α → Bool) (g : α → PyData) (nd : X.N.Nodup)
    (hi : IvW X (.Name x px) iter ρ fun ds Good ρ1 => ρ1 = ρ ∧ ds = xs.map enc ∧ Good ρ) (hz : xs.length ≤ 1000000)
    (ht : ∀ y ∈ xs, ∀ s H C cl fp, Tf (Bk X scope s H C cl fp) ifs (ρ.set j (.dat (enc y))) (p y)) (he : ∀ y ∈ xs, p y = true → ∀ s H C cl fp, Ev (Bk X scope s H C cl fp) elt (ρ.set j (.dat (enc y))) (g y))
    (hN : X.N[j]? = some x := by rfl) (hx : ∀ s H C cl fp, Loc (Bk X scope s H C cl fp).env.scope x := by intros; first | exact Or.inl rfl | exact Or.inr rfl)
    (hf : ∀ s H C cl fp, (Bk X scope s H C cl fp).fn x = true ∨ (Bk X scope s H C cl fp).env.scope.names.lookup x = some .local := by intros; first | exact .inl rfl | exact .inr rfl) :
    LcW X elt (.Name x px) iter ifs scope [(x, j)] ρ fun ds ρ' => ds = (xs.filter p).map g ∧ ρ' = ρ := by
  refine lc_go (fun σ G H rel R k => hi σ G H rel R fun ds Good J ρ1 G1 H1 r1 s1 y1 ⟨z1, z2, z3⟩ => k ds Good J ρ1 G1 H1 r1 s1 y1 ?_)
  subst z1
  subst z2
  refine ⟨by rw [List.length_map]; exact hz, fun i acc ρ2 => ρ2 = ρ1 ∧ acc = ((xs.take i).filter p).map g, fun i acc ρ2 ⟨h1, _⟩ => by rw [h1]; exact z3, ⟨rfl, rfl⟩, fun i d acc ρ2 hd ⟨h1, h2⟩ s H0 C cl fp => ?_, fun acc ρ2 ⟨h1, h2⟩ => ⟨?_, h1⟩⟩
  · subst h1
    subst h2
    rw [List.getElem?_map] at hd
    cases hy : xs[i]? with
    | none => rw [hy] at hd; cases hd
    | some y =>
      rw [hy] at hd
      cases hd
      have hm : y ∈ xs := List.mem_of_getElem? hy
      have er : (wipeR ρ2 [j]).set j (.dat (enc y)) = ρ2.set j (.dat (enc y)) := by
        show (ρ2.set j .un).set j (.dat (enc y)) = _
        rw [List.set_set]
      refine g_name nd (List.mem_singleton.mpr rfl) ?_ hN (hx s H0 C cl fp) (hf s H0 C cl fp)
      show ∀ s H C cl fp, TfW _ ifs ((wipeR ρ2 [j]).set j (.dat (enc y))) _
      intro s H0 C cl fp
      have et : (xs.take (i + 1)).filter p = (xs.take i).filter p ++ (if p y = true then [y] else []) := by
        rw [List.take_add_one, hy, List.filter_append]
        cases hp : p y <;> simp [hp]
      have bk : back ρ2 (ρ2.set j (.dat (enc y))) [j] = ρ2 := by
        have := back_one (ρ := ρ2) (j := j) (s := .dat (enc y))
        rw [er] at this
        exact this
      rw [er]
      refine Tf.w (ht y hm s H0 C cl fp) ?_
      cases hp : p y with
      | true =>
        rw [if_pos rfl]
        intro s H0 C cl fp
        refine Ev.w (he y hm hp s H0 C cl fp) ⟨bk, ?_⟩
        rw [et, hp, if_pos rfl, List.map_append]
        rfl
      | false =>
        rw [if_neg Bool.false_ne_true]
        refine ⟨bk, ?_⟩
        rw [et, hp, if_neg Bool.false_ne_true, List.append_nil]
  · rw [h2, List.length_map, List.take_length]
/-- two names -/
theorem back_two {ρ : Rho} {i j : Nat} {s t : Sl} (h : i ≠ j) : back ρ (((wipeR ρ [i, j]).set i s).set j t) [i, j] = ρ := by
  show (((((ρ.set j .un).set i .un).set i s).set j t).set j (ρ.getD j .un)).set i (ρ.getD i .un) = ρ
  apply List.ext_getElem?
  intro k
  by_cases hi : i = k
  · subst hi
    by_cases hl : i < ρ.length
    · rw [List.getElem?_set_self (by simp; exact hl), List.getD_eq_getElem?_getD, List.getElem?_eq_getElem hl]
      rfl
    · rw [List.getElem?_eq_none (by simp; omega), List.getElem?_eq_none (by omega)]
  · rw [List.getElem?_set_ne hi]
    by_cases hj : j = k
    · subst hj
      by_cases hl : j < ρ.length
      · rw [List.getElem?_set_self (by simp; exact hl), List.getD_eq_getElem?_getD, List.getElem?_eq_getElem hl]
        rfl
      · rw [List.getElem?_eq_none (by simp; omega), List.getElem?_eq_none (by omega)]
    · rw [List.getElem?_set_ne hj, List.getElem?_set_ne hj, List.getElem?_set_ne hi, List.getElem?_set_ne hi, List.getElem?_set_ne hj]
theorem wipe_two {ρ : Rho} {i j : Nat} {s t : Sl} (h : i ≠ j) : ((wipeR ρ [i, j]).set i s).set j t = (ρ.set i s).set j t := by
  show (((ρ.set j .un).set i .un).set i s).set j t = _
  rw [List.set_set, List.set_comm _ _ h, List.set_set, List.set_comm _ _ (Ne.symm h)]
theorem lc_map2 {α : Type} {elt : Expr} {x y : Str} {px py pt : Pos} {kt : Nat} {i j : Nat} {scope : Scope} (xs : List α) (ea eb : α → PyData) (p : α → Bool) (g : α → PyData) (hc : X.calm = true) (nd : X.N.Nodup)
    (hi : IvW X (.Tuple [.Name x px, .Name y py] kt pt) iter ρ fun ds Good ρ1 => ρ1 = ρ ∧ ds = xs.map (fun z => .tuple [ea z, eb z]) ∧ Good ρ) (hz : xs.length ≤ 1000000)
    (ht : ∀ z ∈ xs, ∀ s H C cl fp, Tf (Bk X scope s H C cl fp) ifs ((ρ.set i (.dat (ea z))).set j (.dat (eb z))) (p z)) (he : ∀ z ∈ xs, p z = true → ∀ s H C cl fp, Ev (Bk X scope s H C cl fp) elt ((ρ.set i (.dat (ea z))).set j (.dat (eb z))) (g z))
    (hij : i ≠ j := by decide) (hNi : X.N[i]? = some x := by rfl) (hNj : X.N[j]? = some y := by rfl) (hx : ∀ s H C cl fp, Loc (Bk X scope s H C cl fp).env.scope x := by intros; first | exact Or.inl rfl | exact Or.inr rfl)
    (hf : ∀ s H C cl fp, (Bk X scope s H C cl fp).fn x = true ∨ (Bk X scope s H C cl fp).env.scope.names.lookup x = some .local := by intros; first | exact .inl rfl | exact .inr rfl)
    (hy : ∀ s H C cl fp, Loc (Bk X scope s H C cl fp).env.scope y := by intros; first | exact Or.inl rfl | exact Or.inr rfl)
    (hfy : ∀ s H C cl fp, (Bk X scope s H C cl fp).fn y = true ∨ (Bk X scope s H C cl fp).env.scope.names.lookup y = some .local := by intros; first | exact .inl rfl | exact .inr rfl)
    (hn : ∀ s H C cl fp, (assignEach [.Name x px, .Name y py] (Bk X scope s H C cl fp).env).length = 2 := by intros; rfl) (hst : ∀ s H C cl fp, (assignEach [.Name x px, .Name y py] (Bk X scope s H C cl fp).env).findIdx? (·.1) = none := by intros; rfl)
    (g1 : ∀ s H C cl fp, (assignEach [.Name x px, .Name y py] (Bk X scope s H C cl fp).env).map (·.2) = assign (.Name x px) (Bk X scope s H C cl fp).env :: (assignEach [.Name y py] (Bk X scope s H C cl fp).env).map (·.2) := by intros; rfl)
    (g2 : ∀ s H C cl fp, (assignEach [.Name y py] (Bk X scope s H C cl fp).env).map (·.2) = assign (.Name y py) (Bk X scope s H C cl fp).env :: (assignEach [] (Bk X scope s H C cl fp).env).map (·.2) := by intros; rfl) :
    LcW X elt (.Tuple [.Name x px, .Name y py] kt pt) iter ifs scope [(x, i), (y, j)] ρ fun ds ρ' => ds = (xs.filter p).map g ∧ ρ' = ρ := by
  refine lc_go (fun σ G H rel R k => hi σ G H rel R fun ds Good J ρ1 G1 H1 r1 s1 y1 ⟨z1, z2, z3⟩ => k ds Good J ρ1 G1 H1 r1 s1 y1 ?_)
  subst z1
  subst z2
  refine ⟨by rw [List.length_map]; exact hz, fun i acc ρ2 => ρ2 = ρ1 ∧ acc = ((xs.take i).filter p).map g, fun i acc ρ2 ⟨h1, _⟩ => by rw [h1]; exact z3, ⟨rfl, rfl⟩, fun m d acc ρ2 hd ⟨h1, h2⟩ s H0 C cl fp => ?_, fun acc ρ2 ⟨h1, h2⟩ => ⟨?_, h1⟩⟩
  · subst h1
    subst h2
    rw [List.getElem?_map] at hd
    cases hy' : xs[m]? with
    | none => rw [hy'] at hd; cases hd
    | some y' =>
      rw [hy'] at hd
      cases hd
      have hm : y' ∈ xs := List.mem_of_getElem? hy'
      have er : ((wipeR ρ2 [i, j]).set i (.dat (ea y'))).set j (.dat (eb y')) = (ρ2.set i (.dat (ea y'))).set j (.dat (eb y')) := wipe_two hij
      refine g_tup hc (gs_cons (g_name nd (by simp) (gs_cons (g_name nd (by simp) (gs_nil ?_) hNj (hy s H0 C cl fp) (hfy s H0 C cl fp)) (g2 s H0 C cl fp)) hNi (hx s H0 C cl fp) (hf s H0 C cl fp)) (g1 s H0 C cl fp)) (hn s H0 C cl fp) (hst s H0 C cl fp)
      show ∀ s H C cl fp, TfW _ ifs (((wipeR ρ2 [i, j]).set i (.dat (ea y'))).set j (.dat (eb y'))) _
      intro s H0 C cl fp
      have et : (xs.take (m + 1)).filter p = (xs.take m).filter p ++ (if p y' = true then [y'] else []) := by
        rw [List.take_add_one, hy', List.filter_append]
        cases hp : p y' <;> simp [hp]
      have bk : back ρ2 ((ρ2.set i (.dat (ea y'))).set j (.dat (eb y'))) [i, j] = ρ2 := by
        have := back_two (ρ := ρ2) (i := i) (j := j) (s := .dat (ea y')) (t := .dat (eb y')) hij
        rw [er] at this
        exact this
      rw [er]
      refine Tf.w (ht y' hm s H0 C cl fp) ?_
      cases hp : p y' with
      | true =>
        rw [if_pos rfl]
        intro s H0 C cl fp
        refine Ev.w (he y' hm hp s H0 C cl fp) ⟨bk, ?_⟩
        rw [et, hp, if_pos rfl, List.map_append]
        rfl
      | false =>
        rw [if_neg Bool.false_ne_true]
        refine ⟨bk, ?_⟩
        rw [et, hp, if_neg Bool.false_ne_true, List.append_nil]
  · rw [h2, List.length_map, List.take_length]

/-! defs -/
/-- from frozen data to frozen data, nothing changed -/
def spPure (K : PySem.W.Frag) (n : Nat) (Fp : List PyData → PyData → Prop) : Sp := fun vs H Q _ => ∃ G ds d, vs.length = n ∧ Ex G H ∧ IsAll K G vs ds ∧ Fp ds d ∧ ∀ v G' H', PSt G H G' H' → Is K G' v d → Q v H'
/-- what may change at l alone -/
structure BSt (l : Addr) (G H G' H' : Hp) : Prop where
  gg : Ex G G'
  gh : Ex G' H'
  fr : ∀ a, a ≠ l → G a = none → H a ≠ none → G' a = none
  frl : G' l = none
  kp : ∀ a o, a ≠ l → H a = some o → H' a = some o
/-- the first argument an own list, the others frozen data -/
def spBox (K : PySem.W.Frag) (n : Nat) (Pre : List PyData → List PyData → Prop) (Fb : List PyData → List PyData → PyData → List PyData → Prop) : Sp := fun vs H Q _ => ∃ G l us ws es ds, vs = .ref l :: ws ∧ vs.length = n ∧ Ex G H ∧ G l = none ∧ H l = some (.lst us) ∧ IsAll K G us es ∧ IsAll K G ws ds ∧ Pre es ds ∧
  ∀ d es' v G' H' us', Fb es ds d es' → BSt l G H G' H' → H' l = some (.lst us') → IsAll K G' us' es' → Is K G' v d → Q v H'
structure Fn (P : Program) (w : World) (K : PySem.W.Frag) (mg : Str → Option Value) (base : Heap) (k : Nat) (x : Str) (ps : List Str) (sp : Sp) : Prop where
  ex : ∃ f fd, mg x = some (.ref f) ∧ PySem.W.keepIn K (.ref f) = true ∧ Binds K fd ps [] ∧ FnOk P w K mg base CX0 k f fd ps sp
theorem ew_call {k : Nat} {x : Str} {px : Pos} {ps : List Str} {Fp : List PyData → PyData → Prop} {Q : PyData → Rho → Prop} (F : Fn X.prog X.w X.K X.mg X.base k x ps (spPure X.K ps.length Fp)) (hr : Room k X.A) (ha : AvW X (e :: es) ρ fun ds ρ1 => ∃ d, ds.length = ps.length ∧ Fp ds d ∧ Q d ρ1)
    (hg : Gl X x := by rfl) (hdb : (x == ("__debug__" : Str)) = false := by decide) (he : starEach (e :: es) X.env = (false, eval e X.env) :: starEach es X.env := by rfl) (hpl : (backTo pos (starEach es X.env)).any (·.1) = false := by rfl) : EvW X (.Call (.Name x px) (e :: es) [] pos) ρ Q := fun σ G H rel R kk => by
  obtain ⟨f, fd, hm, hk, hb, F⟩ := F.ex
  refine te_of (pe_call F hr hg hm hk hb .nil pass0 pa_W hdb he hpl) (ha σ G H rel _ fun vs ds ρ1 G1 H1 r1 s1 i1 ⟨d, h1, h2, q⟩ => ?_)
  rw [List.append_nil]
  exact ⟨G1, ds, d, i1.length.trans h1, r1.ex, i1, h2, fun v G2 H2 p i2 => kk v d ρ1 G2 H2 (r1.pure p) (s1.trans p.stp) i2 q⟩
theorem ev_call {k : Nat} {x : Str} {px : Pos} {ps : List Str} {Fp : List PyData → PyData → Prop} (F : Fn X.prog X.w X.K X.mg X.base k x ps (spPure X.K ps.length Fp)) (hr : Room k X.A) (ha : Av X (e :: es) ρ ds) (h : Fp ds d) (hn : ds.length = ps.length := by rfl)
    (hg : Gl X x := by rfl) (hdb : (x == ("__debug__" : Str)) = false := by decide) (he : starEach (e :: es) X.env = (false, eval e X.env) :: starEach es X.env := by rfl) (hpl : (backTo pos (starEach es X.env)).any (·.1) = false := by rfl) : Ev X (.Call (.Name x px) (e :: es) [] pos) ρ d :=
  ew_call F hr (ha.w ⟨d, hn, h, rfl, rfl⟩) hg hdb he hpl
/-- an own list handed to a def that may change it -/
theorem Rel.box {K : PySem.W.Frag} {ρ : Rho} {σ : L2.St} {G H G' H' : Hp} {i : Nat} {l : Addr} {es es' : List PyData} {us' : List V} (r : Rel K ρ σ G H) (e : ρ[i]? = some (.lst l es)) (p : BSt l G H G' H') (h1 : H' l = some (.lst us')) (h2 : IsAll K G' us' es') :
    Rel K (ρ.set i (.lst l es')) σ G' H' ∧ Stp ρ G H (ρ.set i (.lst l es')) G' H' := by
  have hi : i < ρ.length := (List.getElem?_eq_some_iff.mp e).1
  have own : OwnAt ρ i l := ⟨_, e, rfl⟩
  obtain ⟨nG, nH, eσ⟩ := r.ownH own
  have ne : ∀ {j t b}, ρ[j]? = some t → t.own = some b → j ≠ i → b ≠ l := fun {j t b} q1 q2 q3 z => q3 (r.ds j i l ⟨t, q1, by rw [← z]; exact q2⟩ own)
  refine ⟨⟨p.gh, by rw [List.length_set, r.len], fun j t q => ?_, fun j k b h1 h2 => ?_⟩, ⟨p.gg, fun b h1 h2 h3 => p.fr b (fun z => h1 (by rw [z]; exact ⟨i, own⟩)) h2 h3, fun b o h1 h2 => p.kp b o (fun z => h1 (by rw [z]; exact ⟨i, own⟩)) h2, fun b h => ?_, fun b ⟨j, h⟩ => ?_⟩⟩
  · by_cases hj : j = i
    · subst hj
      rw [List.getElem?_set_self hi] at q
      cases q
      exact ⟨eσ, p.frl, us', h1, h2⟩
    · rw [List.getElem?_set_ne (Ne.symm hj)] at q
      have z := r.sl j t q
      cases t with
      | un => trivial
      | dat d =>
        obtain ⟨v, z1, z2⟩ := z
        exact ⟨v, z1, z2.mono p.gg⟩
      | lst b fs =>
        obtain ⟨z1, z2, ws, z3, z4⟩ := z
        have no := ne q rfl hj
        exact ⟨z1, p.fr b no z2 (by rw [z3]; exact nofun), ws, p.kp b _ no z3, z4.mono p.gg⟩
      | obj b o =>
        obtain ⟨z1, z2, u, z3, z4⟩ := z
        have no := ne q rfl hj
        exact ⟨z1, p.fr b no z2 (by rw [z3]; exact nofun), u, p.kp b _ no z3, o.up p.gg z4⟩
  · have bk : ∀ j, OwnAt (ρ.set i (.lst l es')) j b → OwnAt ρ j b := fun j h => by
      rcases ownAt_set h with ⟨e1, q⟩ | ⟨_, q⟩
      · cases q
        rw [e1]
        exact own
      · exact q
    exact r.ds j k b (bk j h1) (bk k h2)
  · by_cases hb : b = l
    · rw [hb, h1]
      exact nofun
    · cases q : H b with
      | none => exact absurd q h
      | some o =>
        rw [p.kp b o hb q]
        exact nofun
  · rcases ownAt_set h with ⟨_, q⟩ | ⟨_, q⟩
    · cases q
      exact .inl ⟨i, own⟩
    · exact .inl ⟨j, q⟩
theorem ew_callBox {k i : Nat} {x y : Str} {px py : Pos} {ps : List Str} {Pre : List PyData → List PyData → Prop} {Fb : List PyData → List PyData → PyData → List PyData → Prop} {Q : PyData → Rho → Prop} (F : Fn X.prog X.w X.K X.mg X.base k x ps (spBox X.K ps.length Pre Fb)) (hr : Room k X.A)
    (ha : AvW X es ρ fun ds ρ1 => ∃ l fs, ρ1[i]? = some (.lst l fs) ∧ ds.length + 1 = ps.length ∧ Pre fs ds ∧ ∀ d fs', Fb fs ds d fs' → Q d (ρ1.set i (.lst l fs'))) (h0 : ∃ l fs, ρ[i]? = some (.lst l fs) := by exact ⟨_, _, rfl⟩)
    (hN : X.N[i]? = some y := by rfl) (hv : Vis X.env.scope y := by first | exact Or.inl rfl | exact Or.inr (Or.inl rfl) | exact Or.inr (Or.inr rfl)) (hd : (y == ("__debug__" : Str)) = false := by decide) (hcd : (y == ("__classdict__" : Str)) = false := by decide)
    (hg : Gl X x := by rfl) (hdb : (x == ("__debug__" : Str)) = false := by decide) (he : starEach (.Name y py :: es) X.env = (false, eval (.Name y py) X.env) :: starEach es X.env := by rfl) (hpl : (backTo pos (starEach es X.env)).any (·.1) = false := by rfl) : EvW X (.Call (.Name x px) (.Name y py :: es) [] pos) ρ Q := fun σ G H rel R kk => by
  obtain ⟨f, fd, hm, hk, hb, F⟩ := F.ex
  obtain ⟨l0, fs0, h0⟩ := h0
  obtain ⟨e0, _⟩ := rel.sl i _ h0
  refine te_of (pe_call F hr hg hm hk hb .nil pass0 (pa_cons (pe_var hN hv hd hcd) pa_W he) hdb he hpl) ⟨_, e0, ha σ G H rel _ fun vs ds ρ1 G1 H1 r1 s1 i1 ⟨l, fs, h1, h2, h3, q⟩ => ?_⟩
  show spBox X.K ps.length Pre Fb ((V.ref l0 :: vs) ++ []) H1 R E0
  rw [List.append_nil]
  obtain ⟨e1, nG, us, hH, hv'⟩ := r1.sl i _ h1
  rw [e0] at e1
  cases e1
  refine ⟨G1, _, us, vs, fs, ds, rfl, by rw [List.length_cons, i1.length]; exact h2, r1.ex, nG, hH, hv', i1, h3, fun d fs' v G2 H2 us' z0 p z1 z2 z3 => ?_⟩
  obtain ⟨r2, s2⟩ := r1.box h1 p z1 z2
  exact kk v d _ G2 H2 r2 (s1.trans s2) z3 (q d fs' z0)
end
section
variable {P : Program} {w : World} {K : PySem.W.Frag} {mg : Str → Option Value} {base : Heap}
/-- the context of a def's body -/
abbrev fX (P : Program) (w : World) (K : PySem.W.Frag) (mg : Str → Option Value) (base : Heap) (N : List Str) (qual : Str) (st : Stmt) (f : Addr) (cdv : Value) (A : Around) (outer : List Env) (s : Shared) (H : Hp) (E : XK) : Cx := (cxOf CX0 P w K mg base N qual (defScope st) f cdv A outer s H E).nox
theorem getEl_rep {n i : Nat} {s : Sl} (h : (List.replicate n Sl.un)[i]? = some s) : s = .un := by
  rw [List.getElem?_replicate] at h
  split at h <;> cases h
  rfl
theorem start_dat {N : List Str} {G H : Hp} {vs : List V} {ds : List PyData} (e : Ex G H) (h : IsAll K G vs ds) : Rel K (ds.map Sl.dat ++ List.replicate (N.length - ds.length) Sl.un) (L2.start N vs) G H := by
  have hl := h.length
  refine ⟨e, by unfold L2.start; simp [hl], fun i s q => ?_, fun i j a ⟨s, q, h1⟩ _ => ?_⟩
  · by_cases hi : i < ds.length
    · rw [List.getElem?_append_left (by simpa using hi), List.getElem?_map] at q
      cases hd : ds[i]? with
      | none => rw [hd] at q; cases q
      | some d =>
        rw [hd] at q
        cases q
        obtain ⟨v, h1, h2⟩ := h.get hd
        refine ⟨v, ?_, h2⟩
        unfold L2.start
        rw [List.getElem?_append_left (by simp [hl]; exact hi), List.getElem?_map, h1]
        rfl
    · rw [List.getElem?_append_right (by simpa using hi)] at q
      rw [getEl_rep q]
      trivial
  · exfalso
    by_cases hi : i < ds.length
    · rw [List.getElem?_append_left (by simpa using hi), List.getElem?_map] at q
      cases hd : ds[i]? with
      | none => rw [hd] at q; cases q
      | some d =>
        rw [hd] at q
        cases q
        cases h1
    · rw [List.getElem?_append_right (by simpa using hi)] at q
      rw [getEl_rep q] at h1
      cases h1
theorem no_own {n : Nat} {ds : List PyData} {a : Addr} : ¬ Own (ds.map Sl.dat ++ List.replicate n Sl.un) a := fun ⟨i, s, q, h1⟩ => by
  by_cases hi : i < ds.length
  · rw [List.getElem?_append_left (by simpa using hi), List.getElem?_map] at q
    cases hd : ds[i]? with
    | none => rw [hd] at q; cases q
    | some d =>
      rw [hd] at q
      cases q
      cases h1
  · rw [List.getElem?_append_right (by simpa using hi)] at q
    rw [getEl_rep q] at h1
    cases h1
theorem fn_pure {x qual : Str} {st : Stmt} {f : Addr} {fd : FuncData} {N ps : List Str} {k : Nat} {Fp : List PyData → PyData → Prop} (F : Fun K x qual st f fd) (S : FnScope N ps (defScope st))
    (hb : ∀ (cdv : Value) (A : Around) (outer : List Env) (s : Shared) (H : Hp) (E : XK) (ds : List PyData) (d : PyData), Room k (fX P w K mg base N qual st f cdv A outer s H E).A → Fp ds d → ds.length = ps.length →
      BvW (fX P w K mg base N qual st f cdv A outer s H E) (defBody st) (ds.map Sl.dat ++ List.replicate (N.length - ds.length) Sl.un) { nx := fun _ => d = .none, rt := fun d' _ => d' = d }) :
    FnOk P w K mg base CX0 (k + 1) f fd ps (spPure K ps.length Fp) := by
  refine F.ok S (fun vs H Q E ⟨G, ds, d, h, _⟩ => h) (fun cdv A outer s H vs Q E hr ⟨G, ds, d, h1, h2, h3, h4, q⟩ => ?_)
  refine ⟨_, pb_W, hb cdv A outer s H E ds d hr h4 (by rw [← h3.length]; exact h1) (L2.start N vs) G H (start_dat h2 h3) _ ?_⟩
  have fin : ∀ {ρ' σ' G' H' v}, Rel K ρ' σ' G' H' → Stp (ds.map Sl.dat ++ List.replicate (N.length - ds.length) Sl.un) G H ρ' G' H' → Is K G' v d → Q v H' := fun {ρ' σ' G' H' v} r s i =>
    q v G' H' ⟨s.gg, fun a o z => s.kp a o no_own z, r.ex, fun a z1 z2 => s.fr a no_own z1 z2⟩ i
  exact ⟨fun ρ' σ' G' H' r s e => fin r s (by rw [e]; exact .non), fun v d' ρ' σ' G' H' r s i e => fin r s (by rw [← e]; exact i), fun _ _ _ _ _ _ z => z.elim, fun _ _ _ _ _ _ z => z.elim⟩
theorem fn_box {x qual : Str} {st : Stmt} {f : Addr} {fd : FuncData} {N ps : List Str} {k : Nat} {Pre : List PyData → List PyData → Prop} {Fb : List PyData → List PyData → PyData → List PyData → Prop} (F : Fun K x qual st f fd) (S : FnScope N ps (defScope st))
    (hb : ∀ (cdv : Value) (A : Around) (outer : List Env) (s : Shared) (H : Hp) (E : XK) (l : Addr) (es ds : List PyData), Room k (fX P w K mg base N qual st f cdv A outer s H E).A → Pre es ds → ds.length + 1 = ps.length →
      BvW (fX P w K mg base N qual st f cdv A outer s H E) (defBody st) (.lst l es :: (ds.map Sl.dat ++ List.replicate (N.length - (ds.length + 1)) Sl.un)) { nx := fun ρ' => ∃ es', Fb es ds .none es' ∧ ρ'[0]? = some (.lst l es'), rt := fun d ρ' => ∃ es', Fb es ds d es' ∧ ρ'[0]? = some (.lst l es') }) :
    FnOk P w K mg base CX0 (k + 1) f fd ps (spBox K ps.length Pre Fb) := by
  refine F.ok S (fun vs H Q E ⟨G, l, us, ws, es, ds, _, h, _⟩ => h) (fun cdv A outer s H vs Q E hr ⟨G, l, us, ws, es, ds, hv, h1, h2, h3, h4, h5, h6, h7, q⟩ => ?_)
  subst hv
  have hlen : ds.length + 1 = ps.length := by
    rw [← h6.length]
    exact h1
  have hN : 1 ≤ N.length := by
    have := congrArg List.length S.pre
    rw [List.length_take] at this
    omega
  have ow : ∀ {i a}, OwnAt (.lst l es :: (ds.map Sl.dat ++ List.replicate (N.length - (ds.length + 1)) Sl.un)) i a → i = 0 ∧ a = l := fun {i a} ⟨t, e, h⟩ => by
    cases i with
    | zero =>
      cases e
      cases h
      exact ⟨rfl, rfl⟩
    | succ i =>
      rw [List.getElem?_cons_succ] at e
      exact (no_own ⟨i, t, e, h⟩).elim
  have rel : Rel K (.lst l es :: (ds.map Sl.dat ++ List.replicate (N.length - (ds.length + 1)) Sl.un)) (L2.start N (.ref l :: ws)) G H := by
    refine ⟨h2, ?_, fun i t e => ?_, fun i j a z1 z2 => (ow z1).1.trans (ow z2).1.symm⟩
    · unfold L2.start
      simp [h6.length]
    · cases i with
      | zero =>
        cases e
        exact ⟨rfl, h3, us, h4, h5⟩
      | succ i =>
        rw [List.getElem?_cons_succ] at e
        have z := (start_dat (N := N.drop 1) h2 h6).sl i t (by
          have en : (N.drop 1).length - ds.length = N.length - (ds.length + 1) := by rw [List.length_drop]; omega
          rw [en]
          exact e)
        have es : (L2.start N (.ref l :: ws))[i + 1]? = (L2.start (N.drop 1) ws)[i]? := by
          unfold L2.start
          rw [List.map_cons, List.cons_append, List.getElem?_cons_succ]
          have en : N.length - (V.ref l :: ws).length = (N.drop 1).length - ws.length := by rw [List.length_drop, List.length_cons]; omega
          rw [en]
        cases t with
        | un => trivial
        | dat d =>
          obtain ⟨v, z1, z2⟩ := z
          exact ⟨v, es.trans z1, z2⟩
        | lst b fs => exact absurd (ow ⟨_, by rw [List.getElem?_cons_succ]; exact e, rfl⟩).1 (Nat.succ_ne_zero i)
        | obj b o => exact absurd (ow ⟨_, by rw [List.getElem?_cons_succ]; exact e, rfl⟩).1 (Nat.succ_ne_zero i)
  refine ⟨_, pb_W, hb cdv A outer s H E l es ds hr h7 hlen _ G H rel _ ?_⟩
  have fin : ∀ {ρ' σ' G' H' v d es'}, Fb es ds d es' → Rel K ρ' σ' G' H' → Stp (.lst l es :: (ds.map Sl.dat ++ List.replicate (N.length - (ds.length + 1)) Sl.un)) G H ρ' G' H' → ρ'[0]? = some (.lst l es') → Is K G' v d → Q v H' := fun {ρ' σ' G' H' v d es'} z0 r s e i => by
    obtain ⟨_, nG, us', hH', hv'⟩ := r.sl 0 _ e
    exact q d es' v G' H' us' z0 ⟨s.gg, r.ex, fun a z1 z2 z3 => s.fr a (fun ⟨i, z⟩ => z1 (ow z).2) z2 z3, nG, fun a o z1 z2 => s.kp a o (fun ⟨i, z⟩ => z1 (ow z).2) z2⟩ hH' hv' i
  exact ⟨fun ρ' σ' G' H' r s ⟨es', e1, e2⟩ => fin e1 r s e2 .non, fun v d' ρ' σ' G' H' r s i ⟨es', e1, e2⟩ => fin e1 r s e2 i, fun _ _ _ _ _ _ z => z.elim, fun _ _ _ _ _ _ z => z.elim⟩
end
end Pl
namespace Pl
open PySem PySem.Spec PyProof.Rows L2
open Evl (Ex ex_t ex_l)
section
variable {X : Cx} {e a b c iter : Expr} {es ts ifs rest : List Expr} {st : Stmt} {sts body orelse : List Stmt} {ρ : Rho} {d f : PyData} {ds : List PyData} {pos : Pos} {D D' : En} {i j : Int}
/-! short words: numbers -/
theorem ev_add (ha : Ev X a ρ (.int i)) (hb : Ev X b ρ (.int j)) : Ev X (.BinOp a .Add b pos) ρ (.int (i + j)) := ev_op op_add ha hb (od_I0 (fun _ => .int _) rfl)
theorem ev_sub (ha : Ev X a ρ (.int i)) (hb : Ev X b ρ (.int j)) : Ev X (.BinOp a .Sub b pos) ρ (.int (i - j)) := ev_op op_sub ha hb (od_I0 (fun _ => .int _) rfl)
theorem ev_mul (ha : Ev X a ρ (.int i)) (hb : Ev X b ρ (.int j)) (h : CMul i j) : Ev X (.BinOp a .Mult b pos) ρ (.int (i * j)) := ev_op op_mul ha hb (od_I h (fun _ => .int _) rfl)
theorem ev_mod (ha : Ev X a ρ (.int i)) (hb : Ev X b ρ (.int j)) (h : 0 < j := by decide) : Ev X (.BinOp a .Mod b pos) ρ (.int (i % j)) := ev_op op_mod ha hb (od_I h (fun _ => .int _) rfl)
theorem ev_fdiv (ha : Ev X a ρ (.int i)) (hb : Ev X b ρ (.int j)) (h : CDiv i j) : Ev X (.BinOp a .FloorDiv b pos) ρ (.int (i / j)) := ev_op op_fdiv ha hb (od_I h (fun _ => .int _) rfl)
theorem ev_pow (ha : Ev X a ρ (.int i)) (hb : Ev X b ρ (.int j)) (h : CPow i j) : Ev X (.BinOp a .Pow b pos) ρ (.int (i ^ j.toNat)) := ev_op op_pow ha hb (od_I h (fun _ => .int _) rfl)
theorem ev_lt (ha : Ev X a ρ (.int i)) (hb : Ev X b ρ (.int j)) : Ev X (.Compare a [.Lt] [b] pos) ρ (.bool (decide (i < j))) := ev_cmp op_lt ha hb (od_I0 (fun _ => .bl _) rfl)
theorem ev_le (ha : Ev X a ρ (.int i)) (hb : Ev X b ρ (.int j)) : Ev X (.Compare a [.LtE] [b] pos) ρ (.bool (decide (i ≤ j))) := ev_cmp op_le ha hb (od_I0 (fun _ => .bl _) rfl)
theorem ev_gt (ha : Ev X a ρ (.int i)) (hb : Ev X b ρ (.int j)) : Ev X (.Compare a [.Gt] [b] pos) ρ (.bool (decide (j < i))) := ev_cmp op_gt ha hb (od_I0 (fun _ => .bl _) rfl)
theorem ev_ge (ha : Ev X a ρ (.int i)) (hb : Ev X b ρ (.int j)) : Ev X (.Compare a [.GtE] [b] pos) ρ (.bool (decide (j ≤ i))) := ev_cmp op_ge ha hb (od_I0 (fun _ => .bl _) rfl)
theorem ev_eq (ha : Ev X a ρ (.int i)) (hb : Ev X b ρ (.int j)) : Ev X (.Compare a [.Eq] [b] pos) ρ (.bool (decide (i = j))) := ev_cmp op_eq ha hb (od_eqI rfl)
theorem ev_ne (ha : Ev X a ρ (.int i)) (hb : Ev X b ρ (.int j)) : Ev X (.Compare a [.NotEq] [b] pos) ρ (.bool (!decide (i = j))) := ev_cmp op_ne ha hb (od_neI rfl)
theorem tv_lt (ha : Ev X a ρ (.int i)) (hb : Ev X b ρ (.int j)) : Tv X (.Compare a [.Lt] [b] pos) ρ (decide (i < j)) := tv_cmp op_lt ha hb (od_I0 (fun _ => .bl _) rfl)
theorem tv_le (ha : Ev X a ρ (.int i)) (hb : Ev X b ρ (.int j)) : Tv X (.Compare a [.LtE] [b] pos) ρ (decide (i ≤ j)) := tv_cmp op_le ha hb (od_I0 (fun _ => .bl _) rfl)
theorem tv_gt (ha : Ev X a ρ (.int i)) (hb : Ev X b ρ (.int j)) : Tv X (.Compare a [.Gt] [b] pos) ρ (decide (j < i)) := tv_cmp op_gt ha hb (od_I0 (fun _ => .bl _) rfl)
theorem tv_ge (ha : Ev X a ρ (.int i)) (hb : Ev X b ρ (.int j)) : Tv X (.Compare a [.GtE] [b] pos) ρ (decide (j ≤ i)) := tv_cmp op_ge ha hb (od_I0 (fun _ => .bl _) rfl)
theorem tv_eq (ha : Ev X a ρ (.int i)) (hb : Ev X b ρ (.int j)) : Tv X (.Compare a [.Eq] [b] pos) ρ (decide (i = j)) := tv_cmp op_eq ha hb (od_eqI rfl)
theorem tv_ne (ha : Ev X a ρ (.int i)) (hb : Ev X b ρ (.int j)) : Tv X (.Compare a [.NotEq] [b] pos) ρ (!decide (i = j)) := tv_cmp op_ne ha hb (od_neI rfl)
theorem ev_neS {x y : Str} (ha : Ev X a ρ (.str x)) (hb : Ev X b ρ (.str y)) : Ev X (.Compare a [.NotEq] [b] pos) ρ (.bool (!decide (x = y))) := ev_cmp op_ne ha hb (od_neS rfl)
theorem tv_neS {x y : Str} (ha : Ev X a ρ (.str x)) (hb : Ev X b ρ (.str y)) : Tv X (.Compare a [.NotEq] [b] pos) ρ (!decide (x = y)) := tv_cmp op_ne ha hb (od_neS rfl)
theorem ev_isN (ha : Ev X a ρ d) {j pos'} : Ev X (.Compare a [.Is] [.Constant .none j pos'] pos) ρ (.bool (isN d)) := ev_cmp op_isN ha ev_non (od_isN rfl)
theorem ev_notN (ha : Ev X a ρ d) {j pos'} : Ev X (.Compare a [.IsNot] [.Constant .none j pos'] pos) ρ (.bool (!isN d)) := ev_cmp op_notN ha ev_non (od_notN rfl)
theorem tv_isN (ha : Ev X a ρ d) {j pos'} : Tv X (.Compare a [.Is] [.Constant .none j pos'] pos) ρ (isN d) := tv_cmp op_isN ha ev_non (od_isN rfl)
theorem tv_notN (ha : Ev X a ρ d) {j pos'} : Tv X (.Compare a [.IsNot] [.Constant .none j pos'] pos) ρ (!isN d) := tv_cmp op_notN ha ev_non (od_notN rfl)
theorem tv_inS {x : Str} (xs : List Str) (ha : Ev X a ρ (.str x)) (hb : Ev X b ρ (.tuple (xs.map PyData.str))) (hm : behindInMarks .In b = false := by rfl) : Tv X (.Compare a [.In] [b] pos) ρ (decide (x ∈ xs)) := tv_cmp op_in_seq ha hb (od_inS xs rfl) hm
theorem tv_niS {x : Str} (xs : List Str) (ha : Ev X a ρ (.str x)) (hb : Ev X b ρ (.tuple (xs.map PyData.str))) (hm : behindInMarks .NotIn b = false := by rfl) : Tv X (.Compare a [.NotIn] [b] pos) ρ (!decide (x ∈ xs)) := tv_cmp op_notIn_seq ha hb (od_inS xs rfl) hm
theorem tv_inI (xs : List Int) (ha : Ev X a ρ (.int i)) (hb : Ev X b ρ (.tuple (xs.map PyData.int))) (hm : behindInMarks .In b = false := by rfl) : Tv X (.Compare a [.In] [b] pos) ρ (decide (i ∈ xs)) := tv_cmp op_in_seq ha hb (od_inI xs rfl) hm
theorem tv_niI (xs : List Int) (ha : Ev X a ρ (.int i)) (hb : Ev X b ρ (.tuple (xs.map PyData.int))) (hm : behindInMarks .NotIn b = false := by rfl) : Tv X (.Compare a [.NotIn] [b] pos) ρ (!decide (i ∈ xs)) := tv_cmp op_notIn_seq ha hb (od_inI xs rfl) hm
theorem ev_inS {x : Str} (xs : List Str) (ha : Ev X a ρ (.str x)) (hb : Ev X b ρ (.tuple (xs.map PyData.str))) (hm : behindInMarks .In b = false := by rfl) : Ev X (.Compare a [.In] [b] pos) ρ (.bool (decide (x ∈ xs))) := ev_cmp op_in_seq ha hb (od_inS xs rfl) hm
theorem ev_niS {x : Str} (xs : List Str) (ha : Ev X a ρ (.str x)) (hb : Ev X b ρ (.tuple (xs.map PyData.str))) (hm : behindInMarks .NotIn b = false := by rfl) : Ev X (.Compare a [.NotIn] [b] pos) ρ (.bool (!decide (x ∈ xs))) := ev_cmp op_notIn_seq ha hb (od_inS xs rfl) hm
theorem ev_inI (xs : List Int) (ha : Ev X a ρ (.int i)) (hb : Ev X b ρ (.tuple (xs.map PyData.int))) (hm : behindInMarks .In b = false := by rfl) : Ev X (.Compare a [.In] [b] pos) ρ (.bool (decide (i ∈ xs))) := ev_cmp op_in_seq ha hb (od_inI xs rfl) hm
theorem ev_niI (xs : List Int) (ha : Ev X a ρ (.int i)) (hb : Ev X b ρ (.tuple (xs.map PyData.int))) (hm : behindInMarks .NotIn b = false := by rfl) : Ev X (.Compare a [.NotIn] [b] pos) ρ (.bool (!decide (i ∈ xs))) := ev_cmp op_notIn_seq ha hb (od_inI xs rfl) hm
theorem ev_eqD (hu : X.A.units + 64 < cLine) {x y : PyData} (ha : Ev X a ρ x) (hb : Ev X b ρ y) (hx : SeqAt.shaped x = true) (hy : SeqAt.shaped y = true) : Ev X (.Compare a [.Eq] [b] pos) ρ (.bool (PyData.eqv x y)) := ev_cmp (op_eqD hu) ha hb (od_eqD hx hy rfl)
theorem tv_eqD (hu : X.A.units + 64 < cLine) {x y : PyData} (ha : Ev X a ρ x) (hb : Ev X b ρ y) (hx : SeqAt.shaped x = true) (hy : SeqAt.shaped y = true) : Tv X (.Compare a [.Eq] [b] pos) ρ (PyData.eqv x y) := tv_cmp (op_eqD hu) ha hb (od_eqD hx hy rfl)
theorem tv_neD (hu : X.A.units + 64 < cLine) {x y : PyData} (ha : Ev X a ρ x) (hb : Ev X b ρ y) (hx : SeqAt.shaped x = true) (hy : SeqAt.shaped y = true) : Tv X (.Compare a [.NotEq] [b] pos) ρ (!PyData.eqv x y) := tv_cmp (op_neD hu) ha hb (od_neD hx hy rfl)
theorem ev_neD (hu : X.A.units + 64 < cLine) {x y : PyData} (ha : Ev X a ρ x) (hb : Ev X b ρ y) (hx : SeqAt.shaped x = true) (hy : SeqAt.shaped y = true) : Ev X (.Compare a [.NotEq] [b] pos) ρ (.bool (!PyData.eqv x y)) := ev_cmp (op_neD hu) ha hb (od_neD hx hy rfl)
/-! a constant of the module -/
def Gc (K : PySem.W.Frag) (mg : Str → Option Value) (x : Str) (d : PyData) : Prop := ∃ v u, mg x = some u ∧ RelV v u ∧ ∀ G, Is K G v d
theorem ev_glob {x : Str} (h : Gc X.K X.mg x d) (hg : Gl X x := by rfl) (hd : (x == ("__debug__" : Str)) = false := by decide) : Ev X (.Name x pos) ρ d := by
  obtain ⟨v, u, h1, h2, h3⟩ := h
  exact ew_k (pe_glob hg h1 h2 hd) h3 ⟨rfl, rfl⟩
end
end Pl
namespace Pl
open PySem PySem.Spec PyProof.Rows L2
open Evl (Ex ex_t ex_l)
section
variable {X : Cx} {e a b c iter : Expr} {es ts ifs rest : List Expr} {st : Stmt} {sts body orelse : List Stmt} {ρ : Rho} {d f : PyData} {ds : List PyData} {pos : Pos} {D D' : En} {i j : Int}
/-! isinstance -/
def tyD : PyData → Option String
  | .none => some "NoneType"
  | .bool _ => some "bool"
  | .int _ => some "int"
  | .str _ => some "str"
  | .tuple _ => some "tuple"
  | _ => none
theorem tyX_of {K : PySem.W.Frag} {G H : Hp} {v : V} {d : PyData} {t : String} (h : Is K G v d) (x : Ex G H) (e : tyD d = some t) : TyX K H v (.type t) := by
  cases h with
  | non => cases e; exact .base .non
  | bl b => cases e; exact .base (.bl b)
  | int i => cases e; exact .base (.int i)
  | str s => cases e; exact .base (.str s)
  | lst h1 h2 => cases e
  | tup h1 h2 =>
    cases e
    rcases h1 with (h1 | ⟨o, h1⟩) | ⟨o, its, n, h1, h3, _⟩
    · exact .base (.tup (x _ _ h1))
    · exact .fTuple (x _ _ h1)
    · exact .kTuple h1 h3
theorem ev_isi {T : Str} {Ts t : String} {k : Bool} {pi pT : Pos} (hm : X.mg "isinstance" = none) (hT : X.mg T = none) (ha : Ev X a ρ d) (ht : tyD d = some t) (hk : kitB t Ts = some k) (hb : bootBuiltins T = some (.type Ts)) (hg : Gl X "isinstance" := by rfl) (hgT : Gl X T := by rfl) (hn : T ≠ "__name__" := by decide) (hdT : (T == ("__debug__" : Str)) = false := by decide)
    (he : starEach [a, .Name T pT] X.env = (false, eval a X.env) :: starEach [.Name T pT] X.env := by rfl) (he2 : starEach [.Name T pT] X.env = (false, eval (.Name T pT) X.env) :: starEach [] X.env := by rfl) (hpl : (backTo pos (starEach [.Name T pT] X.env)).any (·.1) = false := by rfl) :
    Ev X (.Call (.Name "isinstance" pi) [a, .Name T pT] [] pos) ρ (.bool k) := fun σ G H rel R kk =>
  te_of (pe_callB call_isi hg hm (by decide +kernel) (pa_cons pe_W (pa_cons (pe_bltn (v := .ty Ts) hgT hT hb rfl hn hdT) pa_nil he2) he) (by decide) (by decide) he hpl)
    (ha σ G H rel _ fun v _ _ G1 H1 r1 s1 i1 ⟨e1, e2⟩ => by
      subst e1
      subst e2
      exact ⟨v, _, _, _, k, rfl, .ty Ts, tyX_of i1 r1.ex ht, kit_ty hk, kk _ _ _ G1 H1 r1 s1 (.bl k) ⟨rfl, rfl⟩⟩)
/-! == True and so on, is of truth values -/
theorem od_isB {K : PySem.W.Frag} {k : PyData → Prop} {x y : Bool} (q : k (.bool (decide (x = y)))) : OpD K (fun x y H Q => ∃ a b, x = .bl a ∧ y = .bl b ∧ Q (.bl (decide (a = b))) H) (.bool x) (.bool y) k := fun G H v w e hv hw R z => by
  cases hv
  cases hw
  exact ⟨x, y, rfl, rfl, z _ _ G H (.refl e) (.bl _) q⟩
theorem tv_isB {x y : Bool} (ha : Ev X a ρ (.bool x)) (hb : Ev X b ρ (.bool y)) : Tv X (.Compare a [.Is] [b] pos) ρ (decide (x = y)) := tv_cmp op_is_bl ha hb (od_isB rfl)
theorem ev_isB {x y : Bool} (ha : Ev X a ρ (.bool x)) (hb : Ev X b ρ (.bool y)) : Ev X (.Compare a [.Is] [b] pos) ρ (.bool (decide (x = y))) := ev_cmp op_is_bl ha hb (od_isB rfl)
theorem od_inB {K : PySem.W.Frag} {k : PyData → Prop} {x y : Bool} (q : k (.bool (!decide (x = y)))) : OpD K (fun x y H Q => ∃ a b, x = .bl a ∧ y = .bl b ∧ Q (.bl (!decide (a = b))) H) (.bool x) (.bool y) k := fun G H v w e hv hw R z => by
  cases hv
  cases hw
  exact ⟨x, y, rfl, rfl, z _ _ G H (.refl e) (.bl _) q⟩
theorem tv_inB {x y : Bool} (ha : Ev X a ρ (.bool x)) (hb : Ev X b ρ (.bool y)) : Tv X (.Compare a [.IsNot] [b] pos) ρ (!decide (x = y)) := tv_cmp op_isnot_bl ha hb (od_inB rfl)
/-! tuples joined, repeated, cut -/
theorem od_catT {K : PySem.W.Frag} {k : PyData → Prop} {xs ys : List PyData} (hz : xs.length + ys.length ≤ 1000000) (q : k (.tuple (xs ++ ys))) : OpD K (rCatA K) (.tuple xs) (.tuple ys) k := fun G H v w x hv hw R z => by
  cases hv with
  | tup h1 h2 =>
    cases hw with
    | tup h3 h4 =>
      rename_i l1 v1 l2 v2
      refine ⟨_, _, _, _, rfl, rfl, ex_t x h1, ex_t x h3, by rw [h2.length, h4.length]; exact big hz, fun e => ?_, fun e1 e2 => ?_, fun _ _ p hp => ?_⟩
      · subst e
        cases h2
        exact z _ _ G H (.refl x) (.tup h3 h4) q
      · subst e2
        cases h4
        rw [List.append_nil] at q
        exact z _ _ G H (.refl x) (.tup h1 h2) q
      · have P := PSt.new (o := .tup (v1 ++ v2)) x hp
        exact z _ _ _ _ P (.tup (SqT.of upd_same) ((h2.app h4).mono P.gg)) q
theorem ev_catT {xs ys : List PyData} (ha : Ev X a ρ (.tuple xs)) (hb : Ev X b ρ (.tuple ys)) (hz : xs.length + ys.length ≤ 1000000) : Ev X (.BinOp a .Add b pos) ρ (.tuple (xs ++ ys)) := ev_op op_catA ha hb (od_catT hz rfl)
/-- x[1:] of a tuple -/
theorem ev_tail {p2 p3 : Pos} {k0 : Nat} {x : PyData} (ha : Ev X a ρ (.tuple (x :: ds))) : Ev X (.Subscript a (.Slice (some (.Constant (.int 1) k0 p3)) none none p2) pos) ρ (.tuple ds) := fun σ G H rel R k =>
  te_of (pe_slice sl_tupA pe_W (po_some pe_int) po_none) (ha σ G H rel _ fun v _ _ G1 H1 r1 s1 i1 ⟨e1, e2⟩ => by
    subst e1
    subst e2
    refine ⟨1, rfl, ?_⟩
    cases i1 with
    | tup h1 h2 =>
      cases h2 with
      | cons h2 h3 =>
        rename_i l v vs
        have e1 : HT.sIx (v :: vs).length 0 (some 1) = 1 := by
          rw [show (some (1 : Int)) = some ((1 : Nat) : Int) from rfl, HT.sIx_nat, List.length_cons]
          omega
        refine ⟨_, _, rfl, ex_t r1.ex h1, fun z => ?_, fun _ p hp => ?_⟩
        · rw [e1] at z
          exact absurd z.1 (by decide)
        · have P := PSt.new (o := .tup vs) r1.ex hp
          have ec : cutV (v :: vs) (some 1) none = vs := by
            unfold cutV
            rw [e1, HT.sIx_none]
            simp
          rw [ec]
          exact k _ _ _ _ _ (r1.pure P) (s1.trans P.stp) (.tup (SqT.of upd_same) (h3.mono P.gg)) ⟨rfl, rfl⟩)
theorem ev_tail' {p2 p3 : Pos} {k0 : Nat} (ha : Ev X a ρ (.tuple ds)) : Ev X (.Subscript a (.Slice (some (.Constant (.int 1) k0 p3)) none none p2) pos) ρ (.tuple ds.tail) := by
  cases ds with
  | cons x r => exact ev_tail ha
  | nil =>
    exact fun σ G H rel R k => te_of (pe_slice sl_tupA pe_W (po_some pe_int) po_none) (ha σ G H rel _ fun v _ _ G1 H1 r1 s1 i1 ⟨e1, e2⟩ => by
      subst e1
      subst e2
      refine ⟨1, rfl, ?_⟩
      cases i1 with
      | tup h1 h2 =>
        cases h2
        exact ⟨_, _, rfl, ex_t r1.ex h1, fun z => k _ _ _ _ _ r1 s1 (.tup h1 .nil) ⟨rfl, rfl⟩, fun z => absurd ⟨by decide, by decide⟩ z⟩)
/-! zip of two tuples -/
theorem iv_zipT {tg : List Expr} {kk : Nat} {tpos p : Pos} {QI : List PyData → (Rho → Prop) → Rho → Prop} {xs ys : List PyData} (hm : X.mg "zip" = none) (ha : Av X [a, b] ρ [.tuple xs, .tuple ys]) (q : QI ((xs.zip ys).map fun z => .tuple [z.1, z.2]) (fun _ => True) ρ) (hg : Gl X "zip" := by rfl)
    (hs : starEach [a, b] X.env = (false, eval a X.env) :: starEach [b] X.env := by rfl) (hpl : (backTo pos (starEach [b] X.env)).any (·.1) = false := by rfl) : IvW X (.Tuple tg kk tpos) (.Call (.Name "zip" p) [a, b] [] pos) ρ QI := fun σ G H rel R k =>
  ti_of (RZ.pi_zipA hg hm pa_W hs hpl) (ha σ G H rel _ fun vs _ _ G1 H1 r1 s1 i1 ⟨e1, e2⟩ => by
    subst e1
    subst e2
    cases i1 with
    | cons x1 x2 =>
      cases x2 with
      | cons x2 x3 =>
        cases x3
        cases x1 with
        | tup h1 h2 =>
          cases x2 with
          | tup h3 h4 =>
            rename_i l1 v1 l2 v2
            refine ⟨l1, l2, v1, v2, rfl, .inr ⟨ex_t r1.ex h1, ex_t r1.ex h3, k _ _ _ _ G1 H1 r1 s1 (fun i ρ2 σ2 G2 H2 r2 e2 _ => ?_) q⟩⟩
            have q1 : SqT X.K H2 l1 v1 := ex_t r2.ex (ex_t e2 h1)
            have q2 : SqT X.K H2 l2 v2 := ex_t r2.ex (ex_t e2 h3)
            rw [List.length_map, List.length_zip]
            refine ⟨fun hi => ⟨⟨v1, v2, v1[i]'(by rw [h2.length]; omega), v2[i]'(by rw [h4.length]; omega), q1, q2, by simp, by simp⟩, fun x H' y => ?_⟩, fun hi => ⟨v1, v2, q1, q2, by rw [h2.length, h4.length]; omega⟩⟩
            obtain ⟨T, x1, x2, rfl, hT, rfl, y1, y2⟩ := y
            obtain ⟨d1, e3, h5⟩ := h2.get' (y1 v1 q1)
            obtain ⟨d2, e4, h6⟩ := h4.get' (y2 v2 q2)
            have P := PSt.new (o := .tup [x1, x2]) r2.ex hT
            refine ⟨_, _, ?_, P, .tup (SqT.of upd_same) (.cons ((h5.mono e2).mono P.gg) (.cons ((h6.mono e2).mono P.gg) .nil))⟩
            have ez : (xs.zip ys)[i]? = some (d1, d2) := List.getElem?_zip_eq_some.mpr ⟨e3, e4⟩
            rw [List.getElem?_map, ez]
            rfl)
/-! min of a list of pairs -/
def pr (p : Int × Int) : PyData := .tuple [.int p.1, .int p.2]
def ltP (p q : Int × Int) : Bool := if p.1 = q.1 then decide (p.2 < q.2) else decide (p.1 < q.1)
/-- the first of the least -/
def minP (x : Int × Int) (xs : List (Int × Int)) : Int × Int := xs.foldl (fun a y => if ltP y a = true then y else a) x
theorem reads_pr {x : Int × Int} : PySem.W.Datum.toD x = pr x := rfl
def rMinP (K : PySem.W.Frag) : List V → Hp → VK → Prop := fun vs H Q => ∃ (l : Addr) (us : List V) (x : Int × Int) (xs : List (Int × Int)) (G : Hp), vs = [V.ref l] ∧ SqL K H l us ∧ Ex G H ∧ IsAll K G us ((x :: xs).map pr) ∧ ∀ v, Is K G v (pr (minP x xs)) → Q v H
theorem cr_minP (hc : X.calm = true) (hu : X.A.units + 64 < cLine) : CallR X (.builtin "min") (rMinP X.K) := by
  intro pins s σ H vs us Q I r h
  obtain ⟨l, ws, x, xs, G, rfl, hl, eG, hall, q⟩ := h
  obtain ⟨its, rv, pl, _⟩ := I.list hl
  rw [Vals.ref1 r]
  obtain ⟨as, ra⟩ := Dp.readsAll I _ ws its (hall.mono eG).dp rv
  have hdep : PySem.W.Datum.depth (Int × Int) ≤ 60 := by decide
  refine PySem.W.min_list_datum (x := x) (xs := xs) (I.ok.hd hc) pl.isList ⟨as, ra⟩ (by omega) fun i v h' tk hi hv hk => ?_
  have hi' : its[i]? = some v := by simpa using hi
  cases hd : ((x :: xs).map pr)[i]? with
  | none =>
    have h1 := rv.length
    have h2 := hall.length
    have h3 := (List.getElem?_eq_some_iff.mp hi').1
    have h4 := List.getElem?_eq_none_iff.mp hd
    omega
  | some d =>
    obtain ⟨w, hw, iw⟩ := hall.get hd
    obtain ⟨u, hu', ru⟩ := rv.get hw
    rw [hi'] at hu'
    cases hu'
    obtain ⟨bs, rb⟩ := hv
    obtain ⟨cs, rc⟩ := Dp.reads I d w v (iw.mono eG).dp ru
    obtain ⟨ed, _⟩ := PyProof.Rows.reads_det (fun b o e _ => hk b o e) rc rb
    have ed' : d = pr (minP x xs) := ed.symm
    exact ⟨w, H, I.kept hk, ru, q w (by rw [← ed']; exact iw)⟩
theorem ew_minP {Q : PyData → Rho → Prop} {px : Pos} (hc : X.calm = true) (hu : X.A.units + 64 < cLine) (hm : X.mg "min" = none) (ha : EvW X a ρ fun d ρ1 => ∃ x xs, d = .list ((x :: xs).map pr) ∧ Q (pr (minP x xs)) ρ1) (hg : Gl X "min" := by rfl) (he : starEach [a] X.env = (false, eval a X.env) :: starEach [] X.env := by rfl) (hpl : (backTo pos (starEach [] X.env)).any (·.1) = false := by rfl) : EvW X (.Call (.Name "min" px) [a] [] pos) ρ Q :=
  ew_callB (cr_minP hc hu) hm (by decide +kernel) (aw_cons ha (fun d ρ1 ⟨x, xs, h, q⟩ => aw_nil fun G H vs e hv R z => by
    subst h
    cases hv with
    | cons h1 h2 =>
      cases h2
      cases h1 with
      | lst h3 h4 => exact ⟨_, _, x, xs, G, rfl, ex_l e h3, e, h4, fun v hv => z _ _ G H (.refl e) hv q⟩) he) hg (by decide) (by decide) he hpl
/-! repr of data, nothing being shown around -/
theorem call_reprD (hg : X.A.guards = some []) (hu : X.A.units + 70 < cLine) : CallR X (.builtin "repr") (fun xs H Q => ∃ x d, xs = [x] ∧ Dp X.K H x d ∧ d.showable = true ∧ d.hasDict = false ∧ d.depth ≤ 64 ∧ (∃ a, x = .ref a) ∧ d.shown.length ≤ sizeLine ∧ Q (.str d.shown) H) := by
  intro pins s σ H vs us Q I r h
  obtain ⟨x, d, rfl, hd, h1, h2, h3, ⟨a, rfl⟩, h4, q⟩ := h
  rw [Vals.ref1 r]
  obtain ⟨as, rd⟩ := Dp.reads I d _ (.ref a) hd rfl
  exact repr_of_reads' rd h1 (PyData.noDict_hsm h2) hg (by omega) (fun _ _ e => e) (fun h' u tk hk => ⟨.str d.shown, H, I.kept hk, ⟨u, rfl⟩, q⟩) h4
end
end Pl
namespace Pl
open PySem PySem.Spec PyProof.Rows L2
open Evl (Ex ex_t ex_l)
section
variable {X : Cx} {e a b c iter tg elt : Expr} {es ts ifs rest : List Expr} {st : Stmt} {sts body orelse : List Stmt} {ρ : Rho} {d f : PyData} {ds : List PyData} {pos pc : Pos} {D D' : En} {i j : Int} {scope : Scope} {own : List (Str × Nat)} {α : Type}
theorem filter_yes (xs : List α) : xs.filter (fun _ => true) = xs := List.filter_eq_self.mpr fun _ _ => rfl
theorem all_map (xs : List α) (p h : α → Bool) : ((xs.filter p).map h).all id = xs.all fun x => !p x || h x := by
  induction xs with
  | nil => rfl
  | cons x r ih =>
    rw [List.all_cons, ← ih]
    cases hp : p x <;> simp [hp]
theorem any_map (xs : List α) (p h : α → Bool) : ((xs.filter p).map h).any id = xs.any fun x => p x && h x := by
  induction xs with
  | nil => rfl
  | cons x r ih =>
    rw [List.any_cons, ← ih]
    cases hp : p x <;> simp [hp]
/-- a comprehension whose parts change nothing, frozen -/
theorem ev_lc {es : List PyData} (h : LcW X elt tg iter ifs scope own ρ fun ds ρ' => ds = es ∧ ρ' = ρ) (hc : X.calm = true) (nd : X.N.Nodup) (ok : BlkOk X.N X.env.scope scope own) (hs : ∀ x, foldedSetIterable iter X.env x = pure x := by intro _; rfl) : Ev X (.ListComp elt [⟨tg, iter, ifs, 0⟩] scope pos) ρ (.list es) :=
  ew_fz (ElW.imp (el_of h hc nd ok hs) fun ds ρ1 ⟨e1, e2⟩ => by
    subst e1
    exact ⟨rfl, e2⟩)
theorem el_lc {es : List PyData} (h : LcW X elt tg iter ifs scope own ρ fun ds ρ' => ds = es ∧ ρ' = ρ) (hc : X.calm = true) (nd : X.N.Nodup) (ok : BlkOk X.N X.env.scope scope own) (hs : ∀ x, foldedSetIterable iter X.env x = pure x := by intro _; rfl) : El X (.ListComp elt [⟨tg, iter, ifs, 0⟩] scope pos) ρ es := el_of h hc nd ok hs
/-- all([..]), any([..]) -/
theorem ev_allC {px : Pos} (xs : List α) (p h : α → Bool) (hl : LcW X elt tg iter ifs scope own ρ fun ds ρ' => ds = (xs.filter p).map (fun x => PyData.bool (h x)) ∧ ρ' = ρ) (hc : X.calm = true) (hm : X.mg "all" = none) (nd : X.N.Nodup) (ok : BlkOk X.N X.env.scope scope own) (hs : ∀ x, foldedSetIterable iter X.env x = pure x := by intro _; rfl)
    (hg : Gl X "all" := by rfl) (he : starEach [.ListComp elt [⟨tg, iter, ifs, 0⟩] scope pc] X.env = (false, eval (.ListComp elt [⟨tg, iter, ifs, 0⟩] scope pc) X.env) :: starEach [] X.env := by rfl) (hpl : (backTo pos (starEach [] X.env)).any (·.1) = false := by rfl) :
    Ev X (.Call (.Name "all" px) [.ListComp elt [⟨tg, iter, ifs, 0⟩] scope pc] [] pos) ρ (.bool (xs.all fun x => !p x || h x)) :=
  ew_all hc hm (Ev.w (ev_lc hl hc nd ok hs) ⟨(xs.filter p).map h, by rw [List.map_map]; rfl, by rw [all_map], rfl⟩) hg he hpl
theorem ev_anyC {px : Pos} (xs : List α) (p h : α → Bool) (hl : LcW X elt tg iter ifs scope own ρ fun ds ρ' => ds = (xs.filter p).map (fun x => PyData.bool (h x)) ∧ ρ' = ρ) (hc : X.calm = true) (hm : X.mg "any" = none) (nd : X.N.Nodup) (ok : BlkOk X.N X.env.scope scope own) (hs : ∀ x, foldedSetIterable iter X.env x = pure x := by intro _; rfl)
    (hg : Gl X "any" := by rfl) (he : starEach [.ListComp elt [⟨tg, iter, ifs, 0⟩] scope pc] X.env = (false, eval (.ListComp elt [⟨tg, iter, ifs, 0⟩] scope pc) X.env) :: starEach [] X.env := by rfl) (hpl : (backTo pos (starEach [] X.env)).any (·.1) = false := by rfl) :
    Ev X (.Call (.Name "any" px) [.ListComp elt [⟨tg, iter, ifs, 0⟩] scope pc] [] pos) ρ (.bool (xs.any fun x => p x && h x)) :=
  ew_any hc hm (Ev.w (ev_lc hl hc nd ok hs) ⟨(xs.filter p).map h, by rw [List.map_map]; rfl, by rw [any_map], rfl⟩) hg he hpl
/-- the items of an own list may be walked as they stand -/
theorem iv_of {QI : List PyData → (Rho → Prop) → Rho → Prop} {es : List PyData} (h : Ev X iter ρ (.list es)) (q : QI es (fun _ => True) ρ) : IvW X tg iter ρ QI := iv_list (Ev.w h ⟨es, rfl, q⟩)
theorem iv_ofT {QI : List PyData → (Rho → Prop) → Rho → Prop} {es : List PyData} (h : Ev X iter ρ (.tuple es)) (q : QI es (fun _ => True) ρ) : IvW X tg iter ρ QI := iv_tup (Ev.w h ⟨es, rfl, q⟩)
/-! str order -/
theorem od_ltS {K : PySem.W.Frag} {k : PyData → Prop} {x y : Str} (q : k (.bool (decide (x.cps.toList < y.cps.toList)))) : OpD K (fun x y H Q => ∃ i j, x = .str i ∧ y = .str j ∧ Q (.bl (decide (i.cps.toList < j.cps.toList))) H) (.str x) (.str y) k := fun G H v w e hv hw R z => by
  cases hv
  cases hw
  exact ⟨x, y, rfl, rfl, z _ _ G H (.refl e) (.bl _) q⟩
theorem ev_ltS {x y : Str} (ha : Ev X a ρ (.str x)) (hb : Ev X b ρ (.str y)) : Ev X (.Compare a [.Lt] [b] pos) ρ (.bool (decide (x.cps.toList < y.cps.toList))) := ev_cmp op_lt_str ha hb (od_ltS rfl)
/-! not, by truth, as a value -/
theorem ev_notD {k : Bool} (ha : Ev X a ρ d) (h : tru d = some k) : Ev X (.UnaryOp .Not a pos) ρ (.bool (!k)) := fun σ G H rel R kk => te_of (pe_notT pe_W) (ha σ G H rel _ fun v _ _ G1 H1 r1 s1 i1 ⟨e1, e2⟩ => by
  subst e1
  subst e2
  refine ⟨k, ?_, kk _ _ _ G1 H1 r1 s1 (.bl _) ⟨rfl, rfl⟩⟩
  cases i1 with
  | non => exact (Option.some.inj h).symm
  | bl b => exact (Option.some.inj h).symm
  | int i => exact (Option.some.inj h).symm
  | str x => cases h
  | lst h1 h2 =>
    refine .inl ⟨_, ex_l r1.ex h1, ?_⟩
    rw [emp_of h2]
    exact (Option.some.inj h).symm
  | tup h1 h2 =>
    refine .inr (.inl ⟨_, Evl.ex_t r1.ex h1, ?_⟩)
    rw [emp_of h2]
    exact (Option.some.inj h).symm)
theorem tv_truD {k : Bool} (ha : Ev X a ρ d) (h : tru d = some k) (he : ∀ whole, isTrue a X.env whole = (do let v ← whole; standAt a.pos; holding [v] (truthy v)) := by intro _; rfl) : Tv X a ρ k := tv_tru (ha.w ⟨k, h, rfl, rfl⟩) he
/-! more statements -/
theorem SvW.imp (h : SvW X st ρ D) (h1 : ∀ r, D.nx r → D'.nx r) (h2 : ∀ d r, D.rt d r → D'.rt d r) (h3 : ∀ r, D.bk r → D'.bk r) (h4 : ∀ r, D.ct r → D'.ct r) : SvW X st ρ D' := fun σ G H rel T m =>
  h σ G H rel T ⟨fun r σ' G1 H1 a b q => m.nx r σ' G1 H1 a b (h1 r q), fun v d r σ' G1 H1 a b i q => m.rt v d r σ' G1 H1 a b i (h2 d r q), fun r σ' G1 H1 a b q => m.bk r σ' G1 H1 a b (h3 r q), fun r σ' G1 H1 a b q => m.ct r σ' G1 H1 a b (h4 r q)⟩
/-- with a word between a statement and the rest -/
theorem b_cut (Mid : Rho → Prop) (h : SvW X st ρ { D with nx := Mid }) (k : ∀ ρ1, Mid ρ1 → BvW X sts ρ1 D) : BvW X (st :: sts) ρ D := b_cons (h.imp k (fun _ _ z => z) (fun _ z => z) fun _ z => z)
/-- an expression whose value is dropped -/
theorem s_expr (h : EvW X e ρ fun _ ρ1 => D.nx ρ1) (hs : swapsWith e none pos.line X.env = pure false := by rfl) : SvW X (.Expr e pos) ρ D := fun σ G H rel T m => ts_of (ps_expr pe_W hs) (h σ G H rel _ fun v d ρ1 G1 H1 r1 s1 i1 q1 => m.nx ρ1 σ G1 H1 r1 s1 q1)
/-- the place of an int that counts -/
theorem at_nat0 {es : List PyData} {j : Nat} {x : PyData} (h : es[j]? = some x) : atI es (0 + (j : Int)) = some x := by
  rw [Int.zero_add]
  exact atI_nat h
theorem at_is {es : List PyData} {j : Nat} {i : Int} {x : PyData} (e : i = (j : Int)) (h : es[j]? = some x) : atI es i = some x := by
  rw [e]
  exact atI_nat h
theorem ix_is {n j : Nat} {i : Int} (e : i = (j : Int)) (h : j < n) : ixN n i = some j := by
  subst e
  exact Evl.ixN_nat h
/-! numbers whose reckoning changes something -/
variable {Q : PyData → Rho → Prop}
theorem ew_opR {op : Operator} {r : R2} {x : PyData} (ho : OpR X (binaryOp op) r) (ha : Ev X a ρ x) (hb : EvW X b ρ fun y ρ1 => OpD X.K r x y fun f => Q f ρ1) : EvW X (.BinOp a op b pos) ρ Q := ew_op ho ha fun _ _ ⟨e1, e2⟩ => by
  subst e1
  subst e2
  exact hb
theorem ew_addR (ha : Ev X a ρ (.int i)) (hb : EvW X b ρ fun d ρ1 => ∃ j, d = .int j ∧ Q (.int (i + j)) ρ1) : EvW X (.BinOp a .Add b pos) ρ Q := ew_opR op_add ha (hb.imp fun _ _ ⟨j, e, q⟩ => by
  subst e
  exact od_I0 (fun _ => .int _) q)
theorem ew_addL (ha : EvW X a ρ fun d ρ1 => ∃ i j, d = .int i ∧ Ev X b ρ1 (.int j) ∧ Q (.int (i + j)) ρ1) : EvW X (.BinOp a .Add b pos) ρ Q := ew_op op_add ha fun _ _ ⟨i, j, e, hb, q⟩ => by
  subst e
  exact hb.w (od_I0 (fun _ => .int _) q)
theorem ew_subL (ha : EvW X a ρ fun d ρ1 => ∃ i j, d = .int i ∧ Ev X b ρ1 (.int j) ∧ Q (.int (i - j)) ρ1) : EvW X (.BinOp a .Sub b pos) ρ Q := ew_op op_sub ha fun _ _ ⟨i, j, e, hb, q⟩ => by
  subst e
  exact hb.w (od_I0 (fun _ => .int _) q)
theorem tv_gtL {QT : Bool → Rho → Prop} (ha : EvW X a ρ fun d ρ1 => ∃ i j, d = .int i ∧ Ev X b ρ1 (.int j) ∧ QT (decide (j < i)) ρ1) : TvW X (.Compare a [.Gt] [b] pos) ρ QT := tw_cmp op_gt (nomark _) ha fun _ _ ⟨i, j, e, hb, q⟩ => by
  subst e
  exact hb.w (od_I0 (fun _ => .bl _) ⟨_, rfl, q⟩)
theorem tv_eqL {QT : Bool → Rho → Prop} (ha : EvW X a ρ fun d ρ1 => ∃ i j, d = .int i ∧ Ev X b ρ1 (.int j) ∧ QT (decide (i = j)) ρ1) : TvW X (.Compare a [.Eq] [b] pos) ρ QT := tw_cmp op_eq (nomark _) ha fun _ _ ⟨i, j, e, hb, q⟩ => by
  subst e
  exact hb.w (od_eqI ⟨_, rfl, q⟩)
theorem ew_max2 {px : Pos} (hc : X.calm = true) (hm : X.mg "max" = none) (ha : AvW X [a, b] ρ fun ds ρ1 => ∃ i j, ds = [.int i, .int j] ∧ Q (.int (if j > i then j else i)) ρ1) (hg : Gl X "max" := by rfl) (he : starEach [a, b] X.env = (false, eval a X.env) :: starEach [b] X.env := by rfl) (hpl : (backTo pos (starEach [b] X.env)).any (·.1) = false := by rfl) : EvW X (.Call (.Name "max" px) [a, b] [] pos) ρ Q :=
  ew_callB (call_max2 hc) hm (by decide +kernel) (ha.imp fun ds ρ1 ⟨i, j, e, q⟩ G H vs x hv R z => by
    subst e
    cases hv with
    | cons h1 h2 =>
      cases h2 with
      | cons h2 h3 =>
        cases h1
        cases h2
        cases h3
        exact ⟨i, j, rfl, z _ _ G H (.refl x) (.int _) q⟩) hg (by decide) (by decide) he hpl
theorem ew_min2 {px : Pos} (hc : X.calm = true) (hm : X.mg "min" = none) (ha : AvW X [a, b] ρ fun ds ρ1 => ∃ i j, ds = [.int i, .int j] ∧ Q (.int (if j < i then j else i)) ρ1) (hg : Gl X "min" := by rfl) (he : starEach [a, b] X.env = (false, eval a X.env) :: starEach [b] X.env := by rfl) (hpl : (backTo pos (starEach [b] X.env)).any (·.1) = false := by rfl) : EvW X (.Call (.Name "min" px) [a, b] [] pos) ρ Q :=
  ew_callB (call_min2 hc) hm (by decide +kernel) (ha.imp fun ds ρ1 ⟨i, j, e, q⟩ G H vs x hv R z => by
    subst e
    cases hv with
    | cons h1 h2 =>
      cases h2 with
      | cons h2 h3 =>
        cases h1
        cases h2
        cases h3
        exact ⟨i, j, rfl, z _ _ G H (.refl x) (.int _) q⟩) hg (by decide) (by decide) he hpl
theorem aw_two {x : PyData} {QA : List PyData → Rho → Prop} (ha : Ev X a ρ x) (hb : EvW X b ρ fun y ρ1 => QA [x, y] ρ1) (hs : starEach [a, b] X.env = (false, eval a X.env) :: starEach [b] X.env := by rfl) (hs2 : starEach [b] X.env = (false, eval b X.env) :: starEach [] X.env := by rfl) : AvW X [a, b] ρ QA :=
  aw_cons ha (fun _ _ ⟨e1, e2⟩ => by
    subst e1
    subst e2
    exact aw_cons hb (fun y ρ1 q => aw_nil q) hs2) hs
end
end Pl
namespace Pl
open PySem PySem.Spec PyProof.Rows L2
open Evl (Ex ex_t ex_l)
/-! a def that gives a new list, not frozen -/
def spNew (K : PySem.W.Frag) (n : Nat) (Fp : List PyData → List PyData → Prop) : Sp := fun vs H Q _ => ∃ G ds es, vs.length = n ∧ Ex G H ∧ IsAll K G vs ds ∧ Fp ds es ∧ ∀ a us G' H', PSt G H G' H' → G' a = none → H a = none → H' a = some (.lst us) → IsAll K G' us es → Q (.ref a) H'
section
variable {X : Cx} {e : Expr} {es : List Expr} {ρ : Rho} {pos : Pos}
theorem el_call {k : Nat} {x : Str} {px : Pos} {ps : List Str} {Fp : List PyData → List PyData → Prop} {ds : List PyData} {Q : List PyData → Rho → Prop} (F : Fn X.prog X.w X.K X.mg X.base k x ps (spNew X.K ps.length Fp)) (hr : Room k X.A) (ha : Av X (e :: es) ρ ds) (fs : List PyData) (hp : Fp ds fs) (q : Q fs ρ) (hn : ds.length = ps.length := by rfl)
    (hg : Gl X x := by rfl) (hdb : (x == ("__debug__" : Str)) = false := by decide) (he : starEach (e :: es) X.env = (false, eval e X.env) :: starEach es X.env := by rfl) (hpl : (backTo pos (starEach es X.env)).any (·.1) = false := by rfl) : ElW X (.Call (.Name x px) (e :: es) [] pos) ρ Q := fun σ G H rel R kk => by
  obtain ⟨f, fd, hm, hk, hb, F⟩ := F.ex
  refine te_of (pe_call F hr hg hm hk hb .nil pass0 pa_W hdb he hpl) (ha σ G H rel _ fun vs ds1 ρ1 G1 H1 r1 s1 i1 ⟨z1, z2⟩ => ?_)
  subst z1
  subst z2
  rw [List.append_nil]
  refine ⟨G1, ds1, fs, i1.length.trans hn, r1.ex, i1, hp, fun a us G2 H2 p n1 n2 h1 i2 => kk a us fs ρ1 G2 H2 (r1.pure p) (s1.trans p.stp) n1 (fun ⟨i, z⟩ => ?_) (s1.unused n2) h1 i2 q⟩
  obtain ⟨_, z2, _⟩ := r1.ownH z
  exact z2 n2
end
section
variable {P : Program} {w : World} {K : PySem.W.Frag} {mg : Str → Option Value} {base : Heap}
theorem fn_new {x qual : Str} {st : Stmt} {f : Addr} {fd : FuncData} {N ps : List Str} {k : Nat} {Fp : List PyData → List PyData → Prop} {e : Expr} {pos : Pos} (F : Fun K x qual st f fd) (S : FnScope N ps (defScope st)) (hs : defBody st = [.Return (some e) pos])
    (hb : ∀ (cdv : Value) (A : Around) (outer : List Env) (s : Shared) (H : Hp) (E : XK) (ds es : List PyData), Room k (fX P w K mg base N qual st f cdv A outer s H E).A → Fp ds es → ds.length = ps.length →
      ElW (fX P w K mg base N qual st f cdv A outer s H E) e (ds.map Sl.dat ++ List.replicate (N.length - ds.length) Sl.un) fun es' ρ => es' = es ∧ ρ = ds.map Sl.dat ++ List.replicate (N.length - ds.length) Sl.un) :
    FnOk P w K mg base CX0 (k + 1) f fd ps (spNew K ps.length Fp) := by
  refine F.ok S (fun vs H Q E ⟨G, ds, es, h, _⟩ => h) (fun cdv A outer s H vs Q E hr ⟨G, ds, es, h1, h2, h3, h4, q⟩ => ?_)
  refine ⟨_, by rw [hs]; exact pss_one (ps_ret pe_W), hb cdv A outer s H E ds es hr h4 (by rw [← h3.length]; exact h1) (L2.start N vs) G H (start_dat h2 h3) _ fun a us es1 ρ1 G1 H1 r1 s1 n1 n2 n3 h5 i1 ⟨e1, e2⟩ => ?_⟩
  subst e1
  exact q a us G1 H1 ⟨s1.gg, fun b o z => s1.kp b o no_own z, r1.ex, fun b z1 z2 => s1.fr b no_own z1 z2⟩ n1 n3 h5 i1
/-! the law's own def, called where nothing is being shown -/
theorem law_go {mb : Str → Option Value} {st : Stmt} {k : Nat} {f a : Addr} {fd : FuncData} {N : List Str} {s : Shared} {vs : List Value} {ns : List Int} (F : Fun K "law" "law" st f fd) (S : FnScope N ["script"] (defScope st))
    (bind : ∀ v : Value, BindsTo s fd ⟨[v], []⟩ [("script", v)])
    (kin : K.In s.heap) (g1 : s.heap.Ns mainGlobals mg) (g2 : s.heap.Ns builtinsNs mb) (g3 : ∀ y : Str, y ≠ "__name__" → mb y = bootBuiltins y) (lim : s.heap.NoLimit) (gens : s.gens = #[])
    (at1 : s.heap.get? a = some { cls := .type "list", data := .seq vs.toArray }) (isi : IntsAre vs ns) (few : ns.length ≤ 63) (room : Room (k + 1) callerA)
    (body : ∀ (base : Heap) (cdv : Value) (s' : Shared) (H : Hp) (E : XK), K.In base → base.Ns mainGlobals mg → Room k (fX P w K mg base N "law" st f cdv callerA [] s' H E).A → (fX P w K mg base N "law" st f cdv callerA [] s' H E).A.guards = some [] →
      BvW (fX P w K mg base N "law" st f cdv callerA [] s' H E) (defBody st) (.dat (.list (ns.map PyData.int)) :: List.replicate (N.length - 1) Sl.un) { nx := fun _ => False, rt := fun d _ => d = .bool true }) :
    codeAny (model P w) callerA (.call (.ref f) ⟨[.ref a], []⟩) (fun r s' => r = .ok (.ret (.bool true)) ∧ OldK s.heap s'.heap ∧ s'.os = s.os ∧ AllBare s'.gens) s := by
  obtain ⟨oc, od, kV, doc, pm, an, cdv, ct, osl, rfl, lk, hcd⟩ := F.ex
  have main : ∀ H : Hp, (∀ b, H b ≠ none → b = a ∧ K.lookup a = none ∧ ∃ o xs, H b = some (.frz o (.lst xs))) → SqL K H a (ns.map V.int) → HOk P w H s.heap →
      codeAny (model P w) callerA (.call (.ref f) ⟨[.ref a], []⟩) (fun r s' => r = .ok (.ret (.bool true)) ∧ OldK s.heap s'.heap ∧ s'.os = s.os ∧ AllBare s'.gens) s := by
    intro H tr sq ok
    have free : ∀ {b : Addr} {o : Obj}, s.heap.get? b = some o → b ≠ a ∨ K.lookup a ≠ none → H b = none := fun {b o} h1 h2 => by
      cases q : H b with
      | none => rfl
      | some u =>
        obtain ⟨t1, t2, _⟩ := tr b (by rw [q]; exact nofun)
        rcases h2 with h2 | h2
        · exact absurd t1 h2
        · exact absurd t2 h2
    have dict : ∀ {b : Addr} {m : Str → Option Value}, s.heap.Ns b m → (hidT s.heap H).Ns b m := fun {b m} ⟨o, es, ep, h1, h2, h3⟩ => ⟨o, es, ep, hidT_get h1 (free h1 (.inl fun z => by
      rw [z, at1] at h1
      cases h1
      have h2' : Data.seq vs.toArray _ = Data.dict es ep := h2
      cases h2')), h2, h3⟩
    have kb : K.In (hidT s.heap H) := fun b o h1 => hidT_get (kin b o h1) (by
      by_cases hb : b = a
      · subst hb
        exact free (kin b o h1) (.inr (by rw [h1]; exact nofun))
      · exact free (kin b o h1) (.inl hb))
    obtain ⟨mc, l1, l2⟩ := id lim
    have env : Env0 P w K mg (hidT s.heap H) callerA [] s H := ⟨rfl, ⟨kb, dict g1, ⟨mb, dict g2, g3⟩, mc, dict l1, l2⟩, fun b o h1 => of_hidT h1, Nat.le_of_eq (hidT_size _ _), trivial, fun b h1 => (List.not_mem_nil h1).elim, ok, .of_eq gens⟩
    have kinds : ∀ y ∈ ([(("script" : Str), Value.ref a)] : List (Str × Value)), (defScope st).names.lookup y.1 = some .local ∨ ((defScope st).names.lookup y.1 = some .cell ∧ ((cellsFrom (s.heap.objs.size + 1) (defScope st).names []).lookup y.1).isSome = true) := fun y hy => by
      obtain rfl := List.mem_singleton.mp hy
      rcases S.par "script" (List.mem_singleton.mpr rfl) with q | q
      · exact .inl q
      · exact .inr ⟨q, PySem.W.cellsFrom_some _ _ _ (.inl q)⟩
    have run : codeAny (model P w) callerA (.call (.ref f) ⟨[.ref a], []⟩) (CR CX0 [] P w H s (fun v _ => v = .bl true) E0) s := by
      refine codeAny_call_function room.depth (kin _ _ lk) rfl S.co S.gen rfl (PySem.W.codeRec_of kin hcd) (bind (.ref a) _ _ _ _ ?_)
      refine wpAny_newFunctionEnv_cells S.kind kinds fun en hen s1 x => ?_
      subst hen
      refine ⟨lim.keeps x.toInCall.keep, codeAny_func ?_⟩
      have I := inv_start (CX := CX0) (E := E0) (vs := [V.ref a]) (us := [Value.ref a]) S room.hd env rfl (.cons rfl .nil) x
      have rel : Rel K (.dat (.list (ns.map PyData.int)) :: List.replicate (N.length - 1) Sl.un) (L2.start N [V.ref a]) H H := start_dat (ds := [.list (ns.map PyData.int)]) (Ex.refl H) (.cons (.lst sq (IsAll.of_ints ns)) .nil)
      have bd := body (hidT s.heap H) cdv s H E0 kb (dict g1) (room.deeper _) rfl (L2.start N [V.ref a]) H H rel { nx := fun _ _ => False, rt := fun v _ => v = .bl true } ⟨fun _ _ _ _ _ _ z => z.elim, fun v d _ _ _ _ _ _ i z => by
        subst z
        cases i
        rfl, fun _ _ _ _ _ _ z => z.elim, fun _ _ _ _ _ _ z => z.elim⟩
      refine wpAny_mono ((pb_W.nox).run [] s1 (L2.start N [V.ref a]) H _ I bd) (fun fl s2 h1 => ?_) fun _ _ h1 => h1
      cases fl with
      | ret u =>
        obtain ⟨v, σ2, H2, J, rv, q⟩ := h1
        exact ⟨v, H2, J.os, J.bare, J.base, J.hok, rv, q⟩
      | next =>
        obtain ⟨_, _, _, q⟩ := h1
        exact q.elim
      | brk =>
        obtain ⟨_, _, _, q⟩ := h1
        exact q.elim
      | cont =>
        obtain ⟨_, _, _, q⟩ := h1
        exact q.elim
    refine codeAny_mono run fun r s2 h1 => ?_
    match r, h1 with
    | .error _, h1 => exact h1.elim
    | .ok .next, h1 => exact h1.elim
    | .ok .brk, h1 => exact h1.elim
    | .ok .cont, h1 => exact h1.elim
    | .ok (.ret u), ⟨v, H2, os, bare, un, ok2, rv, q⟩ =>
      have q : v = V.bl true := q
      subst q
      obtain rfl : u = Value.bool true := rv
      refine ⟨rfl, OldK.of_keep fun b o h2 => ?_, os, bare⟩
      cases hb : H b with
      | none => exact un.keep b o h2 hb (fun z => List.not_mem_nil z) (fun z => List.not_mem_nil z)
      | some t =>
        obtain ⟨_, _, ob, xs, h3⟩ := tr b (by rw [hb]; exact nofun)
        have h4 := un.frzs b ob _ h3
        obtain ⟨h5, _⟩ := ok b _ h3
        obtain ⟨h6, _⟩ := ok2 b _ h4
        rw [h2] at h5
        cases h5
        exact h6
  have rv := vals_ints isi
  have le : ns.length ≤ sizeLine := Nat.le_trans few (by decide)
  cases hk : K.lookup a with
  | some o =>
    have h1 := kin a o hk
    rw [at1] at h1
    cases h1
    exact main (fun _ => none) (fun b h => absurd rfl h) (.inr ⟨_, vs.toArray, _, hk, rfl, rfl, rfl, by rw [List.size_toArray, isi.length]; exact le, by simpa using rv⟩) (fun b u z => by
      have z : (none : Option HO) = some u := z
      cases z)
  | none =>
    let T : HO := .frz { cls := .type "list", data := .seq vs.toArray } (.lst (ns.map V.int))
    have T1 : (fun b => if b = a then some T else none : Hp) a = some T := if_pos rfl
    have T2 : ∀ b, b ≠ a → (fun b => if b = a then some T else none : Hp) b = none := fun b hb => if_neg hb
    refine main (fun b => if b = a then some T else none) (fun b h => ?_) (.inl (.inr ⟨_, T1⟩)) fun b u z => ?_
    · by_cases hb : b = a
      · subst hb
        exact ⟨rfl, hk, _, _, T1⟩
      · exact absurd (T2 b hb) h
    · by_cases hb : b = a
      · subst hb
        rw [T1] at z
        cases z
        exact ⟨at1, by rw [List.length_map]; exact le, vs, _, rv, at1⟩
      · rw [T2 b hb] at z
        cases z
end
/-- the end of the head -/
theorem law_walk {l : PySem.W.OpenLaw} {k : Nat} {q : Program} {loose : List Str} {XP : (Str → Option Value) → Heap → Prop} {YP : World → Heap → Prop} {d : DefRec} {st : Stmt} {N : List Str} {K : Params → PySem.W.Frag} (hn : l.most = some 63) (hdf : d.params.defaults = []) (S : FnScope N ["script"] (defScope st)) (room : Room (k + 1) callerA) (hY : ∀ (w : World) (h : Heap), YP w h → (K w.params).In h)
    (F : ∀ (w : World) (mg : Str → Option Value) (fa : Addr) (h : Heap), (K w.params).In h → h.Ns mainGlobals mg → mg d.name = some (.ref fa) →
      ∃ fd, Fun (K w.params) "law" "law" st fa fd ∧ (∀ (s : Shared) (v : Value), BindsTo s fd ⟨[v], []⟩ [("script", v)]) ∧ ∀ (base : Heap) (cdv : Value) (s' : Shared) (H : Hp) (E : XK) (ns : List Int), (K w.params).In base → base.Ns mainGlobals mg → Room k (fX l.prog w (K w.params) mg base N "law" st fa cdv callerA [] s' H E).A → (fX l.prog w (K w.params) mg base N "law" st fa cdv callerA [] s' H E).A.guards = some [] →
        ns.length ≤ 63 → BvW (fX l.prog w (K w.params) mg base N "law" st fa cdv callerA [] s' H E) (defBody st) (.dat (.list (ns.map PyData.int)) :: List.replicate (N.length - 1) Sl.un) { nx := fun _ => False, rt := fun d _ => d = .bool true }) :
    PySem.W.WalkO q loose XP YP l.row.toRowW d [] (fun f vs => PySem.call f vs) := by
  refine Att.attach_call hn hdf fun w s₀ s mg mb fa o pm cd doc a vs ns G Y ho hd hcd hmg hobj hints hlen hg => ?_
  have kx := hY w _ Y
  obtain ⟨fd, hf, hb, hB⟩ := F w mg fa _ kx G.T.g hmg
  exact law_go hf S (hb s) kx G.T.g G.T.b G.T.builtins G.T.nolimit hg hobj hints hlen room fun base cdv s' H E h1 h2 h3 h4 => hB base cdv s' H E ns h1 h2 h3 h4 hlen
end Pl
namespace Pl
open PySem PySem.Spec PyProof.Rows L2
open Evl (Ex ex_t ex_l)
/-! small data: its text is short -/
structure Nice (k n : Nat) (d : PyData) : Prop where
  lay : d.canLay0 = true
  dep : d.depth ≤ k
  wt : d.weight ≤ n
  sh : d.intsShort 13 = true
  shw : d.showable = true
  nd : d.hasDict = false
structure NiceA (k n : Nat) (ds : List PyData) : Prop where
  lay : PyData.canLayAll0 ds = true
  dep : PyData.depthAll ds ≤ k
  wt : PyData.weightAll ds ≤ n
  sh : PyData.intsShortAll 13 ds = true
  shw : PyData.showableAll ds = true
  nd : PyData.hasDictAll ds = false
theorem NiceA.nil {k n : Nat} : NiceA k n [] := ⟨rfl, Nat.zero_le _, Nat.zero_le _, rfl, rfl, rfl⟩
theorem NiceA.cons {k a b : Nat} {d : PyData} {ds : List PyData} (h : Nice k a d) (t : NiceA k b ds) : NiceA k (a + 1 + b) (d :: ds) :=
  ⟨by simp only [PyData.canLayAll0, h.lay, t.lay, Bool.and_true], by simp only [PyData.depthAll]; exact Nat.max_le.mpr ⟨h.dep, t.dep⟩, by simp only [PyData.weightAll]; exact Nat.add_le_add (Nat.add_le_add_right h.wt 1) t.wt, by simp only [PyData.intsShortAll, h.sh, t.sh, Bool.and_true],
    by simp only [PyData.showableAll, h.shw, t.shw, Bool.and_true], by simp only [PyData.hasDictAll, h.nd, t.nd, Bool.or_false]⟩
theorem Nice.tup {k n : Nat} {ds : List PyData} (t : NiceA k n ds) : Nice (k + 1) n (.tuple ds) :=
  ⟨by simp only [PyData.canLay0, t.lay], by simp only [PyData.depth]; have := t.dep; omega, by simp only [PyData.weight]; exact t.wt, by simp only [PyData.intsShort, t.sh], by simp only [PyData.showable, t.shw], by simp only [PyData.hasDict, t.nd]⟩
theorem Nice.non {k : Nat} : Nice (k + 1) 0 .none := ⟨rfl, by simp [PyData.depth], Nat.le_refl _, rfl, rfl, rfl⟩
theorem Nice.bl {k : Nat} (b : Bool) : Nice (k + 1) 0 (.bool b) := ⟨rfl, by simp [PyData.depth], Nat.le_refl _, rfl, rfl, rfl⟩
theorem small_int : ∀ n : Fin 128, ((PyData.int (n.val : Int)).weight ≤ 7 ∧ (PyData.int (n.val : Int)).intsShort 13 = true ∧ (PyData.int (n.val : Int)).showable = true) := by decide +kernel
theorem Nice.int {k : Nat} {i : Int} (h0 : 0 ≤ i) (h1 : i < 128) : Nice (k + 1) 7 (.int i) := by
  obtain ⟨n, rfl⟩ := Int.eq_ofNat_of_zero_le h0
  have := small_int ⟨n, by omega⟩
  exact ⟨rfl, by simp [PyData.depth], this.1, this.2.1, this.2.2, rfl⟩
theorem NiceA.of {α : Type} {k n : Nat} {f : α → PyData} : ∀ {l : List α}, (∀ x ∈ l, Nice k n (f x)) → NiceA k ((n + 1) * l.length) (l.map f)
  | [], _ => .nil
  | x :: r, h => by
    have := NiceA.cons (h x List.mem_cons_self) (NiceA.of (l := r) fun y hy => h y (List.mem_cons_of_mem _ hy))
    rw [List.length_cons, Nat.mul_succ, Nat.add_comm]
    exact this
theorem Nice.up {k j n m : Nat} {d : PyData} (h : Nice k n d) (h1 : k ≤ j) (h2 : n ≤ m) : Nice j m d := ⟨h.lay, Nat.le_trans h.dep h1, Nat.le_trans h.wt h2, h.sh, h.shw, h.nd⟩
theorem Nice.short {k n : Nat} {d : PyData} (h : Nice k n d) (h1 : k ≤ 64) (h2 : n ≤ 2 ^ 20) : d.shown.length ≤ sizeLine := by
  refine Nat.le_trans (shown_le13 ?_ h.sh) (by decide)
  unfold PyData.layable0
  rw [h.lay, decide_eq_true (Nat.le_trans h.dep h1), decide_eq_true (Nat.le_trans h.wt h2)]
  rfl
section
variable {X : Cx} {a b : Expr} {ρ : Rho} {pos : Pos}
/-- repr of a tuple, nothing being shown around -/
theorem ev_repr {px : Pos} {ds : List PyData} {k n : Nat} (hgd : X.A.guards = some []) (hu : X.A.units + 70 < cLine) (hm : X.mg "repr" = none) (ha : Ev X a ρ (.tuple ds)) (hd : Nice k n (.tuple ds)) (h1 : k ≤ 64) (h2 : n ≤ 2 ^ 20) (hg : Gl X "repr" := by rfl) (he : starEach [a] X.env = (false, eval a X.env) :: starEach [] X.env := by rfl) (hpl : (backTo pos (starEach [] X.env)).any (·.1) = false := by rfl) :
    Ev X (.Call (.Name "repr" px) [a] [] pos) ρ (.str (PyData.tuple ds).shown) :=
  ew_callB (call_reprD hgd hu) hm (by decide +kernel) (aw_cons ha (fun d ρ1 ⟨e1, e2⟩ => aw_nil fun G H vs x hv R z => by
    subst e1
    subst e2
    cases hv with
    | cons q1 q2 =>
      cases q2
      refine ⟨_, _, rfl, (q1.mono x).dp, hd.shw, hd.nd, Nat.le_trans hd.dep h1, ?_, hd.short h1 h2, z _ _ G H (.refl x) (.str _) ⟨rfl, rfl⟩⟩
      cases q1
      exact ⟨_, rfl⟩) he) hg (by decide) (by decide) he hpl
theorem ev_eqS {x y : Str} (ha : Ev X a ρ (.str x)) (hb : Ev X b ρ (.str y)) : Ev X (.Compare a [.Eq] [b] pos) ρ (.bool (decide (x = y))) := ev_cmp op_eq ha hb (od_eqS rfl)
theorem tv_eqS {x y : Str} (ha : Ev X a ρ (.str x)) (hb : Ev X b ρ (.str y)) : Tv X (.Compare a [.Eq] [b] pos) ρ (decide (x = y)) := tv_cmp op_eq ha hb (od_eqS rfl)
end
end Pl
namespace Pl
open PySem PySem.Spec PyProof.Rows L2
/-! what the top has written -/
/-- a def of the module -/
abbrev Dfn (K : PySem.W.Frag) (x : Str) (st : Stmt) : Prop := ∃ (f : Addr) (oc : Value) (od an : Option Addr) (sl : Array (Option Value)) (kV dc pm cd ct : Value), PySem.W.nsIn K mainGlobals x = some (some (.ref f)) ∧
  K.lookup f = some ⟨oc, od, .func (PySem.W.fnOf x x (defArgs st) (defBody st) (defScope st) .none kV dc pm an cd ct), sl⟩ ∧ PySem.W.codeIn K cd x = true ∧ PySem.W.keepIn K (.ref f) = true
/-- the name of an int, of a tuple -/
abbrev Cint (K : PySem.W.Frag) (x : Str) (i : Int) : Prop := ∃ t, PySem.W.nsIn K mainGlobals x = some (some (.int i t))
abbrev Ctup (K : PySem.W.Frag) (x : Str) (vs : List V) : Prop := ∃ (a : Addr) (od : Option Addr) (its : Array Value) (n : Nat) (sl : Array (Option Value)), PySem.W.nsIn K mainGlobals x = some (some (.ref a)) ∧ K.lookup a = some ⟨.type "tuple", od, .seq its n, sl⟩ ∧ its.size ≤ sizeLine ∧ He.relAll vs its.toList = true
section
variable {P : Program} {w : World} {K : PySem.W.Frag} {mg : Str → Option Value} {base h : Heap} {x : Str} {st : Stmt}
theorem Dfn.fn (d : Dfn K x st) (X : K.In h) (G : h.Ns mainGlobals mg) {k : Nat} {ps : List Str} {sp : Sp}
    (hb : ∀ (kV doc pm : Value) (an : Option Addr) (cdv ct : Value) (us : List Value), us.length = ps.length → bindArgs (PySem.W.fnOf x x (defArgs st) (defBody st) (defScope st) .none kV doc pm an cdv ct) ⟨us, []⟩ = pure (ps.zip us))
    (ok : ∀ f fd, Fun K x x st f fd → FnOk P w K mg base CX0 k f fd ps sp) : Fn P w K mg base k x ps sp := by
  obtain ⟨f, oc, od, an, sl, kV, dc, pm, cd, ct, a, l, c, kp⟩ := d
  have F := fun_mk (st := st) l c kp
  exact ⟨f, _, PySem.W.mg_of X G a, kp, F.binds hb, ok f _ F⟩
theorem Cint.gc {i : Int} (c : Cint K x i) (X : K.In h) (G : h.Ns mainGlobals mg) : Gc K mg x (.int i) := by
  obtain ⟨t, e⟩ := c
  exact ⟨.int i, _, PySem.W.mg_of X G e, ⟨t, rfl⟩, fun _ => .int i⟩
theorem Ctup.gc {vs : List V} {ds : List PyData} (c : Ctup K x vs) (X : K.In h) (G : h.Ns mainGlobals mg) (hd : ∀ H, IsAll K H vs ds) : Gc K mg x (.tuple ds) := by
  obtain ⟨a, od, its, n, sl, e1, e2, e3, e4⟩ := c
  exact ⟨.ref a, _, PySem.W.mg_of X G e1, rfl, fun H => .tup (.inr ⟨_, its, n, e2, rfl, rfl, e3, He.relAll_ok e4⟩) (hd H)⟩
theorem isAll_strs {H : Hp} : ∀ xs : List Str, IsAll K H (xs.map V.str) (xs.map PyData.str)
  | [] => .nil
  | x :: r => .cons (.str x) (isAll_strs r)
theorem dfn_mk {f : Addr} {oc : Value} {od an : Option Addr} {sl : Array (Option Value)} {kV dc pm cd ct : Value} (a : PySem.W.nsIn K mainGlobals x = some (some (.ref f))) (l : K.lookup f = some ⟨oc, od, .func (PySem.W.fnOf x x (defArgs st) (defBody st) (defScope st) .none kV dc pm an cd ct), sl⟩)
    (c : PySem.W.codeIn K cd x = true) (k : PySem.W.keepIn K (.ref f) = true) : Dfn K x st := ⟨f, oc, od, an, sl, kV, dc, pm, cd, ct, a, l, c, k⟩
theorem cint_mk {i : Int} {t : Addr} (a : PySem.W.nsIn K mainGlobals x = some (some (.int i t))) : Cint K x i := ⟨t, a⟩
theorem ctup_mk {vs : List V} {a : Addr} {od : Option Addr} {its : Array Value} {n : Nat} {sl : Array (Option Value)} (e : PySem.W.nsIn K mainGlobals x = some (some (.ref a))) (l : K.lookup a = some ⟨.type "tuple", od, .seq its n, sl⟩) (z : its.size ≤ sizeLine) (r : He.relAll vs its.toList = true) : Ctup K x vs := ⟨a, od, its, n, sl, e, l, z, r⟩
theorem free_of (X : K.In h) (G : h.Ns mainGlobals mg) (z : PySem.W.nsIn K mainGlobals x = some none) : mg x = none := PySem.W.mg_none_of X G z
end
end Pl
namespace K16
open Pl
abbrev Pr := Int × Int
/-! least of ints -/
def minL : List Int → Int
  | [] => 0
  | x :: r => r.foldl (fun a y => if y < a then y else a) x
theorem foldl_min : ∀ (r : List Int) (x : Int), (r.foldl (fun a y => if y < a then y else a) x ∈ x :: r) ∧ ∀ y ∈ x :: r, r.foldl (fun a y => if y < a then y else a) x ≤ y
  | [], x => ⟨List.mem_cons_self, fun y hy => by
    rcases List.mem_cons.mp hy with h | h
    · rw [h]
      exact Int.le_refl _
    · cases h⟩
  | z :: r, x => by
    rw [List.foldl_cons]
    obtain ⟨h1, h2⟩ := foldl_min r (if z < x then z else x)
    refine ⟨?_, fun y hy => ?_⟩
    · rcases List.mem_cons.mp h1 with h | h
      · rw [h]
        split
        · simp
        · simp
      · exact List.mem_cons_of_mem _ (List.mem_cons_of_mem _ h)
    · have h3 := h2 _ List.mem_cons_self
      have h4 : (if z < x then z else x) ≤ x ∧ (if z < x then z else x) ≤ z := by split <;> omega
      rcases List.mem_cons.mp hy with h | h
      · rw [h]
        exact Int.le_trans h3 h4.1
      · rcases List.mem_cons.mp h with h | h
        · rw [h]
          exact Int.le_trans h3 h4.2
        · exact h2 y (List.mem_cons_of_mem _ h)
theorem minL_mem {l : List Int} (h : l ≠ []) : minL l ∈ l ∧ ∀ y ∈ l, minL l ≤ y := by
  cases l with
  | nil => exact absurd rfl h
  | cons x r => exact foldl_min r x
theorem minL_eq {l : List Int} {m : Int} (h1 : m ∈ l) (h2 : ∀ y ∈ l, m ≤ y) : m = minL l := by
  have hl : l ≠ [] := fun e => by
    rw [e] at h1
    cases h1
  obtain ⟨a, b⟩ := minL_mem hl
  have := h2 _ a
  have := b _ h1
  omega
/-! least of pairs -/
def minQ : List Pr → Pr
  | [] => (0, 0)
  | x :: r => minP x r
theorem minP_mem : ∀ (r : List Pr) (x : Pr), minP x r ∈ x :: r
  | [], x => List.mem_cons_self
  | z :: r, x => by
    show minP (if ltP z x = true then z else x) r ∈ _
    have h := minP_mem r (if ltP z x = true then z else x)
    rcases List.mem_cons.mp h with h | h
    · rw [h]
      split <;> simp
    · exact List.mem_cons_of_mem _ (List.mem_cons_of_mem _ h)
theorem minQ_mem {l : List Pr} (h : l ≠ []) : minQ l ∈ l := by
  cases l with
  | nil => exact absurd rfl h
  | cons x r => exact minP_mem r x
/-- all with one first place: the second's least -/
theorem minP_fst {c : Int} : ∀ (r : List Pr) (x : Pr), (∀ p ∈ x :: r, p.1 = c) → minP x r = (c, (r.map (·.2)).foldl (fun a y => if y < a then y else a) x.2)
  | [], x, h => by
    have := h x List.mem_cons_self
    show x = (c, x.2)
    rw [← this]
  | z :: r, x, h => by
    have hx := h x List.mem_cons_self
    have hz := h z (by simp)
    show minP (if ltP z x = true then z else x) r = _
    have hl : ltP z x = decide (z.2 < x.2) := by
      unfold ltP
      rw [if_pos (by rw [hx, hz])]
    rw [minP_fst (c := c) r _ (fun p hp => by
      rcases List.mem_cons.mp hp with e | e
      · rw [e]
        split
        · exact hz
        · exact hx
      · exact h p (by simp [e]))]
    rw [List.map_cons, List.foldl_cons, hl]
    by_cases q : z.2 < x.2
    · simp [q]
    · simp [q]
theorem minQ_fst {c : Int} {l : List Pr} (h : l ≠ []) (hc : ∀ p ∈ l, p.1 = c) : minQ l = (c, minL (l.map (·.2))) := by
  cases l with
  | nil => exact absurd rfl h
  | cons x r => exact minP_fst r x hc
/-! rows sieved from behind -/
section
variable (go : Nat → Pr → Pr → Bool) (rows : Nat → List Pr)
def bk : Nat → Nat → List Pr
  | 0, i => rows i
  | m + 1, i => (rows i).filter fun p => (bk m (i + 1)).any (go i p)
theorem bk_sub : ∀ {m i p}, p ∈ bk go rows m i → p ∈ rows i
  | 0, _, _, h => h
  | _ + 1, _, _, h => (List.mem_filter.mp h).1
theorem bk_next {m i : Nat} {p : Pr} (h : p ∈ bk go rows (m + 1) i) : ∃ q ∈ bk go rows m (i + 1), go i p q = true := List.any_eq_true.mp (List.mem_filter.mp h).2
variable (n : Nat)
def gd (i : Nat) : List Pr := bk go rows (n - 1 - i) i
theorem gd_step {i : Nat} (h : i + 1 < n) : gd go rows n i = (rows i).filter fun p => (gd go rows n (i + 1)).any (go i p) := by
  unfold gd
  have e : n - 1 - i = (n - 1 - (i + 1)) + 1 := by omega
  rw [e]
  rfl
theorem gd_last : gd go rows n (n - 1) = rows (n - 1) := by
  unfold gd
  rw [Nat.sub_self]
  rfl
theorem gd_sub {i : Nat} {p : Pr} (h : p ∈ gd go rows n i) : p ∈ rows i := bk_sub go rows h
theorem gd_next {i : Nat} {p : Pr} (hi : i + 1 < n) (h : p ∈ gd go rows n i) : ∃ q ∈ gd go rows n (i + 1), go i p q = true := by
  rw [gd_step go rows n hi] at h
  exact List.any_eq_true.mp (List.mem_filter.mp h).2
/-! the first line -/
def mn (l : List Pr) : Int := minL (l.map (·.1))
def fs (l : List Pr) : List Pr := l.filter fun p => decide (p.1 = mn l)
def th : Nat → List Pr
  | 0 => gd go rows n 0
  | i + 1 => (gd go rows n (i + 1)).filter fun q => (fs (th i)).any fun p => go i p q
def one (i : Nat) : Int := mn (th go rows n i)
theorem fs_ne {l : List Pr} (h : l ≠ []) : ∃ p, p ∈ fs l := by
  have hm : l.map (·.1) ≠ [] := fun e => h (List.map_eq_nil_iff.mp e)
  obtain ⟨h1, _⟩ := minL_mem hm
  obtain ⟨p, hp, e⟩ := List.mem_map.mp h1
  exact ⟨p, List.mem_filter.mpr ⟨hp, decide_eq_true e⟩⟩
theorem th_sub {i : Nat} {p : Pr} (h : p ∈ th go rows n i) : p ∈ gd go rows n i := by
  cases i with
  | zero => exact h
  | succ i => exact (List.mem_filter.mp h).1
theorem th_ne (h0 : gd go rows n 0 ≠ []) : ∀ i, i < n → th go rows n i ≠ []
  | 0, _ => h0
  | i + 1, hi => by
    obtain ⟨p, hp⟩ := fs_ne (th_ne h0 i (by omega))
    have hg := th_sub go rows n (List.mem_filter.mp hp).1
    obtain ⟨q, hq, e⟩ := gd_next go rows n hi hg
    intro z
    have : q ∈ th go rows n (i + 1) := List.mem_filter.mpr ⟨hq, List.any_eq_true.mpr ⟨p, hp, e⟩⟩
    rw [z] at this
    cases this
/-! the other line -/
def kp0 (i : Nat) : List Pr := (gd go rows n i).filter fun p => decide (p.1 = one go rows n i)
def kp (i : Nat) : List Pr := gd go (kp0 go rows n) n i
theorem kp_fst {i : Nat} {p : Pr} (h : p ∈ kp go rows n i) : p.1 = one go rows n i := of_decide_eq_true (List.mem_filter.mp (gd_sub go _ n h)).2
theorem kp_ne (h0 : gd go rows n 0 ≠ []) : ∀ m i, m = n - 1 - i → i < n → ∃ p ∈ kp go rows n i, p ∈ fs (th go rows n i)
  | 0, i, hm, hi => by
    have e : i = n - 1 := by omega
    subst e
    obtain ⟨p, hp⟩ := fs_ne (th_ne go rows n h0 (n - 1) hi)
    refine ⟨p, ?_, hp⟩
    unfold kp
    rw [gd_last]
    obtain ⟨h1, h2⟩ := List.mem_filter.mp hp
    exact List.mem_filter.mpr ⟨th_sub go rows n h1, h2⟩
  | m + 1, i, hm, hi => by
    obtain ⟨q, hq, hf⟩ := kp_ne h0 m (i + 1) (by omega) (by omega)
    obtain ⟨p, hp, e⟩ := List.any_eq_true.mp (List.mem_filter.mp (List.mem_filter.mp hf).1).2
    refine ⟨p, ?_, hp⟩
    unfold kp
    rw [gd_step go _ n (by omega)]
    obtain ⟨h1, h2⟩ := List.mem_filter.mp hp
    exact List.mem_filter.mpr ⟨List.mem_filter.mpr ⟨th_sub go rows n h1, h2⟩, List.any_eq_true.mpr ⟨q, hq, e⟩⟩
def out : Nat → Pr
  | 0 => minQ (kp go rows n 0)
  | i + 1 => minQ ((kp go rows n (i + 1)).filter (go i (out i)))
theorem out_in (h0 : gd go rows n 0 ≠ []) : ∀ i, i < n → out go rows n i ∈ kp go rows n i ∧ (i + 1 < n → (kp go rows n (i + 1)).filter (go i (out go rows n i)) ≠ [])
  | 0, hi => by
    obtain ⟨p, hp, _⟩ := kp_ne go rows n h0 (n - 1) 0 (by omega) hi
    have h1 : out go rows n 0 ∈ kp go rows n 0 := minQ_mem fun e => by
      rw [e] at hp
      cases hp
    refine ⟨h1, fun h2 => ?_⟩
    obtain ⟨q, hq, e⟩ := gd_next go _ n h2 h1
    intro z
    have : q ∈ (kp go rows n (0 + 1)).filter (go 0 (out go rows n 0)) := List.mem_filter.mpr ⟨hq, e⟩
    rw [z] at this
    cases this
  | i + 1, hi => by
    obtain ⟨_, h2⟩ := out_in h0 i (by omega)
    have h1 : out go rows n (i + 1) ∈ kp go rows n (i + 1) := (List.mem_filter.mp (minQ_mem (h2 hi))).1
    refine ⟨h1, fun h2 => ?_⟩
    obtain ⟨q, hq, e⟩ := gd_next go _ n h2 h1
    intro z
    have : q ∈ (kp go rows n (i + 1 + 1)).filter (go (i + 1) (out go rows n (i + 1))) := List.mem_filter.mpr ⟨hq, e⟩
    rw [z] at this
    cases this
theorem kp0_ne (h0 : gd go rows n 0 ≠ []) (hn : 0 < n) : kp go rows n 0 ≠ [] := fun e => by
  have := (out_in go rows n h0 0 hn).1
  rw [e] at this
  cases this
/-- the law's second line -/
def oth : Nat → Int
  | 0 => minL ((kp go rows n 0).map (·.2))
  | i + 1 => minL (((kp go rows n (i + 1)).filter (go i (one go rows n i, oth i))).map (·.2))
theorem out_oth (h0 : gd go rows n 0 ≠ []) : ∀ i, i < n → out go rows n i = (one go rows n i, oth go rows n i)
  | 0, hi => minQ_fst (kp0_ne go rows n h0 hi) fun p hp => kp_fst go rows n hp
  | i + 1, hi => by
    have ih := out_oth h0 i (by omega)
    have h2 := (out_in go rows n h0 i (by omega)).2 hi
    show minQ ((kp go rows n (i + 1)).filter (go i (out go rows n i))) = _
    rw [minQ_fst h2 fun p hp => kp_fst go rows n (List.mem_filter.mp hp).1]
    show _ = (_, minL (((kp go rows n (i + 1)).filter (go i (one go rows n i, oth go rows n i))).map (·.2)))
    rw [← ih]
end
/-! lists of places -/
theorem map_set {α : Type} (n i : Nat) (f : Nat → α) (x : α) : ((List.range n).map f).set i x = (List.range n).map fun j => if j = i then x else f j := by
  apply List.ext_getElem?
  intro j
  by_cases hj : i = j
  · subst hj
    by_cases hi : i < n
    · rw [List.getElem?_set_self (by simpa using hi)]
      simp [hi]
    · rw [List.getElem?_eq_none (by simp; omega), List.getElem?_eq_none (by simp; omega)]
  · rw [List.getElem?_set_ne hj]
    by_cases hi : j < n
    · simp [hi, Ne.symm hj]
    · rw [List.getElem?_eq_none (by simp; omega), List.getElem?_eq_none (by simp; omega)]
end K16
namespace K16
open PySem PySem.Spec PyProof.Rows L2 Pl
def topS (i : Nat) : Stmt := PySem.Challenge.pw_tunehouse_k16_whole_two_lines_below_a_gi.main.body.getD i (.Pass ⟨0, 0, 0, 0⟩)
abbrev s_is_number : Stmt := topS 4
abbrev N_is_number : List Str := ["x"]
theorem sc_is_number : FnScope N_is_number ["x"] (defScope s_is_number) := ⟨rfl, rfl, rfl, by decide +kernel, rfl, by decide +kernel, by decide +kernel⟩
abbrev s_is_below : Stmt := topS 5
abbrev N_is_below : List Str := ["n", "x"]
theorem sc_is_below : FnScope N_is_below ["n", "x"] (defScope s_is_below) := ⟨rfl, rfl, rfl, by decide +kernel, rfl, by decide +kernel, by decide +kernel⟩
abbrev s_is_line : Stmt := topS 12
abbrev N_is_line : List Str := ["x", "one"]
theorem sc_is_line : FnScope N_is_line ["x"] (defScope s_is_line) := ⟨rfl, rfl, rfl, by decide +kernel, rfl, by decide +kernel, by decide +kernel⟩
abbrev s_is_rules : Stmt := topS 13
abbrev N_is_rules : List Str := ["x", "one", "a", "b"]
theorem sc_is_rules : FnScope N_is_rules ["x"] (defScope s_is_rules) := ⟨rfl, rfl, rfl, by decide +kernel, rfl, by decide +kernel, by decide +kernel⟩
abbrev s_apart : Stmt := topS 14
abbrev N_apart : List Str := ["a", "b"]
theorem sc_apart : FnScope N_apart ["a", "b"] (defScope s_apart) := ⟨rfl, rfl, rfl, by decide +kernel, rfl, by decide +kernel, by decide +kernel⟩
abbrev s_here_breaks : Stmt := topS 15
abbrev N_here_breaks : List Str := ["rules", "given", "height", "is_last", "out"]
theorem sc_here_breaks : FnScope N_here_breaks ["rules", "given", "height", "is_last"] (defScope s_here_breaks) := ⟨rfl, rfl, rfl, by decide +kernel, rfl, by decide +kernel, by decide +kernel⟩
abbrev s_step_breaks : Stmt := topS 16
abbrev N_step_breaks : List Str := ["rules", "first", "second", "a", "b", "out", "up", "own", "moved"]
theorem sc_step_breaks : FnScope N_step_breaks ["rules", "first", "second", "a", "b"] (defScope s_step_breaks) := ⟨rfl, rfl, rfl, by decide +kernel, rfl, by decide +kernel, by decide +kernel⟩
abbrev s_check_given : Stmt := topS 17
abbrev N_check_given : List Str := ["given", "rules"]
theorem sc_check_given : FnScope N_check_given ["given", "rules"] (defScope s_check_given) := ⟨rfl, rfl, rfl, by decide +kernel, rfl, by decide +kernel, by decide +kernel⟩
abbrev s_check_range : Stmt := topS 18
abbrev N_check_range : List Str := ["low", "high", "most"]
theorem sc_check_range : FnScope N_check_range ["low", "high", "most"] (defScope s_check_range) := ⟨rfl, rfl, rfl, by decide +kernel, rfl, by decide +kernel, by decide +kernel⟩
abbrev s_pairs_at : Stmt := topS 19
abbrev N_pairs_at : List Str := ["given", "rules", "inner", "low", "high", "i", "good", "h", "out", "a", "b"]
theorem sc_pairs_at : FnScope N_pairs_at ["given", "rules", "inner", "low", "high", "i"] (defScope s_pairs_at) := ⟨rfl, rfl, rfl, by decide +kernel, rfl, by decide +kernel, by decide +kernel⟩
abbrev s_can_go : Stmt := topS 20
abbrev N_can_go : List Str := ["given", "rules", "inner", "i", "pair", "other", "a", "b", "x", "y"]
theorem sc_can_go : FnScope N_can_go ["given", "rules", "inner", "i", "pair", "other"] (defScope s_can_go) := ⟨rfl, rfl, rfl, by decide +kernel, rfl, by decide +kernel, by decide +kernel⟩
abbrev s_set_two : Stmt := topS 21
abbrev N_set_two : List Str := ["given", "rules", "low", "high", "inner", "last", "rule", "good", "i", "one", "two", "there", "pair", "high_one"]
theorem sc_set_two : FnScope N_set_two ["given", "rules", "low", "high"] (defScope s_set_two) := ⟨rfl, rfl, rfl, by decide +kernel, rfl, by decide +kernel, by decide +kernel⟩
abbrev s_other_line : Stmt := topS 22
abbrev N_other_line : List Str := ["given", "rules", "inner", "good", "one", "kept", "pair", "i", "two", "out"]
theorem sc_other_line : FnScope N_other_line ["given", "rules", "inner", "good", "one"] (defScope s_other_line) := ⟨rfl, rfl, rfl, by decide +kernel, rfl, by decide +kernel, by decide +kernel⟩
abbrev s_law_box : Stmt := topS 24
abbrev N_law_box : List Str := ["script", "x"]
theorem sc_law_box : FnScope N_law_box ["script"] (defScope s_law_box) := ⟨rfl, rfl, rfl, by decide +kernel, rfl, by decide +kernel, by decide +kernel⟩
abbrev s_law_take : Stmt := topS 25
abbrev N_law_take : List Str := ["box", "m", "at", "cell", "told"]
theorem sc_law_take : FnScope N_law_take ["box", "m"] (defScope s_law_take) := ⟨rfl, rfl, rfl, by decide +kernel, rfl, by decide +kernel, by decide +kernel⟩
abbrev s_law_rules : Stmt := topS 26
abbrev N_law_rules : List Str := ["box", "names", "name"]
theorem sc_law_rules : FnScope N_law_rules ["box"] (defScope s_law_rules) := ⟨rfl, rfl, rfl, by decide +kernel, rfl, by decide +kernel, by decide +kernel⟩
abbrev s_law_apart : Stmt := topS 27
abbrev N_law_apart : List Str := ["a", "b", "gap"]
theorem sc_law_apart : FnScope N_law_apart ["a", "b"] (defScope s_law_apart) := ⟨rfl, rfl, rfl, by decide +kernel, rfl, by decide +kernel, by decide +kernel⟩
abbrev s_law_given : Stmt := topS 28
abbrev N_law_given : List Str := ["box", "most", "row", "k"]
theorem sc_law_given : FnScope N_law_given ["box", "most"] (defScope s_law_given) := ⟨rfl, rfl, rfl, by decide +kernel, rfl, by decide +kernel, by decide +kernel⟩
abbrev s_law_here : Stmt := topS 29
abbrev N_law_here : List Str := ["rules", "given", "h", "last", "gap"]
theorem sc_law_here : FnScope N_law_here ["rules", "given", "h", "last"] (defScope s_law_here) := ⟨rfl, rfl, rfl, by decide +kernel, rfl, by decide +kernel, by decide +kernel⟩
abbrev s_law_step : Stmt := topS 30
abbrev N_law_step : List Str := ["rules", "a", "b", "x", "y", "gap", "one", "other"]
theorem sc_law_step : FnScope N_law_step ["rules", "a", "b", "x", "y"] (defScope s_law_step) := ⟨rfl, rfl, rfl, by decide +kernel, rfl, by decide +kernel, by decide +kernel⟩
abbrev s_law_pairs : Stmt := topS 31
abbrev N_law_pairs : List Str := ["given", "rules", "inner", "low", "high", "i", "out", "good", "h", "x", "y"]
theorem sc_law_pairs : FnScope N_law_pairs ["given", "rules", "inner", "low", "high", "i"] (defScope s_law_pairs) := ⟨rfl, rfl, rfl, by decide +kernel, rfl, by decide +kernel, by decide +kernel⟩
abbrev s_law_goes : Stmt := topS 32
abbrev N_law_goes : List Str := ["given", "rules", "inner", "i", "p", "q"]
theorem sc_law_goes : FnScope N_law_goes ["given", "rules", "inner", "i", "p", "q"] (defScope s_law_goes) := ⟨rfl, rfl, rfl, by decide +kernel, rfl, by decide +kernel, by decide +kernel⟩
abbrev s_law_two : Stmt := topS 33
abbrev N_law_two : List Str := ["given", "rules", "low", "high", "inner", "n", "rule", "rows", "i", "p", "q", "one", "there", "least", "kept", "other", "last"]
theorem sc_law_two : FnScope N_law_two ["given", "rules", "low", "high"] (defScope s_law_two) := ⟨rfl, rfl, rfl, by decide +kernel, rfl, by decide +kernel, by decide +kernel⟩
abbrev s_law : Stmt := topS 34
abbrev N_law : List Str := ["script", "box", "given", "rules", "low", "high", "turn", "due", "rule"]
theorem sc_law : FnScope N_law ["script"] (defScope s_law) := ⟨rfl, rfl, rfl, by decide +kernel, rfl, by decide +kernel, by decide +kernel⟩
end K16
namespace K16
open PySem PySem.Spec PyProof.Rows L2 Pl
section
variable {P : Program} {w : World} {K : PySem.W.Frag} {mg : Str → Option Value} {base : Heap}
/-! apart -/
def apI (a b : Int) : Int := (if a - b < 0 then -(a - b) else a - b) % 12
def fp_apart : List PyData → PyData → Prop := fun ds d => ∃ a b : Int, ds = [.int a, .int b] ∧ d = .int (apI a b)
theorem ok_apart {f : Addr} {fd : FuncData} (F : Fun K "apart" "apart" s_apart f fd) (ma : mg "abs" = none) : FnOk P w K mg base CX0 1 f fd ["a", "b"] (spPure K 2 fp_apart) := by
  refine fn_pure F sc_apart (fun cdv A outer s H E ds d hr hp hl => ?_)
  obtain ⟨a, b, rfl, rfl⟩ := hp
  exact b_cons (s_ret (Ev.w (ev_mod (ev_abs ma (ev_sub (ev_var (i := 0) rfl) (ev_var (i := 1) rfl))) ev_int) rfl))
/-! here_breaks -/
def goodL : List Int := [0, 3, 4, 7, 8, 9]
def whiteL : List Int := [0, 2, 4, 5, 7, 9, 11]
def hC (R : List Str) (g h : Int) : Bool := decide (("consonant" : Str) ∈ R) && !decide (apI g h ∈ goodL)
def hE (R : List Str) (g h : Int) (l : Bool) : Bool := decide (("end" : Str) ∈ R) && (l && !decide (apI g h = 0))
def hW (R : List Str) (h : Int) : Bool := decide (("white" : Str) ∈ R) && !decide (h % 12 ∈ whiteL)
def hereL (R : List Str) (g h : Int) (l : Bool) : List PyData := (if hC R g h = true then [.str "consonant"] else []) ++ (if hE R g h l = true then [.str "end"] else []) ++ (if hW R h = true then [.str "white"] else [])
def dS (R : List Str) : PyData := .tuple (R.map PyData.str)
def fp_here : List PyData → PyData → Prop := fun ds d => ∃ (R : List Str) (g h : Int) (l : Bool), ds = [dS R, .int g, .int h, .bool l] ∧ d = .list (hereL R g h l)
theorem ok_here {f : Addr} {fd : FuncData} (F : Fun K "here_breaks" "here_breaks" s_here_breaks f fd) (Fa : Fn P w K mg base 1 "apart" ["a", "b"] (spPure K 2 fp_apart))
    (cG : Gc K mg "GOOD" (.tuple (goodL.map PyData.int))) (cW : Gc K mg "WHITE" (.tuple (whiteL.map PyData.int))) : FnOk P w K mg base CX0 2 f fd ["rules", "given", "height", "is_last"] (spPure K 4 fp_here) := by
  refine fn_pure F sc_here_breaks (fun cdv A outer s H E ds d hr hp hl => ?_)
  obtain ⟨R, g, h, l, rfl, rfl⟩ := hp
  refine b_cons (s_setL (i := 4) sc_here_breaks.nd (El.w (el_lst av_nil) fun L => ?_))
  refine b_cons (s_if' (k := hC R g h) (tv_w (tw_and' (tv_inS R ev_str (ev_var (i := 0) rfl)) fun _ => tw_and1 (tv_niI goodL (ev_call Fa hr (av_cons (ev_var (i := 1) rfl) (av_cons (ev_var (i := 2) rfl) av_nil)) ⟨g, h, rfl, rfl⟩) (ev_glob cG)))) (fun h1 => ?_) (fun h1 => ?_))
  all_goals (try refine b_cons (s_app (i := 4) (Ev.w ev_str ⟨_, _, rfl, by decide, ?_⟩)))
  all_goals refine b_nil ?_
  all_goals refine b_cons (s_if' (k := hE R g h l) (tv_w (tw_and' (tv_inS R ev_str (ev_var (i := 0) rfl)) fun _ => tw_and' (tv_bool (ev_var (i := 3) rfl)) fun _ => tw_and1 (tv_ne (ev_call Fa hr (av_cons (ev_var (i := 1) rfl) (av_cons (ev_var (i := 2) rfl) av_nil)) ⟨g, h, rfl, rfl⟩) ev_int))) (fun h2 => ?_) (fun h2 => ?_))
  all_goals (try refine b_cons (s_app (i := 4) (Ev.w ev_str ⟨_, _, rfl, by decide, ?_⟩)))
  all_goals refine b_nil ?_
  all_goals refine b_cons (s_if' (k := hW R h) (tv_w (tw_and' (tv_inS R ev_str (ev_var (i := 0) rfl)) fun _ => tw_and1 (tv_niI whiteL (ev_mod (ev_var (i := 2) rfl) ev_int) (ev_glob cW)))) (fun h3 => ?_) (fun h3 => ?_))
  all_goals (try refine b_cons (s_app (i := 4) (Ev.w ev_str ⟨_, _, rfl, by decide, ?_⟩)))
  all_goals refine b_nil ?_
  all_goals exact b_freeze (i := 4) rfl (b_cons (s_ret (Ev.w (ev_var (i := 4) rfl) (by simp [hereL, h1, h2, h3]))))
/-! step_breaks -/
def absI (i : Int) : Int := if i < 0 then -i else i
def sC (R : List Str) (a b : Int) : Bool := decide (("close" : Str) ∈ R) && (decide (7 < absI (b - a)) && !decide (absI (b - a) = 12))
def sT (R : List Str) (p q a b : Int) : Bool := decide (("contrary" : Str) ∈ R) && (decide (0 < (q - p) * (b - a)) && decide (apI q b ∈ [0, 7]))
def sP (R : List Str) (p q a b : Int) : Bool := decide (("parallel" : Str) ∈ R) && ((!decide (q - p = 0) && !decide (b - a = 0)) && (decide (apI q b ∈ [0, 7]) && decide (apI p a = apI q b)))
def sS (R : List Str) (a b : Int) : Bool := decide (("still" : Str) ∈ R) && decide (b - a = 0)
def stepL (R : List Str) (p q a b : Int) : List PyData := (if sC R a b = true then [.str "close"] else []) ++ (if sT R p q a b = true then [.str "contrary"] else []) ++ (if sP R p q a b = true then [.str "parallel"] else []) ++ (if sS R a b = true then [.str "still"] else [])
/-- a height's size, for products -/
def Sm (i : Int) : Prop := -100000 ≤ i ∧ i ≤ 100000
def fp_step : List PyData → PyData → Prop := fun ds d => ∃ (R : List Str) (p q a b : Int), Sm p ∧ Sm q ∧ ds = [dS R, .int p, .int q, .int a, .int b] ∧ d = .list (stepL R p q a b)
theorem ok_step {f : Addr} {fd : FuncData} (F : Fun K "step_breaks" "step_breaks" s_step_breaks f fd) (Fa : Fn P w K mg base 1 "apart" ["a", "b"] (spPure K 2 fp_apart)) (ma : mg "abs" = none) : FnOk P w K mg base CX0 2 f fd ["rules", "first", "second", "a", "b"] (spPure K 5 fp_step) := by
  refine fn_pure F sc_step_breaks (fun cdv A outer s H E ds d hr hp hl => ?_)
  obtain ⟨R, p, q, a, b, hp1, hq1, rfl, rfl⟩ := hp
  refine b_cons (s_par3 (i := 5) (j := 6) (l := 7) rfl sc_step_breaks.nd (ex_new (El.w (el_lst av_nil) fun L => ex_dat (Ev.w (ev_sub (ev_var (i := 2) rfl) (ev_var (i := 1) rfl)) (ex_dat (Ev.w (ev_sub (ev_var (i := 4) rfl) (ev_var (i := 3) rfl)) ?_))))))
  refine b_cons (s_if' (k := sC R a b) (tv_w (tw_and' (tv_inS R ev_str (ev_var (i := 0) rfl)) fun _ => tw_and' (tv_gt (ev_abs ma (ev_var (i := 7) rfl)) ev_int) fun _ => tw_and1 (tv_ne (ev_abs ma (ev_var (i := 7) rfl)) ev_int))) (fun h1 => ?_) (fun h1 => ?_))
  all_goals (try refine b_cons (s_app (i := 5) (Ev.w ev_str ⟨_, _, rfl, by decide, ?_⟩)))
  all_goals refine b_nil ?_
  all_goals refine b_cons (s_if' (k := sT R p q a b) (tv_w (tw_and' (tv_inS R ev_str (ev_var (i := 0) rfl)) fun _ => tw_and' (tv_gt (ev_mul (ev_var (i := 6) rfl) (ev_var (i := 7) rfl) (.inl (by obtain ⟨_, _⟩ := hp1; obtain ⟨_, _⟩ := hq1; omega))) ev_int) fun _ => tw_and1 (tv_inI [0, 7] (ev_call Fa hr (av_cons (ev_var (i := 2) rfl) (av_cons (ev_var (i := 4) rfl) av_nil)) ⟨q, b, rfl, rfl⟩) (ev_tup (av_cons ev_int (av_cons ev_int av_nil)))))) (fun h2 => ?_) (fun h2 => ?_))
  all_goals (try refine b_cons (s_app (i := 5) (Ev.w ev_str ⟨_, _, rfl, by decide, ?_⟩)))
  all_goals refine b_nil ?_
  all_goals refine b_cons (s_set (i := 8) sc_step_breaks.nd (Ev.w (ev_and (ev_ne (ev_var (i := 6) rfl) ev_int) fun _ => ev_one (ev_ne (ev_var (i := 7) rfl) ev_int)) ?_))
  all_goals refine b_cons (s_if' (k := sP R p q a b) (tv_w (tw_and' (tv_inS R ev_str (ev_var (i := 0) rfl)) fun _ => tw_and' (tv_bool (ev_var (i := 8) rfl)) fun _ => tw_and' (tv_inI [0, 7] (ev_call Fa hr (av_cons (ev_var (i := 2) rfl) (av_cons (ev_var (i := 4) rfl) av_nil)) ⟨q, b, rfl, rfl⟩) (ev_tup (av_cons ev_int (av_cons ev_int av_nil)))) fun _ => tw_and1 (tv_eq (ev_call Fa hr (av_cons (ev_var (i := 1) rfl) (av_cons (ev_var (i := 3) rfl) av_nil)) ⟨p, a, rfl, rfl⟩) (ev_call Fa hr (av_cons (ev_var (i := 2) rfl) (av_cons (ev_var (i := 4) rfl) av_nil)) ⟨q, b, rfl, rfl⟩)))) (fun h3 => ?_) (fun h3 => ?_))
  all_goals (try refine b_cons (s_app (i := 5) (Ev.w ev_str ⟨_, _, rfl, by decide, ?_⟩)))
  all_goals refine b_nil ?_
  all_goals refine b_cons (s_if' (k := sS R a b) (tv_w (tw_and' (tv_inS R ev_str (ev_var (i := 0) rfl)) fun _ => tw_and1 (tv_eq (ev_var (i := 7) rfl) ev_int))) (fun h4 => ?_) (fun h4 => ?_))
  all_goals (try refine b_cons (s_app (i := 5) (Ev.w ev_str ⟨_, _, rfl, by decide, ?_⟩)))
  all_goals refine b_nil ?_
  all_goals exact b_freeze (i := 5) rfl (b_cons (s_ret (Ev.w (ev_var (i := 5) rfl) (by simp [stepL, h1, h2, h3, h4]))))
end
end K16
namespace K16
open PySem PySem.Spec PyProof.Rows L2 Pl
section
variable {P : Program} {w : World} {K : PySem.W.Frag} {mg : Str → Option Value} {base : Heap}
/-! checks: what is handed in is in order -/
def fp_number : List PyData → PyData → Prop := fun ds d => ∃ i : Int, ds = [.int i] ∧ d = .bool true
theorem ok_number {f : Addr} {fd : FuncData} (F : Fun K "is_number" "is_number" s_is_number f fd) (mi : mg "isinstance" = none) (mn : mg "int" = none) (mb : mg "bool" = none) : FnOk P w K mg base CX0 1 f fd ["x"] (spPure K 1 fp_number) := by
  refine fn_pure F sc_is_number (fun cdv A outer s H E ds d hr hp hl => ?_)
  obtain ⟨i, rfl, rfl⟩ := hp
  exact b_cons (s_ret (Ev.w (Ev.to (ev_and (ev_isi (Ts := "int") (t := "int") (k := true) mi mn (ev_var (i := 0) rfl) rfl (by decide +kernel) boot_int) fun _ => ev_one (ev_not (ev_isi (Ts := "bool") (t := "int") (k := false) mi mb (ev_var (i := 0) rfl) rfl (by decide +kernel) boot_bool))) rfl) rfl))
def fp_below : List PyData → PyData → Prop := fun ds d => ∃ n i : Int, 0 ≤ i ∧ i < n ∧ ds = [.int n, .int i] ∧ d = .bool true
theorem ok_below {f : Addr} {fd : FuncData} (F : Fun K "is_below" "is_below" s_is_below f fd) (Fn1 : Fn P w K mg base 1 "is_number" ["x"] (spPure K 1 fp_number)) : FnOk P w K mg base CX0 2 f fd ["n", "x"] (spPure K 2 fp_below) := by
  refine fn_pure F sc_is_below (fun cdv A outer s H E ds d hr hp hl => ?_)
  obtain ⟨n, i, h1, h2, rfl, rfl⟩ := hp
  refine b_cons (s_ret (Ev.w (Ev.to (ev_and (ev_call Fn1 hr (av_cons (ev_var (i := 1) rfl) av_nil) ⟨i, rfl, rfl⟩) fun _ => ev_one (ev_chain (k := decide (0 ≤ i)) (kc := decide (i < n)) op_le op_lt ev_int (ev_var (i := 1) rfl) (fun _ => ev_var (i := 0) rfl) (od_I0 (fun _ => .bl _) rfl) fun _ => od_I0 (fun _ => .bl _) rfl)) ?_) rfl))
  rw [decide_eq_true h1, decide_eq_true h2]
  rfl
def dI (xs : List Int) : PyData := .tuple (xs.map PyData.int)
def Ht (xs : List Int) : Prop := ∀ x ∈ xs, 0 ≤ x ∧ x < 128
def fp_line : List PyData → PyData → Prop := fun ds d => ∃ xs : List Int, 1 ≤ xs.length ∧ xs.length ≤ 40 ∧ Ht xs ∧ ds = [dI xs] ∧ d = .bool true
theorem all_true {n : Nat} : ((List.replicate n true).all id) = true := by simp
theorem map_true {α : Type} (xs : List α) : (xs.map fun _ => PyData.bool true) = (List.replicate xs.length true).map PyData.bool := by
  rw [List.map_replicate, List.map_const']
theorem ok_line {f : Addr} {fd : FuncData} (F : Fun K "is_line" "is_line" s_is_line f fd) (Fb : Fn P w K mg base 2 "is_below" ["n", "x"] (spPure K 2 fp_below)) (mi : mg "isinstance" = none) (mt : mg "tuple" = none) (ml : mg "len" = none) (ma : mg "all" = none) (cM : Gc K mg "MOST_LINE" (.int 40)) : FnOk P w K mg base CX0 3 f fd ["x"] (spPure K 1 fp_line) := by
  refine fn_pure F sc_is_line (fun cdv A outer s H E ds d hr hp hl => ?_)
  obtain ⟨xs, h1, h2, h3, rfl, rfl⟩ := hp
  refine b_cons (s_ret (Ev.w (Ev.to (ev_and (ev_isi (Ts := "tuple") (t := "tuple") (k := true) mi mt (ev_var (i := 0) rfl) rfl (by decide +kernel) boot_tuple) fun _ => ev_and (ev_chain (k := decide ((1 : Int) ≤ (xs.map PyData.int).length)) (kc := decide (((xs.map PyData.int).length : Int) ≤ 40)) op_le op_le ev_int (ev_len ml (ev_var (i := 0) rfl) rfl) (fun _ => ev_glob cM) (od_I0 (fun _ => .bl _) rfl) fun _ => od_I0 (fun _ => .bl _) rfl) fun _ =>
    ev_one (ev_allC xs (fun _ => true) (fun _ => true) (lc_map (j := 1) xs PyData.int _ _ sc_is_line.nd (iv_ofT (ev_var (i := 0) rfl) ⟨rfl, rfl, trivial⟩) (by omega) (fun y hy s H C cl fp => tf_nil ⟨rfl, rfl⟩) (fun y hy _ s H C cl fp => ev_call Fb hr (av_cons ev_int (av_cons (ev_var (i := 1) rfl) av_nil)) ⟨128, y, (h3 y hy).1, (h3 y hy).2, rfl, rfl⟩)) rfl ma sc_is_line.nd (blkOk_by (N := N_is_line) (sc := defScope s_is_line) (by decide +kernel)))) ?_) rfl))
  rw [List.length_map, decide_eq_true (by omega : (1 : Int) ≤ xs.length), decide_eq_true (by omega : (xs.length : Int) ≤ 40)]
  simp
def rulesL : List Str := ["close", "consonant", "contrary", "end", "parallel", "still", "white"]
structure Rls (R : List Str) : Prop where
  mem : ∀ x ∈ R, x ∈ rulesL
  up : ∀ p ∈ R.zip R.tail, p.1.cps.toList < p.2.cps.toList
  few : R.length ≤ 7
def fp_rules : List PyData → PyData → Prop := fun ds d => ∃ R : List Str, Rls R ∧ ds = [dS R] ∧ d = .bool true
theorem zip_str (R : List Str) : ((R.map PyData.str).zip (R.map PyData.str).tail).map (fun z => PyData.tuple [z.1, z.2]) = (R.zip R.tail).map fun z => PyData.tuple [.str z.1, .str z.2] := by
  rw [← List.map_tail, List.zip_map, List.map_map] <;> rfl
theorem ok_rules {f : Addr} {fd : FuncData} (F : Fun K "is_rules" "is_rules" s_is_rules f fd) (mi : mg "isinstance" = none) (mt : mg "tuple" = none) (ms : mg "str" = none) (mz : mg "zip" = none) (ma : mg "all" = none) (cR : Gc K mg "RULES" (.tuple (rulesL.map PyData.str))) : FnOk P w K mg base CX0 1 f fd ["x"] (spPure K 1 fp_rules) := by
  refine fn_pure F sc_is_rules (fun cdv A outer s H E ds d hr hp hl => ?_)
  obtain ⟨R, hR, rfl, rfl⟩ := hp
  refine b_cons (s_if' (k := false) (tv_w (Tw.to (tw_or' (tv_not' (tv_bool (ev_isi (Ts := "tuple") (t := "tuple") (k := true) mi mt (ev_var (i := 0) rfl) rfl (by decide +kernel) boot_tuple))) fun _ => tw_or1 (tv_not' (tv_bool (ev_allC R (fun _ => true) (fun x => decide (x ∈ rulesL)) (lc_map (j := 1) R PyData.str _ _ sc_is_rules.nd (iv_ofT (ev_var (i := 0) rfl) ⟨rfl, rfl, trivial⟩) (by have := hR.few; omega) (fun y hy s H C cl fp => tf_nil ⟨rfl, rfl⟩)
      (fun y hy _ s H C cl fp => Ev.to (ev_and (ev_isi (Ts := "str") (t := "str") (k := true) mi ms (ev_var (i := 1) rfl) rfl (by decide +kernel) boot_str) fun _ => ev_one (ev_inS rulesL (ev_var (i := 1) rfl) (ev_glob cR))) rfl)) rfl ma sc_is_rules.nd (blkOk_by (N := N_is_rules) (sc := defScope s_is_rules) (by decide +kernel)))))) ?_)) (fun h => nomatch h) (fun _ => ?_))
  · have e : (R.all fun x => !(fun _ => true) x || decide (x ∈ rulesL)) = true := List.all_eq_true.mpr fun x hx => by simp [hR.mem x hx]
    rw [e]
    rfl
  refine b_nil (b_cons (s_ret (Ev.w (Ev.to (ev_allC (R.zip R.tail) (fun _ => true) (fun z => decide (z.1.cps.toList < z.2.cps.toList)) (lc_map2 (i := 2) (j := 3) (R.zip R.tail) (fun z => .str z.1) (fun z => .str z.2) _ _ rfl sc_is_rules.nd (iv_zipT mz (av_cons (ev_var (i := 0) rfl) (av_cons (ev_tail' (ev_var (i := 0) rfl)) av_nil)) ⟨rfl, zip_str R, trivial⟩) (by have := hR.few; rw [List.length_zip]; omega) (fun y hy s H C cl fp => tf_nil ⟨rfl, rfl⟩)
      (fun y hy _ s H C cl fp => ev_ltS (ev_var (i := 2) rfl) (ev_var (i := 3) rfl))) rfl ma sc_is_rules.nd (blkOk_by (N := N_is_rules) (sc := defScope s_is_rules) (by decide +kernel))) ?_) rfl)))
  have e : ((R.zip R.tail).all fun x => !(fun _ => true) x || decide (x.1.cps.toList < x.2.cps.toList)) = true := List.all_eq_true.mpr fun x hx => by simp [hR.up x hx]
  rw [e]
def fp_given : List PyData → PyData → Prop := fun ds d => ∃ (xs : List Int) (R : List Str), 1 ≤ xs.length ∧ xs.length ≤ 40 ∧ Ht xs ∧ Rls R ∧ ds = [dI xs, dS R] ∧ d = .none
theorem ok_given {f : Addr} {fd : FuncData} (F : Fun K "check_given" "check_given" s_check_given f fd) (Fl : Fn P w K mg base 3 "is_line" ["x"] (spPure K 1 fp_line)) (Fr : Fn P w K mg base 1 "is_rules" ["x"] (spPure K 1 fp_rules)) : FnOk P w K mg base CX0 4 f fd ["given", "rules"] (spPure K 2 fp_given) := by
  refine fn_pure F sc_check_given (fun cdv A outer s H E ds d hr hp hl => ?_)
  obtain ⟨xs, R, h1, h2, h3, hR, rfl, rfl⟩ := hp
  exact b_cons (s_if' (k := false) (tv_w (Tw.to (tw_or' (tv_not' (tv_bool (ev_call Fl hr (av_cons (ev_var (i := 0) rfl) av_nil) ⟨xs, h1, h2, h3, rfl, rfl⟩))) fun _ => tw_or1 (tv_not' (tv_bool (ev_call Fr (hr.mono (by decide)) (av_cons (ev_var (i := 1) rfl) av_nil) ⟨R, hR, rfl, rfl⟩)))) rfl)) (fun h => nomatch h) (fun _ => b_nil (b_nil rfl)))
def fp_range : List PyData → PyData → Prop := fun ds d => ∃ lo hi most : Int, 0 ≤ lo ∧ lo < 128 ∧ 0 ≤ hi ∧ hi < 128 ∧ lo ≤ hi ∧ hi ≤ lo + most ∧ ds = [.int lo, .int hi, .int most] ∧ d = .none
theorem ok_range {f : Addr} {fd : FuncData} (F : Fun K "check_range" "check_range" s_check_range f fd) (Fb : Fn P w K mg base 2 "is_below" ["n", "x"] (spPure K 2 fp_below)) : FnOk P w K mg base CX0 3 f fd ["low", "high", "most"] (spPure K 3 fp_range) := by
  refine fn_pure F sc_check_range (fun cdv A outer s H E ds d hr hp hl => ?_)
  obtain ⟨lo, hi, most, h1, h2, h3, h4, h5, h6, rfl, rfl⟩ := hp
  refine b_cons (s_if' (k := false) (tv_w (Tw.to (tw_or' (tv_not' (tv_bool (ev_call Fb hr (av_cons ev_int (av_cons (ev_var (i := 0) rfl) av_nil)) ⟨128, lo, h1, h2, rfl, rfl⟩))) fun _ => tw_or' (tv_not' (tv_bool (ev_call Fb hr (av_cons ev_int (av_cons (ev_var (i := 1) rfl) av_nil)) ⟨128, hi, h3, h4, rfl, rfl⟩))) fun _ =>
    tw_or1 (tv_not' (tv_chain (k := decide (lo ≤ hi)) (kc := decide (hi ≤ lo + most)) op_le op_le (ev_var (i := 0) rfl) (ev_var (i := 1) rfl) (fun _ => ev_add (ev_var (i := 0) rfl) (ev_var (i := 2) rfl)) (od_I0 (fun _ => .bl _) rfl) fun _ => od_I0 (fun _ => .bl _) rfl))) ?_)) (fun h => nomatch h) (fun _ => b_nil (b_nil rfl)))
  rw [decide_eq_true h5, decide_eq_true h6]
  rfl
end
end K16
namespace K16
open PySem PySem.Spec PyProof.Rows L2 Pl
section
variable {P : Program} {w : World} {K : PySem.W.Frag} {mg : Str → Option Value} {base : Heap}
/-! pairs_at -/
def hereB (R : List Str) (g h : Int) (l : Bool) : Bool := (hereL R g h l).isEmpty
def stepB (R : List Str) (p q a b : Int) : Bool := (stepL R p q a b).isEmpty
def rI (lo : Int) (n : Nat) : List Int := (List.range n).map fun (i : Nat) => lo + (i : Int)
theorem rng_rI (lo : Int) (n : Nat) : rng lo n = (rI lo n).map PyData.int := by
  unfold rng rI
  rw [List.map_map]
  rfl
theorem rI_mem {lo x : Int} {n : Nat} (h : x ∈ rI lo n) : lo ≤ x ∧ x < lo + n := by
  obtain ⟨i, hi, e⟩ := List.mem_map.mp h
  have := List.mem_range.mp hi
  omega
theorem rI_len (lo : Int) (n : Nat) : (rI lo n).length = n := by simp [rI]
def at0 (xs : List Int) (i : Nat) : Int := xs.getD i 0
theorem at_int {xs : List Int} {i : Nat} (h : i < xs.length) : atI (xs.map PyData.int) (i : Int) = some (.int (at0 xs i)) := by
  refine atI_nat (j := i) ?_
  rw [List.getElem?_map, List.getElem?_eq_getElem h]
  show some (PyData.int xs[i]) = some (PyData.int (xs.getD i 0))
  rw [List.getD_eq_getElem?_getD, List.getElem?_eq_getElem h]
  rfl
theorem at0_in {xs : List Int} {i : Nat} (h : i < xs.length) : at0 xs i ∈ xs := by
  unfold at0
  rw [List.getD_eq_getElem?_getD, List.getElem?_eq_getElem h]
  exact List.getElem_mem h
def isLast (xs : List Int) (i : Nat) : Bool := decide ((i : Int) = (xs.length : Int) - 1)
def goodH (R : List Str) (xs : List Int) (lo hi : Int) (i : Nat) : List Int := (rI lo (hi + 1 - lo).toNat).filter fun h => hereB R (at0 xs i) h (isLast xs i)
def under (I : List Str) (good : List Int) (a : Int) : List Pr := (good.filter fun b => decide (b ≤ a) && hereB I a b false).map fun b => (a, b)
def pairsAt (R I : List Str) (xs : List Int) (lo hi : Int) (i : Nat) : List Pr := (goodH R xs lo hi i).flatMap (under I (goodH R xs lo hi i))
theorem goodH_len (R : List Str) (xs : List Int) (lo hi : Int) (i : Nat) : (goodH R xs lo hi i).length ≤ (hi + 1 - lo).toNat := by
  unfold goodH
  have := List.length_filter_le (fun h => hereB R (at0 xs i) h (isLast xs i)) (rI lo (hi + 1 - lo).toNat)
  rwa [rI_len] at this
theorem under_len (I : List Str) (good : List Int) (a : Int) : (under I good a).length ≤ good.length := by
  unfold under
  rw [List.length_map]
  exact List.length_filter_le _ _
theorem flat_len (I : List Str) (good : List Int) : ∀ l : List Int, (l.flatMap (under I good)).length ≤ l.length * good.length
  | [] => by simp
  | x :: r => by
    rw [List.flatMap_cons, List.length_append, List.length_cons, Nat.succ_mul]
    have := flat_len I good r
    have := under_len I good x
    omega
def dP (l : List Pr) : PyData := .list (l.map pr)
def fp_pairs : List PyData → PyData → Prop := fun ds d => ∃ (xs : List Int) (R I : List Str) (lo hi : Int) (i : Nat), i < xs.length ∧ xs.length ≤ 1000 ∧ 0 ≤ lo ∧ lo ≤ 1000 ∧ hi ≤ lo + 20 ∧ -100 ≤ hi ∧ ds = [dI xs, dS R, dS I, .int lo, .int hi, .int i] ∧ d = dP (pairsAt R I xs lo hi i)
theorem ok_pairs {f : Addr} {fd : FuncData} (F : Fun K "pairs_at" "pairs_at" s_pairs_at f fd) (Fh : Fn P w K mg base 2 "here_breaks" ["rules", "given", "height", "is_last"] (spPure K 4 fp_here)) (ml : mg "len" = none) (mr : mg "range" = none) : FnOk P w K mg base CX0 3 f fd ["given", "rules", "inner", "low", "high", "i"] (spPure K 6 fp_pairs) := by
  refine fn_pure F sc_pairs_at (fun cdv A outer s H E ds d hr hp hl => ?_)
  obtain ⟨xs, R, I, lo, hi, i, hi1, hi2, h1, h2, h3, h4, rfl, rfl⟩ := hp
  refine b_cons (s_setLc (i := 6) (own := [("h", 7)]) rfl sc_pairs_at.nd (blkOk_by (N := N_pairs_at) (sc := defScope s_pairs_at) (by decide +kernel)) (LcW.imp (lc_map (j := 7) (rI lo (hi + 1 - lo).toNat) PyData.int (fun h => hereB R (at0 xs i) h (isLast xs i)) PyData.int sc_pairs_at.nd
    (iv_rng2 mr ((av_cons (ev_var (i := 3) rfl) (av_cons (ev_add (ev_var (i := 4) rfl) ev_int) av_nil)).w ⟨lo, hi + 1, rfl, by omega, by omega, by omega, by omega, rfl, rng_rI _ _, trivial⟩)) (by rw [rI_len]; omega)
    (fun y hy s H C cl fp => tf_one (Tv.to (tv_not' (tv_truD (ev_call Fh hr (av_cons (ev_var (i := 1) rfl) (av_cons (ev_ixT (ev_var (i := 0) rfl) (ev_var (i := 5) rfl) (at_int hi1)) (av_cons (ev_var (i := 7) rfl) (av_cons (ev_eq (ev_var (i := 5) rfl) (ev_sub (ev_len ml (ev_var (i := 0) rfl) rfl) ev_int)) av_nil)))) ⟨R, at0 xs i, y, _, rfl, rfl⟩) rfl)) ?_))
    (fun y hy _ s H C cl fp => ev_var (i := 7) rfl)) fun ds ρ1 ⟨e1, e2⟩ l => ?_))
  · rw [List.length_map, Bool.not_not]
    rfl
  subst e1
  subst e2
  refine b_freeze (i := 6) rfl ?_
  show BvW _ _ [.dat (dI xs), .dat (dS R), .dat (dS I), .dat (.int lo), .dat (.int hi), .dat (.int i), .dat (.list ((goodH R xs lo hi i).map PyData.int)), .un, .un, .un, .un] _
  refine b_cons (s_setL (i := 8) sc_pairs_at.nd (El.w (el_lst av_nil) fun L => ?_))
  have hlen : (goodH R xs lo hi i).length ≤ 21 := Nat.le_trans (goodH_len R xs lo hi i) (by omega)
  refine b_cons (s_for rfl (iv_of (ev_var (i := 6) rfl) ⟨fun k ρ2 => ∃ u, ρ2 = [.dat (dI xs), .dat (dS R), .dat (dS I), .dat (.int lo), .dat (.int hi), .dat (.int i), .dat (.list ((goodH R xs lo hi i).map PyData.int)), .un, .lst L ((((goodH R xs lo hi i).take k).flatMap (under I (goodH R xs lo hi i))).map pr), u, .un],
    fun _ _ _ => trivial, ⟨.un, rfl⟩, fun k d ρ2 hd ⟨u, e⟩ => ?_, fun ρ2 ⟨u, e⟩ => ?_⟩))
  · subst e
    rw [List.getElem?_map] at hd
    cases ha : (goodH R xs lo hi i)[k]? with
    | none => rw [ha] at hd; cases hd
    | some a =>
      rw [ha] at hd
      cases hd
      have hk := (List.getElem?_eq_some_iff.mp ha).1
      refine g_name (i := 9) sc_pairs_at.nd trivial ?_
      refine b_cons (s_ext (i := 8) (El.w (el_lc (own := [("b", 10)]) (lc_map (j := 10) (goodH R xs lo hi i) PyData.int (fun b => decide (b ≤ a) && hereB I a b false) (fun b => pr (a, b)) sc_pairs_at.nd (iv_of (ev_var (i := 6) rfl) ⟨rfl, rfl, trivial⟩) (by omega)
        (fun y hy s H C cl fp => tf_one (tv_w (Tw.to (tw_and' (tv_le (ev_var (i := 10) rfl) (ev_var (i := 9) rfl)) fun _ => tw_and1 (tv_not' (tv_truD (ev_call Fh hr (av_cons (ev_var (i := 2) rfl) (av_cons (ev_var (i := 9) rfl) (av_cons (ev_var (i := 10) rfl) (av_cons ev_bl av_nil)))) ⟨I, a, y, false, rfl, rfl⟩) rfl))) (by rw [Bool.not_not]; rfl))))
        (fun y hy _ s H C cl fp => ev_tup (av_cons (ev_var (i := 9) rfl) (av_cons (ev_var (i := 10) rfl) av_nil)))) rfl sc_pairs_at.nd (blkOk_by (N := N_pairs_at) (sc := defScope s_pairs_at) (by decide +kernel))) ⟨L, _, rfl, ?_, ?_⟩))
      · rw [List.length_map, List.length_map]
        have h5 := flat_len I (goodH R xs lo hi i) ((goodH R xs lo hi i).take k)
        have h6 := List.length_filter_le (fun b => decide (b ≤ a) && hereB I a b false) (goodH R xs lo hi i)
        have h7 : ((goodH R xs lo hi i).take k).length ≤ 21 := Nat.le_trans (List.length_take_le _ _) (by omega)
        have h8 := Nat.mul_le_mul h7 hlen
        omega
      · refine b_nil ⟨.dat (.int a), ?_⟩
        have e3 : ((goodH R xs lo hi i).take (k + 1)).flatMap (under I (goodH R xs lo hi i)) = ((goodH R xs lo hi i).take k).flatMap (under I (goodH R xs lo hi i)) ++ under I (goodH R xs lo hi i) a := by
          rw [List.take_add_one, ha, List.flatMap_append]
          simp
        rw [e3, List.map_append]
        have e4 : (under I (goodH R xs lo hi i) a).map pr = ((goodH R xs lo hi i).filter fun b => decide (b ≤ a) && hereB I a b false).map fun b => pr (a, b) := by
          unfold under
          rw [List.map_map]
          rfl
        rw [e4]
        rfl
  · subst e
    rw [List.length_map, List.take_length]
    exact b_freeze (i := 8) rfl (b_cons (s_ret (Ev.w (ev_var (i := 8) rfl) rfl)))
/-! can_go -/
def goB (R I : List Str) (xs : List Int) (i : Nat) (p q : Pr) : Bool := stepB R (at0 xs i) (at0 xs (i + 1)) p.1 q.1 && stepB R (at0 xs i) (at0 xs (i + 1)) p.2 q.2 && stepB I p.1 q.1 p.2 q.2
def SmP (p : Pr) : Prop := Sm p.1 ∧ Sm p.2
def fp_go : List PyData → PyData → Prop := fun ds d => ∃ (xs : List Int) (R I : List Str) (i : Nat) (p q : Pr), i + 1 < xs.length ∧ Ht xs ∧ SmP p ∧ SmP q ∧ ds = [dI xs, dS R, dS I, .int i, pr p, pr q] ∧ d = .bool (goB R I xs i p q)
theorem sm_at {xs : List Int} {i : Nat} (h : i < xs.length) (hx : Ht xs) : Sm (at0 xs i) := by
  have := hx _ (at0_in h)
  unfold Sm
  omega
theorem ok_go {f : Addr} {fd : FuncData} (F : Fun K "can_go" "can_go" s_can_go f fd) (Fs : Fn P w K mg base 2 "step_breaks" ["rules", "first", "second", "a", "b"] (spPure K 5 fp_step)) : FnOk P w K mg base CX0 3 f fd ["given", "rules", "inner", "i", "pair", "other"] (spPure K 6 fp_go) := by
  refine fn_pure F sc_can_go (fun cdv A outer s H E ds d hr hp hl => ?_)
  obtain ⟨xs, R, I, i, p, q, hi, hx, hp1, hq1, rfl, rfl⟩ := hp
  refine b_cons (s_asg (Ev.w (ev_tup (av_cons (ev_var (i := 4) rfl) (av_cons (ev_var (i := 5) rfl) av_nil))) (g_tup rfl (gs_cons (g_tup rfl (gs_cons (g_name (i := 6) sc_can_go.nd trivial (gs_cons (g_name (i := 7) sc_can_go.nd trivial (gs_nil
    (gs_cons (g_tup rfl (gs_cons (g_name (i := 8) sc_can_go.nd trivial (gs_cons (g_name (i := 9) sc_can_go.nd trivial (gs_nil (gs_nil ?_))))))))))))))))))
  have s0 := sm_at (by omega : i < xs.length) hx
  have s1 := sm_at hi hx
  have e1 : ((i : Int) + 1) = ((i + 1 : Nat) : Int) := by omega
  have at1 : atI (xs.map PyData.int) ((i : Int) + 1) = some (.int (at0 xs (i + 1))) := by
    rw [e1]
    exact at_int hi
  refine b_cons (s_if' (k := !(stepB R (at0 xs i) (at0 xs (i + 1)) p.1 q.1 && stepB R (at0 xs i) (at0 xs (i + 1)) p.2 q.2)) (tv_w (Tw.to (tw_or' (tv_truD (ev_call Fs hr (av_cons (ev_var (i := 1) rfl) (av_cons (ev_ixT (ev_var (i := 0) rfl) (ev_var (i := 3) rfl) (at_int (by omega))) (av_cons (ev_ixT (ev_var (i := 0) rfl) (ev_add (ev_var (i := 3) rfl) ev_int) at1) (av_cons (ev_var (i := 6) rfl) (av_cons (ev_var (i := 8) rfl) av_nil))))) ⟨R, _, _, p.1, q.1, s0, s1, rfl, rfl⟩) rfl) fun _ =>
    tw_or1 (tv_truD (ev_call Fs hr (av_cons (ev_var (i := 1) rfl) (av_cons (ev_ixT (ev_var (i := 0) rfl) (ev_var (i := 3) rfl) (at_int (by omega))) (av_cons (ev_ixT (ev_var (i := 0) rfl) (ev_add (ev_var (i := 3) rfl) ev_int) at1) (av_cons (ev_var (i := 7) rfl) (av_cons (ev_var (i := 9) rfl) av_nil))))) ⟨R, _, _, p.2, q.2, s0, s1, rfl, rfl⟩) rfl)) ?_)) (fun h1 => ?_) (fun h1 => ?_))
  · show (!stepB R (at0 xs i) (at0 xs (i + 1)) p.1 q.1 || !stepB R (at0 xs i) (at0 xs (i + 1)) p.2 q.2) = _
    cases stepB R (at0 xs i) (at0 xs (i + 1)) p.1 q.1 <;> cases stepB R (at0 xs i) (at0 xs (i + 1)) p.2 q.2 <;> rfl
  · refine b_cons (s_ret (Ev.w ev_bl ?_))
    show PyData.bool false = .bool (goB R I xs i p q)
    unfold goB
    revert h1
    cases stepB R (at0 xs i) (at0 xs (i + 1)) p.1 q.1 <;> cases stepB R (at0 xs i) (at0 xs (i + 1)) p.2 q.2 <;> intro h1 <;> first | rfl | exact absurd h1 (by decide)
  · refine b_nil (b_cons (s_ret (Ev.w (ev_notD (ev_call Fs hr (av_cons (ev_var (i := 2) rfl) (av_cons (ev_var (i := 6) rfl) (av_cons (ev_var (i := 8) rfl) (av_cons (ev_var (i := 7) rfl) (av_cons (ev_var (i := 9) rfl) av_nil))))) ⟨I, p.1, q.1, p.2, q.2, hp1.1, hq1.1, rfl, rfl⟩) rfl) ?_)))
    show PyData.bool (!(!stepB I p.1 q.1 p.2 q.2)) = .bool (goB R I xs i p q)
    unfold goB
    revert h1
    cases stepB R (at0 xs i) (at0 xs (i + 1)) p.1 q.1 <;> cases stepB R (at0 xs i) (at0 xs (i + 1)) p.2 q.2 <;> intro h1 <;> first | exact absurd h1 (by decide) | (rw [Bool.not_not]; rfl)
end
end K16
namespace K16
open PySem PySem.Spec PyProof.Rows L2 Pl
section
variable {P : Program} {w : World} {K : PySem.W.Frag} {mg : Str → Option Value} {base : Heap}
theorem pairs_sm {R I : List Str} {xs : List Int} {lo hi : Int} {i : Nat} (h0 : 0 ≤ lo) (h1 : hi ≤ 1000) {p : Pr} (h : p ∈ pairsAt R I xs lo hi i) : SmP p := by
  obtain ⟨a, ha, hp⟩ := List.mem_flatMap.mp h
  obtain ⟨b, hb, e⟩ := List.mem_map.mp hp
  have h2 := rI_mem (List.mem_filter.mp ha).1
  have h3 := rI_mem (List.mem_filter.mp (List.mem_filter.mp hb).1).1
  subst e
  exact ⟨⟨by show -100000 ≤ a; omega, by show a ≤ 100000; omega⟩, ⟨by show -100000 ≤ b; omega, by show b ≤ 100000; omega⟩⟩
theorem pairs_len {R I : List Str} {xs : List Int} {lo hi : Int} {i : Nat} (h1 : hi ≤ lo + 20) : (pairsAt R I xs lo hi i).length ≤ 441 := by
  have h2 := goodH_len R xs lo hi i
  have h3 := flat_len I (goodH R xs lo hi i) (goodH R xs lo hi i)
  have h4 : (goodH R xs lo hi i).length ≤ 21 := by omega
  have h5 := Nat.mul_le_mul h4 h4
  unfold pairsAt
  omega
/-- rows of pairs, as data -/
def dRows (n : Nat) (f : Nat → List Pr) : List PyData := (List.range n).map fun j => dP (f j)
theorem dRows_at {n : Nat} {f : Nat → List Pr} {i : Nat} (h : i < n) : (dRows n f)[i]? = some (dP (f i)) := by simp [dRows, h]
theorem dRows_len {n : Nat} {f : Nat → List Pr} : (dRows n f).length = n := by simp [dRows]
theorem dRows_set {n : Nat} {f g : Nat → List Pr} {i : Nat} (h : ∀ j, j < n → g j = if j = i then g i else f j) : (dRows n f).set i (dP (g i)) = dRows n g := by
  unfold dRows
  rw [map_set]
  refine List.map_congr_left fun j hj => ?_
  rw [h j (List.mem_range.mp hj)]
  split <;> rfl
/-- the least of what is sieved so far -/
def sv (go : Nat → Pr → Pr → Bool) (rows : Nat → List Pr) (n k : Nat) (j : Nat) : List Pr := if n - 1 - k ≤ j then gd go rows n j else rows j
theorem sv0 (go : Nat → Pr → Pr → Bool) (rows : Nat → List Pr) (n : Nat) : dRows n (sv go rows n 0) = dRows n rows := by
  unfold dRows
  refine List.map_congr_left fun j hj => ?_
  have := List.mem_range.mp hj
  unfold sv
  split
  · have e : j = n - 1 := by omega
    subst e
    rw [gd_last]
  · rfl
theorem svn (go : Nat → Pr → Pr → Bool) (rows : Nat → List Pr) (n : Nat) : dRows n (sv go rows n (n - 1)) = dRows n (gd go rows n) := by
  unfold dRows
  refine List.map_congr_left fun j hj => ?_
  unfold sv
  rw [if_pos (by omega)]
theorem sv_set {go : Nat → Pr → Pr → Bool} {rows : Nat → List Pr} {n k i : Nat} (hi : i + 1 < n) (hk : i = n - 2 - k) (hk2 : k < n - 1) : (dRows n (sv go rows n k)).set i (dP (gd go rows n i)) = dRows n (sv go rows n (k + 1)) := by
  have e : sv go rows n (k + 1) i = gd go rows n i := by
    unfold sv
    rw [if_pos (by omega)]
  rw [← e]
  refine dRows_set fun j hj => ?_
  unfold sv
  by_cases h : j = i
  · subst h
    rw [if_pos rfl, if_pos (by omega)]
  · rw [if_neg h]
    by_cases h2 : n - 1 - k ≤ j
    · rw [if_pos h2, if_pos (by omega)]
    · rw [if_neg h2, if_neg (by omega)]
def dInts (n : Nat) (f : Nat → Int) : List PyData := (List.range n).map fun j => PyData.int (f j)
theorem dInts_at {n : Nat} {f : Nat → Int} {i : Nat} (h : i < n) : (dInts n f)[i]? = some (.int (f i)) := by simp [dInts, h]
theorem dInts_len {n : Nat} {f : Nat → Int} : (dInts n f).length = n := by simp [dInts]
theorem gd_len {go : Nat → Pr → Pr → Bool} {rows : Nat → List Pr} {n : Nat} {i m : Nat} (h : (rows i).length ≤ m) : (gd go rows n i).length ≤ m := by
  unfold gd
  cases n - 1 - i with
  | zero => exact h
  | succ k => exact Nat.le_trans (List.length_filter_le _ _) h
theorem any_congr {α : Type} {p q : α → Bool} : ∀ {l : List α}, (∀ x ∈ l, p x = q x) → l.any p = l.any q
  | [], _ => rfl
  | x :: r, h => by
    rw [List.any_cons, List.any_cons, h x List.mem_cons_self, any_congr fun y hy => h y (List.mem_cons_of_mem _ hy)]
section
variable {X : Cx} {ρ : Rho} {a : Expr} {pos px : Pos}
theorem ev_minQ {l : List Pr} (hl : l ≠ []) (hc : X.calm = true) (hu : X.A.units + 64 < cLine) (hm : X.mg "min" = none) (ha : Ev X a ρ (dP l)) (hg : Gl X "min" := by rfl) (he : starEach [a] X.env = (false, eval a X.env) :: starEach [] X.env := by rfl) (hpl : (backTo pos (starEach [] X.env)).any (·.1) = false := by rfl) : Ev X (.Call (.Name "min" px) [a] [] pos) ρ (pr (minQ l)) := by
  cases l with
  | nil => exact absurd rfl hl
  | cons x r => exact ew_minP hc hu hm (ha.w ⟨x, r, rfl, rfl, rfl⟩) hg he hpl
theorem ev_minI {l : List Int} (hl : l ≠ []) (hc : X.calm = true) (hm : X.mg "min" = none) (ha : Ev X a ρ (.list (l.map PyData.int))) (hg : Gl X "min" := by rfl) (he : starEach [a] X.env = (false, eval a X.env) :: starEach [] X.env := by rfl) (hpl : (backTo pos (starEach [] X.env)).any (·.1) = false := by rfl) : Ev X (.Call (.Name "min" px) [a] [] pos) ρ (.int (minL l)) :=
  ew_minI hc hm (ha.w ⟨l, rfl, List.length_pos_iff.mpr hl, fun m h1 h2 => ⟨by rw [minL_eq h1 h2], rfl⟩⟩) hg he hpl
end
/-! other_line -/
structure Two (R I : List Str) (xs : List Int) (lo hi : Int) : Prop where
  hx : Ht xs
  n0 : 0 < xs.length
  n1 : xs.length ≤ 12
  lo0 : 0 ≤ lo
  hi1 : hi ≤ 127
  le : lo ≤ hi
  few : hi ≤ lo + 20
abbrev gdT (R I : List Str) (xs : List Int) (lo hi : Int) : Nat → List Pr := gd (goB R I xs) (pairsAt R I xs lo hi) xs.length
abbrev oneT (R I : List Str) (xs : List Int) (lo hi : Int) : Nat → Int := one (goB R I xs) (pairsAt R I xs lo hi) xs.length
abbrev outT (R I : List Str) (xs : List Int) (lo hi : Int) : Nat → Pr := out (goB R I xs) (pairsAt R I xs lo hi) xs.length
abbrev kpT0 (R I : List Str) (xs : List Int) (lo hi : Int) : Nat → List Pr := kp0 (goB R I xs) (pairsAt R I xs lo hi) xs.length
abbrev kpT (R I : List Str) (xs : List Int) (lo hi : Int) : Nat → List Pr := kp (goB R I xs) (pairsAt R I xs lo hi) xs.length
def fp_other : List PyData → PyData → Prop := fun ds d => ∃ (R I : List Str) (xs : List Int) (lo hi : Int), Two R I xs lo hi ∧ gdT R I xs lo hi 0 ≠ [] ∧
  ds = [dI xs, dS R, dS I, .list (dRows xs.length (gdT R I xs lo hi)), .list (dInts xs.length (oneT R I xs lo hi))] ∧ d = .tuple (dInts xs.length fun j => (outT R I xs lo hi j).2)
abbrev ρO (R I : List Str) (xs : List Int) (lo hi : Int) (kept i out : Sl) : Rho := [.dat (dI xs), .dat (dS R), .dat (dS I), .dat (.list (dRows xs.length (gdT R I xs lo hi))), .dat (.list (dInts xs.length (oneT R I xs lo hi))), kept, .un, i, .un, out]
theorem ok_other {f : Addr} {fd : FuncData} (F : Fun K "other_line" "other_line" s_other_line f fd) (Fg : Fn P w K mg base 3 "can_go" ["given", "rules", "inner", "i", "pair", "other"] (spPure K 6 fp_go)) (ml : mg "len" = none) (mr : mg "range" = none) (mn : mg "min" = none) (my : mg "any" = none) (mt : mg "tuple" = none) :
    FnOk P w K mg base CX0 4 f fd ["given", "rules", "inner", "good", "one"] (spPure K 5 fp_other) := by
  refine fn_pure F sc_other_line (fun cdv A outer s H E ds d hr hp hl => ?_)
  obtain ⟨R, I, xs, lo, hi, T, hne, rfl, rfl⟩ := hp
  have hn0 := T.n0
  have hn1 := T.n1
  have hsm : ∀ {i p}, p ∈ gdT R I xs lo hi i → SmP p := fun h => pairs_sm T.lo0 (by have := T.hi1; omega) (gd_sub _ _ _ h)
  have hln : ∀ i, (gdT R I xs lo hi i).length ≤ 441 := fun i => gd_len (pairs_len T.few)
  show BvW _ _ (ρO R I xs lo hi .un .un .un) _
  refine b_cons (s_setL (i := 5) sc_other_line.nd (El.w (el_lc (own := [("i", 7)]) (lc_map (j := 7) (List.range xs.length) (fun j => PyData.int (0 + (j : Int))) (fun _ => true) (fun j => dP (kpT0 R I xs lo hi j)) sc_other_line.nd
    (iv_rng1 mr (Ev.w (ev_len ml (ev_var (i := 4) rfl) rfl) ⟨_, rfl, by omega, by rw [dInts_len]; omega, rfl, by rw [dInts_len, Int.toNat_natCast]; rfl, trivial⟩)) (by rw [List.length_range]; omega)
    (fun j hj s H C cl fp => tf_nil ⟨rfl, rfl⟩)
    (fun j hj _ s H C cl fp => ev_lc (own := [("pair", 6)]) (LcW.imp (lc_map (j := 6) (gdT R I xs lo hi j) pr (fun p => decide (p.1 = oneT R I xs lo hi j)) pr sc_other_line.nd
      (iv_of (ev_ixL (ev_var (i := 3) rfl) (ev_var (i := 7) rfl) (at_nat0 (dRows_at (List.mem_range.mp hj)))) ⟨rfl, rfl, trivial⟩) (by have := hln j; omega)
      (fun p hp s H C cl fp => tf_one (tv_eq (ev_ixT (ev_var (i := 6) rfl) ev_int (atI_nat (j := 0) rfl)) (ev_ixL (ev_var (i := 4) rfl) (ev_var (i := 7) rfl) (at_nat0 (dInts_at (List.mem_range.mp hj))))))
      (fun p hp _ s H C cl fp => ev_var (i := 6) rfl)) fun ds ρ1 ⟨e1, e2⟩ => ⟨e1, e2⟩) rfl sc_other_line.nd (blkOk_by (N := N_other_line) (sc := relS _ (defScope s_other_line)) (by decide +kernel)))) rfl sc_other_line.nd (blkOk_by (N := N_other_line) (sc := defScope s_other_line) (by decide +kernel))) fun l => ?_))
  have ek : ((List.range xs.length).filter fun _ => true).map (fun j => dP (kpT0 R I xs lo hi j)) = dRows xs.length (sv (goB R I xs) (kpT0 R I xs lo hi) xs.length 0) := by
    rw [filter_yes, sv0]
    rfl
  rw [ek]
  show BvW _ _ (ρO R I xs lo hi (.lst l (dRows xs.length (sv (goB R I xs) (kpT0 R I xs lo hi) xs.length 0))) .un .un) _
  have hk0 : ∀ {i p}, p ∈ kpT0 R I xs lo hi i → SmP p := fun h => hsm (List.mem_filter.mp h).1
  have hk0l : ∀ i, (kpT0 R I xs lo hi i).length ≤ 441 := fun i => Nat.le_trans (List.length_filter_le _ _) (hln i)
  have hk : ∀ {i p}, p ∈ kpT R I xs lo hi i → SmP p := fun h => hk0 (gd_sub _ _ _ h)
  have hkl : ∀ i, (kpT R I xs lo hi i).length ≤ 441 := fun i => gd_len (hk0l i)
  -- sieved from behind
  refine b_cons (s_for rfl (iv_down mr ((av_cons (ev_sub (ev_len ml (ev_var (i := 4) rfl) rfl) ev_int) (av_cons (ev_neg ev_int) (av_cons (ev_neg ev_int) av_nil))).w ⟨_, _, rfl, by rw [dInts_len]; omega, by rw [dInts_len]; omega, by decide, by decide, ?_⟩)))
  rw [dInts_len]
  have hturns : ((xs.length : Int) - 2 - -1).toNat = xs.length - 1 := by omega
  rw [hturns]
  refine ⟨fun k ρ2 => ∃ u, ρ2 = ρO R I xs lo hi (.lst l (dRows xs.length (sv (goB R I xs) (kpT0 R I xs lo hi) xs.length k))) u .un, fun _ _ _ => trivial, ⟨.un, rfl⟩, fun k d ρ2 hd ⟨u, e⟩ => ?_, fun ρ2 ⟨u, e⟩ => ?_⟩
  · subst e
    obtain ⟨hk1, rfl⟩ := rngC_get hd
    have hin : xs.length - 2 - k + 1 < xs.length := by omega
    have ei : (xs.length : Int) - 2 + (k : Int) * -1 = ((xs.length - 2 - k : Nat) : Int) := by omega
    rw [ei]
    generalize hgi : xs.length - 2 - k = i at hin
    have hrow : sv (goB R I xs) (kpT0 R I xs lo hi) xs.length k i = kpT0 R I xs lo hi i := by
      unfold sv
      rw [if_neg (by omega)]
    have hnxt : sv (goB R I xs) (kpT0 R I xs lo hi) xs.length k (i + 1) = kpT R I xs lo hi (i + 1) := by
      unfold sv
      rw [if_pos (by omega)]
      rfl
    have eg : kpT R I xs lo hi i = (kpT0 R I xs lo hi i).filter fun p => (kpT R I xs lo hi (i + 1)).any (goB R I xs i p) := gd_step _ _ _ hin
    refine g_name (i := 7) sc_other_line.nd trivial ?_
    refine b_cons (s_setI (i := 5) (Ev.w (ev_lc (own := [("pair", 6)]) (lc_map (j := 6) (kpT0 R I xs lo hi i) pr (fun p => (kpT R I xs lo hi (i + 1)).any (goB R I xs i p)) pr sc_other_line.nd
      (iv_of (ev_ixO (i := 5) rfl (ev_var (i := 7) rfl) (atI_nat (by rw [dRows_at (by omega), hrow]; rfl))) ⟨rfl, rfl, trivial⟩) (by have := hk0l i; omega)
      (fun p hp s H C cl fp => tf_one (Tv.to (tv_bool (ev_anyC (own := [("two", 8)]) (kpT R I xs lo hi (i + 1)) (fun _ => true) (fun q => goB R I xs i p q) (lc_map (j := 8) (kpT R I xs lo hi (i + 1)) pr _ _ sc_other_line.nd
        (iv_of (ev_ixO (i := 5) rfl (ev_add (ev_var (i := 7) rfl) ev_int) (at_is (j := i + 1) (by omega) (by rw [dRows_at (by omega), hnxt]; rfl))) ⟨rfl, rfl, trivial⟩) (by have := hkl (i + 1); omega)
        (fun q hq s H C cl fp => tf_nil ⟨rfl, rfl⟩)
        (fun q hq _ s H C cl fp => ev_call Fg hr (av_cons (ev_var (i := 0) rfl) (av_cons (ev_var (i := 1) rfl) (av_cons (ev_var (i := 2) rfl) (av_cons (ev_var (i := 7) rfl) (av_cons (ev_var (i := 6) rfl) (av_cons (ev_var (i := 8) rfl) av_nil)))))) ⟨xs, R, I, i, p, q, hin, T.hx, hk0 hp, hk hq, rfl, rfl⟩)) rfl my sc_other_line.nd (blkOk_by (N := N_other_line) (sc := relS _ (defScope s_other_line)) (by decide +kernel)))) rfl))
      (fun p hp _ s H C cl fp => ev_var (i := 6) rfl)) rfl sc_other_line.nd (blkOk_by (N := N_other_line) (sc := defScope s_other_line) (by decide +kernel))) (Ev.w (ev_var (i := 7) rfl) ⟨l, _, _, i, rfl, rfl, ix_is rfl (by rw [dRows_len]; omega), ?_⟩)))
    refine b_nil ⟨.dat (.int i), ?_⟩
    have e4 : PyData.list (((kpT0 R I xs lo hi i).filter fun p => (kpT R I xs lo hi (i + 1)).any (goB R I xs i p)).map pr) = dP (gd (goB R I xs) (kpT0 R I xs lo hi) xs.length i) := by
      rw [← eg]
      rfl
    rw [e4, sv_set hin (by omega) (by omega)]
    rfl
  subst e
  rw [rngC_len, svn]
  show BvW _ _ (ρO R I xs lo hi (.lst l (dRows xs.length (kpT R I xs lo hi))) u .un) _
  -- the first pair, then the others
  have hk1 : kpT R I xs lo hi 0 ≠ [] := kp0_ne _ _ _ hne hn0
  obtain ⟨x0, r0, hx0⟩ : ∃ x r, kpT R I xs lo hi 0 = x :: r := by
    cases h : kpT R I xs lo hi 0 with
    | nil => exact absurd h hk1
    | cons x r => exact ⟨x, r, rfl⟩
  have hun : (fX P w K mg base N_other_line (Str.ofString "other_line") s_other_line f cdv A outer s H E).A.units + 64 < cLine := hr.units
  refine b_cons (s_setL (i := 9) sc_other_line.nd (El.w (el_lst (av_cons (ev_minQ hk1 rfl hun mn (ev_ixO (i := 5) rfl ev_int (atI_nat (j := 0) (dRows_at hn0)))) av_nil)) fun L => ?_))
  have hprs : ∀ k, ((List.range (k + 1)).map fun j => pr (outT R I xs lo hi j)) = ((List.range k).map fun j => pr (outT R I xs lo hi j)) ++ [pr (outT R I xs lo hi k)] := fun k => by rw [List.range_succ, List.map_append] <;> rfl
  refine b_cons (s_for rfl (iv_rng2 mr ((av_cons ev_int (av_cons (ev_len ml (ev_var (i := 4) rfl) rfl) av_nil)).w ⟨1, _, rfl, by decide, by decide, by omega, by rw [dInts_len]; omega, ?_⟩)))
  rw [dInts_len]
  have hturns2 : ((xs.length : Int) - 1).toNat = xs.length - 1 := by omega
  rw [hturns2]
  refine ⟨fun k ρ2 => ∃ u, ρ2 = ρO R I xs lo hi (.lst l (dRows xs.length (kpT R I xs lo hi))) u (.lst L ((List.range (k + 1)).map fun j => pr (outT R I xs lo hi j))), fun _ _ _ => trivial, ⟨u, rfl⟩, fun k d ρ2 hd ⟨u, e⟩ => ?_, fun ρ2 ⟨u, e⟩ => ?_⟩
  · subst e
    obtain ⟨hk2, rfl⟩ := rng_get hd
    have hin : k + 1 < xs.length := by omega
    have ei : (1 : Int) + (k : Int) = ((k + 1 : Nat) : Int) := by omega
    rw [ei]
    refine g_name (i := 7) sc_other_line.nd trivial ?_
    obtain ⟨o1, o2⟩ := out_in (goB R I xs) (pairsAt R I xs lo hi) xs.length hne k (by omega)
    have hlast : atI ((List.range (k + 1)).map fun j => pr (outT R I xs lo hi j)) (-1) = some (pr (outT R I xs lo hi k)) := by
      rw [hprs]
      exact atI_last _ _
    refine b_cons (s_app (i := 9) (Ev.w (ev_minQ (o2 hin) rfl hun mn (ev_lc (own := [("two", 8)]) (lc_map (j := 8) (kpT R I xs lo hi (k + 1)) pr (goB R I xs k (outT R I xs lo hi k)) pr sc_other_line.nd
      (iv_of (ev_ixO (i := 5) rfl (ev_var (i := 7) rfl) (atI_nat (dRows_at hin))) ⟨rfl, rfl, trivial⟩) (by have := hkl (k + 1); omega)
      (fun q hq s H C cl fp => tf_one (tv_bool (ev_call Fg hr (av_cons (ev_var (i := 0) rfl) (av_cons (ev_var (i := 1) rfl) (av_cons (ev_var (i := 2) rfl) (av_cons (ev_sub (ev_var (i := 7) rfl) ev_int) (av_cons (ev_ixO (i := 9) rfl (ev_neg ev_int) hlast) (av_cons (ev_var (i := 8) rfl) av_nil)))))) ⟨xs, R, I, k, outT R I xs lo hi k, q, hin, T.hx, hk o1, hk hq, by
        have ee : ((k + 1 : Nat) : Int) - 1 = (k : Int) := by omega
        rw [ee], rfl⟩)))
      (fun q hq _ s H C cl fp => ev_var (i := 8) rfl)) rfl sc_other_line.nd (blkOk_by (N := N_other_line) (sc := defScope s_other_line) (by decide +kernel)))) ⟨L, _, rfl, by rw [List.length_map, List.length_range]; omega, ?_⟩))
    refine b_nil ⟨.dat (.int (k + 1 : Nat)), ?_⟩
    rw [hprs (k + 1)]
    rfl
  · subst e
    rw [rng_len]
    have hnn : xs.length - 1 + 1 = xs.length := by omega
    rw [hnn]
    refine b_cons (s_ret (Ev.w (ev_tuple mt (ev_lc (own := [("pair", 6)]) (lc_map (j := 6) (List.range xs.length) (fun j => pr (outT R I xs lo hi j)) (fun _ => true) (fun j => PyData.int (outT R I xs lo hi j).2) sc_other_line.nd
      (iv_listO (i := 9) rfl ⟨rfl, rfl, rfl⟩) (by rw [List.length_range]; omega)
      (fun p hp s H C cl fp => tf_nil ⟨rfl, rfl⟩) (fun p hp _ s H C cl fp => ev_ixT (ev_var (i := 6) rfl) ev_int (atI_nat (j := 1) rfl))) rfl sc_other_line.nd (blkOk_by (N := N_other_line) (sc := defScope s_other_line) (by decide +kernel)))) ?_))
    rw [filter_yes]
    rfl
end
end K16
namespace K16
open PySem PySem.Spec PyProof.Rows L2 Pl
section
variable {P : Program} {w : World} {K : PySem.W.Frag} {mg : Str → Option Value} {base : Heap}
/-! set_two -/
def inn (R : List Str) : List Str := R.filter fun r => !decide (r = "end")
abbrev thT (R I : List Str) (xs : List Int) (lo hi : Int) : Nat → List Pr := th (goB R I xs) (pairsAt R I xs lo hi) xs.length
def setTwo (R : List Str) (xs : List Int) (lo hi : Int) : PyData :=
  if (gdT R (inn R) xs lo hi 0).isEmpty = true then .tuple [.bool false, .none]
  else .tuple [.bool true, .tuple [.tuple (dInts xs.length (oneT R (inn R) xs lo hi)), .tuple (dInts xs.length fun j => (outT R (inn R) xs lo hi j).2)]]
def fp_set : List PyData → PyData → Prop := fun ds d => ∃ (R : List Str) (xs : List Int) (lo hi : Int), Rls R ∧ Two R (inn R) xs lo hi ∧ hi ≤ lo + 12 ∧ ds = [dI xs, dS R, .int lo, .int hi] ∧ d = setTwo R xs lo hi
abbrev ρS (R : List Str) (xs : List Int) (lo hi : Int) (good i one there high : Sl) : Rho := [.dat (dI xs), .dat (dS R), .dat (.int lo), .dat (.int hi), .dat (dS (inn R)), .dat (.int ((xs.length : Int) - 1)), .un, good, i, one, .un, there, .un, high]
theorem th_len {R I : List Str} {xs : List Int} {lo hi : Int} (hf : hi ≤ lo + 20) (i : Nat) : (thT R I xs lo hi i).length ≤ 441 := by
  cases i with
  | zero => exact gd_len (pairs_len hf)
  | succ i => exact Nat.le_trans (List.length_filter_le _ _) (gd_len (pairs_len hf))
theorem ok_set {f : Addr} {fd : FuncData} (F : Fun K "set_two" "set_two" s_set_two f fd) (Fcg : Fn P w K mg base 4 "check_given" ["given", "rules"] (spPure K 2 fp_given)) (Fcr : Fn P w K mg base 3 "check_range" ["low", "high", "most"] (spPure K 3 fp_range)) (Fp : Fn P w K mg base 3 "pairs_at" ["given", "rules", "inner", "low", "high", "i"] (spPure K 6 fp_pairs))
    (Fg : Fn P w K mg base 3 "can_go" ["given", "rules", "inner", "i", "pair", "other"] (spPure K 6 fp_go)) (Fo : Fn P w K mg base 4 "other_line" ["given", "rules", "inner", "good", "one"] (spPure K 5 fp_other))
    (ml : mg "len" = none) (mr : mg "range" = none) (mn : mg "min" = none) (my : mg "any" = none) (mt : mg "tuple" = none) (cM : Gc K mg "MOST_TWO" (.int 12)) :
    FnOk P w K mg base CX0 5 f fd ["given", "rules", "low", "high"] (spPure K 4 fp_set) := by
  refine fn_pure F sc_set_two (fun cdv A outer s H E ds d hr hp hl => ?_)
  obtain ⟨R, xs, lo, hi, hR, T, h12, rfl, rfl⟩ := hp
  have hn0 := T.n0
  have hn1 := T.n1
  have hlo := T.lo0
  have hhi := T.hi1
  have hle := T.le
  have hsm0 : ∀ {i p}, p ∈ pairsAt R (inn R) xs lo hi i → SmP p := fun h => pairs_sm hlo (by omega) h
  have hsm : ∀ {i p}, p ∈ gdT R (inn R) xs lo hi i → SmP p := fun h => hsm0 (gd_sub _ _ _ h)
  have hln0 : ∀ i, (pairsAt R (inn R) xs lo hi i).length ≤ 441 := fun i => pairs_len T.few
  have hln : ∀ i, (gdT R (inn R) xs lo hi i).length ≤ 441 := fun i => gd_len (pairs_len T.few)
  refine b_cons (s_expr (Ev.w (ev_call Fcg hr (av_cons (ev_var (i := 0) rfl) (av_cons (ev_var (i := 1) rfl) av_nil)) ⟨xs, R, by omega, by omega, T.hx, hR, rfl, rfl⟩) ?_))
  refine b_cons (s_expr (Ev.w (ev_call Fcr (hr.mono (by decide)) (av_cons (ev_var (i := 2) rfl) (av_cons (ev_var (i := 3) rfl) (av_cons ev_int av_nil))) ⟨lo, hi, 12, by omega, by omega, by omega, by omega, hle, h12, rfl, rfl⟩) ?_))
  have elen : dlen (dI xs) = some xs.length := by
    show some (xs.map PyData.int).length = _
    rw [List.length_map]
  refine b_cons (s_if' (k := false) (Tv.to (tv_gt (ev_len ml (ev_var (i := 0) rfl) elen) (ev_glob cM)) (decide_eq_false (by omega))) (fun h => nomatch h) (fun _ => b_nil ?_))
  refine b_cons (s_tup2 (i := 4) (j := 5) rfl sc_set_two.nd (ex_dat (Ev.w (ev_tuple mt (ev_lc (own := [("rule", 6)]) (lc_map (j := 6) R PyData.str (fun r => !decide (r = "end")) PyData.str sc_set_two.nd (iv_ofT (ev_var (i := 1) rfl) ⟨rfl, rfl, trivial⟩) (by have := hR.few; omega)
    (fun y hy s H C cl fp => tf_one (tv_neS (ev_var (i := 6) rfl) ev_str)) (fun y hy _ s H C cl fp => ev_var (i := 6) rfl)) rfl sc_set_two.nd (blkOk_by (N := N_set_two) (sc := defScope s_set_two) (by decide +kernel)))) (ex_dat (Ev.w (ev_sub (ev_len ml (ev_var (i := 0) rfl) elen) ev_int) ?_)))))
  refine b_cons (s_setL (i := 7) sc_set_two.nd (El.w (el_lc (own := [("i", 8)]) (lc_map (j := 8) (List.range xs.length) (fun j => PyData.int (0 + (j : Int))) (fun _ => true) (fun j => dP (pairsAt R (inn R) xs lo hi j)) sc_set_two.nd
    (iv_rng1 mr (Ev.w (ev_len ml (ev_var (i := 0) rfl) elen) ⟨_, rfl, by omega, by omega, rfl, by rw [Int.toNat_natCast]; rfl, trivial⟩)) (by rw [List.length_range]; omega) (fun j hj s H C cl fp => tf_nil ⟨rfl, rfl⟩)
    (fun j hj _ s H C cl fp => ev_call Fp (hr.mono (by decide)) (av_cons (ev_var (i := 0) rfl) (av_cons (ev_var (i := 1) rfl) (av_cons (ev_var (i := 4) rfl) (av_cons (ev_var (i := 2) rfl) (av_cons (ev_var (i := 3) rfl) (av_cons (ev_var (i := 8) rfl) av_nil)))))) ⟨xs, R, inn R, lo, hi, j, List.mem_range.mp hj, by omega, by omega, by omega, by omega, by omega, by rw [Int.zero_add]; rfl, rfl⟩)) rfl sc_set_two.nd (blkOk_by (N := N_set_two) (sc := defScope s_set_two) (by decide +kernel))) fun l => ?_))
  have ek : ((List.range xs.length).filter fun _ => true).map (fun j => dP (pairsAt R (inn R) xs lo hi j)) = dRows xs.length (sv (goB R (inn R) xs) (pairsAt R (inn R) xs lo hi) xs.length 0) := by
    rw [filter_yes, sv0]
    rfl
  rw [ek]
  show BvW _ _ (ρS R xs lo hi (.lst l (dRows xs.length (sv (goB R (inn R) xs) (pairsAt R (inn R) xs lo hi) xs.length 0))) .un .un .un .un) _
  -- sieved from behind
  refine b_cons (s_for rfl (iv_down mr ((av_cons (ev_sub (ev_var (i := 5) rfl) ev_int) (av_cons (ev_neg ev_int) (av_cons (ev_neg ev_int) av_nil))).w ⟨_, _, rfl, by omega, by omega, by decide, by decide, ?_⟩)))
  have hturns : ((xs.length : Int) - 1 - 1 - -1).toNat = xs.length - 1 := by omega
  rw [hturns]
  refine ⟨fun k ρ2 => ∃ u, ρ2 = ρS R xs lo hi (.lst l (dRows xs.length (sv (goB R (inn R) xs) (pairsAt R (inn R) xs lo hi) xs.length k))) u .un .un .un, fun _ _ _ => trivial, ⟨.un, rfl⟩, fun k d ρ2 hd ⟨u, e⟩ => ?_, fun ρ2 ⟨u, e⟩ => ?_⟩
  · subst e
    obtain ⟨hk1, rfl⟩ := rngC_get hd
    have hin : xs.length - 2 - k + 1 < xs.length := by omega
    have ei : (xs.length : Int) - 1 - 1 + (k : Int) * -1 = ((xs.length - 2 - k : Nat) : Int) := by omega
    rw [ei]
    generalize hgi : xs.length - 2 - k = i at hin
    have hrow : sv (goB R (inn R) xs) (pairsAt R (inn R) xs lo hi) xs.length k i = pairsAt R (inn R) xs lo hi i := by
      unfold sv
      rw [if_neg (by omega)]
    have hnxt : sv (goB R (inn R) xs) (pairsAt R (inn R) xs lo hi) xs.length k (i + 1) = gdT R (inn R) xs lo hi (i + 1) := by
      unfold sv
      rw [if_pos (by omega)]
    have eg : gdT R (inn R) xs lo hi i = (pairsAt R (inn R) xs lo hi i).filter fun p => (gdT R (inn R) xs lo hi (i + 1)).any (goB R (inn R) xs i p) := gd_step _ _ _ hin
    refine g_name (i := 8) sc_set_two.nd trivial ?_
    refine b_cons (s_setI (i := 7) (Ev.w (ev_lc (own := [("one", 9)]) (lc_map (j := 9) (pairsAt R (inn R) xs lo hi i) pr (fun p => (gdT R (inn R) xs lo hi (i + 1)).any (goB R (inn R) xs i p)) pr sc_set_two.nd
      (iv_of (ev_ixO (i := 7) rfl (ev_var (i := 8) rfl) (atI_nat (by rw [dRows_at (by omega), hrow]; rfl))) ⟨rfl, rfl, trivial⟩) (by have := hln0 i; omega)
      (fun p hp s H C cl fp => tf_one (Tv.to (tv_bool (ev_anyC (own := [("two", 10)]) (gdT R (inn R) xs lo hi (i + 1)) (fun _ => true) (fun q => goB R (inn R) xs i p q) (lc_map (j := 10) (gdT R (inn R) xs lo hi (i + 1)) pr _ _ sc_set_two.nd
        (iv_of (ev_ixO (i := 7) rfl (ev_add (ev_var (i := 8) rfl) ev_int) (at_is (j := i + 1) (by omega) (by rw [dRows_at (by omega), hnxt]; rfl))) ⟨rfl, rfl, trivial⟩) (by have := hln (i + 1); omega)
        (fun q hq s H C cl fp => tf_nil ⟨rfl, rfl⟩)
        (fun q hq _ s H C cl fp => ev_call Fg (hr.mono (by decide)) (av_cons (ev_var (i := 0) rfl) (av_cons (ev_var (i := 1) rfl) (av_cons (ev_var (i := 4) rfl) (av_cons (ev_var (i := 8) rfl) (av_cons (ev_var (i := 9) rfl) (av_cons (ev_var (i := 10) rfl) av_nil)))))) ⟨xs, R, inn R, i, p, q, hin, T.hx, hsm0 hp, hsm hq, rfl, rfl⟩)) rfl my sc_set_two.nd (blkOk_by (N := N_set_two) (sc := relS _ (defScope s_set_two)) (by decide +kernel)))) rfl))
      (fun p hp _ s H C cl fp => ev_var (i := 9) rfl)) rfl sc_set_two.nd (blkOk_by (N := N_set_two) (sc := defScope s_set_two) (by decide +kernel))) (Ev.w (ev_var (i := 8) rfl) ⟨l, _, _, i, rfl, rfl, ix_is rfl (by rw [dRows_len]; omega), ?_⟩)))
    refine b_nil ⟨.dat (.int i), ?_⟩
    have e4 : PyData.list (((pairsAt R (inn R) xs lo hi i).filter fun p => (gdT R (inn R) xs lo hi (i + 1)).any (goB R (inn R) xs i p)).map pr) = dP (gd (goB R (inn R) xs) (pairsAt R (inn R) xs lo hi) xs.length i) := by
      rw [← eg]
      rfl
    rw [e4, sv_set hin (by omega) (by omega)]
    rfl
  subst e
  rw [rngC_len, svn]
  refine b_freeze (i := 7) rfl ?_
  show BvW _ _ (ρS R xs lo hi (.dat (.list (dRows xs.length (gdT R (inn R) xs lo hi)))) u .un .un .un) _
  refine b_cons (s_if' (k := (gdT R (inn R) xs lo hi 0).isEmpty) (Tv.to (tv_not' (tv_truD (ev_ixL (ev_var (i := 7) rfl) ev_int (atI_nat (j := 0) (dRows_at hn0))) rfl)) ?_) (fun h1 => ?_) (fun h1 => b_nil ?_))
  · show (!(!((gdT R (inn R) xs lo hi 0).map pr).isEmpty)) = _
    rw [Bool.not_not]
    cases gdT R (inn R) xs lo hi 0 <;> rfl
  · refine b_cons (s_ret (Ev.w (ev_tup (av_cons ev_bl (av_cons ev_non av_nil))) ?_))
    show PyData.tuple [.bool false, .none] = setTwo R xs lo hi
    unfold setTwo
    rw [if_pos h1]
  have hne : gdT R (inn R) xs lo hi 0 ≠ [] := fun e => by
    rw [e] at h1
    cases h1
  refine b_cons (s_tup2 (i := 9) (j := 11) rfl sc_set_two.nd (ex_new (El.w (el_lst av_nil) fun L => ex_dat (Ev.w (ev_ixL (ev_var (i := 7) rfl) ev_int (atI_nat (j := 0) (dRows_at hn0))) ?_))))
  have hones : ∀ k, dInts (k + 1) (oneT R (inn R) xs lo hi) = dInts k (oneT R (inn R) xs lo hi) ++ [.int (oneT R (inn R) xs lo hi k)] := fun k => by
    unfold dInts
    rw [List.range_succ, List.map_append]
    rfl
  show BvW _ _ (ρS R xs lo hi (.dat (.list (dRows xs.length (gdT R (inn R) xs lo hi)))) u (.lst L (dInts 0 (oneT R (inn R) xs lo hi))) (.dat (dP (gdT R (inn R) xs lo hi 0))) .un) _
  refine b_cons (s_for rfl (iv_rng1 mr (Ev.w (ev_len ml (ev_var (i := 0) rfl) elen) ⟨_, rfl, by omega, by omega, ?_⟩)))
  rw [Int.toNat_natCast]
  refine ⟨fun k ρ2 => ∃ u v, ρ2 = ρS R xs lo hi (.dat (.list (dRows xs.length (gdT R (inn R) xs lo hi)))) u (.lst L (dInts k (oneT R (inn R) xs lo hi))) (.dat (dP (match k with
    | 0 => gdT R (inn R) xs lo hi 0
    | k + 1 => fs (thT R (inn R) xs lo hi k)))) v, fun _ _ _ => trivial, ⟨u, .un, rfl⟩, fun k d ρ2 hd ⟨u, v, e⟩ => ?_, fun ρ2 ⟨u, v, e⟩ => ?_⟩
  · subst e
    obtain ⟨hk1, rfl⟩ := rng_get hd
    rw [Int.zero_add]
    refine g_name (i := 8) sc_set_two.nd trivial ?_
    have hthn := th_ne (goB R (inn R) xs) (pairsAt R (inn R) xs lo hi) xs.length hne k hk1
    have hths : ∀ {p}, p ∈ thT R (inn R) xs lo hi k → SmP p := fun h => hsm (th_sub _ _ _ h)
    have hthl : (thT R (inn R) xs lo hi k).length ≤ 441 := th_len T.few k
    -- there
    refine b_cut (fun ρ2 => ρ2 = ρS R xs lo hi (.dat (.list (dRows xs.length (gdT R (inn R) xs lo hi)))) (.dat (.int k)) (.lst L (dInts k (oneT R (inn R) xs lo hi))) (.dat (dP (thT R (inn R) xs lo hi k))) v)
      (s_if' (k := decide ((0 : Int) < k)) (tv_gt (ev_var (i := 8) rfl) ev_int) (fun h2 => ?_) (fun h2 => ?_)) (fun ρ2 e => ?_)
    · cases k with
      | zero => exact absurd (of_decide_eq_true h2) (by decide)
      | succ k =>
        have e5 : ((k + 1 : Nat) : Int) - 1 = (k : Int) := by omega
        have hfs : ∀ {p}, p ∈ fs (thT R (inn R) xs lo hi k) → SmP p := fun h => hsm (th_sub _ _ _ (List.mem_filter.mp h).1)
        have hfl : (fs (thT R (inn R) xs lo hi k)).length ≤ 441 := Nat.le_trans (List.length_filter_le _ _) (th_len T.few k)
        refine b_cons (s_set (i := 11) sc_set_two.nd (Ev.w (ev_lc (own := [("two", 10)]) (lc_map (j := 10) (gdT R (inn R) xs lo hi (k + 1)) pr (fun q => (fs (thT R (inn R) xs lo hi k)).any fun p => goB R (inn R) xs k p q) pr sc_set_two.nd
          (iv_of (ev_ixL (ev_var (i := 7) rfl) (ev_var (i := 8) rfl) (atI_nat (dRows_at hk1))) ⟨rfl, rfl, trivial⟩) (by have := hln (k + 1); omega)
          (fun q hq s H C cl fp => tf_one (Tv.to (tv_bool (ev_anyC (own := [("pair", 12)]) (fs (thT R (inn R) xs lo hi k)) (fun _ => true) (fun p => goB R (inn R) xs k p q) (lc_map (j := 12) (fs (thT R (inn R) xs lo hi k)) pr _ _ sc_set_two.nd
            (iv_of (ev_var (i := 11) rfl) ⟨rfl, rfl, trivial⟩) (by omega)
            (fun p hp s H C cl fp => tf_nil ⟨rfl, rfl⟩)
            (fun p hp _ s H C cl fp => ev_call Fg (hr.mono (by decide)) (av_cons (ev_var (i := 0) rfl) (av_cons (ev_var (i := 1) rfl) (av_cons (ev_var (i := 4) rfl) (av_cons (ev_sub (ev_var (i := 8) rfl) ev_int) (av_cons (ev_var (i := 12) rfl) (av_cons (ev_var (i := 10) rfl) av_nil)))))) ⟨xs, R, inn R, k, p, q, hk1, T.hx, hfs hp, hsm hq, by rw [e5], rfl⟩)) rfl my sc_set_two.nd (blkOk_by (N := N_set_two) (sc := relS _ (defScope s_set_two)) (by decide +kernel)))) rfl))
          (fun q hq _ s H C cl fp => ev_var (i := 10) rfl)) rfl sc_set_two.nd (blkOk_by (N := N_set_two) (sc := defScope s_set_two) (by decide +kernel))) ?_))
        exact b_nil rfl
    · cases k with
      | zero => exact b_nil rfl
      | succ k => exact absurd (decide_eq_true (by omega : (0 : Int) < (k + 1 : Nat))) (by rw [h2]; decide)
    subst e
    have hmne : (thT R (inn R) xs lo hi k).map (·.1) ≠ [] := fun e => hthn (List.map_eq_nil_iff.mp e)
    refine b_cons (s_set (i := 13) sc_set_two.nd (Ev.w (ev_minI hmne rfl mn (Ev.to (ev_lc (own := [("pair", 12)]) (lc_map (j := 12) (thT R (inn R) xs lo hi k) pr (fun _ => true) (fun p => PyData.int p.1) sc_set_two.nd
      (iv_of (ev_var (i := 11) rfl) ⟨rfl, rfl, trivial⟩) (by omega) (fun p hp s H C cl fp => tf_nil ⟨rfl, rfl⟩) (fun p hp _ s H C cl fp => ev_ixT (ev_var (i := 12) rfl) ev_int (atI_nat (j := 0) rfl))) rfl sc_set_two.nd (blkOk_by (N := N_set_two) (sc := defScope s_set_two) (by decide +kernel))) (by rw [filter_yes, List.map_map]; rfl))) ?_))
    refine b_cons (s_app (i := 9) (Ev.w (ev_var (i := 13) rfl) ⟨L, _, rfl, by rw [dInts_len]; omega, ?_⟩))
    refine b_cons (s_set (i := 11) sc_set_two.nd (Ev.w (ev_lc (own := [("pair", 12)]) (lc_map (j := 12) (thT R (inn R) xs lo hi k) pr (fun p => decide (p.1 = oneT R (inn R) xs lo hi k)) pr sc_set_two.nd
      (iv_of (ev_var (i := 11) rfl) ⟨rfl, rfl, trivial⟩) (by omega) (fun p hp s H C cl fp => tf_one (tv_eq (ev_ixT (ev_var (i := 12) rfl) ev_int (atI_nat (j := 0) rfl)) (ev_var (i := 13) rfl))) (fun p hp _ s H C cl fp => ev_var (i := 12) rfl)) rfl sc_set_two.nd (blkOk_by (N := N_set_two) (sc := defScope s_set_two) (by decide +kernel))) ?_))
    refine b_nil ⟨.dat (.int k), .dat (.int (oneT R (inn R) xs lo hi k)), ?_⟩
    rw [hones k]
    rfl
  · subst e
    rw [rng_len]
    refine b_freeze (i := 9) rfl ?_
    refine b_cons (s_ret (Ev.w (ev_tup (av_cons ev_bl (av_cons (ev_tup (av_cons (ev_tuple mt (ev_var (i := 9) rfl)) (av_cons (ev_call Fo hr (av_cons (ev_var (i := 0) rfl) (av_cons (ev_var (i := 1) rfl) (av_cons (ev_var (i := 4) rfl) (av_cons (ev_var (i := 7) rfl) (av_cons (ev_var (i := 9) rfl) av_nil))))) ⟨R, inn R, xs, lo, hi, T, hne, rfl, rfl⟩) av_nil))) av_nil))) ?_))
    show _ = setTwo R xs lo hi
    unfold setTwo
    rw [h1]
    rfl
end
end K16
namespace K16
open PySem PySem.Spec PyProof.Rows L2 Pl
section
variable {P : Program} {w : World} {K : PySem.W.Frag} {mg : Str → Option Value} {base : Heap}
/-! the box of draws -/
def encB (a b : Int) (c : Nat) (cells : List Int) : List PyData := [.int a, .int b, .int c, .list (cells.map PyData.int)]
def Bxs (es : List PyData) : Prop := ∃ a b c cells, es = encB a b c cells
def pre_take : List PyData → List PyData → Prop := fun es ds => Bxs es ∧ ∃ m : Int, 0 < m ∧ m < 1073741824 ∧ ds = [.int m]
def po_take : List PyData → List PyData → PyData → List PyData → Prop := fun _ ds d es' => Bxs es' ∧ ∃ m r : Int, ds = [.int m] ∧ 0 ≤ r ∧ r < m ∧ d = .int r
theorem cell_at {cells : List Int} {c : Nat} (h : (c : Int) < cells.length) : ∃ z, atI (cells.map PyData.int) (c : Int) = some (.int z) := by
  have hc : c < cells.length := by omega
  refine ⟨cells[c], atI_nat (j := c) ?_⟩
  rw [List.getElem?_map, List.getElem?_eq_getElem hc]
  rfl
theorem ok_take {f : Addr} {fd : FuncData} (F : Fun K "_law_take" "_law_take" s_law_take f fd) (ml : mg "len" = none) (mi : mg "int" = none) : FnOk P w K mg base CX0 1 f fd ["box", "m"] (spBox K 2 pre_take po_take) := by
  refine fn_box F sc_law_take (fun cdv A outer s H E l es ds hr hp hl => ?_)
  obtain ⟨⟨a, b, c, cells, rfl⟩, m, hm0, hm1, rfl⟩ := hp
  refine b_cut (fun ρ1 => ∃ a b c u v, ρ1 = [.lst l (encB a b c cells), .dat (.int m), u, v, .un]) (s_if' (k := decide (b = 0)) (tv_eq (ev_ixO (i := 0) rfl ev_int (atI_nat (j := 1) rfl)) ev_int) (fun h1 => ?_) (fun h1 => b_nil ⟨a, b, c, .un, .un, rfl⟩)) (fun ρ1 e => ?_)
  · refine b_cons (s_set (i := 2) sc_law_take.nd (Ev.w (ev_ixO (i := 0) rfl ev_int (atI_nat (j := 2) rfl)) ?_))
    refine b_cons (s_set (i := 3) sc_law_take.nd (Ev.w ev_int ?_))
    refine b_cut (fun ρ1 => ∃ a b z, ρ1 = [.lst l (encB a b c cells), .dat (.int m), .dat (.int c), .dat (.int z), .un]) (s_if' (k := decide ((c : Int) < (cells.map PyData.int).length)) (tv_lt (ev_var (i := 2) rfl) (ev_len ml (ev_ixO (i := 0) rfl ev_int (atI_nat (j := 3) rfl)) rfl)) (fun h2 => ?_) (fun h2 => b_nil ⟨a, b, 0, rfl⟩)) (fun ρ1 e => ?_)
    · have h3 : (c : Int) < cells.length := by
        have := of_decide_eq_true h2
        rwa [List.length_map] at this
      obtain ⟨z, hz⟩ := cell_at h3
      refine b_cons (s_set (i := 3) sc_law_take.nd (Ev.w (ev_ixL (ev_ixO (i := 0) rfl ev_int (atI_nat (j := 3) rfl)) (ev_var (i := 2) rfl) hz) ?_))
      refine b_cons (s_setI (i := 0) (ew_if (Tv.w (tv_ge (ev_var (i := 3) rfl) (ev_pow ev_int ev_int ⟨by decide, by decide, by decide⟩)) ?_)))
      split
      · exact Ev.w ev_int (Ev.w ev_int ⟨l, _, 1, 1, rfl, rfl, ix_is (j := 1) rfl (by show 1 < 4; decide), b_nil ⟨a, 60, z, rfl⟩⟩)
      · exact Ev.w (ev_neg ev_int) (Ev.w ev_int ⟨l, _, 1, 1, rfl, rfl, ix_is (j := 1) rfl (by show 1 < 4; decide), b_nil ⟨a, -9, z, rfl⟩⟩)
    obtain ⟨a, b, z, rfl⟩ := e
    refine b_cons (s_setI (i := 0) (Ev.w (ev_add (ev_var (i := 2) rfl) ev_int) (Ev.w ev_int ⟨l, _, 2, 2, rfl, rfl, ix_is (j := 2) rfl (by show 2 < 4; decide), ?_⟩)))
    refine b_cons (s_setI (i := 0) (Ev.w (ev_var (i := 3) rfl) (Ev.w ev_int ⟨l, _, 0, 0, rfl, rfl, ix_is (j := 0) rfl (by show 0 < 4; decide), ?_⟩)))
    refine b_cons (s_if' (k := decide (b = 0)) (tv_eq (ev_ixO (i := 0) rfl ev_int (atI_nat (j := 1) rfl)) ev_int) (fun h4 => ?_) (fun h4 => ?_))
    · exact b_cons (s_ret (Ev.w ev_int ⟨encB z b (c + 1) cells, ⟨⟨z, b, c + 1, cells, rfl⟩, m, 0, rfl, by decide, hm0, rfl⟩, rfl⟩))
    · exact b_nil (b_nil ⟨z, b, c + 1, .dat (.int c), .dat (.int z), rfl⟩)
  obtain ⟨a, b, c, u, v, rfl⟩ := e
  refine b_cons (s_if' (k := decide (0 < b)) (tv_gt (ev_ixO (i := 0) rfl ev_int (atI_nat (j := 1) rfl)) ev_int) (fun h1 => ?_) (fun h1 => b_nil ?_))
  · refine b_cons (s_set (i := 4) sc_law_take.nd (Ev.w (ev_mod (ev_int1 mi (ev_ixO (i := 0) rfl ev_int (atI_nat (j := 0) rfl))) (ev_var (i := 1) rfl) hm0) ?_))
    refine b_cons (s_setI (i := 0) (Ev.w (ev_fdiv (ev_ixO (i := 0) rfl ev_int (atI_nat (j := 0) rfl)) (ev_var (i := 1) rfl) ⟨hm0, hm1⟩) (Ev.w ev_int ⟨l, _, 0, 0, rfl, rfl, ix_is (j := 0) rfl (by show 0 < 4; decide), ?_⟩)))
    refine b_cons (s_setI (i := 0) (ew_if (Tv.w (tv_gt (ev_ixO (i := 0) rfl ev_int (atI_nat (j := 0) rfl)) ev_int) ?_)))
    split
    · refine Ev.w (ev_sub (ev_ixO (i := 0) rfl ev_int (atI_nat (j := 1) rfl)) ev_int) (Ev.w ev_int ⟨l, _, 1, 1, rfl, rfl, ix_is (j := 1) rfl (by show 1 < 4; decide), ?_⟩)
      exact b_cons (s_ret (Ev.w (ev_var (i := 4) rfl) ⟨encB (a / m) (b - 1) c cells, ⟨⟨_, _, c, cells, rfl⟩, m, a % m, rfl, Int.emod_nonneg _ (by omega), Int.emod_lt_of_pos _ hm0, rfl⟩, rfl⟩))
    · refine Ev.w ev_int (Ev.w ev_int ⟨l, _, 1, 1, rfl, rfl, ix_is (j := 1) rfl (by show 1 < 4; decide), ?_⟩)
      exact b_cons (s_ret (Ev.w (ev_var (i := 4) rfl) ⟨encB (a / m) 0 c cells, ⟨⟨_, _, c, cells, rfl⟩, m, a % m, rfl, Int.emod_nonneg _ (by omega), Int.emod_lt_of_pos _ hm0, rfl⟩, rfl⟩))
  · refine b_cons (s_setI (i := 0) (Ev.w (ev_add (ev_ixO (i := 0) rfl ev_int (atI_nat (j := 1) rfl)) ev_int) (Ev.w ev_int ⟨l, _, 1, 1, rfl, rfl, ix_is (j := 1) rfl (by show 1 < 4; decide), ?_⟩)))
    refine b_cons (s_setI (i := 0) (Ev.w (ev_mod (ev_int1 mi (ev_add (ev_mul (ev_ixO (i := 0) rfl ev_int (atI_nat (j := 0) rfl)) ev_int (.inr ⟨by decide, by decide⟩)) (ev_mul ev_int (ev_add (ev_ixO (i := 0) rfl ev_int (atI_nat (j := 1) rfl)) ev_int) (.inl ⟨by decide, by decide⟩)))) ev_int) (Ev.w ev_int ⟨l, _, 0, 0, rfl, rfl, ix_is (j := 0) rfl (by show 0 < 4; decide), ?_⟩)))
    refine b_cons (s_ret (Ev.w (ev_mod (ev_mod (ev_int1 mi (ev_add (ev_fdiv (ev_ixO (i := 0) rfl ev_int (atI_nat (j := 0) rfl)) ev_int ⟨by decide, by decide⟩) (ev_ixO (i := 0) rfl ev_int (atI_nat (j := 0) rfl)))) ev_int) (ev_var (i := 1) rfl) hm0) ?_))
    exact ⟨_, ⟨⟨_, _, c, cells, rfl⟩, m, _, rfl, Int.emod_nonneg _ (by omega), Int.emod_lt_of_pos _ hm0, rfl⟩, rfl⟩
theorem ew_take {X : Cx} {k i : Nat} {m : Int} {l : Addr} {es : List PyData} {ρ : Rho} {y : Str} {px py pos : Pos} {e : Expr} {Q : PyData → Rho → Prop} (Ft : Fn X.prog X.w X.K X.mg X.base k "_law_take" ["box", "m"] (spBox X.K 2 pre_take po_take)) (hr : Room k X.A) (h0 : ρ[i]? = some (.lst l es)) (hb : Bxs es) (he : Ev X e ρ (.int m)) (hm0 : 0 < m) (hm1 : m < 1073741824)
    (q : ∀ r es', 0 ≤ r → r < m → Bxs es' → Q (.int r) (ρ.set i (.lst l es'))) (hN : X.N[i]? = some y := by rfl) (hv : Vis X.env.scope y := by first | exact Or.inl rfl | exact Or.inr (Or.inl rfl) | exact Or.inr (Or.inr rfl)) (hd : (y == ("__debug__" : Str)) = false := by decide) (hcd : (y == ("__classdict__" : Str)) = false := by decide)
    (hg : Gl X "_law_take" := by rfl) (hst : starEach [.Name y py, e] X.env = (false, eval (.Name y py) X.env) :: starEach [e] X.env := by rfl) (hst2 : starEach [e] X.env = (false, eval e X.env) :: starEach [] X.env := by rfl) (hpl : (backTo pos (starEach [e] X.env)).any (·.1) = false := by rfl) : EvW X (.Call (.Name "_law_take" px) [.Name y py, e] [] pos) ρ Q :=
  ew_callBox (i := i) Ft hr (Av.w (av_cons he av_nil hst2) ⟨l, es, h0, rfl, ⟨hb, m, hm0, hm1, rfl⟩, fun d es' ⟨hb', m', r, e1, h1, h2, e2⟩ => by
    cases e1
    subst e2
    exact q r es' h1 h2 hb'⟩) ⟨l, es, h0⟩ hN hv hd hcd hg (by decide) hst hpl
end
end K16
namespace K16
open PySem PySem.Spec PyProof.Rows L2 Pl
section
variable {P : Program} {w : World} {K : PySem.W.Frag} {mg : Str → Option Value} {base : Heap}
/-! the law's rules -/
theorem rulesL_up : ∀ {R : List Str}, R.Sublist rulesL → Rls R := fun {R} h => by
  have hp : rulesL.Pairwise fun a b => a.cps.toList < b.cps.toList := by decide +kernel
  have hr := hp.sublist h
  refine ⟨fun x hx => h.subset hx, ?_, h.length_le⟩
  clear h hp
  induction hr with
  | nil => intro p hp; cases hp
  | cons h1 h2 ih =>
    rename_i a r
    intro p hp
    cases r with
    | nil => cases hp
    | cons b r =>
      rcases List.mem_cons.mp hp with e | e
      · rw [e]
        exact h1 b List.mem_cons_self
      · exact ih p e
def pre_box0 : List PyData → List PyData → Prop := fun es ds => Bxs es ∧ ds = []
def po_rules : List PyData → List PyData → PyData → List PyData → Prop := fun _ _ d es' => Bxs es' ∧ ∃ R : List Str, R.Sublist rulesL ∧ d = dS R
theorem ok_lrules {f : Addr} {fd : FuncData} (F : Fun K "_law_rules" "_law_rules" s_law_rules f fd) (Ft : Fn P w K mg base 1 "_law_take" ["box", "m"] (spBox K 2 pre_take po_take)) (mt : mg "tuple" = none) : FnOk P w K mg base CX0 2 f fd ["box"] (spBox K 1 pre_box0 po_rules) := by
  refine fn_box F sc_law_rules (fun cdv A outer s H E l es ds hr hp hl => ?_)
  obtain ⟨hb, rfl⟩ := hp
  refine b_cons (s_set (i := 1) sc_law_rules.nd (Ev.w (ev_fz (el_lst (av_cons ev_str (av_cons ev_str (av_cons ev_str (av_cons ev_str (av_cons ev_str (av_cons ev_str (av_cons ev_str av_nil))))))))) ?_))
  show BvW _ _ [.lst l es, .dat (.list (rulesL.map PyData.str)), .un] _
  refine b_cons (s_ret (ew_tuple mt (ew_fz (el_of (own := [("name", 2)]) (lc_go (iv_of (ev_var (i := 1) rfl) ⟨by decide, fun i acc ρ2 => ∃ es2 R, Bxs es2 ∧ R.Sublist (rulesL.take i) ∧ acc = R.map PyData.str ∧ ρ2 = [.lst l es2, .dat (.list (rulesL.map PyData.str)), .un], fun _ _ _ _ => trivial, ⟨es, [], hb, List.nil_sublist _, rfl, rfl⟩, fun i d acc ρ2 hd ⟨es2, R, hb2, hs, h1, h2⟩ s H C cl fp => ?_, fun acc ρ2 ⟨es2, R, hb2, hs, h1, h2⟩ => ?_⟩)) rfl sc_law_rules.nd (blkOk_by (N := N_law_rules) (sc := defScope s_law_rules) (by decide +kernel))))))
  · subst h1
    subst h2
    rw [List.getElem?_map] at hd
    cases hx : rulesL[i]? with
    | none => rw [hx] at hd; cases hd
    | some x =>
      rw [hx] at hd
      cases hd
      have et : rulesL.take (i + 1) = rulesL.take i ++ [x] := by rw [List.take_add_one, hx] <;> rfl
      refine g_name (i := 2) sc_law_rules.nd (by simp) ?_
      intro s H C cl fp
      refine tf_one (tv_gtL (ew_take (i := 0) (l := l) (es := es2) Ft hr rfl hb2 ev_int (by decide) (by decide) fun r es3 h3 h4 hb3 => ⟨r, 0, rfl, ev_int, ?_⟩))
      split
      · intro s H C cl fp
        exact Ev.w (ev_var (i := 2) rfl) ⟨es3, R ++ [x], hb3, by rw [et]; exact hs.append (List.Sublist.refl _), by rw [List.map_append]; rfl, rfl⟩
      · exact ⟨es3, R, hb3, by rw [et]; exact hs.trans (List.sublist_append_left _ _), rfl, rfl⟩
  · subst h2
    rw [List.length_map, List.take_length] at hs
    exact ⟨acc, .inl rfl, es2, ⟨hb2, R, hs, by rw [h1]; rfl⟩, rfl⟩
/-! the law's given line -/
def pre_given : List PyData → List PyData → Prop := fun es ds => Bxs es ∧ ∃ m : Int, 0 < m ∧ m ≤ 1000 ∧ ds = [.int m]
def po_given : List PyData → List PyData → PyData → List PyData → Prop := fun _ ds d es' => Bxs es' ∧ ∃ (m : Int) (xs : List Int), ds = [.int m] ∧ 1 ≤ xs.length ∧ (xs.length : Int) ≤ m ∧ (∀ x ∈ xs, 40 ≤ x ∧ x ≤ 90) ∧ d = dI xs
theorem last_of {xs : List Int} (h : 1 ≤ xs.length) : ∃ z, z ∈ xs ∧ atI (xs.map PyData.int) (-1) = some (.int z) := by
  obtain ⟨ys, z, rfl⟩ : ∃ ys z, xs = ys ++ [z] := ⟨xs.dropLast, xs.getLast (List.ne_nil_of_length_pos h), (List.dropLast_concat_getLast _).symm⟩
  refine ⟨z, by simp, ?_⟩
  rw [List.map_append]
  exact atI_last _ _
theorem ok_lgiven {f : Addr} {fd : FuncData} (F : Fun K "_law_given" "_law_given" s_law_given f fd) (Ft : Fn P w K mg base 1 "_law_take" ["box", "m"] (spBox K 2 pre_take po_take)) (mt : mg "tuple" = none) (mr : mg "range" = none) (ma : mg "max" = none) (mi : mg "min" = none) : FnOk P w K mg base CX0 2 f fd ["box", "most"] (spBox K 2 pre_given po_given) := by
  refine fn_box F sc_law_given (fun cdv A outer s H E l es ds hr hp hl => ?_)
  obtain ⟨hb, m, hm0, hm1, rfl⟩ := hp
  refine b_cons (s_setL (i := 2) sc_law_given.nd (el_lst' (aw_cons (Qa := fun d ρ1 => ∃ z es2, d = .int z ∧ 40 ≤ z ∧ z ≤ 90 ∧ Bxs es2 ∧ ρ1 = [Sl.lst l es2, .dat (.int m), .un, .un])
    (ew_addR ev_int (ew_take (i := 0) (l := l) Ft hr rfl hb ev_int (by decide) (by decide) fun r es2 h1 h2 hb2 => ⟨r, rfl, 60 + r, es2, rfl, by omega, by omega, hb2, rfl⟩)) fun d ρ1 ⟨z, es2, e1, h1, h2, hb2, e2⟩ => aw_nil ⟨Nat.le_of_ble_eq_true rfl, fun L => ?_⟩)))
  subst e1
  subst e2
  refine b_cons (s_for rfl (iv_rng1 mr (ew_take (i := 0) (l := l) Ft hr rfl hb2 (ev_var (i := 1) rfl) hm0 (by omega) fun n es3 h3 h4 hb3 => ⟨n, rfl, by omega, by omega, fun k ρ2 => ∃ es4 xs u, Bxs es4 ∧ xs.length = k + 1 ∧ (∀ x ∈ xs, 40 ≤ x ∧ x ≤ 90) ∧ ρ2 = [.lst l es4, .dat (.int m), .lst L (xs.map PyData.int), u],
    fun _ _ _ => trivial, ⟨es3, [z], .un, hb3, rfl, fun x hx => by
      rw [List.mem_singleton.mp hx]
      exact ⟨h1, h2⟩, rfl⟩, fun k d ρ2 hd ⟨es4, xs, u, hb4, hlen, hxs, e⟩ => ?_, fun ρ2 ⟨es4, xs, u, hb4, hlen, hxs, e⟩ => ?_⟩)))
  · subst e
    obtain ⟨hk, rfl⟩ := rng_get hd
    refine g_name (i := 3) sc_law_given.nd trivial ?_
    obtain ⟨y, hy, hat⟩ := last_of (xs := xs) (by omega)
    have := hxs y hy
    refine b_cons (s_app (i := 2) (ew_max2 rfl ma (aw_two ev_int (ew_min2 rfl mi (aw_two ev_int (ew_subL (ew_addR (ev_ixO (i := 2) rfl (ev_neg ev_int) hat) (ew_take (i := 0) (l := l) Ft hr rfl hb4 ev_int (by decide) (by decide) fun r es5 h5 h6 hb5 => ⟨r, rfl, y + r, 4, rfl, ev_int, 90, y + r - 4, rfl, 40, _, rfl, L, _, rfl, by rw [List.length_map]; omega, ?_⟩))))))))
    refine b_nil ⟨es5, xs ++ [_], .dat _, hb5, by rw [List.length_append, hlen]; rfl, fun x hx => ?_, by rw [List.map_append]; rfl⟩
    rcases List.mem_append.mp hx with hx | hx
    · exact hxs x hx
    · rw [List.mem_singleton.mp hx]
      split <;> split <;> omega
  · subst e
    rw [rng_len] at hlen
    exact b_cons (s_ret (Ev.w (ev_tupleO (i := 2) mt rfl) ⟨es4, ⟨hb4, m, xs, rfl, by omega, by omega, hxs, rfl⟩, rfl⟩))
/-! the law's own words -/
def gapL (a b : Int) : Int := apI a b
theorem ok_lapart {f : Addr} {fd : FuncData} (F : Fun K "_law_apart" "_law_apart" s_law_apart f fd) (ma : mg "max" = none) (mi : mg "min" = none) : FnOk P w K mg base CX0 1 f fd ["a", "b"] (spPure K 2 fp_apart) := by
  refine fn_pure F sc_law_apart (fun cdv A outer s H E ds d hr hp hl => ?_)
  obtain ⟨a, b, rfl, rfl⟩ := hp
  refine b_cons (s_set (i := 2) sc_law_apart.nd (Ev.w (ev_sub (ev_max2 rfl ma (av_cons (ev_var (i := 0) rfl) (av_cons (ev_var (i := 1) rfl) av_nil))) (ev_min2 rfl mi (av_cons (ev_var (i := 0) rfl) (av_cons (ev_var (i := 1) rfl) av_nil)))) ?_))
  refine b_cons (s_while (fun k ρ1 => ∃ z : Int, 0 ≤ z ∧ z % 12 = apI a b ∧ k = z.toNat ∧ ρ1 = [.dat (.int a), .dat (.int b), .dat (.int z)]) _ ⟨_, ?_, ?_, rfl, rfl⟩ fun k ρ1 ⟨z, h0, h1, h2, e⟩ => ?_)
  · split <;> split <;> omega
  · unfold apI
    have e : ((if b > a then b else a) - if b < a then b else a) = (if a - b < 0 then -(a - b) else a - b) := by split <;> split <;> split <;> omega
    rw [e]
  · subst e
    refine Tv.w (tv_gt (ev_var (i := 2) rfl) ev_int) ?_
    by_cases h3 : 11 < z
    · rw [decide_eq_true h3, if_pos rfl]
      refine b_cons (s_set (i := 2) sc_law_apart.nd (Ev.w (ev_sub (ev_var (i := 2) rfl) ev_int) ?_))
      exact b_nil ⟨(z - 12).toNat, by omega, z - 12, by omega, by omega, rfl, rfl⟩
    · rw [decide_eq_false h3, if_neg Bool.false_ne_true]
      refine b_cons (s_ret (Ev.w (ev_var (i := 2) rfl) ?_))
      have e : z = apI a b := by omega
      rw [e]
end
end K16
namespace K16
open PySem PySem.Spec PyProof.Rows L2 Pl
section
variable {P : Program} {w : World} {K : PySem.W.Frag} {mg : Str → Option Value} {base : Heap}
theorem hereB_eq (R : List Str) (g h : Int) (l : Bool) : hereB R g h l = (!hC R g h && !hE R g h l && !hW R h) := by
  unfold hereB hereL
  cases hC R g h <;> cases hE R g h l <;> cases hW R h <;> rfl
theorem stepB_eq (R : List Str) (p q a b : Int) : stepB R p q a b = (!sC R a b && !sT R p q a b && !sP R p q a b && !sS R a b) := by
  unfold stepB stepL
  cases sC R a b <;> cases sT R p q a b <;> cases sP R p q a b <;> cases sS R a b <;> rfl
theorem black_white (h : Int) : decide (h % 12 ∈ ([1, 3, 6, 8, 10] : List Int)) = !decide (h % 12 ∈ whiteL) := by
  have h1 : 0 ≤ h % 12 := Int.emod_nonneg _ (by decide)
  have h2 : h % 12 < 12 := Int.emod_lt_of_pos _ (by decide)
  generalize h % 12 = z at *
  have : z = 0 ∨ z = 1 ∨ z = 2 ∨ z = 3 ∨ z = 4 ∨ z = 5 ∨ z = 6 ∨ z = 7 ∨ z = 8 ∨ z = 9 ∨ z = 10 ∨ z = 11 := by omega
  rcases this with e | e | e | e | e | e | e | e | e | e | e | e <;> subst e <;> decide
theorem pos_mul {a b : Int} : decide (0 < a * b) = ((decide (0 < a) && decide (0 < b)) || (decide (a < 0) && decide (b < 0))) := by
  rw [Bool.eq_iff_iff]
  simp only [decide_eq_true_eq, Bool.or_eq_true, Bool.and_eq_true]
  constructor
  · intro h
    rcases Int.lt_trichotomy a 0 with ha | ha | ha
    · refine .inr ⟨ha, ?_⟩
      rcases Int.lt_trichotomy b 0 with hb | hb | hb
      · exact hb
      · rw [hb, Int.mul_zero] at h
        omega
      · have := Int.mul_neg_of_neg_of_pos ha hb
        omega
    · rw [ha, Int.zero_mul] at h
      omega
    · refine .inl ⟨ha, ?_⟩
      rcases Int.lt_trichotomy b 0 with hb | hb | hb
      · have := Int.mul_neg_of_pos_of_neg ha hb
        omega
      · rw [hb, Int.mul_zero] at h
        omega
      · exact hb
  · rintro (⟨h1, h2⟩ | ⟨h1, h2⟩)
    · exact Int.mul_pos h1 h2
    · exact Int.mul_pos_of_neg_of_neg h1 h2
def fp_lhere : List PyData → PyData → Prop := fun ds d => ∃ (R : List Str) (g h : Int) (l : Bool), ds = [dS R, .int g, .int h, .bool l] ∧ d = .bool (hereB R g h l)
theorem ok_lhere {f : Addr} {fd : FuncData} (F : Fun K "_law_here" "_law_here" s_law_here f fd) (Fa : Fn P w K mg base 1 "_law_apart" ["a", "b"] (spPure K 2 fp_apart)) : FnOk P w K mg base CX0 2 f fd ["rules", "given", "h", "last"] (spPure K 4 fp_lhere) := by
  refine fn_pure F sc_law_here (fun cdv A outer s H E ds d hr hp hl => ?_)
  obtain ⟨R, g, h, l, rfl, rfl⟩ := hp
  refine b_cons (s_set (i := 4) sc_law_here.nd (Ev.w (ev_call Fa hr (av_cons (ev_var (i := 1) rfl) (av_cons (ev_var (i := 2) rfl) av_nil)) ⟨g, h, rfl, rfl⟩) ?_))
  refine b_cons (s_if' (k := hC R g h || hE R g h l) (tv_w (tw_or' (tv_w (tw_and' (tv_inS R ev_str (ev_var (i := 0) rfl)) fun _ => tw_and1 (tv_niI goodL (ev_var (i := 4) rfl) (ev_tup (av_cons ev_int (av_cons ev_int (av_cons ev_int (av_cons ev_int (av_cons ev_int (av_cons ev_int av_nil)))))))))) fun _ =>
    tw_or1 (tv_w (tw_and' (tv_inS R ev_str (ev_var (i := 0) rfl)) fun _ => tw_and' (tv_bool (ev_var (i := 3) rfl)) fun _ => tw_and1 (tv_ne (ev_var (i := 4) rfl) ev_int))))) (fun h1 => ?_) (fun h1 => b_nil ?_))
  · refine b_cons (s_ret (Ev.w ev_bl ?_))
    show PyData.bool false = .bool (hereB R g h l)
    rw [hereB_eq]
    revert h1
    cases hC R g h <;> cases hE R g h l <;> simp
  · refine b_cons (s_ret (Ev.w (ev_or (ev_niS R ev_str (ev_var (i := 0) rfl)) fun _ => ev_one (ev_niI [1, 3, 6, 8, 10] (ev_mod (ev_var (i := 2) rfl) ev_int) (ev_tup (av_cons ev_int (av_cons ev_int (av_cons ev_int (av_cons ev_int (av_cons ev_int av_nil)))))))) ?_))
    show PyData.bool (!decide _ || !decide (h % 12 ∈ ([1, 3, 6, 8, 10] : List Int))) = .bool (hereB R g h l)
    rw [hereB_eq, black_white]
    unfold hW
    revert h1
    cases hC R g h <;> cases hE R g h l <;> simp
theorem ok_lstep {f : Addr} {fd : FuncData} (F : Fun K "_law_step" "_law_step" s_law_step f fd) (Fa : Fn P w K mg base 1 "_law_apart" ["a", "b"] (spPure K 2 fp_apart)) (ma : mg "abs" = none) : FnOk P w K mg base CX0 2 f fd ["rules", "a", "b", "x", "y"] (spPure K 5 (fun ds d => ∃ (R : List Str) (p q a b : Int), ds = [dS R, .int p, .int q, .int a, .int b] ∧ d = .bool (stepB R p q a b))) := by
  refine fn_pure F sc_law_step (fun cdv A outer s H E ds d hr hp hl => ?_)
  obtain ⟨R, p, q, a, b, rfl, rfl⟩ := hp
  refine b_cons (s_par3 (i := 5) (j := 6) (l := 7) rfl sc_law_step.nd (ex_dat (Ev.w (ev_call Fa hr (av_cons (ev_var (i := 2) rfl) (av_cons (ev_var (i := 4) rfl) av_nil)) ⟨q, b, rfl, rfl⟩) (ex_dat (Ev.w (ev_sub (ev_var (i := 2) rfl) (ev_var (i := 1) rfl)) (ex_dat (Ev.w (ev_sub (ev_var (i := 4) rfl) (ev_var (i := 3) rfl)) ?_)))))))
  refine b_cons (s_if' (k := sS R a b || sC R a b) (tv_w (tw_or' (tv_w (tw_and' (tv_inS R ev_str (ev_var (i := 0) rfl)) fun _ => tw_and1 (tv_eq (ev_var (i := 7) rfl) ev_int))) fun _ => tw_or1 (tv_w (tw_and' (tv_inS R ev_str (ev_var (i := 0) rfl)) fun _ => tw_and' (tv_gt (ev_abs ma (ev_var (i := 7) rfl)) ev_int) fun _ => tw_and1 (tv_ne (ev_abs ma (ev_var (i := 7) rfl)) ev_int))))) (fun h1 => ?_) (fun h1 => b_nil ?_))
  · refine b_cons (s_ret (Ev.w ev_bl ?_))
    show PyData.bool false = .bool (stepB R p q a b)
    rw [stepB_eq]
    revert h1
    cases sS R a b <;> cases sC R a b <;> simp
  refine b_cons (s_if' (k := decide (apI q b ∈ ([0, 7] : List Int)) && (decide (("contrary" : Str) ∈ R) && ((decide (0 < q - p) && decide (0 < b - a)) || (decide (q - p < 0) && decide (b - a < 0))))) (tv_w (tw_and' (tv_inI [0, 7] (ev_var (i := 5) rfl) (ev_tup (av_cons ev_int (av_cons ev_int av_nil)))) fun _ => tw_and' (tv_inS R ev_str (ev_var (i := 0) rfl)) fun _ => tw_and1 (tv_w (tw_or' (tv_w (tw_and' (tv_gt (ev_var (i := 6) rfl) ev_int) fun _ => tw_and1 (tv_gt (ev_var (i := 7) rfl) ev_int))) fun _ => tw_or1 (tv_w (tw_and' (tv_lt (ev_var (i := 6) rfl) ev_int) fun _ => tw_and1 (tv_lt (ev_var (i := 7) rfl) ev_int))))))) (fun h2 => ?_) (fun h2 => b_nil ?_))
  · refine b_cons (s_ret (Ev.w ev_bl ?_))
    show PyData.bool false = .bool (stepB R p q a b)
    rw [stepB_eq]
    rw [← pos_mul] at h2
    have h3 : sT R p q a b = true := by
      unfold sT
      simp only [Bool.and_eq_true] at h2 ⊢
      exact ⟨h2.2.1, h2.2.2, h2.1⟩
    rw [h3]
    simp
  · refine b_cons (s_ret (Ev.w (ev_not (ev_and (ev_inS R ev_str (ev_var (i := 0) rfl)) fun _ => ev_and (ev_inI [0, 7] (ev_var (i := 5) rfl) (ev_tup (av_cons ev_int (av_cons ev_int av_nil)))) fun _ => ev_and (ev_ne (ev_var (i := 6) rfl) ev_int) fun _ => ev_and (ev_ne (ev_var (i := 7) rfl) ev_int) fun _ => ev_one (ev_eq (ev_call Fa hr (av_cons (ev_var (i := 1) rfl) (av_cons (ev_var (i := 3) rfl) av_nil)) ⟨p, a, rfl, rfl⟩) (ev_var (i := 5) rfl)))) ?_))
    show PyData.bool (!(decide (("parallel" : Str) ∈ R) && (decide (apI q b ∈ ([0, 7] : List Int)) && (!decide (q - p = 0) && (!decide (b - a = 0) && decide (apI p a = apI q b)))))) = .bool (stepB R p q a b)
    rw [stepB_eq]
    rw [← pos_mul] at h2
    have h3 : sT R p q a b = false := by
      unfold sT
      rw [← h2]
      cases decide (("contrary" : Str) ∈ R) <;> cases decide (apI q b ∈ ([0, 7] : List Int)) <;> cases decide (0 < (q - p) * (b - a)) <;> rfl
    have h4 : sS R a b = false ∧ sC R a b = false := by
      revert h1
      cases sS R a b <;> cases sC R a b <;> simp
    rw [h3, h4.1, h4.2]
    unfold sP
    cases decide (("parallel" : Str) ∈ R) <;> cases decide (apI q b ∈ ([0, 7] : List Int)) <;> cases decide (q - p = 0) <;> cases decide (b - a = 0) <;> cases decide (apI p a = apI q b) <;> rfl
end
end K16
namespace K16
open PySem PySem.Spec PyProof.Rows L2 Pl
section
variable {P : Program} {w : World} {K : PySem.W.Frag} {mg : Str → Option Value} {base : Heap}
theorem ok_lpairs {f : Addr} {fd : FuncData} (F : Fun K "_law_pairs" "_law_pairs" s_law_pairs f fd) (Fh : Fn P w K mg base 2 "_law_here" ["rules", "given", "h", "last"] (spPure K 4 fp_lhere)) (ml : mg "len" = none) (mr : mg "range" = none) : FnOk P w K mg base CX0 3 f fd ["given", "rules", "inner", "low", "high", "i"] (spPure K 6 fp_pairs) := by
  refine fn_pure F sc_law_pairs (fun cdv A outer s H E ds d hr hp hl => ?_)
  obtain ⟨xs, R, I, lo, hi, i, hi1, hi2, h1, h2, h3, h4, rfl, rfl⟩ := hp
  refine b_cons (s_setL (i := 6) sc_law_pairs.nd (El.w (el_lst av_nil) fun L => ?_))
  refine b_cons (s_setLc (i := 7) (own := [("h", 8)]) rfl sc_law_pairs.nd (blkOk_by (N := N_law_pairs) (sc := defScope s_law_pairs) (by decide +kernel)) (LcW.imp (lc_map (j := 8) (rI lo (hi + 1 - lo).toNat) PyData.int (fun h => hereB R (at0 xs i) h (isLast xs i)) PyData.int sc_law_pairs.nd
    (iv_rng2 mr ((av_cons (ev_var (i := 3) rfl) (av_cons (ev_add (ev_var (i := 4) rfl) ev_int) av_nil)).w ⟨lo, hi + 1, rfl, by omega, by omega, by omega, by omega, rfl, rng_rI _ _, trivial⟩)) (by rw [rI_len]; omega)
    (fun y hy s H C cl fp => tf_one (tv_bool (ev_call Fh hr (av_cons (ev_var (i := 1) rfl) (av_cons (ev_ixT (ev_var (i := 0) rfl) (ev_var (i := 5) rfl) (at_int hi1)) (av_cons (ev_var (i := 8) rfl) (av_cons (ev_eq (ev_var (i := 5) rfl) (ev_sub (ev_len ml (ev_var (i := 0) rfl) rfl) ev_int)) av_nil)))) ⟨R, at0 xs i, y, _, rfl, by rw [List.length_map]; rfl⟩)))
    (fun y hy _ s H C cl fp => ev_var (i := 8) rfl)) fun ds ρ1 ⟨e1, e2⟩ l => ?_))
  subst e1
  subst e2
  refine b_freeze (i := 7) rfl ?_
  show BvW _ _ [.dat (dI xs), .dat (dS R), .dat (dS I), .dat (.int lo), .dat (.int hi), .dat (.int i), .lst L [], .dat (.list ((goodH R xs lo hi i).map PyData.int)), .un, .un, .un] _
  have hlen : (goodH R xs lo hi i).length ≤ 21 := Nat.le_trans (goodH_len R xs lo hi i) (by omega)
  refine b_cons (s_for rfl (iv_of (ev_var (i := 7) rfl) ⟨fun k ρ2 => ∃ u, ρ2 = [.dat (dI xs), .dat (dS R), .dat (dS I), .dat (.int lo), .dat (.int hi), .dat (.int i), .lst L ((((goodH R xs lo hi i).take k).flatMap (under I (goodH R xs lo hi i))).map pr), .dat (.list ((goodH R xs lo hi i).map PyData.int)), .un, u, .un],
    fun _ _ _ => trivial, ⟨.un, rfl⟩, fun k d ρ2 hd ⟨u, e⟩ => ?_, fun ρ2 ⟨u, e⟩ => ?_⟩))
  · subst e
    rw [List.getElem?_map] at hd
    cases ha : (goodH R xs lo hi i)[k]? with
    | none => rw [ha] at hd; cases hd
    | some a =>
      rw [ha] at hd
      cases hd
      refine g_name (i := 9) sc_law_pairs.nd trivial ?_
      refine b_cons (s_ext (i := 6) (El.w (el_lc (own := [("y", 10)]) (lc_map (j := 10) (goodH R xs lo hi i) PyData.int (fun b => decide (b ≤ a) && hereB I a b false) (fun b => pr (a, b)) sc_law_pairs.nd (iv_of (ev_var (i := 7) rfl) ⟨rfl, rfl, trivial⟩) (by omega)
        (fun y hy s H C cl fp => tf_one (tv_w (tw_and' (tv_le (ev_var (i := 10) rfl) (ev_var (i := 9) rfl)) fun _ => tw_and1 (tv_bool (ev_call Fh hr (av_cons (ev_var (i := 2) rfl) (av_cons (ev_var (i := 9) rfl) (av_cons (ev_var (i := 10) rfl) (av_cons ev_bl av_nil)))) ⟨I, a, y, false, rfl, rfl⟩)))))
        (fun y hy _ s H C cl fp => ev_tup (av_cons (ev_var (i := 9) rfl) (av_cons (ev_var (i := 10) rfl) av_nil)))) rfl sc_law_pairs.nd (blkOk_by (N := N_law_pairs) (sc := defScope s_law_pairs) (by decide +kernel))) ⟨L, _, rfl, ?_, ?_⟩))
      · rw [List.length_map, List.length_map]
        have h5 := flat_len I (goodH R xs lo hi i) ((goodH R xs lo hi i).take k)
        have h6 := List.length_filter_le (fun b => decide (b ≤ a) && hereB I a b false) (goodH R xs lo hi i)
        have h7 : ((goodH R xs lo hi i).take k).length ≤ 21 := Nat.le_trans (List.length_take_le _ _) (by have := (List.getElem?_eq_some_iff.mp ha).1; omega)
        have h8 := Nat.mul_le_mul h7 hlen
        omega
      · refine b_nil ⟨.dat (.int a), ?_⟩
        have e3 : ((goodH R xs lo hi i).take (k + 1)).flatMap (under I (goodH R xs lo hi i)) = ((goodH R xs lo hi i).take k).flatMap (under I (goodH R xs lo hi i)) ++ under I (goodH R xs lo hi i) a := by
          rw [List.take_add_one, ha, List.flatMap_append]
          simp
        rw [e3, List.map_append]
        have e4 : (under I (goodH R xs lo hi i) a).map pr = ((goodH R xs lo hi i).filter fun b => decide (b ≤ a) && hereB I a b false).map fun b => pr (a, b) := by
          unfold under
          rw [List.map_map]
          rfl
        rw [e4]
        rfl
  · subst e
    rw [List.length_map, List.take_length]
    exact b_freeze (i := 6) rfl (b_cons (s_ret (Ev.w (ev_var (i := 6) rfl) rfl)))
def fp_lstep : List PyData → PyData → Prop := fun ds d => ∃ (R : List Str) (p q a b : Int), ds = [dS R, .int p, .int q, .int a, .int b] ∧ d = .bool (stepB R p q a b)
def fp_lgo : List PyData → PyData → Prop := fun ds d => ∃ (xs : List Int) (R I : List Str) (i : Nat) (p q : Pr), i + 1 < xs.length ∧ ds = [dI xs, dS R, dS I, .int i, pr p, pr q] ∧ d = .bool (goB R I xs i p q)
theorem ok_lgo {f : Addr} {fd : FuncData} (F : Fun K "_law_goes" "_law_goes" s_law_goes f fd) (Fs : Fn P w K mg base 2 "_law_step" ["rules", "a", "b", "x", "y"] (spPure K 5 fp_lstep)) : FnOk P w K mg base CX0 3 f fd ["given", "rules", "inner", "i", "p", "q"] (spPure K 6 fp_lgo) := by
  refine fn_pure F sc_law_goes (fun cdv A outer s H E ds d hr hp hl => ?_)
  obtain ⟨xs, R, I, i, p, q, hi, rfl, rfl⟩ := hp
  have at1 : atI (xs.map PyData.int) ((i : Int) + 1) = some (.int (at0 xs (i + 1))) := by
    rw [show ((i : Int) + 1) = ((i + 1 : Nat) : Int) by omega]
    exact at_int hi
  have p0 : atI [PyData.int p.1, .int p.2] 0 = some (.int p.1) := atI_nat (j := 0) rfl
  have p1 : atI [PyData.int p.1, .int p.2] 1 = some (.int p.2) := atI_nat (j := 1) rfl
  have q0 : atI [PyData.int q.1, .int q.2] 0 = some (.int q.1) := atI_nat (j := 0) rfl
  have q1 : atI [PyData.int q.1, .int q.2] 1 = some (.int q.2) := atI_nat (j := 1) rfl
  refine b_cons (s_if' (k := !stepB R (at0 xs i) (at0 xs (i + 1)) p.1 q.1 || !stepB R (at0 xs i) (at0 xs (i + 1)) p.2 q.2) (tv_w (tw_or' (tv_not' (tv_bool (ev_call Fs hr (av_cons (ev_var (i := 1) rfl) (av_cons (ev_ixT (ev_var (i := 0) rfl) (ev_var (i := 3) rfl) (at_int (by omega))) (av_cons (ev_ixT (ev_var (i := 0) rfl) (ev_add (ev_var (i := 3) rfl) ev_int) at1) (av_cons (ev_ixT (ev_var (i := 4) rfl) ev_int p0) (av_cons (ev_ixT (ev_var (i := 5) rfl) ev_int q0) av_nil))))) ⟨R, _, _, p.1, q.1, rfl, rfl⟩))) fun _ =>
    tw_or1 (tv_not' (tv_bool (ev_call Fs hr (av_cons (ev_var (i := 1) rfl) (av_cons (ev_ixT (ev_var (i := 0) rfl) (ev_var (i := 3) rfl) (at_int (by omega))) (av_cons (ev_ixT (ev_var (i := 0) rfl) (ev_add (ev_var (i := 3) rfl) ev_int) at1) (av_cons (ev_ixT (ev_var (i := 4) rfl) ev_int p1) (av_cons (ev_ixT (ev_var (i := 5) rfl) ev_int q1) av_nil))))) ⟨R, _, _, p.2, q.2, rfl, rfl⟩))))) (fun h1 => ?_) (fun h1 => b_nil ?_))
  · refine b_cons (s_ret (Ev.w ev_bl ?_))
    show PyData.bool false = .bool (goB R I xs i p q)
    unfold goB
    revert h1
    cases stepB R (at0 xs i) (at0 xs (i + 1)) p.1 q.1 <;> cases stepB R (at0 xs i) (at0 xs (i + 1)) p.2 q.2 <;> simp
  · refine b_cons (s_ret (Ev.w (ev_call Fs hr (av_cons (ev_var (i := 2) rfl) (av_cons (ev_ixT (ev_var (i := 4) rfl) ev_int p0) (av_cons (ev_ixT (ev_var (i := 5) rfl) ev_int q0) (av_cons (ev_ixT (ev_var (i := 4) rfl) ev_int p1) (av_cons (ev_ixT (ev_var (i := 5) rfl) ev_int q1) av_nil))))) ⟨I, p.1, q.1, p.2, q.2, rfl, rfl⟩) ?_))
    show PyData.bool (stepB I p.1 q.1 p.2 q.2) = .bool (goB R I xs i p q)
    unfold goB
    revert h1
    cases stepB R (at0 xs i) (at0 xs (i + 1)) p.1 q.1 <;> cases stepB R (at0 xs i) (at0 xs (i + 1)) p.2 q.2 <;> simp
/-! lists against the empty list -/
theorem lay_pairs : ∀ l : List Pr, PyData.canLayAll0 (l.map pr) = true
  | [] => rfl
  | x :: r => by
    rw [List.map_cons]
    simp only [PyData.canLayAll0, lay_pairs r, Bool.and_true]
    rfl
theorem depth_pairs : ∀ l : List Pr, PyData.depthAll (l.map pr) ≤ 2
  | [] => by simp [PyData.depthAll]
  | x :: r => by
    rw [List.map_cons]
    have := depth_pairs r
    simp only [PyData.depthAll]
    have : (pr x).depth ≤ 2 := by simp [pr, PyData.depth, PyData.depthAll]
    omega
theorem shaped_dP (l : List Pr) : SeqAt.shaped (dP l) = true := by
  unfold SeqAt.shaped dP
  have h1 := lay_pairs l
  have h2 := depth_pairs l
  simp only [PyData.canLay0, PyData.depth, h1, Bool.true_and]
  exact decide_eq_true (by omega)
theorem lay_ones {α : Type} : ∀ l : List α, PyData.canLayAll0 (l.map fun _ => PyData.int 1) = true
  | [] => rfl
  | x :: r => by
    rw [List.map_cons]
    simp only [PyData.canLayAll0, lay_ones r, Bool.and_true]
    rfl
theorem depth_ones {α : Type} : ∀ l : List α, PyData.depthAll (l.map fun _ => PyData.int 1) ≤ 1
  | [] => by simp [PyData.depthAll]
  | x :: r => by
    rw [List.map_cons]
    have := depth_ones r
    simp only [PyData.depthAll, PyData.depth]
    omega
theorem shaped_ones {α : Type} (l : List α) : SeqAt.shaped (.list (l.map fun _ => PyData.int 1)) = true := by
  unfold SeqAt.shaped
  have h1 := lay_ones l
  have h2 := depth_ones l
  simp only [PyData.canLay0, PyData.depth, h1, Bool.true_and]
  exact decide_eq_true (by omega)
theorem shaped_nil : SeqAt.shaped (.list []) = true := by decide +kernel
theorem eqv_nil (l : List PyData) : PyData.eqv (.list l) (.list []) = l.isEmpty := by
  cases l <;> simp [PyData.eqv, PyData.eqvAll]
theorem ones_any (l : List Pr) (p : Pr → Bool) : (!PyData.eqv (.list ((l.filter p).map fun _ => PyData.int 1)) (.list [])) = l.any p := by
  rw [eqv_nil]
  induction l with
  | nil => rfl
  | cons x r ih =>
    rw [List.any_cons, ← ih]
    cases hp : p x <;> simp [hp]
end
end K16
namespace K16
open PySem PySem.Spec PyProof.Rows L2 Pl
section
variable {P : Program} {w : World} {K : PySem.W.Frag} {mg : Str → Option Value} {base : Heap}
/-! _law_two -/
def lawTwo (R : List Str) (xs : List Int) (lo hi : Int) : PyData :=
  if (gdT R (inn R) xs lo hi 0).isEmpty = true then .none
  else .tuple [.tuple (dInts xs.length (oneT R (inn R) xs lo hi)), .tuple (dInts xs.length fun j => (outT R (inn R) xs lo hi j).2)]
def fp_ltwo : List PyData → PyData → Prop := fun ds d => ∃ (R : List Str) (xs : List Int) (lo hi : Int), R.length ≤ 7 ∧ Two R (inn R) xs lo hi ∧ ds = [dI xs, dS R, .int lo, .int hi] ∧ d = lawTwo R xs lo hi
abbrev ρL (R : List Str) (xs : List Int) (lo hi : Int) (rows i one there least kept other last : Sl) : Rho := [.dat (dI xs), .dat (dS R), .dat (.int lo), .dat (.int hi), .dat (dS (inn R)), .dat (.int (xs.length : Int)), .un, rows, i, .un, .un, one, there, least, kept, other, last]
theorem atI_lastInts {n : Nat} {f : Nat → Int} : atI (dInts (n + 1) f) (-1) = some (.int (f n)) := by
  unfold dInts
  rw [List.range_succ, List.map_append]
  exact atI_last _ _
theorem dInts_succ {n : Nat} {f : Nat → Int} : dInts (n + 1) f = dInts n f ++ [.int (f n)] := by
  unfold dInts
  rw [List.range_succ, List.map_append]
  rfl
theorem ok_ltwo {f : Addr} {fd : FuncData} (F : Fun K "_law_two" "_law_two" s_law_two f fd) (Fp : Fn P w K mg base 3 "_law_pairs" ["given", "rules", "inner", "low", "high", "i"] (spPure K 6 fp_pairs))
    (Fg : Fn P w K mg base 3 "_law_goes" ["given", "rules", "inner", "i", "p", "q"] (spPure K 6 fp_lgo))
    (ml : mg "len" = none) (mr : mg "range" = none) (mn : mg "min" = none) (mt : mg "tuple" = none) :
    FnOk P w K mg base CX0 4 f fd ["given", "rules", "low", "high"] (spPure K 4 fp_ltwo) := by
  refine fn_pure F sc_law_two (fun cdv A outer s H E ds d hr hp hl => ?_)
  obtain ⟨R, xs, lo, hi, hR, T, rfl, rfl⟩ := hp
  have hn0 := T.n0
  have hn1 := T.n1
  have hlo := T.lo0
  have hhi := T.hi1
  have hle := T.le
  have hfew := T.few
  have hun := hr.units
  have hln0 : ∀ i, (pairsAt R (inn R) xs lo hi i).length ≤ 441 := fun i => pairs_len T.few
  have hln : ∀ i, (gdT R (inn R) xs lo hi i).length ≤ 441 := fun i => gd_len (pairs_len T.few)
  have elen : dlen (dI xs) = some xs.length := by
    show some (xs.map PyData.int).length = _
    rw [List.length_map]
  refine b_cons (s_tup2 (i := 4) (j := 5) rfl sc_law_two.nd (ex_dat (Ev.w (ev_tuple mt (ev_lc (own := [("rule", 6)]) (lc_map (j := 6) R PyData.str (fun r => !decide (r = "end")) PyData.str sc_law_two.nd (iv_ofT (ev_var (i := 1) rfl) ⟨rfl, rfl, trivial⟩) (by omega)
    (fun y hy s H C cl fp => tf_one (tv_neS (ev_var (i := 6) rfl) ev_str)) (fun y hy _ s H C cl fp => ev_var (i := 6) rfl)) rfl sc_law_two.nd (blkOk_by (N := N_law_two) (sc := defScope s_law_two) (by decide +kernel)))) (ex_dat (Ev.w (ev_len ml (ev_var (i := 0) rfl) elen) ?_)))))
  refine b_cons (s_setL (i := 7) sc_law_two.nd (El.w (el_lc (own := [("i", 8)]) (lc_map (j := 8) (List.range xs.length) (fun j => PyData.int (0 + (j : Int))) (fun _ => true) (fun j => dP (pairsAt R (inn R) xs lo hi j)) sc_law_two.nd
    (iv_rng1 mr (Ev.w (ev_var (i := 5) rfl) ⟨_, rfl, by omega, by omega, rfl, by rw [Int.toNat_natCast]; rfl, trivial⟩)) (by rw [List.length_range]; omega) (fun j hj s H C cl fp => tf_nil ⟨rfl, rfl⟩)
    (fun j hj _ s H C cl fp => ev_call Fp hr (av_cons (ev_var (i := 0) rfl) (av_cons (ev_var (i := 1) rfl) (av_cons (ev_var (i := 4) rfl) (av_cons (ev_var (i := 2) rfl) (av_cons (ev_var (i := 3) rfl) (av_cons (ev_var (i := 8) rfl) av_nil)))))) ⟨xs, R, inn R, lo, hi, j, List.mem_range.mp hj, by omega, by omega, by omega, by omega, by omega, by rw [Int.zero_add]; rfl, rfl⟩)) rfl sc_law_two.nd (blkOk_by (N := N_law_two) (sc := defScope s_law_two) (by decide +kernel))) fun l => ?_))
  have ek : ((List.range xs.length).filter fun _ => true).map (fun j => dP (pairsAt R (inn R) xs lo hi j)) = dRows xs.length (sv (goB R (inn R) xs) (pairsAt R (inn R) xs lo hi) xs.length 0) := by
    rw [filter_yes, sv0]
    rfl
  rw [ek]
  show BvW _ _ (ρL R xs lo hi (.lst l (dRows xs.length (sv (goB R (inn R) xs) (pairsAt R (inn R) xs lo hi) xs.length 0))) .un .un .un .un .un .un .un) _
  -- sieved from behind
  refine b_cons (s_for rfl (iv_down mr ((av_cons (ev_sub (ev_var (i := 5) rfl) ev_int) (av_cons (ev_neg ev_int) (av_cons (ev_neg ev_int) av_nil))).w ⟨_, _, rfl, by omega, by omega, by decide, by decide, ?_⟩)))
  have hturns : ((xs.length : Int) - 2 - -1).toNat = xs.length - 1 := by omega
  rw [hturns]
  refine ⟨fun k ρ2 => ∃ u, ρ2 = ρL R xs lo hi (.lst l (dRows xs.length (sv (goB R (inn R) xs) (pairsAt R (inn R) xs lo hi) xs.length k))) u .un .un .un .un .un .un, fun _ _ _ => trivial, ⟨.un, rfl⟩, fun k d ρ2 hd ⟨u, e⟩ => ?_, fun ρ2 ⟨u, e⟩ => ?_⟩
  · subst e
    obtain ⟨hk1, rfl⟩ := rngC_get hd
    have hin : xs.length - 2 - k + 1 < xs.length := by omega
    have ei : (xs.length : Int) - 2 + (k : Int) * -1 = ((xs.length - 2 - k : Nat) : Int) := by omega
    rw [ei]
    generalize hgi : xs.length - 2 - k = i at hin
    have hrow : sv (goB R (inn R) xs) (pairsAt R (inn R) xs lo hi) xs.length k i = pairsAt R (inn R) xs lo hi i := by
      unfold sv
      rw [if_neg (by omega)]
    have hnxt : sv (goB R (inn R) xs) (pairsAt R (inn R) xs lo hi) xs.length k (i + 1) = gdT R (inn R) xs lo hi (i + 1) := by
      unfold sv
      rw [if_pos (by omega)]
    have eg : gdT R (inn R) xs lo hi i = (pairsAt R (inn R) xs lo hi i).filter fun p => (gdT R (inn R) xs lo hi (i + 1)).any (goB R (inn R) xs i p) := gd_step _ _ _ hin
    refine g_name (i := 8) sc_law_two.nd trivial ?_
    refine b_cons (s_setI (i := 7) (Ev.w (ev_lc (own := [("p", 9)]) (lc_map (j := 9) (pairsAt R (inn R) xs lo hi i) pr (fun p => (gdT R (inn R) xs lo hi (i + 1)).any (goB R (inn R) xs i p)) pr sc_law_two.nd
      (iv_of (ev_ixO (i := 7) rfl (ev_var (i := 8) rfl) (atI_nat (by rw [dRows_at (by omega), hrow]; rfl))) ⟨rfl, rfl, trivial⟩) (by have := hln0 i; omega)
      (fun p hp s H C cl fp => tf_one (Tv.to (tv_neD (by exact hun) (ev_lc (own := [("q", 10)]) (lc_map (j := 10) (gdT R (inn R) xs lo hi (i + 1)) pr (goB R (inn R) xs i p) (fun _ => PyData.int 1) sc_law_two.nd
        (iv_of (ev_ixO (i := 7) rfl (ev_add (ev_var (i := 8) rfl) ev_int) (at_is (j := i + 1) (by omega) (by rw [dRows_at (by omega), hnxt]; rfl))) ⟨rfl, rfl, trivial⟩) (by have := hln (i + 1); omega)
        (fun q hq s H C cl fp => tf_one (tv_bool (ev_call Fg hr (av_cons (ev_var (i := 0) rfl) (av_cons (ev_var (i := 1) rfl) (av_cons (ev_var (i := 4) rfl) (av_cons (ev_var (i := 8) rfl) (av_cons (ev_var (i := 9) rfl) (av_cons (ev_var (i := 10) rfl) av_nil)))))) ⟨xs, R, inn R, i, p, q, hin, rfl, rfl⟩)))
        (fun q hq _ s H C cl fp => ev_int)) rfl sc_law_two.nd (blkOk_by (N := N_law_two) (sc := relS _ (defScope s_law_two)) (by decide +kernel))) (ev_fz (el_lst av_nil)) (shaped_ones _) shaped_nil) (ones_any _ _)))
      (fun p hp _ s H C cl fp => ev_var (i := 9) rfl)) rfl sc_law_two.nd (blkOk_by (N := N_law_two) (sc := defScope s_law_two) (by decide +kernel))) (Ev.w (ev_var (i := 8) rfl) ⟨l, _, _, i, rfl, rfl, ix_is rfl (by rw [dRows_len]; omega), ?_⟩)))
    refine b_nil ⟨.dat (.int i), ?_⟩
    have e4 : PyData.list (((pairsAt R (inn R) xs lo hi i).filter fun p => (gdT R (inn R) xs lo hi (i + 1)).any (goB R (inn R) xs i p)).map pr) = dP (gd (goB R (inn R) xs) (pairsAt R (inn R) xs lo hi) xs.length i) := by
      rw [← eg]
      rfl
    rw [e4, sv_set hin (by omega) (by omega)]
    rfl
  subst e
  rw [rngC_len, svn]
  refine b_freeze (i := 7) rfl ?_
  show BvW _ _ (ρL R xs lo hi (.dat (.list (dRows xs.length (gdT R (inn R) xs lo hi)))) u .un .un .un .un .un .un) _
  refine b_cons (s_if' (k := (gdT R (inn R) xs lo hi 0).isEmpty) (Tv.to (tv_eqD hun (ev_ixL (ev_var (i := 7) rfl) ev_int (atI_nat (j := 0) (dRows_at hn0))) (ev_fz (el_lst av_nil)) (shaped_dP _) shaped_nil) ?_) (fun h1 => ?_) (fun h1 => b_nil ?_))
  · show PyData.eqv (.list ((gdT R (inn R) xs lo hi 0).map pr)) (.list []) = _
    rw [eqv_nil]
    cases gdT R (inn R) xs lo hi 0 <;> rfl
  · refine b_cons (s_ret (Ev.w ev_non ?_))
    show PyData.none = lawTwo R xs lo hi
    unfold lawTwo
    rw [if_pos h1]
  have hne : gdT R (inn R) xs lo hi 0 ≠ [] := fun e => by
    rw [e] at h1
    cases h1
  refine b_cons (s_tup2 (i := 11) (j := 12) rfl sc_law_two.nd (ex_new (El.w (el_lst av_nil) fun L => ex_dat (Ev.w (ev_ixL (ev_var (i := 7) rfl) ev_int (atI_nat (j := 0) (dRows_at hn0))) ?_))))
  show BvW _ _ (ρL R xs lo hi (.dat (.list (dRows xs.length (gdT R (inn R) xs lo hi)))) u (.lst L (dInts 0 (oneT R (inn R) xs lo hi))) (.dat (dP (gdT R (inn R) xs lo hi 0))) .un .un .un .un) _
  refine b_cons (s_for rfl (iv_rng1 mr (Ev.w (ev_var (i := 5) rfl) ⟨_, rfl, by omega, by omega, ?_⟩)))
  rw [Int.toNat_natCast]
  refine ⟨fun k ρ2 => ∃ u v, ρ2 = ρL R xs lo hi (.dat (.list (dRows xs.length (gdT R (inn R) xs lo hi)))) u (.lst L (dInts k (oneT R (inn R) xs lo hi))) (.dat (dP (match k with
    | 0 => gdT R (inn R) xs lo hi 0
    | k + 1 => fs (thT R (inn R) xs lo hi k)))) v .un .un .un, fun _ _ _ => trivial, ⟨u, .un, rfl⟩, fun k d ρ2 hd ⟨u, v, e⟩ => ?_, fun ρ2 ⟨u, v, e⟩ => ?_⟩
  · subst e
    obtain ⟨hk1, rfl⟩ := rng_get hd
    rw [Int.zero_add]
    refine g_name (i := 8) sc_law_two.nd trivial ?_
    have hthn := th_ne (goB R (inn R) xs) (pairsAt R (inn R) xs lo hi) xs.length hne k hk1
    have hthl : (thT R (inn R) xs lo hi k).length ≤ 441 := th_len T.few k
    -- there
    refine b_cut (fun ρ2 => ρ2 = ρL R xs lo hi (.dat (.list (dRows xs.length (gdT R (inn R) xs lo hi)))) (.dat (.int k)) (.lst L (dInts k (oneT R (inn R) xs lo hi))) (.dat (dP (thT R (inn R) xs lo hi k))) v .un .un .un)
      (s_if' (k := decide ((0 : Int) < k)) (tv_gt (ev_var (i := 8) rfl) ev_int) (fun h2 => ?_) (fun h2 => ?_)) (fun ρ2 e => ?_)
    · cases k with
      | zero => exact absurd (of_decide_eq_true h2) (by decide)
      | succ k =>
        have e5 : ((k + 1 : Nat) : Int) - 1 = (k : Int) := by omega
        have hfl : (fs (thT R (inn R) xs lo hi k)).length ≤ 441 := Nat.le_trans (List.length_filter_le _ _) (th_len T.few k)
        refine b_cons (s_set (i := 12) sc_law_two.nd (Ev.w (ev_lc (own := [("q", 10)]) (lc_map (j := 10) (gdT R (inn R) xs lo hi (k + 1)) pr (fun q => (fs (thT R (inn R) xs lo hi k)).any fun p => goB R (inn R) xs k p q) pr sc_law_two.nd
          (iv_of (ev_ixL (ev_var (i := 7) rfl) (ev_var (i := 8) rfl) (atI_nat (dRows_at hk1))) ⟨rfl, rfl, trivial⟩) (by have := hln (k + 1); omega)
          (fun q hq s H C cl fp => tf_one (Tv.to (tv_neD (by exact hun) (ev_lc (own := [("p", 9)]) (lc_map (j := 9) (fs (thT R (inn R) xs lo hi k)) pr (fun p => goB R (inn R) xs k p q) (fun _ => PyData.int 1) sc_law_two.nd
            (iv_of (ev_var (i := 12) rfl) ⟨rfl, rfl, trivial⟩) (by omega)
            (fun p hp s H C cl fp => tf_one (tv_bool (ev_call Fg hr (av_cons (ev_var (i := 0) rfl) (av_cons (ev_var (i := 1) rfl) (av_cons (ev_var (i := 4) rfl) (av_cons (ev_sub (ev_var (i := 8) rfl) ev_int) (av_cons (ev_var (i := 9) rfl) (av_cons (ev_var (i := 10) rfl) av_nil)))))) ⟨xs, R, inn R, k, p, q, hk1, by rw [e5], rfl⟩)))
            (fun p hp _ s H C cl fp => ev_int)) rfl sc_law_two.nd (blkOk_by (N := N_law_two) (sc := relS _ (defScope s_law_two)) (by decide +kernel))) (ev_fz (el_lst av_nil)) (shaped_ones _) shaped_nil) (ones_any _ _)))
          (fun q hq _ s H C cl fp => ev_var (i := 10) rfl)) rfl sc_law_two.nd (blkOk_by (N := N_law_two) (sc := defScope s_law_two) (by decide +kernel))) ?_))
        exact b_nil rfl
    · cases k with
      | zero => exact b_nil rfl
      | succ k => exact absurd (decide_eq_true (by omega : (0 : Int) < (k + 1 : Nat))) (by rw [h2]; decide)
    subst e
    have hmne : (thT R (inn R) xs lo hi k).map (·.1) ≠ [] := fun e => hthn (List.map_eq_nil_iff.mp e)
    refine b_cons (s_set (i := 13) sc_law_two.nd (Ev.w (ev_minI hmne rfl mn (Ev.to (ev_lc (own := [("p", 9)]) (lc_map (j := 9) (thT R (inn R) xs lo hi k) pr (fun _ => true) (fun p => PyData.int p.1) sc_law_two.nd
      (iv_of (ev_var (i := 12) rfl) ⟨rfl, rfl, trivial⟩) (by omega) (fun p hp s H C cl fp => tf_nil ⟨rfl, rfl⟩) (fun p hp _ s H C cl fp => ev_ixT (ev_var (i := 9) rfl) ev_int (atI_nat (j := 0) rfl))) rfl sc_law_two.nd (blkOk_by (N := N_law_two) (sc := defScope s_law_two) (by decide +kernel))) (by rw [filter_yes, List.map_map]; rfl))) ?_))
    refine b_cons (s_app (i := 11) (Ev.w (ev_var (i := 13) rfl) ⟨L, _, rfl, by rw [dInts_len]; omega, ?_⟩))
    refine b_cons (s_set (i := 12) sc_law_two.nd (Ev.w (ev_lc (own := [("p", 9)]) (lc_map (j := 9) (thT R (inn R) xs lo hi k) pr (fun p => decide (p.1 = oneT R (inn R) xs lo hi k)) pr sc_law_two.nd
      (iv_of (ev_var (i := 12) rfl) ⟨rfl, rfl, trivial⟩) (by omega) (fun p hp s H C cl fp => tf_one (tv_eq (ev_ixT (ev_var (i := 9) rfl) ev_int (atI_nat (j := 0) rfl)) (ev_var (i := 13) rfl))) (fun p hp _ s H C cl fp => ev_var (i := 9) rfl)) rfl sc_law_two.nd (blkOk_by (N := N_law_two) (sc := defScope s_law_two) (by decide +kernel))) ?_))
    refine b_nil ⟨.dat (.int k), .dat (.int (oneT R (inn R) xs lo hi k)), ?_⟩
    rw [dInts_succ]
    rfl
  subst e
  rw [rng_len]
  refine b_freeze (i := 11) rfl ?_
  generalize hq : (match xs.length with
    | 0 => gdT R (inn R) xs lo hi 0
    | k + 1 => fs (thT R (inn R) xs lo hi k)) = thr
  show BvW _ _ (ρL R xs lo hi (.dat (.list (dRows xs.length (gdT R (inn R) xs lo hi)))) u (.dat (.list (dInts xs.length (oneT R (inn R) xs lo hi)))) (.dat (dP thr)) v .un .un .un) _
  -- kept
  have hk0l : ∀ i, (kpT0 R (inn R) xs lo hi i).length ≤ 441 := fun i => Nat.le_trans (List.length_filter_le _ _) (hln i)
  have hkl : ∀ i, (kpT R (inn R) xs lo hi i).length ≤ 441 := fun i => gd_len (hk0l i)
  refine b_cons (s_setL (i := 14) sc_law_two.nd (El.w (el_lc (own := [("i", 8)]) (lc_map (j := 8) (List.range xs.length) (fun j => PyData.int (0 + (j : Int))) (fun _ => true) (fun j => dP (kpT0 R (inn R) xs lo hi j)) sc_law_two.nd
    (iv_rng1 mr (Ev.w (ev_var (i := 5) rfl) ⟨_, rfl, by omega, by omega, rfl, by rw [Int.toNat_natCast]; rfl, trivial⟩)) (by rw [List.length_range]; omega)
    (fun j hj s H C cl fp => tf_nil ⟨rfl, rfl⟩)
    (fun j hj _ s H C cl fp => ev_lc (own := [("p", 9)]) (LcW.imp (lc_map (j := 9) (gdT R (inn R) xs lo hi j) pr (fun p => decide (p.1 = oneT R (inn R) xs lo hi j)) pr sc_law_two.nd
      (iv_of (ev_ixL (ev_var (i := 7) rfl) (ev_var (i := 8) rfl) (at_nat0 (dRows_at (List.mem_range.mp hj)))) ⟨rfl, rfl, trivial⟩) (by have := hln j; omega)
      (fun p hp s H C cl fp => tf_one (tv_eq (ev_ixT (ev_var (i := 9) rfl) ev_int (atI_nat (j := 0) rfl)) (ev_ixL (ev_var (i := 11) rfl) (ev_var (i := 8) rfl) (at_nat0 (dInts_at (List.mem_range.mp hj))))))
      (fun p hp _ s H C cl fp => ev_var (i := 9) rfl)) fun ds ρ1 ⟨e1, e2⟩ => ⟨e1, e2⟩) rfl sc_law_two.nd (blkOk_by (N := N_law_two) (sc := relS _ (defScope s_law_two)) (by decide +kernel)))) rfl sc_law_two.nd (blkOk_by (N := N_law_two) (sc := defScope s_law_two) (by decide +kernel))) fun l2 => ?_))
  have ek2 : ((List.range xs.length).filter fun _ => true).map (fun j => dP (kpT0 R (inn R) xs lo hi j)) = dRows xs.length (sv (goB R (inn R) xs) (kpT0 R (inn R) xs lo hi) xs.length 0) := by
    rw [filter_yes, sv0]
    rfl
  rw [ek2]
  show BvW _ _ (ρL R xs lo hi (.dat (.list (dRows xs.length (gdT R (inn R) xs lo hi)))) u (.dat (.list (dInts xs.length (oneT R (inn R) xs lo hi)))) (.dat (dP thr)) v (.lst l2 (dRows xs.length (sv (goB R (inn R) xs) (kpT0 R (inn R) xs lo hi) xs.length 0))) .un .un) _
  refine b_cons (s_for rfl (iv_down mr ((av_cons (ev_sub (ev_var (i := 5) rfl) ev_int) (av_cons (ev_neg ev_int) (av_cons (ev_neg ev_int) av_nil))).w ⟨_, _, rfl, by omega, by omega, by decide, by decide, ?_⟩)))
  rw [hturns]
  refine ⟨fun k ρ2 => ∃ u, ρ2 = ρL R xs lo hi (.dat (.list (dRows xs.length (gdT R (inn R) xs lo hi)))) u (.dat (.list (dInts xs.length (oneT R (inn R) xs lo hi)))) (.dat (dP thr)) v (.lst l2 (dRows xs.length (sv (goB R (inn R) xs) (kpT0 R (inn R) xs lo hi) xs.length k))) .un .un, fun _ _ _ => trivial, ⟨u, rfl⟩, fun k d ρ2 hd ⟨u, e⟩ => ?_, fun ρ2 ⟨u, e⟩ => ?_⟩
  · subst e
    obtain ⟨hk1, rfl⟩ := rngC_get hd
    have hin : xs.length - 2 - k + 1 < xs.length := by omega
    have ei : (xs.length : Int) - 2 + (k : Int) * -1 = ((xs.length - 2 - k : Nat) : Int) := by omega
    rw [ei]
    generalize hgi : xs.length - 2 - k = i at hin
    have hrow : sv (goB R (inn R) xs) (kpT0 R (inn R) xs lo hi) xs.length k i = kpT0 R (inn R) xs lo hi i := by
      unfold sv
      rw [if_neg (by omega)]
    have hnxt : sv (goB R (inn R) xs) (kpT0 R (inn R) xs lo hi) xs.length k (i + 1) = kpT R (inn R) xs lo hi (i + 1) := by
      unfold sv
      rw [if_pos (by omega)]
      rfl
    have eg : kpT R (inn R) xs lo hi i = (kpT0 R (inn R) xs lo hi i).filter fun p => (kpT R (inn R) xs lo hi (i + 1)).any (goB R (inn R) xs i p) := gd_step _ _ _ hin
    refine g_name (i := 8) sc_law_two.nd trivial ?_
    refine b_cons (s_setI (i := 14) (Ev.w (ev_lc (own := [("p", 9)]) (lc_map (j := 9) (kpT0 R (inn R) xs lo hi i) pr (fun p => (kpT R (inn R) xs lo hi (i + 1)).any (goB R (inn R) xs i p)) pr sc_law_two.nd
      (iv_of (ev_ixO (i := 14) rfl (ev_var (i := 8) rfl) (atI_nat (by rw [dRows_at (by omega), hrow]; rfl))) ⟨rfl, rfl, trivial⟩) (by have := hk0l i; omega)
      (fun p hp s H C cl fp => tf_one (Tv.to (tv_neD (by exact hun) (ev_lc (own := [("q", 10)]) (lc_map (j := 10) (kpT R (inn R) xs lo hi (i + 1)) pr (goB R (inn R) xs i p) (fun _ => PyData.int 1) sc_law_two.nd
        (iv_of (ev_ixO (i := 14) rfl (ev_add (ev_var (i := 8) rfl) ev_int) (at_is (j := i + 1) (by omega) (by rw [dRows_at (by omega), hnxt]; rfl))) ⟨rfl, rfl, trivial⟩) (by have := hkl (i + 1); omega)
        (fun q hq s H C cl fp => tf_one (tv_bool (ev_call Fg hr (av_cons (ev_var (i := 0) rfl) (av_cons (ev_var (i := 1) rfl) (av_cons (ev_var (i := 4) rfl) (av_cons (ev_var (i := 8) rfl) (av_cons (ev_var (i := 9) rfl) (av_cons (ev_var (i := 10) rfl) av_nil)))))) ⟨xs, R, inn R, i, p, q, hin, rfl, rfl⟩)))
        (fun q hq _ s H C cl fp => ev_int)) rfl sc_law_two.nd (blkOk_by (N := N_law_two) (sc := relS _ (defScope s_law_two)) (by decide +kernel))) (ev_fz (el_lst av_nil)) (shaped_ones _) shaped_nil) (ones_any _ _)))
      (fun p hp _ s H C cl fp => ev_var (i := 9) rfl)) rfl sc_law_two.nd (blkOk_by (N := N_law_two) (sc := defScope s_law_two) (by decide +kernel))) (Ev.w (ev_var (i := 8) rfl) ⟨l2, _, _, i, rfl, rfl, ix_is rfl (by rw [dRows_len]; omega), ?_⟩)))
    refine b_nil ⟨.dat (.int i), ?_⟩
    have e4 : PyData.list (((kpT0 R (inn R) xs lo hi i).filter fun p => (kpT R (inn R) xs lo hi (i + 1)).any (goB R (inn R) xs i p)).map pr) = dP (gd (goB R (inn R) xs) (kpT0 R (inn R) xs lo hi) xs.length i) := by
      rw [← eg]
      rfl
    rw [e4, sv_set hin (by omega) (by omega)]
    rfl
  subst e
  rw [rngC_len, svn]
  refine b_freeze (i := 14) rfl ?_
  have hk1 : kpT R (inn R) xs lo hi 0 ≠ [] := kp0_ne _ _ _ hne hn0
  have hm1 : (kpT R (inn R) xs lo hi 0).map (·.2) ≠ [] := fun e => hk1 (List.map_eq_nil_iff.mp e)
  show BvW _ _ (ρL R xs lo hi (.dat (.list (dRows xs.length (gdT R (inn R) xs lo hi)))) u (.dat (.list (dInts xs.length (oneT R (inn R) xs lo hi)))) (.dat (dP thr)) v (.dat (.list (dRows xs.length (kpT R (inn R) xs lo hi)))) .un .un) _
  refine b_cons (s_setL (i := 15) sc_law_two.nd (El.w (el_lst (av_cons (ev_minI hm1 rfl mn (Ev.to (ev_lc (own := [("p", 9)]) (lc_map (j := 9) (kpT R (inn R) xs lo hi 0) pr (fun _ => true) (fun p => PyData.int p.2) sc_law_two.nd
      (iv_of (ev_ixL (ev_var (i := 14) rfl) ev_int (atI_nat (j := 0) (dRows_at hn0))) ⟨rfl, rfl, trivial⟩) (by have := hkl 0; omega) (fun p hp s H C cl fp => tf_nil ⟨rfl, rfl⟩) (fun p hp _ s H C cl fp => ev_ixT (ev_var (i := 9) rfl) ev_int (atI_nat (j := 1) rfl))) rfl sc_law_two.nd (blkOk_by (N := N_law_two) (sc := defScope s_law_two) (by decide +kernel))) (by rw [filter_yes, List.map_map]; rfl))) av_nil)) fun L2 => ?_))
  show BvW _ _ (ρL R xs lo hi (.dat (.list (dRows xs.length (gdT R (inn R) xs lo hi)))) u (.dat (.list (dInts xs.length (oneT R (inn R) xs lo hi)))) (.dat (dP thr)) v (.dat (.list (dRows xs.length (kpT R (inn R) xs lo hi)))) (.lst L2 (dInts (0 + 1) (oth (goB R (inn R) xs) (pairsAt R (inn R) xs lo hi) xs.length))) .un) _
  refine b_cons (s_for rfl (iv_rng2 mr ((av_cons ev_int (av_cons (ev_var (i := 5) rfl) av_nil)).w ⟨1, _, rfl, by decide, by decide, by omega, by omega, ?_⟩)))
  have hturns2 : ((xs.length : Int) - 1).toNat = xs.length - 1 := by omega
  rw [hturns2]
  refine ⟨fun k ρ2 => ∃ u z, ρ2 = ρL R xs lo hi (.dat (.list (dRows xs.length (gdT R (inn R) xs lo hi)))) u (.dat (.list (dInts xs.length (oneT R (inn R) xs lo hi)))) (.dat (dP thr)) v (.dat (.list (dRows xs.length (kpT R (inn R) xs lo hi)))) (.lst L2 (dInts (k + 1) (oth (goB R (inn R) xs) (pairsAt R (inn R) xs lo hi) xs.length))) z, fun _ _ _ => trivial, ⟨u, .un, rfl⟩, fun k d ρ2 hd ⟨u, z, e⟩ => ?_, fun ρ2 ⟨u, z, e⟩ => ?_⟩
  · subst e
    obtain ⟨hk2, rfl⟩ := rng_get hd
    have hin : k + 1 < xs.length := by omega
    have ei : (1 : Int) + (k : Int) = ((k + 1 : Nat) : Int) := by omega
    rw [ei]
    have ee : ((k + 1 : Nat) : Int) - 1 = (k : Int) := by omega
    refine g_name (i := 8) sc_law_two.nd trivial ?_
    obtain ⟨o1, o2⟩ := out_in (goB R (inn R) xs) (pairsAt R (inn R) xs lo hi) xs.length hne k (by omega)
    have oo := out_oth (goB R (inn R) xs) (pairsAt R (inn R) xs lo hi) xs.length hne k (by omega)
    refine b_cons (s_set (i := 16) sc_law_two.nd (Ev.w (ev_tup (av_cons (ev_ixL (ev_var (i := 11) rfl) (ev_sub (ev_var (i := 8) rfl) ev_int) (at_is ee (dInts_at (by omega)))) (av_cons (ev_ixO (i := 15) rfl (ev_neg ev_int) atI_lastInts) av_nil))) ?_))
    have o3 := o2 hin
    rw [oo] at o3
    have hm2 : ((kpT R (inn R) xs lo hi (k + 1)).filter (goB R (inn R) xs k (oneT R (inn R) xs lo hi k, oth (goB R (inn R) xs) (pairsAt R (inn R) xs lo hi) xs.length k))).map (·.2) ≠ [] := fun e => o3 (List.map_eq_nil_iff.mp e)
    refine b_cons (s_app (i := 15) (Ev.w (ev_minI hm2 rfl mn (Ev.to (ev_lc (own := [("q", 10)]) (lc_map (j := 10) (kpT R (inn R) xs lo hi (k + 1)) pr (goB R (inn R) xs k (oneT R (inn R) xs lo hi k, oth (goB R (inn R) xs) (pairsAt R (inn R) xs lo hi) xs.length k)) (fun q => PyData.int q.2) sc_law_two.nd
      (iv_of (ev_ixL (ev_var (i := 14) rfl) (ev_var (i := 8) rfl) (atI_nat (dRows_at hin))) ⟨rfl, rfl, trivial⟩) (by have := hkl (k + 1); omega)
      (fun q hq s H C cl fp => tf_one (tv_bool (ev_call Fg hr (av_cons (ev_var (i := 0) rfl) (av_cons (ev_var (i := 1) rfl) (av_cons (ev_var (i := 4) rfl) (av_cons (ev_sub (ev_var (i := 8) rfl) ev_int) (av_cons (ev_var (i := 16) rfl) (av_cons (ev_var (i := 10) rfl) av_nil)))))) ⟨xs, R, inn R, k, (oneT R (inn R) xs lo hi k, oth (goB R (inn R) xs) (pairsAt R (inn R) xs lo hi) xs.length k), q, hin, by
        rw [ee]
        rfl, rfl⟩)))
      (fun q hq _ s H C cl fp => ev_ixT (ev_var (i := 10) rfl) ev_int (atI_nat (j := 1) rfl))) rfl sc_law_two.nd (blkOk_by (N := N_law_two) (sc := defScope s_law_two) (by decide +kernel))) (by rw [List.map_map]; rfl))) ⟨L2, _, rfl, by rw [dInts_len]; omega, ?_⟩))
    refine b_nil ⟨.dat (.int (k + 1 : Nat)), .dat (pr (oneT R (inn R) xs lo hi k, oth (goB R (inn R) xs) (pairsAt R (inn R) xs lo hi) xs.length k)), ?_⟩
    rw [dInts_succ (n := k + 1)]
    rfl
  · subst e
    rw [rng_len]
    have hnn : xs.length - 1 + 1 = xs.length := by omega
    rw [hnn]
    refine b_freeze (i := 15) rfl ?_
    refine b_cons (s_ret (Ev.w (ev_tup (av_cons (ev_tuple mt (ev_var (i := 11) rfl)) (av_cons (ev_tuple mt (ev_var (i := 15) rfl)) av_nil))) ?_))
    show _ = lawTwo R xs lo hi
    unfold lawTwo
    rw [h1]
    have ez : (dInts xs.length fun j => (outT R (inn R) xs lo hi j).2) = dInts xs.length (oth (goB R (inn R) xs) (pairsAt R (inn R) xs lo hi) xs.length) := by
      unfold dInts
      refine List.map_congr_left fun j hj => ?_
      have eo := out_oth (goB R (inn R) xs) (pairsAt R (inn R) xs lo hi) xs.length hne j (List.mem_range.mp hj)
      exact congrArg (fun p : Pr => PyData.int p.2) eo
    rw [ez]
    rfl
end
end K16
namespace K16
open PySem PySem.Spec PyProof.Rows L2 Pl
section
variable {P : Program} {w : World} {K : PySem.W.Frag} {mg : Str → Option Value} {base : Heap}
/-! _law_box -/
def cellsOf (ns : List Int) : List Int := ns.map fun z => if z < 0 then -z else z
def fp_box : List PyData → List PyData → Prop := fun ds es => ∃ ns : List Int, ns.length ≤ 63 ∧ ds = [.list (ns.map PyData.int)] ∧ es = encB 0 0 0 (cellsOf ns)
theorem ok_lbox {f : Addr} {fd : FuncData} (F : Fun K "_law_box" "_law_box" s_law_box f fd) (ma : mg "abs" = none) (mi : mg "int" = none) : FnOk P w K mg base CX0 1 f fd ["script"] (spNew K 1 fp_box) := by
  refine fn_new F sc_law_box rfl (fun cdv A outer s H E ds es hr hp hl => ?_)
  obtain ⟨ns, hn, rfl, rfl⟩ := hp
  refine El.w (el_lst (av_cons ev_int (av_cons ev_int (av_cons ev_int (av_cons (ev_lc (own := [("x", 1)]) (lc_map (j := 1) ns PyData.int (fun _ => true) (fun z => PyData.int (if z < 0 then -z else z)) sc_law_box.nd
    (iv_of (ev_var (i := 0) rfl) ⟨rfl, rfl, trivial⟩) (by omega) (fun y hy s H C cl fp => tf_nil ⟨rfl, rfl⟩) (fun y hy _ s H C cl fp => ev_abs ma (ev_int1 mi (ev_var (i := 1) rfl)))) rfl sc_law_box.nd (blkOk_by (N := N_law_box) (sc := defScope s_law_box) (by decide +kernel))) av_nil))))) ⟨?_, rfl⟩
  unfold encB cellsOf
  rw [filter_yes, List.map_map]
  rfl
/-! what is shown -/
theorem pairs_in {R I : List Str} {xs : List Int} {lo hi : Int} {i : Nat} {p : Pr} (h : p ∈ pairsAt R I xs lo hi i) : lo ≤ p.1 ∧ p.1 ≤ hi ∧ lo ≤ p.2 ∧ p.2 ≤ hi := by
  obtain ⟨a, ha, hp⟩ := List.mem_flatMap.mp h
  obtain ⟨b, hb, e⟩ := List.mem_map.mp hp
  have h2 := rI_mem (List.mem_filter.mp ha).1
  have h3 := rI_mem (List.mem_filter.mp (List.mem_filter.mp hb).1).1
  subst e
  show lo ≤ a ∧ a ≤ hi ∧ lo ≤ b ∧ b ≤ hi
  omega
theorem one_in {R I : List Str} {xs : List Int} {lo hi : Int} (h0 : gdT R I xs lo hi 0 ≠ []) {i : Nat} (hi' : i < xs.length) : lo ≤ oneT R I xs lo hi i ∧ oneT R I xs lo hi i ≤ hi := by
  obtain ⟨p, hp⟩ := fs_ne (th_ne (goB R I xs) (pairsAt R I xs lo hi) xs.length h0 i hi')
  obtain ⟨h1, h2⟩ := List.mem_filter.mp hp
  have h3 := pairs_in (gd_sub _ _ _ (th_sub _ _ _ h1))
  have h4 : p.1 = oneT R I xs lo hi i := of_decide_eq_true h2
  omega
theorem out_in2 {R I : List Str} {xs : List Int} {lo hi : Int} (h0 : gdT R I xs lo hi 0 ≠ []) {i : Nat} (hi' : i < xs.length) : lo ≤ (outT R I xs lo hi i).2 ∧ (outT R I xs lo hi i).2 ≤ hi := by
  have h1 := (out_in (goB R I xs) (pairsAt R I xs lo hi) xs.length h0 i hi').1
  have h2 := pairs_in (gd_sub _ _ _ (List.mem_filter.mp (gd_sub _ _ _ h1)).1)
  exact ⟨h2.2.2.1, h2.2.2.2⟩
theorem nice_ints {n : Nat} {f : Nat → Int} (hn : n ≤ 12) (h : ∀ i, i < n → 0 ≤ f i ∧ f i < 128) : Nice 2 96 (.tuple (dInts n f)) := by
  refine Nice.up (Nice.tup (NiceA.of (k := 1) (n := 7) (f := fun j => PyData.int (f j)) fun j hj => ?_)) (Nat.le_refl _) ?_
  · have := h j (List.mem_range.mp hj)
    exact .int this.1 this.2
  · rw [List.length_range]
    omega
/-- what set_two answers, from what the law's own words answer -/
theorem two_same (R : List Str) (xs : List Int) (lo hi : Int) : setTwo R xs lo hi = .tuple [.bool (!isN (lawTwo R xs lo hi)), lawTwo R xs lo hi] := by
  unfold setTwo lawTwo
  split <;> rfl
theorem two_nice {R : List Str} {xs : List Int} {lo hi : Int} (T : Two R (inn R) xs lo hi) : Nice 4 1000 (lawTwo R xs lo hi) ∧ Nice 5 2000 (.tuple [.bool (!isN (lawTwo R xs lo hi)), lawTwo R xs lo hi]) := by
  have hn := T.n1
  have h0 := T.lo0
  have h1 := T.hi1
  have h2 : Nice 4 1000 (lawTwo R xs lo hi) := by
    unfold lawTwo
    split
    · exact Nice.up (Nice.non (k := 1)) (by decide) (by decide)
    · rename_i h3
      have hne : gdT R (inn R) xs lo hi 0 ≠ [] := fun e => h3 (by rw [e]; rfl)
      refine Nice.up (Nice.tup (.cons (nice_ints hn fun i hi' => ?_) (.cons (nice_ints hn fun i hi' => ?_) .nil))) (by decide) (by decide : 96 + 1 + (96 + 1 + 0) ≤ 1000)
      · have := one_in hne hi'
        omega
      · have := out_in2 hne hi'
        omega
  exact ⟨h2, Nice.up (Nice.tup (.cons (Nice.bl (k := 3) _) (.cons h2 .nil))) (by decide) (by decide : 0 + 1 + (1000 + 1 + 0) ≤ 2000)⟩
theorem last_two : setTwo [] [60, 62, 60] 60 60 = .tuple [.bool true, .tuple [.tuple [.int 60, .int 60, .int 60], .tuple [.int 60, .int 60, .int 60]]] := by rfl
theorem lastHt : Ht [60, 62, 60] := fun x hx => by
  rcases List.mem_cons.mp hx with e | hx
  · omega
  rcases List.mem_cons.mp hx with e | hx
  · omega
  rw [List.mem_singleton.mp hx]
  omega
theorem last_nice : Nice 5 1000 (.tuple [.bool true, .tuple [.tuple [.int 60, .int 60, .int 60], .tuple [.int 60, .int 60, .int 60]]]) := ⟨rfl, by decide, by decide, by decide +kernel, by decide +kernel, rfl⟩
abbrev lX (P : Program) (w : World) (K : PySem.W.Frag) (mg : Str → Option Value) (base : Heap) (f : Addr) (cdv : Value) (A : Around) (outer : List Env) (s : Shared) (H : Hp) (E : XK) : Cx := fX P w K mg base N_law "law" s_law f cdv A outer s H E
abbrev ρW (ns xs : List Int) (l : Addr) (es : List PyData) (R : List Str) (lo hi : Int) (turn due : Sl) : Rho := [.dat (.list (ns.map PyData.int)), .lst l es, .dat (dI xs), .dat (dS R), .dat (.int lo), .dat (.int hi), turn, due, .un]
theorem b_law {f : Addr} (Fb : Fn P w K mg base 1 "_law_box" ["script"] (spNew K 1 fp_box)) (Ft : Fn P w K mg base 1 "_law_take" ["box", "m"] (spBox K 2 pre_take po_take)) (Fr : Fn P w K mg base 2 "_law_rules" ["box"] (spBox K 1 pre_box0 po_rules)) (Fg : Fn P w K mg base 2 "_law_given" ["box", "most"] (spBox K 2 pre_given po_given))
    (Fl : Fn P w K mg base 4 "_law_two" ["given", "rules", "low", "high"] (spPure K 4 fp_ltwo)) (Fs : Fn P w K mg base 5 "set_two" ["given", "rules", "low", "high"] (spPure K 4 fp_set))
    (mt : mg "tuple" = none) (mr : mg "range" = none) (ma : mg "max" = none) (mi : mg "min" = none) (mp : mg "repr" = none) (cdv : Value) (A : Around) (outer : List Env) (s : Shared) (H : Hp) (E : XK) (ns : List Int)
    (hr : Room 5 (lX P w K mg base f cdv A outer s H E).A) (hg : (lX P w K mg base f cdv A outer s H E).A.guards = some []) (hn : ns.length ≤ 63) :
    BvW (lX P w K mg base f cdv A outer s H E) (defBody s_law) (.dat (.list (ns.map PyData.int)) :: List.replicate (N_law.length - 1) Sl.un) { nx := fun _ => False, rt := fun d _ => d = .bool true } := by
  have hu : (lX P w K mg base f cdv A outer s H E).A.units + 70 < cLine := by
    have := hr.un
    omega
  refine b_cons (s_setL (i := 1) sc_law.nd (el_call Fb (hr.mono (by decide)) (av_cons (ev_var (i := 0) rfl) av_nil) (encB 0 0 0 (cellsOf ns)) ⟨ns, hn, rfl, rfl⟩ fun l => ?_))
  refine b_cons (s_par (i := 2) (j := 3) rfl sc_law.nd (ex_dat (ew_callBox (i := 1) Fg (hr.mono (by decide)) (Av.w (av_cons ev_int av_nil) ⟨l, _, rfl, rfl, ⟨⟨0, 0, 0, _, rfl⟩, 7, by decide, by decide, rfl⟩, fun d es2 ⟨hb2, m, xs, e1, h1, h2, h3, e2⟩ =>
    ex_dat (ew_callBox (i := 1) Fr (hr.mono (by decide)) (Av.w av_nil ⟨l, _, rfl, rfl, ⟨hb2, rfl⟩, fun d es3 ⟨hb3, R, hR, e3⟩ => ?_⟩))⟩))))
  cases e1
  subst e2
  subst e3
  have hx0 : 0 < xs.length := by omega
  have hat := at0_in hx0
  have hg0 := h3 _ hat
  refine b_cons (s_set (i := 4) sc_law.nd (ew_max2 rfl ma (aw_two ev_int (ew_subL (ew_addR (ev_ixT (ev_var (i := 2) rfl) ev_int (at_int (i := 0) hx0)) (ew_take (i := 1) (l := l) Ft (hr.mono (by decide)) rfl hb3 ev_int (by decide) (by decide) fun r es4 h5 h6 hb4 => ⟨r, rfl, _, 15, rfl, ev_int, 0, _, rfl, ?_⟩))))))
  refine b_cons (s_set (i := 5) sc_law.nd (ew_min2 rfl mi (aw_two ev_int (ew_addR (ev_add (ev_var (i := 4) rfl) ev_int) (ew_take (i := 1) (l := l) Ft (hr.mono (by decide)) rfl hb4 ev_int (by decide) (by decide) fun r2 es5 h7 h8 hb5 => ⟨r2, rfl, 127, _, rfl, ?_⟩)))))
  generalize hlo : (if (at0 xs 0 + r - 15) > 0 then (at0 xs 0 + r - 15) else 0) = lo
  generalize hhi : (if lo + 2 + r2 < 127 then lo + 2 + r2 else 127) = hi
  have hlo1 : 0 ≤ lo ∧ lo ≤ 98 := by
    rw [← hlo]
    split <;> omega
  have hhi1 : lo ≤ hi ∧ hi ≤ lo + 8 ∧ hi ≤ 127 := by
    rw [← hhi]
    split <;> omega
  have T : ∀ R', Two R' (inn R') xs lo hi := fun R' => ⟨fun x hx => by
    have := h3 x hx
    omega, hx0, by omega, hlo1.1, hhi1.2.2, hhi1.1, by omega⟩
  show BvW _ _ (ρW ns xs l es5 R lo hi .un .un) _
  refine b_cons (s_for rfl (iv_rng1 mr (Ev.w ev_int ⟨2, rfl, by decide, by decide, fun k ρ2 => ∃ R' u v, R'.Sublist rulesL ∧ ρ2 = ρW ns xs l es5 R' lo hi u v, fun _ _ _ => trivial, ⟨R, .un, .un, hR, rfl⟩, fun k d ρ2 hd ⟨R', u, v, hR', e⟩ => ?_, fun ρ2 ⟨R', u, v, hR', e⟩ => ?_⟩)))
  · subst e
    obtain ⟨hk, rfl⟩ := rng_get hd
    refine g_name (i := 6) sc_law.nd trivial ?_
    have hRl := rulesL_up hR'
    refine b_cons (s_set (i := 7) sc_law.nd (Ev.w (ev_call Fl (hr.mono (by decide)) (av_cons (ev_var (i := 2) rfl) (av_cons (ev_var (i := 3) rfl) (av_cons (ev_var (i := 4) rfl) (av_cons (ev_var (i := 5) rfl) av_nil)))) ⟨R', xs, lo, hi, hRl.few, T R', rfl, rfl⟩) ?_))
    obtain ⟨n1, n2⟩ := two_nice (T R')
    refine b_cons (s_if' (k := false) (Tv.to (tv_neS (ev_repr hg hu mp (Ev.to (ev_call Fs hr (av_cons (ev_var (i := 2) rfl) (av_cons (ev_var (i := 3) rfl) (av_cons (ev_var (i := 4) rfl) (av_cons (ev_var (i := 5) rfl) av_nil)))) ⟨R', xs, lo, hi, hRl, T R', by omega, rfl, rfl⟩) (two_same R' xs lo hi)) n2 (by decide) (by decide))
      (ev_repr hg hu mp (ev_tup (av_cons (ev_notN (ev_var (i := 7) rfl)) (av_cons (ev_var (i := 7) rfl) av_nil))) n2 (by decide) (by decide))) (by rw [decide_eq_true rfl]; rfl)) (fun h => nomatch h) (fun _ => b_nil ?_))
    refine b_cons (s_set (i := 3) sc_law.nd (Ev.w (ev_tuple mt (ev_lc (own := [("rule", 8)]) (lc_map (j := 8) R' PyData.str (fun r => !decide (r ∈ (["still", "parallel"] : List Str))) PyData.str sc_law.nd (iv_ofT (ev_var (i := 3) rfl) ⟨rfl, rfl, trivial⟩) (by have := hRl.few; omega)
      (fun y hy s H C cl fp => tf_one (tv_niS ["still", "parallel"] (ev_var (i := 8) rfl) (ev_tup (av_cons ev_str (av_cons ev_str av_nil))))) (fun y hy _ s H C cl fp => ev_var (i := 8) rfl)) rfl sc_law.nd (blkOk_by (N := N_law) (sc := defScope s_law) (by decide +kernel)))) ?_))
    exact b_nil ⟨_, _, _, List.filter_sublist.trans hR', rfl⟩
  · subst e
    refine b_cons (s_ret (Ev.w (ev_eqS (ev_repr hg hu mp (Ev.to (ev_call Fs hr (av_cons (ev_tup (av_cons ev_int (av_cons ev_int (av_cons ev_int av_nil)))) (av_cons (ev_tup av_nil) (av_cons ev_int (av_cons ev_int av_nil)))) ⟨[], [60, 62, 60], 60, 60, rulesL_up (List.nil_sublist _), ⟨lastHt, by decide, by decide, by decide, by decide, by decide, by decide⟩, by decide, rfl, rfl⟩) last_two) last_nice (by decide) (by decide))
      (ev_repr hg hu mp (ev_tup (av_cons ev_bl (av_cons (ev_tup (av_cons (ev_tup (av_cons ev_int (av_cons ev_int (av_cons ev_int av_nil)))) (av_cons (ev_tup (av_cons ev_int (av_cons ev_int (av_cons ev_int av_nil)))) av_nil))) av_nil))) last_nice (by decide) (by decide))) ?_))
    rw [decide_eq_true rfl]
end
end K16
namespace K16
open PySem PySem.Spec PyProof.Rows L2 Pl
/-! all together -/
theorem all_mk {P : Program} {w : World} {K : PySem.W.Frag} {h : Heap} {mg : Str → Option Value} {fa : Addr} (X : K.In h) (G : h.Ns mainGlobals mg) (hfa : mg "law" = some (.ref fa))
    (d_apart : Dfn K "apart" s_apart)
    (d_here_breaks : Dfn K "here_breaks" s_here_breaks)
    (d_step_breaks : Dfn K "step_breaks" s_step_breaks)
    (d_is_number : Dfn K "is_number" s_is_number)
    (d_is_below : Dfn K "is_below" s_is_below)
    (d_is_line : Dfn K "is_line" s_is_line)
    (d_is_rules : Dfn K "is_rules" s_is_rules)
    (d_check_given : Dfn K "check_given" s_check_given)
    (d_check_range : Dfn K "check_range" s_check_range)
    (d_pairs_at : Dfn K "pairs_at" s_pairs_at)
    (d_can_go : Dfn K "can_go" s_can_go)
    (d_other_line : Dfn K "other_line" s_other_line)
    (d_set_two : Dfn K "set_two" s_set_two)
    (d__law_box : Dfn K "_law_box" s_law_box)
    (d__law_take : Dfn K "_law_take" s_law_take)
    (d__law_rules : Dfn K "_law_rules" s_law_rules)
    (d__law_given : Dfn K "_law_given" s_law_given)
    (d__law_apart : Dfn K "_law_apart" s_law_apart)
    (d__law_here : Dfn K "_law_here" s_law_here)
    (d__law_step : Dfn K "_law_step" s_law_step)
    (d__law_pairs : Dfn K "_law_pairs" s_law_pairs)
    (d__law_goes : Dfn K "_law_goes" s_law_goes)
    (d__law_two : Dfn K "_law_two" s_law_two)
    (d_law : Dfn K "law" s_law)
    (n_abs : PySem.W.nsIn K mainGlobals "abs" = some none)
    (n_isinstance : PySem.W.nsIn K mainGlobals "isinstance" = some none)
    (n_int : PySem.W.nsIn K mainGlobals "int" = some none)
    (n_bool : PySem.W.nsIn K mainGlobals "bool" = some none)
    (n_tuple : PySem.W.nsIn K mainGlobals "tuple" = some none)
    (n_len : PySem.W.nsIn K mainGlobals "len" = some none)
    (n_all : PySem.W.nsIn K mainGlobals "all" = some none)
    (n_str : PySem.W.nsIn K mainGlobals "str" = some none)
    (n_zip : PySem.W.nsIn K mainGlobals "zip" = some none)
    (n_range : PySem.W.nsIn K mainGlobals "range" = some none)
    (n_min : PySem.W.nsIn K mainGlobals "min" = some none)
    (n_any : PySem.W.nsIn K mainGlobals "any" = some none)
    (n_max : PySem.W.nsIn K mainGlobals "max" = some none)
    (n_repr : PySem.W.nsIn K mainGlobals "repr" = some none)
    (c_RULES : Ctup K "RULES" (rulesL.map V.str))
    (c_GOOD : Ctup K "GOOD" (goodL.map V.int))
    (c_WHITE : Ctup K "WHITE" (whiteL.map V.int))
    (c_MOST_LINE : Cint K "MOST_LINE" 40)
    (c_MOST_TWO : Cint K "MOST_TWO" 12) :
    ∃ fd, Fun K "law" "law" s_law fa fd ∧ (∀ (s : Shared) (v : Value), BindsTo s fd ⟨[v], []⟩ [("script", v)]) ∧ ∀ (base : Heap) (cdv : Value) (s' : Shared) (H : Hp) (E : XK) (ns : List Int), K.In base → base.Ns mainGlobals mg → Room 5 (fX P w K mg base N_law "law" s_law fa cdv callerA [] s' H E).A → (fX P w K mg base N_law "law" s_law fa cdv callerA [] s' H E).A.guards = some [] →
        ns.length ≤ 63 → BvW (fX P w K mg base N_law "law" s_law fa cdv callerA [] s' H E) (defBody s_law) (.dat (.list (ns.map PyData.int)) :: List.replicate (N_law.length - 1) Sl.un) { nx := fun _ => False, rt := fun d _ => d = .bool true } := by
  have z_abs := free_of X G n_abs
  have z_isinstance := free_of X G n_isinstance
  have z_int := free_of X G n_int
  have z_bool := free_of X G n_bool
  have z_tuple := free_of X G n_tuple
  have z_len := free_of X G n_len
  have z_all := free_of X G n_all
  have z_str := free_of X G n_str
  have z_zip := free_of X G n_zip
  have z_range := free_of X G n_range
  have z_min := free_of X G n_min
  have z_any := free_of X G n_any
  have z_max := free_of X G n_max
  have z_repr := free_of X G n_repr
  have g_RULES : Gc K mg "RULES" (.tuple (rulesL.map PyData.str)) := c_RULES.gc X G (fun H => isAll_strs rulesL)
  have g_GOOD : Gc K mg "GOOD" (.tuple (goodL.map PyData.int)) := c_GOOD.gc X G (fun H => IsAll.of_ints goodL)
  have g_WHITE : Gc K mg "WHITE" (.tuple (whiteL.map PyData.int)) := c_WHITE.gc X G (fun H => IsAll.of_ints whiteL)
  have g_MOST_LINE : Gc K mg "MOST_LINE" (.int 40) := c_MOST_LINE.gc X G 
  have g_MOST_TWO : Gc K mg "MOST_TWO" (.int 12) := c_MOST_TWO.gc X G 
  obtain ⟨fl, oc, od, an, sl, kV, dc, pm, cd, ct, la, ll, lc, lk⟩ := d_law
  have e := hfa.symm.trans (PySem.W.mg_of X G la)
  cases e
  refine ⟨_, fun_mk (st := s_law) ll lc lk, fun s v => .of_eq rfl, fun base cdv s' H E ns _ _ hr hg hn => ?_⟩
  have f_apart : Fn P w K mg base 1 "apart" ["a", "b"] (spPure K 2 fp_apart) := d_apart.fn X G (fun _ _ _ _ _ _ us hl => match us, hl with | [_, _], _ => rfl) fun f fd F => ok_apart F z_abs
  have f_here_breaks : Fn P w K mg base 2 "here_breaks" ["rules", "given", "height", "is_last"] (spPure K 4 fp_here) := d_here_breaks.fn X G (fun _ _ _ _ _ _ us hl => match us, hl with | [_, _, _, _], _ => rfl) fun f fd F => ok_here F f_apart g_GOOD g_WHITE
  have f_step_breaks : Fn P w K mg base 2 "step_breaks" ["rules", "first", "second", "a", "b"] (spPure K 5 fp_step) := d_step_breaks.fn X G (fun _ _ _ _ _ _ us hl => match us, hl with | [_, _, _, _, _], _ => rfl) fun f fd F => ok_step F f_apart z_abs
  have f_is_number : Fn P w K mg base 1 "is_number" ["x"] (spPure K 1 fp_number) := d_is_number.fn X G (fun _ _ _ _ _ _ us hl => match us, hl with | [_], _ => rfl) fun f fd F => ok_number F z_isinstance z_int z_bool
  have f_is_below : Fn P w K mg base 2 "is_below" ["n", "x"] (spPure K 2 fp_below) := d_is_below.fn X G (fun _ _ _ _ _ _ us hl => match us, hl with | [_, _], _ => rfl) fun f fd F => ok_below F f_is_number
  have f_is_line : Fn P w K mg base 3 "is_line" ["x"] (spPure K 1 fp_line) := d_is_line.fn X G (fun _ _ _ _ _ _ us hl => match us, hl with | [_], _ => rfl) fun f fd F => ok_line F f_is_below z_isinstance z_tuple z_len z_all g_MOST_LINE
  have f_is_rules : Fn P w K mg base 1 "is_rules" ["x"] (spPure K 1 fp_rules) := d_is_rules.fn X G (fun _ _ _ _ _ _ us hl => match us, hl with | [_], _ => rfl) fun f fd F => ok_rules F z_isinstance z_tuple z_str z_zip z_all g_RULES
  have f_check_given : Fn P w K mg base 4 "check_given" ["given", "rules"] (spPure K 2 fp_given) := d_check_given.fn X G (fun _ _ _ _ _ _ us hl => match us, hl with | [_, _], _ => rfl) fun f fd F => ok_given F f_is_line f_is_rules
  have f_check_range : Fn P w K mg base 3 "check_range" ["low", "high", "most"] (spPure K 3 fp_range) := d_check_range.fn X G (fun _ _ _ _ _ _ us hl => match us, hl with | [_, _, _], _ => rfl) fun f fd F => ok_range F f_is_below
  have f_pairs_at : Fn P w K mg base 3 "pairs_at" ["given", "rules", "inner", "low", "high", "i"] (spPure K 6 fp_pairs) := d_pairs_at.fn X G (fun _ _ _ _ _ _ us hl => match us, hl with | [_, _, _, _, _, _], _ => rfl) fun f fd F => ok_pairs F f_here_breaks z_len z_range
  have f_can_go : Fn P w K mg base 3 "can_go" ["given", "rules", "inner", "i", "pair", "other"] (spPure K 6 fp_go) := d_can_go.fn X G (fun _ _ _ _ _ _ us hl => match us, hl with | [_, _, _, _, _, _], _ => rfl) fun f fd F => ok_go F f_step_breaks
  have f_other_line : Fn P w K mg base 4 "other_line" ["given", "rules", "inner", "good", "one"] (spPure K 5 fp_other) := d_other_line.fn X G (fun _ _ _ _ _ _ us hl => match us, hl with | [_, _, _, _, _], _ => rfl) fun f fd F => ok_other F f_can_go z_len z_range z_min z_any z_tuple
  have f_set_two : Fn P w K mg base 5 "set_two" ["given", "rules", "low", "high"] (spPure K 4 fp_set) := d_set_two.fn X G (fun _ _ _ _ _ _ us hl => match us, hl with | [_, _, _, _], _ => rfl) fun f fd F => ok_set F f_check_given f_check_range f_pairs_at f_can_go f_other_line z_len z_range z_min z_any z_tuple g_MOST_TWO
  have f__law_box : Fn P w K mg base 1 "_law_box" ["script"] (spNew K 1 fp_box) := d__law_box.fn X G (fun _ _ _ _ _ _ us hl => match us, hl with | [_], _ => rfl) fun f fd F => ok_lbox F z_abs z_int
  have f__law_take : Fn P w K mg base 1 "_law_take" ["box", "m"] (spBox K 2 pre_take po_take) := d__law_take.fn X G (fun _ _ _ _ _ _ us hl => match us, hl with | [_, _], _ => rfl) fun f fd F => ok_take F z_len z_int
  have f__law_rules : Fn P w K mg base 2 "_law_rules" ["box"] (spBox K 1 pre_box0 po_rules) := d__law_rules.fn X G (fun _ _ _ _ _ _ us hl => match us, hl with | [_], _ => rfl) fun f fd F => ok_lrules F f__law_take z_tuple
  have f__law_given : Fn P w K mg base 2 "_law_given" ["box", "most"] (spBox K 2 pre_given po_given) := d__law_given.fn X G (fun _ _ _ _ _ _ us hl => match us, hl with | [_, _], _ => rfl) fun f fd F => ok_lgiven F f__law_take z_tuple z_range z_max z_min
  have f__law_apart : Fn P w K mg base 1 "_law_apart" ["a", "b"] (spPure K 2 fp_apart) := d__law_apart.fn X G (fun _ _ _ _ _ _ us hl => match us, hl with | [_, _], _ => rfl) fun f fd F => ok_lapart F z_max z_min
  have f__law_here : Fn P w K mg base 2 "_law_here" ["rules", "given", "h", "last"] (spPure K 4 fp_lhere) := d__law_here.fn X G (fun _ _ _ _ _ _ us hl => match us, hl with | [_, _, _, _], _ => rfl) fun f fd F => ok_lhere F f__law_apart
  have f__law_step : Fn P w K mg base 2 "_law_step" ["rules", "a", "b", "x", "y"] (spPure K 5 fp_lstep) := d__law_step.fn X G (fun _ _ _ _ _ _ us hl => match us, hl with | [_, _, _, _, _], _ => rfl) fun f fd F => ok_lstep F f__law_apart z_abs
  have f__law_pairs : Fn P w K mg base 3 "_law_pairs" ["given", "rules", "inner", "low", "high", "i"] (spPure K 6 fp_pairs) := d__law_pairs.fn X G (fun _ _ _ _ _ _ us hl => match us, hl with | [_, _, _, _, _, _], _ => rfl) fun f fd F => ok_lpairs F f__law_here z_len z_range
  have f__law_goes : Fn P w K mg base 3 "_law_goes" ["given", "rules", "inner", "i", "p", "q"] (spPure K 6 fp_lgo) := d__law_goes.fn X G (fun _ _ _ _ _ _ us hl => match us, hl with | [_, _, _, _, _, _], _ => rfl) fun f fd F => ok_lgo F f__law_step
  have f__law_two : Fn P w K mg base 4 "_law_two" ["given", "rules", "low", "high"] (spPure K 4 fp_ltwo) := d__law_two.fn X G (fun _ _ _ _ _ _ us hl => match us, hl with | [_, _, _, _], _ => rfl) fun f fd F => ok_ltwo F f__law_pairs f__law_goes z_len z_range z_min z_tuple
  exact b_law f__law_box f__law_take f__law_rules f__law_given f__law_two f_set_two z_tuple z_range z_max z_min z_repr cdv callerA [] s' H E ns hr hg hn
end K16
open PySem PySem.W PyProof.Rows
set_option maxHeartbeats 0 in
theorem PySem.Challenge.cw_tunehouse_k16_whole_two_lines_below_a_gi_holds : PySem.Challenge.rw_tunehouse_k16_whole_two_lines_below_a_gi.Holds := by
  w_on; o_law; k_head; (case hw => w_witness2)
  k_fill
  refine Pl.law_walk (l := PySem.Challenge.rw_tunehouse_k16_whole_two_lines_below_a_gi) (k := 5) (N := K16.N_law) (st := K16.s_law) rfl rfl K16.sc_law ⟨rfl, by decide, by decide⟩ (fun w h Y => PySem.W.kIn_of Y) ?F
  case F =>
    intro w mg fa h KX G hmg
    refine' K16.all_mk KX G hmg ?d_apart ?d_here_breaks ?d_step_breaks ?d_is_number ?d_is_below ?d_is_line ?d_is_rules ?d_check_given ?d_check_range ?d_pairs_at ?d_can_go ?d_other_line ?d_set_two ?d__law_box ?d__law_take ?d__law_rules ?d__law_given ?d__law_apart ?d__law_here ?d__law_step ?d__law_pairs ?d__law_goes ?d__law_two ?d_law ?n_abs ?n_isinstance ?n_int ?n_bool ?n_tuple ?n_len ?n_all ?n_str ?n_zip ?n_range ?n_min ?n_any ?n_max ?n_repr ?c_RULES ?c_GOOD ?c_WHITE ?c_MOST_LINE ?c_MOST_TWO
    case d_apart =>
      refine' Pl.dfn_mk ?a ?l ?c ?k
      (case a => k_is); (case l => k_is); (case c => k_is); (case k => k_is)
    case d_here_breaks =>
      refine' Pl.dfn_mk ?a ?l ?c ?k
      (case a => k_is); (case l => k_is); (case c => k_is); (case k => k_is)
    case d_step_breaks =>
      refine' Pl.dfn_mk ?a ?l ?c ?k
      (case a => k_is); (case l => k_is); (case c => k_is); (case k => k_is)
    case d_is_number =>
      refine' Pl.dfn_mk ?a ?l ?c ?k
      (case a => k_is); (case l => k_is); (case c => k_is); (case k => k_is)
    case d_is_below =>
      refine' Pl.dfn_mk ?a ?l ?c ?k
      (case a => k_is); (case l => k_is); (case c => k_is); (case k => k_is)
    case d_is_line =>
      refine' Pl.dfn_mk ?a ?l ?c ?k
      (case a => k_is); (case l => k_is); (case c => k_is); (case k => k_is)
    case d_is_rules =>
      refine' Pl.dfn_mk ?a ?l ?c ?k
      (case a => k_is); (case l => k_is); (case c => k_is); (case k => k_is)
    case d_check_given =>
      refine' Pl.dfn_mk ?a ?l ?c ?k
      (case a => k_is); (case l => k_is); (case c => k_is); (case k => k_is)
    case d_check_range =>
      refine' Pl.dfn_mk ?a ?l ?c ?k
      (case a => k_is); (case l => k_is); (case c => k_is); (case k => k_is)
    case d_pairs_at =>
      refine' Pl.dfn_mk ?a ?l ?c ?k
      (case a => k_is); (case l => k_is); (case c => k_is); (case k => k_is)
    case d_can_go =>
      refine' Pl.dfn_mk ?a ?l ?c ?k
      (case a => k_is); (case l => k_is); (case c => k_is); (case k => k_is)
    case d_other_line =>
      refine' Pl.dfn_mk ?a ?l ?c ?k
      (case a => k_is); (case l => k_is); (case c => k_is); (case k => k_is)
    case d_set_two =>
      refine' Pl.dfn_mk ?a ?l ?c ?k
      (case a => k_is); (case l => k_is); (case c => k_is); (case k => k_is)
    case d__law_box =>
      refine' Pl.dfn_mk ?a ?l ?c ?k
      (case a => k_is); (case l => k_is); (case c => k_is); (case k => k_is)
    case d__law_take =>
      refine' Pl.dfn_mk ?a ?l ?c ?k
      (case a => k_is); (case l => k_is); (case c => k_is); (case k => k_is)
    case d__law_rules =>
      refine' Pl.dfn_mk ?a ?l ?c ?k
      (case a => k_is); (case l => k_is); (case c => k_is); (case k => k_is)
    case d__law_given =>
      refine' Pl.dfn_mk ?a ?l ?c ?k
      (case a => k_is); (case l => k_is); (case c => k_is); (case k => k_is)
    case d__law_apart =>
      refine' Pl.dfn_mk ?a ?l ?c ?k
      (case a => k_is); (case l => k_is); (case c => k_is); (case k => k_is)
    case d__law_here =>
      refine' Pl.dfn_mk ?a ?l ?c ?k
      (case a => k_is); (case l => k_is); (case c => k_is); (case k => k_is)
    case d__law_step =>
      refine' Pl.dfn_mk ?a ?l ?c ?k
      (case a => k_is); (case l => k_is); (case c => k_is); (case k => k_is)
    case d__law_pairs =>
      refine' Pl.dfn_mk ?a ?l ?c ?k
      (case a => k_is); (case l => k_is); (case c => k_is); (case k => k_is)
    case d__law_goes =>
      refine' Pl.dfn_mk ?a ?l ?c ?k
      (case a => k_is); (case l => k_is); (case c => k_is); (case k => k_is)
    case d__law_two =>
      refine' Pl.dfn_mk ?a ?l ?c ?k
      (case a => k_is); (case l => k_is); (case c => k_is); (case k => k_is)
    case d_law =>
      refine' Pl.dfn_mk ?a ?l ?c ?k
      (case a => k_is); (case l => k_is); (case c => k_is); (case k => k_is)
    (case n_abs => k_is)
    (case n_isinstance => k_is)
    (case n_int => k_is)
    (case n_bool => k_is)
    (case n_tuple => k_is)
    (case n_len => k_is)
    (case n_all => k_is)
    (case n_str => k_is)
    (case n_zip => k_is)
    (case n_range => k_is)
    (case n_min => k_is)
    (case n_any => k_is)
    (case n_max => k_is)
    (case n_repr => k_is)
    case c_RULES =>
      refine' Pl.ctup_mk ?a ?l ?s ?r
      (case a => k_is); (case l => k_is); (case s => decide); (case r => rfl)
    case c_GOOD =>
      refine' Pl.ctup_mk ?a ?l ?s ?r
      (case a => k_is); (case l => k_is); (case s => decide); (case r => rfl)
    case c_WHITE =>
      refine' Pl.ctup_mk ?a ?l ?s ?r
      (case a => k_is); (case l => k_is); (case s => decide); (case r => rfl)
    case c_MOST_LINE =>
      refine' Pl.cint_mk ?a
      (case a => k_is)
    case c_MOST_TWO =>
      refine' Pl.cint_mk ?a
      (case a => k_is)
