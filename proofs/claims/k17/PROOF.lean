import PyProof.Rows.All
import HandS.ForMost
import HandS.ForExc
import HandS.Evl
import HandS.IsInst
import HandS.Style
import HandS.TupMul
import HandS.TupAny
import HandS.Wide
import HandS.TupLe
import HandS.Zip
import KE.DatumOrd
import PyProof.ReprRoads
import PyProof.Rows.ReprR
import HandS.Flow
import HandS.HeadHook2
import HandS.DictTup
import PyProof.EqAt
import PyProof.EqKinds
import HandS.Small
import Wide.All
import OpenK.AllK
import Wide.FinOn
import PyProof.ListMulRoad
import PyProof.FactsAll.tuple_2
import PyProof.P3Eq
import PySem.Challenge.RW_tunehouse_k17_whole_three_voices_of_a_me
set_option Elab.async false
set_option linter.all false
set_option maxRecDepth 100000
set_option maxHeartbeats 4000000
namespace Pl
open PySem PySem.Spec PyProof.Rows L2
open Evl (Ex ex_t ex_l)

/-! frozen data -/
mutual
inductive Is (K : PySem.W.Frag) (H : Hp) : V → PyData → Prop
  | non : Is K H .non .none
  | bl (b : Bool) : Is K H (.bl b) (.bool b)
  | int (i : Int) : Is K H (.int i) (.int i)
  | str (x : Str) : Is K H (.str x) (.str x)
  | lst {a : Addr} {xs : List V} {ds : List PyData} : SqL K H a xs → IsAll K H xs ds → Is K H (.ref a) (.list ds)
  | tup {a : Addr} {xs : List V} {ds : List PyData} : SqT K H a xs → IsAll K H xs ds → Is K H (.ref a) (.tuple ds)
inductive IsAll (K : PySem.W.Frag) (H : Hp) : List V → List PyData → Prop
  | nil : IsAll K H [] []
  | cons {v : V} {vs : List V} {d : PyData} {ds : List PyData} : Is K H v d → IsAll K H vs ds → IsAll K H (v :: vs) (d :: ds)
end
section
variable {K : PySem.W.Frag} {G H H' : Hp}
mutual
theorem Is.mono (e : Ex H H') : ∀ {v : V} {d : PyData}, Is K H v d → Is K H' v d
  | _, _, .non => .non
  | _, _, .bl b => .bl b
  | _, _, .int i => .int i
  | _, _, .str x => .str x
  | _, _, .lst h t => .lst (ex_l e h) (IsAll.mono e t)
  | _, _, .tup h t => .tup (ex_t e h) (IsAll.mono e t)
theorem IsAll.mono (e : Ex H H') : ∀ {vs : List V} {ds : List PyData}, IsAll K H vs ds → IsAll K H' vs ds
  | _, _, .nil => .nil
  | _, _, .cons h t => .cons (Is.mono e h) (IsAll.mono e t)
end
mutual
theorem Is.dp : ∀ {v : V} {d : PyData}, Is K H v d → Dp K H v d
  | _, _, .non => .non
  | _, _, .bl b => .bl b
  | _, _, .int i => .int i
  | _, _, .str x => .str x
  | _, _, .lst h t => .lst h (IsAll.dp t)
  | _, _, .tup h t => .tup h (IsAll.dp t)
theorem IsAll.dp : ∀ {vs : List V} {ds : List PyData}, IsAll K H vs ds → DpAll K H vs ds
  | _, _, .nil => .nil
  | _, _, .cons h t => .cons (Is.dp h) (IsAll.dp t)
end
theorem IsAll.length : ∀ {vs : List V} {ds : List PyData}, IsAll K H vs ds → vs.length = ds.length
  | _, _, .nil => rfl
  | _, _, .cons _ t => congrArg (· + 1) (IsAll.length t)
theorem IsAll.get : ∀ {vs : List V} {ds : List PyData} {i : Nat} {d : PyData}, IsAll K H vs ds → ds[i]? = some d → ∃ v, vs[i]? = some v ∧ Is K H v d
  | _, _, _, _, .nil, e => by simp at e
  | _, _, 0, _, .cons h _, e => by
    simp at e
    subst e
    exact ⟨_, rfl, h⟩
  | _, _, i + 1, _, .cons _ t, e => by
    obtain ⟨v, h1, h2⟩ := IsAll.get (i := i) t (by simpa using e)
    exact ⟨v, by simpa using h1, h2⟩
theorem IsAll.get' : ∀ {vs : List V} {ds : List PyData} {i : Nat} {v : V}, IsAll K H vs ds → vs[i]? = some v → ∃ d, ds[i]? = some d ∧ Is K H v d
  | _, _, _, _, .nil, e => by simp at e
  | _, _, 0, _, .cons h _, e => by
    simp at e
    subst e
    exact ⟨_, rfl, h⟩
  | _, _, i + 1, _, .cons _ t, e => by
    obtain ⟨v, h1, h2⟩ := IsAll.get' (i := i) t (by simpa using e)
    exact ⟨v, by simpa using h1, h2⟩
theorem IsAll.app : ∀ {vs ws : List V} {ds es : List PyData}, IsAll K H vs ds → IsAll K H ws es → IsAll K H (vs ++ ws) (ds ++ es)
  | _, _, _, _, .nil, t => t
  | _, _, _, _, .cons h r, t => .cons h (IsAll.app r t)
theorem IsAll.snoc {vs : List V} {ds : List PyData} {v : V} {d : PyData} (h : IsAll K H vs ds) (t : Is K H v d) : IsAll K H (vs ++ [v]) (ds ++ [d]) := h.app (.cons t .nil)
theorem IsAll.set : ∀ {vs : List V} {ds : List PyData} {v : V} {d : PyData} (i : Nat), IsAll K H vs ds → Is K H v d → IsAll K H (vs.set i v) (ds.set i d)
  | _, _, _, _, _, .nil, _ => .nil
  | _, _, _, _, 0, .cons _ r, t => .cons t r
  | _, _, _, _, i + 1, .cons h r, t => .cons h (IsAll.set i r t)
theorem IsAll.drop : ∀ {vs : List V} {ds : List PyData} (i : Nat), IsAll K H vs ds → IsAll K H (vs.drop i) (ds.drop i)
  | _, _, 0, t => t
  | _, _, _ + 1, .nil => .nil
  | _, _, i + 1, .cons _ r => IsAll.drop i r
theorem IsAll.take : ∀ {vs : List V} {ds : List PyData} (i : Nat), IsAll K H vs ds → IsAll K H (vs.take i) (ds.take i)
  | _, _, 0, _ => .nil
  | _, _, _ + 1, .nil => .nil
  | _, _, i + 1, .cons h r => .cons h (IsAll.take i r)
theorem IsAll.dropLast {vs : List V} {ds : List PyData} (h : IsAll K H vs ds) : IsAll K H vs.dropLast ds.dropLast := by
  rw [List.dropLast_eq_take, List.dropLast_eq_take, h.length]
  exact h.take _
theorem IsAll.rep {vs : List V} {ds : List PyData} (h : IsAll K H vs ds) : ∀ k : Nat, IsAll K H (List.replicate k vs).flatten (List.replicate k ds).flatten
  | 0 => .nil
  | k + 1 => by
    rw [List.replicate_succ, List.replicate_succ, List.flatten_cons, List.flatten_cons]
    exact h.app (IsAll.rep h k)
theorem IsAll.ints : ∀ {vs : List V} {ns : List Int}, IsAll K H vs (ns.map PyData.int) → vs = ns.map V.int
  | _, [], h => by
    cases h
    rfl
  | _, n :: ns, h => by
    rw [List.map_cons] at h
    cases h with
    | cons h1 h2 =>
      cases h1
      rw [IsAll.ints h2, List.map_cons]
theorem IsAll.bls : ∀ {vs : List V} {ns : List Bool}, IsAll K H vs (ns.map PyData.bool) → vs = ns.map V.bl
  | _, [], h => by
    cases h
    rfl
  | _, n :: ns, h => by
    rw [List.map_cons] at h
    cases h with
    | cons h1 h2 =>
      cases h1
      rw [IsAll.bls h2, List.map_cons]
theorem IsAll.of_ints : ∀ ns : List Int, IsAll K H (ns.map V.int) (ns.map PyData.int)
  | [] => .nil
  | n :: ns => .cons (.int n) (IsAll.of_ints ns)
end

/-! growth without change -/
structure PSt (G H G' H' : Hp) : Prop where
  gg : Ex G G'
  hh : Ex H H'
  gh : Ex G' H'
  fr : ∀ a, G a = none → H a ≠ none → G' a = none
theorem PSt.refl {G H : Hp} (e : Ex G H) : PSt G H G H := ⟨Ex.refl G, Ex.refl H, e, fun _ h _ => h⟩
theorem PSt.trans {G H G1 H1 G2 H2 : Hp} (a : PSt G H G1 H1) (b : PSt G1 H1 G2 H2) : PSt G H G2 H2 :=
  ⟨a.gg.trans b.gg, a.hh.trans b.hh, b.gh, fun x h1 h2 => b.fr x (a.fr x h1 h2) fun z => by
    cases e : H x with
    | none => exact h2 e
    | some o =>
      rw [a.hh x o e] at z
      cases z⟩
theorem no_of {G H : Hp} (e : Ex G H) {p : Addr} (h : H p = none) : G p = none := by
  cases q : G p with
  | none => rfl
  | some o =>
    rw [e p o q] at h
    cases h
theorem ex_upd {G H : Hp} {p : Addr} {o : HO} (e : Ex G H) (h : G p = none) : Ex (upd G p o) (upd H p o) := fun a u q => by
  by_cases hp : a = p
  · subst hp
    rw [upd_same] at q ⊢
    exact q
  · rw [upd_ne hp] at q ⊢
    exact e a u q
theorem PSt.new {G H : Hp} {p : Addr} {o : HO} (e : Ex G H) (h : H p = none) : PSt G H (upd G p o) (upd H p o) :=
  ⟨Ex.new (no_of e h), Ex.new h, ex_upd e (no_of e h), fun a h1 h2 => by
    rw [upd_ne fun z => h2 (by rw [z]; exact h)]
    exact h1⟩
/-- something new that is not frozen -/
theorem PSt.newH {G H : Hp} {p : Addr} {o : HO} (e : Ex G H) (h : H p = none) : PSt G H G (upd H p o) :=
  ⟨Ex.refl G, Ex.new h, e.trans (Ex.new h), fun a h1 _ => h1⟩

/-! slots -/
/-- what is said of an own thing: of its address, its content, over what is frozen -/
structure Ow where
  p : PySem.W.Frag → Hp → Addr → HO → Prop
  up : ∀ {K : PySem.W.Frag} {G G' : Hp} {a : Addr} {o : HO}, Ex G G' → p K G a o → p K G' a o
inductive Sl where
  | un
  | dat (d : PyData)
  | lst (a : Addr) (ds : List PyData)
  | obj (a : Addr) (o : Ow)
def Sl.own : Sl → Option Addr
  | .un => none
  | .dat _ => none
  | .lst a _ => some a
  | .obj a _ => some a
abbrev Rho := List Sl
def OwnAt (ρ : Rho) (i : Nat) (a : Addr) : Prop := ∃ s, ρ[i]? = some s ∧ s.own = some a
def Own (ρ : Rho) (a : Addr) : Prop := ∃ i, OwnAt ρ i a
def SlOk (K : PySem.W.Frag) (σ : L2.St) (G H : Hp) (i : Nat) : Sl → Prop
  | .un => True
  | .dat d => ∃ v, σ[i]? = some (some v) ∧ Is K G v d
  | .lst a ds => σ[i]? = some (some (.ref a)) ∧ G a = none ∧ ∃ vs, H a = some (.lst vs) ∧ IsAll K G vs ds
  | .obj a o => σ[i]? = some (some (.ref a)) ∧ G a = none ∧ ∃ u, H a = some u ∧ o.p K G a u
structure Rel (K : PySem.W.Frag) (ρ : Rho) (σ : L2.St) (G H : Hp) : Prop where
  ex : Ex G H
  len : ρ.length = σ.length
  sl : ∀ i s, ρ[i]? = some s → SlOk K σ G H i s
  ds : ∀ i j a, OwnAt ρ i a → OwnAt ρ j a → i = j
structure Stp (ρ : Rho) (G H : Hp) (ρ' : Rho) (G' H' : Hp) : Prop where
  gg : Ex G G'
  fr : ∀ a, ¬ Own ρ a → G a = none → H a ≠ none → G' a = none
  kp : ∀ a o, ¬ Own ρ a → H a = some o → H' a = some o
  al : ∀ a, H a ≠ none → H' a ≠ none
  ow : ∀ a, Own ρ' a → Own ρ a ∨ H a = none
theorem Stp.refl {ρ : Rho} {G H : Hp} : Stp ρ G H ρ G H := ⟨Ex.refl G, fun _ _ h _ => h, fun _ _ _ h => h, fun _ h => h, fun _ h => .inl h⟩
theorem Stp.trans {ρ ρ1 ρ2 : Rho} {G H G1 H1 G2 H2 : Hp} (a : Stp ρ G H ρ1 G1 H1) (b : Stp ρ1 G1 H1 ρ2 G2 H2) : Stp ρ G H ρ2 G2 H2 := by
  have no : ∀ x, ¬ Own ρ x → H x ≠ none → ¬ Own ρ1 x := fun x h1 h2 z => by
    rcases a.ow x z with z | z
    · exact h1 z
    · exact h2 z
  refine ⟨a.gg.trans b.gg, fun x h1 h2 h3 => b.fr x (no x h1 h3) (a.fr x h1 h2 h3) (a.al x h3), fun x o h1 h2 => ?_, fun x h => b.al x (a.al x h), fun x h => ?_⟩
  · exact b.kp x o (no x h1 fun z => by rw [h2] at z; cases z) (a.kp x o h1 h2)
  · rcases b.ow x h with z | z
    · exact a.ow x z
    · refine .inr ?_
      cases e : H x with
      | none => rfl
      | some o => exact absurd z (a.al x fun q => by rw [e] at q; cases q)
theorem PSt.stp {ρ : Rho} {G H G' H' : Hp} (p : PSt G H G' H') : Stp ρ G H ρ G' H' :=
  ⟨p.gg, fun a _ h1 h2 => p.fr a h1 h2, fun a o _ h => p.hh a o h, (fun a h z => by
    cases e : H a with
    | none => exact h e
    | some o =>
      rw [p.hh a o e] at z
      cases z), fun _ h => .inl h⟩
section
variable {K : PySem.W.Frag} {ρ ρ' : Rho} {σ : L2.St} {G H G' H' : Hp}
theorem SlOk.pure {i : Nat} {s : Sl} (p : PSt G H G' H') (h : SlOk K σ G H i s) : SlOk K σ G' H' i s := by
  cases s with
  | un => trivial
  | dat d =>
    obtain ⟨v, e, h⟩ := h
    exact ⟨v, e, h.mono p.gg⟩
  | lst a ds =>
    obtain ⟨e, n, vs, h1, h2⟩ := h
    exact ⟨e, p.fr a n (by rw [h1]; exact nofun), vs, p.hh _ _ h1, h2.mono p.gg⟩
  | obj a o =>
    obtain ⟨e, n, u, h1, h2⟩ := h
    exact ⟨e, p.fr a n (by rw [h1]; exact nofun), u, p.hh _ _ h1, o.up p.gg h2⟩
theorem Rel.pure (r : Rel K ρ σ G H) (p : PSt G H G' H') : Rel K ρ σ G' H' := ⟨p.gh, r.len, fun i s e => (r.sl i s e).pure p, r.ds⟩
theorem Rel.ownH (r : Rel K ρ σ G H) {i : Nat} {a : Addr} (h : OwnAt ρ i a) : G a = none ∧ H a ≠ none ∧ σ[i]? = some (some (.ref a)) := by
  obtain ⟨s, e, h⟩ := h
  have q := r.sl i s e
  cases s with
  | un => cases h
  | dat d => cases h
  | lst b ds =>
    cases h
    obtain ⟨e, n, vs, h1, h2⟩ := q
    exact ⟨n, by rw [h1]; exact nofun, e⟩
  | obj b o =>
    cases h
    obtain ⟨e, n, u, h1, h2⟩ := q
    exact ⟨n, by rw [h1]; exact nofun, e⟩
theorem ownAt_set {s : Sl} {i j : Nat} {a : Addr} (h : OwnAt (ρ.set i s) j a) : (j = i ∧ s.own = some a) ∨ (j ≠ i ∧ OwnAt ρ j a) := by
  obtain ⟨t, e, h⟩ := h
  by_cases hj : j = i
  · subst hj
    by_cases hl : j < ρ.length
    · rw [List.getElem?_set_self hl] at e
      cases e
      exact .inl ⟨rfl, h⟩
    · rw [List.getElem?_eq_none (by rw [List.length_set]; omega)] at e
      cases e
  · rw [List.getElem?_set_ne (Ne.symm hj)] at e
    exact .inr ⟨hj, t, e, h⟩
theorem SlOk.slot {σ' : L2.St} {i : Nat} {s : Sl} (h : SlOk K σ G H i s) (e : σ'[i]? = σ[i]?) : SlOk K σ' G H i s := by
  cases s with
  | un => trivial
  | dat d =>
    obtain ⟨v, q, h⟩ := h
    exact ⟨v, e.trans q, h⟩
  | lst a ds =>
    obtain ⟨q, h⟩ := h
    exact ⟨e.trans q, h⟩
  | obj a o =>
    obtain ⟨q, h⟩ := h
    exact ⟨e.trans q, h⟩
/-- a slot set: s is in order at the new σ -/
theorem Rel.set {s : Sl} {i : Nat} {o : Option V} (r : Rel K ρ σ G H) (h : i < ρ.length → SlOk K (σ.set i o) G H i s) (hn : ∀ a, s.own = some a → ¬ Own ρ a) : Rel K (ρ.set i s) (σ.set i o) G H := by
  refine ⟨r.ex, by rw [List.length_set, List.length_set, r.len], fun j t e => ?_, fun j k a h1 h2 => ?_⟩
  · by_cases hj : j = i
    · subst hj
      by_cases hl : j < ρ.length
      · rw [List.getElem?_set_self hl] at e
        cases e
        exact h hl
      · rw [List.getElem?_eq_none (by rw [List.length_set]; omega)] at e
        cases e
    · rw [List.getElem?_set_ne (Ne.symm hj)] at e
      exact (r.sl j t e).slot (by rw [List.getElem?_set_ne (Ne.symm hj)])
  · rcases ownAt_set h1 with ⟨e1, q1⟩ | ⟨e1, q1⟩ <;> rcases ownAt_set h2 with ⟨e2, q2⟩ | ⟨e2, q2⟩
    · exact e1.trans e2.symm
    · exact absurd ⟨k, q2⟩ (hn a q1)
    · exact absurd ⟨j, q1⟩ (hn a q2)
    · exact r.ds j k a q1 q2
theorem Rel.dat {i : Nat} {v : V} {d : PyData} (r : Rel K ρ σ G H) (h : Is K G v d) : Rel K (ρ.set i (.dat d)) (σ.set i (some v)) G H :=
  r.set (fun hl => ⟨v, by rw [List.getElem?_set_self (by rw [← r.len]; exact hl)], h⟩) fun a z => by cases z
theorem own_dat {i : Nat} {d : PyData} {a : Addr} (h : Own (ρ.set i (.dat d)) a) : Own ρ a := by
  obtain ⟨j, h⟩ := h
  rcases ownAt_set h with ⟨_, q⟩ | ⟨_, q⟩
  · cases q
  · exact ⟨j, q⟩
theorem Stp.dat {i : Nat} {d : PyData} : Stp ρ G H (ρ.set i (.dat d)) G H := ⟨Ex.refl G, fun _ _ h _ => h, fun _ _ _ h => h, fun _ h => h, fun _ h => .inl (own_dat h)⟩
/-- an own list newly laid in a slot -/
theorem Rel.new {i : Nat} {a : Addr} {vs : List V} {ds : List PyData} (r : Rel K ρ σ G H) (hG : G a = none) (hH : H a = some (.lst vs)) (h : IsAll K G vs ds) (hn : ¬ Own ρ a) : Rel K (ρ.set i (.lst a ds)) (σ.set i (some (.ref a))) G H :=
  r.set (fun hl => ⟨by rw [List.getElem?_set_self (by rw [← r.len]; exact hl)], hG, vs, hH, h⟩) fun b z => by cases z; exact hn
/-- an own list changed -/
theorem Rel.upd {i : Nat} {a : Addr} {vs : List V} {ds es : List PyData} (r : Rel K ρ σ G H) (e : ρ[i]? = some (.lst a ds)) (h : IsAll K G vs es) : Rel K (ρ.set i (.lst a es)) σ G (upd H a (.lst vs)) := by
  have hi : i < ρ.length := (List.getElem?_eq_some_iff.mp e).1
  have own : OwnAt ρ i a := ⟨_, e, rfl⟩
  obtain ⟨nG, nH, eσ⟩ := r.ownH own
  refine ⟨Ex.mut r.ex nG, by rw [List.length_set, r.len], fun j t q => ?_, fun j k b h1 h2 => ?_⟩
  · by_cases hj : j = i
    · subst hj
      rw [List.getElem?_set_self hi] at q
      cases q
      exact ⟨eσ, nG, vs, upd_same, h⟩
    · rw [List.getElem?_set_ne (Ne.symm hj)] at q
      have z := r.sl j t q
      cases t with
      | un => trivial
      | dat d => exact z
      | lst b fs =>
        obtain ⟨z1, z2, ws, z3, z4⟩ := z
        exact ⟨z1, z2, ws, by rw [upd_ne fun y => hj (r.ds j i a ⟨_, q, by rw [← y]; rfl⟩ own)]; exact z3, z4⟩
      | obj b o =>
        obtain ⟨z1, z2, u, z3, z4⟩ := z
        exact ⟨z1, z2, u, by rw [upd_ne fun y => hj (r.ds j i a ⟨_, q, by rw [← y]; rfl⟩ own)]; exact z3, z4⟩
  · have back : ∀ j, OwnAt (ρ.set i (.lst a es)) j b → OwnAt ρ j b := fun j h => by
      rcases ownAt_set h with ⟨e1, q⟩ | ⟨_, q⟩
      · cases q
        rw [e1]
        exact own
      · exact q
    exact r.ds j k b (back j h1) (back k h2)
theorem Stp.upd {i : Nat} {a : Addr} {vs : List V} {ds es : List PyData} (e : ρ[i]? = some (.lst a ds)) : Stp ρ G H (ρ.set i (.lst a es)) G (upd H a (.lst vs)) := by
  have own : Own ρ a := ⟨i, _, e, rfl⟩
  refine ⟨Ex.refl G, fun _ _ h _ => h, fun b o h1 h2 => ?_, fun b h => ?_, fun b h => ?_⟩
  · rw [upd_ne fun z => h1 (by rw [z]; exact own)]
    exact h2
  · by_cases hb : b = a
    · rw [hb, upd_same]
      exact fun z => by cases z
    · rw [upd_ne hb]
      exact h
  · obtain ⟨j, h⟩ := h
    rcases ownAt_set h with ⟨_, q⟩ | ⟨_, q⟩
    · cases q
      exact .inl own
    · exact .inl ⟨j, q⟩
/-- the same object with other slots: a ρ that says no more -/
structure Weak (ρ ρ' : Rho) : Prop where
  len : ρ'.length = ρ.length
  sl : ∀ (i : Nat) (s : Sl), ρ'[i]? = some s → s = Sl.un ∨ ρ[i]? = some s
theorem Weak.own (w : Weak ρ ρ') {i : Nat} {a : Addr} (h : OwnAt ρ' i a) : OwnAt ρ i a := by
  obtain ⟨s, e, h⟩ := h
  rcases w.sl i s e with z | z
  · rw [z] at h
    cases h
  · exact ⟨s, z, h⟩
theorem Rel.weak (r : Rel K ρ σ G H) (w : Weak ρ ρ') : Rel K ρ' σ G H :=
  ⟨r.ex, w.len.trans r.len, fun i s e => by
    rcases w.sl i s e with z | z
    · rw [z]
      trivial
    · exact r.sl i s z, fun i j a h1 h2 => r.ds i j a (w.own h1) (w.own h2)⟩
theorem Weak.stp (w : Weak ρ ρ') : Stp ρ G H ρ' G H := ⟨Ex.refl G, fun _ _ h _ => h, fun _ _ _ h => h, fun _ h => h, fun _ ⟨i, h⟩ => .inl ⟨i, w.own h⟩⟩
/-- an own list frozen -/
theorem Rel.freeze {i : Nat} {a : Addr} {ds : List PyData} (r : Rel K ρ σ G H) (e : ρ[i]? = some (.lst a ds)) : ∃ G', Rel K (ρ.set i (.dat (.list ds))) σ G' H ∧ Stp ρ G H (ρ.set i (.dat (.list ds))) G' H := by
  have hi : i < ρ.length := (List.getElem?_eq_some_iff.mp e).1
  have own : OwnAt ρ i a := ⟨_, e, rfl⟩
  obtain ⟨eσ, nG, vs, hH, hv⟩ := r.sl i _ e
  have e1 : Ex G (L2.upd G a (.lst vs)) := Ex.new nG
  have e2 : Ex (L2.upd G a (.lst vs)) H := fun b o q => by
    by_cases hb : b = a
    · subst hb
      rw [upd_same] at q
      cases q
      exact hH
    · rw [upd_ne hb] at q
      exact r.ex b o q
  refine ⟨L2.upd G a (.lst vs), ⟨e2, by rw [List.length_set, r.len], fun j t q => ?_, fun j k b h1 h2 => ?_⟩, ⟨e1, fun b h1 h2 _ => ?_, fun _ _ _ h => h, fun _ h => h, fun _ h => .inl (own_dat h)⟩⟩
  · by_cases hj : j = i
    · subst hj
      rw [List.getElem?_set_self hi] at q
      cases q
      exact ⟨_, eσ, .lst (SqL.of upd_same) (hv.mono e1)⟩
    · rw [List.getElem?_set_ne (Ne.symm hj)] at q
      have z := r.sl j t q
      cases t with
      | un => trivial
      | dat d =>
        obtain ⟨v, z1, z2⟩ := z
        exact ⟨v, z1, z2.mono e1⟩
      | lst b fs =>
        obtain ⟨z1, z2, ws, z3, z4⟩ := z
        exact ⟨z1, by rw [upd_ne fun y => hj (r.ds j i a ⟨_, q, by rw [← y]; rfl⟩ own)]; exact z2, ws, z3, z4.mono e1⟩
      | obj b o =>
        obtain ⟨z1, z2, u, z3, z4⟩ := z
        exact ⟨z1, by rw [upd_ne fun y => hj (r.ds j i a ⟨_, q, by rw [← y]; rfl⟩ own)]; exact z2, u, z3, o.up e1 z4⟩
  · have back : ∀ j, OwnAt (ρ.set i (.dat (.list ds))) j b → OwnAt ρ j b := fun j h => by
      rcases ownAt_set h with ⟨_, q⟩ | ⟨_, q⟩
      · cases q
      · exact q
    exact r.ds j k b (back j h1) (back k h2)
  · rw [upd_ne fun z => h1 (by rw [z]; exact ⟨i, own⟩)]
    exact h2
end
end Pl
namespace Pl
open PySem PySem.Spec PyProof.Rows L2
open Evl (Ex ex_t ex_l)

/-! the readings that say just what runs (structures: nothing unfolds them) -/
section
variable (X : Cx)
structure TeR (e : Expr) (σ : L2.St) (H : Hp) (Q : VK) : Prop where
  run : ∀ pins s, Inv X pins σ H s → wpAny (model X.prog X.w) X.A (eval e X.env) (EP X pins σ Q) X.xe s
structure TtR (e : Expr) (σ : L2.St) (H : Hp) (Q : Bool → Hp → Prop) : Prop where
  run : ∀ pins s, Inv X pins σ H s → wpAny (model X.prog X.w) X.A (isTrue e X.env (eval e X.env)) (TP X pins σ Q) X.xe s
structure TwR (e : Expr) (σ : L2.St) (H : Hp) (Q : Bool → Hp → Prop) : Prop where
  run : ∀ whole pins s, Inv X pins σ H s → wpAny (model X.prog X.w) X.A (isTrue e X.env whole) (TP X pins σ Q) X.xe s
structure TaR (es : List Expr) (σ : L2.St) (H : Hp) (Q : List V → Hp → Prop) : Prop where
  run : ∀ pos pins s, Inv X pins σ H s → wpAny (model X.prog X.w) X.A (spliced (backTo pos (starEach es X.env))) (AP X pins σ Q) X.xe s
structure TsR (st : Stmt) (D : Ends) (σ : L2.St) (H : Hp) : Prop where
  run : ∀ pins s, Inv X pins σ H s → wpAny (model X.prog X.w) X.A (exec st X.env) (SP X pins D) X.xe s
structure TbR (sts : List Stmt) (D : Ends) (σ : L2.St) (H : Hp) : Prop where
  run : ∀ pins s, Inv X pins σ H s → wpAny (model X.prog X.w) X.A (execs sts X.env) (SP X pins D) X.xe s
structure TgR (tg : Expr) (v : V) (σ : L2.St) (H : Hp) (Q : L2.St → Hp → Prop) : Prop where
  run : ∀ pins s u, Inv X pins σ H s → RelV v u → wpAny (model X.prog X.w) X.A (assign tg X.env u) (fun _ s' => ∃ σ' H', Inv X pins σ' H' s' ∧ Q σ' H') X.xe s
structure TgsR (ts : List Expr) (vs : List V) (σ : L2.St) (H : Hp) (Q : L2.St → Hp → Prop) : Prop where
  run : ∀ pins s us, Inv X pins σ H s → Vals vs us → wpAny (model X.prog X.w) X.A (assignInOrder ((assignEach ts X.env).map (·.2)) us) (fun _ s' => ∃ σ' H', Inv X pins σ' H' s' ∧ Q σ' H') X.xe s
structure TiR (tg iter : Expr) (σ : L2.St) (H : Hp) (R : It → Hp → Prop) : Prop where
  run : ∀ pins s, Inv X pins σ H s → wpAny (model X.prog X.w) X.A (eval iter X.env) (fun v s1 => wpAny (model X.prog X.w) X.A (pyIter v) (PIE X pins σ tg R) X.xe s1) X.xe s
structure TfR (ifs : List Expr) (σ : L2.St) (H : Hp) (Q : Bool → Hp → Prop) : Prop where
  run : ∀ pins s, Inv X pins σ H s →
    wpAny (model X.prog X.w) X.A (forIn ifs true fun c r => if r = true then do let ok ← isTrue c X.env (eval c X.env); pure (ForInStep.yield ok) else pure (ForInStep.yield r)) (TP X pins σ Q) X.xe s
def teW (e : Expr) : TE := fun σ H Q => TeR X e σ H Q
def ttW (e : Expr) : TT := fun σ H Q => TtR X e σ H Q
def twW (e : Expr) : TT := fun σ H Q => TwR X e σ H Q
def taW (es : List Expr) : TA := fun σ H Q => TaR X es σ H Q
def tsW (st : Stmt) : TS := fun D σ H => TsR X st D σ H
def tbW (sts : List Stmt) : TS := fun D σ H => TbR X sts D σ H
def tgW (tg : Expr) : TG := fun v σ H Q => TgR X tg v σ H Q
def tgsW (ts : List Expr) : TGs := fun vs σ H Q => TgsR X ts vs σ H Q
def tiW (tg iter : Expr) : TI := fun σ H R => TiR X tg iter σ H R
def tfW (ifs : List Expr) : TT := fun σ H Q => TfR X ifs σ H Q
end
section
variable {X : Cx} {e tg iter : Expr} {es ts ifs : List Expr} {st : Stmt} {sts : List Stmt} {σ : L2.St} {H : Hp}
theorem pe_W : PE X e (teW X e) := ⟨fun pins s _ _ _ I h => h.run pins s I⟩
theorem pt_W : PT X e (ttW X e) := ⟨fun pins s _ _ _ I h => h.run pins s I⟩
theorem pw_W : PW X e (twW X e) := ⟨fun wh pins s _ _ _ I h => h.run wh pins s I⟩
theorem pa_W : PA X es (taW X es) := ⟨fun pos pins s _ _ _ I h => h.run pos pins s I⟩
theorem ps_W : PS X st (tsW X st) := ⟨fun pins s _ _ _ I h => h.run pins s I⟩
theorem pb_W : PSs X sts (tbW X sts) := ⟨fun pins s _ _ _ I h => h.run pins s I⟩
theorem pg_W : PG X tg (tgW X tg) := ⟨fun pins s _ _ _ u _ I r h => h.run pins s u I r⟩
theorem pgs_W : PGs X ts (tgsW X ts) := ⟨fun pins s _ _ _ us _ I r h => h.run pins s us I r⟩
theorem pi_W : PI X tg iter (tiW X tg iter) := ⟨fun pins s _ _ _ I h => h.run pins s I⟩
theorem pf_W : PTs X ifs (tfW X ifs) := ⟨fun pins s _ _ _ I h => h.run pins s I⟩
theorem te_of {t : TE} {Q : VK} (h : PE X e t) (q : t σ H Q) : teW X e σ H Q := ⟨fun pins s I => h.run pins s σ H Q I q⟩
theorem tt_of {t : TT} {Q : Bool → Hp → Prop} (h : PT X e t) (q : t σ H Q) : ttW X e σ H Q := ⟨fun pins s I => h.run pins s σ H Q I q⟩
theorem tw_of {t : TT} {Q : Bool → Hp → Prop} (h : PW X e t) (q : t σ H Q) : twW X e σ H Q := ⟨fun wh pins s I => h.run wh pins s σ H Q I q⟩
theorem ta_of {t : TA} {Q : List V → Hp → Prop} (h : PA X es t) (q : t σ H Q) : taW X es σ H Q := ⟨fun pos pins s I => h.run pos pins s σ H Q I q⟩
theorem ts_of {t : TS} {D : Ends} (h : PS X st t) (q : t D σ H) : tsW X st D σ H := ⟨fun pins s I => h.run pins s σ H D I q⟩
theorem tb_of {t : TS} {D : Ends} (h : PSs X sts t) (q : t D σ H) : tbW X sts D σ H := ⟨fun pins s I => h.run pins s σ H D I q⟩
theorem tg_of {t : TG} {v : V} {Q : L2.St → Hp → Prop} (h : PG X tg t) (q : t v σ H Q) : tgW X tg v σ H Q := ⟨fun pins s u I r => h.run pins s σ H v u Q I r q⟩
theorem tgs_of {t : TGs} {vs : List V} {Q : L2.St → Hp → Prop} (h : PGs X ts t) (q : t vs σ H Q) : tgsW X ts vs σ H Q := ⟨fun pins s us I r => h.run pins s σ H vs us Q I r q⟩
theorem ti_of {t : TI} {R : It → Hp → Prop} (h : PI X tg iter t) (q : t σ H R) : tiW X tg iter σ H R := ⟨fun pins s I => h.run pins s σ H R I q⟩
theorem tf_of {t : TT} {Q : Bool → Hp → Prop} (h : PTs X ifs t) (q : t σ H Q) : tfW X ifs σ H Q := ⟨fun pins s I => h.run pins s σ H Q I q⟩
end

/-! judgements over slots -/
section
variable (X : Cx)
/-- an expression gives frozen data -/
def EvW (e : Expr) (ρ : Rho) (Q : PyData → Rho → Prop) : Prop := ∀ (σ : L2.St) (G H : Hp), Rel X.K ρ σ G H → ∀ R : VK,
  (∀ v d ρ' G' H', Rel X.K ρ' σ G' H' → Stp ρ G H ρ' G' H' → Is X.K G' v d → Q d ρ' → R v H') → teW X e σ H R
/-- an expression gives a new list, not yet frozen -/
def ElW (e : Expr) (ρ : Rho) (Q : List PyData → Rho → Prop) : Prop := ∀ (σ : L2.St) (G H : Hp), Rel X.K ρ σ G H → ∀ R : VK,
  (∀ a vs ds ρ' G' H', Rel X.K ρ' σ G' H' → Stp ρ G H ρ' G' H' → G' a = none → ¬ Own ρ' a → H a = none → H' a = some (.lst vs) → IsAll X.K G' vs ds → Q ds ρ' → R (.ref a) H') → teW X e σ H R
def TvW (e : Expr) (ρ : Rho) (Q : Bool → Rho → Prop) : Prop := ∀ (σ : L2.St) (G H : Hp), Rel X.K ρ σ G H → ∀ R : Bool → Hp → Prop,
  (∀ b ρ' G' H', Rel X.K ρ' σ G' H' → Stp ρ G H ρ' G' H' → Q b ρ' → R b H') → ttW X e σ H R
def TwW (e : Expr) (ρ : Rho) (Q : Bool → Rho → Prop) : Prop := ∀ (σ : L2.St) (G H : Hp), Rel X.K ρ σ G H → ∀ R : Bool → Hp → Prop,
  (∀ b ρ' G' H', Rel X.K ρ' σ G' H' → Stp ρ G H ρ' G' H' → Q b ρ' → R b H') → twW X e σ H R
def TfW (ifs : List Expr) (ρ : Rho) (Q : Bool → Rho → Prop) : Prop := ∀ (σ : L2.St) (G H : Hp), Rel X.K ρ σ G H → ∀ R : Bool → Hp → Prop,
  (∀ b ρ' G' H', Rel X.K ρ' σ G' H' → Stp ρ G H ρ' G' H' → Q b ρ' → R b H') → tfW X ifs σ H R
def AvW (es : List Expr) (ρ : Rho) (Q : List PyData → Rho → Prop) : Prop := ∀ (σ : L2.St) (G H : Hp), Rel X.K ρ σ G H → ∀ R : List V → Hp → Prop,
  (∀ vs ds ρ' G' H', Rel X.K ρ' σ G' H' → Stp ρ G H ρ' G' H' → IsAll X.K G' vs ds → Q ds ρ' → R vs H') → taW X es σ H R
/-- only slots in W are changed -/
structure Chg (W : Nat → Prop) (σ σ' : L2.St) : Prop where
  len : σ'.length = σ.length
  out : ∀ j, ¬ W j → σ'[j]? = σ[j]?
theorem Chg.refl {W : Nat → Prop} {σ : L2.St} : Chg W σ σ := ⟨rfl, fun _ _ => rfl⟩
theorem Chg.trans {W : Nat → Prop} {σ σ1 σ2 : L2.St} (a : Chg W σ σ1) (b : Chg W σ1 σ2) : Chg W σ σ2 := ⟨b.len.trans a.len, fun j h => (b.out j h).trans (a.out j h)⟩
structure En where
  nx : Rho → Prop
  rt : PyData → Rho → Prop
  bk : Rho → Prop := fun _ => False
  ct : Rho → Prop := fun _ => False
structure Meets (K : PySem.W.Frag) (ρ : Rho) (G H : Hp) (D : En) (T : Ends) : Prop where
  nx : ∀ ρ' σ' G' H', Rel K ρ' σ' G' H' → Stp ρ G H ρ' G' H' → D.nx ρ' → T.nx σ' H'
  rt : ∀ v d ρ' σ' G' H', Rel K ρ' σ' G' H' → Stp ρ G H ρ' G' H' → Is K G' v d → D.rt d ρ' → T.rt v H'
  bk : ∀ ρ' σ' G' H', Rel K ρ' σ' G' H' → Stp ρ G H ρ' G' H' → D.bk ρ' → T.bk σ' H'
  ct : ∀ ρ' σ' G' H', Rel K ρ' σ' G' H' → Stp ρ G H ρ' G' H' → D.ct ρ' → T.ct σ' H'
def SvW (st : Stmt) (ρ : Rho) (D : En) : Prop := ∀ (σ : L2.St) (G H : Hp), Rel X.K ρ σ G H → ∀ T : Ends, Meets X.K ρ G H D T → tsW X st T σ H
def BvW (sts : List Stmt) (ρ : Rho) (D : En) : Prop := ∀ (σ : L2.St) (G H : Hp), Rel X.K ρ σ G H → ∀ T : Ends, Meets X.K ρ G H D T → tbW X sts T σ H
def GvW (W : Nat → Prop) (tg : Expr) (d : PyData) (ρ : Rho) (Q : Rho → Prop) : Prop := ∀ (σ : L2.St) (G H : Hp) (v : V), Rel X.K ρ σ G H → Is X.K G v d → ∀ R : L2.St → Hp → Prop,
  (∀ ρ' σ' G' H', Rel X.K ρ' σ' G' H' → Stp ρ G H ρ' G' H' → Chg W σ σ' → Q ρ' → R σ' H') → tgW X tg v σ H R
def GsW (W : Nat → Prop) (ts : List Expr) (ds : List PyData) (ρ : Rho) (Q : Rho → Prop) : Prop := ∀ (σ : L2.St) (G H : Hp) (vs : List V), Rel X.K ρ σ G H → IsAll X.K G vs ds → ∀ R : L2.St → Hp → Prop,
  (∀ ρ' σ' G' H', Rel X.K ρ' σ' G' H' → Stp ρ G H ρ' G' H' → Chg W σ σ' → Q ρ' → R σ' H') → tgsW X ts vs σ H R
/-- what is walked yields ds, while Good holds -/
def Yld (K : PySem.W.Frag) (J : It) (σ : L2.St) (G0 : Hp) (Good : Rho → Prop) (ds : List PyData) : Prop := ∀ (i : Nat) (ρ : Rho) (σ' : L2.St) (G H : Hp), Rel K ρ σ' G H → Ex G0 G → Good ρ →
  (i < ds.length → J.go i H ∧ ∀ x H', J.yld i H x H' → ∃ d G', ds[i]? = some d ∧ PSt G H G' H' ∧ Is K G' x d) ∧ (ds.length ≤ i → J.stop i H)
def IvW (tg iter : Expr) (ρ : Rho) (Q : List PyData → (Rho → Prop) → Rho → Prop) : Prop := ∀ (σ : L2.St) (G H : Hp), Rel X.K ρ σ G H → ∀ R : It → Hp → Prop,
  (∀ ds Good J ρ' G' H', Rel X.K ρ' σ G' H' → Stp ρ G H ρ' G' H' → Yld X.K J σ G' Good ds → Q ds Good ρ' → R J H') → tiW X tg iter σ H R
abbrev Ev (e : Expr) (ρ : Rho) (d : PyData) : Prop := EvW X e ρ fun d' ρ' => d' = d ∧ ρ' = ρ
abbrev El (e : Expr) (ρ : Rho) (ds : List PyData) : Prop := ElW X e ρ fun d' ρ' => d' = ds ∧ ρ' = ρ
abbrev Tv (e : Expr) (ρ : Rho) (b : Bool) : Prop := TvW X e ρ fun b' ρ' => b' = b ∧ ρ' = ρ
abbrev Tw (e : Expr) (ρ : Rho) (b : Bool) : Prop := TwW X e ρ fun b' ρ' => b' = b ∧ ρ' = ρ
abbrev Tf (ifs : List Expr) (ρ : Rho) (b : Bool) : Prop := TfW X ifs ρ fun b' ρ' => b' = b ∧ ρ' = ρ
abbrev Av (es : List Expr) (ρ : Rho) (ds : List PyData) : Prop := AvW X es ρ fun d' ρ' => d' = ds ∧ ρ' = ρ
end

section
variable {X : Cx} {e a b c tg iter : Expr} {es ts ifs : List Expr} {ρ : Rho} {d f : PyData} {ds : List PyData} {pos : Pos}
theorem EvW.imp {Q Q' : PyData → Rho → Prop} (h : EvW X e ρ Q) (q : ∀ d ρ', Q d ρ' → Q' d ρ') : EvW X e ρ Q' := fun σ G H r R k => h σ G H r R fun v d ρ' G' H' r' s i z => k v d ρ' G' H' r' s i (q d ρ' z)
theorem ElW.imp {Q Q' : List PyData → Rho → Prop} (h : ElW X e ρ Q) (q : ∀ d ρ', Q d ρ' → Q' d ρ') : ElW X e ρ Q' := fun σ G H r R k => h σ G H r R fun a vs d ρ' G' H' r' s n1 n2 n3 n4 i z => k a vs d ρ' G' H' r' s n1 n2 n3 n4 i (q d ρ' z)
theorem TvW.imp {Q Q' : Bool → Rho → Prop} (h : TvW X e ρ Q) (q : ∀ d ρ', Q d ρ' → Q' d ρ') : TvW X e ρ Q' := fun σ G H r R k => h σ G H r R fun d ρ' G' H' r' s z => k d ρ' G' H' r' s (q d ρ' z)
theorem TwW.imp {Q Q' : Bool → Rho → Prop} (h : TwW X e ρ Q) (q : ∀ d ρ', Q d ρ' → Q' d ρ') : TwW X e ρ Q' := fun σ G H r R k => h σ G H r R fun d ρ' G' H' r' s z => k d ρ' G' H' r' s (q d ρ' z)
theorem TfW.imp {Q Q' : Bool → Rho → Prop} (h : TfW X ifs ρ Q) (q : ∀ d ρ', Q d ρ' → Q' d ρ') : TfW X ifs ρ Q' := fun σ G H r R k => h σ G H r R fun d ρ' G' H' r' s z => k d ρ' G' H' r' s (q d ρ' z)
theorem AvW.imp {Q Q' : List PyData → Rho → Prop} (h : AvW X es ρ Q) (q : ∀ d ρ', Q d ρ' → Q' d ρ') : AvW X es ρ Q' := fun σ G H r R k => h σ G H r R fun vs d ρ' G' H' r' s i z => k vs d ρ' G' H' r' s i (q d ρ' z)
theorem Ev.w {Q : PyData → Rho → Prop} (h : Ev X e ρ d) (q : Q d ρ) : EvW X e ρ Q := EvW.imp h fun _ _ ⟨h1, h2⟩ => by
  subst h1
  subst h2
  exact q
theorem El.w {Q : List PyData → Rho → Prop} (h : El X e ρ ds) (q : Q ds ρ) : ElW X e ρ Q := ElW.imp h fun _ _ ⟨h1, h2⟩ => by
  subst h1
  subst h2
  exact q
theorem Tv.w {Q : Bool → Rho → Prop} {k : Bool} (h : Tv X e ρ k) (q : Q k ρ) : TvW X e ρ Q := TvW.imp h fun _ _ ⟨h1, h2⟩ => by
  subst h1
  subst h2
  exact q
theorem Tw.w {Q : Bool → Rho → Prop} {k : Bool} (h : Tw X e ρ k) (q : Q k ρ) : TwW X e ρ Q := TwW.imp h fun _ _ ⟨h1, h2⟩ => by
  subst h1
  subst h2
  exact q
theorem Tf.w {Q : Bool → Rho → Prop} {k : Bool} (h : Tf X ifs ρ k) (q : Q k ρ) : TfW X ifs ρ Q := TfW.imp h fun _ _ ⟨h1, h2⟩ => by
  subst h1
  subst h2
  exact q
theorem Av.w {Q : List PyData → Rho → Prop} (h : Av X es ρ ds) (q : Q ds ρ) : AvW X es ρ Q := AvW.imp h fun _ _ ⟨h1, h2⟩ => by
  subst h1
  subst h2
  exact q
theorem Ev.to (h : Ev X e ρ d) (q : d = f) : Ev X e ρ f := by
  rw [← q]
  exact h
theorem Tv.to {k k' : Bool} (h : Tv X e ρ k) (q : k = k') : Tv X e ρ k' := by
  rw [← q]
  exact h
theorem Tw.to {k k' : Bool} (h : Tw X e ρ k) (q : k = k') : Tw X e ρ k' := by
  rw [← q]
  exact h

/-! names, constants -/
theorem ew_k {v : V} {Q : PyData → Rho → Prop} (h : PE X e (tC v)) (hi : ∀ G, Is X.K G v d) (q : Q d ρ) : EvW X e ρ Q := fun σ G H r R k => te_of h (show R v H from k v d ρ G H r .refl (hi G) q)
theorem ev_int {i : Int} {j pos} : Ev X (.Constant (.int i) j pos) ρ (.int i) := ew_k pe_int (fun _ => .int i) ⟨rfl, rfl⟩
theorem ev_bl {i : Bool} {j pos} : Ev X (.Constant (.bool i) j pos) ρ (.bool i) := ew_k pe_bl (fun _ => .bl i) ⟨rfl, rfl⟩
theorem ev_non {j pos} : Ev X (.Constant .none j pos) ρ .none := ew_k pe_non (fun _ => .non) ⟨rfl, rfl⟩
theorem ev_str {x : Str} {j pos} : Ev X (.Constant (.str x) j pos) ρ (.str x) := ew_k pe_str (fun _ => .str x) ⟨rfl, rfl⟩
theorem ev_var {i : Nat} {x : Str} (h : ρ[i]? = some (.dat d)) (hN : X.N[i]? = some x := by rfl) (hv : Vis X.env.scope x := by first | exact Or.inl rfl | exact Or.inr (Or.inl rfl) | exact Or.inr (Or.inr rfl)) (hd : (x == ("__debug__" : Str)) = false := by decide)
    (hcd : (x == ("__classdict__" : Str)) = false := by decide) : Ev X (.Name x pos) ρ d := fun σ G H r R k => by
  obtain ⟨v, e1, h1⟩ := r.sl i _ h
  exact te_of (pe_var hN hv hd hcd) ⟨v, e1, k v d ρ G H r .refl h1 ⟨rfl, rfl⟩⟩

/-! operators by values -/
def isN : PyData → Bool
  | .none => true
  | _ => false
def OpD (K : PySem.W.Frag) (r : R2) (d e : PyData) (k : PyData → Prop) : Prop := ∀ (G H : Hp) (v w : V), Ex G H → Is K G v d → Is K G w e → ∀ R : VK, (∀ u f G' H', PSt G H G' H' → Is K G' u f → k f → R u H') → r v w H R
theorem OpD.imp {K : PySem.W.Frag} {r : R2} {d e : PyData} {k k' : PyData → Prop} (h : OpD K r d e k) (q : ∀ f, k f → k' f) : OpD K r d e k' := fun G H v w x hv hw R z => h G H v w x hv hw R fun u f G' H' p i y => z u f G' H' p i (q f y)
variable {r : R2} {Q : PyData → Rho → Prop}
theorem two {ta tb : TE} {Qa : PyData → Rho → Prop} (ha : EvW X a ρ Qa) (hb : ∀ d ρ1, Qa d ρ1 → EvW X b ρ1 fun e ρ2 => OpD X.K r d e fun f => Q f ρ2) {σ : L2.St} {G H : Hp} (rel : Rel X.K ρ σ G H) {R : VK}
    (k : ∀ v d ρ' G' H', Rel X.K ρ' σ G' H' → Stp ρ G H ρ' G' H' → Is X.K G' v d → Q d ρ' → R v H') : tOp r (teW X a) (teW X b) σ H R :=
  ha σ G H rel _ fun v d ρ1 G1 H1 r1 s1 i1 q1 => hb d ρ1 q1 σ G1 H1 r1 _ fun w e ρ2 G2 H2 r2 s2 i2 q2 => q2 G2 H2 v w r2.ex (i1.mono s2.gg) i2 _ fun u f G3 H3 p i3 q3 =>
    k u f ρ2 G3 H3 (r2.pure p) ((s1.trans s2).trans p.stp) i3 q3
theorem ew_op {op : Operator} (ho : OpR X (binaryOp op) r) {Qa : PyData → Rho → Prop} (ha : EvW X a ρ Qa) (hb : ∀ d ρ1, Qa d ρ1 → EvW X b ρ1 fun e ρ2 => OpD X.K r d e fun f => Q f ρ2) : EvW X (.BinOp a op b pos) ρ Q :=
  fun σ G H rel R k => te_of (pe_op ho pe_W pe_W) (two (ta := teW X a) (tb := teW X b) ha hb rel k)
theorem ew_cmp {op : CmpOp} (ho : OpR X (compareOp op) r) (hm : behindInMarks op b = false) {Qa : PyData → Rho → Prop} (ha : EvW X a ρ Qa) (hb : ∀ d ρ1, Qa d ρ1 → EvW X b ρ1 fun e ρ2 => OpD X.K r d e fun f => Q f ρ2) : EvW X (.Compare a [op] [b] pos) ρ Q :=
  fun σ G H rel R k => te_of (pe_cmpR ho pe_W pe_W hm) (two (ta := teW X a) (tb := teW X b) ha hb rel k)
theorem tw_cmp {op : CmpOp} (ho : OpR X (compareOp op) r) (hm : behindInMarks op b = false) {Qa : PyData → Rho → Prop} {Q : Bool → Rho → Prop} (ha : EvW X a ρ Qa) (hb : ∀ d ρ1, Qa d ρ1 → EvW X b ρ1 fun e ρ2 => OpD X.K r d e fun f => ∃ k, f = .bool k ∧ Q k ρ2) : TvW X (.Compare a [op] [b] pos) ρ Q :=
  fun σ G H rel R k => tt_of (pt_cmpR ho pe_W pe_W hm) (two (ta := teW X a) (tb := teW X b) (Q := fun f ρ2 => ∃ k, f = .bool k ∧ Q k ρ2) ha hb rel fun v d ρ' G' H' r' s i ⟨b, e, q⟩ => by
    subst e
    cases i
    exact ⟨b, rfl, k b ρ' G' H' r' s q⟩)
theorem ev_op {op : Operator} (ho : OpR X (binaryOp op) r) {x y : PyData} (ha : Ev X a ρ x) (hb : Ev X b ρ y) (h : OpD X.K r x y (· = f)) : Ev X (.BinOp a op b pos) ρ f :=
  ew_op ho ha fun _ _ ⟨h1, h2⟩ => by
    subst h1
    subst h2
    exact hb.w (h.imp fun _ z => ⟨z, rfl⟩)
theorem ev_cmp {op : CmpOp} (ho : OpR X (compareOp op) r) {x y : PyData} (ha : Ev X a ρ x) (hb : Ev X b ρ y) (h : OpD X.K r x y (· = f)) (hm : behindInMarks op b = false := by exact nomark _) : Ev X (.Compare a [op] [b] pos) ρ f :=
  ew_cmp ho hm ha fun _ _ ⟨h1, h2⟩ => by
    subst h1
    subst h2
    exact hb.w (h.imp fun _ z => ⟨z, rfl⟩)
theorem tv_cmp {op : CmpOp} (ho : OpR X (compareOp op) r) {x y : PyData} {k : Bool} (ha : Ev X a ρ x) (hb : Ev X b ρ y) (h : OpD X.K r x y (· = .bool k)) (hm : behindInMarks op b = false := by exact nomark _) : Tv X (.Compare a [op] [b] pos) ρ k :=
  tw_cmp ho hm ha fun _ _ ⟨h1, h2⟩ => by
    subst h1
    subst h2
    exact hb.w (h.imp fun _ z => ⟨k, z, rfl, rfl⟩)
section
variable {K : PySem.W.Frag} {k : PyData → Prop}
theorem od_I0 {g : Int → Int → V} {i j : Int} (hg : ∀ G, Is K G (g i j) f) (q : k f) : OpD K (rI0 g) (.int i) (.int j) k := fun G H v w x hv hw R z => by
  cases hv
  cases hw
  exact ⟨i, j, rfl, rfl, z _ f G H (.refl x) (hg G) q⟩
theorem od_I {C : Int → Int → Prop} {g : Int → Int → V} {i j : Int} (hc : C i j) (hg : ∀ G, Is K G (g i j) f) (q : k f) : OpD K (rI C g) (.int i) (.int j) k := fun G H v w x hv hw R z => by
  cases hv
  cases hw
  exact ⟨i, j, rfl, rfl, hc, z _ f G H (.refl x) (hg G) q⟩
theorem od_eqD {d e : PyData} (hd : SeqAt.shaped d = true) (he : SeqAt.shaped e = true) (q : k (.bool (PyData.eqv d e))) : OpD K (rEqD K) d e k := fun G H v w x hv hw R z =>
  ⟨d, e, (hv.mono x).dp, (hw.mono x).dp, hd, he, z _ _ G H (.refl x) (.bl _) q⟩
theorem od_neD {d e : PyData} (hd : SeqAt.shaped d = true) (he : SeqAt.shaped e = true) (q : k (.bool (!PyData.eqv d e))) : OpD K (rNeD K) d e k := fun G H v w x hv hw R z =>
  ⟨d, e, (hv.mono x).dp, (hw.mono x).dp, hd, he, z _ _ G H (.refl x) (.bl _) q⟩
theorem od_eqI {i j : Int} (q : k (.bool (decide (i = j)))) : OpD K rEq (.int i) (.int j) k := fun G H v w x hv hw R z => by
  cases hv
  cases hw
  refine ⟨rfl, ?_⟩
  have e : decide (V.int i = V.int j) = decide (i = j) := by rw [dec_int, Bool.beq_eq_decide_eq]
  rw [e]
  exact z _ _ G H (.refl x) (.bl _) q
theorem od_neI {i j : Int} (q : k (.bool (!decide (i = j)))) : OpD K rNe (.int i) (.int j) k := fun G H v w x hv hw R z => by
  cases hv
  cases hw
  refine ⟨rfl, ?_⟩
  have e : decide (V.int i = V.int j) = decide (i = j) := by rw [dec_int, Bool.beq_eq_decide_eq]
  rw [e]
  exact z _ _ G H (.refl x) (.bl _) q
theorem od_eqS {i j : Str} (q : k (.bool (decide (i = j)))) : OpD K rEq (.str i) (.str j) k := fun G H v w x hv hw R z => by
  cases hv
  cases hw
  refine ⟨rfl, ?_⟩
  have e : decide (V.str i = V.str j) = decide (i = j) := by rw [dec_str, Bool.beq_eq_decide_eq]
  rw [e]
  exact z _ _ G H (.refl x) (.bl _) q
theorem od_neS {i j : Str} (q : k (.bool (!decide (i = j)))) : OpD K rNe (.str i) (.str j) k := fun G H v w x hv hw R z => by
  cases hv
  cases hw
  refine ⟨rfl, ?_⟩
  have e : decide (V.str i = V.str j) = decide (i = j) := by rw [dec_str, Bool.beq_eq_decide_eq]
  rw [e]
  exact z _ _ G H (.refl x) (.bl _) q
theorem is_none {G : Hp} {v : V} {d : PyData} (h : Is K G v d) : decide (v = .non) = isN d := by
  cases h <;> first | rfl | simp [isN]
theorem od_isN {d : PyData} (q : k (.bool (isN d))) : OpD K (fun x y H Q => y = .non ∧ Q (.bl (decide (x = .non))) H) d .none k := fun G H v w x hv hw R z => by
  cases hw
  refine ⟨rfl, ?_⟩
  rw [is_none hv]
  exact z _ _ G H (.refl x) (.bl _) q
theorem od_notN {d : PyData} (q : k (.bool (!isN d))) : OpD K (fun x y H Q => y = .non ∧ Q (.bl (!decide (x = .non))) H) d .none k := fun G H v w x hv hw R z => by
  cases hw
  refine ⟨rfl, ?_⟩
  rw [is_none hv]
  exact z _ _ G H (.refl x) (.bl _) q
theorem od_ixL {ds : List PyData} {i : Int} {d : PyData} (h : atI ds i = some d) (q : k d) : OpD K (rIxL K) (.list ds) (.int i) k := fun G H v w x hv hw R z => by
  cases hw
  cases hv with
  | lst h1 h2 =>
    obtain ⟨j, e1, e2, e3, e4, e5⟩ := atI_get h
    obtain ⟨u, e6, h3⟩ := h2.get e2
    refine ⟨_, _, i, u, rfl, rfl, ex_l x h1, ?_, z u d G H (.refl x) h3 q⟩
    unfold atI at h ⊢
    rw [h2.length]
    cases hx : ixN ds.length i with
    | none => rw [hx] at h; cases h
    | some j' =>
      have := (ixN_seq hx).1
      rw [e1] at this
      cases this
      exact e6
theorem od_ixT {ds : List PyData} {i : Int} {d : PyData} (h : atI ds i = some d) (q : k d) : OpD K (rIxT K) (.tuple ds) (.int i) k := fun G H v w x hv hw R z => by
  cases hw
  cases hv with
  | tup h1 h2 =>
    obtain ⟨j, e1, e2, e3, e4, e5⟩ := atI_get h
    obtain ⟨u, e6, h3⟩ := h2.get e2
    refine ⟨_, _, i, u, rfl, rfl, ex_t x h1, ?_, z u d G H (.refl x) h3 q⟩
    unfold atI at h ⊢
    rw [h2.length]
    cases hx : ixN ds.length i with
    | none => rw [hx] at h; cases h
    | some j' =>
      have := (ixN_seq hx).1
      rw [e1] at this
      cases this
      exact e6
theorem inV_S {G : Hp} {x : Str} : ∀ {vs : List V} {xs : List Str}, IsAll K G vs (xs.map PyData.str) → inV (.str x) vs = decide (x ∈ xs) ∧ vs.all flatV = true
  | _, [], h => by
    cases h
    exact ⟨rfl, rfl⟩
  | _, y :: ys, h => by
    rw [List.map_cons] at h
    cases h with
    | cons h1 h2 =>
      cases h1
      obtain ⟨e1, e2⟩ := inV_S (x := x) h2
      refine ⟨?_, by rw [List.all_cons, e2]; rfl⟩
      show (eqV (.str y) (.str x) || inV (.str x) _) = _
      rw [e1]
      show ((y == x) || _) = _
      by_cases e : y = x
      · subst e; simp
      · have e3 : (y == x) = false := by simpa using e
        rw [e3, Bool.false_or]
        simp [Ne.symm e]
theorem inV_I {G : Hp} {x : Int} : ∀ {vs : List V} {xs : List Int}, IsAll K G vs (xs.map PyData.int) → inV (.int x) vs = decide (x ∈ xs) ∧ vs.all flatV = true
  | _, [], h => by
    cases h
    exact ⟨rfl, rfl⟩
  | _, y :: ys, h => by
    rw [List.map_cons] at h
    cases h with
    | cons h1 h2 =>
      cases h1
      obtain ⟨e1, e2⟩ := inV_I (x := x) h2
      refine ⟨?_, by rw [List.all_cons, e2]; rfl⟩
      show (eqV (.int y) (.int x) || inV (.int x) _) = _
      rw [e1]
      show ((y == x) || _) = _
      by_cases e : y = x
      · subst e; simp
      · have e3 : (y == x) = false := by simpa using e
        rw [e3, Bool.false_or]
        simp [Ne.symm e]
theorem od_inS {neg : Bool} {x : Str} (xs : List Str) (q : k (.bool (if neg then !decide (x ∈ xs) else decide (x ∈ xs)))) : OpD K (rIn K neg) (.str x) (.tuple (xs.map PyData.str)) k := fun G H v w e hv hw R z => by
  cases hv
  cases hw with
  | tup h1 h2 =>
    obtain ⟨e1, e2⟩ := inV_S (x := x) h2
    refine ⟨_, _, rfl, .inr (ex_t e h1), rfl, e2, ?_⟩
    rw [e1]
    exact z _ _ G H (.refl e) (.bl _) q
theorem od_inI {neg : Bool} {x : Int} (xs : List Int) (q : k (.bool (if neg then !decide (x ∈ xs) else decide (x ∈ xs)))) : OpD K (rIn K neg) (.int x) (.tuple (xs.map PyData.int)) k := fun G H v w e hv hw R z => by
  cases hv
  cases hw with
  | tup h1 h2 =>
    obtain ⟨e1, e2⟩ := inV_I (x := x) h2
    refine ⟨_, _, rfl, .inr (ex_t e h1), rfl, e2, ?_⟩
    rw [e1]
    exact z _ _ G H (.refl e) (.bl _) q
end
end
end Pl
namespace Pl
open PySem PySem.Spec PyProof.Rows L2
open Evl (Ex ex_t ex_l)
section
variable {X : Cx} {e a b c tg iter : Expr} {es ts ifs rest : List Expr} {ρ : Rho} {d f : PyData} {ds : List PyData} {pos : Pos} {Q : PyData → Rho → Prop} {QT : Bool → Rho → Prop}

/-! one-place operators -/
def UnD (K : PySem.W.Frag) (r : V → Hp → VK → Prop) (d : PyData) (k : PyData → Prop) : Prop := ∀ (G H : Hp) (v : V), Ex G H → Is K G v d → ∀ R : VK, (∀ u f G' H', PSt G H G' H' → Is K G' u f → k f → R u H') → r v H R
theorem ew_un {op : UnaryOp} {r : V → Hp → VK → Prop} (ho : UnR X (unaryOp op) r) (ha : EvW X a ρ fun d ρ1 => UnD X.K r d fun f => Q f ρ1) : EvW X (.UnaryOp op a pos) ρ Q := fun σ G H rel R k =>
  te_of (pe_un ho pe_W) (ha σ G H rel _ fun v d ρ1 G1 H1 r1 s1 i1 q1 => q1 G1 H1 v r1.ex i1 _ fun u f G2 H2 p i2 q2 => k u f ρ1 G2 H2 (r1.pure p) (s1.trans p.stp) i2 q2)
theorem ev_neg {i : Int} (ha : Ev X a ρ (.int i)) : Ev X (.UnaryOp .USub a pos) ρ (.int (-i)) := ew_un un_neg (ha.w fun G H v x hv R z => by
  cases hv
  exact ⟨i, rfl, z _ _ G H (.refl x) (.int _) ⟨rfl, rfl⟩⟩)

/-! tests -/
theorem tv_val {k : Bool} (h : EvW X e ρ fun d ρ1 => ∃ k, d = .bool k ∧ QT k ρ1) (he : ∀ whole, isTrue e X.env whole = (do let v ← whole; standAt e.pos; holding [v] (truthy v)) := by intro _; rfl) : TvW X e ρ QT := fun σ G H rel R k =>
  tt_of (pt_val pe_W he) (h σ G H rel _ fun v d ρ1 G1 H1 r1 s1 i1 ⟨b, e1, q⟩ => by
    subst e1
    cases i1
    exact ⟨b, rfl, k b ρ1 G1 H1 r1 s1 q⟩)
theorem tv_bool {k : Bool} (h : Ev X e ρ (.bool k)) (he : ∀ whole, isTrue e X.env whole = (do let v ← whole; standAt e.pos; holding [v] (truthy v)) := by intro _; rfl) : Tv X e ρ k := tv_val (k := k) (h.w ⟨k, rfl, rfl, rfl⟩) he
/-- the truth of data -/
def tru : PyData → Option Bool
  | .none => some false
  | .bool b => some b
  | .int i => some (i != 0)
  | .list ds => some (!ds.isEmpty)
  | .tuple ds => some (!ds.isEmpty)
  | _ => none
theorem emp_of {K : PySem.W.Frag} {G : Hp} {vs : List V} {ds : List PyData} (h : IsAll K G vs ds) : vs.isEmpty = ds.isEmpty := by
  cases h <;> rfl
theorem tv_tru (h : EvW X e ρ fun d ρ1 => ∃ k, tru d = some k ∧ QT k ρ1) (he : ∀ whole, isTrue e X.env whole = (do let v ← whole; standAt e.pos; holding [v] (truthy v)) := by intro _; rfl) : TvW X e ρ QT := fun σ G H rel R k =>
  tt_of (pt_truth pe_W he) (h σ G H rel _ fun v d ρ1 G1 H1 r1 s1 i1 ⟨b, e1, q⟩ => by
    refine ⟨b, ?_, k b ρ1 G1 H1 r1 s1 q⟩
    cases i1 with
    | non => exact (Option.some.inj e1).symm
    | bl b => exact (Option.some.inj e1).symm
    | int i => exact (Option.some.inj e1).symm
    | str x => cases e1
    | lst h1 h2 =>
      refine .inl ⟨_, ex_l r1.ex h1, ?_⟩
      rw [emp_of h2]
      exact (Option.some.inj e1).symm
    | tup h1 h2 =>
      refine .inr (.inl ⟨_, ex_t r1.ex h1, ?_⟩)
      rw [emp_of h2]
      exact (Option.some.inj e1).symm)
/-- the truth of an own list, by its name -/
theorem tv_truO {i : Nat} {x : Str} {l : Addr} (h : ρ[i]? = some (.lst l ds)) (q : QT (!ds.isEmpty) ρ) (hN : X.N[i]? = some x := by rfl) (hv : Vis X.env.scope x := by first | exact Or.inl rfl | exact Or.inr (Or.inl rfl) | exact Or.inr (Or.inr rfl)) (hd : (x == ("__debug__" : Str)) = false := by decide)
    (hcd : (x == ("__classdict__" : Str)) = false := by decide) (he : ∀ whole, isTrue (.Name x pos) X.env whole = (do let v ← whole; standAt (Expr.Name x pos).pos; holding [v] (truthy v)) := by intro _; rfl) : TvW X (.Name x pos) ρ QT := fun σ G H rel R k => by
  obtain ⟨e1, nG, vs, hH, hv'⟩ := rel.sl i _ h
  refine tt_of (pt_truth (pe_var hN hv hd hcd) he) ⟨_, e1, !ds.isEmpty, ?_, k _ ρ G H rel .refl q⟩
  exact .inl ⟨_, SqL.of hH, by rw [emp_of hv']⟩
theorem tv_w (h : TwW X e ρ QT) : TvW X e ρ QT := fun σ G H rel R k => tt_of pw_W.pt (h σ G H rel R k)
theorem tw_and1 (ha : TvW X a ρ QT) : TwW X (.BoolOp .And [a] pos) ρ QT := fun σ G H rel R k => tw_of (pw_and1 pt_W) (ha σ G H rel R k)
theorem tw_or1 (ha : TvW X a ρ QT) : TwW X (.BoolOp .Or [a] pos) ρ QT := fun σ G H rel R k => tw_of (pw_or1 pt_W) (ha σ G H rel R k)
theorem tw_and (ha : TvW X a ρ fun k ρ1 => if k = true then TwW X (.BoolOp .And (b :: rest) pos) ρ1 QT else QT false ρ1) : TwW X (.BoolOp .And (a :: b :: rest) pos) ρ QT := fun σ G H rel R k => tw_of (pw_and pt_W pw_W) (ha σ G H rel _ fun c ρ1 G1 H1 r1 s1 q1 => by
  cases c with
  | true =>
    rw [if_pos rfl] at q1 ⊢
    exact q1 σ G1 H1 r1 R fun b ρ2 G2 H2 r2 s2 q2 => k b ρ2 G2 H2 r2 (s1.trans s2) q2
  | false =>
    rw [if_neg Bool.false_ne_true] at q1 ⊢
    exact k false ρ1 G1 H1 r1 s1 q1)
theorem tw_or (ha : TvW X a ρ fun k ρ1 => if k = true then QT true ρ1 else TwW X (.BoolOp .Or (b :: rest) pos) ρ1 QT) : TwW X (.BoolOp .Or (a :: b :: rest) pos) ρ QT := fun σ G H rel R k => tw_of (pw_or pt_W pw_W) (ha σ G H rel _ fun c ρ1 G1 H1 r1 s1 q1 => by
  cases c with
  | false =>
    rw [if_neg Bool.false_ne_true] at q1 ⊢
    exact q1 σ G1 H1 r1 R fun b ρ2 G2 H2 r2 s2 q2 => k b ρ2 G2 H2 r2 (s1.trans s2) q2
  | true =>
    rw [if_pos rfl] at q1 ⊢
    exact k true ρ1 G1 H1 r1 s1 q1)
theorem tw_and' {k : Bool} {kb : Bool} (ha : Tv X a ρ k) (hb : k = true → Tw X (.BoolOp .And (b :: rest) pos) ρ kb) : Tw X (.BoolOp .And (a :: b :: rest) pos) ρ (k && kb) := tw_and (ha.w (by
  cases k with
  | true =>
    rw [if_pos rfl]
    exact hb rfl
  | false =>
    rw [if_neg Bool.false_ne_true]
    exact ⟨rfl, rfl⟩))
theorem tw_or' {k : Bool} {kb : Bool} (ha : Tv X a ρ k) (hb : k = false → Tw X (.BoolOp .Or (b :: rest) pos) ρ kb) : Tw X (.BoolOp .Or (a :: b :: rest) pos) ρ (k || kb) := tw_or (ha.w (by
  cases k with
  | false =>
    rw [if_neg Bool.false_ne_true]
    exact hb rfl
  | true =>
    rw [if_pos rfl]
    exact ⟨rfl, rfl⟩))
theorem tv_not (ha : TvW X a ρ fun k ρ1 => QT (!k) ρ1) : TvW X (.UnaryOp .Not a pos) ρ QT := fun σ G H rel R k => tt_of (pt_not pt_W) (ha σ G H rel _ fun c ρ1 G1 H1 r1 s1 q1 => k _ ρ1 G1 H1 r1 s1 q1)
theorem tv_not' {k : Bool} (ha : Tv X a ρ k) : Tv X (.UnaryOp .Not a pos) ρ (!k) := tv_not (ha.w ⟨rfl, rfl⟩)
/-! and, or, not as values -/
theorem ew_one {op} (h : EvW X a ρ Q) : EvW X (.BoolOp op [a] pos) ρ Q := fun σ G H rel R k => te_of (pe_one pe_W) (h σ G H rel R k)
theorem ew_and (ha : EvW X a ρ fun d ρ1 => ∃ k, d = .bool k ∧ if k = true then EvW X (.BoolOp .And (b :: rest) pos) ρ1 Q else Q (.bool false) ρ1) : EvW X (.BoolOp .And (a :: b :: rest) pos) ρ Q := fun σ G H rel R k => te_of (pe_and pe_W pe_W) (ha σ G H rel _ fun v d ρ1 G1 H1 r1 s1 i1 ⟨c, e1, q1⟩ => by
  subst e1
  cases i1
  refine ⟨c, rfl, ?_⟩
  cases c with
  | true =>
    rw [if_pos rfl] at q1 ⊢
    exact q1 σ G1 H1 r1 R fun u f ρ2 G2 H2 r2 s2 i2 q2 => k u f ρ2 G2 H2 r2 (s1.trans s2) i2 q2
  | false =>
    rw [if_neg Bool.false_ne_true] at q1 ⊢
    exact k _ _ ρ1 G1 H1 r1 s1 (.bl false) q1)
theorem ew_or (ha : EvW X a ρ fun d ρ1 => ∃ k, d = .bool k ∧ if k = true then Q (.bool true) ρ1 else EvW X (.BoolOp .Or (b :: rest) pos) ρ1 Q) : EvW X (.BoolOp .Or (a :: b :: rest) pos) ρ Q := fun σ G H rel R k => te_of (pe_or pe_W pe_W) (ha σ G H rel _ fun v d ρ1 G1 H1 r1 s1 i1 ⟨c, e1, q1⟩ => by
  subst e1
  cases i1
  refine ⟨c, rfl, ?_⟩
  cases c with
  | false =>
    rw [if_neg Bool.false_ne_true] at q1 ⊢
    exact q1 σ G1 H1 r1 R fun u f ρ2 G2 H2 r2 s2 i2 q2 => k u f ρ2 G2 H2 r2 (s1.trans s2) i2 q2
  | true =>
    rw [if_pos rfl] at q1 ⊢
    exact k _ _ ρ1 G1 H1 r1 s1 (.bl true) q1)
theorem ev_and {k : Bool} {kb : Bool} (ha : Ev X a ρ (.bool k)) (hb : k = true → Ev X (.BoolOp .And (b :: rest) pos) ρ (.bool kb)) : Ev X (.BoolOp .And (a :: b :: rest) pos) ρ (.bool (k && kb)) := ew_and (ha.w ⟨k, rfl, by
  cases k with
  | true =>
    rw [if_pos rfl]
    exact hb rfl
  | false =>
    rw [if_neg Bool.false_ne_true]
    exact ⟨rfl, rfl⟩⟩)
theorem ev_or {k : Bool} {kb : Bool} (ha : Ev X a ρ (.bool k)) (hb : k = false → Ev X (.BoolOp .Or (b :: rest) pos) ρ (.bool kb)) : Ev X (.BoolOp .Or (a :: b :: rest) pos) ρ (.bool (k || kb)) := ew_or (ha.w ⟨k, rfl, by
  cases k with
  | false =>
    rw [if_neg Bool.false_ne_true]
    exact hb rfl
  | true =>
    rw [if_pos rfl]
    exact ⟨rfl, rfl⟩⟩)
theorem ev_one {op} (h : Ev X a ρ d) : Ev X (.BoolOp op [a] pos) ρ d := ew_one h
theorem ew_not (ha : EvW X a ρ fun d ρ1 => ∃ k, d = .bool k ∧ Q (.bool (!k)) ρ1) : EvW X (.UnaryOp .Not a pos) ρ Q := fun σ G H rel R k => te_of (pe_not pe_W) (ha σ G H rel _ fun v d ρ1 G1 H1 r1 s1 i1 ⟨c, e1, q1⟩ => by
  subst e1
  cases i1
  exact ⟨c, rfl, k _ _ ρ1 G1 H1 r1 s1 (.bl _) q1⟩)
theorem ev_not {k : Bool} (ha : Ev X a ρ (.bool k)) : Ev X (.UnaryOp .Not a pos) ρ (.bool (!k)) := ew_not (ha.w ⟨k, rfl, rfl, rfl⟩)
/-- a if t else b -/
theorem ew_if (hc : TvW X c ρ fun k ρ1 => if k = true then EvW X a ρ1 Q else EvW X b ρ1 Q) : EvW X (.IfExp c a b pos) ρ Q := fun σ G H rel R k => te_of (pe_ifExp pt_W pe_W pe_W) (hc σ G H rel _ fun c ρ1 G1 H1 r1 s1 q1 => by
  cases c with
  | true =>
    rw [if_pos rfl] at q1 ⊢
    exact q1 σ G1 H1 r1 R fun u f ρ2 G2 H2 r2 s2 i2 q2 => k u f ρ2 G2 H2 r2 (s1.trans s2) i2 q2
  | false =>
    rw [if_neg Bool.false_ne_true] at q1 ⊢
    exact q1 σ G1 H1 r1 R fun u f ρ2 G2 H2 r2 s2 i2 q2 => k u f ρ2 G2 H2 r2 (s1.trans s2) i2 q2)
theorem ev_if {k : Bool} (hc : Tv X c ρ k) (ha : k = true → Ev X a ρ d) (hb : k = false → Ev X b ρ d) : Ev X (.IfExp c a b pos) ρ d := ew_if (hc.w (by
  cases k with
  | true =>
    rw [if_pos rfl]
    exact ha rfl
  | false =>
    rw [if_neg Bool.false_ne_true]
    exact hb rfl))
/-- a op b op' c -/
theorem ew_chain {op op' : CmpOp} {r r' : R2} (ho : OpR X (compareOp op) r) (ho' : OpR X (compareOp op') r') {x y z : PyData} {k kc : Bool} (ha : Ev X a ρ x) (hb : Ev X b ρ y) (hc : k = true → Ev X c ρ z) (h1 : OpD X.K r x y (· = .bool k)) (h2 : k = true → OpD X.K r' y z (· = .bool kc)) (q : Q (.bool (k && kc)) ρ)
    (hm : lastMarks [op, op'] [b, c] = false := by with_unfolding_all rfl) : EvW X (.Compare a [op, op'] [b, c] pos) ρ Q := fun σ G H rel R kk => te_of (pe_chain ho ho' pe_W pe_W pe_W hm)
  (ha σ G H rel _ fun v _ _ G1 H1 r1 s1 i1 ⟨e1, e2⟩ => by
    subst e1
    subst e2
    exact hb σ G1 H1 r1 _ fun w _ _ G2 H2 r2 s2 i2 ⟨e3, e4⟩ => by
      subst e3
      subst e4
      exact h1 G2 H2 v w r2.ex (i1.mono s2.gg) i2 _ fun u f G3 H3 p i3 e5 => by
        subst e5
        cases i3
        refine ⟨k, rfl, ?_⟩
        cases k with
        | false =>
          rw [if_neg Bool.false_ne_true]
          exact kk _ _ _ G3 H3 (r2.pure p) ((s1.trans s2).trans p.stp) (.bl _) q
        | true =>
          rw [if_pos rfl]
          exact hc rfl σ G3 H3 (r2.pure p) _ fun w' _ _ G4 H4 r4 s4 i4 ⟨e6, e7⟩ => by
            subst e6
            subst e7
            exact h2 rfl G4 H4 w w' r4.ex ((i2.mono p.gg).mono s4.gg) i4 _ fun u f G5 H5 p5 i5 e8 => by
              subst e8
              exact kk _ _ _ G5 H5 (r4.pure p5) ((((s1.trans s2).trans p.stp).trans s4).trans p5.stp) i5 q)
theorem ev_chain {op op' : CmpOp} {r r' : R2} (ho : OpR X (compareOp op) r) (ho' : OpR X (compareOp op') r') {x y z : PyData} {k kc : Bool} (ha : Ev X a ρ x) (hb : Ev X b ρ y) (hc : k = true → Ev X c ρ z) (h1 : OpD X.K r x y (· = .bool k)) (h2 : k = true → OpD X.K r' y z (· = .bool kc))
    (hm : lastMarks [op, op'] [b, c] = false := by with_unfolding_all rfl) : Ev X (.Compare a [op, op'] [b, c] pos) ρ (.bool (k && kc)) := ew_chain ho ho' ha hb hc h1 h2 ⟨rfl, rfl⟩ hm
theorem tv_chain {op op' : CmpOp} {r r' : R2} (ho : OpR X (compareOp op) r) (ho' : OpR X (compareOp op') r') {x y z : PyData} {k kc : Bool} (ha : Ev X a ρ x) (hb : Ev X b ρ y) (hc : k = true → Ev X c ρ z) (h1 : OpD X.K r x y (· = .bool k)) (h2 : k = true → OpD X.K r' y z (· = .bool kc))
    (hm : lastMarks [op, op'] [b, c] = false := by with_unfolding_all rfl) : Tv X (.Compare a [op, op'] [b, c] pos) ρ (k && kc) := fun σ G H rel R kk => tt_of (pt_chain ho ho' pe_W pe_W pe_W hm)
  (ha σ G H rel _ fun v _ _ G1 H1 r1 s1 i1 ⟨e1, e2⟩ => by
    subst e1
    subst e2
    exact hb σ G1 H1 r1 _ fun w _ _ G2 H2 r2 s2 i2 ⟨e3, e4⟩ => by
      subst e3
      subst e4
      exact h1 G2 H2 v w r2.ex (i1.mono s2.gg) i2 _ fun u f G3 H3 p i3 e5 => by
        subst e5
        cases i3
        refine ⟨k, rfl, ?_⟩
        cases k with
        | false =>
          rw [if_neg Bool.false_ne_true]
          exact ⟨false, rfl, kk _ _ G3 H3 (r2.pure p) ((s1.trans s2).trans p.stp) ⟨rfl, rfl⟩⟩
        | true =>
          rw [if_pos rfl]
          exact hc rfl σ G3 H3 (r2.pure p) _ fun w' _ _ G4 H4 r4 s4 i4 ⟨e6, e7⟩ => by
            subst e6
            subst e7
            exact h2 rfl G4 H4 w w' r4.ex ((i2.mono p.gg).mono s4.gg) i4 _ fun u f G5 H5 p5 i5 e8 => by
              subst e8
              cases i5
              exact ⟨kc, rfl, kk _ _ G5 H5 (r4.pure p5) ((((s1.trans s2).trans p.stp).trans s4).trans p5.stp) ⟨rfl, rfl⟩⟩)

/-! arguments, displays -/
theorem aw_nil {Q : List PyData → Rho → Prop} (q : Q [] ρ) : AvW X [] ρ Q := fun σ G H rel R k => ta_of pa_nil (show R [] H from k [] [] ρ G H rel .refl .nil q)
theorem aw_cons {Q : List PyData → Rho → Prop} {Qa : PyData → Rho → Prop} (ha : EvW X e ρ Qa) (hr : ∀ d ρ1, Qa d ρ1 → AvW X es ρ1 fun ds ρ2 => Q (d :: ds) ρ2) (hs : starEach (e :: es) X.env = (false, eval e X.env) :: starEach es X.env := by rfl) : AvW X (e :: es) ρ Q := fun σ G H rel R k =>
  ta_of (pa_cons pe_W pa_W hs) (ha σ G H rel _ fun v d ρ1 G1 H1 r1 s1 i1 q1 => hr d ρ1 q1 σ G1 H1 r1 _ fun vs ds ρ2 G2 H2 r2 s2 i2 q2 => k (v :: vs) (d :: ds) ρ2 G2 H2 r2 (s1.trans s2) (.cons (i1.mono s2.gg) i2) q2)
theorem av_nil : Av X [] ρ [] := aw_nil ⟨rfl, rfl⟩
theorem av_cons (ha : Ev X e ρ d) (hr : Av X es ρ ds) (hs : starEach (e :: es) X.env = (false, eval e X.env) :: starEach es X.env := by rfl) : Av X (e :: es) ρ (d :: ds) := aw_cons ha (fun _ _ ⟨h1, h2⟩ => by
  subst h1
  subst h2
  exact hr.w ⟨rfl, rfl⟩) hs
theorem big {n : Nat} (h : n ≤ 1000000) : n ≤ sizeLine := Nat.le_trans h (by decide)
theorem bigL {n : Nat} (h : n < 1000000) : n < sizeLine := Nat.lt_of_lt_of_le h (by decide)
theorem ew_tup {x1} (h : AvW X es ρ fun ds ρ1 => ds.length ≤ 1000000 ∧ Q (.tuple ds) ρ1) : EvW X (.Tuple es x1 pos) ρ Q := fun σ G H rel R k => te_of (pe_tup pa_W) (h σ G H rel _ fun vs ds ρ1 G1 H1 r1 s1 i1 ⟨hz, q1⟩ => ⟨by rw [i1.length]; exact big hz, fun p hp => by
  have P : PSt G1 H1 (upd G1 p (.tup vs)) (upd H1 p (.tup vs)) := PSt.new r1.ex hp
  exact k _ _ ρ1 _ _ (r1.pure P) (s1.trans P.stp) (.tup (SqT.of upd_same) (i1.mono P.gg)) q1⟩)
theorem ev_tup {x1} (h : Av X es ρ ds) (hz : ds.length ≤ 1000000 := by first | exact Nat.le_of_ble_eq_true rfl | assumption) : Ev X (.Tuple es x1 pos) ρ (.tuple ds) := ew_tup (h.w ⟨hz, rfl, rfl⟩)
theorem own_new {K : PySem.W.Frag} {σ : L2.St} {G H : Hp} (r : Rel K ρ σ G H) {p : Addr} (hp : H p = none) : ¬ Own ρ p := fun ⟨i, h⟩ => (r.ownH h).2.1 hp
theorem el_lst' {QL : List PyData → Rho → Prop} (h : AvW X es ρ fun ds ρ1 => ds.length ≤ 1000000 ∧ QL ds ρ1) : ElW X (.List es pos) ρ QL := fun σ G H rel R k => te_of (pe_lst pa_W) (h σ G H rel _ fun vs ds ρ1 G1 H1 r1 s1 i1 ⟨hz, q1⟩ => ⟨by rw [i1.length]; exact big hz, fun p hp => by
  have P : PSt G1 H1 G1 (upd H1 p (.lst vs)) := PSt.newH r1.ex hp
  refine k p vs ds ρ1 _ _ (r1.pure P) (s1.trans P.stp) (no_of r1.ex hp) (own_new r1 hp) ?_ upd_same i1 q1
  cases e : H p with
  | none => rfl
  | some o => exact absurd hp (s1.al p (by rw [e]; exact nofun))⟩)
theorem el_lst (h : Av X es ρ ds) (hz : ds.length ≤ 1000000 := by first | exact Nat.le_of_ble_eq_true rfl | assumption) : El X (.List es pos) ρ ds := el_lst' (h.w ⟨hz, rfl, rfl⟩)
/-- a new list that is never changed is frozen -/
theorem ew_fz (h : ElW X e ρ fun ds ρ1 => Q (.list ds) ρ1) : EvW X e ρ Q := fun σ G H rel R k => h σ G H rel R fun a vs ds ρ1 G1 H1 r1 s1 n1 n2 n3 h1 i1 q1 => by
  have e1 : Ex G1 (upd G1 a (.lst vs)) := Ex.new n1
  have e2 : Ex (upd G1 a (.lst vs)) H1 := fun b o z => by
    by_cases hb : b = a
    · subst hb
      rw [upd_same] at z
      cases z
      exact h1
    · rw [upd_ne hb] at z
      exact r1.ex b o z
  have r2 : Rel X.K ρ1 σ (upd G1 a (.lst vs)) H1 := by
    refine ⟨e2, r1.len, fun i s z => ?_, r1.ds⟩
    have z1 := r1.sl i s z
    cases s with
    | un => trivial
    | dat d =>
      obtain ⟨v, z1, z2⟩ := z1
      exact ⟨v, z1, z2.mono e1⟩
    | lst b fs =>
      obtain ⟨z1, z2, ws, z3, z4⟩ := z1
      exact ⟨z1, by rw [upd_ne fun y => n2 ⟨i, _, z, by rw [← y]; rfl⟩]; exact z2, ws, z3, z4.mono e1⟩
    | obj b o =>
      obtain ⟨z1, z2, u, z3, z4⟩ := z1
      exact ⟨z1, by rw [upd_ne fun y => n2 ⟨i, _, z, by rw [← y]; rfl⟩]; exact z2, u, z3, o.up e1 z4⟩
  refine k _ _ ρ1 _ _ r2 ⟨s1.gg.trans e1, fun b h2 h3 h4 => ?_, s1.kp, s1.al, s1.ow⟩ (.lst (SqL.of upd_same) (i1.mono e1)) q1
  rw [upd_ne fun z => h4 (by rw [z]; exact n3)]
  exact s1.fr b h2 h3 h4
theorem ev_fz (h : El X e ρ ds) : Ev X e ρ (.list ds) := ew_fz (h.w ⟨rfl, rfl⟩)

/-! subscripts, slices -/
theorem ew_ix {r : R2} (hr : IxR X r) {Qa : PyData → Rho → Prop} (ha : EvW X a ρ Qa) (hb : ∀ d ρ1, Qa d ρ1 → EvW X b ρ1 fun e ρ2 => OpD X.K r d e fun f => Q f ρ2) (hs : PlainIx b := by exact fun _ _ => rfl) : EvW X (.Subscript a b pos) ρ Q :=
  fun σ G H rel R k => te_of (pe_ix hr pe_W pe_W hs) (two (ta := teW X a) (tb := teW X b) ha hb rel k)
theorem ev_ixL {i : Int} (ha : Ev X a ρ (.list ds)) (hb : Ev X b ρ (.int i)) (h : atI ds i = some d) (hs : PlainIx b := by exact fun _ _ => rfl) : Ev X (.Subscript a b pos) ρ d := ew_ix ix_list ha (fun _ _ ⟨h1, h2⟩ => by
  subst h1
  subst h2
  exact hb.w (od_ixL h ⟨rfl, rfl⟩)) hs
theorem ev_ixT {i : Int} (ha : Ev X a ρ (.tuple ds)) (hb : Ev X b ρ (.int i)) (h : atI ds i = some d) (hs : PlainIx b := by exact fun _ _ => rfl) : Ev X (.Subscript a b pos) ρ d := ew_ix ix_tup ha (fun _ _ ⟨h1, h2⟩ => by
  subst h1
  subst h2
  exact hb.w (od_ixT h ⟨rfl, rfl⟩)) hs
/-- an item of an own list, the list by its name -/
theorem ew_ixO {i : Nat} {x : Str} {px : Pos} (hb : EvW X b ρ fun e ρ1 => ∃ l ds j d, ρ1[i]? = some (.lst l ds) ∧ e = .int j ∧ atI ds j = some d ∧ Q d ρ1) {l0 : Addr} {ds0 : List PyData} (h0 : ρ[i]? = some (.lst l0 ds0)) (hs : PlainIx b := by exact fun _ _ => rfl)
    (hN : X.N[i]? = some x := by rfl) (hv : Vis X.env.scope x := by first | exact Or.inl rfl | exact Or.inr (Or.inl rfl) | exact Or.inr (Or.inr rfl)) (hd : (x == ("__debug__" : Str)) = false := by decide) (hcd : (x == ("__classdict__" : Str)) = false := by decide) :
    EvW X (.Subscript (.Name x px) b pos) ρ Q := fun σ G H rel R k => by
  obtain ⟨e0, n0, vs0, hH0, hv0⟩ := rel.sl i _ h0
  refine te_of (pe_ix ix_list (pe_var hN hv hd hcd) pe_W hs) ⟨_, e0, hb σ G H rel _ fun v d ρ1 G1 H1 r1 s1 i1 ⟨l, ds, j, f, h1, h2, h3, q⟩ => ?_⟩
  subst h2
  cases i1
  obtain ⟨e1, n1, vs1, hH1, hv1⟩ := r1.sl i _ h1
  rw [e0] at e1
  cases e1
  obtain ⟨m, z1, z2, z3, z4, z5⟩ := atI_get h3
  obtain ⟨u, z6, z7⟩ := hv1.get z2
  refine ⟨_, _, j, u, rfl, rfl, SqL.of hH1, ?_, k u f ρ1 G1 H1 r1 s1 z7 q⟩
  unfold atI at h3 ⊢
  rw [hv1.length]
  cases hx : ixN ds.length j with
  | none => rw [hx] at h3; cases h3
  | some j' =>
    have := (ixN_seq hx).1
    rw [z1] at this
    cases this
    exact z6
theorem ev_ixO {i : Nat} {x : Str} {px : Pos} {l : Addr} {j : Int} (h0 : ρ[i]? = some (.lst l ds)) (hb : Ev X b ρ (.int j)) (h : atI ds j = some d) (hs : PlainIx b := by exact fun _ _ => rfl)
    (hN : X.N[i]? = some x := by rfl) (hv : Vis X.env.scope x := by first | exact Or.inl rfl | exact Or.inr (Or.inl rfl) | exact Or.inr (Or.inr rfl)) (hd : (x == ("__debug__" : Str)) = false := by decide) (hcd : (x == ("__classdict__" : Str)) = false := by decide) :
    Ev X (.Subscript (.Name x px) b pos) ρ d := ew_ixO (hb.w ⟨l, ds, j, d, h0, rfl, h, rfl, rfl⟩) h0 hs hN hv hd hcd

/-! built-in calls by values -/
def CaD (K : PySem.W.Frag) (r : List V → Hp → VK → Prop) (ds : List PyData) (k : PyData → Prop) : Prop := ∀ (G H : Hp) (vs : List V), Ex G H → IsAll K G vs ds → ∀ R : VK, (∀ u f G' H', PSt G H G' H' → Is K G' u f → k f → R u H') → r vs H R
theorem ew_callB {x : Str} {id : String} {px : Pos} {r : List V → Hp → VK → Prop} (hc : CallR X (.builtin id) r) (hm : X.mg x = none) (hv : bootBuiltins x = some (.builtin id)) (ha : AvW X (e :: es) ρ fun ds ρ1 => CaD X.K r ds fun f => Q f ρ1) (hg : Gl X x := by rfl) (hn : x ≠ "__name__" := by decide) (hdb : (x == ("__debug__" : Str)) = false := by decide)
    (he : starEach (e :: es) X.env = (false, eval e X.env) :: starEach es X.env := by rfl) (hpl : (backTo pos (starEach es X.env)).any (·.1) = false := by rfl) : EvW X (.Call (.Name x px) (e :: es) [] pos) ρ Q := fun σ G H rel R k =>
  te_of (pe_callB hc hg hm hv pa_W hn hdb he hpl) (ha σ G H rel _ fun vs ds ρ1 G1 H1 r1 s1 i1 q1 => q1 G1 H1 vs r1.ex i1 R fun u f G2 H2 p i2 q2 => k u f ρ1 G2 H2 (r1.pure p) (s1.trans p.stp) i2 q2)
theorem ew_callTy {x : Str} {T : String} {px : Pos} {r : List V → Hp → VK → Prop} (hc : CallR X (.type T) r) (hm : X.mg x = none) (hv : bootBuiltins x = some (.type T)) (ha : AvW X (e :: es) ρ fun ds ρ1 => CaD X.K r ds fun f => Q f ρ1) (hg : Gl X x := by rfl) (hn : x ≠ "__name__" := by decide) (hdb : (x == ("__debug__" : Str)) = false := by decide)
    (he : starEach (e :: es) X.env = (false, eval e X.env) :: starEach es X.env := by rfl) (hpl : (backTo pos (starEach es X.env)).any (·.1) = false := by rfl) : EvW X (.Call (.Name x px) (e :: es) [] pos) ρ Q := fun σ G H rel R k =>
  te_of (pe_callTy hc hg hm hv pa_W hn hdb he hpl) (ha σ G H rel _ fun vs ds ρ1 G1 H1 r1 s1 i1 q1 => q1 G1 H1 vs r1.ex i1 R fun u f G2 H2 p i2 q2 => k u f ρ1 G2 H2 (r1.pure p) (s1.trans p.stp) i2 q2)
theorem ev_abs {i : Int} {px : Pos} (hm : X.mg "abs" = none) (ha : Ev X a ρ (.int i)) (hg : Gl X "abs" := by rfl) (he : starEach [a] X.env = (false, eval a X.env) :: starEach [] X.env := by rfl) (hpl : (backTo pos (starEach [] X.env)).any (·.1) = false := by rfl) : Ev X (.Call (.Name "abs" px) [a] [] pos) ρ (.int (if i < 0 then -i else i)) :=
  ew_callB call_abs hm (by decide +kernel) ((av_cons ha av_nil he).w fun G H vs x hv R z => by
    cases hv with
    | cons h1 h2 =>
      cases h1
      cases h2
      exact ⟨i, rfl, z _ _ G H (.refl x) (.int _) ⟨rfl, rfl⟩⟩) hg (by decide) (by decide) he hpl
theorem ev_int1 {i : Int} {px : Pos} (hm : X.mg "int" = none) (ha : Ev X a ρ (.int i)) (hg : Gl X "int" := by rfl) (he : starEach [a] X.env = (false, eval a X.env) :: starEach [] X.env := by rfl) (hpl : (backTo pos (starEach [] X.env)).any (·.1) = false := by rfl) : Ev X (.Call (.Name "int" px) [a] [] pos) ρ (.int i) :=
  ew_callTy call_int1 hm (by decide +kernel) ((av_cons ha av_nil he).w fun G H vs x hv R z => by
    cases hv with
    | cons h1 h2 =>
      cases h1
      cases h2
      exact .inl ⟨i, rfl, z _ _ G H (.refl x) (.int _) ⟨rfl, rfl⟩⟩) hg (by decide) (by decide) he hpl
theorem ev_max2 {i j : Int} {px : Pos} (hc : X.calm = true) (hm : X.mg "max" = none) (ha : Av X [a, b] ρ [.int i, .int j]) (hg : Gl X "max" := by rfl) (he : starEach [a, b] X.env = (false, eval a X.env) :: starEach [b] X.env := by rfl) (hpl : (backTo pos (starEach [b] X.env)).any (·.1) = false := by rfl) : Ev X (.Call (.Name "max" px) [a, b] [] pos) ρ (.int (if j > i then j else i)) :=
  ew_callB (call_max2 hc) hm (by decide +kernel) (ha.w fun G H vs x hv R z => by
    cases hv with
    | cons h1 h2 =>
      cases h2 with
      | cons h2 h3 =>
        cases h1
        cases h2
        cases h3
        exact ⟨i, j, rfl, z _ _ G H (.refl x) (.int _) ⟨rfl, rfl⟩⟩) hg (by decide) (by decide) he hpl
theorem ev_min2 {i j : Int} {px : Pos} (hc : X.calm = true) (hm : X.mg "min" = none) (ha : Av X [a, b] ρ [.int i, .int j]) (hg : Gl X "min" := by rfl) (he : starEach [a, b] X.env = (false, eval a X.env) :: starEach [b] X.env := by rfl) (hpl : (backTo pos (starEach [b] X.env)).any (·.1) = false := by rfl) : Ev X (.Call (.Name "min" px) [a, b] [] pos) ρ (.int (if j < i then j else i)) :=
  ew_callB (call_min2 hc) hm (by decide +kernel) (ha.w fun G H vs x hv R z => by
    cases hv with
    | cons h1 h2 =>
      cases h2 with
      | cons h2 h3 =>
        cases h1
        cases h2
        cases h3
        exact ⟨i, j, rfl, z _ _ G H (.refl x) (.int _) ⟨rfl, rfl⟩⟩) hg (by decide) (by decide) he hpl
/-- len of data -/
def dlen : PyData → Option Nat
  | .list ds => some ds.length
  | .tuple ds => some ds.length
  | _ => none
theorem ew_len {px : Pos} (hm : X.mg "len" = none) (ha : EvW X a ρ fun d ρ1 => ∃ n, dlen d = some n ∧ Q (.int n) ρ1) (hg : Gl X "len" := by rfl) (he : starEach [a] X.env = (false, eval a X.env) :: starEach [] X.env := by rfl) (hpl : (backTo pos (starEach [] X.env)).any (·.1) = false := by rfl) : EvW X (.Call (.Name "len" px) [a] [] pos) ρ Q :=
  ew_callB call_len_seq hm PySem.boot_len (aw_cons ha (fun d ρ1 ⟨n, h, q⟩ => aw_nil fun G H vs x hv R z => by
    cases hv with
    | cons h1 h2 =>
      cases h2
      cases h1 with
      | lst h3 h4 =>
        refine ⟨_, _, rfl, .inl (ex_l x h3), z _ _ G H (.refl x) (.int _) ?_⟩
        rw [h4.length]
        cases h
        exact q
      | tup h3 h4 =>
        refine ⟨_, _, rfl, .inr (ex_t x h3), z _ _ G H (.refl x) (.int _) ?_⟩
        rw [h4.length]
        cases h
        exact q
      | _ => cases h) he) hg (by decide) (by decide) he hpl
theorem ev_len {px : Pos} {n : Nat} (hm : X.mg "len" = none) (ha : Ev X a ρ d) (h : dlen d = some n) (hg : Gl X "len" := by rfl) (he : starEach [a] X.env = (false, eval a X.env) :: starEach [] X.env := by rfl) (hpl : (backTo pos (starEach [] X.env)).any (·.1) = false := by rfl) : Ev X (.Call (.Name "len" px) [a] [] pos) ρ (.int n) :=
  ew_len hm (ha.w ⟨n, h, rfl, rfl⟩) hg he hpl
/-- len of an own list, by its name -/
theorem ev_lenO {i : Nat} {x : Str} {px pn : Pos} {l : Addr} (hm : X.mg "len" = none) (h0 : ρ[i]? = some (.lst l ds)) (hg : Gl X "len" := by rfl) (hN : X.N[i]? = some x := by rfl) (hv : Vis X.env.scope x := by first | exact Or.inl rfl | exact Or.inr (Or.inl rfl) | exact Or.inr (Or.inr rfl)) (hd : (x == ("__debug__" : Str)) = false := by decide) (hcd : (x == ("__classdict__" : Str)) = false := by decide)
    (he : starEach [.Name x pn] X.env = (false, eval (.Name x pn) X.env) :: starEach [] X.env := by rfl) (hpl : (backTo pos (starEach [] X.env)).any (·.1) = false := by rfl) : Ev X (.Call (.Name "len" px) [.Name x pn] [] pos) ρ (.int ds.length) := fun σ G H rel R k => by
  obtain ⟨e0, n0, vs0, hH0, hv0⟩ := rel.sl i _ h0
  refine te_of (pe_callB call_len_seq hg hm PySem.boot_len (pa_cons (pe_var hN hv hd hcd) pa_nil he) (by decide) (by decide) he hpl) ⟨_, e0, _, _, rfl, .inl (SqL.of hH0), ?_⟩
  rw [hv0.length]
  exact k _ _ ρ G H rel .refl (.int _) ⟨rfl, rfl⟩
/-- tuple of data -/
theorem ew_tuple {px : Pos} (hm : X.mg "tuple" = none) (ha : EvW X a ρ fun d ρ1 => ∃ ds, (d = .list ds ∨ d = .tuple ds) ∧ Q (.tuple ds) ρ1) (hg : Gl X "tuple" := by rfl) (he : starEach [a] X.env = (false, eval a X.env) :: starEach [] X.env := by rfl) (hpl : (backTo pos (starEach [] X.env)).any (·.1) = false := by rfl) : EvW X (.Call (.Name "tuple" px) [a] [] pos) ρ Q :=
  ew_callTy call_tuple_of hm (by decide +kernel) (aw_cons ha (fun d ρ1 ⟨ds, h, q⟩ => aw_nil fun G H vs x hv R z => by
    cases hv with
    | cons h1 h2 =>
      cases h2
      rcases h with h | h
      · subst h
        cases h1 with
        | lst h3 h4 =>
          rename_i _ xs0
          refine ⟨_, _, rfl, .inl ⟨ex_l x h3, fun p hp => ?_⟩⟩
          have P := PSt.new (o := .tup xs0) x hp
          exact z _ _ _ _ P (.tup (SqT.of upd_same) (h4.mono P.gg)) q
      · subst h
        cases h1 with
        | tup h3 h4 => exact ⟨_, _, rfl, .inr ⟨ex_t x h3, z _ _ G H (.refl x) (.tup h3 h4) q⟩⟩) he) hg (by decide) (by decide) he hpl
theorem ev_tuple {px : Pos} (hm : X.mg "tuple" = none) (ha : Ev X a ρ (.list ds)) (hg : Gl X "tuple" := by rfl) (he : starEach [a] X.env = (false, eval a X.env) :: starEach [] X.env := by rfl) (hpl : (backTo pos (starEach [] X.env)).any (·.1) = false := by rfl) : Ev X (.Call (.Name "tuple" px) [a] [] pos) ρ (.tuple ds) :=
  ew_tuple hm (ha.w ⟨ds, .inl rfl, rfl, rfl⟩) hg he hpl
theorem ev_tupleO {i : Nat} {x : Str} {px pn : Pos} {l : Addr} (hm : X.mg "tuple" = none) (h0 : ρ[i]? = some (.lst l ds)) (hg : Gl X "tuple" := by rfl) (hN : X.N[i]? = some x := by rfl) (hv : Vis X.env.scope x := by first | exact Or.inl rfl | exact Or.inr (Or.inl rfl) | exact Or.inr (Or.inr rfl)) (hd : (x == ("__debug__" : Str)) = false := by decide) (hcd : (x == ("__classdict__" : Str)) = false := by decide)
    (he : starEach [.Name x pn] X.env = (false, eval (.Name x pn) X.env) :: starEach [] X.env := by rfl) (hpl : (backTo pos (starEach [] X.env)).any (·.1) = false := by rfl) : Ev X (.Call (.Name "tuple" px) [.Name x pn] [] pos) ρ (.tuple ds) := fun σ G H rel R k => by
  obtain ⟨e0, n0, vs0, hH0, hv0⟩ := rel.sl i _ h0
  refine te_of (pe_callTy call_tuple_of hg hm (by decide +kernel) (pa_cons (pe_var hN hv hd hcd) pa_nil he) (by decide) (by decide) he hpl) ⟨_, e0, _, _, rfl, .inl ⟨SqL.of hH0, fun p hp => ?_⟩⟩
  have P := PSt.new (o := .tup vs0) rel.ex hp
  exact k _ _ ρ _ _ (rel.pure P) P.stp (.tup (SqT.of upd_same) (hv0.mono P.gg)) ⟨rfl, rfl⟩
/-- all, any of bools -/
theorem ew_all {px : Pos} (hc : X.calm = true) (hm : X.mg "all" = none) (ha : EvW X a ρ fun d ρ1 => ∃ bs : List Bool, d = .list (bs.map PyData.bool) ∧ Q (.bool (bs.all id)) ρ1) (hg : Gl X "all" := by rfl) (he : starEach [a] X.env = (false, eval a X.env) :: starEach [] X.env := by rfl) (hpl : (backTo pos (starEach [] X.env)).any (·.1) = false := by rfl) : EvW X (.Call (.Name "all" px) [a] [] pos) ρ Q :=
  ew_callB (cr_all hc) hm (by decide +kernel) (aw_cons ha (fun d ρ1 ⟨bs, h, q⟩ => aw_nil fun G H vs x hv R z => by
    subst h
    cases hv with
    | cons h1 h2 =>
      cases h2
      cases h1 with
      | lst h3 h4 =>
        have h5 := h4.bls
        subst h5
        exact ⟨_, bs, rfl, ex_l x h3, z _ _ G H (.refl x) (.bl _) q⟩) he) hg (by decide) (by decide) he hpl
theorem ew_any {px : Pos} (hc : X.calm = true) (hm : X.mg "any" = none) (ha : EvW X a ρ fun d ρ1 => ∃ bs : List Bool, d = .list (bs.map PyData.bool) ∧ Q (.bool (bs.any id)) ρ1) (hg : Gl X "any" := by rfl) (he : starEach [a] X.env = (false, eval a X.env) :: starEach [] X.env := by rfl) (hpl : (backTo pos (starEach [] X.env)).any (·.1) = false := by rfl) : EvW X (.Call (.Name "any" px) [a] [] pos) ρ Q :=
  ew_callB (cr_any hc) hm (by decide +kernel) (aw_cons ha (fun d ρ1 ⟨bs, h, q⟩ => aw_nil fun G H vs x hv R z => by
    subst h
    cases hv with
    | cons h1 h2 =>
      cases h2
      cases h1 with
      | lst h3 h4 =>
        have h5 := h4.bls
        subst h5
        exact ⟨_, bs, rfl, ex_l x h3, z _ _ G H (.refl x) (.bl _) q⟩) he) hg (by decide) (by decide) he hpl
theorem ew_minI {px : Pos} (hc : X.calm = true) (hm : X.mg "min" = none) (ha : EvW X a ρ fun d ρ1 => ∃ ns : List Int, d = .list (ns.map PyData.int) ∧ 0 < ns.length ∧ ∀ m, m ∈ ns → (∀ y, y ∈ ns → m ≤ y) → Q (.int m) ρ1) (hg : Gl X "min" := by rfl) (he : starEach [a] X.env = (false, eval a X.env) :: starEach [] X.env := by rfl) (hpl : (backTo pos (starEach [] X.env)).any (·.1) = false := by rfl) : EvW X (.Call (.Name "min" px) [a] [] pos) ρ Q :=
  ew_callB (cr_min hc) hm (by decide +kernel) (aw_cons ha (fun d ρ1 ⟨ns, h, hl, q⟩ => aw_nil fun G H vs x hv R z => by
    subst h
    cases hv with
    | cons h1 h2 =>
      cases h2
      cases h1 with
      | lst h3 h4 =>
        have h5 := h4.ints
        subst h5
        exact ⟨_, ns, rfl, ex_l x h3, hl, fun m h1 h2 => z _ _ G H (.refl x) (.int _) (q m h1 h2)⟩) he) hg (by decide) (by decide) he hpl
end
end Pl
namespace Pl
open PySem PySem.Spec PyProof.Rows L2
open Evl (Ex ex_t ex_l)
section
variable {K : PySem.W.Frag} {ρ ρ' : Rho} {G H G' H' : Hp} {D : En} {T : Ends}
/-- what is wanted from here is met from there, one step on -/
theorem Meets.step (m : Meets K ρ G H D T) (s : Stp ρ G H ρ' G' H') : Meets K ρ' G' H' D T :=
  ⟨fun r σ' G1 H1 a b q => m.nx r σ' G1 H1 a (s.trans b) q, fun v d r σ' G1 H1 a b i q => m.rt v d r σ' G1 H1 a (s.trans b) i q, fun r σ' G1 H1 a b q => m.bk r σ' G1 H1 a (s.trans b) q, fun r σ' G1 H1 a b q => m.ct r σ' G1 H1 a (s.trans b) q⟩
end
section
variable {X : Cx} {e a b c tg iter : Expr} {es ts ifs rest : List Expr} {st : Stmt} {sts body orelse : List Stmt} {ρ : Rho} {d f : PyData} {ds : List PyData} {pos : Pos} {D D' : En}
theorem BvW.imp (h : BvW X sts ρ D) (h1 : ∀ r, D.nx r → D'.nx r) (h2 : ∀ d r, D.rt d r → D'.rt d r) (h3 : ∀ r, D.bk r → D'.bk r) (h4 : ∀ r, D.ct r → D'.ct r) : BvW X sts ρ D' := fun σ G H rel T m =>
  h σ G H rel T ⟨fun r σ' G1 H1 a b q => m.nx r σ' G1 H1 a b (h1 r q), fun v d r σ' G1 H1 a b i q => m.rt v d r σ' G1 H1 a b i (h2 d r q), fun r σ' G1 H1 a b q => m.bk r σ' G1 H1 a b (h3 r q), fun r σ' G1 H1 a b q => m.ct r σ' G1 H1 a b (h4 r q)⟩
/-! blocks -/
theorem b_nil (q : D.nx ρ) : BvW X [] ρ D := fun σ G H rel T m => tb_of pss_nil (m.nx ρ σ G H rel .refl q)
theorem b_cons (h : SvW X st ρ { D with nx := fun ρ1 => BvW X sts ρ1 D }) : BvW X (st :: sts) ρ D := fun σ G H rel T m =>
  tb_of (pss_cons ps_W pb_W) (show tsW X st { T with nx := tbW X sts T } σ H from h σ G H rel _ ⟨fun ρ1 σ1 G1 H1 r1 s1 q => q σ1 G1 H1 r1 T (m.step s1), m.rt, m.bk, m.ct⟩)
/-- a slot, or several, forgotten -/
theorem b_weak {ρ' : Rho} (w : Weak ρ ρ') (h : BvW X sts ρ' D) : BvW X sts ρ D := fun σ G H rel T m => h σ G H (rel.weak w) T (m.step w.stp)
theorem b_freeze {i : Nat} {l : Addr} (e : ρ[i]? = some (.lst l ds)) (h : BvW X sts (ρ.set i (.dat (.list ds))) D) : BvW X sts ρ D := fun σ G H rel T m => by
  obtain ⟨G', r1, s1⟩ := rel.freeze e
  exact h σ G' H r1 T (m.step s1)
theorem s_pass (q : D.nx ρ) : SvW X (.Pass pos) ρ D := fun σ G H rel T m => ts_of ps_pass (m.nx ρ σ G H rel .refl q)
theorem s_ret (h : EvW X e ρ D.rt) : SvW X (.Return (some e) pos) ρ D := fun σ G H rel T m => ts_of (ps_ret pe_W) (h σ G H rel T.rt fun v d ρ1 G1 H1 r1 s1 i1 q1 => m.rt v d ρ1 σ G1 H1 r1 s1 i1 q1)
theorem s_if (hc : TvW X c ρ fun k ρ1 => if k = true then BvW X body ρ1 D else BvW X orelse ρ1 D) : SvW X (.If c body orelse pos) ρ D := fun σ G H rel T m => ts_of (ps_if pt_W pb_W pb_W) (hc σ G H rel _ fun k ρ1 G1 H1 r1 s1 q1 => by
  cases k with
  | true =>
    rw [if_pos rfl] at q1 ⊢
    exact q1 σ G1 H1 r1 T (m.step s1)
  | false =>
    rw [if_neg Bool.false_ne_true] at q1 ⊢
    exact q1 σ G1 H1 r1 T (m.step s1))
theorem s_if' {k : Bool} (hc : Tv X c ρ k) (h1 : k = true → BvW X body ρ D) (h2 : k = false → BvW X orelse ρ D) : SvW X (.If c body orelse pos) ρ D := s_if (hc.w (by
  cases k with
  | true =>
    rw [if_pos rfl]
    exact h1 rfl
  | false =>
    rw [if_neg Bool.false_ne_true]
    exact h2 rfl))
/-- name = data -/
theorem s_set {i : Nat} {x : Str} {px : Pos} (nd : X.N.Nodup) (h : EvW X e ρ fun d ρ1 => D.nx (ρ1.set i (.dat d))) (hi : X.N[i]? = some x := by rfl) (hx : Loc X.env.scope x := by first | exact Or.inl rfl | exact Or.inr rfl) (hs : swapsWith e (some (.Name x px)) pos.line X.env = pure false := by rfl)
    (hf : X.fn x = true ∨ X.env.scope.names.lookup x = some .local := by first | exact .inl rfl | exact .inr rfl) : SvW X (.Assign [.Name x px] e pos) ρ D := fun σ G H rel T m =>
  ts_of (ps_set nd hi hx pe_W hs hf) (h σ G H rel _ fun v d ρ1 G1 H1 r1 s1 i1 q1 => m.nx _ _ G1 H1 (r1.dat i1) (s1.trans Stp.dat) q1)
theorem Stp.newL {G H G1 H1 : Hp} {ρ ρ1 : Rho} {i : Nat} {l : Addr} {ds : List PyData} (s : Stp ρ G H ρ1 G1 H1) (n : H l = none) : Stp ρ G H (ρ1.set i (.lst l ds)) G1 H1 :=
  ⟨s.gg, s.fr, s.kp, s.al, fun b ⟨j, hb⟩ => by
    rcases ownAt_set hb with ⟨_, z⟩ | ⟨_, z⟩
    · cases z
      exact .inr n
    · exact s.ow b ⟨j, z⟩⟩
/-- name = a new list, owned from here -/
theorem s_setL {i : Nat} {x : Str} {px : Pos} (nd : X.N.Nodup) (h : ElW X e ρ fun ds ρ1 => ∀ l, D.nx (ρ1.set i (.lst l ds))) (hi : X.N[i]? = some x := by rfl) (hx : Loc X.env.scope x := by first | exact Or.inl rfl | exact Or.inr rfl) (hs : swapsWith e (some (.Name x px)) pos.line X.env = pure false := by rfl)
    (hf : X.fn x = true ∨ X.env.scope.names.lookup x = some .local := by first | exact .inl rfl | exact .inr rfl) : SvW X (.Assign [.Name x px] e pos) ρ D := fun σ G H rel T m =>
  ts_of (ps_set nd hi hx pe_W hs hf) (h σ G H rel _ fun l vs ds ρ1 G1 H1 r1 s1 n1 n2 n3 h1 i1 q1 => m.nx _ _ G1 H1 (r1.new n1 h1 i1 n2) (s1.newL n3) (q1 l))
/-! targets -/
theorem g_name {W : Nat → Prop} {i : Nat} {x : Str} {px : Pos} {QG : Rho → Prop} (nd : X.N.Nodup) (hW : W i) (q : QG (ρ.set i (.dat d))) (hi : X.N[i]? = some x := by rfl) (hx : Loc X.env.scope x := by first | exact Or.inl rfl | exact Or.inr rfl)
    (hf : X.fn x = true ∨ X.env.scope.names.lookup x = some .local := by first | exact .inl rfl | exact .inr rfl) : GvW X W (.Name x px) d ρ QG := fun σ G H v rel iv R k => tg_of (pg_name nd hi hx hf) (k _ _ G H (rel.dat iv) Stp.dat ⟨List.length_set .., fun j hj => List.getElem?_set_ne fun z => hj (by rw [← z]; exact hW)⟩ q)
theorem gs_nil {W : Nat → Prop} {QG : Rho → Prop} (q : QG ρ) : GsW X W [] [] ρ QG := fun σ G H vs rel iv R k => tgs_of pgs_nil (by
  cases iv
  exact ⟨rfl, k ρ σ G H rel .refl .refl q⟩)
theorem gs_cons {W : Nat → Prop} {QG : Rho → Prop} (h1 : GvW X W e d ρ fun ρ1 => GsW X W es ds ρ1 QG) (hs : (assignEach (e :: es) X.env).map (·.2) = assign e X.env :: (assignEach es X.env).map (·.2) := by rfl) : GsW X W (e :: es) (d :: ds) ρ QG := fun σ G H vs rel iv R k => tgs_of (pgs_cons pg_W pgs_W hs) (by
  cases iv with
  | cons i1 i2 =>
    exact ⟨_, _, rfl, h1 σ G H _ rel i1 _ fun ρ1 σ1 G1 H1 r1 s1 c1 q1 => q1 σ1 G1 H1 _ r1 (i2.mono s1.gg) R fun ρ2 σ2 G2 H2 r2 s2 c2 q2 => k ρ2 σ2 G2 H2 r2 (s1.trans s2) (c1.trans c2) q2⟩)
theorem g_tup {W : Nat → Prop} {QG : Rho → Prop} {k : Nat} (hc : X.calm = true) (h : GsW X W es ds ρ QG) (hn : (assignEach es X.env).length = ds.length := by rfl) (hst : (assignEach es X.env).findIdx? (·.1) = none := by rfl) : GvW X W (.Tuple es k pos) (.tuple ds) ρ QG := fun σ G H v rel iv R kk => tg_of (pg_tup hc pgs_W hn hst) (by
  cases iv with
  | tup h1 h2 => exact ⟨_, _, rfl, ex_t rel.ex h1, h2.length, h σ G H _ rel h2 R kk⟩)
theorem s_asg (h : EvW X e ρ fun d ρ1 => GvW X (fun _ => True) tg d ρ1 D.nx) (hs : swapsWithSole [tg] e pos.line X.env = pure false := by rfl) (hw : swappedStores [tg] e X.env = pure none := by rfl)
    (h1 : (assignEach [tg] X.env).map (·.2) = [assign tg X.env] := by rfl) : SvW X (.Assign [tg] e pos) ρ D := fun σ G H rel T m => ts_of (ps_asg pe_W pg_W hs hw h1) (h σ G H rel _ fun v d ρ1 G1 H1 r1 s1 i1 q1 => q1 σ G1 H1 v r1 i1 _ fun ρ2 σ2 G2 H2 r2 s2 _ q2 => m.nx ρ2 σ2 G2 H2 r2 (s1.trans s2) q2)
/-! several values at once, some of them new lists -/
def SlV (K : PySem.W.Frag) (G H : Hp) (v : V) : Sl → Prop
  | .un => False
  | .dat d => Is K G v d
  | .lst a ds => v = .ref a ∧ G a = none ∧ ∃ vs, H a = some (.lst vs) ∧ IsAll K G vs ds
  | .obj a o => v = .ref a ∧ G a = none ∧ ∃ u, H a = some u ∧ o.p K G a u
theorem SlV.step {K : PySem.W.Frag} {ρ ρ' : Rho} {G H G' H' : Hp} {v : V} {s : Sl} (h : SlV K G H v s) (hn : ∀ a, s.own = some a → ¬ Own ρ a) (p : Stp ρ G H ρ' G' H') : SlV K G' H' v s ∧ ∀ a, s.own = some a → ¬ Own ρ' a := by
  cases s with
  | un => exact h.elim
  | dat d => exact ⟨h.mono p.gg, fun a z => by cases z⟩
  | lst a ds =>
    obtain ⟨h1, h2, vs, h3, h4⟩ := h
    have no := hn a rfl
    refine ⟨⟨h1, p.fr a no h2 (by rw [h3]; exact nofun), vs, p.kp a _ no h3, h4.mono p.gg⟩, fun b z w => ?_⟩
    cases z
    rcases p.ow a w with w | w
    · exact no w
    · rw [h3] at w
      cases w
  | obj a o =>
    obtain ⟨h1, h2, u, h3, h4⟩ := h
    have no := hn a rfl
    refine ⟨⟨h1, p.fr a no h2 (by rw [h3]; exact nofun), u, p.kp a _ no h3, o.up p.gg h4⟩, fun b z w => ?_⟩
    cases z
    rcases p.ow a w with w | w
    · exact no w
    · rw [h3] at w
      cases w
/-- one value, new or frozen -/
def ExW (X : Cx) (e : Expr) (ρ : Rho) (Q : Sl → Rho → Prop) : Prop := ∀ (σ : L2.St) (G H : Hp), Rel X.K ρ σ G H → ∀ R : VK,
  (∀ v s ρ' G' H', Rel X.K ρ' σ G' H' → Stp ρ G H ρ' G' H' → SlV X.K G' H' v s → (∀ a, s.own = some a → ¬ Own ρ' a ∧ H a = none) → Q s ρ' → R v H') → teW X e σ H R
theorem ex_dat {Q : Sl → Rho → Prop} (h : EvW X e ρ fun d ρ1 => Q (.dat d) ρ1) : ExW X e ρ Q := fun σ G H rel R k => h σ G H rel R fun v d ρ1 G1 H1 r1 s1 i1 q1 => k v (.dat d) ρ1 G1 H1 r1 s1 i1 (fun a z => by cases z) q1
theorem ex_new {Q : Sl → Rho → Prop} (h : ElW X e ρ fun ds ρ1 => ∀ l, Q (.lst l ds) ρ1) : ExW X e ρ Q := fun σ G H rel R k => h σ G H rel R fun l vs ds ρ1 G1 H1 r1 s1 n1 n2 n3 h1 i1 q1 => k (.ref l) (.lst l ds) ρ1 G1 H1 r1 s1 ⟨rfl, n1, vs, h1, i1⟩ (fun a z => by
  cases z
  exact ⟨n2, n3⟩) (q1 l)
theorem Stp.unused {ρ ρ1 : Rho} {G H G1 H1 : Hp} (s : Stp ρ G H ρ1 G1 H1) {a : Addr} (h : H1 a = none) : H a = none := by
  cases q : H a with
  | none => rfl
  | some o => exact absurd h (s.al a (by rw [q]; exact nofun))
theorem SlV.ok {K : PySem.W.Frag} {σ : L2.St} {G H : Hp} {v : V} {s : Sl} {i : Nat} (h : SlV K G H v s) (e : σ[i]? = some (some v)) : SlOk K σ G H i s := by
  cases s with
  | un => exact h.elim
  | dat d => exact ⟨v, e, h⟩
  | lst a ds =>
    obtain ⟨rfl, h2, h3⟩ := h
    exact ⟨e, h2, h3⟩
  | obj a o =>
    obtain ⟨rfl, h2, u, h3, h4⟩ := h
    exact ⟨e, h2, u, h3, h4⟩
theorem Rel.lay {K : PySem.W.Frag} {ρ : Rho} {σ : L2.St} {G H : Hp} {i : Nat} {v : V} {s : Sl} (r : Rel K ρ σ G H) (h : SlV K G H v s) (hn : ∀ a, s.own = some a → ¬ Own ρ a) : Rel K (ρ.set i s) (σ.set i (some v)) G H :=
  r.set (fun hl => h.ok (by rw [List.getElem?_set_self (by rw [← r.len]; exact hl)])) hn
theorem Stp.lay {ρ ρ1 : Rho} {G H G1 H1 : Hp} {i : Nat} {s : Sl} (p : Stp ρ G H ρ1 G1 H1) (hn : ∀ a, s.own = some a → H a = none) : Stp ρ G H (ρ1.set i s) G1 H1 :=
  ⟨p.gg, p.fr, p.kp, p.al, fun b ⟨j, hb⟩ => by
    rcases ownAt_set hb with ⟨_, z⟩ | ⟨_, z⟩
    · exact .inr (hn b z)
    · exact p.ow b ⟨j, z⟩⟩
theorem own_set {ρ : Rho} {i : Nat} {s : Sl} {a : Addr} (h : Own (ρ.set i s) a) : s.own = some a ∨ Own ρ a := by
  obtain ⟨j, hb⟩ := h
  rcases ownAt_set hb with ⟨_, z⟩ | ⟨_, z⟩
  · exact .inl z
  · exact .inr ⟨j, z⟩
theorem SlV.inH {K : PySem.W.Frag} {G H : Hp} {v : V} {s : Sl} (h : SlV K G H v s) {a : Addr} (e : s.own = some a) : H a ≠ Option.none := by
  cases s with
  | un => exact h.elim
  | dat d => cases e
  | lst b ds =>
    cases e
    obtain ⟨h1, h2, vs, h3, h4⟩ := h
    rw [h3]
    exact nofun
  | obj b o =>
    cases e
    obtain ⟨h1, h2, u, h3, h4⟩ := h
    rw [h3]
    exact nofun
/-- a, b = x, y, plain local names -/
theorem s_par {i j : Nat} {x y : Str} {px py pt : Pos} {kt k2 pt2} (hc : X.calm = true) (nd : X.N.Nodup) (h : ExW X a ρ fun s ρ1 => ExW X b ρ1 fun t ρ2 => D.nx ((ρ2.set i s).set j t)) (hi : X.N[i]? = some x := by rfl) (hj : X.N[j]? = some y := by rfl) (hij : i ≠ j := by decide)
    (hx : X.env.scope.names.lookup x = some .local := by rfl) (hy : X.env.scope.names.lookup y = some .local := by rfl)
    (hw : swappedStores [.Tuple [.Name x px, .Name y py] kt pt] (.Tuple [a, b] k2 pt2) X.env = pure (some [x, y]) := by rfl)
    (hs : swapsWithSole [.Tuple [.Name x px, .Name y py] kt pt] (.Tuple [a, b] k2 pt2) pos.line X.env = pure false := by rfl)
    (e1 : starEach [a, b] X.env = (false, eval a X.env) :: starEach [b] X.env := by rfl) (e2 : starEach [b] X.env = (false, eval b X.env) :: starEach [] X.env := by rfl) :
    SvW X (.Assign [.Tuple [.Name x px, .Name y py] kt pt] (.Tuple [a, b] k2 pt2) pos) ρ D := fun σ G H rel T m => ts_of (ps_par hc nd hi hj hij hx hy (pa_cons pe_W (pa_cons pe_W pa_nil e2) e1) hw hs)
  (h σ G H rel _ fun v s ρ1 G1 H1 r1 s1 v1 n1 q1 => q1 σ G1 H1 r1 _ fun w t ρ2 G2 H2 r2 s2 v2 n2 q2 => by
    obtain ⟨v1', n1'⟩ := v1.step (fun a z => (n1 a z).1) s2
    refine ⟨v, w, rfl, m.nx _ _ G2 H2 ((r2.lay v1' n1').lay v2 fun a z o => ?_) (((s1.trans s2).lay fun a z => (n1 a z).2).lay fun a z => s1.unused (n2 a z).2) q2⟩
    rcases own_set o with o | o
    · exact v1.inH o (n2 a z).2
    · exact (n2 a z).1 o)
/-- .. three -/
theorem s_par3 {i j l : Nat} {x y z : Str} {px py pz pt : Pos} {kt k2 pt2} (hc : X.calm = true) (nd : X.N.Nodup) (h : ExW X a ρ fun s ρ1 => ExW X b ρ1 fun t ρ2 => ExW X c ρ2 fun u ρ3 => D.nx (((ρ3.set i s).set j t).set l u)) (hi : X.N[i]? = some x := by rfl) (hj : X.N[j]? = some y := by rfl) (hl : X.N[l]? = some z := by rfl)
    (hij : i ≠ j := by decide) (hil : i ≠ l := by decide) (hjl : j ≠ l := by decide) (hx : X.env.scope.names.lookup x = some .local := by rfl) (hy : X.env.scope.names.lookup y = some .local := by rfl) (hz : X.env.scope.names.lookup z = some .local := by rfl)
    (hw : swappedStores [.Tuple [.Name x px, .Name y py, .Name z pz] kt pt] (.Tuple [a, b, c] k2 pt2) X.env = pure (some [x, y, z]) := by rfl)
    (hs : swapsWithSole [.Tuple [.Name x px, .Name y py, .Name z pz] kt pt] (.Tuple [a, b, c] k2 pt2) pos.line X.env = pure false := by rfl)
    (e1 : starEach [a, b, c] X.env = (false, eval a X.env) :: starEach [b, c] X.env := by rfl) (e2 : starEach [b, c] X.env = (false, eval b X.env) :: starEach [c] X.env := by rfl) (e3 : starEach [c] X.env = (false, eval c X.env) :: starEach [] X.env := by rfl) :
    SvW X (.Assign [.Tuple [.Name x px, .Name y py, .Name z pz] kt pt] (.Tuple [a, b, c] k2 pt2) pos) ρ D := fun σ G H rel T m => ts_of (ps_par3 hc nd hi hj hl hij hil hjl hx hy hz (pa_cons pe_W (pa_cons pe_W (pa_cons pe_W pa_nil e3) e2) e1) hw hs)
  (h σ G H rel _ fun v s ρ1 G1 H1 r1 s1 v1 n1 q1 => q1 σ G1 H1 r1 _ fun w t ρ2 G2 H2 r2 s2 v2 n2 q2 => q2 σ G2 H2 r2 _ fun w' u ρ3 G3 H3 r3 s3 v3 n3 q3 => by
    obtain ⟨v1', n1'⟩ := v1.step (fun a z => (n1 a z).1) s2
    obtain ⟨v1'', n1''⟩ := v1'.step n1' s3
    obtain ⟨v2', n2'⟩ := v2.step (fun a z => (n2 a z).1) s3
    refine ⟨v, w, w', rfl, m.nx _ _ G3 H3 (((r3.lay v1'' n1'').lay v2' fun a z o => ?_).lay v3 fun a z o => ?_) (((((s1.trans s2).trans s3).lay fun a z => (n1 a z).2).lay fun a z => s1.unused (n2 a z).2).lay fun a z => (s1.trans s2).unused (n3 a z).2) q3⟩
    · rcases own_set o with o | o
      · exact v1.inH o (n2 a z).2
      · exact n2' a z o
    · rcases own_set o with o | o
      · exact v2.inH o (n3 a z).2
      · rcases own_set o with o | o
        · exact v1'.inH o (n3 a z).2
        · exact (n3 a z).1 o)
/-- a, b = x, y by a tuple (a name is a cell) -/
theorem s_tup2 {i j : Nat} {x y : Str} {px py pt : Pos} {kt k2 pt2} (hc : X.calm = true) (nd : X.N.Nodup) (h : ExW X a ρ fun s ρ1 => ExW X b ρ1 fun t ρ2 => D.nx ((ρ2.set i s).set j t)) (hi : X.N[i]? = some x := by rfl) (hj : X.N[j]? = some y := by rfl)
    (hx : Loc X.env.scope x := by first | exact Or.inl rfl | exact Or.inr rfl) (hy : Loc X.env.scope y := by first | exact Or.inl rfl | exact Or.inr rfl)
    (hfx : X.fn x = true ∨ X.env.scope.names.lookup x = some .local := by first | exact .inl rfl | exact .inr rfl) (hfy : X.fn y = true ∨ X.env.scope.names.lookup y = some .local := by first | exact .inl rfl | exact .inr rfl)
    (hs : swapsWithSole [.Tuple [.Name x px, .Name y py] kt pt] (.Tuple [a, b] k2 pt2) pos.line X.env = pure false := by rfl) (hw : swappedStores [.Tuple [.Name x px, .Name y py] kt pt] (.Tuple [a, b] k2 pt2) X.env = pure none := by rfl)
    (h1 : (assignEach [.Tuple [.Name x px, .Name y py] kt pt] X.env).map (·.2) = [assign (.Tuple [.Name x px, .Name y py] kt pt) X.env] := by rfl)
    (hn : (assignEach [.Name x px, .Name y py] X.env).length = 2 := by rfl) (hst : (assignEach [.Name x px, .Name y py] X.env).findIdx? (·.1) = none := by rfl)
    (g1 : (assignEach [.Name x px, .Name y py] X.env).map (·.2) = assign (.Name x px) X.env :: (assignEach [.Name y py] X.env).map (·.2) := by rfl) (g2 : (assignEach [.Name y py] X.env).map (·.2) = assign (.Name y py) X.env :: (assignEach [] X.env).map (·.2) := by rfl)
    (e1 : starEach [a, b] X.env = (false, eval a X.env) :: starEach [b] X.env := by rfl) (e2 : starEach [b] X.env = (false, eval b X.env) :: starEach [] X.env := by rfl) :
    SvW X (.Assign [.Tuple [.Name x px, .Name y py] kt pt] (.Tuple [a, b] k2 pt2) pos) ρ D := fun σ G H rel T m => ts_of (ps_asg (pe_tup (pa_cons pe_W (pa_cons pe_W pa_nil e2) e1)) (pg_tup hc (pgs_cons (pg_name nd hi hx hfx) (pgs_cons (pg_name nd hj hy hfy) pgs_nil g2) g1) hn hst) hs hw h1)
  (h σ G H rel _ fun v s ρ1 G1 H1 r1 s1 v1 n1 q1 => q1 σ G1 H1 r1 _ fun w t ρ2 G2 H2 r2 s2 v2 n2 q2 => by
    obtain ⟨v1', n1'⟩ := v1.step (fun a z => (n1 a z).1) s2
    refine ⟨by show 2 ≤ sizeLine; decide, fun p hp => ?_⟩
    have P : PSt G2 H2 G2 (upd H2 p (.tup [v, w])) := PSt.newH r2.ex hp
    obtain ⟨v1'', n1''⟩ := v1'.step n1' (P.stp (ρ := ρ2))
    obtain ⟨v2'', n2''⟩ := v2.step (fun a z => (n2 a z).1) (P.stp (ρ := ρ2))
    refine ⟨p, _, rfl, SqT.of upd_same, rfl, v, [w], rfl, w, [], rfl, rfl, m.nx _ _ G2 _ (((r2.pure P).lay v1'' n1'').lay v2'' fun a z o => ?_) ((((s1.trans s2).trans P.stp).lay fun a z => (n1 a z).2).lay fun a z => s1.unused (n2 a z).2) q2⟩
    rcases own_set o with o | o
    · exact v1.inH o (n2 a z).2
    · exact (n2 a z).1 o)
/-- o[i] = e, o an own list by its name -/
theorem s_setI {i : Nat} {x : Str} {px ps : Pos} (h : EvW X e ρ fun d ρ1 => EvW X b ρ1 fun j ρ2 => ∃ l ds n k, ρ2[i]? = some (.lst l ds) ∧ j = .int n ∧ ixN ds.length n = some k ∧ D.nx (ρ2.set i (.lst l (ds.set k d))))
    (hN : X.N[i]? = some x := by rfl) (hv : Vis X.env.scope x := by first | exact Or.inl rfl | exact Or.inr (Or.inl rfl) | exact Or.inr (Or.inr rfl)) (hd : (x == ("__debug__" : Str)) = false := by decide) (hcd : (x == ("__classdict__" : Str)) = false := by decide)
    (ha : ∀ v, assign (.Subscript (.Name x px) b ps) X.env v = (do
      let ov ← holding [v] (eval (.Name x px) X.env)
      let iv ← holding [v, ov] (eval b X.env)
      standAt ps
      holding [v, ov, iv] (setItem ov iv v)
      release [v, ov, iv] []) := by intro _; rfl)
    (h0 : ∃ l ds, ρ[i]? = some (.lst l ds) := by exact ⟨_, _, rfl⟩)
    (hs : swapsWithSole [.Subscript (.Name x px) b ps] e pos.line X.env = pure false := by rfl) (hw : swappedStores [.Subscript (.Name x px) b ps] e X.env = pure none := by rfl)
    (h1 : (assignEach [.Subscript (.Name x px) b ps] X.env).map (·.2) = [assign (.Subscript (.Name x px) b ps) X.env] := by rfl) : SvW X (.Assign [.Subscript (.Name x px) b ps] e pos) ρ D := fun σ G H rel T m => by
  obtain ⟨l0, ds0, h0⟩ := h0
  obtain ⟨e0, _⟩ := rel.sl i _ h0
  refine ts_of (ps_asg pe_W (pg_sub (pe_var hN hv hd hcd) pe_W set_list ha) hs hw h1) (h σ G H rel _ fun v d ρ1 G1 H1 r1 s1 i1 q1 => ⟨_, e0, q1 σ G1 H1 r1 _ fun w j ρ2 G2 H2 r2 s2 i2 ⟨l, ds, n, k, z1, z2, z3, q⟩ => ?_⟩)
  subst z2
  cases i2
  obtain ⟨e2, n2, vs2, hH2, hv2⟩ := r2.sl i _ z1
  rw [e0] at e2
  cases e2
  refine ⟨_, vs2, n, k, rfl, rfl, hH2, by rw [hv2.length]; exact z3, ?_⟩
  exact m.nx _ _ G2 _ (r2.upd z1 (hv2.set k (i1.mono s2.gg))) ((s1.trans s2).trans (Stp.upd z1)) q
/-- o.append(e) -/
theorem s_app {i : Nat} {x : Str} {px pa cp : Pos} (h : EvW X e ρ fun d ρ1 => ∃ l ds, ρ1[i]? = some (.lst l ds) ∧ ds.length < 1000000 ∧ D.nx (ρ1.set i (.lst l (ds ++ [d])))) (h0 : ∃ l ds, ρ[i]? = some (.lst l ds) := by exact ⟨_, _, rfl⟩)
    (hN : X.N[i]? = some x := by rfl) (hv : Vis X.env.scope x := by first | exact Or.inl rfl | exact Or.inr (Or.inl rfl) | exact Or.inr (Or.inr rfl)) (hd : (x == ("__debug__" : Str)) = false := by decide) (hcd : (x == ("__classdict__" : Str)) = false := by decide)
    (hbase : attributeBase (.Name x px) "append" X.env (eval (.Name x px) X.env) = eval (.Name x px) X.env := by rfl)
    (hfew : ((backTo cp (starEach [e] X.env)).all (fun x => !x.1) && (backToKw cp (keywordEach [] X.env)).all (fun x => x.1.isSome) && decide (([e] : List Expr).length + ([] : List Keyword).length + (if ([] : List Keyword).isEmpty then 0 else 1) < 30)) = true := by rfl)
    (hline : (pa.endLine == cp.line) = true := by rfl) (hst : starEach [e] X.env = (false, eval e X.env) :: starEach [] X.env := by rfl) (hplain : (backTo cp (starEach [] X.env)).any (·.1) = false := by rfl)
    (hs : swapsWith (.Call (.Attribute (.Name x px) "append" pa) [e] [] cp) none pos.line X.env = pure false := by rfl) : SvW X (.Expr (.Call (.Attribute (.Name x px) "append" pa) [e] [] cp) pos) ρ D := fun σ G H rel T m => by
  obtain ⟨l0, ds0, h0⟩ := h0
  obtain ⟨e0, n0, vs0, hH0, hv0⟩ := rel.sl i _ h0
  refine ts_of (ps_expr (pe_bm PySem.F.plainAttrs_list PySem.F.slot_list_append PySem.F.type_list_append mt_append (pe_var hN hv hd hcd) (pa_cons pe_W pa_nil hst) hbase hfew hline hst hplain) hs) ⟨_, e0, .inl ⟨rfl, _, SqL.of hH0⟩, h σ G H rel _ fun v d ρ1 G1 H1 r1 s1 i1 ⟨l, ds, z1, z2, q⟩ => ?_⟩
  obtain ⟨e2, n2, vs2, hH2, hv2⟩ := r1.sl i _ z1
  rw [e0] at e2
  cases e2
  exact ⟨_, vs2, v, rfl, rfl, hH2, by rw [hv2.length]; exact bigL z2, m.nx _ _ G1 _ (r1.upd z1 (hv2.snoc i1)) (s1.trans (Stp.upd z1)) q⟩
/-- o.extend(e) -/
theorem s_ext {i : Nat} {x : Str} {px pa cp : Pos} (h : ElW X e ρ fun es ρ1 => ∃ l ds, ρ1[i]? = some (.lst l ds) ∧ ds.length + es.length ≤ 1000000 ∧ D.nx (ρ1.set i (.lst l (ds ++ es)))) (h0 : ∃ l ds, ρ[i]? = some (.lst l ds) := by exact ⟨_, _, rfl⟩)
    (hN : X.N[i]? = some x := by rfl) (hv : Vis X.env.scope x := by first | exact Or.inl rfl | exact Or.inr (Or.inl rfl) | exact Or.inr (Or.inr rfl)) (hd : (x == ("__debug__" : Str)) = false := by decide) (hcd : (x == ("__classdict__" : Str)) = false := by decide)
    (hbase : attributeBase (.Name x px) "extend" X.env (eval (.Name x px) X.env) = eval (.Name x px) X.env := by rfl)
    (hfew : ((backTo cp (starEach [e] X.env)).all (fun x => !x.1) && (backToKw cp (keywordEach [] X.env)).all (fun x => x.1.isSome) && decide (([e] : List Expr).length + ([] : List Keyword).length + (if ([] : List Keyword).isEmpty then 0 else 1) < 30)) = true := by rfl)
    (hline : (pa.endLine == cp.line) = true := by rfl) (hst : starEach [e] X.env = (false, eval e X.env) :: starEach [] X.env := by rfl) (hplain : (backTo cp (starEach [] X.env)).any (·.1) = false := by rfl)
    (hs : swapsWith (.Call (.Attribute (.Name x px) "extend" pa) [e] [] cp) none pos.line X.env = pure false := by rfl) : SvW X (.Expr (.Call (.Attribute (.Name x px) "extend" pa) [e] [] cp) pos) ρ D := fun σ G H rel T m => by
  obtain ⟨l0, ds0, h0⟩ := h0
  obtain ⟨e0, n0, vs0, hH0, hv0⟩ := rel.sl i _ h0
  refine ts_of (ps_expr (pe_bm PySem.F.plainAttrs_list PySem.F.slot_list_extend PySem.F.type_list_extend mt_extend (pe_var hN hv hd hcd) (pa_cons pe_W pa_nil hst) hbase hfew hline hst hplain) hs) ⟨_, e0, .inl ⟨rfl, _, SqL.of hH0⟩, h σ G H rel _ fun b vs es ρ1 G1 H1 r1 s1 n1 n2 n3 h1 i1 ⟨l, ds, z1, z2, q⟩ => ?_⟩
  obtain ⟨e2, n2, vs2, hH2, hv2⟩ := r1.sl i _ z1
  rw [e0] at e2
  cases e2
  exact ⟨_, _, vs2, _, rfl, rfl, hH2, h1, by rw [hv2.length, i1.length]; exact big z2, m.nx _ _ G1 _ (r1.upd z1 (hv2.app i1)) (s1.trans (Stp.upd z1)) q⟩
/-- o.pop() -/
theorem ew_pop {i : Nat} {x : Str} {px pa cp : Pos} {l : Addr} {Q : PyData → Rho → Prop} (h0 : ρ[i]? = some (.lst l (ds ++ [d]))) (q : Q d (ρ.set i (.lst l ds)))
    (hN : X.N[i]? = some x := by rfl) (hv : Vis X.env.scope x := by first | exact Or.inl rfl | exact Or.inr (Or.inl rfl) | exact Or.inr (Or.inr rfl)) (hd : (x == ("__debug__" : Str)) = false := by decide) (hcd : (x == ("__classdict__" : Str)) = false := by decide)
    (hbase : attributeBase (.Name x px) "pop" X.env (eval (.Name x px) X.env) = eval (.Name x px) X.env := by rfl) (hline : (pa.endLine == cp.line) = true := by rfl) : EvW X (.Call (.Attribute (.Name x px) "pop" pa) [] [] cp) ρ Q := fun σ G H rel R k => by
  obtain ⟨e0, n0, vs0, hH0, hv0⟩ := rel.sl i _ h0
  obtain ⟨u, hu, iu⟩ := hv0.get (i := ds.length) (d := d) (by simp)
  have hl := hv0.length
  rw [List.length_append, List.length_singleton] at hl
  refine te_of (pe_bm0 PySem.F.plainAttrs_list PySem.F.slot_list_pop PySem.F.type_list_pop mt_pop (pe_var hN hv hd hcd) hbase hline) ⟨_, e0, .inl ⟨rfl, _, SqL.of hH0⟩, _, vs0, u, rfl, rfl, hH0, by rw [hl]; simpa using hu, ?_⟩
  have hv1 : IsAll X.K G vs0.dropLast ds := by
    have := hv0.dropLast
    rwa [List.dropLast_concat] at this
  exact k u d _ G _ (rel.upd h0 hv1) (Stp.upd h0) iu q
end
end Pl
namespace Pl
open PySem PySem.Spec PyProof.Rows L2
open Evl (Ex ex_t ex_l)
section
variable {X : Cx} {e a b c tg iter : Expr} {es ts ifs rest : List Expr} {st : Stmt} {sts body orelse : List Stmt} {ρ : Rho} {d f : PyData} {ds : List PyData} {pos : Pos} {D D' : En}

/-! what is walked -/
theorem iv_list {QI : List PyData → (Rho → Prop) → Rho → Prop} (h : EvW X iter ρ fun d ρ1 => ∃ ds, d = .list ds ∧ QI ds (fun _ => True) ρ1) : IvW X tg iter ρ QI := fun σ G H rel R k => ti_of (pi_list pe_W) (h σ G H rel _ fun v d ρ1 G1 H1 r1 s1 i1 ⟨ds, e1, q⟩ => by
  subst e1
  cases i1 with
  | lst h1 h2 =>
    rename_i l vs
    refine ⟨l, rfl, ⟨_, ex_l r1.ex h1⟩, k ds _ _ ρ1 G1 H1 r1 s1 (fun i ρ2 σ2 G2 H2 r2 e2 _ => ?_) q⟩
    have hq : SqL X.K H2 l vs := ex_l r2.ex (ex_l e2 h1)
    refine ⟨fun hi => ⟨⟨vs, vs[i]'(by rw [h2.length]; exact hi), hq, by simp⟩, fun x H' y => ?_⟩, fun hi => ⟨vs, hq, by rw [h2.length]; exact hi⟩⟩
    obtain ⟨ye, y⟩ := y
    subst ye
    obtain ⟨d, e3, h3⟩ := h2.get' (y vs hq)
    exact ⟨d, G2, e3, .refl r2.ex, h3.mono e2⟩)
theorem iv_tup {QI : List PyData → (Rho → Prop) → Rho → Prop} (h : EvW X iter ρ fun d ρ1 => ∃ ds, d = .tuple ds ∧ QI ds (fun _ => True) ρ1) : IvW X tg iter ρ QI := fun σ G H rel R k => ti_of (pi_tup pe_W) (h σ G H rel _ fun v d ρ1 G1 H1 r1 s1 i1 ⟨ds, e1, q⟩ => by
  subst e1
  cases i1 with
  | tup h1 h2 =>
    rename_i l vs
    refine ⟨l, rfl, ⟨_, ex_t r1.ex h1⟩, k ds _ _ ρ1 G1 H1 r1 s1 (fun i ρ2 σ2 G2 H2 r2 e2 _ => ?_) q⟩
    have hq : SqT X.K H2 l vs := ex_t r2.ex (ex_t e2 h1)
    refine ⟨fun hi => ⟨⟨vs, vs[i]'(by rw [h2.length]; exact hi), hq, by simp⟩, fun x H' y => ?_⟩, fun hi => ⟨vs, hq, by rw [h2.length]; exact hi⟩⟩
    obtain ⟨ye, y⟩ := y
    subst ye
    obtain ⟨d, e3, h3⟩ := h2.get' (y vs hq)
    exact ⟨d, G2, e3, .refl r2.ex, h3.mono e2⟩)
theorem iv_listO {i : Nat} {x : Str} {px : Pos} {l : Addr} {QI : List PyData → (Rho → Prop) → Rho → Prop} (h0 : ρ[i]? = some (.lst l ds)) (q : QI ds (fun ρ2 => ρ2[i]? = some (.lst l ds)) ρ)
    (hN : X.N[i]? = some x := by rfl) (hv : Vis X.env.scope x := by first | exact Or.inl rfl | exact Or.inr (Or.inl rfl) | exact Or.inr (Or.inr rfl)) (hd : (x == ("__debug__" : Str)) = false := by decide) (hcd : (x == ("__classdict__" : Str)) = false := by decide) : IvW X tg (.Name x px) ρ QI := fun σ G H rel R k => by
  obtain ⟨e0, n0, vs0, hH0, hv0⟩ := rel.sl i _ h0
  refine ti_of (pi_list (pe_var hN hv hd hcd)) ⟨_, e0, l, rfl, ⟨_, SqL.of hH0⟩, k ds _ _ ρ G H rel .refl (fun j ρ2 σ2 G2 H2 r2 e2 hG => ?_) q⟩
  obtain ⟨e1, n1, vs1, hH1, hv1⟩ := r2.sl i _ hG
  have hq : SqL X.K H2 l vs1 := SqL.of hH1
  refine ⟨fun hi => ⟨⟨vs1, vs1[j]'(by rw [hv1.length]; exact hi), hq, by simp⟩, fun x H' y => ?_⟩, fun hi => ⟨vs1, hq, by rw [hv1.length]; exact hi⟩⟩
  obtain ⟨ye, y⟩ := y
  subst ye
  obtain ⟨d, e3, h3⟩ := hv1.get' (y vs1 hq)
  exact ⟨d, G2, e3, .refl r2.ex, h3⟩
/-- lo, lo + 1, .. -/
def rng (lo : Int) (n : Nat) : List PyData := (List.range n).map fun (i : Nat) => PyData.int (lo + i)
def rngC (lo c : Int) (n : Nat) : List PyData := (List.range n).map fun (i : Nat) => PyData.int (lo + i * c)
theorem rng_len {lo : Int} {n : Nat} : (rng lo n).length = n := by simp [rng]
theorem rngC_len {lo c : Int} {n : Nat} : (rngC lo c n).length = n := by simp [rngC]
theorem rng_at {lo : Int} {n i : Nat} (h : i < n) : (rng lo n)[i]? = some (.int (lo + i)) := by simp [rng, h]
theorem rngC_at {lo c : Int} {n i : Nat} (h : i < n) : (rngC lo c n)[i]? = some (.int (lo + i * c)) := by simp [rngC, h]
theorem rng_get {lo : Int} {n i : Nat} {d : PyData} (h : (rng lo n)[i]? = some d) : i < n ∧ d = .int (lo + i) := by
  have hl := (List.getElem?_eq_some_iff.mp h).1
  rw [rng_len] at hl
  rw [rng_at hl] at h
  exact ⟨hl, (Option.some.inj h).symm⟩
theorem rngC_get {lo c : Int} {n i : Nat} {d : PyData} (h : (rngC lo c n)[i]? = some d) : i < n ∧ d = .int (lo + i * c) := by
  have hl := (List.getElem?_eq_some_iff.mp h).1
  rw [rngC_len] at hl
  rw [rngC_at hl] at h
  exact ⟨hl, (Option.some.inj h).symm⟩
theorem yld_rng {K : PySem.W.Frag} {σ : L2.St} {G : Hp} {Good : Rho → Prop} {lo : Int} {n : Nat} : Yld K (Itr lo n) σ G Good (rng lo n) := fun i ρ2 σ2 G2 H2 r2 e2 _ => by
  rw [rng_len]
  refine ⟨fun hi => ⟨hi, fun x H' y => ?_⟩, fun hi => hi⟩
  obtain ⟨ye, y⟩ := y
  subst ye
  subst y
  exact ⟨_, G2, rng_at hi, .refl r2.ex, .int _⟩
theorem yld_rngC {K : PySem.W.Frag} {σ : L2.St} {G : Hp} {Good : Rho → Prop} {lo c : Int} {n : Nat} : Yld K (Itc lo c n) σ G Good (rngC lo c n) := fun i ρ2 σ2 G2 H2 r2 e2 _ => by
  rw [rngC_len]
  refine ⟨fun hi => ⟨hi, fun x H' y => ?_⟩, fun hi => hi⟩
  obtain ⟨ye, y⟩ := y
  subst ye
  subst y
  exact ⟨_, G2, rngC_at hi, .refl r2.ex, .int _⟩
theorem iv_rng1 {p : Pos} {QI : List PyData → (Rho → Prop) → Rho → Prop} (hm : X.mg "range" = none) (ha : EvW X a ρ fun d ρ1 => ∃ n : Int, d = .int n ∧ -1000000 ≤ n ∧ n ≤ 1000000 ∧ QI (rng 0 n.toNat) (fun _ => True) ρ1) (hg : Gl X "range" := by rfl) (hs : starEach [a] X.env = [(false, eval a X.env)] := by rfl) : IvW X tg (.Call (.Name "range" p) [a] [] pos) ρ QI := fun σ G H rel R k =>
  ti_of (pi_range1 hg hm (pa_cons pe_W pa_nil hs) hs) (ha σ G H rel _ fun v d ρ1 G1 H1 r1 s1 i1 ⟨n, e1, h1, h2, q⟩ => by
    subst e1
    cases i1
    exact ⟨n, rfl, by omega, by omega, k _ _ _ ρ1 G1 H1 r1 s1 yld_rng q⟩)
theorem iv_rng2 {p : Pos} {QI : List PyData → (Rho → Prop) → Rho → Prop} (hm : X.mg "range" = none) (ha : AvW X [a, b] ρ fun ds ρ1 => ∃ lo n : Int, ds = [.int lo, .int n] ∧ -1000000 ≤ lo ∧ lo ≤ 1000000 ∧ -1000000 ≤ n ∧ n ≤ 1000000 ∧ QI (rng lo (n - lo).toNat) (fun _ => True) ρ1) (hg : Gl X "range" := by rfl) (hs : starEach [a, b] X.env = [(false, eval a X.env), (false, eval b X.env)] := by rfl) (hs2 : starEach [b] X.env = [(false, eval b X.env)] := by rfl) : IvW X tg (.Call (.Name "range" p) [a, b] [] pos) ρ QI := fun σ G H rel R k =>
  ti_of (pi_range2 hg hm pa_W hs hs2) (ha σ G H rel _ fun v d ρ1 G1 H1 r1 s1 i1 ⟨lo, n, e1, h1, h2, h3, h4, q⟩ => by
    subst e1
    cases i1 with
    | cons x1 x2 =>
      cases x2 with
      | cons x2 x3 =>
        cases x1
        cases x2
        cases x3
        exact ⟨lo, n, rfl, ⟨by omega, by omega, by omega, by omega⟩, k _ _ _ ρ1 G1 H1 r1 s1 yld_rng q⟩)
theorem iv_down {p : Pos} {QI : List PyData → (Rho → Prop) → Rho → Prop} (hm : X.mg "range" = none) (ha : AvW X [a, b, c] ρ fun ds ρ1 => ∃ lo n : Int, ds = [.int lo, .int n, .int (-1)] ∧ -1000000 ≤ lo ∧ lo ≤ 1000000 ∧ -1000000 ≤ n ∧ n ≤ 1000000 ∧ QI (rngC lo (-1) (lo - n).toNat) (fun _ => True) ρ1) (hg : Gl X "range" := by rfl)
    (hs : starEach [a, b, c] X.env = (false, eval a X.env) :: starEach [b, c] X.env := by rfl) (hpl : (backTo pos (starEach [b, c] X.env)).any (·.1) = false := by rfl) : IvW X tg (.Call (.Name "range" p) [a, b, c] [] pos) ρ QI := fun σ G H rel R k =>
  ti_of (pi_range3 hg hm pa_W hs hpl) (ha σ G H rel _ fun v d ρ1 G1 H1 r1 s1 i1 ⟨lo, n, e1, h1, h2, h3, h4, q⟩ => by
    subst e1
    cases i1 with
    | cons x1 x2 =>
      cases x2 with
      | cons x2 x3 =>
        cases x3 with
        | cons x3 x4 =>
          cases x1
          cases x2
          cases x3
          cases x4
          exact ⟨lo, n, -1, _, rfl, RgC.neg (by omega) (by omega) (by omega) (by omega), k _ _ _ ρ1 G1 H1 r1 s1 yld_rngC q⟩)

/-! loops -/
theorem s_for (hc : X.calm = true) (hi : IvW X tg iter ρ fun ds Good ρ1 => ∃ Pv : Nat → Rho → Prop, (∀ i ρ2, Pv i ρ2 → Good ρ2) ∧ Pv 0 ρ1 ∧
      (∀ i d ρ2, ds[i]? = some d → Pv i ρ2 → GvW X (fun _ => True) tg d ρ2 fun ρ3 => BvW X body ρ3 { D with nx := Pv (i + 1), ct := Pv (i + 1), bk := D.nx }) ∧ ∀ ρ2, Pv ds.length ρ2 → D.nx ρ2)
    (hp : PassesOwn (model X.prog X.w) X.A X.env X.xe := by exact PassesOwn.never) (hs : ∀ x, foldedSetIterable iter X.env x = pure x := by intro _; rfl) : SvW X (.For tg iter body [] pos) ρ D := fun σ G H rel T m =>
  ts_of (ps_for hp hc pi_W pg_W pb_W hs) (hi σ G H rel _ fun ds Good J ρ1 G1 H1 r1 s1 y1 ⟨Pv, hG, h0, hstep, hend⟩ => by
    refine ⟨fun i k σ' H' => ∃ ρ2 G2, Rel X.K ρ2 σ' G2 H' ∧ Stp ρ G H ρ2 G2 H' ∧ Ex G1 G2 ∧ i ≤ ds.length ∧ k = ds.length - i ∧ Pv i ρ2, ⟨_, ρ1, G1, r1, s1, Ex.refl G1, Nat.zero_le _, rfl, h0⟩, fun i k σ' H' ⟨ρ2, G2, r2, s2, e2, hle, hk, p2⟩ => ?_⟩
    have y := y1 i ρ2 σ' G2 H' r2 e2 (hG i ρ2 p2)
    by_cases hlt : i < ds.length
    · obtain ⟨go, yl⟩ := y.1 hlt
      refine .inr ⟨go, fun σ3 H3 => ∃ ρ3 G3, Rel X.K ρ3 σ3 G3 H3 ∧ Stp ρ G H ρ3 G3 H3 ∧ Ex G1 G3 ∧ Pv (i + 1) ρ3, fun σ3 H3 ⟨ρ3, G3, r3, s3, e3, p3⟩ => ⟨ds.length - (i + 1), by omega, ρ3, G3, r3, s3, e3, hlt, rfl, p3⟩, fun x H3 hy => ?_⟩
      obtain ⟨d, G3, ed, ps, ix⟩ := yl x H3 hy
      refine hstep i d ρ2 ed p2 σ' G3 H3 x (r2.pure ps) ix _ fun ρ4 σ4 G4 H4 r4 s4 _ q4 => q4 σ4 G4 H4 r4 _ ?_
      have st : Stp ρ G H ρ4 G4 H4 := (s2.trans ps.stp).trans s4
      have ee : Ex G1 G4 := (e2.trans ps.gg).trans s4.gg
      exact ⟨fun ρ5 σ5 G5 H5 r5 s5 q5 => ⟨ρ5, G5, r5, st.trans s5, ee.trans s5.gg, q5⟩, fun v d ρ5 σ5 G5 H5 r5 s5 i5 q5 => m.rt v d ρ5 σ5 G5 H5 r5 (st.trans s5) i5 q5,
        fun ρ5 σ5 G5 H5 r5 s5 q5 => m.nx ρ5 σ5 G5 H5 r5 (st.trans s5) q5, fun ρ5 σ5 G5 H5 r5 s5 q5 => ⟨ρ5, G5, r5, st.trans s5, ee.trans s5.gg, q5⟩⟩
    · have e : i = ds.length := by omega
      subst e
      exact .inl ⟨y.2 (Nat.le_refl _), m.nx ρ2 σ' G2 H' r2 s2 (hend ρ2 p2)⟩)
theorem s_while (W : Nat → Rho → Prop) (m0 : Nat) (h0 : W m0 ρ) (hs : ∀ k ρ1, W k ρ1 → TvW X c ρ1 fun b ρ2 => if b = true then BvW X body ρ2 { D with nx := fun ρ3 => ∃ k', k' < k ∧ W k' ρ3, ct := fun ρ3 => ∃ k', k' < k ∧ W k' ρ3, bk := D.nx } else D.nx ρ2)
    (hp : PassesOwn (model X.prog X.w) X.A X.env X.xe := by exact PassesOwn.never) : SvW X (.While c body [] pos) ρ D := fun σ G H rel T m =>
  ts_of (ps_while hp pt_W pb_W) (by
    refine ⟨fun k σ' H' => ∃ ρ1 G1, Rel X.K ρ1 σ' G1 H' ∧ Stp ρ G H ρ1 G1 H' ∧ W k ρ1, ⟨m0, ρ, G, rel, .refl, h0⟩, fun k σ' H' ⟨ρ1, G1, r1, s1, w1⟩ => ?_⟩
    refine hs k ρ1 w1 σ' G1 H' r1 _ fun b ρ2 G2 H2 r2 s2 q2 => ?_
    cases b with
    | false =>
      rw [if_neg Bool.false_ne_true] at q2 ⊢
      exact m.nx ρ2 σ' G2 H2 r2 (s1.trans s2) q2
    | true =>
      rw [if_pos rfl] at q2 ⊢
      refine ⟨fun σ3 H3 => ∃ k', k' < k ∧ ∃ ρ3 G3, Rel X.K ρ3 σ3 G3 H3 ∧ Stp ρ G H ρ3 G3 H3 ∧ W k' ρ3, fun σ3 H3 ⟨k', hk, z⟩ => ⟨k', hk, z⟩, q2 σ' G2 H2 r2 _ ?_⟩
      have st := s1.trans s2
      exact ⟨fun ρ5 σ5 G5 H5 r5 s5 ⟨k', hk, q5⟩ => ⟨k', hk, ρ5, G5, r5, st.trans s5, q5⟩, fun v d ρ5 σ5 G5 H5 r5 s5 i5 q5 => m.rt v d ρ5 σ5 G5 H5 r5 (st.trans s5) i5 q5,
        fun ρ5 σ5 G5 H5 r5 s5 q5 => m.nx ρ5 σ5 G5 H5 r5 (st.trans s5) q5, fun ρ5 σ5 G5 H5 r5 s5 ⟨k', hk, q5⟩ => ⟨k', hk, ρ5, G5, r5, st.trans s5, q5⟩⟩)

/-! comprehensions -/
def wipeR (ρ : Rho) : List Nat → Rho
  | [] => ρ
  | v :: vs => (wipeR ρ vs).set v .un
def back (ρ ρ5 : Rho) : List Nat → Rho
  | [] => ρ5
  | v :: vs => (back ρ ρ5 vs).set v (ρ.getD v .un)
theorem wipeR_len {ρ : Rho} : ∀ vs : List Nat, (wipeR ρ vs).length = ρ.length
  | [] => rfl
  | v :: vs => by
    unfold wipeR
    rw [List.length_set, wipeR_len vs]
theorem back_len {ρ ρ5 : Rho} : ∀ vs : List Nat, (back ρ ρ5 vs).length = ρ5.length
  | [] => rfl
  | v :: vs => by
    unfold back
    rw [List.length_set, back_len vs]
theorem wipeR_weak {ρ : Rho} : ∀ vs : List Nat, ∀ i s, (wipeR ρ vs)[i]? = some s → (s = .un) ∨ (i ∉ vs ∧ ρ[i]? = some s)
  | [], i, s, h => .inr ⟨by simp, h⟩
  | v :: vs, i, s, h => by
    unfold wipeR at h
    by_cases hi : v = i
    · subst hi
      by_cases hv : v < (wipeR ρ vs).length
      · rw [List.getElem?_set_self hv] at h
        cases h
        exact .inl rfl
      · rw [List.getElem?_eq_none (by simpa using hv)] at h
        cases h
    · rw [List.getElem?_set_ne hi] at h
      rcases wipeR_weak vs i s h with z | ⟨z1, z2⟩
      · exact .inl z
      · exact .inr ⟨by simp [z1, Ne.symm hi], z2⟩
theorem back_get {ρ ρ5 : Rho} (hl : ρ5.length = ρ.length) : ∀ vs : List Nat, ∀ i, (i ∈ vs → (back ρ ρ5 vs)[i]? = ρ[i]?) ∧ (i ∉ vs → (back ρ ρ5 vs)[i]? = ρ5[i]?)
  | [], i => ⟨fun h => by simp at h, fun _ => rfl⟩
  | v :: vs, i => by
    obtain ⟨h1, h2⟩ := back_get hl vs i
    unfold back
    by_cases hi : v = i
    · subst hi
      refine ⟨fun _ => ?_, fun h => absurd List.mem_cons_self h⟩
      by_cases hv : v < ρ.length
      · rw [List.getElem?_set_self (by rw [back_len, hl]; exact hv), List.getD_eq_getElem?_getD, List.getElem?_eq_getElem hv]
        rfl
      · rw [List.getElem?_eq_none (by rw [List.length_set, back_len, hl]; omega), List.getElem?_eq_none (by omega)]
    · rw [List.getElem?_set_ne hi]
      refine ⟨fun h => h1 ?_, fun h => h2 fun z => h (List.mem_cons_of_mem _ z)⟩
      rcases List.mem_cons.mp h with z | z
      · exact absurd z.symm hi
      · exact z
theorem wipe_in {σ : L2.St} {i : Nat} : ∀ {vs : List Nat}, i ∈ vs → (wipe σ vs)[i]? = if i < σ.length then some none else none
  | v :: vs, h => by
    unfold wipe
    by_cases hi : v = i
    · subst hi
      by_cases hv : v < σ.length
      · rw [List.getElem?_set_self (by rw [wipe_length]; exact hv), if_pos hv]
      · rw [List.getElem?_eq_none (by rw [List.length_set, wipe_length]; omega), if_neg hv]
    · rw [List.getElem?_set_ne hi]
      rcases List.mem_cons.mp h with z | z
      · exact absurd z.symm hi
      · exact wipe_in z
theorem wipe_chg {σ σ' : L2.St} {vs : List Nat} (c : Chg (· ∈ vs) (wipe σ vs) σ') : wipe σ' vs = wipe σ vs := by
  apply List.ext_getElem?
  intro i
  have hl : σ'.length = σ.length := by rw [c.len, wipe_length]
  by_cases hi : i ∈ vs
  · rw [wipe_in hi, wipe_in hi, hl]
  · rw [wipe_out hi, c.out i hi]
theorem wipe_rel {K : PySem.W.Frag} {ρ : Rho} {σ : L2.St} {G H : Hp} (r : Rel K ρ σ G H) (vs : List Nat) : Rel K (wipeR ρ vs) (wipe σ vs) G H := by
  refine ⟨r.ex, by rw [wipeR_len, wipe_length, r.len], fun i s e => ?_, fun i j a h1 h2 => ?_⟩
  · rcases wipeR_weak vs i s e with z | ⟨z1, z2⟩
    · rw [z]
      trivial
    · exact (r.sl i s z2).slot (wipe_out z1)
  · have bk : ∀ i, OwnAt (wipeR ρ vs) i a → OwnAt ρ i a := fun i ⟨s, e, h⟩ => by
      rcases wipeR_weak vs i s e with z | ⟨z1, z2⟩
      · rw [z] at h
        cases h
      · exact ⟨s, z2, h⟩
    exact r.ds i j a (bk i h1) (bk j h2)
theorem wipe_own {ρ : Rho} {vs : List Nat} {a : Addr} (h : Own (wipeR ρ vs) a) : ∃ i, i ∉ vs ∧ OwnAt ρ i a := by
  obtain ⟨i, s, e, h⟩ := h
  rcases wipeR_weak vs i s e with z | ⟨z1, z2⟩
  · rw [z] at h
    cases h
  · exact ⟨i, z1, s, z2, h⟩
/-- a turn of a block is over: the outer slots again -/
theorem block_back {K : PySem.W.Frag} {ρ ρ5 : Rho} {σ σ5 : L2.St} {G H G5 H5 : Hp} {vs : List Nat} (r : Rel K ρ σ G H) (r5 : Rel K ρ5 σ5 G5 H5) (s : Stp (wipeR ρ vs) G H ρ5 G5 H5) (c : Chg (· ∈ vs) (wipe σ vs) σ5) :
    Rel K (back ρ ρ5 vs) σ G5 H5 ∧ Stp ρ G H (back ρ ρ5 vs) G5 H5 := by
  have hl : ρ5.length = ρ.length := by rw [r5.len, c.len, wipe_length, r.len]
  have σe : ∀ i, i ∉ vs → σ[i]? = σ5[i]? := fun i hi => by rw [c.out i hi, wipe_out hi]
  have notW : ∀ {i a}, i ∈ vs → OwnAt ρ i a → ¬ Own (wipeR ρ vs) a := fun {i a} hi ho z => by
    obtain ⟨j, hj, z⟩ := wipe_own z
    exact hj (by rw [← r.ds i j a ho z]; exact hi)
  have own : ∀ {i a}, OwnAt (back ρ ρ5 vs) i a → (i ∈ vs ∧ OwnAt ρ i a) ∨ (i ∉ vs ∧ OwnAt ρ5 i a) := fun {i a} ⟨t, e, h⟩ => by
    by_cases hi : i ∈ vs
    · rw [(back_get hl vs i).1 hi] at e
      exact .inl ⟨hi, t, e, h⟩
    · rw [(back_get hl vs i).2 hi] at e
      exact .inr ⟨hi, t, e, h⟩
  refine ⟨⟨r5.ex, by rw [back_len, hl, r.len], fun i t e => ?_, fun i j a h1 h2 => ?_⟩, ⟨s.gg, fun a h1 h2 h3 => s.fr a (fun z => ?_) h2 h3, fun a o h1 h2 => s.kp a o (fun z => ?_) h2, s.al, fun a ⟨i, h⟩ => ?_⟩⟩
  · by_cases hi : i ∈ vs
    · rw [(back_get hl vs i).1 hi] at e
      have z := r.sl i t e
      cases t with
      | un => trivial
      | dat d =>
        obtain ⟨v, z1, z2⟩ := z
        exact ⟨v, z1, z2.mono s.gg⟩
      | lst b fs =>
        obtain ⟨z1, z2, ws, z3, z4⟩ := z
        have no := notW hi ⟨_, e, rfl⟩
        exact ⟨z1, s.fr b no z2 (by rw [z3]; exact nofun), ws, s.kp b _ no z3, z4.mono s.gg⟩
      | obj b o =>
        obtain ⟨z1, z2, u, z3, z4⟩ := z
        have no := notW hi ⟨_, e, rfl⟩
        exact ⟨z1, s.fr b no z2 (by rw [z3]; exact nofun), u, s.kp b _ no z3, o.up s.gg z4⟩
    · rw [(back_get hl vs i).2 hi] at e
      exact (r5.sl i t e).slot (σe i hi)
  · rcases own h1 with ⟨i1, o1⟩ | ⟨i1, o1⟩ <;> rcases own h2 with ⟨i2, o2⟩ | ⟨i2, o2⟩
    · exact r.ds i j a o1 o2
    · rcases s.ow a ⟨j, o2⟩ with z | z
      · exact absurd z (notW i1 o1)
      · exact absurd z (r.ownH o1).2.1
    · rcases s.ow a ⟨i, o1⟩ with z | z
      · exact absurd z (notW i2 o2)
      · exact absurd z (r.ownH o2).2.1
    · exact r5.ds i j a o1 o2
  · obtain ⟨j, _, z⟩ := wipe_own z
    exact h1 ⟨j, z⟩
  · obtain ⟨j, _, z⟩ := wipe_own z
    exact h1 ⟨j, z⟩
  · rcases own h with ⟨_, o1⟩ | ⟨_, o1⟩
    · exact .inl ⟨i, o1⟩
    · rcases s.ow a ⟨i, o1⟩ with z | z
      · obtain ⟨j, _, z⟩ := wipe_own z
        exact .inl ⟨j, z⟩
      · exact .inr z
theorem Rel.other {K : PySem.W.Frag} {ρ : Rho} {σ : L2.St} {G H : Hp} {l : Addr} {o : HO} (r : Rel K ρ σ G H) (hG : G l = none) (hn : ¬ Own ρ l) : Rel K ρ σ G (L2.upd H l o) := by
  refine ⟨Ex.mut r.ex hG, r.len, fun i s e => ?_, r.ds⟩
  have z := r.sl i s e
  cases s with
  | un => trivial
  | dat d => exact z
  | lst b fs =>
    obtain ⟨z1, z2, ws, z3, z4⟩ := z
    exact ⟨z1, z2, ws, by rw [upd_ne fun y => hn ⟨i, _, e, by rw [← y]; rfl⟩]; exact z3, z4⟩
  | obj b o =>
    obtain ⟨z1, z2, u, z3, z4⟩ := z
    exact ⟨z1, z2, u, by rw [upd_ne fun y => hn ⟨i, _, e, by rw [← y]; rfl⟩]; exact z3, z4⟩
theorem Stp.other {ρ ρ' : Rho} {G H G' H' : Hp} {l : Addr} {o : HO} (s : Stp ρ G H ρ' G' H') (n : H l = none) : Stp ρ G H ρ' G' (L2.upd H' l o) :=
  ⟨s.gg, s.fr, fun a u h1 h2 => by
    rw [upd_ne (ne_of_none h2 n)]
    exact s.kp a u h1 h2, fun a h => by
    by_cases e : a = l
    · rw [e] at h
      exact absurd n h
    · rw [upd_ne e]
      exact s.al a h, s.ow⟩
abbrev Bk (X : Cx) (scope : Scope) (s : Shared) (H : Hp) (C : Addr) (cl : List (Str × Addr)) (fp : List Addr) : Cx := X.blk s H scope (compEnvC scope cl C X.env) fp
/-- a list comprehension's reading -/
def LcW (X : Cx) (elt tg iter : Expr) (ifs : List Expr) (scope : Scope) (own : List (Str × Nat)) (ρ : Rho) (Q : List PyData → Rho → Prop) : Prop := ∀ (σ : L2.St) (G H : Hp), Rel X.K ρ σ G H → ∀ R : VK,
  (∀ a vs ds ρ' G' H', Rel X.K ρ' σ G' H' → Stp ρ G H ρ' G' H' → G' a = none → ¬ Own ρ' a → H a = none → H' a = some (.lst vs) → IsAll X.K G' vs ds → Q ds ρ' → R (.ref a) H') →
  tLc (tiW X tg iter) (fun v σ H Q => ∀ s H0 C cl fp, tgW (Bk X scope s H0 C cl fp) tg v σ H Q) (fun σ H Q => ∀ s H0 C cl fp, tfW (Bk X scope s H0 C cl fp) ifs σ H Q) (fun σ H Q => ∀ s H0 C cl fp, teW (Bk X scope s H0 C cl fp) elt σ H Q) (own.map (·.2)) σ H R
theorem LcW.imp {elt : Expr} {scope : Scope} {own : List (Str × Nat)} {Q Q' : List PyData → Rho → Prop} (h : LcW X elt tg iter ifs scope own ρ Q) (q : ∀ d ρ', Q d ρ' → Q' d ρ') : LcW X elt tg iter ifs scope own ρ Q' := fun σ G H r R k => h σ G H r R fun a vs d ρ' G' H' r' s n1 n2 n3 n4 i z => k a vs d ρ' G' H' r' s n1 n2 n3 n4 i (q d ρ' z)
theorem lc_go {elt : Expr} {scope : Scope} {own : List (Str × Nat)} {QL : List PyData → Rho → Prop}
    (hi : IvW X tg iter ρ fun ds Good ρ1 => ds.length ≤ 1000000 ∧ ∃ Pv : Nat → List PyData → Rho → Prop, (∀ i acc ρ2, Pv i acc ρ2 → Good ρ2) ∧ Pv 0 [] ρ1 ∧
      (∀ i d acc ρ2, ds[i]? = some d → Pv i acc ρ2 → ∀ s H C cl fp, GvW (Bk X scope s H C cl fp) (· ∈ own.map (·.2)) tg d (wipeR ρ2 (own.map (·.2))) fun ρ3 => ∀ s H C cl fp, TfW (Bk X scope s H C cl fp) ifs ρ3 fun b ρ4 =>
        if b = true then ∀ s H C cl fp, EvW (Bk X scope s H C cl fp) elt ρ4 fun y ρ5 => Pv (i + 1) (acc ++ [y]) (back ρ2 ρ5 (own.map (·.2))) else Pv (i + 1) acc (back ρ2 ρ4 (own.map (·.2)))) ∧
      ∀ acc ρ2, Pv ds.length acc ρ2 → QL acc ρ2) : LcW X elt tg iter ifs scope own ρ QL := fun σ G H rel R k => by
  refine hi σ G H rel _ fun ds Good J ρ1 G1 H1 r1 s1 y1 ⟨hz, Pv, hG, h0, hstep, hend⟩ Dl hDl => ?_
  have P0 : PSt G1 H1 G1 (L2.upd H1 Dl (.lst [])) := PSt.newH r1.ex hDl
  have nD : H Dl = none := s1.unused hDl
  refine ⟨fun i m H' => ∃ ρ2 G2 acc us, Rel X.K ρ2 σ G2 H' ∧ Stp ρ G H ρ2 G2 H' ∧ Ex G1 G2 ∧ H' Dl = some (.lst us) ∧ G2 Dl = none ∧ ¬ Own ρ2 Dl ∧ IsAll X.K G2 us acc ∧ acc.length ≤ i ∧ i ≤ ds.length ∧ m = ds.length - i ∧ Pv i acc ρ2,
    ⟨ds.length, ρ1, G1, [], [], r1.pure P0, s1.trans P0.stp, Ex.refl G1, upd_same, no_of r1.ex hDl, own_new r1 hDl, .nil, Nat.zero_le _, Nat.zero_le _, rfl, h0⟩, fun i m H' ⟨ρ2, G2, acc, us, r2, s2, e2, hD2, gD2, oD2, hall, hacc, hle, hm, p2⟩ => ?_⟩
  have y := y1 i ρ2 σ G2 H' r2 e2 (hG i acc ρ2 p2)
  by_cases hlt : i < ds.length
  · obtain ⟨go, yl⟩ := y.1 hlt
    refine .inr ⟨go, fun H3 => ∃ ρ2 G2 acc us, Rel X.K ρ2 σ G2 H3 ∧ Stp ρ G H ρ2 G2 H3 ∧ Ex G1 G2 ∧ H3 Dl = some (.lst us) ∧ G2 Dl = none ∧ ¬ Own ρ2 Dl ∧ IsAll X.K G2 us acc ∧ acc.length ≤ i + 1 ∧ Pv (i + 1) acc ρ2, fun H3 ⟨ρ3, G3, acc3, us3, z1, z2, z3, z4, z5, z6, z7, z8, z9⟩ => ⟨ds.length - (i + 1), by omega, ρ3, G3, acc3, us3, z1, z2, z3, z4, z5, z6, z7, z8, hlt, rfl, z9⟩, fun x H3 hy => ?_⟩
    obtain ⟨d, G3, ed, ps, ix⟩ := yl x H3 hy
    intro s0 H0 C cl fp
    refine hstep i d acc ρ2 ed p2 s0 H0 C cl fp (wipe σ (own.map (·.2))) G3 H3 x (wipe_rel (r2.pure ps) _) ix _ ?_
    intro ρ4 σ4 G4 H4 r4 s4 c4 q4
    refine ⟨wipe_chg c4, ?_⟩
    intro s0 H0 C cl fp
    refine q4 s0 H0 C cl fp σ4 G4 H4 r4 _ fun b ρ5 G5 H5 r5 s5 q5 => ?_
    have st5 : Stp (wipeR ρ2 (own.map (·.2))) G3 H3 ρ5 G5 H5 := s4.trans s5
    have nw : ¬ Own (wipeR ρ2 (own.map (·.2))) Dl := fun z => by
      obtain ⟨j, _, z⟩ := wipe_own z
      exact oD2 ⟨j, z⟩
    have hD3 : H3 Dl = some (.lst us) := ps.hh _ _ hD2
    have gD3 : G3 Dl = none := ps.fr _ gD2 (by rw [hD2]; exact nofun)
    have fin : ∀ {ρ6 G6 H6}, Rel X.K ρ6 σ4 G6 H6 → Stp (wipeR ρ2 (own.map (·.2))) G3 H3 ρ6 G6 H6 → Rel X.K (back ρ2 ρ6 (own.map (·.2))) σ G6 H6 ∧ Stp ρ G H (back ρ2 ρ6 (own.map (·.2))) G6 H6 ∧ Ex G1 G6 ∧ H6 Dl = some (.lst us) ∧ G6 Dl = none ∧ ¬ Own (back ρ2 ρ6 (own.map (·.2))) Dl ∧ IsAll X.K G6 us acc := fun {ρ6 G6 H6} r6 s6 => by
      obtain ⟨z1, z2⟩ := block_back (r2.pure ps) r6 s6 c4
      refine ⟨z1, (s2.trans ps.stp).trans z2, (e2.trans ps.gg).trans s6.gg, s6.kp _ _ nw hD3, s6.fr _ nw gD3 (by rw [hD3]; exact nofun), fun z => ?_, (hall.mono ps.gg).mono s6.gg⟩
      rcases z2.ow _ z with z | z
      · exact oD2 z
      · rw [hD3] at z
        cases z
    cases b with
    | false =>
      rw [if_neg Bool.false_ne_true] at q5 ⊢
      obtain ⟨z1, z2, z3, z4, z5, z6, z7⟩ := fin r5 st5
      exact ⟨_, G5, acc, us, z1, z2, z3, z4, z5, z6, z7, by omega, q5⟩
    | true =>
      rw [if_pos rfl] at q5 ⊢
      intro s0 H0 C cl fp
      refine q5 s0 H0 C cl fp σ4 G5 H5 r5 _ fun v y ρ6 G6 H6 r6 s6 i6 q6 => ?_
      obtain ⟨z1, z2, z3, z4, z5, z6, z7⟩ := fin r6 (st5.trans s6)
      refine ⟨us, z4, by rw [hall.length]; exact bigL (by omega), _, G6, acc ++ [y], us ++ [v], z1.other z5 z6, z2.other nD, z3, upd_same, z5, z6, z7.snoc i6, by rw [List.length_append]; exact Nat.succ_le_succ hacc, q6⟩
  · have e : i = ds.length := by omega
    subst e
    exact .inl ⟨y.2 (Nat.le_refl _), k Dl us acc ρ2 G2 H' r2 s2 gD2 oD2 nD hD2 hall (hend acc ρ2 p2)⟩
theorem el_of {elt : Expr} {scope : Scope} {own : List (Str × Nat)} {QL : List PyData → Rho → Prop} (h : LcW X elt tg iter ifs scope own ρ QL) (hc : X.calm = true) (nd : X.N.Nodup) (ok : BlkOk X.N X.env.scope scope own)
    (hs : ∀ x, foldedSetIterable iter X.env x = pure x := by intro _; rfl) : ElW X (.ListComp elt [⟨tg, iter, ifs, 0⟩] scope pos) ρ QL := fun σ G H rel R k =>
  te_of (pe_lc hc nd pi_W ok (fun s H0 C cl fp => ⟨fun pins s' σ H v u Q I r h => (h s H0 C cl fp).run pins s' u I r⟩) (fun s H0 C cl fp => ⟨fun pins s' σ H Q I h => (h s H0 C cl fp).run pins s' I⟩) (fun s H0 C cl fp => ⟨fun pins s' σ H Q I h => (h s H0 C cl fp).run pins s' I⟩) hs) (h σ G H rel R k)
/-- name = [..] on one line, the name a plain local: owned from here -/
theorem s_setLc {elt : Expr} {scope : Scope} {own : List (Str × Nat)} {i : Nat} {y : Str} {py spos : Pos} (hc : X.calm = true) (nd : X.N.Nodup) (ok : BlkOk X.N X.env.scope scope own) (h : LcW X elt tg iter ifs scope own ρ fun ds ρ1 => ∀ l, D.nx (ρ1.set i (.lst l ds)))
    (hsw : swapsWith (.ListComp elt [⟨tg, iter, ifs, 0⟩] scope pos) (some (.Name y py)) spos.line X.env = pure true := by exact sw_true rfl rfl rfl (by decide +kernel))
    (hy : X.N[i]? = some y := by rfl) (hyl : X.env.scope.names.lookup y = some .local := by rfl) (hs : ∀ x, foldedSetIterable iter X.env x = pure x := by intro _; rfl) : SvW X (.Assign [.Name y py] (.ListComp elt [⟨tg, iter, ifs, 0⟩] scope pos) spos) ρ D := fun σ G H rel T m =>
  ts_of (ps_setLc hc nd hy hyl hsw pi_W ok (fun s H0 C cl fp => ⟨fun pins s' σ H v u Q I r h => (h s H0 C cl fp).run pins s' u I r⟩) (fun s H0 C cl fp => ⟨fun pins s' σ H Q I h => (h s H0 C cl fp).run pins s' I⟩) (fun s H0 C cl fp => ⟨fun pins s' σ H Q I h => (h s H0 C cl fp).run pins s' I⟩) hs)
    (h σ G H rel _ fun l vs ds ρ1 G1 H1 r1 s1 n1 n2 n3 h1 i1 q1 => m.nx _ _ G1 H1 (r1.new n1 h1 i1 n2) (s1.newL n3) (q1 l))
theorem tf_nil {QT : Bool → Rho → Prop} (q : QT true ρ) : TfW X [] ρ QT := fun σ G H rel R k => tf_of pts_nil (k true ρ G H rel .refl q)
theorem tf_one {QT : Bool → Rho → Prop} (h : TvW X c ρ QT) : TfW X [c] ρ QT := fun σ G H rel R k => tf_of (pts_one pt_W) (h σ G H rel R k)
end
end Pl
namespace Pl
open PySem PySem.Spec PyProof.Rows L2
open Evl (Ex ex_t ex_l)
section
variable {X : Cx} {e a b c iter : Expr} {es ts ifs rest : List Expr} {st : Stmt} {sts body orelse : List Stmt} {ρ : Rho} {d f : PyData} {ds : List PyData} {pos : Pos} {D D' : En}

/-! comprehensions whose parts change nothing -/
theorem set_get {ρ : Rho} {j : Nat} {s : Sl} : (ρ.set j s).set j (ρ.getD j .un) = ρ := by
  apply List.ext_getElem?
  intro i
  by_cases hi : j = i
  · subst hi
    by_cases hj : j < ρ.length
    · rw [List.getElem?_set_self (by rw [List.length_set]; exact hj), List.getD_eq_getElem?_getD, List.getElem?_eq_getElem hj]
      rfl
    · rw [List.getElem?_eq_none (by rw [List.length_set, List.length_set]; omega), List.getElem?_eq_none (by omega)]
  · rw [List.getElem?_set_ne hi, List.getElem?_set_ne hi]
theorem back_one {ρ : Rho} {j : Nat} {s : Sl} : back ρ ((wipeR ρ [j]).set j s) [j] = ρ := by
  show (((ρ.set j .un).set j s)).set j (ρ.getD j .un) = ρ
  rw [List.set_set]
  exact set_get
theorem lc_map {α : Type} {elt : Expr} {x : Str} {px : Pos} {j : Nat} {scope : Scope} (xs : List α) (enc : α → PyData) (p : α → Bool) (g : α → PyData) (nd : X.N.Nodup)
    (hi : IvW X (.Name x px) iter ρ fun ds Good ρ1 => ρ1 = ρ ∧ ds = xs.map enc ∧ Good ρ) (hz : xs.length ≤ 1000000)
    (ht : ∀ y ∈ xs, ∀ s H C cl fp, Tf (Bk X scope s H C cl fp) ifs (ρ.set j (.dat (enc y))) (p y)) (he : ∀ y ∈ xs, p y = true → ∀ s H C cl fp, Ev (Bk X scope s H C cl fp) elt (ρ.set j (.dat (enc y))) (g y))
    (hN : X.N[j]? = some x := by rfl) (hx : ∀ s H C cl fp, Loc (Bk X scope s H C cl fp).env.scope x := by intros; first | exact Or.inl rfl | exact Or.inr rfl)
    (hf : ∀ s H C cl fp, (Bk X scope s H C cl fp).fn x = true ∨ (Bk X scope s H C cl fp).env.scope.names.lookup x = some .local := by intros; first | exact .inl rfl | exact .inr rfl) :
    LcW X elt (.Name x px) iter ifs scope [(x, j)] ρ fun ds ρ' => ds = (xs.filter p).map g ∧ ρ' = ρ := by
  refine lc_go (fun σ G H rel R k => hi σ G H rel R fun ds Good J ρ1 G1 H1 r1 s1 y1 ⟨z1, z2, z3⟩ => k ds Good J ρ1 G1 H1 r1 s1 y1 ?_)
  subst z1
  subst z2
  refine ⟨by rw [List.length_map]; exact hz, fun i acc ρ2 => ρ2 = ρ1 ∧ acc = ((xs.take i).filter p).map g, fun i acc ρ2 ⟨h1, _⟩ => by rw [h1]; exact z3, ⟨rfl, rfl⟩, fun i d acc ρ2 hd ⟨h1, h2⟩ s H0 C cl fp => ?_, fun acc ρ2 ⟨h1, h2⟩ => ⟨?_, h1⟩⟩
  · subst h1
    subst h2
    rw [List.getElem?_map] at hd
    cases hy : xs[i]? with
    | none => rw [hy] at hd; cases hd
    | some y =>
      rw [hy] at hd
      cases hd
      have hm : y ∈ xs := List.mem_of_getElem? hy
      have er : (wipeR ρ2 [j]).set j (.dat (enc y)) = ρ2.set j (.dat (enc y)) := by
        show (ρ2.set j .un).set j (.dat (enc y)) = _
        rw [List.set_set]
      refine g_name nd (List.mem_singleton.mpr rfl) ?_ hN (hx s H0 C cl fp) (hf s H0 C cl fp)
      show ∀ s H C cl fp, TfW _ ifs ((wipeR ρ2 [j]).set j (.dat (enc y))) _
      intro s H0 C cl fp
      have et : (xs.take (i + 1)).filter p = (xs.take i).filter p ++ (if p y = true then [y] else []) := by
        rw [List.take_add_one, hy, List.filter_append]
        cases hp : p y <;> simp [hp]
      have bk : back ρ2 (ρ2.set j (.dat (enc y))) [j] = ρ2 := by
        have := back_one (ρ := ρ2) (j := j) (s := .dat (enc y))
        rw [er] at this
        exact this
      rw [er]
      refine Tf.w (ht y hm s H0 C cl fp) ?_
      cases hp : p y with
      | true =>
        rw [if_pos rfl]
        intro s H0 C cl fp
        refine Ev.w (he y hm hp s H0 C cl fp) ⟨bk, ?_⟩
        rw [et, hp, if_pos rfl, List.map_append]
        rfl
      | false =>
        rw [if_neg Bool.false_ne_true]
        refine ⟨bk, ?_⟩
        rw [et, hp, if_neg Bool.false_ne_true, List.append_nil]
  · rw [h2, List.length_map, List.take_length]
/-- two names -/
theorem back_two {ρ : Rho} {i j : Nat} {s t : Sl} (h : i ≠ j) : back ρ (((wipeR ρ [i, j]).set i s).set j t) [i, j] = ρ := by
  show (((((ρ.set j .un).set i .un).set i s).set j t).set j (ρ.getD j .un)).set i (ρ.getD i .un) = ρ
  apply List.ext_getElem?
  intro k
  by_cases hi : i = k
  · subst hi
    by_cases hl : i < ρ.length
    · rw [List.getElem?_set_self (by simp; exact hl), List.getD_eq_getElem?_getD, List.getElem?_eq_getElem hl]
      rfl
    · rw [List.getElem?_eq_none (by simp; omega), List.getElem?_eq_none (by omega)]
  · rw [List.getElem?_set_ne hi]
    by_cases hj : j = k
    · subst hj
      by_cases hl : j < ρ.length
      · rw [List.getElem?_set_self (by simp; exact hl), List.getD_eq_getElem?_getD, List.getElem?_eq_getElem hl]
        rfl
      · rw [List.getElem?_eq_none (by simp; omega), List.getElem?_eq_none (by omega)]
    · rw [List.getElem?_set_ne hj, List.getElem?_set_ne hj, List.getElem?_set_ne hi, List.getElem?_set_ne hi, List.getElem?_set_ne hj]
theorem wipe_two {ρ : Rho} {i j : Nat} {s t : Sl} (h : i ≠ j) : ((wipeR ρ [i, j]).set i s).set j t = (ρ.set i s).set j t := by
  show (((ρ.set j .un).set i .un).set i s).set j t = _
  rw [List.set_set, List.set_comm _ _ h, List.set_set, List.set_comm _ _ (Ne.symm h)]
theorem lc_map2 {α : Type} {elt : Expr} {x y : Str} {px py pt : Pos} {kt : Nat} {i j : Nat} {scope : Scope} (xs : List α) (ea eb : α → PyData) (p : α → Bool) (g : α → PyData) (hc : X.calm = true) (nd : X.N.Nodup)
    (hi : IvW X (.Tuple [.Name x px, .Name y py] kt pt) iter ρ fun ds Good ρ1 => ρ1 = ρ ∧ ds = xs.map (fun z => .tuple [ea z, eb z]) ∧ Good ρ) (hz : xs.length ≤ 1000000)
    (ht : ∀ z ∈ xs, ∀ s H C cl fp, Tf (Bk X scope s H C cl fp) ifs ((ρ.set i (.dat (ea z))).set j (.dat (eb z))) (p z)) (he : ∀ z ∈ xs, p z = true → ∀ s H C cl fp, Ev (Bk X scope s H C cl fp) elt ((ρ.set i (.dat (ea z))).set j (.dat (eb z))) (g z))
    (hij : i ≠ j := by decide) (hNi : X.N[i]? = some x := by rfl) (hNj : X.N[j]? = some y := by rfl) (hx : ∀ s H C cl fp, Loc (Bk X scope s H C cl fp).env.scope x := by intros; first | exact Or.inl rfl | exact Or.inr rfl)
    (hf : ∀ s H C cl fp, (Bk X scope s H C cl fp).fn x = true ∨ (Bk X scope s H C cl fp).env.scope.names.lookup x = some .local := by intros; first | exact .inl rfl | exact .inr rfl)
    (hy : ∀ s H C cl fp, Loc (Bk X scope s H C cl fp).env.scope y := by intros; first | exact Or.inl rfl | exact Or.inr rfl)
    (hfy : ∀ s H C cl fp, (Bk X scope s H C cl fp).fn y = true ∨ (Bk X scope s H C cl fp).env.scope.names.lookup y = some .local := by intros; first | exact .inl rfl | exact .inr rfl)
    (hn : ∀ s H C cl fp, (assignEach [.Name x px, .Name y py] (Bk X scope s H C cl fp).env).length = 2 := by intros; rfl) (hst : ∀ s H C cl fp, (assignEach [.Name x px, .Name y py] (Bk X scope s H C cl fp).env).findIdx? (·.1) = none := by intros; rfl)
    (g1 : ∀ s H C cl fp, (assignEach [.Name x px, .Name y py] (Bk X scope s H C cl fp).env).map (·.2) = assign (.Name x px) (Bk X scope s H C cl fp).env :: (assignEach [.Name y py] (Bk X scope s H C cl fp).env).map (·.2) := by intros; rfl)
    (g2 : ∀ s H C cl fp, (assignEach [.Name y py] (Bk X scope s H C cl fp).env).map (·.2) = assign (.Name y py) (Bk X scope s H C cl fp).env :: (assignEach [] (Bk X scope s H C cl fp).env).map (·.2) := by intros; rfl) :
    LcW X elt (.Tuple [.Name x px, .Name y py] kt pt) iter ifs scope [(x, i), (y, j)] ρ fun ds ρ' => ds = (xs.filter p).map g ∧ ρ' = ρ := by
  refine lc_go (fun σ G H rel R k => hi σ G H rel R fun ds Good J ρ1 G1 H1 r1 s1 y1 ⟨z1, z2, z3⟩ => k ds Good J ρ1 G1 H1 r1 s1 y1 ?_)
  subst z1
  subst z2
  refine ⟨by rw [List.length_map]; exact hz, fun i acc ρ2 => ρ2 = ρ1 ∧ acc = ((xs.take i).filter p).map g, fun i acc ρ2 ⟨h1, _⟩ => by rw [h1]; exact z3, ⟨rfl, rfl⟩, fun m d acc ρ2 hd ⟨h1, h2⟩ s H0 C cl fp => ?_, fun acc ρ2 ⟨h1, h2⟩ => ⟨?_, h1⟩⟩
  · subst h1
    subst h2
    rw [List.getElem?_map] at hd
    cases hy' : xs[m]? with
    | none => rw [hy'] at hd; cases hd
    | some y' =>
      rw [hy'] at hd
      cases hd
      have hm : y' ∈ xs := List.mem_of_getElem? hy'
      have er : ((wipeR ρ2 [i, j]).set i (.dat (ea y'))).set j (.dat (eb y')) = (ρ2.set i (.dat (ea y'))).set j (.dat (eb y')) := wipe_two hij
      refine g_tup hc (gs_cons (g_name nd (by simp) (gs_cons (g_name nd (by simp) (gs_nil ?_) hNj (hy s H0 C cl fp) (hfy s H0 C cl fp)) (g2 s H0 C cl fp)) hNi (hx s H0 C cl fp) (hf s H0 C cl fp)) (g1 s H0 C cl fp)) (hn s H0 C cl fp) (hst s H0 C cl fp)
      show ∀ s H C cl fp, TfW _ ifs (((wipeR ρ2 [i, j]).set i (.dat (ea y'))).set j (.dat (eb y'))) _
      intro s H0 C cl fp
      have et : (xs.take (m + 1)).filter p = (xs.take m).filter p ++ (if p y' = true then [y'] else []) := by
        rw [List.take_add_one, hy', List.filter_append]
        cases hp : p y' <;> simp [hp]
      have bk : back ρ2 ((ρ2.set i (.dat (ea y'))).set j (.dat (eb y'))) [i, j] = ρ2 := by
        have := back_two (ρ := ρ2) (i := i) (j := j) (s := .dat (ea y')) (t := .dat (eb y')) hij
        rw [er] at this
        exact this
      rw [er]
      refine Tf.w (ht y' hm s H0 C cl fp) ?_
      cases hp : p y' with
      | true =>
        rw [if_pos rfl]
        intro s H0 C cl fp
        refine Ev.w (he y' hm hp s H0 C cl fp) ⟨bk, ?_⟩
        rw [et, hp, if_pos rfl, List.map_append]
        rfl
      | false =>
        rw [if_neg Bool.false_ne_true]
        refine ⟨bk, ?_⟩
        rw [et, hp, if_neg Bool.false_ne_true, List.append_nil]
  · rw [h2, List.length_map, List.take_length]

/-! defs -/
/-- from frozen data to frozen data, nothing changed -/
def spPure (K : PySem.W.Frag) (n : Nat) (Fp : List PyData → PyData → Prop) : Sp := fun vs H Q _ => ∃ G ds d, vs.length = n ∧ Ex G H ∧ IsAll K G vs ds ∧ Fp ds d ∧ ∀ v G' H', PSt G H G' H' → Is K G' v d → Q v H'
/-- what may change at l alone -/
structure BSt (l : Addr) (G H G' H' : Hp) : Prop where
  gg : Ex G G'
  gh : Ex G' H'
  fr : ∀ a, a ≠ l → G a = none → H a ≠ none → G' a = none
  frl : G' l = none
  kp : ∀ a o, a ≠ l → H a = some o → H' a = some o
/-- the first argument an own list, the others frozen data -/
def spBox (K : PySem.W.Frag) (n : Nat) (Pre : List PyData → List PyData → Prop) (Fb : List PyData → List PyData → PyData → List PyData → Prop) : Sp := fun vs H Q _ => ∃ G l us ws es ds, vs = .ref l :: ws ∧ vs.length = n ∧ Ex G H ∧ G l = none ∧ H l = some (.lst us) ∧ IsAll K G us es ∧ IsAll K G ws ds ∧ Pre es ds ∧
  ∀ d es' v G' H' us', Fb es ds d es' → BSt l G H G' H' → H' l = some (.lst us') → IsAll K G' us' es' → Is K G' v d → Q v H'
structure Fn (P : Program) (w : World) (K : PySem.W.Frag) (mg : Str → Option Value) (base : Heap) (k : Nat) (x : Str) (ps : List Str) (sp : Sp) : Prop where
  ex : ∃ f fd, mg x = some (.ref f) ∧ PySem.W.keepIn K (.ref f) = true ∧ Binds K fd ps [] ∧ FnOk P w K mg base CX0 k f fd ps sp
theorem ew_call {k : Nat} {x : Str} {px : Pos} {ps : List Str} {Fp : List PyData → PyData → Prop} {Q : PyData → Rho → Prop} (F : Fn X.prog X.w X.K X.mg X.base k x ps (spPure X.K ps.length Fp)) (hr : Room k X.A) (ha : AvW X (e :: es) ρ fun ds ρ1 => ∃ d, ds.length = ps.length ∧ Fp ds d ∧ Q d ρ1)
    (hg : Gl X x := by rfl) (hdb : (x == ("__debug__" : Str)) = false := by decide) (he : starEach (e :: es) X.env = (false, eval e X.env) :: starEach es X.env := by rfl) (hpl : (backTo pos (starEach es X.env)).any (·.1) = false := by rfl) : EvW X (.Call (.Name x px) (e :: es) [] pos) ρ Q := fun σ G H rel R kk => by
  obtain ⟨f, fd, hm, hk, hb, F⟩ := F.ex
  refine te_of (pe_call F hr hg hm hk hb .nil pass0 pa_W hdb he hpl) (ha σ G H rel _ fun vs ds ρ1 G1 H1 r1 s1 i1 ⟨d, h1, h2, q⟩ => ?_)
  rw [List.append_nil]
  exact ⟨G1, ds, d, i1.length.trans h1, r1.ex, i1, h2, fun v G2 H2 p i2 => kk v d ρ1 G2 H2 (r1.pure p) (s1.trans p.stp) i2 q⟩
theorem ev_call {k : Nat} {x : Str} {px : Pos} {ps : List Str} {Fp : List PyData → PyData → Prop} (F : Fn X.prog X.w X.K X.mg X.base k x ps (spPure X.K ps.length Fp)) (hr : Room k X.A) (ha : Av X (e :: es) ρ ds) (h : Fp ds d) (hn : ds.length = ps.length := by rfl)
    (hg : Gl X x := by rfl) (hdb : (x == ("__debug__" : Str)) = false := by decide) (he : starEach (e :: es) X.env = (false, eval e X.env) :: starEach es X.env := by rfl) (hpl : (backTo pos (starEach es X.env)).any (·.1) = false := by rfl) : Ev X (.Call (.Name x px) (e :: es) [] pos) ρ d :=
  ew_call F hr (ha.w ⟨d, hn, h, rfl, rfl⟩) hg hdb he hpl
/-- an own list handed to a def that may change it -/
theorem Rel.box {K : PySem.W.Frag} {ρ : Rho} {σ : L2.St} {G H G' H' : Hp} {i : Nat} {l : Addr} {es es' : List PyData} {us' : List V} (r : Rel K ρ σ G H) (e : ρ[i]? = some (.lst l es)) (p : BSt l G H G' H') (h1 : H' l = some (.lst us')) (h2 : IsAll K G' us' es') :
    Rel K (ρ.set i (.lst l es')) σ G' H' ∧ Stp ρ G H (ρ.set i (.lst l es')) G' H' := by
  have hi : i < ρ.length := (List.getElem?_eq_some_iff.mp e).1
  have own : OwnAt ρ i l := ⟨_, e, rfl⟩
  obtain ⟨nG, nH, eσ⟩ := r.ownH own
  have ne : ∀ {j t b}, ρ[j]? = some t → t.own = some b → j ≠ i → b ≠ l := fun {j t b} q1 q2 q3 z => q3 (r.ds j i l ⟨t, q1, by rw [← z]; exact q2⟩ own)
  refine ⟨⟨p.gh, by rw [List.length_set, r.len], fun j t q => ?_, fun j k b h1 h2 => ?_⟩, ⟨p.gg, fun b h1 h2 h3 => p.fr b (fun z => h1 (by rw [z]; exact ⟨i, own⟩)) h2 h3, fun b o h1 h2 => p.kp b o (fun z => h1 (by rw [z]; exact ⟨i, own⟩)) h2, fun b h => ?_, fun b ⟨j, h⟩ => ?_⟩⟩
  · by_cases hj : j = i
    · subst hj
      rw [List.getElem?_set_self hi] at q
      cases q
      exact ⟨eσ, p.frl, us', h1, h2⟩
    · rw [List.getElem?_set_ne (Ne.symm hj)] at q
      have z := r.sl j t q
      cases t with
      | un => trivial
      | dat d =>
        obtain ⟨v, z1, z2⟩ := z
        exact ⟨v, z1, z2.mono p.gg⟩
      | lst b fs =>
        obtain ⟨z1, z2, ws, z3, z4⟩ := z
        have no := ne q rfl hj
        exact ⟨z1, p.fr b no z2 (by rw [z3]; exact nofun), ws, p.kp b _ no z3, z4.mono p.gg⟩
      | obj b o =>
        obtain ⟨z1, z2, u, z3, z4⟩ := z
        have no := ne q rfl hj
        exact ⟨z1, p.fr b no z2 (by rw [z3]; exact nofun), u, p.kp b _ no z3, o.up p.gg z4⟩
  · have bk : ∀ j, OwnAt (ρ.set i (.lst l es')) j b → OwnAt ρ j b := fun j h => by
      rcases ownAt_set h with ⟨e1, q⟩ | ⟨_, q⟩
      · cases q
        rw [e1]
        exact own
      · exact q
    exact r.ds j k b (bk j h1) (bk k h2)
  · by_cases hb : b = l
    · rw [hb, h1]
      exact nofun
    · cases q : H b with
      | none => exact absurd q h
      | some o =>
        rw [p.kp b o hb q]
        exact nofun
  · rcases ownAt_set h with ⟨_, q⟩ | ⟨_, q⟩
    · cases q
      exact .inl ⟨i, own⟩
    · exact .inl ⟨j, q⟩
theorem ew_callBox {k i : Nat} {x y : Str} {px py : Pos} {ps : List Str} {Pre : List PyData → List PyData → Prop} {Fb : List PyData → List PyData → PyData → List PyData → Prop} {Q : PyData → Rho → Prop} (F : Fn X.prog X.w X.K X.mg X.base k x ps (spBox X.K ps.length Pre Fb)) (hr : Room k X.A)
    (ha : AvW X es ρ fun ds ρ1 => ∃ l fs, ρ1[i]? = some (.lst l fs) ∧ ds.length + 1 = ps.length ∧ Pre fs ds ∧ ∀ d fs', Fb fs ds d fs' → Q d (ρ1.set i (.lst l fs'))) (h0 : ∃ l fs, ρ[i]? = some (.lst l fs) := by exact ⟨_, _, rfl⟩)
    (hN : X.N[i]? = some y := by rfl) (hv : Vis X.env.scope y := by first | exact Or.inl rfl | exact Or.inr (Or.inl rfl) | exact Or.inr (Or.inr rfl)) (hd : (y == ("__debug__" : Str)) = false := by decide) (hcd : (y == ("__classdict__" : Str)) = false := by decide)
    (hg : Gl X x := by rfl) (hdb : (x == ("__debug__" : Str)) = false := by decide) (he : starEach (.Name y py :: es) X.env = (false, eval (.Name y py) X.env) :: starEach es X.env := by rfl) (hpl : (backTo pos (starEach es X.env)).any (·.1) = false := by rfl) : EvW X (.Call (.Name x px) (.Name y py :: es) [] pos) ρ Q := fun σ G H rel R kk => by
  obtain ⟨f, fd, hm, hk, hb, F⟩ := F.ex
  obtain ⟨l0, fs0, h0⟩ := h0
  obtain ⟨e0, _⟩ := rel.sl i _ h0
  refine te_of (pe_call F hr hg hm hk hb .nil pass0 (pa_cons (pe_var hN hv hd hcd) pa_W he) hdb he hpl) ⟨_, e0, ha σ G H rel _ fun vs ds ρ1 G1 H1 r1 s1 i1 ⟨l, fs, h1, h2, h3, q⟩ => ?_⟩
  show spBox X.K ps.length Pre Fb ((V.ref l0 :: vs) ++ []) H1 R E0
  rw [List.append_nil]
  obtain ⟨e1, nG, us, hH, hv'⟩ := r1.sl i _ h1
  rw [e0] at e1
  cases e1
  refine ⟨G1, _, us, vs, fs, ds, rfl, by rw [List.length_cons, i1.length]; exact h2, r1.ex, nG, hH, hv', i1, h3, fun d fs' v G2 H2 us' z0 p z1 z2 z3 => ?_⟩
  obtain ⟨r2, s2⟩ := r1.box h1 p z1 z2
  exact kk v d _ G2 H2 r2 (s1.trans s2) z3 (q d fs' z0)
end
section
variable {P : Program} {w : World} {K : PySem.W.Frag} {mg : Str → Option Value} {base : Heap}
/-- the context of a def's body -/
abbrev fX (P : Program) (w : World) (K : PySem.W.Frag) (mg : Str → Option Value) (base : Heap) (N : List Str) (qual : Str) (st : Stmt) (f : Addr) (cdv : Value) (A : Around) (outer : List Env) (s : Shared) (H : Hp) (E : XK) : Cx := (cxOf CX0 P w K mg base N qual (defScope st) f cdv A outer s H E).nox
theorem getEl_rep {n i : Nat} {s : Sl} (h : (List.replicate n Sl.un)[i]? = some s) : s = .un := by
  rw [List.getElem?_replicate] at h
  split at h <;> cases h
  rfl
theorem start_dat {N : List Str} {G H : Hp} {vs : List V} {ds : List PyData} (e : Ex G H) (h : IsAll K G vs ds) : Rel K (ds.map Sl.dat ++ List.replicate (N.length - ds.length) Sl.un) (L2.start N vs) G H := by
  have hl := h.length
  refine ⟨e, by unfold L2.start; simp [hl], fun i s q => ?_, fun i j a ⟨s, q, h1⟩ _ => ?_⟩
  · by_cases hi : i < ds.length
    · rw [List.getElem?_append_left (by simpa using hi), List.getElem?_map] at q
      cases hd : ds[i]? with
      | none => rw [hd] at q; cases q
      | some d =>
        rw [hd] at q
        cases q
        obtain ⟨v, h1, h2⟩ := h.get hd
        refine ⟨v, ?_, h2⟩
        unfold L2.start
        rw [List.getElem?_append_left (by simp [hl]; exact hi), List.getElem?_map, h1]
        rfl
    · rw [List.getElem?_append_right (by simpa using hi)] at q
      rw [getEl_rep q]
      trivial
  · exfalso
    by_cases hi : i < ds.length
    · rw [List.getElem?_append_left (by simpa using hi), List.getElem?_map] at q
      cases hd : ds[i]? with
      | none => rw [hd] at q; cases q
      | some d =>
        rw [hd] at q
        cases q
        cases h1
    · rw [List.getElem?_append_right (by simpa using hi)] at q
      rw [getEl_rep q] at h1
      cases h1
theorem no_own {n : Nat} {ds : List PyData} {a : Addr} : ¬ Own (ds.map Sl.dat ++ List.replicate n Sl.un) a := fun ⟨i, s, q, h1⟩ => by
  by_cases hi : i < ds.length
  · rw [List.getElem?_append_left (by simpa using hi), List.getElem?_map] at q
    cases hd : ds[i]? with
    | none => rw [hd] at q; cases q
    | some d =>
      rw [hd] at q
      cases q
      cases h1
  · rw [List.getElem?_append_right (by simpa using hi)] at q
    rw [getEl_rep q] at h1
    cases h1
theorem fn_pure {x qual : Str} {st : Stmt} {f : Addr} {fd : FuncData} {N ps : List Str} {k : Nat} {Fp : List PyData → PyData → Prop} (F : Fun K x qual st f fd) (S : FnScope N ps (defScope st))
    (hb : ∀ (cdv : Value) (A : Around) (outer : List Env) (s : Shared) (H : Hp) (E : XK) (ds : List PyData) (d : PyData), Room k (fX P w K mg base N qual st f cdv A outer s H E).A → Fp ds d → ds.length = ps.length →
      BvW (fX P w K mg base N qual st f cdv A outer s H E) (defBody st) (ds.map Sl.dat ++ List.replicate (N.length - ds.length) Sl.un) { nx := fun _ => d = .none, rt := fun d' _ => d' = d }) :
    FnOk P w K mg base CX0 (k + 1) f fd ps (spPure K ps.length Fp) := by
  refine F.ok S (fun vs H Q E ⟨G, ds, d, h, _⟩ => h) (fun cdv A outer s H vs Q E hr ⟨G, ds, d, h1, h2, h3, h4, q⟩ => ?_)
  refine ⟨_, pb_W, hb cdv A outer s H E ds d hr h4 (by rw [← h3.length]; exact h1) (L2.start N vs) G H (start_dat h2 h3) _ ?_⟩
  have fin : ∀ {ρ' σ' G' H' v}, Rel K ρ' σ' G' H' → Stp (ds.map Sl.dat ++ List.replicate (N.length - ds.length) Sl.un) G H ρ' G' H' → Is K G' v d → Q v H' := fun {ρ' σ' G' H' v} r s i =>
    q v G' H' ⟨s.gg, fun a o z => s.kp a o no_own z, r.ex, fun a z1 z2 => s.fr a no_own z1 z2⟩ i
  exact ⟨fun ρ' σ' G' H' r s e => fin r s (by rw [e]; exact .non), fun v d' ρ' σ' G' H' r s i e => fin r s (by rw [← e]; exact i), fun _ _ _ _ _ _ z => z.elim, fun _ _ _ _ _ _ z => z.elim⟩
theorem fn_box {x qual : Str} {st : Stmt} {f : Addr} {fd : FuncData} {N ps : List Str} {k : Nat} {Pre : List PyData → List PyData → Prop} {Fb : List PyData → List PyData → PyData → List PyData → Prop} (F : Fun K x qual st f fd) (S : FnScope N ps (defScope st))
    (hb : ∀ (cdv : Value) (A : Around) (outer : List Env) (s : Shared) (H : Hp) (E : XK) (l : Addr) (es ds : List PyData), Room k (fX P w K mg base N qual st f cdv A outer s H E).A → Pre es ds → ds.length + 1 = ps.length →
      BvW (fX P w K mg base N qual st f cdv A outer s H E) (defBody st) (.lst l es :: (ds.map Sl.dat ++ List.replicate (N.length - (ds.length + 1)) Sl.un)) { nx := fun ρ' => ∃ es', Fb es ds .none es' ∧ ρ'[0]? = some (.lst l es'), rt := fun d ρ' => ∃ es', Fb es ds d es' ∧ ρ'[0]? = some (.lst l es') }) :
    FnOk P w K mg base CX0 (k + 1) f fd ps (spBox K ps.length Pre Fb) := by
  refine F.ok S (fun vs H Q E ⟨G, l, us, ws, es, ds, _, h, _⟩ => h) (fun cdv A outer s H vs Q E hr ⟨G, l, us, ws, es, ds, hv, h1, h2, h3, h4, h5, h6, h7, q⟩ => ?_)
  subst hv
  have hlen : ds.length + 1 = ps.length := by
    rw [← h6.length]
    exact h1
  have hN : 1 ≤ N.length := by
    have := congrArg List.length S.pre
    rw [List.length_take] at this
    omega
  have ow : ∀ {i a}, OwnAt (.lst l es :: (ds.map Sl.dat ++ List.replicate (N.length - (ds.length + 1)) Sl.un)) i a → i = 0 ∧ a = l := fun {i a} ⟨t, e, h⟩ => by
    cases i with
    | zero =>
      cases e
      cases h
      exact ⟨rfl, rfl⟩
    | succ i =>
      rw [List.getElem?_cons_succ] at e
      exact (no_own ⟨i, t, e, h⟩).elim
  have rel : Rel K (.lst l es :: (ds.map Sl.dat ++ List.replicate (N.length - (ds.length + 1)) Sl.un)) (L2.start N (.ref l :: ws)) G H := by
    refine ⟨h2, ?_, fun i t e => ?_, fun i j a z1 z2 => (ow z1).1.trans (ow z2).1.symm⟩
    · unfold L2.start
      simp [h6.length]
    · cases i with
      | zero =>
        cases e
        exact ⟨rfl, h3, us, h4, h5⟩
      | succ i =>
        rw [List.getElem?_cons_succ] at e
        have z := (start_dat (N := N.drop 1) h2 h6).sl i t (by
          have en : (N.drop 1).length - ds.length = N.length - (ds.length + 1) := by rw [List.length_drop]; omega
          rw [en]
          exact e)
        have es : (L2.start N (.ref l :: ws))[i + 1]? = (L2.start (N.drop 1) ws)[i]? := by
          unfold L2.start
          rw [List.map_cons, List.cons_append, List.getElem?_cons_succ]
          have en : N.length - (V.ref l :: ws).length = (N.drop 1).length - ws.length := by rw [List.length_drop, List.length_cons]; omega
          rw [en]
        cases t with
        | un => trivial
        | dat d =>
          obtain ⟨v, z1, z2⟩ := z
          exact ⟨v, es.trans z1, z2⟩
        | lst b fs => exact absurd (ow ⟨_, by rw [List.getElem?_cons_succ]; exact e, rfl⟩).1 (Nat.succ_ne_zero i)
        | obj b o => exact absurd (ow ⟨_, by rw [List.getElem?_cons_succ]; exact e, rfl⟩).1 (Nat.succ_ne_zero i)
  refine ⟨_, pb_W, hb cdv A outer s H E l es ds hr h7 hlen _ G H rel _ ?_⟩
  have fin : ∀ {ρ' σ' G' H' v d es'}, Fb es ds d es' → Rel K ρ' σ' G' H' → Stp (.lst l es :: (ds.map Sl.dat ++ List.replicate (N.length - (ds.length + 1)) Sl.un)) G H ρ' G' H' → ρ'[0]? = some (.lst l es') → Is K G' v d → Q v H' := fun {ρ' σ' G' H' v d es'} z0 r s e i => by
    obtain ⟨_, nG, us', hH', hv'⟩ := r.sl 0 _ e
    exact q d es' v G' H' us' z0 ⟨s.gg, r.ex, fun a z1 z2 z3 => s.fr a (fun ⟨i, z⟩ => z1 (ow z).2) z2 z3, nG, fun a o z1 z2 => s.kp a o (fun ⟨i, z⟩ => z1 (ow z).2) z2⟩ hH' hv' i
  exact ⟨fun ρ' σ' G' H' r s ⟨es', e1, e2⟩ => fin e1 r s e2 .non, fun v d' ρ' σ' G' H' r s i ⟨es', e1, e2⟩ => fin e1 r s e2 i, fun _ _ _ _ _ _ z => z.elim, fun _ _ _ _ _ _ z => z.elim⟩
end
end Pl
namespace Pl
open PySem PySem.Spec PyProof.Rows L2
open Evl (Ex ex_t ex_l)
section
variable {X : Cx} {e a b c iter : Expr} {es ts ifs rest : List Expr} {st : Stmt} {sts body orelse : List Stmt} {ρ : Rho} {d f : PyData} {ds : List PyData} {pos : Pos} {D D' : En} {i j : Int}
/-! short words: numbers -/
theorem ev_add (ha : Ev X a ρ (.int i)) (hb : Ev X b ρ (.int j)) : Ev X (.BinOp a .Add b pos) ρ (.int (i + j)) := ev_op op_add ha hb (od_I0 (fun _ => .int _) rfl)
theorem ev_sub (ha : Ev X a ρ (.int i)) (hb : Ev X b ρ (.int j)) : Ev X (.BinOp a .Sub b pos) ρ (.int (i - j)) := ev_op op_sub ha hb (od_I0 (fun _ => .int _) rfl)
theorem ev_mul (ha : Ev X a ρ (.int i)) (hb : Ev X b ρ (.int j)) (h : CMul i j) : Ev X (.BinOp a .Mult b pos) ρ (.int (i * j)) := ev_op op_mul ha hb (od_I h (fun _ => .int _) rfl)
theorem ev_mod (ha : Ev X a ρ (.int i)) (hb : Ev X b ρ (.int j)) (h : 0 < j := by decide) : Ev X (.BinOp a .Mod b pos) ρ (.int (i % j)) := ev_op op_mod ha hb (od_I h (fun _ => .int _) rfl)
theorem ev_fdiv (ha : Ev X a ρ (.int i)) (hb : Ev X b ρ (.int j)) (h : CDiv i j) : Ev X (.BinOp a .FloorDiv b pos) ρ (.int (i / j)) := ev_op op_fdiv ha hb (od_I h (fun _ => .int _) rfl)
theorem ev_pow (ha : Ev X a ρ (.int i)) (hb : Ev X b ρ (.int j)) (h : CPow i j) : Ev X (.BinOp a .Pow b pos) ρ (.int (i ^ j.toNat)) := ev_op op_pow ha hb (od_I h (fun _ => .int _) rfl)
theorem ev_lt (ha : Ev X a ρ (.int i)) (hb : Ev X b ρ (.int j)) : Ev X (.Compare a [.Lt] [b] pos) ρ (.bool (decide (i < j))) := ev_cmp op_lt ha hb (od_I0 (fun _ => .bl _) rfl)
theorem ev_le (ha : Ev X a ρ (.int i)) (hb : Ev X b ρ (.int j)) : Ev X (.Compare a [.LtE] [b] pos) ρ (.bool (decide (i ≤ j))) := ev_cmp op_le ha hb (od_I0 (fun _ => .bl _) rfl)
theorem ev_gt (ha : Ev X a ρ (.int i)) (hb : Ev X b ρ (.int j)) : Ev X (.Compare a [.Gt] [b] pos) ρ (.bool (decide (j < i))) := ev_cmp op_gt ha hb (od_I0 (fun _ => .bl _) rfl)
theorem ev_ge (ha : Ev X a ρ (.int i)) (hb : Ev X b ρ (.int j)) : Ev X (.Compare a [.GtE] [b] pos) ρ (.bool (decide (j ≤ i))) := ev_cmp op_ge ha hb (od_I0 (fun _ => .bl _) rfl)
theorem ev_eq (ha : Ev X a ρ (.int i)) (hb : Ev X b ρ (.int j)) : Ev X (.Compare a [.Eq] [b] pos) ρ (.bool (decide (i = j))) := ev_cmp op_eq ha hb (od_eqI rfl)
theorem ev_ne (ha : Ev X a ρ (.int i)) (hb : Ev X b ρ (.int j)) : Ev X (.Compare a [.NotEq] [b] pos) ρ (.bool (!decide (i = j))) := ev_cmp op_ne ha hb (od_neI rfl)
theorem tv_lt (ha : Ev X a ρ (.int i)) (hb : Ev X b ρ (.int j)) : Tv X (.Compare a [.Lt] [b] pos) ρ (decide (i < j)) := tv_cmp op_lt ha hb (od_I0 (fun _ => .bl _) rfl)
theorem tv_le (ha : Ev X a ρ (.int i)) (hb : Ev X b ρ (.int j)) : Tv X (.Compare a [.LtE] [b] pos) ρ (decide (i ≤ j)) := tv_cmp op_le ha hb (od_I0 (fun _ => .bl _) rfl)
theorem tv_gt (ha : Ev X a ρ (.int i)) (hb : Ev X b ρ (.int j)) : Tv X (.Compare a [.Gt] [b] pos) ρ (decide (j < i)) := tv_cmp op_gt ha hb (od_I0 (fun _ => .bl _) rfl)
theorem tv_ge (ha : Ev X a ρ (.int i)) (hb : Ev X b ρ (.int j)) : Tv X (.Compare a [.GtE] [b] pos) ρ (decide (j ≤ i)) := tv_cmp op_ge ha hb (od_I0 (fun _ => .bl _) rfl)
theorem tv_eq (ha : Ev X a ρ (.int i)) (hb : Ev X b ρ (.int j)) : Tv X (.Compare a [.Eq] [b] pos) ρ (decide (i = j)) := tv_cmp op_eq ha hb (od_eqI rfl)
theorem tv_ne (ha : Ev X a ρ (.int i)) (hb : Ev X b ρ (.int j)) : Tv X (.Compare a [.NotEq] [b] pos) ρ (!decide (i = j)) := tv_cmp op_ne ha hb (od_neI rfl)
theorem ev_neS {x y : Str} (ha : Ev X a ρ (.str x)) (hb : Ev X b ρ (.str y)) : Ev X (.Compare a [.NotEq] [b] pos) ρ (.bool (!decide (x = y))) := ev_cmp op_ne ha hb (od_neS rfl)
theorem tv_neS {x y : Str} (ha : Ev X a ρ (.str x)) (hb : Ev X b ρ (.str y)) : Tv X (.Compare a [.NotEq] [b] pos) ρ (!decide (x = y)) := tv_cmp op_ne ha hb (od_neS rfl)
theorem ev_isN (ha : Ev X a ρ d) {j pos'} : Ev X (.Compare a [.Is] [.Constant .none j pos'] pos) ρ (.bool (isN d)) := ev_cmp op_isN ha ev_non (od_isN rfl)
theorem ev_notN (ha : Ev X a ρ d) {j pos'} : Ev X (.Compare a [.IsNot] [.Constant .none j pos'] pos) ρ (.bool (!isN d)) := ev_cmp op_notN ha ev_non (od_notN rfl)
theorem tv_isN (ha : Ev X a ρ d) {j pos'} : Tv X (.Compare a [.Is] [.Constant .none j pos'] pos) ρ (isN d) := tv_cmp op_isN ha ev_non (od_isN rfl)
theorem tv_notN (ha : Ev X a ρ d) {j pos'} : Tv X (.Compare a [.IsNot] [.Constant .none j pos'] pos) ρ (!isN d) := tv_cmp op_notN ha ev_non (od_notN rfl)
theorem tv_inS {x : Str} (xs : List Str) (ha : Ev X a ρ (.str x)) (hb : Ev X b ρ (.tuple (xs.map PyData.str))) (hm : behindInMarks .In b = false := by rfl) : Tv X (.Compare a [.In] [b] pos) ρ (decide (x ∈ xs)) := tv_cmp op_in_seq ha hb (od_inS xs rfl) hm
theorem tv_niS {x : Str} (xs : List Str) (ha : Ev X a ρ (.str x)) (hb : Ev X b ρ (.tuple (xs.map PyData.str))) (hm : behindInMarks .NotIn b = false := by rfl) : Tv X (.Compare a [.NotIn] [b] pos) ρ (!decide (x ∈ xs)) := tv_cmp op_notIn_seq ha hb (od_inS xs rfl) hm
theorem tv_inI (xs : List Int) (ha : Ev X a ρ (.int i)) (hb : Ev X b ρ (.tuple (xs.map PyData.int))) (hm : behindInMarks .In b = false := by rfl) : Tv X (.Compare a [.In] [b] pos) ρ (decide (i ∈ xs)) := tv_cmp op_in_seq ha hb (od_inI xs rfl) hm
theorem tv_niI (xs : List Int) (ha : Ev X a ρ (.int i)) (hb : Ev X b ρ (.tuple (xs.map PyData.int))) (hm : behindInMarks .NotIn b = false := by rfl) : Tv X (.Compare a [.NotIn] [b] pos) ρ (!decide (i ∈ xs)) := tv_cmp op_notIn_seq ha hb (od_inI xs rfl) hm
theorem ev_inS {x : Str} (xs : List Str) (ha : Ev X a ρ (.str x)) (hb : Ev X b ρ (.tuple (xs.map PyData.str))) (hm : behindInMarks .In b = false := by rfl) : Ev X (.Compare a [.In] [b] pos) ρ (.bool (decide (x ∈ xs))) := ev_cmp op_in_seq ha hb (od_inS xs rfl) hm
theorem ev_niS {x : Str} (xs : List Str) (ha : Ev X a ρ (.str x)) (hb : Ev X b ρ (.tuple (xs.map PyData.str))) (hm : behindInMarks .NotIn b = false := by rfl) : Ev X (.Compare a [.NotIn] [b] pos) ρ (.bool (!decide (x ∈ xs))) := ev_cmp op_notIn_seq ha hb (od_inS xs rfl) hm
theorem ev_inI (xs : List Int) (ha : Ev X a ρ (.int i)) (hb : Ev X b ρ (.tuple (xs.map PyData.int))) (hm : behindInMarks .In b = false := by rfl) : Ev X (.Compare a [.In] [b] pos) ρ (.bool (decide (i ∈ xs))) := ev_cmp op_in_seq ha hb (od_inI xs rfl) hm
theorem ev_niI (xs : List Int) (ha : Ev X a ρ (.int i)) (hb : Ev X b ρ (.tuple (xs.map PyData.int))) (hm : behindInMarks .NotIn b = false := by rfl) : Ev X (.Compare a [.NotIn] [b] pos) ρ (.bool (!decide (i ∈ xs))) := ev_cmp op_notIn_seq ha hb (od_inI xs rfl) hm
theorem ev_eqD (hu : X.A.units + 64 < cLine) {x y : PyData} (ha : Ev X a ρ x) (hb : Ev X b ρ y) (hx : SeqAt.shaped x = true) (hy : SeqAt.shaped y = true) : Ev X (.Compare a [.Eq] [b] pos) ρ (.bool (PyData.eqv x y)) := ev_cmp (op_eqD hu) ha hb (od_eqD hx hy rfl)
theorem tv_eqD (hu : X.A.units + 64 < cLine) {x y : PyData} (ha : Ev X a ρ x) (hb : Ev X b ρ y) (hx : SeqAt.shaped x = true) (hy : SeqAt.shaped y = true) : Tv X (.Compare a [.Eq] [b] pos) ρ (PyData.eqv x y) := tv_cmp (op_eqD hu) ha hb (od_eqD hx hy rfl)
theorem tv_neD (hu : X.A.units + 64 < cLine) {x y : PyData} (ha : Ev X a ρ x) (hb : Ev X b ρ y) (hx : SeqAt.shaped x = true) (hy : SeqAt.shaped y = true) : Tv X (.Compare a [.NotEq] [b] pos) ρ (!PyData.eqv x y) := tv_cmp (op_neD hu) ha hb (od_neD hx hy rfl)
theorem ev_neD (hu : X.A.units + 64 < cLine) {x y : PyData} (ha : Ev X a ρ x) (hb : Ev X b ρ y) (hx : SeqAt.shaped x = true) (hy : SeqAt.shaped y = true) : Ev X (.Compare a [.NotEq] [b] pos) ρ (.bool (!PyData.eqv x y)) := ev_cmp (op_neD hu) ha hb (od_neD hx hy rfl)
/-! a constant of the module -/
def Gc (K : PySem.W.Frag) (mg : Str → Option Value) (x : Str) (d : PyData) : Prop := ∃ v u, mg x = some u ∧ RelV v u ∧ ∀ G, Is K G v d
theorem ev_glob {x : Str} (h : Gc X.K X.mg x d) (hg : Gl X x := by rfl) (hd : (x == ("__debug__" : Str)) = false := by decide) : Ev X (.Name x pos) ρ d := by
  obtain ⟨v, u, h1, h2, h3⟩ := h
  exact ew_k (pe_glob hg h1 h2 hd) h3 ⟨rfl, rfl⟩
end
end Pl
namespace Pl
open PySem PySem.Spec PyProof.Rows L2
open Evl (Ex ex_t ex_l)
section
variable {X : Cx} {e a b c iter : Expr} {es ts ifs rest : List Expr} {st : Stmt} {sts body orelse : List Stmt} {ρ : Rho} {d f : PyData} {ds : List PyData} {pos : Pos} {D D' : En} {i j : Int}
/-! isinstance -/
def tyD : PyData → Option String
  | .none => some "NoneType"
  | .bool _ => some "bool"
  | .int _ => some "int"
  | .str _ => some "str"
  | .tuple _ => some "tuple"
  | _ => none
theorem tyX_of {K : PySem.W.Frag} {G H : Hp} {v : V} {d : PyData} {t : String} (h : Is K G v d) (x : Ex G H) (e : tyD d = some t) : TyX K H v (.type t) := by
  cases h with
  | non => cases e; exact .base .non
  | bl b => cases e; exact .base (.bl b)
  | int i => cases e; exact .base (.int i)
  | str s => cases e; exact .base (.str s)
  | lst h1 h2 => cases e
  | tup h1 h2 =>
    cases e
    rcases h1 with (h1 | ⟨o, h1⟩) | ⟨o, its, n, h1, h3, _⟩
    · exact .base (.tup (x _ _ h1))
    · exact .fTuple (x _ _ h1)
    · exact .kTuple h1 h3
theorem ev_isi {T : Str} {Ts t : String} {k : Bool} {pi pT : Pos} (hm : X.mg "isinstance" = none) (hT : X.mg T = none) (ha : Ev X a ρ d) (ht : tyD d = some t) (hk : kitB t Ts = some k) (hb : bootBuiltins T = some (.type Ts)) (hg : Gl X "isinstance" := by rfl) (hgT : Gl X T := by rfl) (hn : T ≠ "__name__" := by decide) (hdT : (T == ("__debug__" : Str)) = false := by decide)
    (he : starEach [a, .Name T pT] X.env = (false, eval a X.env) :: starEach [.Name T pT] X.env := by rfl) (he2 : starEach [.Name T pT] X.env = (false, eval (.Name T pT) X.env) :: starEach [] X.env := by rfl) (hpl : (backTo pos (starEach [.Name T pT] X.env)).any (·.1) = false := by rfl) :
    Ev X (.Call (.Name "isinstance" pi) [a, .Name T pT] [] pos) ρ (.bool k) := fun σ G H rel R kk =>
  te_of (pe_callB call_isi hg hm (by decide +kernel) (pa_cons pe_W (pa_cons (pe_bltn (v := .ty Ts) hgT hT hb rfl hn hdT) pa_nil he2) he) (by decide) (by decide) he hpl)
    (ha σ G H rel _ fun v _ _ G1 H1 r1 s1 i1 ⟨e1, e2⟩ => by
      subst e1
      subst e2
      exact ⟨v, _, _, _, k, rfl, .ty Ts, tyX_of i1 r1.ex ht, kit_ty hk, kk _ _ _ G1 H1 r1 s1 (.bl k) ⟨rfl, rfl⟩⟩)
/-! == True and so on, is of truth values -/
theorem od_isB {K : PySem.W.Frag} {k : PyData → Prop} {x y : Bool} (q : k (.bool (decide (x = y)))) : OpD K (fun x y H Q => ∃ a b, x = .bl a ∧ y = .bl b ∧ Q (.bl (decide (a = b))) H) (.bool x) (.bool y) k := fun G H v w e hv hw R z => by
  cases hv
  cases hw
  exact ⟨x, y, rfl, rfl, z _ _ G H (.refl e) (.bl _) q⟩
theorem tv_isB {x y : Bool} (ha : Ev X a ρ (.bool x)) (hb : Ev X b ρ (.bool y)) : Tv X (.Compare a [.Is] [b] pos) ρ (decide (x = y)) := tv_cmp op_is_bl ha hb (od_isB rfl)
theorem ev_isB {x y : Bool} (ha : Ev X a ρ (.bool x)) (hb : Ev X b ρ (.bool y)) : Ev X (.Compare a [.Is] [b] pos) ρ (.bool (decide (x = y))) := ev_cmp op_is_bl ha hb (od_isB rfl)
theorem od_inB {K : PySem.W.Frag} {k : PyData → Prop} {x y : Bool} (q : k (.bool (!decide (x = y)))) : OpD K (fun x y H Q => ∃ a b, x = .bl a ∧ y = .bl b ∧ Q (.bl (!decide (a = b))) H) (.bool x) (.bool y) k := fun G H v w e hv hw R z => by
  cases hv
  cases hw
  exact ⟨x, y, rfl, rfl, z _ _ G H (.refl e) (.bl _) q⟩
theorem tv_inB {x y : Bool} (ha : Ev X a ρ (.bool x)) (hb : Ev X b ρ (.bool y)) : Tv X (.Compare a [.IsNot] [b] pos) ρ (!decide (x = y)) := tv_cmp op_isnot_bl ha hb (od_inB rfl)
/-! tuples joined, repeated, cut -/
theorem od_catT {K : PySem.W.Frag} {k : PyData → Prop} {xs ys : List PyData} (hz : xs.length + ys.length ≤ 1000000) (q : k (.tuple (xs ++ ys))) : OpD K (rCatA K) (.tuple xs) (.tuple ys) k := fun G H v w x hv hw R z => by
  cases hv with
  | tup h1 h2 =>
    cases hw with
    | tup h3 h4 =>
      rename_i l1 v1 l2 v2
      refine ⟨_, _, _, _, rfl, rfl, ex_t x h1, ex_t x h3, by rw [h2.length, h4.length]; exact big hz, fun e => ?_, fun e1 e2 => ?_, fun _ _ p hp => ?_⟩
      · subst e
        cases h2
        exact z _ _ G H (.refl x) (.tup h3 h4) q
      · subst e2
        cases h4
        rw [List.append_nil] at q
        exact z _ _ G H (.refl x) (.tup h1 h2) q
      · have P := PSt.new (o := .tup (v1 ++ v2)) x hp
        exact z _ _ _ _ P (.tup (SqT.of upd_same) ((h2.app h4).mono P.gg)) q
theorem ev_catT {xs ys : List PyData} (ha : Ev X a ρ (.tuple xs)) (hb : Ev X b ρ (.tuple ys)) (hz : xs.length + ys.length ≤ 1000000) : Ev X (.BinOp a .Add b pos) ρ (.tuple (xs ++ ys)) := ev_op op_catA ha hb (od_catT hz rfl)
/-- x[1:] of a tuple -/
theorem ev_tail {p2 p3 : Pos} {k0 : Nat} {x : PyData} (ha : Ev X a ρ (.tuple (x :: ds))) : Ev X (.Subscript a (.Slice (some (.Constant (.int 1) k0 p3)) none none p2) pos) ρ (.tuple ds) := fun σ G H rel R k =>
  te_of (pe_slice sl_tupA pe_W (po_some pe_int) po_none) (ha σ G H rel _ fun v _ _ G1 H1 r1 s1 i1 ⟨e1, e2⟩ => by
    subst e1
    subst e2
    refine ⟨1, rfl, ?_⟩
    cases i1 with
    | tup h1 h2 =>
      cases h2 with
      | cons h2 h3 =>
        rename_i l v vs
        have e1 : HT.sIx (v :: vs).length 0 (some 1) = 1 := by
          rw [show (some (1 : Int)) = some ((1 : Nat) : Int) from rfl, HT.sIx_nat, List.length_cons]
          omega
        refine ⟨_, _, rfl, ex_t r1.ex h1, fun z => ?_, fun _ p hp => ?_⟩
        · rw [e1] at z
          exact absurd z.1 (by decide)
        · have P := PSt.new (o := .tup vs) r1.ex hp
          have ec : cutV (v :: vs) (some 1) none = vs := by
            unfold cutV
            rw [e1, HT.sIx_none]
            simp
          rw [ec]
          exact k _ _ _ _ _ (r1.pure P) (s1.trans P.stp) (.tup (SqT.of upd_same) (h3.mono P.gg)) ⟨rfl, rfl⟩)
theorem ev_tail' {p2 p3 : Pos} {k0 : Nat} (ha : Ev X a ρ (.tuple ds)) : Ev X (.Subscript a (.Slice (some (.Constant (.int 1) k0 p3)) none none p2) pos) ρ (.tuple ds.tail) := by
  cases ds with
  | cons x r => exact ev_tail ha
  | nil =>
    exact fun σ G H rel R k => te_of (pe_slice sl_tupA pe_W (po_some pe_int) po_none) (ha σ G H rel _ fun v _ _ G1 H1 r1 s1 i1 ⟨e1, e2⟩ => by
      subst e1
      subst e2
      refine ⟨1, rfl, ?_⟩
      cases i1 with
      | tup h1 h2 =>
        cases h2
        exact ⟨_, _, rfl, ex_t r1.ex h1, fun z => k _ _ _ _ _ r1 s1 (.tup h1 .nil) ⟨rfl, rfl⟩, fun z => absurd ⟨by decide, by decide⟩ z⟩)
/-! zip of two tuples -/
theorem iv_zipT {tg : List Expr} {kk : Nat} {tpos p : Pos} {QI : List PyData → (Rho → Prop) → Rho → Prop} {xs ys : List PyData} (hm : X.mg "zip" = none) (ha : Av X [a, b] ρ [.tuple xs, .tuple ys]) (q : QI ((xs.zip ys).map fun z => .tuple [z.1, z.2]) (fun _ => True) ρ) (hg : Gl X "zip" := by rfl)
    (hs : starEach [a, b] X.env = (false, eval a X.env) :: starEach [b] X.env := by rfl) (hpl : (backTo pos (starEach [b] X.env)).any (·.1) = false := by rfl) : IvW X (.Tuple tg kk tpos) (.Call (.Name "zip" p) [a, b] [] pos) ρ QI := fun σ G H rel R k =>
  ti_of (RZ.pi_zipA hg hm pa_W hs hpl) (ha σ G H rel _ fun vs _ _ G1 H1 r1 s1 i1 ⟨e1, e2⟩ => by
    subst e1
    subst e2
    cases i1 with
    | cons x1 x2 =>
      cases x2 with
      | cons x2 x3 =>
        cases x3
        cases x1 with
        | tup h1 h2 =>
          cases x2 with
          | tup h3 h4 =>
            rename_i l1 v1 l2 v2
            refine ⟨l1, l2, v1, v2, rfl, .inr ⟨ex_t r1.ex h1, ex_t r1.ex h3, k _ _ _ _ G1 H1 r1 s1 (fun i ρ2 σ2 G2 H2 r2 e2 _ => ?_) q⟩⟩
            have q1 : SqT X.K H2 l1 v1 := ex_t r2.ex (ex_t e2 h1)
            have q2 : SqT X.K H2 l2 v2 := ex_t r2.ex (ex_t e2 h3)
            rw [List.length_map, List.length_zip]
            refine ⟨fun hi => ⟨⟨v1, v2, v1[i]'(by rw [h2.length]; omega), v2[i]'(by rw [h4.length]; omega), q1, q2, by simp, by simp⟩, fun x H' y => ?_⟩, fun hi => ⟨v1, v2, q1, q2, by rw [h2.length, h4.length]; omega⟩⟩
            obtain ⟨T, x1, x2, rfl, hT, rfl, y1, y2⟩ := y
            obtain ⟨d1, e3, h5⟩ := h2.get' (y1 v1 q1)
            obtain ⟨d2, e4, h6⟩ := h4.get' (y2 v2 q2)
            have P := PSt.new (o := .tup [x1, x2]) r2.ex hT
            refine ⟨_, _, ?_, P, .tup (SqT.of upd_same) (.cons ((h5.mono e2).mono P.gg) (.cons ((h6.mono e2).mono P.gg) .nil))⟩
            have ez : (xs.zip ys)[i]? = some (d1, d2) := List.getElem?_zip_eq_some.mpr ⟨e3, e4⟩
            rw [List.getElem?_map, ez]
            rfl)
/-! min of a list of pairs -/
def pr (p : Int × Int) : PyData := .tuple [.int p.1, .int p.2]
def ltP (p q : Int × Int) : Bool := if p.1 = q.1 then decide (p.2 < q.2) else decide (p.1 < q.1)
/-- the first of the least -/
def minP (x : Int × Int) (xs : List (Int × Int)) : Int × Int := xs.foldl (fun a y => if ltP y a = true then y else a) x
theorem reads_pr {x : Int × Int} : PySem.W.Datum.toD x = pr x := rfl
def rMinP (K : PySem.W.Frag) : List V → Hp → VK → Prop := fun vs H Q => ∃ (l : Addr) (us : List V) (x : Int × Int) (xs : List (Int × Int)) (G : Hp), vs = [V.ref l] ∧ SqL K H l us ∧ Ex G H ∧ IsAll K G us ((x :: xs).map pr) ∧ ∀ v, Is K G v (pr (minP x xs)) → Q v H
theorem cr_minP (hc : X.calm = true) (hu : X.A.units + 64 < cLine) : CallR X (.builtin "min") (rMinP X.K) := by
  intro pins s σ H vs us Q I r h
  obtain ⟨l, ws, x, xs, G, rfl, hl, eG, hall, q⟩ := h
  obtain ⟨its, rv, pl, _⟩ := I.list hl
  rw [Vals.ref1 r]
  obtain ⟨as, ra⟩ := Dp.readsAll I _ ws its (hall.mono eG).dp rv
  have hdep : PySem.W.Datum.depth (Int × Int) ≤ 60 := by decide
  refine PySem.W.min_list_datum (x := x) (xs := xs) (I.ok.hd hc) pl.isList ⟨as, ra⟩ (by omega) fun i v h' tk hi hv hk => ?_
  have hi' : its[i]? = some v := by simpa using hi
  cases hd : ((x :: xs).map pr)[i]? with
  | none =>
    have h1 := rv.length
    have h2 := hall.length
    have h3 := (List.getElem?_eq_some_iff.mp hi').1
    have h4 := List.getElem?_eq_none_iff.mp hd
    omega
  | some d =>
    obtain ⟨w, hw, iw⟩ := hall.get hd
    obtain ⟨u, hu', ru⟩ := rv.get hw
    rw [hi'] at hu'
    cases hu'
    obtain ⟨bs, rb⟩ := hv
    obtain ⟨cs, rc⟩ := Dp.reads I d w v (iw.mono eG).dp ru
    obtain ⟨ed, _⟩ := PyProof.Rows.reads_det (fun b o e _ => hk b o e) rc rb
    have ed' : d = pr (minP x xs) := ed.symm
    exact ⟨w, H, I.kept hk, ru, q w (by rw [← ed']; exact iw)⟩
theorem ew_minP {Q : PyData → Rho → Prop} {px : Pos} (hc : X.calm = true) (hu : X.A.units + 64 < cLine) (hm : X.mg "min" = none) (ha : EvW X a ρ fun d ρ1 => ∃ x xs, d = .list ((x :: xs).map pr) ∧ Q (pr (minP x xs)) ρ1) (hg : Gl X "min" := by rfl) (he : starEach [a] X.env = (false, eval a X.env) :: starEach [] X.env := by rfl) (hpl : (backTo pos (starEach [] X.env)).any (·.1) = false := by rfl) : EvW X (.Call (.Name "min" px) [a] [] pos) ρ Q :=
  ew_callB (cr_minP hc hu) hm (by decide +kernel) (aw_cons ha (fun d ρ1 ⟨x, xs, h, q⟩ => aw_nil fun G H vs e hv R z => by
    subst h
    cases hv with
    | cons h1 h2 =>
      cases h2
      cases h1 with
      | lst h3 h4 => exact ⟨_, _, x, xs, G, rfl, ex_l e h3, e, h4, fun v hv => z _ _ G H (.refl e) hv q⟩) he) hg (by decide) (by decide) he hpl
/-! repr of data, nothing being shown around -/
theorem call_reprD (hg : X.A.guards = some []) (hu : X.A.units + 70 < cLine) : CallR X (.builtin "repr") (fun xs H Q => ∃ x d, xs = [x] ∧ Dp X.K H x d ∧ d.showable = true ∧ d.hasDict = false ∧ d.depth ≤ 64 ∧ (∃ a, x = .ref a) ∧ d.shown.length ≤ sizeLine ∧ Q (.str d.shown) H) := by
  intro pins s σ H vs us Q I r h
  obtain ⟨x, d, rfl, hd, h1, h2, h3, ⟨a, rfl⟩, h4, q⟩ := h
  rw [Vals.ref1 r]
  obtain ⟨as, rd⟩ := Dp.reads I d _ (.ref a) hd rfl
  exact repr_of_reads' rd h1 (PyData.noDict_hsm h2) hg (by omega) (fun _ _ e => e) (fun h' u tk hk => ⟨.str d.shown, H, I.kept hk, ⟨u, rfl⟩, q⟩) h4
end
end Pl
namespace Pl
open PySem PySem.Spec PyProof.Rows L2
open Evl (Ex ex_t ex_l)
section
variable {X : Cx} {e a b c iter tg elt : Expr} {es ts ifs rest : List Expr} {st : Stmt} {sts body orelse : List Stmt} {ρ : Rho} {d f : PyData} {ds : List PyData} {pos pc : Pos} {D D' : En} {i j : Int} {scope : Scope} {own : List (Str × Nat)} {α : Type}
theorem filter_yes (xs : List α) : xs.filter (fun _ => true) = xs := List.filter_eq_self.mpr fun _ _ => rfl
theorem all_map (xs : List α) (p h : α → Bool) : ((xs.filter p).map h).all id = xs.all fun x => !p x || h x := by
  induction xs with
  | nil => rfl
  | cons x r ih =>
    rw [List.all_cons, ← ih]
    cases hp : p x <;> simp [hp]
theorem any_map (xs : List α) (p h : α → Bool) : ((xs.filter p).map h).any id = xs.any fun x => p x && h x := by
  induction xs with
  | nil => rfl
  | cons x r ih =>
    rw [List.any_cons, ← ih]
    cases hp : p x <;> simp [hp]
/-- a comprehension whose parts change nothing, frozen -/
theorem ev_lc {es : List PyData} (h : LcW X elt tg iter ifs scope own ρ fun ds ρ' => ds = es ∧ ρ' = ρ) (hc : X.calm = true) (nd : X.N.Nodup) (ok : BlkOk X.N X.env.scope scope own) (hs : ∀ x, foldedSetIterable iter X.env x = pure x := by intro _; rfl) : Ev X (.ListComp elt [⟨tg, iter, ifs, 0⟩] scope pos) ρ (.list es) :=
  ew_fz (ElW.imp (el_of h hc nd ok hs) fun ds ρ1 ⟨e1, e2⟩ => by
    subst e1
    exact ⟨rfl, e2⟩)
theorem el_lc {es : List PyData} (h : LcW X elt tg iter ifs scope own ρ fun ds ρ' => ds = es ∧ ρ' = ρ) (hc : X.calm = true) (nd : X.N.Nodup) (ok : BlkOk X.N X.env.scope scope own) (hs : ∀ x, foldedSetIterable iter X.env x = pure x := by intro _; rfl) : El X (.ListComp elt [⟨tg, iter, ifs, 0⟩] scope pos) ρ es := el_of h hc nd ok hs
/-- all([..]), any([..]) -/
theorem ev_allC {px : Pos} (xs : List α) (p h : α → Bool) (hl : LcW X elt tg iter ifs scope own ρ fun ds ρ' => ds = (xs.filter p).map (fun x => PyData.bool (h x)) ∧ ρ' = ρ) (hc : X.calm = true) (hm : X.mg "all" = none) (nd : X.N.Nodup) (ok : BlkOk X.N X.env.scope scope own) (hs : ∀ x, foldedSetIterable iter X.env x = pure x := by intro _; rfl)
    (hg : Gl X "all" := by rfl) (he : starEach [.ListComp elt [⟨tg, iter, ifs, 0⟩] scope pc] X.env = (false, eval (.ListComp elt [⟨tg, iter, ifs, 0⟩] scope pc) X.env) :: starEach [] X.env := by rfl) (hpl : (backTo pos (starEach [] X.env)).any (·.1) = false := by rfl) :
    Ev X (.Call (.Name "all" px) [.ListComp elt [⟨tg, iter, ifs, 0⟩] scope pc] [] pos) ρ (.bool (xs.all fun x => !p x || h x)) :=
  ew_all hc hm (Ev.w (ev_lc hl hc nd ok hs) ⟨(xs.filter p).map h, by rw [List.map_map]; rfl, by rw [all_map], rfl⟩) hg he hpl
theorem ev_anyC {px : Pos} (xs : List α) (p h : α → Bool) (hl : LcW X elt tg iter ifs scope own ρ fun ds ρ' => ds = (xs.filter p).map (fun x => PyData.bool (h x)) ∧ ρ' = ρ) (hc : X.calm = true) (hm : X.mg "any" = none) (nd : X.N.Nodup) (ok : BlkOk X.N X.env.scope scope own) (hs : ∀ x, foldedSetIterable iter X.env x = pure x := by intro _; rfl)
    (hg : Gl X "any" := by rfl) (he : starEach [.ListComp elt [⟨tg, iter, ifs, 0⟩] scope pc] X.env = (false, eval (.ListComp elt [⟨tg, iter, ifs, 0⟩] scope pc) X.env) :: starEach [] X.env := by rfl) (hpl : (backTo pos (starEach [] X.env)).any (·.1) = false := by rfl) :
    Ev X (.Call (.Name "any" px) [.ListComp elt [⟨tg, iter, ifs, 0⟩] scope pc] [] pos) ρ (.bool (xs.any fun x => p x && h x)) :=
  ew_any hc hm (Ev.w (ev_lc hl hc nd ok hs) ⟨(xs.filter p).map h, by rw [List.map_map]; rfl, by rw [any_map], rfl⟩) hg he hpl
/-- the items of an own list may be walked as they stand -/
theorem iv_of {QI : List PyData → (Rho → Prop) → Rho → Prop} {es : List PyData} (h : Ev X iter ρ (.list es)) (q : QI es (fun _ => True) ρ) : IvW X tg iter ρ QI := iv_list (Ev.w h ⟨es, rfl, q⟩)
theorem iv_ofT {QI : List PyData → (Rho → Prop) → Rho → Prop} {es : List PyData} (h : Ev X iter ρ (.tuple es)) (q : QI es (fun _ => True) ρ) : IvW X tg iter ρ QI := iv_tup (Ev.w h ⟨es, rfl, q⟩)
/-! str order -/
theorem od_ltS {K : PySem.W.Frag} {k : PyData → Prop} {x y : Str} (q : k (.bool (decide (x.cps.toList < y.cps.toList)))) : OpD K (fun x y H Q => ∃ i j, x = .str i ∧ y = .str j ∧ Q (.bl (decide (i.cps.toList < j.cps.toList))) H) (.str x) (.str y) k := fun G H v w e hv hw R z => by
  cases hv
  cases hw
  exact ⟨x, y, rfl, rfl, z _ _ G H (.refl e) (.bl _) q⟩
theorem ev_ltS {x y : Str} (ha : Ev X a ρ (.str x)) (hb : Ev X b ρ (.str y)) : Ev X (.Compare a [.Lt] [b] pos) ρ (.bool (decide (x.cps.toList < y.cps.toList))) := ev_cmp op_lt_str ha hb (od_ltS rfl)
/-! not, by truth, as a value -/
theorem ev_notD {k : Bool} (ha : Ev X a ρ d) (h : tru d = some k) : Ev X (.UnaryOp .Not a pos) ρ (.bool (!k)) := fun σ G H rel R kk => te_of (pe_notT pe_W) (ha σ G H rel _ fun v _ _ G1 H1 r1 s1 i1 ⟨e1, e2⟩ => by
  subst e1
  subst e2
  refine ⟨k, ?_, kk _ _ _ G1 H1 r1 s1 (.bl _) ⟨rfl, rfl⟩⟩
  cases i1 with
  | non => exact (Option.some.inj h).symm
  | bl b => exact (Option.some.inj h).symm
  | int i => exact (Option.some.inj h).symm
  | str x => cases h
  | lst h1 h2 =>
    refine .inl ⟨_, ex_l r1.ex h1, ?_⟩
    rw [emp_of h2]
    exact (Option.some.inj h).symm
  | tup h1 h2 =>
    refine .inr (.inl ⟨_, Evl.ex_t r1.ex h1, ?_⟩)
    rw [emp_of h2]
    exact (Option.some.inj h).symm)
theorem tv_truD {k : Bool} (ha : Ev X a ρ d) (h : tru d = some k) (he : ∀ whole, isTrue a X.env whole = (do let v ← whole; standAt a.pos; holding [v] (truthy v)) := by intro _; rfl) : Tv X a ρ k := tv_tru (ha.w ⟨k, h, rfl, rfl⟩) he
/-! more statements -/
theorem SvW.imp (h : SvW X st ρ D) (h1 : ∀ r, D.nx r → D'.nx r) (h2 : ∀ d r, D.rt d r → D'.rt d r) (h3 : ∀ r, D.bk r → D'.bk r) (h4 : ∀ r, D.ct r → D'.ct r) : SvW X st ρ D' := fun σ G H rel T m =>
  h σ G H rel T ⟨fun r σ' G1 H1 a b q => m.nx r σ' G1 H1 a b (h1 r q), fun v d r σ' G1 H1 a b i q => m.rt v d r σ' G1 H1 a b i (h2 d r q), fun r σ' G1 H1 a b q => m.bk r σ' G1 H1 a b (h3 r q), fun r σ' G1 H1 a b q => m.ct r σ' G1 H1 a b (h4 r q)⟩
/-- with a word between a statement and the rest -/
theorem b_cut (Mid : Rho → Prop) (h : SvW X st ρ { D with nx := Mid }) (k : ∀ ρ1, Mid ρ1 → BvW X sts ρ1 D) : BvW X (st :: sts) ρ D := b_cons (h.imp k (fun _ _ z => z) (fun _ z => z) fun _ z => z)
/-- an expression whose value is dropped -/
theorem s_expr (h : EvW X e ρ fun _ ρ1 => D.nx ρ1) (hs : swapsWith e none pos.line X.env = pure false := by rfl) : SvW X (.Expr e pos) ρ D := fun σ G H rel T m => ts_of (ps_expr pe_W hs) (h σ G H rel _ fun v d ρ1 G1 H1 r1 s1 i1 q1 => m.nx ρ1 σ G1 H1 r1 s1 q1)
/-- the place of an int that counts -/
theorem at_nat0 {es : List PyData} {j : Nat} {x : PyData} (h : es[j]? = some x) : atI es (0 + (j : Int)) = some x := by
  rw [Int.zero_add]
  exact atI_nat h
theorem at_is {es : List PyData} {j : Nat} {i : Int} {x : PyData} (e : i = (j : Int)) (h : es[j]? = some x) : atI es i = some x := by
  rw [e]
  exact atI_nat h
theorem ix_is {n j : Nat} {i : Int} (e : i = (j : Int)) (h : j < n) : ixN n i = some j := by
  subst e
  exact Evl.ixN_nat h
/-! numbers whose reckoning changes something -/
variable {Q : PyData → Rho → Prop}
theorem ew_opR {op : Operator} {r : R2} {x : PyData} (ho : OpR X (binaryOp op) r) (ha : Ev X a ρ x) (hb : EvW X b ρ fun y ρ1 => OpD X.K r x y fun f => Q f ρ1) : EvW X (.BinOp a op b pos) ρ Q := ew_op ho ha fun _ _ ⟨e1, e2⟩ => by
  subst e1
  subst e2
  exact hb
theorem ew_addR (ha : Ev X a ρ (.int i)) (hb : EvW X b ρ fun d ρ1 => ∃ j, d = .int j ∧ Q (.int (i + j)) ρ1) : EvW X (.BinOp a .Add b pos) ρ Q := ew_opR op_add ha (hb.imp fun _ _ ⟨j, e, q⟩ => by
  subst e
  exact od_I0 (fun _ => .int _) q)
theorem ew_addL (ha : EvW X a ρ fun d ρ1 => ∃ i j, d = .int i ∧ Ev X b ρ1 (.int j) ∧ Q (.int (i + j)) ρ1) : EvW X (.BinOp a .Add b pos) ρ Q := ew_op op_add ha fun _ _ ⟨i, j, e, hb, q⟩ => by
  subst e
  exact hb.w (od_I0 (fun _ => .int _) q)
theorem ew_subL (ha : EvW X a ρ fun d ρ1 => ∃ i j, d = .int i ∧ Ev X b ρ1 (.int j) ∧ Q (.int (i - j)) ρ1) : EvW X (.BinOp a .Sub b pos) ρ Q := ew_op op_sub ha fun _ _ ⟨i, j, e, hb, q⟩ => by
  subst e
  exact hb.w (od_I0 (fun _ => .int _) q)
theorem tv_gtL {QT : Bool → Rho → Prop} (ha : EvW X a ρ fun d ρ1 => ∃ i j, d = .int i ∧ Ev X b ρ1 (.int j) ∧ QT (decide (j < i)) ρ1) : TvW X (.Compare a [.Gt] [b] pos) ρ QT := tw_cmp op_gt (nomark _) ha fun _ _ ⟨i, j, e, hb, q⟩ => by
  subst e
  exact hb.w (od_I0 (fun _ => .bl _) ⟨_, rfl, q⟩)
theorem tv_eqL {QT : Bool → Rho → Prop} (ha : EvW X a ρ fun d ρ1 => ∃ i j, d = .int i ∧ Ev X b ρ1 (.int j) ∧ QT (decide (i = j)) ρ1) : TvW X (.Compare a [.Eq] [b] pos) ρ QT := tw_cmp op_eq (nomark _) ha fun _ _ ⟨i, j, e, hb, q⟩ => by
  subst e
  exact hb.w (od_eqI ⟨_, rfl, q⟩)
theorem ew_max2 {px : Pos} (hc : X.calm = true) (hm : X.mg "max" = none) (ha : AvW X [a, b] ρ fun ds ρ1 => ∃ i j, ds = [.int i, .int j] ∧ Q (.int (if j > i then j else i)) ρ1) (hg : Gl X "max" := by rfl) (he : starEach [a, b] X.env = (false, eval a X.env) :: starEach [b] X.env := by rfl) (hpl : (backTo pos (starEach [b] X.env)).any (·.1) = false := by rfl) : EvW X (.Call (.Name "max" px) [a, b] [] pos) ρ Q :=
  ew_callB (call_max2 hc) hm (by decide +kernel) (ha.imp fun ds ρ1 ⟨i, j, e, q⟩ G H vs x hv R z => by
    subst e
    cases hv with
    | cons h1 h2 =>
      cases h2 with
      | cons h2 h3 =>
        cases h1
        cases h2
        cases h3
        exact ⟨i, j, rfl, z _ _ G H (.refl x) (.int _) q⟩) hg (by decide) (by decide) he hpl
theorem ew_min2 {px : Pos} (hc : X.calm = true) (hm : X.mg "min" = none) (ha : AvW X [a, b] ρ fun ds ρ1 => ∃ i j, ds = [.int i, .int j] ∧ Q (.int (if j < i then j else i)) ρ1) (hg : Gl X "min" := by rfl) (he : starEach [a, b] X.env = (false, eval a X.env) :: starEach [b] X.env := by rfl) (hpl : (backTo pos (starEach [b] X.env)).any (·.1) = false := by rfl) : EvW X (.Call (.Name "min" px) [a, b] [] pos) ρ Q :=
  ew_callB (call_min2 hc) hm (by decide +kernel) (ha.imp fun ds ρ1 ⟨i, j, e, q⟩ G H vs x hv R z => by
    subst e
    cases hv with
    | cons h1 h2 =>
      cases h2 with
      | cons h2 h3 =>
        cases h1
        cases h2
        cases h3
        exact ⟨i, j, rfl, z _ _ G H (.refl x) (.int _) q⟩) hg (by decide) (by decide) he hpl
theorem aw_two {x : PyData} {QA : List PyData → Rho → Prop} (ha : Ev X a ρ x) (hb : EvW X b ρ fun y ρ1 => QA [x, y] ρ1) (hs : starEach [a, b] X.env = (false, eval a X.env) :: starEach [b] X.env := by rfl) (hs2 : starEach [b] X.env = (false, eval b X.env) :: starEach [] X.env := by rfl) : AvW X [a, b] ρ QA :=
  aw_cons ha (fun _ _ ⟨e1, e2⟩ => by
    subst e1
    subst e2
    exact aw_cons hb (fun y ρ1 q => aw_nil q) hs2) hs
end
end Pl
namespace Pl
open PySem PySem.Spec PyProof.Rows L2
open Evl (Ex ex_t ex_l)
/-! a def that gives a new list, not frozen -/
def spNew (K : PySem.W.Frag) (n : Nat) (Fp : List PyData → List PyData → Prop) : Sp := fun vs H Q _ => ∃ G ds es, vs.length = n ∧ Ex G H ∧ IsAll K G vs ds ∧ Fp ds es ∧ ∀ a us G' H', PSt G H G' H' → G' a = none → H a = none → H' a = some (.lst us) → IsAll K G' us es → Q (.ref a) H'
section
variable {X : Cx} {e : Expr} {es : List Expr} {ρ : Rho} {pos : Pos}
theorem el_call {k : Nat} {x : Str} {px : Pos} {ps : List Str} {Fp : List PyData → List PyData → Prop} {ds : List PyData} {Q : List PyData → Rho → Prop} (F : Fn X.prog X.w X.K X.mg X.base k x ps (spNew X.K ps.length Fp)) (hr : Room k X.A) (ha : Av X (e :: es) ρ ds) (fs : List PyData) (hp : Fp ds fs) (q : Q fs ρ) (hn : ds.length = ps.length := by rfl)
    (hg : Gl X x := by rfl) (hdb : (x == ("__debug__" : Str)) = false := by decide) (he : starEach (e :: es) X.env = (false, eval e X.env) :: starEach es X.env := by rfl) (hpl : (backTo pos (starEach es X.env)).any (·.1) = false := by rfl) : ElW X (.Call (.Name x px) (e :: es) [] pos) ρ Q := fun σ G H rel R kk => by
  obtain ⟨f, fd, hm, hk, hb, F⟩ := F.ex
  refine te_of (pe_call F hr hg hm hk hb .nil pass0 pa_W hdb he hpl) (ha σ G H rel _ fun vs ds1 ρ1 G1 H1 r1 s1 i1 ⟨z1, z2⟩ => ?_)
  subst z1
  subst z2
  rw [List.append_nil]
  refine ⟨G1, ds1, fs, i1.length.trans hn, r1.ex, i1, hp, fun a us G2 H2 p n1 n2 h1 i2 => kk a us fs ρ1 G2 H2 (r1.pure p) (s1.trans p.stp) n1 (fun ⟨i, z⟩ => ?_) (s1.unused n2) h1 i2 q⟩
  obtain ⟨_, z2, _⟩ := r1.ownH z
  exact z2 n2
end
section
variable {P : Program} {w : World} {K : PySem.W.Frag} {mg : Str → Option Value} {base : Heap}
theorem fn_new {x qual : Str} {st : Stmt} {f : Addr} {fd : FuncData} {N ps : List Str} {k : Nat} {Fp : List PyData → List PyData → Prop} {e : Expr} {pos : Pos} (F : Fun K x qual st f fd) (S : FnScope N ps (defScope st)) (hs : defBody st = [.Return (some e) pos])
    (hb : ∀ (cdv : Value) (A : Around) (outer : List Env) (s : Shared) (H : Hp) (E : XK) (ds es : List PyData), Room k (fX P w K mg base N qual st f cdv A outer s H E).A → Fp ds es → ds.length = ps.length →
      ElW (fX P w K mg base N qual st f cdv A outer s H E) e (ds.map Sl.dat ++ List.replicate (N.length - ds.length) Sl.un) fun es' ρ => es' = es ∧ ρ = ds.map Sl.dat ++ List.replicate (N.length - ds.length) Sl.un) :
    FnOk P w K mg base CX0 (k + 1) f fd ps (spNew K ps.length Fp) := by
  refine F.ok S (fun vs H Q E ⟨G, ds, es, h, _⟩ => h) (fun cdv A outer s H vs Q E hr ⟨G, ds, es, h1, h2, h3, h4, q⟩ => ?_)
  refine ⟨_, by rw [hs]; exact pss_one (ps_ret pe_W), hb cdv A outer s H E ds es hr h4 (by rw [← h3.length]; exact h1) (L2.start N vs) G H (start_dat h2 h3) _ fun a us es1 ρ1 G1 H1 r1 s1 n1 n2 n3 h5 i1 ⟨e1, e2⟩ => ?_⟩
  subst e1
  exact q a us G1 H1 ⟨s1.gg, fun b o z => s1.kp b o no_own z, r1.ex, fun b z1 z2 => s1.fr b no_own z1 z2⟩ n1 n3 h5 i1
/-! the law's own def, called where nothing is being shown -/
theorem law_go {mb : Str → Option Value} {st : Stmt} {k : Nat} {f a : Addr} {fd : FuncData} {N : List Str} {s : Shared} {vs : List Value} {ns : List Int} (F : Fun K "law" "law" st f fd) (S : FnScope N ["script"] (defScope st))
    (bind : ∀ v : Value, BindsTo s fd ⟨[v], []⟩ [("script", v)])
    (kin : K.In s.heap) (g1 : s.heap.Ns mainGlobals mg) (g2 : s.heap.Ns builtinsNs mb) (g3 : ∀ y : Str, y ≠ "__name__" → mb y = bootBuiltins y) (lim : s.heap.NoLimit) (gens : s.gens = #[])
    (at1 : s.heap.get? a = some { cls := .type "list", data := .seq vs.toArray }) (isi : IntsAre vs ns) (few : ns.length ≤ 63) (room : Room (k + 1) callerA)
    (body : ∀ (base : Heap) (cdv : Value) (s' : Shared) (H : Hp) (E : XK), K.In base → base.Ns mainGlobals mg → Room k (fX P w K mg base N "law" st f cdv callerA [] s' H E).A → (fX P w K mg base N "law" st f cdv callerA [] s' H E).A.guards = some [] →
      BvW (fX P w K mg base N "law" st f cdv callerA [] s' H E) (defBody st) (.dat (.list (ns.map PyData.int)) :: List.replicate (N.length - 1) Sl.un) { nx := fun _ => False, rt := fun d _ => d = .bool true }) :
    codeAny (model P w) callerA (.call (.ref f) ⟨[.ref a], []⟩) (fun r s' => r = .ok (.ret (.bool true)) ∧ OldK s.heap s'.heap ∧ s'.os = s.os ∧ AllBare s'.gens) s := by
  obtain ⟨oc, od, kV, doc, pm, an, cdv, ct, osl, rfl, lk, hcd⟩ := F.ex
  have main : ∀ H : Hp, (∀ b, H b ≠ none → b = a ∧ K.lookup a = none ∧ ∃ o xs, H b = some (.frz o (.lst xs))) → SqL K H a (ns.map V.int) → HOk P w H s.heap →
      codeAny (model P w) callerA (.call (.ref f) ⟨[.ref a], []⟩) (fun r s' => r = .ok (.ret (.bool true)) ∧ OldK s.heap s'.heap ∧ s'.os = s.os ∧ AllBare s'.gens) s := by
    intro H tr sq ok
    have free : ∀ {b : Addr} {o : Obj}, s.heap.get? b = some o → b ≠ a ∨ K.lookup a ≠ none → H b = none := fun {b o} h1 h2 => by
      cases q : H b with
      | none => rfl
      | some u =>
        obtain ⟨t1, t2, _⟩ := tr b (by rw [q]; exact nofun)
        rcases h2 with h2 | h2
        · exact absurd t1 h2
        · exact absurd t2 h2
    have dict : ∀ {b : Addr} {m : Str → Option Value}, s.heap.Ns b m → (hidT s.heap H).Ns b m := fun {b m} ⟨o, es, ep, h1, h2, h3⟩ => ⟨o, es, ep, hidT_get h1 (free h1 (.inl fun z => by
      rw [z, at1] at h1
      cases h1
      have h2' : Data.seq vs.toArray _ = Data.dict es ep := h2
      cases h2')), h2, h3⟩
    have kb : K.In (hidT s.heap H) := fun b o h1 => hidT_get (kin b o h1) (by
      by_cases hb : b = a
      · subst hb
        exact free (kin b o h1) (.inr (by rw [h1]; exact nofun))
      · exact free (kin b o h1) (.inl hb))
    obtain ⟨mc, l1, l2⟩ := id lim
    have env : Env0 P w K mg (hidT s.heap H) callerA [] s H := ⟨rfl, ⟨kb, dict g1, ⟨mb, dict g2, g3⟩, mc, dict l1, l2⟩, fun b o h1 => of_hidT h1, Nat.le_of_eq (hidT_size _ _), trivial, fun b h1 => (List.not_mem_nil h1).elim, ok, .of_eq gens⟩
    have kinds : ∀ y ∈ ([(("script" : Str), Value.ref a)] : List (Str × Value)), (defScope st).names.lookup y.1 = some .local ∨ ((defScope st).names.lookup y.1 = some .cell ∧ ((cellsFrom (s.heap.objs.size + 1) (defScope st).names []).lookup y.1).isSome = true) := fun y hy => by
      obtain rfl := List.mem_singleton.mp hy
      rcases S.par "script" (List.mem_singleton.mpr rfl) with q | q
      · exact .inl q
      · exact .inr ⟨q, PySem.W.cellsFrom_some _ _ _ (.inl q)⟩
    have run : codeAny (model P w) callerA (.call (.ref f) ⟨[.ref a], []⟩) (CR CX0 [] P w H s (fun v _ => v = .bl true) E0) s := by
      refine codeAny_call_function room.depth (kin _ _ lk) rfl S.co S.gen rfl (PySem.W.codeRec_of kin hcd) (bind (.ref a) _ _ _ _ ?_)
      refine wpAny_newFunctionEnv_cells S.kind kinds fun en hen s1 x => ?_
      subst hen
      refine ⟨lim.keeps x.toInCall.keep, codeAny_func ?_⟩
      have I := inv_start (CX := CX0) (E := E0) (vs := [V.ref a]) (us := [Value.ref a]) S room.hd env rfl (.cons rfl .nil) x
      have rel : Rel K (.dat (.list (ns.map PyData.int)) :: List.replicate (N.length - 1) Sl.un) (L2.start N [V.ref a]) H H := start_dat (ds := [.list (ns.map PyData.int)]) (Ex.refl H) (.cons (.lst sq (IsAll.of_ints ns)) .nil)
      have bd := body (hidT s.heap H) cdv s H E0 kb (dict g1) (room.deeper _) rfl (L2.start N [V.ref a]) H H rel { nx := fun _ _ => False, rt := fun v _ => v = .bl true } ⟨fun _ _ _ _ _ _ z => z.elim, fun v d _ _ _ _ _ _ i z => by
        subst z
        cases i
        rfl, fun _ _ _ _ _ _ z => z.elim, fun _ _ _ _ _ _ z => z.elim⟩
      refine wpAny_mono ((pb_W.nox).run [] s1 (L2.start N [V.ref a]) H _ I bd) (fun fl s2 h1 => ?_) fun _ _ h1 => h1
      cases fl with
      | ret u =>
        obtain ⟨v, σ2, H2, J, rv, q⟩ := h1
        exact ⟨v, H2, J.os, J.bare, J.base, J.hok, rv, q⟩
      | next =>
        obtain ⟨_, _, _, q⟩ := h1
        exact q.elim
      | brk =>
        obtain ⟨_, _, _, q⟩ := h1
        exact q.elim
      | cont =>
        obtain ⟨_, _, _, q⟩ := h1
        exact q.elim
    refine codeAny_mono run fun r s2 h1 => ?_
    match r, h1 with
    | .error _, h1 => exact h1.elim
    | .ok .next, h1 => exact h1.elim
    | .ok .brk, h1 => exact h1.elim
    | .ok .cont, h1 => exact h1.elim
    | .ok (.ret u), ⟨v, H2, os, bare, un, ok2, rv, q⟩ =>
      have q : v = V.bl true := q
      subst q
      obtain rfl : u = Value.bool true := rv
      refine ⟨rfl, OldK.of_keep fun b o h2 => ?_, os, bare⟩
      cases hb : H b with
      | none => exact un.keep b o h2 hb (fun z => List.not_mem_nil z) (fun z => List.not_mem_nil z)
      | some t =>
        obtain ⟨_, _, ob, xs, h3⟩ := tr b (by rw [hb]; exact nofun)
        have h4 := un.frzs b ob _ h3
        obtain ⟨h5, _⟩ := ok b _ h3
        obtain ⟨h6, _⟩ := ok2 b _ h4
        rw [h2] at h5
        cases h5
        exact h6
  have rv := vals_ints isi
  have le : ns.length ≤ sizeLine := Nat.le_trans few (by decide)
  cases hk : K.lookup a with
  | some o =>
    have h1 := kin a o hk
    rw [at1] at h1
    cases h1
    exact main (fun _ => none) (fun b h => absurd rfl h) (.inr ⟨_, vs.toArray, _, hk, rfl, rfl, rfl, by rw [List.size_toArray, isi.length]; exact le, by simpa using rv⟩) (fun b u z => by
      have z : (none : Option HO) = some u := z
      cases z)
  | none =>
    let T : HO := .frz { cls := .type "list", data := .seq vs.toArray } (.lst (ns.map V.int))
    have T1 : (fun b => if b = a then some T else none : Hp) a = some T := if_pos rfl
    have T2 : ∀ b, b ≠ a → (fun b => if b = a then some T else none : Hp) b = none := fun b hb => if_neg hb
    refine main (fun b => if b = a then some T else none) (fun b h => ?_) (.inl (.inr ⟨_, T1⟩)) fun b u z => ?_
    · by_cases hb : b = a
      · subst hb
        exact ⟨rfl, hk, _, _, T1⟩
      · exact absurd (T2 b hb) h
    · by_cases hb : b = a
      · subst hb
        rw [T1] at z
        cases z
        exact ⟨at1, by rw [List.length_map]; exact le, vs, _, rv, at1⟩
      · rw [T2 b hb] at z
        cases z
end
/-- the end of the head -/
theorem law_walk {l : PySem.W.OpenLaw} {k : Nat} {q : Program} {loose : List Str} {XP : (Str → Option Value) → Heap → Prop} {YP : World → Heap → Prop} {d : DefRec} {st : Stmt} {N : List Str} {K : Params → PySem.W.Frag} (hn : l.most = some 63) (hdf : d.params.defaults = []) (S : FnScope N ["script"] (defScope st)) (room : Room (k + 1) callerA) (hY : ∀ (w : World) (h : Heap), YP w h → (K w.params).In h)
    (F : ∀ (w : World) (mg : Str → Option Value) (fa : Addr) (h : Heap), (K w.params).In h → h.Ns mainGlobals mg → mg d.name = some (.ref fa) →
      ∃ fd, Fun (K w.params) "law" "law" st fa fd ∧ (∀ (s : Shared) (v : Value), BindsTo s fd ⟨[v], []⟩ [("script", v)]) ∧ ∀ (base : Heap) (cdv : Value) (s' : Shared) (H : Hp) (E : XK) (ns : List Int), (K w.params).In base → base.Ns mainGlobals mg → Room k (fX l.prog w (K w.params) mg base N "law" st fa cdv callerA [] s' H E).A → (fX l.prog w (K w.params) mg base N "law" st fa cdv callerA [] s' H E).A.guards = some [] →
        ns.length ≤ 63 → BvW (fX l.prog w (K w.params) mg base N "law" st fa cdv callerA [] s' H E) (defBody st) (.dat (.list (ns.map PyData.int)) :: List.replicate (N.length - 1) Sl.un) { nx := fun _ => False, rt := fun d _ => d = .bool true }) :
    PySem.W.WalkO q loose XP YP l.row.toRowW d [] (fun f vs => PySem.call f vs) := by
  refine Att.attach_call hn hdf fun w s₀ s mg mb fa o pm cd doc a vs ns G Y ho hd hcd hmg hobj hints hlen hg => ?_
  have kx := hY w _ Y
  obtain ⟨fd, hf, hb, hB⟩ := F w mg fa _ kx G.T.g hmg
  exact law_go hf S (hb s) kx G.T.g G.T.b G.T.builtins G.T.nolimit hg hobj hints hlen room fun base cdv s' H E h1 h2 h3 h4 => hB base cdv s' H E ns h1 h2 h3 h4 hlen
end Pl
namespace Pl
open PySem PySem.Spec PyProof.Rows L2
open Evl (Ex ex_t ex_l)
/-! small data: its text is short -/
structure Nice (k n : Nat) (d : PyData) : Prop where
  lay : d.canLay0 = true
  dep : d.depth ≤ k
  wt : d.weight ≤ n
  sh : d.intsShort 13 = true
  shw : d.showable = true
  nd : d.hasDict = false
structure NiceA (k n : Nat) (ds : List PyData) : Prop where
  lay : PyData.canLayAll0 ds = true
  dep : PyData.depthAll ds ≤ k
  wt : PyData.weightAll ds ≤ n
  sh : PyData.intsShortAll 13 ds = true
  shw : PyData.showableAll ds = true
  nd : PyData.hasDictAll ds = false
theorem NiceA.nil {k n : Nat} : NiceA k n [] := ⟨rfl, Nat.zero_le _, Nat.zero_le _, rfl, rfl, rfl⟩
theorem NiceA.cons {k a b : Nat} {d : PyData} {ds : List PyData} (h : Nice k a d) (t : NiceA k b ds) : NiceA k (a + 1 + b) (d :: ds) :=
  ⟨by simp only [PyData.canLayAll0, h.lay, t.lay, Bool.and_true], by simp only [PyData.depthAll]; exact Nat.max_le.mpr ⟨h.dep, t.dep⟩, by simp only [PyData.weightAll]; exact Nat.add_le_add (Nat.add_le_add_right h.wt 1) t.wt, by simp only [PyData.intsShortAll, h.sh, t.sh, Bool.and_true],
    by simp only [PyData.showableAll, h.shw, t.shw, Bool.and_true], by simp only [PyData.hasDictAll, h.nd, t.nd, Bool.or_false]⟩
theorem Nice.tup {k n : Nat} {ds : List PyData} (t : NiceA k n ds) : Nice (k + 1) n (.tuple ds) :=
  ⟨by simp only [PyData.canLay0, t.lay], by simp only [PyData.depth]; have := t.dep; omega, by simp only [PyData.weight]; exact t.wt, by simp only [PyData.intsShort, t.sh], by simp only [PyData.showable, t.shw], by simp only [PyData.hasDict, t.nd]⟩
theorem Nice.non {k : Nat} : Nice (k + 1) 0 .none := ⟨rfl, by simp [PyData.depth], Nat.le_refl _, rfl, rfl, rfl⟩
theorem Nice.bl {k : Nat} (b : Bool) : Nice (k + 1) 0 (.bool b) := ⟨rfl, by simp [PyData.depth], Nat.le_refl _, rfl, rfl, rfl⟩
theorem small_int : ∀ n : Fin 128, ((PyData.int (n.val : Int)).weight ≤ 7 ∧ (PyData.int (n.val : Int)).intsShort 13 = true ∧ (PyData.int (n.val : Int)).showable = true) := by decide +kernel
theorem Nice.int {k : Nat} {i : Int} (h0 : 0 ≤ i) (h1 : i < 128) : Nice (k + 1) 7 (.int i) := by
  obtain ⟨n, rfl⟩ := Int.eq_ofNat_of_zero_le h0
  have := small_int ⟨n, by omega⟩
  exact ⟨rfl, by simp [PyData.depth], this.1, this.2.1, this.2.2, rfl⟩
theorem NiceA.of {α : Type} {k n : Nat} {f : α → PyData} : ∀ {l : List α}, (∀ x ∈ l, Nice k n (f x)) → NiceA k ((n + 1) * l.length) (l.map f)
  | [], _ => .nil
  | x :: r, h => by
    have := NiceA.cons (h x List.mem_cons_self) (NiceA.of (l := r) fun y hy => h y (List.mem_cons_of_mem _ hy))
    rw [List.length_cons, Nat.mul_succ, Nat.add_comm]
    exact this
theorem Nice.up {k j n m : Nat} {d : PyData} (h : Nice k n d) (h1 : k ≤ j) (h2 : n ≤ m) : Nice j m d := ⟨h.lay, Nat.le_trans h.dep h1, Nat.le_trans h.wt h2, h.sh, h.shw, h.nd⟩
theorem Nice.short {k n : Nat} {d : PyData} (h : Nice k n d) (h1 : k ≤ 64) (h2 : n ≤ 2 ^ 20) : d.shown.length ≤ sizeLine := by
  refine Nat.le_trans (shown_le13 ?_ h.sh) (by decide)
  unfold PyData.layable0
  rw [h.lay, decide_eq_true (Nat.le_trans h.dep h1), decide_eq_true (Nat.le_trans h.wt h2)]
  rfl
section
variable {X : Cx} {a b : Expr} {ρ : Rho} {pos : Pos}
/-- repr of a tuple, nothing being shown around -/
theorem ev_repr {px : Pos} {ds : List PyData} {k n : Nat} (hgd : X.A.guards = some []) (hu : X.A.units + 70 < cLine) (hm : X.mg "repr" = none) (ha : Ev X a ρ (.tuple ds)) (hd : Nice k n (.tuple ds)) (h1 : k ≤ 64) (h2 : n ≤ 2 ^ 20) (hg : Gl X "repr" := by rfl) (he : starEach [a] X.env = (false, eval a X.env) :: starEach [] X.env := by rfl) (hpl : (backTo pos (starEach [] X.env)).any (·.1) = false := by rfl) :
    Ev X (.Call (.Name "repr" px) [a] [] pos) ρ (.str (PyData.tuple ds).shown) :=
  ew_callB (call_reprD hgd hu) hm (by decide +kernel) (aw_cons ha (fun d ρ1 ⟨e1, e2⟩ => aw_nil fun G H vs x hv R z => by
    subst e1
    subst e2
    cases hv with
    | cons q1 q2 =>
      cases q2
      refine ⟨_, _, rfl, (q1.mono x).dp, hd.shw, hd.nd, Nat.le_trans hd.dep h1, ?_, hd.short h1 h2, z _ _ G H (.refl x) (.str _) ⟨rfl, rfl⟩⟩
      cases q1
      exact ⟨_, rfl⟩) he) hg (by decide) (by decide) he hpl
theorem ev_eqS {x y : Str} (ha : Ev X a ρ (.str x)) (hb : Ev X b ρ (.str y)) : Ev X (.Compare a [.Eq] [b] pos) ρ (.bool (decide (x = y))) := ev_cmp op_eq ha hb (od_eqS rfl)
theorem tv_eqS {x y : Str} (ha : Ev X a ρ (.str x)) (hb : Ev X b ρ (.str y)) : Tv X (.Compare a [.Eq] [b] pos) ρ (decide (x = y)) := tv_cmp op_eq ha hb (od_eqS rfl)
end
end Pl
namespace Pl
open PySem PySem.Spec PyProof.Rows L2
/-! what the top has written -/
/-- a def of the module -/
abbrev Dfn (K : PySem.W.Frag) (x : Str) (st : Stmt) : Prop := ∃ (f : Addr) (oc : Value) (od an : Option Addr) (sl : Array (Option Value)) (kV dc pm cd ct : Value), PySem.W.nsIn K mainGlobals x = some (some (.ref f)) ∧
  K.lookup f = some ⟨oc, od, .func (PySem.W.fnOf x x (defArgs st) (defBody st) (defScope st) .none kV dc pm an cd ct), sl⟩ ∧ PySem.W.codeIn K cd x = true ∧ PySem.W.keepIn K (.ref f) = true
/-- the name of an int, of a tuple -/
abbrev Cint (K : PySem.W.Frag) (x : Str) (i : Int) : Prop := ∃ t, PySem.W.nsIn K mainGlobals x = some (some (.int i t))
abbrev Ctup (K : PySem.W.Frag) (x : Str) (vs : List V) : Prop := ∃ (a : Addr) (od : Option Addr) (its : Array Value) (n : Nat) (sl : Array (Option Value)), PySem.W.nsIn K mainGlobals x = some (some (.ref a)) ∧ K.lookup a = some ⟨.type "tuple", od, .seq its n, sl⟩ ∧ its.size ≤ sizeLine ∧ He.relAll vs its.toList = true
section
variable {P : Program} {w : World} {K : PySem.W.Frag} {mg : Str → Option Value} {base h : Heap} {x : Str} {st : Stmt}
theorem Dfn.fn (d : Dfn K x st) (X : K.In h) (G : h.Ns mainGlobals mg) {k : Nat} {ps : List Str} {sp : Sp}
    (hb : ∀ (kV doc pm : Value) (an : Option Addr) (cdv ct : Value) (us : List Value), us.length = ps.length → bindArgs (PySem.W.fnOf x x (defArgs st) (defBody st) (defScope st) .none kV doc pm an cdv ct) ⟨us, []⟩ = pure (ps.zip us))
    (ok : ∀ f fd, Fun K x x st f fd → FnOk P w K mg base CX0 k f fd ps sp) : Fn P w K mg base k x ps sp := by
  obtain ⟨f, oc, od, an, sl, kV, dc, pm, cd, ct, a, l, c, kp⟩ := d
  have F := fun_mk (st := st) l c kp
  exact ⟨f, _, PySem.W.mg_of X G a, kp, F.binds hb, ok f _ F⟩
theorem Cint.gc {i : Int} (c : Cint K x i) (X : K.In h) (G : h.Ns mainGlobals mg) : Gc K mg x (.int i) := by
  obtain ⟨t, e⟩ := c
  exact ⟨.int i, _, PySem.W.mg_of X G e, ⟨t, rfl⟩, fun _ => .int i⟩
theorem Ctup.gc {vs : List V} {ds : List PyData} (c : Ctup K x vs) (X : K.In h) (G : h.Ns mainGlobals mg) (hd : ∀ H, IsAll K H vs ds) : Gc K mg x (.tuple ds) := by
  obtain ⟨a, od, its, n, sl, e1, e2, e3, e4⟩ := c
  exact ⟨.ref a, _, PySem.W.mg_of X G e1, rfl, fun H => .tup (.inr ⟨_, its, n, e2, rfl, rfl, e3, He.relAll_ok e4⟩) (hd H)⟩
theorem isAll_strs {H : Hp} : ∀ xs : List Str, IsAll K H (xs.map V.str) (xs.map PyData.str)
  | [] => .nil
  | x :: r => .cons (.str x) (isAll_strs r)
theorem dfn_mk {f : Addr} {oc : Value} {od an : Option Addr} {sl : Array (Option Value)} {kV dc pm cd ct : Value} (a : PySem.W.nsIn K mainGlobals x = some (some (.ref f))) (l : K.lookup f = some ⟨oc, od, .func (PySem.W.fnOf x x (defArgs st) (defBody st) (defScope st) .none kV dc pm an cd ct), sl⟩)
    (c : PySem.W.codeIn K cd x = true) (k : PySem.W.keepIn K (.ref f) = true) : Dfn K x st := ⟨f, oc, od, an, sl, kV, dc, pm, cd, ct, a, l, c, k⟩
theorem cint_mk {i : Int} {t : Addr} (a : PySem.W.nsIn K mainGlobals x = some (some (.int i t))) : Cint K x i := ⟨t, a⟩
theorem ctup_mk {vs : List V} {a : Addr} {od : Option Addr} {its : Array Value} {n : Nat} {sl : Array (Option Value)} (e : PySem.W.nsIn K mainGlobals x = some (some (.ref a))) (l : K.lookup a = some ⟨.type "tuple", od, .seq its n, sl⟩) (z : its.size ≤ sizeLine) (r : He.relAll vs its.toList = true) : Ctup K x vs := ⟨a, od, its, n, sl, e, l, z, r⟩
theorem free_of (X : K.In h) (G : h.Ns mainGlobals mg) (z : PySem.W.nsIn K mainGlobals x = some none) : mg x = none := PySem.W.mg_none_of X G z
end
end Pl
namespace Pl
open PySem PySem.Spec PyProof.Rows L2
open Evl (Ex ex_t ex_l)
/-! an own thing, changed -/
theorem BSt.upd {l : Addr} {G H : Hp} {o : HO} (e : Ex G H) (n : G l = none) : BSt l G H G (L2.upd H l o) := ⟨Ex.refl G, Ex.mut e n, fun _ _ h _ => h, n, fun a u ne h => by
  rw [upd_ne ne]
  exact h⟩
/-- one own thing in the place of another, at the same address -/
theorem Rel.swap {K : PySem.W.Frag} {ρ : Rho} {σ : L2.St} {G H G' H' : Hp} {i : Nat} {l : Addr} {s s' : Sl} (r : Rel K ρ σ G H) (e : ρ[i]? = some s) (hs : s.own = some l) (p : BSt l G H G' H') (h' : SlOk K σ G' H' i s') (hs' : s'.own = some l) (hH : H' l ≠ none) :
    Rel K (ρ.set i s') σ G' H' ∧ Stp ρ G H (ρ.set i s') G' H' := by
  have hi : i < ρ.length := (List.getElem?_eq_some_iff.mp e).1
  have own : OwnAt ρ i l := ⟨_, e, hs⟩
  have ne : ∀ {j : Nat} {t : Sl} {b : Addr}, ρ[j]? = some t → t.own = some b → j ≠ i → b ≠ l := fun {j t b} q1 q2 q3 z => q3 (r.ds j i l ⟨t, q1, by rw [← z]; exact q2⟩ own)
  refine ⟨⟨p.gh, by rw [List.length_set, r.len], fun j t q => ?_, fun j k b h1 h2 => ?_⟩, ⟨p.gg, fun b h1 h2 h3 => p.fr b (fun z => h1 (by rw [z]; exact ⟨i, own⟩)) h2 h3, fun b o h1 h2 => p.kp b o (fun z => h1 (by rw [z]; exact ⟨i, own⟩)) h2, fun b h => ?_, fun b ⟨j, h⟩ => ?_⟩⟩
  · by_cases hj : j = i
    · subst hj
      rw [List.getElem?_set_self hi] at q
      cases q
      exact h'
    · rw [List.getElem?_set_ne (Ne.symm hj)] at q
      have z := r.sl j t q
      cases t with
      | un => trivial
      | dat d =>
        obtain ⟨v, z1, z2⟩ := z
        exact ⟨v, z1, z2.mono p.gg⟩
      | lst b fs =>
        obtain ⟨z1, z2, ws, z3, z4⟩ := z
        have no := ne q rfl hj
        exact ⟨z1, p.fr b no z2 (by rw [z3]; exact nofun), ws, p.kp b _ no z3, z4.mono p.gg⟩
      | obj b o =>
        obtain ⟨z1, z2, u, z3, z4⟩ := z
        have no := ne q rfl hj
        exact ⟨z1, p.fr b no z2 (by rw [z3]; exact nofun), u, p.kp b _ no z3, o.up p.gg z4⟩
  · have bk : ∀ j, OwnAt (ρ.set i s') j b → OwnAt ρ j b := fun j h => by
      rcases ownAt_set h with ⟨e1, q⟩ | ⟨_, q⟩
      · rw [hs'] at q
        cases q
        rw [e1]
        exact own
      · exact q
    exact r.ds j k b (bk j h1) (bk k h2)
  · by_cases hb : b = l
    · rw [hb]
      exact hH
    · cases q : H b with
      | none => exact absurd q h
      | some o =>
        rw [p.kp b o hb q]
        exact nofun
  · rcases ownAt_set h with ⟨_, q⟩ | ⟨_, q⟩
    · rw [hs'] at q
      cases q
      exact .inl ⟨i, own⟩
    · exact .inl ⟨j, q⟩
/-- a thing that is nobody's, changed: all slots stay -/
theorem Rel.aside {K : PySem.W.Frag} {ρ : Rho} {σ : L2.St} {G H G' H' : Hp} {l : Addr} (r : Rel K ρ σ G H) (no : ¬ Own ρ l) (p : BSt l G H G' H') : Rel K ρ σ G' H' := by
  have ne : ∀ {j : Nat} {t : Sl} {b : Addr}, ρ[j]? = some t → t.own = some b → b ≠ l := fun {j t b} q1 q2 z => no ⟨j, t, q1, by rw [← z]; exact q2⟩
  refine ⟨p.gh, r.len, fun j t q => ?_, r.ds⟩
  have z := r.sl j t q
  cases t with
  | un => trivial
  | dat d =>
    obtain ⟨v, z1, z2⟩ := z
    exact ⟨v, z1, z2.mono p.gg⟩
  | lst b fs =>
    obtain ⟨z1, z2, ws, z3, z4⟩ := z
    exact ⟨z1, p.fr b (ne q rfl) z2 (by rw [z3]; exact nofun), ws, p.kp b _ (ne q rfl) z3, z4.mono p.gg⟩
  | obj b o =>
    obtain ⟨z1, z2, u, z3, z4⟩ := z
    exact ⟨z1, p.fr b (ne q rfl) z2 (by rw [z3]; exact nofun), u, p.kp b _ (ne q rfl) z3, o.up p.gg z4⟩
/-! an own thing as a def's last argument -/
def spObj (K : PySem.W.Frag) (n : Nat) (Pre : List PyData → Ow → Prop) (Fb : List PyData → Ow → PyData → Ow → Prop) : Sp := fun vs H Q _ => ∃ G l o Φ ws ds, vs = ws ++ [.ref l] ∧ vs.length = n ∧ Ex G H ∧ G l = none ∧ H l = some o ∧ Ow.p Φ K G l o ∧ IsAll K G ws ds ∧ Pre ds Φ ∧
  ∀ d Φ' v G' H' o', Fb ds Φ d Φ' → BSt l G H G' H' → H' l = some o' → Ow.p Φ' K G' l o' → Is K G' v d → Q v H'
section
variable {X : Cx} {e a b c iter : Expr} {es ts ifs rest : List Expr} {ρ : Rho} {d f : PyData} {ds : List PyData} {pos : Pos}
/-- arguments, the last of them an own thing in a slot -/
def AoW (X : Cx) (es : List Expr) (i : Nat) (ρ : Rho) (Q : List PyData → Ow → Rho → Prop) : Prop := ∀ (σ : L2.St) (G H : Hp), Rel X.K ρ σ G H → ∀ R : List V → Hp → Prop,
  (∀ vs ds l Φ ρ' G' H', Rel X.K ρ' σ G' H' → Stp ρ G H ρ' G' H' → IsAll X.K G' vs ds → ρ'[i]? = some (.obj l Φ) → Q ds Φ ρ' → R (vs ++ [.ref l]) H') → taW X es σ H R
theorem ao_one {i : Nat} {y : Str} {py : Pos} {l : Addr} {Φ : Ow} {Q : List PyData → Ow → Rho → Prop} (h : ρ[i]? = some (.obj l Φ)) (q : Q [] Φ ρ) (hN : X.N[i]? = some y := by rfl) (hv : Vis X.env.scope y := by first | exact Or.inl rfl | exact Or.inr (Or.inl rfl) | exact Or.inr (Or.inr rfl)) (hd : (y == ("__debug__" : Str)) = false := by decide)
    (hcd : (y == ("__classdict__" : Str)) = false := by decide) (hs : starEach [.Name y py] X.env = (false, eval (.Name y py) X.env) :: starEach [] X.env := by rfl) : AoW X [.Name y py] i ρ Q := fun σ G H rel R k => by
  obtain ⟨e0, _⟩ := rel.sl i _ h
  exact ta_of (pa_cons (pe_var hN hv hd hcd) pa_nil hs) ⟨_, e0, k [] [] l Φ ρ G H rel .refl .nil h q⟩
theorem ao_cons {i : Nat} {Q : List PyData → Ow → Rho → Prop} {Qa : PyData → Rho → Prop} (ha : EvW X e ρ Qa) (hr : ∀ d ρ1, Qa d ρ1 → AoW X es i ρ1 fun ds Φ ρ2 => Q (d :: ds) Φ ρ2) (hs : starEach (e :: es) X.env = (false, eval e X.env) :: starEach es X.env := by rfl) : AoW X (e :: es) i ρ Q := fun σ G H rel R k =>
  ta_of (pa_cons pe_W pa_W hs) (ha σ G H rel _ fun v d ρ1 G1 H1 r1 s1 i1 q1 => hr d ρ1 q1 σ G1 H1 r1 _ fun vs ds l Φ ρ2 G2 H2 r2 s2 i2 h2 q2 => k (v :: vs) (d :: ds) l Φ ρ2 G2 H2 r2 (s1.trans s2) (.cons (i1.mono s2.gg) i2) h2 q2)
theorem ao_ev {i : Nat} {Q : List PyData → Ow → Rho → Prop} (ha : Ev X e ρ d) (hr : AoW X es i ρ fun ds Φ ρ2 => Q (d :: ds) Φ ρ2) (hs : starEach (e :: es) X.env = (false, eval e X.env) :: starEach es X.env := by rfl) : AoW X (e :: es) i ρ Q := ao_cons ha (fun _ _ ⟨h1, h2⟩ => by
  subst h1
  subst h2
  exact hr) hs
/-- an expression that gives a new own thing -/
def EoW (X : Cx) (e : Expr) (ρ : Rho) (Q : Ow → Rho → Prop) : Prop := ∀ (σ : L2.St) (G H : Hp), Rel X.K ρ σ G H → ∀ R : VK,
  (∀ a o Φ ρ' G' H', Rel X.K ρ' σ G' H' → Stp ρ G H ρ' G' H' → G' a = none → ¬ Own ρ' a → H a = none → H' a = some o → Ow.p Φ X.K G' a o → Q Φ ρ' → R (.ref a) H') → teW X e σ H R
theorem ex_obj {Q : Sl → Rho → Prop} (h : EoW X e ρ fun Φ ρ1 => ∀ l, Q (.obj l Φ) ρ1) : ExW X e ρ Q := fun σ G H rel R k => h σ G H rel R fun l o Φ ρ1 G1 H1 r1 s1 n1 n2 n3 h1 h2 q1 => k (.ref l) (.obj l Φ) ρ1 G1 H1 r1 s1 ⟨rfl, n1, o, h1, h2⟩ (fun a z => by
  cases z
  exact ⟨n2, n3⟩) (q1 l)
/-- arguments, the last of them a new own thing -/
def AnW (X : Cx) (es : List Expr) (ρ : Rho) (Q : List PyData → Ow → Rho → Prop) : Prop := ∀ (σ : L2.St) (G H : Hp), Rel X.K ρ σ G H → ∀ R : List V → Hp → Prop,
  (∀ vs ds l o Φ ρ' G' H', Rel X.K ρ' σ G' H' → Stp ρ G H ρ' G' H' → IsAll X.K G' vs ds → G' l = none → ¬ Own ρ' l → H l = none → H' l = some o → Ow.p Φ X.K G' l o → Q ds Φ ρ' → R (vs ++ [.ref l]) H') → taW X es σ H R
theorem an_one {Q : List PyData → Ow → Rho → Prop} (h : EoW X e ρ fun Φ ρ1 => Q [] Φ ρ1) (hs : starEach [e] X.env = (false, eval e X.env) :: starEach [] X.env := by rfl) : AnW X [e] ρ Q := fun σ G H rel R k =>
  ta_of (pa_cons pe_W pa_nil hs) (h σ G H rel _ fun l o Φ ρ1 G1 H1 r1 s1 n1 n2 n3 h1 h2 q1 => k [] [] l o Φ ρ1 G1 H1 r1 s1 .nil n1 n2 n3 h1 h2 q1)
theorem an_cons {Q : List PyData → Ow → Rho → Prop} {Qa : PyData → Rho → Prop} (ha : EvW X e ρ Qa) (hr : ∀ d ρ1, Qa d ρ1 → AnW X es ρ1 fun ds Φ ρ2 => Q (d :: ds) Φ ρ2) (hs : starEach (e :: es) X.env = (false, eval e X.env) :: starEach es X.env := by rfl) : AnW X (e :: es) ρ Q := fun σ G H rel R k =>
  ta_of (pa_cons pe_W pa_W hs) (ha σ G H rel _ fun v d ρ1 G1 H1 r1 s1 i1 q1 => hr d ρ1 q1 σ G1 H1 r1 _ fun vs ds l o Φ ρ2 G2 H2 r2 s2 i2 n1 n2 n3 h1 h2 q2 => k (v :: vs) (d :: ds) l o Φ ρ2 G2 H2 r2 (s1.trans s2) (.cons (i1.mono s2.gg) i2) n1 n2 (s1.unused n3) h1 h2 q2)
theorem an_ev {Q : List PyData → Ow → Rho → Prop} (ha : Ev X e ρ d) (hr : AnW X es ρ fun ds Φ ρ2 => Q (d :: ds) Φ ρ2) (hs : starEach (e :: es) X.env = (false, eval e X.env) :: starEach es X.env := by rfl) : AnW X (e :: es) ρ Q := an_cons ha (fun _ _ ⟨h1, h2⟩ => by
  subst h1
  subst h2
  exact hr) hs
theorem ew_callObj {k i : Nat} {x : Str} {px : Pos} {ps : List Str} {Pre : List PyData → Ow → Prop} {Fb : List PyData → Ow → PyData → Ow → Prop} {Q : PyData → Rho → Prop} (F : Fn X.prog X.w X.K X.mg X.base k x ps (spObj X.K ps.length Pre Fb)) (hr : Room k X.A)
    (ha : AoW X (e :: es) i ρ fun ds Φ ρ1 => ds.length + 1 = ps.length ∧ Pre ds Φ ∧ ∀ d Φ' l, Fb ds Φ d Φ' → ρ1[i]? = some (.obj l Φ) → Q d (ρ1.set i (.obj l Φ')))
    (hg : Gl X x := by rfl) (hdb : (x == ("__debug__" : Str)) = false := by decide) (he : starEach (e :: es) X.env = (false, eval e X.env) :: starEach es X.env := by rfl) (hpl : (backTo pos (starEach es X.env)).any (·.1) = false := by rfl) : EvW X (.Call (.Name x px) (e :: es) [] pos) ρ Q := fun σ G H rel R kk => by
  obtain ⟨f, fd, hm, hk, hb, F⟩ := F.ex
  refine te_of (pe_call F hr hg hm hk hb .nil pass0 pa_W hdb he hpl) (ha σ G H rel _ fun vs ds l Φ ρ1 G1 H1 r1 s1 i1 h1 ⟨h2, h3, q⟩ => ?_)
  rw [List.append_nil]
  obtain ⟨e1, nG, u, hH, hP⟩ := r1.sl i _ h1
  refine ⟨G1, l, u, Φ, vs, ds, rfl, by rw [List.length_append, i1.length]; exact h2, r1.ex, nG, hH, hP, i1, h3, fun d Φ' v G2 H2 o' z0 p z1 z2 z3 => ?_⟩
  obtain ⟨r2, s2⟩ := r1.swap (s' := .obj l Φ') h1 rfl p ⟨e1, p.frl, o', z1, z2⟩ rfl (by rw [z1]; exact nofun)
  exact kk v d _ G2 H2 r2 (s1.trans s2) z3 (q d Φ' l z0 h1)
theorem ew_callObjN {k : Nat} {x : Str} {px : Pos} {ps : List Str} {Pre : List PyData → Ow → Prop} {Fb : List PyData → Ow → PyData → Ow → Prop} {Q : PyData → Rho → Prop} (F : Fn X.prog X.w X.K X.mg X.base k x ps (spObj X.K ps.length Pre Fb)) (hr : Room k X.A)
    (ha : AnW X (e :: es) ρ fun ds Φ ρ1 => ds.length + 1 = ps.length ∧ Pre ds Φ ∧ ∀ d Φ', Fb ds Φ d Φ' → Q d ρ1)
    (hg : Gl X x := by rfl) (hdb : (x == ("__debug__" : Str)) = false := by decide) (he : starEach (e :: es) X.env = (false, eval e X.env) :: starEach es X.env := by rfl) (hpl : (backTo pos (starEach es X.env)).any (·.1) = false := by rfl) : EvW X (.Call (.Name x px) (e :: es) [] pos) ρ Q := fun σ G H rel R kk => by
  obtain ⟨f, fd, hm, hk, hb, F⟩ := F.ex
  refine te_of (pe_call F hr hg hm hk hb .nil pass0 pa_W hdb he hpl) (ha σ G H rel _ fun vs ds l u Φ ρ1 G1 H1 r1 s1 i1 nG n2 n3 hH hP ⟨h2, h3, q⟩ => ?_)
  rw [List.append_nil]
  refine ⟨G1, l, u, Φ, vs, ds, rfl, by rw [List.length_append, i1.length]; exact h2, r1.ex, nG, hH, hP, i1, h3, fun d Φ' v G2 H2 o' z0 p z1 z2 z3 => ?_⟩
  refine kk v d _ G2 H2 (r1.aside n2 p) ⟨s1.gg.trans p.gg, fun b h1 h2 h3 => ?_, fun b o h1 h2 => ?_, fun b h => ?_, fun b h => s1.ow b h⟩ z3 (q d Φ' z0)
  · have ne : b ≠ l := fun z => h3 (by rw [z]; exact n3)
    exact p.fr b ne (s1.fr b h1 h2 h3) (s1.al b h3)
  · have ne : b ≠ l := fun z => by
      rw [z, n3] at h2
      cases h2
    exact p.kp b o ne (s1.kp b o h1 h2)
  · have ne : b ≠ l := fun z => h (by rw [z]; exact n3)
    cases q2 : H1 b with
    | none => exact absurd q2 (s1.al b h)
    | some o =>
      rw [p.kp b o ne q2]
      exact nofun
end
section
variable {P : Program} {w : World} {K : PySem.W.Frag} {mg : Str → Option Value} {base : Heap}
theorem fn_obj {x qual : Str} {st : Stmt} {f : Addr} {fd : FuncData} {N ps : List Str} {k : Nat} {Pre : List PyData → Ow → Prop} {Fb : List PyData → Ow → PyData → Ow → Prop} (F : Fun K x qual st f fd) (S : FnScope N ps (defScope st))
    (hb : ∀ (cdv : Value) (A : Around) (outer : List Env) (s : Shared) (H : Hp) (E : XK) (l : Addr) (Φ : Ow) (ds : List PyData), Room k (fX P w K mg base N qual st f cdv A outer s H E).A → Pre ds Φ → ds.length + 1 = ps.length →
      BvW (fX P w K mg base N qual st f cdv A outer s H E) (defBody st) (ds.map Sl.dat ++ (.obj l Φ :: List.replicate (N.length - (ds.length + 1)) Sl.un)) { nx := fun ρ' => ∃ Φ', Fb ds Φ .none Φ' ∧ ρ'[ds.length]? = some (.obj l Φ'), rt := fun d ρ' => ∃ Φ', Fb ds Φ d Φ' ∧ ρ'[ds.length]? = some (.obj l Φ') }) :
    FnOk P w K mg base CX0 (k + 1) f fd ps (spObj K ps.length Pre Fb) := by
  refine F.ok S (fun vs H Q E ⟨G, l, o, Φ, ws, ds, _, h, _⟩ => h) (fun cdv A outer s H vs Q E hr ⟨G, l, o, Φ, ws, ds, hv, h1, h2, h3, h4, h5, h6, h7, q⟩ => ?_)
  subst hv
  have hlen : ds.length + 1 = ps.length := by
    rw [List.length_append] at h1
    rw [← h6.length]
    exact h1
  have hN : ds.length + 1 ≤ N.length := by
    have := congrArg List.length S.pre
    rw [List.length_take] at this
    omega
  have at1 : ∀ {i t}, (ds.map Sl.dat ++ (Sl.obj l Φ :: List.replicate (N.length - (ds.length + 1)) Sl.un))[i]? = some t → (i < ds.length ∧ ∃ d, ds[i]? = some d ∧ t = .dat d) ∨ (i = ds.length ∧ t = .obj l Φ) ∨ (ds.length < i ∧ t = .un) := fun {i t} e => by
    by_cases hi : i < ds.length
    · rw [List.getElem?_append_left (by simpa using hi), List.getElem?_map] at e
      obtain ⟨d, hd, hd2⟩ := Option.map_eq_some_iff.mp e
      exact .inl ⟨hi, d, hd, hd2.symm⟩
    · rw [List.getElem?_append_right (by simpa using hi), List.length_map] at e
      by_cases hi2 : i = ds.length
      · subst hi2
        rw [Nat.sub_self] at e
        cases e
        exact .inr (.inl ⟨rfl, rfl⟩)
      · obtain ⟨m, hm⟩ : ∃ m, i - ds.length = m + 1 := ⟨i - ds.length - 1, by omega⟩
        rw [hm, List.getElem?_cons_succ] at e
        exact .inr (.inr ⟨by omega, getEl_rep e⟩)
  have ow : ∀ {i a}, OwnAt (ds.map Sl.dat ++ (Sl.obj l Φ :: List.replicate (N.length - (ds.length + 1)) Sl.un)) i a → i = ds.length ∧ a = l := fun {i a} ⟨t, e, h⟩ => by
    rcases at1 e with ⟨_, d, _, z⟩ | ⟨z1, z⟩ | ⟨_, z⟩
    · rw [z] at h
      cases h
    · rw [z] at h
      cases h
      exact ⟨z1, rfl⟩
    · rw [z] at h
      cases h
  have st0 : L2.start N (ws ++ [.ref l]) = ws.map some ++ (some (.ref l) :: List.replicate (N.length - (ds.length + 1)) none) := by
    unfold L2.start
    rw [List.map_append, List.append_assoc, List.length_append, h6.length]
    rfl
  have rel : Rel K (ds.map Sl.dat ++ (Sl.obj l Φ :: List.replicate (N.length - (ds.length + 1)) Sl.un)) (L2.start N (ws ++ [.ref l])) G H := by
    rw [st0]
    refine ⟨h2, by simp [h6.length], fun i t e => ?_, fun i j a z1 z2 => (ow z1).1.trans (ow z2).1.symm⟩
    rcases at1 e with ⟨hi, d, hd, z⟩ | ⟨z1, z⟩ | ⟨_, z⟩
    · subst z
      obtain ⟨v, e1, e2⟩ := h6.get hd
      refine ⟨v, ?_, e2⟩
      rw [List.getElem?_append_left (by simpa [h6.length] using hi), List.getElem?_map, e1]
      rfl
    · subst z
      subst z1
      refine ⟨?_, h3, o, h4, h5⟩
      rw [List.getElem?_append_right (by simp [h6.length])]
      simp [h6.length]
    · subst z
      trivial
  refine ⟨_, pb_W, hb cdv A outer s H E l Φ ds hr h7 hlen _ G H rel _ ?_⟩
  have fin : ∀ {ρ' σ' G' H' v d Φ'}, Fb ds Φ d Φ' → Rel K ρ' σ' G' H' → Stp (ds.map Sl.dat ++ (Sl.obj l Φ :: List.replicate (N.length - (ds.length + 1)) Sl.un)) G H ρ' G' H' → ρ'[ds.length]? = some (.obj l Φ') → Is K G' v d → Q v H' := fun {ρ' σ' G' H' v d Φ'} z0 r s e i => by
    obtain ⟨_, nG, u, hH', hP'⟩ := r.sl _ _ e
    exact q d Φ' v G' H' u z0 ⟨s.gg, r.ex, fun a z1 z2 z3 => s.fr a (fun ⟨i, z⟩ => z1 (ow z).2) z2 z3, nG, fun a o z1 z2 => s.kp a o (fun ⟨i, z⟩ => z1 (ow z).2) z2⟩ hH' hP' i
  exact ⟨fun ρ' σ' G' H' r s ⟨Φ', e1, e2⟩ => fin e1 r s e2 .non, fun v d' ρ' σ' G' H' r s i ⟨Φ', e1, e2⟩ => fin e1 r s e2 i, fun _ _ _ _ _ _ z => z.elim, fun _ _ _ _ _ _ z => z.elim⟩
end
end Pl
set_option pp.maxSteps 400
namespace Pm
open PySem PySem.Spec PyProof.Rows L2
open Sem (wp)
section
variable {P : Program} {w : World} {A : Around} {E : Value → Shared → Prop} {s : Shared}
/-- what a search in a table asks of the keys that may stand for the one sought -/
structure Look (P : Program) (w : World) (A : Around) (E : Value → Shared → Prop) (s : Shared) (es : Array DictEntry) (key : Value) (h : Int) (same : DictEntry → Bool) : Prop where
  cmp : ∀ e ∈ es, (e.hash == h) = true → ∀ Q : Bool → Shared → Prop, Q (same e) s → wpAny (model P w) A (eqBool e.key key) Q E s
  qk : ∀ Q : Bool → Shared → Prop, Q true s → wpAny (model P w) A (eqIsQuiet 8 key) Q E s
  qs : ∀ e ∈ es, ∀ Q : Bool → Shared → Prop, Q true s → wpAny (model P w) A (eqIsQuiet 8 e.key) Q E s
  one : ∀ (i j : Nat) (e f : DictEntry), es[i]? = some e → es[j]? = some f → (e.hash == h) = true → (f.hash == h) = true → same e = true → same f = true → i = j
variable {d : Addr} {o : Obj} {es : Array DictEntry} {ep : Nat} {key : Value} {h : Int} {same : DictEntry → Bool} {Q : Option Nat → Shared → Prop}
abbrev pls (es : Array DictEntry) (h : Int) : List Nat := placesWithHash es.size (fun i => es[i]?.map (·.hash)) h
theorem pls_mem {i : Nat} : i ∈ pls es h ↔ ∃ e, es[i]? = some e ∧ (e.hash == h) = true := by
  unfold pls placesWithHash
  rw [List.mem_filter, List.mem_range]
  constructor
  · rintro ⟨h1, h2⟩
    refine ⟨es[i], Array.getElem?_eq_getElem h1, ?_⟩
    simpa [Array.getElem?_eq_getElem h1] using h2
  · rintro ⟨e, h1, h2⟩
    refine ⟨(Array.getElem?_eq_some_iff.mp h1).1, ?_⟩
    simpa [h1] using h2
theorem pls_nd : (pls es h).Nodup := by
  unfold pls placesWithHash
  exact List.Nodup.sublist List.filter_sublist List.nodup_range
theorem tell_no (L : Look P w A E s es key h same) {st : List Value} (hst : ∀ v ∈ st, ∃ e ∈ es, v = e.key) {R : Bool → Shared → Prop} (hr : R false s) : wpAny (model P w) A (tableMayTell key st) R E s := by
  unfold tableMayTell
  by_cases h0 : st.isEmpty = true
  · rw [if_pos h0]
    exact wpAny_pure hr
  · rw [if_neg h0]
    refine wpAny_bind (L.qk _ ?_)
    rw [if_neg (by decide)]
    refine wpAny_bind ?_
    refine wpAny_forIn_list _ (fun rs b t => t = s ∧ b = (none, ()) ∧ ∀ v ∈ rs, ∃ e ∈ es, v = e.key) _ (fun x rs b t q => ?_) (fun b t q => ?_) _ _ ⟨rfl, rfl, hst⟩
    · obtain ⟨rfl, rfl, q⟩ := q
      obtain ⟨e, he, rfl⟩ := q x List.mem_cons_self
      refine wpAny_bind (L.qs e he _ ?_)
      rw [if_neg (by decide)]
      exact wpAny_pure ⟨rfl, rfl, fun v hv => q v (List.mem_cons_of_mem _ hv)⟩
    · obtain ⟨rfl, rfl, _⟩ := q
      exact wpAny_pure hr
abbrev Stt : Type := Option (Option Nat) × Option Nat
/-- the turns of a search -/
theorem turns (L : Look P w A E s es key h same) {body : Nat → Stt → Sem (ForInStep Stt)}
    (t0 : ∀ (i : Nat) (e : DictEntry) (hit : Option Nat) (R : ForInStep Stt → Shared → Prop), es[i]? = some e → (e.hash == h) = true → same e = false → R (.yield (none, hit)) s → wpAny (model P w) A (body i (none, hit)) R E s)
    (t1 : ∀ (i : Nat) (e : DictEntry) (R : ForInStep Stt → Shared → Prop), es[i]? = some e → (e.hash == h) = true → same e = true → R (.done (some (some i), none)) s → R (.yield (none, some i)) s → wpAny (model P w) A (body i (none, none)) R E s)
    {T : Stt → Shared → Prop} (hnone : (∀ (i : Nat) (e : DictEntry), es[i]? = some e → (e.hash == h) = true → same e = false) → T (none, none) s) (hsome : ∀ (i : Nat) (e : DictEntry), es[i]? = some e → (e.hash == h) = true → same e = true → T (none, some i) s ∧ T (some (some i), none) s) :
    wpAny (model P w) A (forIn (pls es h) (none, none) body) T E s := by
  refine wpAny_forIn_list _ (fun rest b t => t = s ∧ b.1 = none ∧ ∃ past, pls es h = past ++ rest ∧ ((b.2 = none ∧ ∀ j ∈ past, ∀ e, es[j]? = some e → same e = false) ∨ ∃ j e, j ∈ past ∧ es[j]? = some e ∧ (e.hash == h) = true ∧ same e = true ∧ b.2 = some j)) _ (fun x rest b t q => ?_) (fun b t q => ?_) _ _ ⟨rfl, rfl, [], rfl, .inl ⟨rfl, fun j hj => nomatch hj⟩⟩
  · obtain ⟨rfl, hb, past, e1, q⟩ := q
    obtain ⟨b1, b2⟩ := b
    have hb : b1 = none := hb
    subst hb
    have hx : x ∈ pls es h := by
      rw [e1]
      simp
    obtain ⟨e, he, hh⟩ := pls_mem.mp hx
    have e2 : pls es h = (past ++ [x]) ++ rest := by
      rw [e1]
      simp
    cases hs : same e with
    | false =>
      refine t0 x e b2 _ he hh hs ⟨rfl, rfl, past ++ [x], e2, ?_⟩
      rcases q with ⟨q1, q2⟩ | ⟨j, f, q1, q2, q3, q4, q5⟩
      · refine .inl ⟨q1, fun j hj f hf => ?_⟩
        rcases List.mem_append.mp hj with hj | hj
        · exact q2 j hj f hf
        · rw [List.mem_singleton.mp hj, he] at hf
          cases hf
          exact hs
      · exact .inr ⟨j, f, List.mem_append_left _ q1, q2, q3, q4, q5⟩
    | true =>
      rcases q with ⟨q1, q2⟩ | ⟨j, f, q1, q2, q3, q4, q5⟩
      · have q1 : b2 = none := q1
        subst q1
        refine t1 x e _ he hh hs ?_ ⟨rfl, rfl, past ++ [x], e2, .inr ⟨x, e, by simp, he, hh, hs, rfl⟩⟩
        exact (hsome x e he hh hs).2
      · have := L.one x j e f he q2 hh q3 hs q4
        subst this
        have nd := pls_nd (es := es) (h := h)
        rw [e1] at nd
        exact absurd (List.mem_cons_self) (fun z => (List.nodup_append.mp nd).2.2 x q1 x z rfl)
  · obtain ⟨rfl, hb, past, e1, q⟩ := q
    obtain ⟨b1, b2⟩ := b
    have hb : b1 = none := hb
    subst hb
    rw [List.append_nil] at e1
    rcases q with ⟨q1, q2⟩ | ⟨j, f, q1, q2, q3, q4, q5⟩
    · have q1 : b2 = none := q1
      subst q1
      refine hnone fun i e he hh => q2 i ?_ e he
      rw [← e1]
      exact pls_mem.mpr ⟨e, he, hh⟩
    · have q5 : b2 = some j := q5
      subst q5
      exact (hsome j f q2 q3 q4).1
/-- the search, the key not a text or not all keys texts -/
theorem find_slow (ho : s.heap.get? d = some o) (hd : o.data = .dict es ep) (L : Look P w A E s es key h same)
    (hkey : ∃ a, key = .ref a) (hval : ¬ (key :: (pls es h).filterMap fun i => es[i]?.map (·.key)).all carriedByValue = true)
    (href : ∀ e ∈ es, (e.key == key && e.hash != h) = false)
    (hnone : (∀ (i : Nat) (e : DictEntry), es[i]? = some e → (e.hash == h) = true → same e = false) → Q none s) (hsome : ∀ (i : Nat) (e : DictEntry), es[i]? = some e → (e.hash == h) = true → same e = true → Q (some i) s) : wpAny (model P w) A (dictFind d key h) Q E s := by
  have any0 : ¬ (es.any fun e => e.key == key && e.hash != h) = true := by
    rw [Array.any_eq_true]
    rintro ⟨i, hi, q⟩
    rw [href _ (Array.getElem_mem hi)] at q
    cases q
  have told : ∀ v ∈ (pls es h).filterMap (fun i => es[i]?.map (·.key)), ∃ e ∈ es, v = e.key := fun v hv => by
    obtain ⟨i, _, q⟩ := List.mem_filterMap.mp hv
    cases q2 : es[i]? with
    | none =>
      rw [q2] at q
      cases q
    | some e =>
      rw [q2] at q
      cases q
      exact ⟨e, Array.mem_of_getElem? q2, rfl⟩
  have ne : ¬ ((ep != ep) = true) := by simp
  unfold dictFind
  refine wpAny_holding ?_
  refine wpAny_bind (wpAny_dictEntries ho hd ?_)
  obtain ⟨a, rfl⟩ := hkey
  · dsimp only
    rw [if_neg hval, if_neg any0]
    by_cases hone : (((pls es h).filterMap fun i => es[i]?.map (·.key)) == [Value.ref a]) = true
    · rw [if_pos hone]
      refine wpAny_bind (wpAny_pure ?_)
      rw [if_neg (by simp)]
      refine wpAny_bind (turns L (fun i e hit R he hh hs hr => ?_) (fun i e R he hh hs r1 r2 => ?_) (fun z => wpAny_pure (hnone z)) fun i e he hh hs => ⟨wpAny_pure (hsome i e he hh hs), wpAny_pure (hsome i e he hh hs)⟩)
      · simp only [he, hh, if_true]
        refine wpAny_bind (wpAny_dictEpoch ho hd (wpAny_bind (L.cmp e (Array.mem_of_getElem? he) hh _ (wpAny_bind (wpAny_dictEpoch ho hd ?_)))))
        rw [if_neg ne, hs, if_neg Bool.false_ne_true]
        refine wpAny_bind (wpAny_rule ?_)
        rw [if_neg (by simp)]
        exact wpAny_pure hr
      · simp only [he, hh, if_true]
        refine wpAny_bind (wpAny_dictEpoch ho hd (wpAny_bind (L.cmp e (Array.mem_of_getElem? he) hh _ (wpAny_bind (wpAny_dictEpoch ho hd ?_)))))
        rw [if_neg ne, hs, if_pos rfl, if_neg (by simp)]
        refine wpAny_bind (wpAny_rule ?_)
        by_cases few : ((pls es h).filterMap fun i => es[i]?.map (·.key)).length < 2
        · rw [if_pos few]
          exact wpAny_pure r1
        · rw [if_neg few]
          exact wpAny_pure r2
    · rw [if_neg hone]
      refine wpAny_bind (tell_no L told ?_)
      rw [if_neg (by simp)]
      refine wpAny_bind (turns L (fun i e hit R he hh hs hr => ?_) (fun i e R he hh hs r1 r2 => ?_) (fun z => wpAny_pure (hnone z)) fun i e he hh hs => ⟨wpAny_pure (hsome i e he hh hs), wpAny_pure (hsome i e he hh hs)⟩)
      · simp only [he, hh, if_true]
        refine wpAny_bind (wpAny_dictEpoch ho hd (wpAny_bind (L.cmp e (Array.mem_of_getElem? he) hh _ (wpAny_bind (wpAny_dictEpoch ho hd ?_)))))
        rw [if_neg ne, hs, if_neg Bool.false_ne_true]
        refine wpAny_bind (wpAny_rule ?_)
        rw [if_neg (by simp)]
        exact wpAny_pure hr
      · simp only [he, hh, if_true]
        refine wpAny_bind (wpAny_dictEpoch ho hd (wpAny_bind (L.cmp e (Array.mem_of_getElem? he) hh _ (wpAny_bind (wpAny_dictEpoch ho hd ?_)))))
        rw [if_neg ne, hs, if_pos rfl, if_neg (by simp)]
        refine wpAny_bind (wpAny_rule ?_)
        by_cases few : ((pls es h).filterMap fun i => es[i]?.map (·.key)).length < 2
        · rw [if_pos few]
          exact wpAny_pure r1
        · rw [if_neg few]
          exact wpAny_pure r2
/-- the search of the text at the front -/
theorem find_front {e0 : DictEntry} {x : Str} {t t0 : Tok} (ho : s.heap.get? d = some o) (hd : o.data = .dict es ep) (L : Look P w A E s es (.str x t) h same) (h0 : es[0]? = some e0) (k0 : e0.key = .str x t0) (hh0 : (e0.hash == h) = true) (s0 : same e0 = true) (q : Q (some 0) s) : wpAny (model P w) A (dictFind d (.str x t) h) Q E s := by
  have told : ∀ v ∈ (pls es h).filterMap (fun i => es[i]?.map (·.key)), ∃ e ∈ es, v = e.key := fun v hv => by
    obtain ⟨i, _, q⟩ := List.mem_filterMap.mp hv
    cases q2 : es[i]? with
    | none =>
      rw [q2] at q
      cases q
    | some e =>
      rw [q2] at q
      cases q
      exact ⟨e, Array.mem_of_getElem? q2, rfl⟩
  have ne : ¬ ((ep != ep) = true) := by simp
  have is0 : ∀ (i : Nat) (e : DictEntry), es[i]? = some e → (e.hash == h) = true → same e = true → i = 0 := fun i e h1 h2 h3 => L.one i 0 e e0 h1 h0 h2 hh0 h3 s0
  unfold dictFind
  refine wpAny_holding ?_
  refine wpAny_bind (wpAny_dictEntries ho hd ?_)
  dsimp only
  by_cases hall : (es.all fun e => isExactStrKey e.key) = true
  · rw [if_pos hall]
    unfold foundByValue
    have hz : 0 < es.size := (Array.getElem?_eq_some_iff.mp h0).1
    have e00 : es[0] = e0 := (Array.getElem?_eq_some_iff.mp h0).2
    have fi : es.findIdx? (fun e => e.key.isStr x) = some 0 := by
      rw [Array.findIdx?_eq_some_iff_getElem]
      refine ⟨hz, ?_, fun j hj => absurd hj (Nat.not_lt_zero _)⟩
      rw [e00, k0]
      simp [Value.isStr]
    rw [fi]
    simp only [h0]
    refine wpAny_bind (wpAny_dictEpoch ho hd (wpAny_bind (L.cmp e0 (Array.mem_of_getElem? h0) hh0 _ (wpAny_bind (wpAny_dictEpoch ho hd ?_)))))
    rw [if_neg ne, s0, if_pos rfl]
    exact wpAny_bind (wpAny_rule (wpAny_pure q))
  · rw [if_neg hall]
    by_cases hval : (Value.str x t :: (pls es h).filterMap fun i => es[i]?.map (·.key)).all carriedByValue = true
    · rw [if_pos hval]
      unfold dictWalkPlain
      refine wpAny_bind ?_
      refine wpAny_forIn_list _ (fun rest b u => u = s ∧ b = (none, ()) ∧ 0 ∈ rest ∧ ∀ i ∈ rest, i ∈ pls es h) _ (fun i rest b u z => ?_) (fun b u z => ?_) _ _ ⟨rfl, rfl, pls_mem.mpr ⟨e0, h0, hh0⟩, fun i hi => hi⟩
      · obtain ⟨rfl, rfl, z1, z2⟩ := z
        obtain ⟨e, he, hh⟩ := pls_mem.mp (z2 i List.mem_cons_self)
        simp only [he, hh, if_true]
        refine wpAny_bind (wpAny_dictEpoch ho hd (wpAny_bind (L.cmp e (Array.mem_of_getElem? he) hh _ (wpAny_bind (wpAny_dictEpoch ho hd ?_)))))
        rw [if_neg ne]
        cases hs : same e with
        | true =>
          rw [if_pos rfl]
          rw [is0 i e he hh hs]
          exact wpAny_bind (wpAny_rule (wpAny_pure (wpAny_pure q)))
        | false =>
          rw [if_neg Bool.false_ne_true]
          refine wpAny_bind (wpAny_rule (wpAny_pure ⟨rfl, rfl, ?_, fun j hj => z2 j (List.mem_cons_of_mem _ hj)⟩))
          rcases List.mem_cons.mp z1 with z1 | z1
          · rw [← z1, h0] at he
            cases he
            rw [s0] at hs
            cases hs
          · exact z1
      · obtain ⟨rfl, rfl, z1, _⟩ := z
        exact absurd z1 List.not_mem_nil
    · rw [if_neg hval]
      by_cases hone : (((pls es h).filterMap fun i => es[i]?.map (·.key)) == [Value.str x t]) = true
      · rw [if_pos hone]
        refine wpAny_bind (wpAny_pure ?_)
        rw [if_neg (by simp)]
        refine wpAny_bind (turns L (fun i e hit R he hh hs hr => ?_) (fun i e R he hh hs r1 r2 => ?_) (fun z => ?_) fun i e he hh hs => ?_)
        · simp only [he, hh, if_true]
          refine wpAny_bind (wpAny_dictEpoch ho hd (wpAny_bind (L.cmp e (Array.mem_of_getElem? he) hh _ (wpAny_bind (wpAny_dictEpoch ho hd ?_)))))
          rw [if_neg ne, hs, if_neg Bool.false_ne_true]
          refine wpAny_bind (wpAny_rule ?_)
          rw [if_neg (by simp)]
          exact wpAny_pure hr
        · simp only [he, hh, if_true]
          refine wpAny_bind (wpAny_dictEpoch ho hd (wpAny_bind (L.cmp e (Array.mem_of_getElem? he) hh _ (wpAny_bind (wpAny_dictEpoch ho hd ?_)))))
          rw [if_neg ne, hs, if_pos rfl, if_neg (by simp)]
          refine wpAny_bind (wpAny_rule ?_)
          by_cases few : ((pls es h).filterMap fun i => es[i]?.map (·.key)).length < 2
          · rw [if_pos few]
            exact wpAny_pure r1
          · rw [if_neg few]
            exact wpAny_pure r2
        · have := z 0 e0 h0 hh0
          rw [s0] at this
          cases this
        · rw [is0 i e he hh hs]
          exact ⟨wpAny_pure q, wpAny_pure q⟩
      · rw [if_neg hone]
        refine wpAny_bind (tell_no L told ?_)
        rw [if_neg (by simp)]
        refine wpAny_bind (turns L (fun i e hit R he hh hs hr => ?_) (fun i e R he hh hs r1 r2 => ?_) (fun z => ?_) fun i e he hh hs => ?_)
        · simp only [he, hh, if_true]
          refine wpAny_bind (wpAny_dictEpoch ho hd (wpAny_bind (L.cmp e (Array.mem_of_getElem? he) hh _ (wpAny_bind (wpAny_dictEpoch ho hd ?_)))))
          rw [if_neg ne, hs, if_neg Bool.false_ne_true]
          refine wpAny_bind (wpAny_rule ?_)
          rw [if_neg (by simp)]
          exact wpAny_pure hr
        · simp only [he, hh, if_true]
          refine wpAny_bind (wpAny_dictEpoch ho hd (wpAny_bind (L.cmp e (Array.mem_of_getElem? he) hh _ (wpAny_bind (wpAny_dictEpoch ho hd ?_)))))
          rw [if_neg ne, hs, if_pos rfl, if_neg (by simp)]
          refine wpAny_bind (wpAny_rule ?_)
          by_cases few : ((pls es h).filterMap fun i => es[i]?.map (·.key)).length < 2
          · rw [if_pos few]
            exact wpAny_pure r1
          · rw [if_neg few]
            exact wpAny_pure r2
        · have := z 0 e0 h0 hh0
          rw [s0] at this
          cases this
        · rw [is0 i e he hh hs]
          exact ⟨wpAny_pure q, wpAny_pure q⟩
end
end Pm
set_option pp.maxSteps 1000
namespace Pm
open PySem PySem.Spec PyProof.Rows L2
abbrev PK := Int × Int
abbrev lk (k : PK) : List Key := [.inl k.1, .inl k.2]
theorem lk_inj {a b : PK} (h : lk a = lk b) : a = b := by
  obtain ⟨a1, a2⟩ := a
  obtain ⟨b1, b2⟩ := b
  simp [lk] at h
  rw [h.1, h.2]
section
variable (P : Program) (w : World)
abbrev tk := tupleKind (mixKind P w)
def ent (x : PK × Addr × Bool) : DictEntry := ⟨(tk P w).hash (lk x.1), .ref x.2.1, .bool x.2.2⟩
def front (t : Tok) (v : Value) : DictEntry := ⟨(mixKind P w).hash (.inr "melody"), .str "melody" t, v⟩
/-- the entries: the text, then pairs -/
structure Rows (h : Heap) (es : Array DictEntry) (t : Tok) (v0 : Value) (xs : List (PK × Addr × Bool)) : Prop where
  all : es.toList = front P w t v0 :: xs.map (ent P w)
  is : ∀ x ∈ xs, (tk P w).is h (lk x.1) x.2.1
  nd : (xs.map (·.1)).Nodup
end
section
variable {P : Program} {w : World} {A : Around} {E : Value → Shared → Prop} {s : Shared} {es : Array DictEntry} {t : Tok} {v0 : Value} {xs : List (PK × Addr × Bool)}
theorem Rows.toks (r : Rows P w s.heap es t v0 xs) (n : Nat) : Rows P w ({ s with toks := n } : Shared).heap es t v0 xs := r
theorem Rows.mem (r : Rows P w s.heap es t v0 xs) {e : DictEntry} (h : e ∈ es) : e = front P w t v0 ∨ ∃ x ∈ xs, e = ent P w x := by
  have : e ∈ es.toList := Array.mem_toList_iff.mpr h
  rw [r.all] at this
  rcases List.mem_cons.mp this with z | z
  · exact .inl z
  · obtain ⟨x, hx, q⟩ := List.mem_map.mp z
    exact .inr ⟨x, hx, q.symm⟩
theorem Rows.at0 (r : Rows P w s.heap es t v0 xs) : es[0]? = some (front P w t v0) := by
  rw [← Array.getElem?_toList, r.all]
  rfl
theorem Rows.atS (r : Rows P w s.heap es t v0 xs) (i : Nat) : es[i + 1]? = (xs[i]?).map (ent P w) := by
  rw [← Array.getElem?_toList, r.all, List.getElem?_cons_succ, List.getElem?_map]
theorem isTuple {k : List Key} {a : Addr} {h : Heap} (x : (tk P w).is h k a) : ∃ its, h.IsTuple a its := by
  obtain ⟨o, its, n, h1, h2, h3, _⟩ := x
  exact ⟨its, o, h1, h2, n, h3⟩
/-- the pair sought -/
def sameP (xs : List (PK × Addr × Bool)) (k : PK) (e : DictEntry) : Bool := match e.key with
  | .ref c => xs.any fun x => decide (x.2.1 = c) && decide (x.1 = k)
  | _ => false
theorem sameP_ent (r : Rows P w s.heap es t v0 xs) {x : PK × Addr × Bool} (hx : x ∈ xs) (k : PK) : sameP xs k (ent P w x) = decide (x.1 = k) := by
  show (xs.any fun y => decide (y.2.1 = x.2.1) && decide (y.1 = k)) = _
  rw [Bool.eq_iff_iff, List.any_eq_true]
  simp only [Bool.and_eq_true, decide_eq_true_eq]
  constructor
  · rintro ⟨y, hy, h1, h2⟩
    have a1 := r.is y hy
    rw [h1] at a1
    have := lk_inj ((tk P w).inj a1 (r.is x hx))
    rw [← this]
    exact h2
  · intro h
    exact ⟨x, hx, rfl, h⟩
theorem look_pair (hu : A.units + 1 < cLine) (r : Rows P w s.heap es t v0 xs) {k : PK} {b : Addr} (hb : (tk P w).is s.heap (lk k) b) : Look P w A E s es (.ref b) ((tk P w).hash (lk k)) (sameP xs k) := by
  have hu0 : A.units < cLine := by omega
  refine ⟨fun e he hh Q q => ?_, fun Q q => (tk P w).quiet hb q, fun e he Q q => ?_, fun i j e f h1 h2 h3 h4 h5 h6 => ?_⟩
  · rcases r.mem he with z | ⟨x, hx, z⟩
    · subst z
      obtain ⟨its, hi⟩ := isTuple hb
      exact SeqAt.EqAt.str_tuple _ _ hi hu0 P w E Q q
    · rw [z, sameP_ent r hx] at q
      rw [z]
      refine (tk P w).eqBool (x := lk x.1) (y := lk k) hu0 (r.is x hx) hb ?_
      have e1 : decide (lk x.1 = lk k) = decide (x.1 = k) := by
        rw [decide_eq_decide]
        exact ⟨lk_inj, fun z => by rw [z]⟩
      rw [e1]
      exact q
  · rcases r.mem he with z | ⟨x, hx, z⟩
    · subst z
      show wpAny _ _ (eqIsQuiet 8 (.str "melody" t)) Q E s
      rw [eqIsQuiet_byValue 8 (v := .str "melody" t) rfl]
      exact wpAny_pure q
    · subst z
      exact (tk P w).quiet (r.is x hx) q
  · have g : ∀ i e, es[i]? = some e → sameP xs k e = true → ∃ m x, i = m + 1 ∧ xs[m]? = some x ∧ x.1 = k := fun i e q1 q2 => by
      cases i with
      | zero =>
        rw [r.at0] at q1
        cases q1
        cases q2
      | succ m =>
        rw [r.atS] at q1
        obtain ⟨x, hx, q3⟩ := Option.map_eq_some_iff.mp q1
        rw [← q3, sameP_ent r (List.mem_of_getElem? hx)] at q2
        exact ⟨m, x, rfl, hx, of_decide_eq_true q2⟩
    obtain ⟨m, x, rfl, hx, ex⟩ := g i e h1 h5
    obtain ⟨n, y, rfl, hy, ey⟩ := g j f h2 h6
    have a1 : (xs.map (·.1))[m]? = some k := by rw [List.getElem?_map, hx, ← ex]; rfl
    have a2 : (xs.map (·.1))[n]? = some k := by rw [List.getElem?_map, hy, ← ey]; rfl
    rw [(List.getElem?_inj (List.getElem?_eq_some_iff.mp a1).1 r.nd).mp (a1.trans a2.symm)]
def sameS (e : DictEntry) : Bool := match e.key with
  | .str _ _ => true
  | _ => false
theorem look_text (hu : A.units + 1 < cLine) (r : Rows P w s.heap es t v0 xs) (u : Tok) : Look P w A E s es (.str "melody" u) ((mixKind P w).hash (.inr "melody")) sameS := by
  have hu0 : A.units < cLine := by omega
  refine ⟨fun e he hh Q q => ?_, fun Q q => ?_, fun e he Q q => ?_, fun i j e f h1 h2 h3 h4 h5 h6 => ?_⟩
  · rcases r.mem he with z | ⟨x, hx, z⟩
    · subst z
      refine SeqAt.EqAt.str_str "melody" t "melody" u P w E Q ?_
      have : (("melody" : Str) == "melody") = true := by decide
      rw [this]
      exact q
    · subst z
      obtain ⟨its, hi⟩ := isTuple (r.is x hx)
      exact SeqAt.EqAt.tuple_str _ _ hi hu0 P w E Q q
  · rw [eqIsQuiet_byValue 8 (v := .str "melody" u) rfl]
    exact wpAny_pure q
  · rcases r.mem he with z | ⟨x, hx, z⟩
    · subst z
      show wpAny _ _ (eqIsQuiet 8 (.str "melody" t)) Q E s
      rw [eqIsQuiet_byValue 8 (v := .str "melody" t) rfl]
      exact wpAny_pure q
    · subst z
      exact (tk P w).quiet (r.is x hx) q
  · have g : ∀ i e, es[i]? = some e → sameS e = true → i = 0 := fun i e q1 q2 => by
      cases i with
      | zero => rfl
      | succ m =>
        rw [r.atS] at q1
        obtain ⟨x, hx, q3⟩ := Option.map_eq_some_iff.mp q1
        rw [← q3] at q2
        cases q2
    rw [g i e h1 h5, g j f h2 h6]
def mv (xs : List (PK × Addr × Bool)) (k : PK) : Option Bool := (xs.find? fun x => decide (x.1 = k)).map (·.2.2)
theorem mv_none {k : PK} (h : ∀ x ∈ xs, ¬ x.1 = k) : mv xs k = none := by
  unfold mv
  rw [List.find?_eq_none.mpr fun x hx => by simpa using h x hx]
  rfl
theorem mv_some {k : PK} : ∀ {xs : List (PK × Addr × Bool)} {x : PK × Addr × Bool}, (xs.map (·.1)).Nodup → x ∈ xs → x.1 = k → mv xs k = some x.2.2
  | [], _, _, h, _ => nomatch h
  | y :: r, x, nd, h, e => by
    rw [List.map_cons, List.nodup_cons] at nd
    unfold mv
    by_cases q : y.1 = k
    · rw [List.find?_cons_of_pos (by simpa using q)]
      rcases List.mem_cons.mp h with z | z
      · rw [z]
        rfl
      · exact absurd (List.mem_map.mpr ⟨x, z, e.trans q.symm⟩) nd.1
    · rw [List.find?_cons_of_neg (by simpa using q)]
      rcases List.mem_cons.mp h with z | z
      · rw [z] at e
        exact absurd e q
      · exact mv_some nd.2 z e
variable {d b : Addr} {o : Obj} {ep : Nat} {k : PK}
theorem find_pair (hu : A.units + 1 < cLine) (ho : s.heap.get? d = some o) (hd : o.data = .dict es ep) (r : Rows P w s.heap es t v0 xs) (hb : (tk P w).is s.heap (lk k) b) {Q : Option Nat → Shared → Prop} (h0 : (∀ x ∈ xs, ¬ x.1 = k) → Q none s) (h1 : ∀ i x, xs[i]? = some x → x.1 = k → Q (some (i + 1)) s) :
    wpAny (model P w) A (dictFind d (.ref b) ((tk P w).hash (lk k))) Q E s := by
  have e00 : ∀ x ∈ xs, x.1 = k → ∃ i, es[i + 1]? = some (ent P w x) ∧ xs[i]? = some x := fun x hx e => by
    obtain ⟨i, hi⟩ := List.mem_iff_getElem?.mp hx
    exact ⟨i, by rw [r.atS, hi]; rfl, hi⟩
  refine find_slow ho hd (look_pair hu r hb) ⟨b, rfl⟩ (by simp [carriedByValue]) (fun e he => ?_) (fun no => h0 fun x hx e => ?_) (fun i e he hh hs => ?_)
  · rcases r.mem he with z | ⟨x, hx, z⟩
    · subst z
      rfl
    · subst z
      by_cases q : x.2.1 = b
      · have a1 := r.is x hx
        rw [q] at a1
        have := (tk P w).inj a1 hb
        have e1 : (ent P w x).hash = (tk P w).hash (lk k) := by
          show (tk P w).hash (lk x.1) = _
          rw [this]
        rw [e1]
        simp
      · have : ((ent P w x).key == Value.ref b) = false := by
          show (Value.ref x.2.1 == Value.ref b) = false
          simpa using q
        rw [this]
        rfl
  · obtain ⟨i, hi, _⟩ := e00 x hx e
    have h2 : ((ent P w x).hash == (tk P w).hash (lk k)) = true := by
      show ((tk P w).hash (lk x.1) == _) = true
      rw [e]
      simp
    have := no _ _ hi h2
    rw [sameP_ent r hx, decide_eq_true e] at this
    cases this
  · cases i with
    | zero =>
      rw [r.at0] at he
      cases he
      cases hs
    | succ m =>
      rw [r.atS] at he
      obtain ⟨x, hx, q3⟩ := Option.map_eq_some_iff.mp he
      rw [← q3, sameP_ent r (List.mem_of_getElem? hx)] at hs
      exact h1 m x hx (of_decide_eq_true hs)
theorem get_pair (hu : A.units + 1 < cLine) (ho : s.heap.get? d = some o) (hd : o.data = .dict es ep) (r : Rows P w s.heap es t v0 xs) (hb : (tk P w).is s.heap (lk k) b) {Q : Option Value → Shared → Prop} (q : ∀ n, Q ((mv xs k).map Value.bool) { s with toks := n }) : wpAny (model P w) A (dictGet d (.ref b)) Q E s := by
  have hu0 : A.units < cLine := by omega
  unfold dictGet
  refine wpAny_holding (wpAny_bind ((tk P w).pyHash hu0 hb (wpAny_bind (find_pair (s := { s with toks := s.toks + (tk P w).draws (lk k) }) hu ho hd r hb (fun no => ?_) fun i x hx e => ?_))))
  · have := q (s.toks + (tk P w).draws (lk k))
    rw [mv_none no] at this
    exact wpAny_pure this
  · have := q (s.toks + (tk P w).draws (lk k))
    rw [mv_some r.nd (List.mem_of_getElem? hx) e] at this
    refine wpAny_bind (wpAny_dictEntries (s := { s with toks := s.toks + (tk P w).draws (lk k) }) ho hd ?_)
    rw [r.atS, hx]
    exact wpAny_pure this
theorem get_text (hu : A.units + 1 < cLine) (ho : s.heap.get? d = some o) (hd : o.data = .dict es ep) (r : Rows P w s.heap es t v0 xs) {u : Tok} {Q : Option Value → Shared → Prop} (q : ∀ n, Q (some v0) { s with toks := n }) : wpAny (model P w) A (dictGet d (.str "melody" u)) Q E s := by
  unfold dictGet
  refine wpAny_holding (wpAny_bind ((mixKind P w).pyHash (k := .inr "melody") (mixKind_str P w "melody" u) (wpAny_bind (find_front (same := sameS) (s := { s with toks := s.toks + 1 }) (e0 := front P w t v0) ho hd (look_text (s := { s with toks := s.toks + 1 }) hu r u) r.at0 rfl (by simp [front]) rfl ?_))))
  refine wpAny_bind (wpAny_dictEntries (s := { s with toks := s.toks + 1 }) ho hd ?_)
  rw [r.at0]
  exact wpAny_pure (q _)
theorem set_pair {v : Bool} (hu : A.units + 1 < cLine) (ho : s.heap.get? d = some o) (hx : o.ExactDict) (hd : o.data = .dict es ep) (r : Rows P w s.heap es t v0 xs) (hb : (tk P w).is s.heap (lk k) b) (hz : xs.length < 100000) (new : ∀ x ∈ xs, ¬ x.1 = k) {Q : Unit → Shared → Prop}
    (q : ∀ h' n o' es' ep', h'.get? d = some o' → o'.ExactDict → o'.data = .dict es' ep' → Rows P w h' es' t v0 (xs ++ [(k, b, v)]) → Heap.SameBut d s.heap h' → Q () { s with heap := h', toks := n }) : wpAny (model P w) A (dictSet d (.ref b) (.bool v)) Q E s := by
  have hu0 : A.units < cLine := by omega
  have hes : es.size ≤ sizeLine := by
    have : es.size = xs.length + 1 := by rw [← Array.length_toList, r.all]; simp
    rw [this]
    exact Nat.le_trans (by omega : xs.length + 1 ≤ 100000) (by decide)
  unfold dictSet
  refine wpAny_holding (wpAny_bind ((tk P w).pyHash hu0 hb ?_))
  unfold dictSetHashed
  refine wpAny_holding (wpAny_bind (find_pair (s := { s with toks := s.toks + (tk P w).draws (lk k) }) hu ho hd r hb (fun no => ?_) fun i x hx e => absurd e (new x (List.mem_of_getElem? hx))))
  refine wpAny_bind (wpAny_rule (wpAny_updateDictKeys (hz := hes) (s := { s with toks := s.toks + (tk P w).draws (lk k) }) ho hd ?_))
  have sb : Heap.SameBut d s.heap (s.heap.update d (Obj.mapDictKeys (·.push ⟨(tk P w).hash (lk k), .ref b, .bool v⟩))) := Heap.SameBut.update ..
  refine q _ _ _ _ _ (Heap.get?_update_self _ ho (Obj.isFreed_of_dict (Obj.data_mapDictKeys hd _))) (hx.mapDictKeys _) (Obj.data_mapDictKeys hd _) ⟨?_, fun x hx => ?_, ?_⟩ sb
  · rw [Array.toList_push, r.all, List.map_append]
    rfl
  · rcases List.mem_append.mp hx with hx | hx
    · exact (tk P w).keeps (r.is x hx) ho hd sb
    · rw [List.mem_singleton.mp hx]
      exact (tk P w).keeps hb ho hd sb
  · rw [List.map_append, List.nodup_append]
    refine ⟨r.nd, by simp, fun x hx y hy => ?_⟩
    obtain ⟨z, hz, rfl⟩ := List.mem_map.mp hx
    obtain rfl := List.mem_singleton.mp hy
    exact new z hz
end
end Pm
namespace Pm
open PySem PySem.Spec PyProof.Rows L2 Pl
open Evl (Ex ex_t ex_l)
/-- a dict, by its raw entries -/
def RawD (a : Addr) (es : Array DictEntry) : HO := .ext fun h => (a == sysModules) = false ∧ ∃ o ep, h.get? a = some o ∧ o.ExactDict ∧ o.data = .dict es ep
theorem rawD_ok {P : Program} {w : World} {H : Hp} {h : Heap} {a : Addr} {es : Array DictEntry} {o : Obj} {ep : Nat} (h0 : (a == sysModules) = false) (h1 : h.get? a = some o) (h2 : o.ExactDict) (h3 : o.data = .dict es ep) : ObjOk P w H h a (RawD a es) :=
  ⟨⟨h0, o, ep, h1, h2, h3⟩, ⟨o, h1⟩, fun h1 h2 ⟨a0, o, ep, a1, a2, a3⟩ k => ⟨a0, o, ep, k o a1, a2, a3⟩⟩
/-- what the entries are, over what is frozen -/
structure Ents (P : Program) (w : World) (K : PySem.W.Frag) (G : Hp) (es : Array DictEntry) (t : Tok) (v0 : Value) (xs : List (PK × Addr × Bool)) : Prop where
  all : es.toList = front P w t v0 :: xs.map (ent P w)
  key : ∀ x ∈ xs, SqT K G x.2.1 [.int x.1.1, .int x.1.2]
  nd : (xs.map (·.1)).Nodup
theorem Ents.mono {P : Program} {w : World} {K : PySem.W.Frag} {G G' : Hp} {es : Array DictEntry} {t : Tok} {v0 : Value} {xs : List (PK × Addr × Bool)} (r : Ents P w K G es t v0 xs) (e : Ex G G') : Ents P w K G' es t v0 xs := ⟨r.all, fun x hx => ex_t e (r.key x hx), r.nd⟩
section
variable {X : Cx} {pins : List (Addr × Obj)} {σ : L2.St} {H : Hp} {s : Shared} {es : Array DictEntry} {t : Tok} {v0 : Value} {xs : List (PK × Addr × Bool)}
theorem is_of {k : PK} {b : Addr} (I : Inv X pins σ H s) (h : SqT X.K H b [.int k.1, .int k.2]) : (tk X.prog X.w).is s.heap (lk k) b := by
  obtain ⟨its, r, ⟨o, h1, h2, n, h3⟩, _⟩ := I.tuple h
  exact ⟨o, its.toArray, n, h1, h2, h3, by simpa using items_are (ks := lk k) r⟩
theorem rows_of (I : Inv X pins σ H s) (r : Ents X.prog X.w X.K H es t v0 xs) : Rows X.prog X.w s.heap es t v0 xs := ⟨r.all, fun x hx => is_of I (r.key x hx), r.nd⟩
theorem raw_of {a : Addr} (I : Inv X pins σ H s) (h : H a = some (RawD a es)) : (a == sysModules) = false ∧ ∃ o ep, s.heap.get? a = some o ∧ o.ExactDict ∧ o.data = .dict es ep := by
  obtain ⟨q, _⟩ := I.hok a _ h
  exact q
/-- p not in known -/
def rNi (P : Program) (w : World) (K : PySem.W.Frag) : R2 := fun y x H Q => ∃ a es t v0 xs b k, x = .ref a ∧ y = .ref b ∧ H a = some (RawD a es) ∧ Ents P w K H es t v0 xs ∧ SqT K H b [.int k.1, .int k.2] ∧ Q (.bl (!(mv xs k).isSome)) H
theorem op_ni (hu : X.A.units + 2 < cLine) : OpR X (compareOp .NotIn) (rNi X.prog X.w X.K) := by
  intro pins s σ H y x u v Q I ry rx h
  obtain ⟨a, es, t, v0, xs, b, k, rfl, rfl, hH, r, hb, q⟩ := h
  obtain rfl : v = Value.ref a := rx
  obtain rfl : u = Value.ref b := ry
  obtain ⟨h0, o, ep, ho, hx, hd⟩ := raw_of I hH
  have hT : s.TypeIs (.ref a) "dict" := ⟨o, ho, hx.1⟩
  have hu1 : X.A.in1.units + 1 < cLine := by
    show X.A.units + 1 + 1 < cLine
    omega
  show wpAny _ _ (do return Value.bool (!(← contains (.ref a) (.ref b)))) _ _ s
  refine wpAny_bind ?_
  unfold contains
  refine wpAny_holding (wpAny_bind (wpAny_specialOf hT slot_dict_contains.lookup ?_))
  rw [if_neg (by rw [show (some (Value.builtin "dict.__contains__") == some Value.none) = false by decide]; exact Bool.false_ne_true)]
  refine wpAny_bind (wpAny_callSpecialUnlessNone?_slot (name := Str.ofString "__contains__") hT slot_dict_contains (wpAny_call_entry slot_dict_contains hT entry_dict_contains ?_ (args_dict_contains _ _)))
  show wpAny _ _ (dictGet a (.ref b) >>= _) _ _ _
  refine wpAny_bind (get_pair hu1 ho hd (rows_of I r) (is_of I hb) fun n => ?_)
  cases hf : mv xs k with
  | some z =>
    rw [hf] at q
    show wpAny _ _ (ret (.bool true)) _ _ _
    exact wpAny_pure ⟨_, rfl, wpAny_truthy_bool (wpAny_pure ⟨.bl (!true), H, I.tok n, rfl, q⟩)⟩
  | none =>
    rw [hf] at q
    show wpAny _ _ (Builtin.Dict.pendingKey? a (.ref b) >>= _) _ _ _
    refine wpAny_bind (wpAny_pendingKey_other h0 ?_)
    exact wpAny_pure ⟨_, rfl, wpAny_truthy_bool (wpAny_pure ⟨.bl (!false), H, I.tok n, rfl, q⟩)⟩
/-- known[p] -/
def rGp (P : Program) (w : World) (K : PySem.W.Frag) : R2 := fun x y H Q => ∃ a es t v0 xs b k z, x = .ref a ∧ y = .ref b ∧ H a = some (RawD a es) ∧ Ents P w K H es t v0 xs ∧ SqT K H b [.int k.1, .int k.2] ∧ mv xs k = some z ∧ Q (.bl z) H
theorem ix_gp (hu : X.A.units + 2 < cLine) : IxR X (rGp X.prog X.w X.K) := by
  intro value slice pins s σ H x y v u Q I rx ry h hs
  obtain ⟨a, es, t, v0, xs, b, k, z, rfl, rfl, hH, r, hb, hz, q⟩ := h
  obtain rfl : v = Value.ref a := rx
  obtain rfl : u = Value.ref b := ry
  obtain ⟨h0, o, ep, ho, hx, hd⟩ := raw_of I hH
  have hT : s.TypeIs (.ref a) "dict" := ⟨o, ho, hx.1⟩
  have hu1 : X.A.in1.units + 1 < cLine := by
    show X.A.units + 1 + 1 < cLine
    omega
  refine tail_any hT slot_dict_getitem.lookup ?_ hs
  unfold getItem
  refine wpAny_holding (wpAny_bind (wpAny_sequenceKey hT (by decide) (wpAny_bind (wpAny_callSpecial?_slot (name := Str.ofString "__getitem__") hT slot_dict_getitem (wpAny_call_entry slot_dict_getitem hT entry_dict_getitem ?_ (args_dict_getitem _ _))))))
  show wpAny _ _ (dictGet a (.ref b) >>= _) _ _ _
  refine wpAny_bind (get_pair hu1 ho hd (rows_of I r) (is_of I hb) fun n => ?_)
  rw [hz]
  exact wpAny_pure ⟨_, rfl, wpAny_pure ⟨.bl z, H, I.tok n, rfl, q⟩⟩
/-- known['melody'] -/
def rGt (P : Program) (w : World) (K : PySem.W.Frag) : R2 := fun x y H Q => ∃ a es t v0 xs z, x = .ref a ∧ y = .str "melody" ∧ H a = some (RawD a es) ∧ Ents P w K H es t v0 xs ∧ RelV z v0 ∧ Q z H
theorem ix_gt (hu : X.A.units + 2 < cLine) : IxR X (rGt X.prog X.w X.K) := by
  intro value slice pins s σ H x y v u Q I rx ry h hs
  obtain ⟨a, es, t, v0, xs, z, rfl, rfl, hH, r, hz, q⟩ := h
  obtain rfl : v = Value.ref a := rx
  obtain ⟨u1, rfl⟩ := ry
  obtain ⟨h0, o, ep, ho, hx, hd⟩ := raw_of I hH
  have hT : s.TypeIs (.ref a) "dict" := ⟨o, ho, hx.1⟩
  have hu1 : X.A.in1.units + 1 < cLine := by
    show X.A.units + 1 + 1 < cLine
    omega
  refine tail_any hT slot_dict_getitem.lookup ?_ hs
  unfold getItem
  refine wpAny_holding (wpAny_bind (wpAny_sequenceKey hT (by decide) (wpAny_bind (wpAny_callSpecial?_slot (name := Str.ofString "__getitem__") hT slot_dict_getitem (wpAny_call_entry slot_dict_getitem hT entry_dict_getitem ?_ (args_dict_getitem _ _))))))
  show wpAny _ _ (dictGet a (.str "melody" u1) >>= _) _ _ _
  refine wpAny_bind (get_text hu1 ho hd (rows_of I r) fun n => ?_)
  exact wpAny_pure ⟨_, rfl, wpAny_pure ⟨_, H, I.tok n, hz, q⟩⟩
/-- known[p] = z, p not in it -/
def rSt (P : Program) (w : World) (K : PySem.W.Frag) : TSet := fun x y v H Q => ∃ a es t v0 xs b k z, x = .ref a ∧ y = .ref b ∧ v = .bl z ∧ H a = some (RawD a es) ∧ Ents P w K H es t v0 xs ∧ SqT K H b [.int k.1, .int k.2] ∧ xs.length < 100000 ∧ (∀ x ∈ xs, ¬ x.1 = k) ∧
  ∀ es', es'.toList = front P w t v0 :: (xs ++ [(k, b, z)]).map (ent P w) → Q (upd H a (RawD a es'))
theorem set_mix (hu : X.A.units + 2 < cLine) : PSet X (rSt X.prog X.w X.K) := by
  intro pins s σ H x y v ov iv r0 Q I rx ry rv h
  obtain ⟨a, es, t, v0, xs, b, k, z, rfl, rfl, rfl, hH, r, hb, hz, hn, q⟩ := h
  obtain rfl : ov = Value.ref a := rx
  obtain rfl : iv = Value.ref b := ry
  obtain rfl : r0 = Value.bool z := rv
  obtain ⟨h0, o, ep, ho, hx, hd⟩ := raw_of I hH
  have hT : s.TypeIs (.ref a) "dict" := ⟨o, ho, hx.1⟩
  have hu1 : X.A.in1.units + 1 < cLine := by
    show X.A.units + 1 + 1 < cLine
    omega
  unfold setItem
  refine wpAny_holding (wpAny_bind (wpAny_sequenceKey hT (by decide) (wpAny_bind (wpAny_callSpecial?_slot (name := Str.ofString "__setitem__") hT slot_dict_setitem (wpAny_call_entry slot_dict_setitem hT entry_dict_setitem ?_ (args_dict_setitem _ _ _))))))
  show wpAny _ _ (Builtin.Dict.notOrdered "__setitem__" ⟨[.ref a, .ref b, .bool z], []⟩ >>= _) _ _ _
  refine wpAny_bind (wpAny_notOrdered_dict hT ?_)
  show wpAny _ _ (dictSet a (.ref b) (.bool z) >>= _) _ _ _
  refine wpAny_bind (set_pair hu1 ho hx hd (rows_of I r) (is_of I hb) hz hn fun h' n o' es' ep' e1 e2 e3 e4 e5 => wpAny_pure ⟨.none, rfl, wpAny_pure ⟨_, ?_, q es' e4.all⟩⟩)
  exact d_write I (by rw [hH]; exact True.intro) e5 ⟨o', e1⟩ (rawD_ok h0 e1 e2 e3)
end
/-! the same over slots -/
/-- known: what lies under the text, what under the pairs -/
def mixO (P : Program) (w : World) (m : PyData) (kvs : List (PK × Bool)) : Ow where
  p := fun K G a o => ∃ es t v0 u xs, o = RawD a es ∧ Ents P w K G es t v0 xs ∧ RelV u v0 ∧ Is K G u m ∧ kvs = xs.map fun x => (x.1, x.2.2)
  up := fun e ⟨es, t, v0, u, xs, h1, h2, h3, h4, h5⟩ => ⟨es, t, v0, u, xs, h1, h2.mono e, h3, h4.mono e, h5⟩
def mk (kvs : List (PK × Bool)) (k : PK) : Option Bool := (kvs.find? fun x => decide (x.1 = k)).map (·.2)
theorem mk_mv (k : PK) : ∀ xs : List (PK × Addr × Bool), mk (xs.map fun x => (x.1, x.2.2)) k = mv xs k
  | [] => rfl
  | x :: r => by
    have ih := mk_mv k r
    unfold mk mv at ih ⊢
    rw [List.map_cons]
    by_cases h : x.1 = k
    · rw [List.find?_cons_of_pos (by simpa using h), List.find?_cons_of_pos (by simpa using h)]
      rfl
    · rw [List.find?_cons_of_neg (by simpa using h), List.find?_cons_of_neg (by simpa using h)]
      exact ih
theorem tup2 {K : PySem.W.Frag} {G : Hp} {v : V} {i j : Int} (h : Is K G v (.tuple [.int i, .int j])) : ∃ b, v = .ref b ∧ SqT K G b [.int i, .int j] := by
  cases h with
  | tup h1 h2 =>
    cases h2 with
    | cons a b =>
      cases b with
      | cons b c =>
        cases a
        cases b
        cases c
        exact ⟨_, rfl, h1⟩
section
variable {X : Cx} {ρ : Rho} {a b e : Expr} {pos px : Pos} {D : En} {m : PyData} {kvs : List (PK × Bool)}
theorem tv_mixNi {i : Nat} {y : Str} {l : Addr} {k : PK} (hu : X.A.units + 2 < cLine) (ha : Ev X a ρ (.tuple [.int k.1, .int k.2])) (h : ρ[i]? = some (.obj l (mixO X.prog X.w m kvs))) (hN : X.N[i]? = some y := by rfl) (hv : Vis X.env.scope y := by first | exact Or.inl rfl | exact Or.inr (Or.inl rfl) | exact Or.inr (Or.inr rfl)) (hd : (y == ("__debug__" : Str)) = false := by decide)
    (hcd : (y == ("__classdict__" : Str)) = false := by decide) (hm : behindInMarks .NotIn (.Name y px) = false := by rfl) : Tv X (.Compare a [.NotIn] [.Name y px] pos) ρ (!(mk kvs k).isSome) := fun σ G H rel R kk =>
  tt_of (pt_cmpR (op_ni hu) pe_W (pe_var hN hv hd hcd) hm) (ha σ G H rel _ fun v d ρ1 G1 H1 r1 s1 i1 ⟨e1, e2⟩ => by
    subst e1
    subst e2
    obtain ⟨z1, _, u, z3, es, t, v0, u0, xs, rfl, z5, _, _, z8⟩ := r1.sl i _ h
    obtain ⟨p, rfl, hp⟩ := tup2 i1
    refine ⟨_, z1, l, es, t, v0, xs, p, k, rfl, rfl, z3, z5.mono r1.ex, ex_t r1.ex hp, ?_⟩
    rw [← mk_mv, ← z8]
    exact ⟨_, rfl, kk _ ρ1 G1 H1 r1 s1 ⟨rfl, rfl⟩⟩)
theorem ev_mixGp {i : Nat} {y : Str} {l : Addr} {k : PK} {z : Bool} (hu : X.A.units + 2 < cLine) (h : ρ[i]? = some (.obj l (mixO X.prog X.w m kvs))) (ha : Ev X a ρ (.tuple [.int k.1, .int k.2])) (hz : mk kvs k = some z) (hs : PlainIx a := by exact fun _ _ => rfl) (hN : X.N[i]? = some y := by rfl) (hv : Vis X.env.scope y := by first | exact Or.inl rfl | exact Or.inr (Or.inl rfl) | exact Or.inr (Or.inr rfl)) (hd : (y == ("__debug__" : Str)) = false := by decide)
    (hcd : (y == ("__classdict__" : Str)) = false := by decide) : Ev X (.Subscript (.Name y px) a pos) ρ (.bool z) := fun σ G H rel R kk => by
  obtain ⟨e0, _⟩ := rel.sl i _ h
  refine te_of (pe_ix (ix_gp hu) (pe_var hN hv hd hcd) pe_W hs) ⟨_, e0, ha σ G H rel _ fun v d ρ1 G1 H1 r1 s1 i1 ⟨e1, e2⟩ => ?_⟩
  subst e1
  subst e2
  obtain ⟨z1, _, u, z3, es, t, v0, u0, xs, rfl, z5, _, _, z8⟩ := r1.sl i _ h
  obtain ⟨p, rfl, hp⟩ := tup2 i1
  exact ⟨l, es, t, v0, xs, p, k, z, rfl, rfl, z3, z5.mono r1.ex, ex_t r1.ex hp, by rw [← mk_mv, ← z8]; exact hz, kk _ _ ρ1 G1 H1 r1 s1 (.bl z) ⟨rfl, rfl⟩⟩
theorem ev_mixGt {i : Nat} {y : Str} {l : Addr} {j2 ps} (hu : X.A.units + 2 < cLine) (h : ρ[i]? = some (.obj l (mixO X.prog X.w m kvs))) (hs : PlainIx (.Constant (.str "melody") j2 ps) := by exact fun _ _ => rfl) (hN : X.N[i]? = some y := by rfl) (hv : Vis X.env.scope y := by first | exact Or.inl rfl | exact Or.inr (Or.inl rfl) | exact Or.inr (Or.inr rfl)) (hd : (y == ("__debug__" : Str)) = false := by decide)
    (hcd : (y == ("__classdict__" : Str)) = false := by decide) : Ev X (.Subscript (.Name y px) (.Constant (.str "melody") j2 ps) pos) ρ m := fun σ G H rel R kk => by
  obtain ⟨e0, _, u, z3, es, t, v0, u0, xs, rfl, z5, z6, z7, z8⟩ := rel.sl i _ h
  exact te_of (pe_ix (ix_gt hu) (pe_var hN hv hd hcd) pe_str hs) ⟨_, e0, l, es, t, v0, xs, u0, rfl, rfl, z3, z5.mono rel.ex, z6, kk _ _ ρ G H rel .refl z7 ⟨rfl, rfl⟩⟩
/-- known[p] = e -/
theorem s_mixSt {i : Nat} {y : Str} {l : Addr} {k : PK} {z : Bool} {ps : Pos} (hu : X.A.units + 2 < cLine) (h : ρ[i]? = some (.obj l (mixO X.prog X.w m kvs))) (he : Ev X e ρ (.bool z)) (ha : Ev X b ρ (.tuple [.int k.1, .int k.2])) (few : kvs.length < 100000) (new : ∀ x ∈ kvs, ¬ x.1 = k) (q : D.nx (ρ.set i (.obj l (mixO X.prog X.w m (kvs ++ [(k, z)])))))
    (hN : X.N[i]? = some y := by rfl) (hv : Vis X.env.scope y := by first | exact Or.inl rfl | exact Or.inr (Or.inl rfl) | exact Or.inr (Or.inr rfl)) (hd : (y == ("__debug__" : Str)) = false := by decide) (hcd : (y == ("__classdict__" : Str)) = false := by decide)
    (hp : ∀ v, assign (.Subscript (.Name y px) b ps) X.env v = (do
      let ov ← holding [v] (eval (.Name y px) X.env)
      let iv ← holding [v, ov] (eval b X.env)
      standAt ps
      holding [v, ov, iv] (setItem ov iv v)
      release [v, ov, iv] []) := by intro _; rfl)
    (hs : swapsWithSole [.Subscript (.Name y px) b ps] e pos.line X.env = pure false := by rfl) (hw : swappedStores [.Subscript (.Name y px) b ps] e X.env = pure none := by rfl)
    (h1 : (assignEach [.Subscript (.Name y px) b ps] X.env).map (·.2) = [assign (.Subscript (.Name y px) b ps) X.env] := by rfl) : SvW X (.Assign [.Subscript (.Name y px) b ps] e pos) ρ D := fun σ G H rel T mm => by
  obtain ⟨e0, _⟩ := rel.sl i _ h
  refine ts_of (ps_asg pe_W (pg_sub (pe_var hN hv hd hcd) pe_W (set_mix hu) hp) hs hw h1) (he σ G H rel _ fun v d ρ1 G1 H1 r1 s1 i1 ⟨e1, e2⟩ => ⟨_, e0, ?_⟩)
  subst e1
  subst e2
  refine ha σ G1 H1 r1 _ fun w j ρ2 G2 H2 r2 s2 i2 ⟨e3, e4⟩ => ?_
  subst e3
  subst e4
  cases i1
  obtain ⟨z1, nG, u, z3, es, t, v0, u0, xs, rfl, z5, z6, z7, z8⟩ := r2.sl i _ h
  obtain ⟨p, rfl, hp2⟩ := tup2 i2
  refine ⟨l, es, t, v0, xs, p, k, z, rfl, rfl, rfl, z3, z5.mono r2.ex, ex_t r2.ex hp2, by rw [z8, List.length_map] at few; exact few, fun x hx hk => new (x.1, x.2.2) (by rw [z8]; exact List.mem_map.mpr ⟨x, hx, rfl⟩) hk, fun es' hes => ?_⟩
  have B : BSt l G2 H2 G2 (L2.upd H2 l (RawD l es')) := BSt.upd r2.ex nG
  have nd2 : ((xs ++ [(k, p, z)]).map (·.1)).Nodup := by
    rw [List.map_append, List.nodup_append]
    refine ⟨z5.nd, by simp, fun a ha b hb => ?_⟩
    obtain ⟨x, hx, rfl⟩ := List.mem_map.mp ha
    obtain rfl := List.mem_singleton.mp hb
    exact new (x.1, x.2.2) (by rw [z8]; exact List.mem_map.mpr ⟨x, hx, rfl⟩)
  obtain ⟨r3, s3⟩ := r2.swap (s' := .obj l (mixO X.prog X.w m (kvs ++ [(k, z)]))) h rfl B ⟨z1, nG, _, upd_same, es', t, v0, u0, xs ++ [(k, p, z)], rfl, ⟨hes, fun x hx => by
    rcases List.mem_append.mp hx with hx | hx
    · exact z5.key x hx
    · rw [List.mem_singleton.mp hx]
      exact hp2, nd2⟩, z6, z7, by rw [z8, List.map_append]; rfl⟩ rfl (by rw [upd_same]; exact nofun)
  exact mm.nx _ σ G2 _ r3 ((s1.trans s2).trans s3) q
/-- {'melody': e} -/
theorem eo_mix {ps : Pos} {j2} (hc : Ev X e ρ m) : EoW X (.Dict [some (.Constant (.str "melody") j2 ps)] [e] pos) ρ fun Φ ρ1 => Φ = mixO X.prog X.w m [] ∧ ρ1 = ρ := fun σ G H rel R kk => by
  refine ⟨fun pins s I => ?_⟩
  have hr := (pe_disp (X := X) (pos := pos) (keys := [some (.Constant (.str "melody") j2 ps)]) (values := [e]) (pps_cons pe_str pe_W pps_nil) rfl rfl (by simp) (by simp)).run pins s σ H (fun x H3 => ∃ p v, x = .ref p ∧ H3 p = some (.dK [(.inr "melody", v)]) ∧
    ∀ es t u, es.toList = [front X.prog X.w t u] → RelV v u → R (.ref p) (L2.upd H3 p (RawD p es))) I (fun p hp => ?_)
  · refine wpAny_mono hr (fun u s' hh => ?_) fun _ _ z => z
    obtain ⟨x, H3, I3, rx, p, v, rfl, hp, q⟩ := hh
    obtain ⟨_, h0, vs, r0, o, es, ep, ho, hx, hd, hk, hP, _⟩ := dk_of I3.hok hp
    have hes : ∃ t u, es.toList = [front X.prog X.w t u] ∧ RelV v u := by
      unfold KV at r0
      cases r0 with
      | @cons _ b _ _ h1 h2 =>
        cases h2
        obtain ⟨bk, bv⟩ := b
        obtain ⟨e1, e2⟩ := h1
        have e1 : (.inr "melody" : Key) = bk := e1
        subst e1
        generalize hl : es.toList = L at hP
        cases hP with
        | @cons en _ _ _ g1 g2 g3 =>
          cases g3
          rcases keyIs_shape (k := .inr "melody") (v := en.key) g1 with ⟨_, _, z, _⟩ | ⟨y, t, z, z2⟩
          · cases z
          · cases z
            have hin : en ∈ es := Array.mem_toList_iff.mp (by rw [hl]; simp)
            obtain ⟨k2, h3, h4⟩ := hk en hin
            have h5 : (mixKind X.prog X.w).is (.inr "melody") en.key = true := g1
            have h6 := (mixKind X.prog X.w).inj en.key k2 (.inr "melody") h3 h5
            refine ⟨t, bv, ?_, e2⟩
            obtain ⟨eh, ek, ev⟩ := en
            have g2 : ev = bv := g2
            have z2 : ek = .str "melody" t := z2
            have h4 : eh = (mixKind X.prog X.w).hash k2 := h4
            subst g2
            subst z2
            subst h4
            rw [h6]
            rfl
    obtain ⟨t, u1, hes, ru⟩ := hes
    exact ⟨.ref p, _, d_write I3 (by rw [hp]; exact True.intro) ⟨rfl, fun b _ => rfl⟩ ⟨o, ho⟩ (rawD_ok h0 ho hx hd), rx, q es t u1 hes ru⟩
  · have nG : G p = none := no_of rel.ex hp
    have no : ¬ Own ρ p := own_new rel hp
    have P1 : PSt G H G (L2.upd H p (.dK [])) := PSt.newH rel.ex hp
    show teW X e σ (L2.upd H p (.dK [])) _
    refine hc σ G (L2.upd H p (.dK [])) (rel.pure P1) _ fun v d ρ1 G1 H1 r1 s1 i1 ⟨e1, e2⟩ => ?_
    subst e1
    subst e2
    have hp1 : H1 p = some (.dK []) := s1.kp p _ no upd_same
    refine ⟨hp1, [(.inr "melody", v)], rfl, by simp, p, v, rfl, by rw [upd_same]; rfl, fun es t u hes ru => ?_⟩
    rw [upd_upd]
    have nG1 : G1 p = none := s1.fr p no nG (by rw [upd_same]; exact nofun)
    refine kk p _ (mixO X.prog X.w d []) ρ1 G1 _ (r1.aside no (BSt.upd r1.ex nG1)) ⟨s1.gg, fun a h1 h2 h3 => s1.fr a h1 h2 (by rw [upd_ne (fun z => h3 (by rw [z]; exact hp))]; exact h3), fun a o h1 h2 => ?_, fun a h => ?_, fun a h => ?_⟩ nG1 no hp upd_same
      ⟨es, t, u, v, [], rfl, ⟨hes, fun x hx => (nomatch hx), List.nodup_nil⟩, ru, i1, rfl⟩ ⟨rfl, rfl⟩
    · have ne : a ≠ p := fun z => by
        rw [z, hp] at h2
        cases h2
      rw [upd_ne ne]
      exact s1.kp a o h1 (by rw [upd_ne ne]; exact h2)
    · have ne : a ≠ p := fun z => h (by rw [z]; exact hp)
      rw [upd_ne ne]
      exact s1.al a (by rw [upd_ne ne]; exact h)
    · exact .inl h
end
end Pm
set_option pp.maxSteps 2000
namespace Pm
open PySem PySem.Spec PyProof.Rows L2
theorem mul_one (l : Addr) (items : Array Value) (n : Nat) (dd : Option Addr) (sl : Array (Option Value)) (u : Tok) :
    Meets (Builtin.«tuple.__mul__» ⟨[.ref l, .int 1 u], []⟩) (fun _ R s => s.heap.get? l = some { cls := .type "tuple", dict := dd, data := .seq items n, slots := sl } ∧ R (.ok (.ret (Value.ref l))) s) :=
  .of_wp fun prog w A R s h => by
    obtain ⟨hp, g, d, tk, os⟩ := s
    obtain ⟨hl, h⟩ := h
    have f1 := AutoSeq1.idx_int
    have c1 : (items.isEmpty || (1 : Int) == 1) = true := by simp
    wp_walk using wpAny_loadPart' hl
    exact ⟨_, rfl, h⟩
theorem mul_zero (l : Addr) (items : Array Value) (n : Nat) (dd : Option Addr) (sl : Array (Option Value)) (u : Tok) (c1 : items.isEmpty = false) :
    Meets (Builtin.«tuple.__mul__» ⟨[.ref l, .int 0 u], []⟩) (fun _ R s => s.heap.get? l = some { cls := .type "tuple", dict := dd, data := .seq items n, slots := sl } ∧
      R (.ok (.ret (Value.ref s.heap.objs.size))) { s with heap := s.heap.push { cls := Value.type "tuple", data := Data.seq #[] }, toks := s.toks }) :=
  .of_wp fun prog w A R s h => by
    obtain ⟨hp, g, d, tk, os⟩ := s
    obtain ⟨hl, h⟩ := h
    have f1 := AutoSeq1.idx_int
    wp_walk using wpAny_loadPart' hl
    exact ⟨_, rfl, h⟩
/-- a tuple times an int -/
def rRepA (K : PySem.W.Frag) : R2 := fun x y H Q => ∃ l k xs, x = .ref l ∧ y = .int k ∧ SqT K H l xs ∧ xs ≠ [] ∧ 0 ≤ k ∧ k ≤ 1000 ∧ xs.length ≤ 1000 ∧ (k = 1 → Q (.ref l) H) ∧ (k ≠ 1 → ∀ p, H p = none → Q (.ref p) (upd H p (.tup (List.replicate k.toNat xs).flatten)))
theorem op_repA {X : Cx} : OpR X (binaryOp .Mult) (rRepA X.K) := by
  intro pins s σ H x y v u Q I rx ry h
  obtain ⟨l, k, xs, rfl, rfl, hT, hne, h1, h2, hz, q1, q2⟩ := h
  by_cases k2 : 2 ≤ k
  · exact op_repT pins s σ H _ _ v u Q I rx ry ⟨l, k, xs, rfl, rfl, hT, hne, k2, h2, hz, q2 (by omega)⟩
  · cases rx
    obtain ⟨t, rfl⟩ := ry
    obtain ⟨its, r, ⟨⟨cls, dd, data, sl⟩, ho, hc, n, hd⟩, hs⟩ := I.tuple hT
    simp only at hc hd
    subst hc hd
    have hi : its.toArray.isEmpty = false := by
      cases r with
      | nil => exact absurd rfl hne
      | cons a b => rfl
    by_cases k1 : k = 1
    · subst k1
      exact wpAny_binaryOp_repeat_ref (T := "tuple") (U := "int") (by decide) ⟨_, ho, rfl⟩ (fun s' => typeIs_int s' 1 t) noFill_tuple_mul F.fills_int_mul F.slot_int_rmul repeat_tuple F.slot_int_index.lookup
        (call_meets F.slot_int_rmul (typeIs_int s 1 t) F.entry_int_rmul (F.args_int_rmul_2 _ _) (int_rmul_tuple 1 t l its.toArray n dd sl)
          ⟨ho, rfl, ⟨_, ho, rfl⟩, call_meets F.slot_tuple_mul ⟨_, ho, rfl⟩ F.entry_tuple_mul (F.args_tuple_mul_2 _ _) (mul_one l its.toArray n dd sl t) ⟨ho, .ref l, H, I, rfl, q1 rfl⟩⟩)
    · have k0 : k = 0 := by omega
      subst k0
      exact wpAny_binaryOp_repeat_ref (T := "tuple") (U := "int") (by decide) ⟨_, ho, rfl⟩ (fun s' => typeIs_int s' 0 t) noFill_tuple_mul F.fills_int_mul F.slot_int_rmul repeat_tuple F.slot_int_index.lookup
        (call_meets F.slot_int_rmul (typeIs_int s 0 t) F.entry_int_rmul (F.args_int_rmul_2 _ _) (int_rmul_tuple 0 t l its.toArray n dd sl)
          ⟨ho, rfl, ⟨_, ho, rfl⟩, call_meets F.slot_tuple_mul ⟨_, ho, rfl⟩ F.entry_tuple_mul (F.args_tuple_mul_2 _ _) (mul_zero l its.toArray n dd sl t hi)
            ⟨ho, .ref s.heap.objs.size, _, I.laid (t' := s.toks) (o := .tup []) (fun b ob q => Heap.get?_push_of_some _ q) (Nat.le_refl _) ⟨Nat.zero_le _, [], .nil, IsTup.new _ _⟩, rfl, q2 (by decide) _ (I.hok.fresh (Nat.le_refl _))⟩⟩)
/-- a list + a list, however they lie -/
def rCatL (K : PySem.W.Frag) : R2 := fun x y H Q => ∃ l b xs zs, x = .ref l ∧ y = .ref b ∧ SqL K H l xs ∧ SqL K H b zs ∧ xs.length + zs.length ≤ sizeLine ∧ ∀ p, H p = none → Q (.ref p) (upd H p (.lst (xs ++ zs)))
theorem op_catL {X : Cx} : OpR X (binaryOp .Add) (rCatL X.K) := by
  intro pins s σ H x y v u Q I rx ry h
  obtain ⟨l, b, xs, zs, rfl, rfl, hL, hB, hz, q⟩ := h
  cases rx
  cases ry
  obtain ⟨its, r, ⟨⟨c1, d1, a1, s1⟩, n, e1, e2, e3, e4⟩, _⟩ := I.list hL
  obtain ⟨its2, r2, ⟨⟨c2, d2, a2, s2⟩, n2, g1, g2, g3, g4⟩, _⟩ := I.list hB
  simp only at e2 e3 e4 g2 g3 g4
  subst e2 e3 e4 g2 g3 g4
  have ln := r.length
  have ln2 := r2.length
  have ea : its.toArray ++ its2.toArray = (its ++ its2).toArray := by simp
  refine concat_meets ⟨_, e1, rfl⟩ ⟨_, g1, rfl⟩ noFill_list_add seq_list_add PySem.F.slot_list_add PySem.F.entry_list_add (PySem.F.args_list_add_2 _ _) (list_addW l b its.toArray its2.toArray n n2 none none s1 s2 (by simp; omega)) ⟨e1, g1, ?_⟩
  rw [ea]
  exact ⟨.ref _, _, I.lnew (t' := s.toks) (r.append r2) (by rw [List.length_append]; omega), rfl, q _ I.fresh⟩
end Pm
namespace Pm
open PySem PySem.Spec PyProof.Rows L2 Pl
open Evl (Ex ex_t ex_l)
section
variable {X : Cx} {ρ : Rho} {a b e : Expr} {pos px : Pos} {D : En} {d : PyData}
theorem ev_repA {xs : List PyData} {k : Int} (ha : Ev X a ρ (.tuple xs)) (hb : Ev X b ρ (.int k)) (h0 : xs ≠ []) (h1 : 0 ≤ k) (h2 : k ≤ 1000) (h3 : xs.length ≤ 1000) : Ev X (.BinOp a .Mult b pos) ρ (.tuple (List.replicate k.toNat xs).flatten) := ev_op op_repA ha hb (fun G H v w x hv hw R z => by
  cases hw
  cases hv with
  | tup g1 g2 =>
    rename_i l vs
    refine ⟨l, k, vs, rfl, rfl, ex_t x g1, fun z => h0 (by
      subst z
      cases g2
      rfl), h1, h2, by rw [g2.length]; exact h3, fun e1 => ?_, fun e1 p hp => ?_⟩
    · refine z _ _ G H (.refl x) (.tup g1 g2) ?_
      subst e1
      simp
    · have P := PSt.new (o := .tup (List.replicate k.toNat vs).flatten) x hp
      exact z _ _ _ _ P (.tup (SqT.of upd_same) ((g2.rep k.toNat).mono P.gg)) rfl)
theorem ev_catL {xs ys : List PyData} (ha : Ev X a ρ (.list xs)) (hb : Ev X b ρ (.list ys)) (hz : xs.length + ys.length ≤ 1000000) : Ev X (.BinOp a .Add b pos) ρ (.list (xs ++ ys)) := ev_op op_catL ha hb (fun G H v w x hv hw R z => by
  cases hv with
  | lst h1 h2 =>
    cases hw with
    | lst h3 h4 =>
      rename_i l1 v1 l2 v2
      refine ⟨_, _, _, _, rfl, rfl, ex_l x h1, ex_l x h3, by rw [h2.length, h4.length]; exact big hz, fun p hp => ?_⟩
      have P := PSt.new (o := .lst (v1 ++ v2)) x hp
      exact z _ _ _ _ P (.lst (SqL.of upd_same) ((h2.app h4).mono P.gg)) rfl)
/-- [d] * k, a new list -/
theorem el_rep {k : Int} {p1 : Pos} (ha : Av X [a] ρ [d]) (hb : Ev X b ρ (.int k)) (h1 : 0 ≤ k) (h2 : k ≤ 1000) : El X (.BinOp (.List [a] p1) .Mult b pos) ρ (List.replicate k.toNat d) := fun σ G H rel R kk =>
  te_of (pe_op op_rep (pe_lst pa_W) pe_W) (ha σ G H rel _ fun vs ds ρ1 G1 H1 r1 s1 i1 ⟨e1, e2⟩ => ⟨by rw [i1.length, e1]; exact big (by simp), fun p hp => by
    subst e1
    subst e2
    have P1 : PSt G1 H1 G1 (L2.upd H1 p (.lst vs)) := PSt.newH r1.ex hp
    refine hb σ G1 _ (r1.pure P1) _ fun w j ρ2 G2 H2 r2 s2 i2 ⟨e3, e4⟩ => ?_
    subst e3
    subst e4
    cases i2
    have no : ¬ Own ρ2 p := own_new r1 hp
    have hp2 : H2 p = some (.lst vs) := s2.kp p _ no upd_same
    have i3 := i1.mono s2.gg
    have hl : vs.length = 1 := i1.length
    refine ⟨p, k, vs, rfl, rfl, hp2, by omega, by omega, ?_, fun p2 hp3 => ?_⟩
    · rw [hl, Nat.one_mul]
      exact Nat.le_trans (by omega : k.toNat ≤ 1000) (by decide)
    · have P2 : PSt G2 H2 G2 (L2.upd H2 p2 (.lst (List.replicate k.toNat vs).flatten)) := PSt.newH r2.ex hp3
      have q0 : H1 p2 = none := by
        have q1 := s2.unused hp3
        by_cases z : p2 = p
        · rw [z, hp2] at hp3
          cases hp3
        · rw [upd_ne z] at q1
          exact q1
      refine kk p2 _ (List.replicate k.toNat d) ρ2 G2 _ (r2.pure P2) ((s1.trans P1.stp).trans (s2.trans P2.stp)) (no_of r2.ex hp3) (own_new r2 hp3) (s1.unused q0) upd_same ?_ ⟨rfl, rfl⟩
      have := i3.rep k.toNat
      simpa using this⟩)
/-! a dict of pairs, all true -/
def dtO (ks : List PK) : Ow where
  p := fun _ _ _ o => o = .dT (ks.map fun k => (lk k, .bl true))
  up := fun _ h => h
theorem valV_dt (k : PK) : ∀ ks : List PK, (valV (ks.map fun k => (lk k, V.bl true)) (lk k)).isSome = decide (k ∈ ks)
  | [] => rfl
  | x :: r => by
    have ih := valV_dt k r
    rw [List.map_cons]
    by_cases h : x = k
    · subst h
      rw [valV_pos (p := (lk x, V.bl true)) rfl]
      simp
    · rw [valV_neg (p := (lk x, V.bl true)) (fun z => h (lk_inj z)), ih]
      simp [Ne.symm h]
theorem eo_dt : EoW X (.Dict [] [] pos) ρ fun Φ ρ1 => Φ = dtO [] ∧ ρ1 = ρ := fun σ G H rel R kk =>
  te_of pe_dnewT fun p hp => kk p _ (dtO []) ρ G _ (rel.pure (PSt.newH rel.ex hp)) (PSt.newH rel.ex hp).stp (no_of rel.ex hp) (own_new rel hp) hp upd_same rfl ⟨rfl, rfl⟩
/-- (a, b) in name -/
theorem tv_dtIn {i : Nat} {y : Str} {l : Addr} {ks : List PK} {k : PK} {x1 : Nat} {p1 : Pos} (hu : X.A.units + 2 < cLine) (ha : Av X [a, b] ρ [.int k.1, .int k.2]) (h : ρ[i]? = some (.obj l (dtO ks))) (hN : X.N[i]? = some y := by rfl) (hv : Vis X.env.scope y := by first | exact Or.inl rfl | exact Or.inr (Or.inl rfl) | exact Or.inr (Or.inr rfl)) (hd : (y == ("__debug__" : Str)) = false := by decide)
    (hcd : (y == ("__classdict__" : Str)) = false := by decide) (hm : behindInMarks .In (.Name y px) = false := by rfl) : Tv X (.Compare (.Tuple [a, b] x1 p1) [.In] [.Name y px] pos) ρ (decide (k ∈ ks)) := fun σ G H rel R kk =>
  tt_of (pt_cmp (pc_din (by omega) (pe_tup pa_W) (pe_var hN hv hd hcd)) hm) (ha σ G H rel _ fun vs ds ρ1 G1 H1 r1 s1 i1 ⟨e1, e2⟩ => ⟨by rw [i1.length, e1]; exact big (by simp), fun p hp => by
    subst e1
    subst e2
    have P : PSt G1 H1 G1 (L2.upd H1 p (.tup vs)) := PSt.newH r1.ex hp
    obtain ⟨z1, nG, u, z3, z4⟩ := r1.sl i _ h
    have z4 : u = .dT (ks.map fun k => (lk k, .bl true)) := z4
    subst z4
    have hv : vs = (lk k).map kV := by
      cases i1 with
      | cons a b =>
        cases b with
        | cons b c =>
          cases a
          cases b
          cases c
          rfl
    have hl : L2.upd H1 p (.tup vs) l = some (.dT (ks.map fun k => (lk k, .bl true))) := by
      rw [upd_ne (ne_of_none z3 hp)]
      exact z3
    have hp2 : L2.upd H1 p (.tup vs) p = some (.tup ((lk k).map kV)) := by rw [upd_same, hv]
    refine ⟨_, z1, l, _, rfl, DGet.t hl hp2, decide (k ∈ ks), ?_, kk _ ρ1 G1 _ (r1.pure P) (s1.trans P.stp) ⟨rfl, rfl⟩⟩
    rw [valV_dt]⟩)
/-- name[a, b] = True -/
theorem s_dtSet {i : Nat} {y : Str} {l : Addr} {ks : List PK} {k : PK} {x1 : Nat} {p1 ps pe : Pos} {j0 : Nat} (hu : X.A.units + 2 < cLine) (h : ρ[i]? = some (.obj l (dtO ks))) (ha : Av X [a, b] ρ [.int k.1, .int k.2]) (few : ks.length < 100000) (new : k ∉ ks) (q : D.nx (ρ.set i (.obj l (dtO (ks ++ [k])))))
    (hN : X.N[i]? = some y := by rfl) (hv : Vis X.env.scope y := by first | exact Or.inl rfl | exact Or.inr (Or.inl rfl) | exact Or.inr (Or.inr rfl)) (hd : (y == ("__debug__" : Str)) = false := by decide) (hcd : (y == ("__classdict__" : Str)) = false := by decide)
    (hs : swapsWith (.Constant (.bool true) j0 pe) (some (.Subscript (.Name y px) (.Tuple [a, b] x1 p1) ps)) pos.line X.env = pure false := by rfl) : SvW X (.Assign [.Subscript (.Name y px) (.Tuple [a, b] x1 p1) ps] (.Constant (.bool true) j0 pe) pos) ρ D := fun σ G H rel T mm => by
  obtain ⟨z1, nG, u, z3, z4⟩ := rel.sl i _ h
  refine ts_of (ps_dput (by omega) (pe_var hN hv hd hcd) (pe_tup pa_W) pe_bl hs) ⟨_, z1, ?_⟩
  refine ha σ G H rel _ fun vs ds ρ1 G1 H1 r1 s1 i1 ⟨e1, e2⟩ => ⟨by rw [i1.length, e1]; exact big (by simp), fun p hp => ?_⟩
  subst e1
  subst e2
  have P : PSt G1 H1 G1 (L2.upd H1 p (.tup vs)) := PSt.newH r1.ex hp
  obtain ⟨z1, nG, u, z3, z4⟩ := r1.sl i _ h
  have z4 : u = .dT (ks.map fun k => (lk k, .bl true)) := z4
  subst z4
  have hv : vs = (lk k).map kV := by
    cases i1 with
    | cons a b =>
      cases b with
      | cons b c =>
        cases a
        cases b
        cases c
        rfl
  have hl : L2.upd H1 p (.tup vs) l = some (.dT (ks.map fun k => (lk k, .bl true))) := by
    rw [upd_ne (ne_of_none z3 hp)]
    exact z3
  have hp2 : L2.upd H1 p (.tup vs) p = some (.tup ((lk k).map kV)) := by rw [upd_same, hv]
  refine ⟨l, _, rfl, DPut.t hl hp2 (by rw [List.length_map]; exact Nat.lt_of_lt_of_le few (by decide)), ?_⟩
  have hn : valV (ks.map fun k => (lk k, V.bl true)) (lk k) = none := by
    have := valV_dt k ks
    rw [decide_eq_false new] at this
    cases q : valV (ks.map fun k => (lk k, V.bl true)) (lk k) with
    | none => rfl
    | some x =>
      rw [q] at this
      cases this
  rw [putK_new _ hn]
  have B : BSt l G1 (L2.upd H1 p (.tup vs)) G1 (L2.upd (L2.upd H1 p (.tup vs)) l (.dT ((ks.map fun k => (lk k, V.bl true)) ++ [(lk k, V.bl true)]))) := BSt.upd (r1.pure P).ex nG
  obtain ⟨r3, s3⟩ := (r1.pure P).swap (s' := .obj l (dtO (ks ++ [k]))) h rfl B ⟨z1, nG, _, upd_same, by
    show _ = HO.dT ((ks ++ [k]).map _)
    rw [List.map_append]
    rfl⟩ rfl (by rw [upd_same]; exact nofun)
  exact mm.nx _ σ G1 _ r3 ((s1.trans P.stp).trans s3) q
end
end Pm
namespace K17
open PySem
abbrev OI := Option Int
abbrev PK := Int × Int
def absI (x : Int) : Int := if x < 0 then -x else x
def badI (g : List Int) (a b : Int) : Bool := !decide (absI (a - b) % 12 ∈ g)
def clT (M N : List OI) (g : List Int) (t : Nat) : Bool := match M[t]?, N[t]? with
  | some (some a), some (some b) => badI g a b
  | _, _ => false
def clash (M N : List OI) (g : List Int) : Option Nat := (List.range (min M.length N.length)).find? (clT M N g)
def later (M : List OI) (d : Nat) (s : Int) : List OI := List.replicate d none ++ M.map (·.map (· + s))
def fitB (M : List OI) (g : List Int) (p : PK) : Bool := (clash M (later M p.1.toNat p.2) g).isNone
def rI (lo : Int) (n : Nat) : List Int := (List.range n).map fun (i : Nat) => lo + (i : Int)
def fits (M : List OI) (g : List Int) (most : Nat) : List PK := (rI 1 most).flatMap fun d => ((rI (-12) 25).filter fun s => fitB M g (d, s)).map fun s => (d, s)
theorem clT_out {M N : List OI} {g : List Int} {t : Nat} (h : min M.length N.length ≤ t) : clT M N g t = false := by
  unfold clT
  by_cases h1 : M.length ≤ t
  · rw [List.getElem?_eq_none h1]
  · rw [List.getElem?_eq_none (by omega : N.length ≤ t)]
    cases M[t]? with
    | none => rfl
    | some x => cases x <;> rfl
theorem clash_none {M N : List OI} {g : List Int} : (clash M N g).isNone = true ↔ ∀ t, clT M N g t = false := by
  rw [Option.isNone_iff_eq_none]
  unfold clash
  rw [List.find?_eq_none]
  constructor
  · intro h t
    by_cases q : t < min M.length N.length
    · simpa using h t (List.mem_range.mpr q)
    · exact clT_out (by omega)
  · intro h t _
    rw [h t]
    exact Bool.false_ne_true
theorem later_get (M : List OI) (d : Nat) (s : Int) (t : Nat) : (later M d s)[t]? = if t < d then some none else (M[t - d]?).map (·.map (· + s)) := by
  unfold later
  by_cases h : t < d
  · rw [if_pos h, List.getElem?_append_left (by simpa using h), List.getElem?_replicate, if_pos h]
  · rw [if_neg h, List.getElem?_append_right (by simpa using h), List.getElem?_map, List.length_replicate]
theorem clash_diff (M : List OI) (g : List Int) (d1 d2 : Nat) (s1 s2 : Int) (h : d1 ≤ d2) : (clash (later M d1 s1) (later M d2 s2) g).isNone = (clash M (later M (d2 - d1) (s2 - s1)) g).isNone := by
  rw [Bool.eq_iff_iff, clash_none, clash_none]
  have key : ∀ t, clT (later M d1 s1) (later M d2 s2) g (t + d1) = clT M (later M (d2 - d1) (s2 - s1)) g t := by
    intro t
    unfold clT
    rw [later_get, later_get, later_get, if_neg (by omega), Nat.add_sub_cancel]
    by_cases q : t < d2 - d1
    · rw [if_pos q, if_pos (by omega)]
      cases M[t]? with
      | none => rfl
      | some x => cases x <;> rfl
    · rw [if_neg q, if_neg (by omega)]
      have e : t + d1 - d2 = t - (d2 - d1) := by omega
      rw [e]
      cases M[t]? with
      | none => rfl
      | some x =>
        cases x with
        | none => rfl
        | some a =>
          cases M[t - (d2 - d1)]? with
          | none => rfl
          | some y =>
            cases y with
            | none => rfl
            | some b =>
              show badI g (a + s1) (b + s2) = badI g a (b + (s2 - s1))
              unfold badI
              rw [show a + s1 - (b + s2) = a - (b + (s2 - s1)) by omega]
  constructor
  · intro q t
    rw [← key]
    exact q _
  · intro q t
    by_cases ht : t < d1
    · unfold clT
      rw [later_get, if_pos ht]
    · have := key (t - d1)
      rw [Nat.sub_add_cancel (by omega)] at this
      rw [this]
      exact q _
/-! growing -/
def grow (fit : PK → PK → Bool) (rows : List PK) : Nat → List PK → Nat → Option (List PK)
  | 0, ch, _ => some ch
  | n + 1, ch, at0 => (List.range (rows.length - at0)).findSome? fun i => if (ch.all fun c => fit c (rows.getD (at0 + i) (0, 0))) = true then grow fit rows n (ch ++ [rows.getD (at0 + i) (0, 0)]) (at0 + i + 1) else none
def gI (ok : Nat → Nat → Bool) (N : Nat) : Nat → List Nat → Nat → Option (List Nat)
  | 0, lot, _ => some lot
  | n + 1, lot, at0 => (List.range (N - at0)).findSome? fun i => if (lot.all fun j => ok j (at0 + i)) = true then gI ok N n (lot ++ [at0 + i]) (at0 + i + 1) else none
theorem findSome_map {α β γ : Type} (f : α → Option β) (h : β → γ) : ∀ l : List α, (l.findSome? f).map h = l.findSome? fun x => (f x).map h
  | [] => rfl
  | x :: r => by
    rw [List.findSome?_cons, List.findSome?_cons]
    cases f x with
    | none => exact findSome_map f h r
    | some y => rfl
theorem grow_gI (fit : PK → PK → Bool) (rows : List PK) : ∀ n lot at0, grow fit rows n (lot.map fun k => rows.getD k (0, 0)) at0 = (gI (fun j k => fit (rows.getD j (0, 0)) (rows.getD k (0, 0))) rows.length n lot at0).map fun l => l.map fun k => rows.getD k (0, 0)
  | 0, _, _ => rfl
  | n + 1, lot, at0 => by
    show List.findSome? _ _ = Option.map _ (List.findSome? _ _)
    rw [findSome_map]
    congr 1
    funext i
    rw [List.all_map]
    have e : ((lot.map fun k => rows.getD k (0, 0)) ++ [rows.getD (at0 + i) (0, 0)]) = (lot ++ [at0 + i]).map fun k => rows.getD k (0, 0) := by rw [List.map_append]; rfl
    rw [e, grow_gI fit rows n (lot ++ [at0 + i]) (at0 + i + 1)]
    show (if (lot.all fun j => fit (rows.getD j (0, 0)) (rows.getD (at0 + i) (0, 0))) = true then _ else _) = _
    by_cases q : (lot.all fun j => fit (rows.getD j (0, 0)) (rows.getD (at0 + i) (0, 0))) = true
    · rw [if_pos q, if_pos q]
    · rw [if_neg q, if_neg q]
      rfl
/-! the machine of lots -/
section
variable (ok : Nat → Nat → Bool) (N : Nat)
theorem gI_end {n : Nat} {lot : List Nat} {at0 : Nat} (h : N ≤ at0) : gI ok N (n + 1) lot at0 = none := by
  show List.findSome? _ _ = none
  rw [Nat.sub_eq_zero_of_le h]
  rfl
theorem gI_step {n : Nat} {lot : List Nat} {at0 : Nat} (h : at0 < N) : gI ok N (n + 1) lot at0 = (if (lot.all fun j => ok j at0) = true then gI ok N n (lot ++ [at0]) (at0 + 1) else none).or (gI ok N (n + 1) lot (at0 + 1)) := by
  show List.findSome? _ _ = Option.or _ (List.findSome? _ _)
  have e : N - at0 = (N - (at0 + 1)) + 1 := by omega
  rw [e, List.range_succ_eq_map, List.findSome?_cons, List.findSome?_map]
  have f : (fun i => if (lot.all fun j => ok j (at0 + i)) = true then gI ok N n (lot ++ [at0 + i]) (at0 + i + 1) else none) ∘ Nat.succ = fun i => if (lot.all fun j => ok j (at0 + 1 + i)) = true then gI ok N n (lot ++ [at0 + 1 + i]) (at0 + 1 + i + 1) else none := by
    funext i
    show (if (lot.all fun j => ok j (at0 + (i + 1))) = true then gI ok N n (lot ++ [at0 + (i + 1)]) (at0 + (i + 1) + 1) else none) = _
    rw [show at0 + (i + 1) = at0 + 1 + i by omega]
  rw [f]
  simp only [Nat.add_zero]
  cases (if (lot.all fun j => ok j at0) = true then gI ok N n (lot ++ [at0]) (at0 + 1) else none) <;> rfl
/-- what comes out, the lot as a stack -/
def res (many : Nat) : List Nat → Nat → Option (List Nat)
  | [], at0 => gI ok N many [] at0
  | x :: r, at0 => (gI ok N (many - (r.length + 1)) ((x :: r).reverse) at0).or (res many r (x + 1))
theorem res_skip {many : Nat} {st : List Nat} {at0 : Nat} (hl : st.length < many) (h : at0 < N) (hc : (st.reverse.all fun j => ok j at0) = false) : res ok N many st at0 = res ok N many st (at0 + 1) := by
  cases st with
  | nil => cases hc
  | cons x r =>
    have hl : r.length + 1 < many := hl
    obtain ⟨m, hm⟩ : ∃ m, many - (r.length + 1) = m + 1 := ⟨many - (r.length + 1) - 1, by omega⟩
    show (gI ok N (many - (r.length + 1)) _ at0).or _ = (gI ok N (many - (r.length + 1)) _ (at0 + 1)).or _
    rw [hm, gI_step ok N h, hc]
    rfl
theorem res_push {many : Nat} {st : List Nat} {at0 : Nat} (hl : st.length < many) (h : at0 < N) (hc : (st.reverse.all fun j => ok j at0) = true) : res ok N many st at0 = res ok N many (at0 :: st) (at0 + 1) := by
  obtain ⟨m, hm⟩ : ∃ m, many - st.length = m + 1 := ⟨many - st.length - 1, by omega⟩
  have hm2 : many - (st.length + 1) = m := by omega
  have e : (at0 :: st).reverse = st.reverse ++ [at0] := by rw [List.reverse_cons]
  show _ = (gI ok N (many - (st.length + 1)) ((at0 :: st).reverse) (at0 + 1)).or (res ok N many st (at0 + 1))
  rw [hm2, e]
  cases st with
  | nil =>
    have hm : many = m + 1 := hm
    show gI ok N many [] at0 = (gI ok N m ([] ++ [at0]) (at0 + 1)).or (gI ok N many [] (at0 + 1))
    rw [hm, gI_step ok N h]
    rfl
  | cons x r =>
    have hm : many - (r.length + 1) = m + 1 := hm
    show (gI ok N (many - (r.length + 1)) _ at0).or _ = (gI ok N m _ (at0 + 1)).or ((gI ok N (many - (r.length + 1)) _ (at0 + 1)).or _)
    rw [hm, gI_step ok N h, hc, if_pos rfl, Option.or_assoc]
theorem res_pop {many : Nat} {x : Nat} {r : List Nat} {at0 : Nat} (hl : r.length + 1 < many) (h : N ≤ at0) : res ok N many (x :: r) at0 = res ok N many r (x + 1) := by
  obtain ⟨m, hm⟩ : ∃ m, many - (r.length + 1) = m + 1 := ⟨many - (r.length + 1) - 1, by omega⟩
  show (gI ok N (many - (r.length + 1)) _ at0).or _ = _
  rw [hm, gI_end ok N h]
  rfl
theorem res_nil {many : Nat} {at0 : Nat} (hl : 0 < many) (h : N ≤ at0) : res ok N many [] at0 = none := by
  obtain ⟨m, rfl⟩ : ∃ m, many = m + 1 := ⟨many - 1, by omega⟩
  exact gI_end ok N h
theorem res_full {many : Nat} {st : List Nat} {at0 : Nat} (hl : st.length = many) : res ok N many st at0 = some st.reverse := by
  cases st with
  | nil =>
    have hl : many = 0 := hl.symm
    subst hl
    rfl
  | cons x r =>
    have hl : r.length + 1 = many := hl
    show (gI ok N (many - (r.length + 1)) _ at0).or _ = _
    rw [hl, Nat.sub_self]
    rfl
end
/-! how long it runs -/
def val (B : Nat) : Nat → List Nat → Nat
  | 0, _ => 0
  | _ + 1, [] => 0
  | m + 1, x :: r => x * B ^ m + val B m r
theorem val_push {B : Nat} (hB : 0 < B) {a b : Nat} (h : a ≤ b) : ∀ (m : Nat) (lot : List Nat), val B m (lot ++ [a]) + (if lot.length + 2 ≤ m then 1 else 0) ≤ val B m (lot ++ [b, b + 1])
  | 0, lot => by simp [val]
  | 1, [] => by simp [val, h]
  | m + 2, [] => by
    show a * B ^ (m + 1) + 0 + (if 2 ≤ m + 2 then 1 else 0) ≤ b * B ^ (m + 1) + ((b + 1) * B ^ m + val B m [])
    rw [if_pos (by omega)]
    have h1 := Nat.mul_le_mul_right (B ^ (m + 1)) h
    have h2 : 1 ≤ (b + 1) * B ^ m := Nat.mul_pos (by omega) (Nat.pow_pos hB)
    omega
  | m + 1, x :: r => by
    have ih := val_push hB h m r
    show x * B ^ m + val B m (r ++ [a]) + (if r.length + 1 + 2 ≤ m + 1 then 1 else 0) ≤ x * B ^ m + val B m (r ++ [b, b + 1])
    by_cases q : r.length + 2 ≤ m
    · rw [if_pos q] at ih
      rw [if_pos (by omega)]
      omega
    · rw [if_neg q] at ih
      rw [if_neg (by omega)]
      omega
theorem val_pop {B : Nat} {x a : Nat} (h : a < B) : ∀ (m : Nat) (lot : List Nat), lot.length < m → val B m (lot ++ [x, a]) + 1 ≤ val B m (lot ++ [x + 1])
  | 0, lot, hl => absurd hl (Nat.not_lt_zero _)
  | 1, [], _ => by simp [val]
  | m + 2, [], _ => by
    show x * B ^ (m + 1) + (a * B ^ m + val B m []) + 1 ≤ (x + 1) * B ^ (m + 1) + val B (m + 1) []
    have e0 : val B m [] = 0 := by cases m <;> rfl
    have h1 : (a + 1) * B ^ m ≤ B * B ^ m := Nat.mul_le_mul_right _ h
    have h2 : 0 < B ^ m := Nat.pow_pos (by omega)
    have h3 : B ^ (m + 1) = B * B ^ m := by rw [Nat.pow_succ, Nat.mul_comm]
    rw [e0, Nat.add_mul, Nat.one_mul, h3]
    rw [Nat.add_mul, Nat.one_mul] at h1
    omega
  | m + 1, y :: r, hl => by
    have hl : r.length + 1 < m + 1 := hl
    have ih := val_pop h (x := x) m r (by omega)
    show y * B ^ m + val B m (r ++ [x, a]) + 1 ≤ y * B ^ m + val B m (r ++ [x + 1])
    omega
theorem val_lt {B : Nat} (hB : 0 < B) : ∀ (m : Nat) (l : List Nat), (∀ x ∈ l, x < B) → val B m l < B ^ m
  | 0, _, _ => by simp [val]
  | m + 1, [], _ => Nat.pow_pos hB
  | m + 1, x :: r, h => by
    have ih := val_lt hB m r fun y hy => h y (List.mem_cons_of_mem _ hy)
    have h1 : (x + 1) * B ^ m ≤ B * B ^ m := Nat.mul_le_mul_right _ (h x List.mem_cons_self)
    have h3 : B ^ (m + 1) = B * B ^ m := by rw [Nat.pow_succ, Nat.mul_comm]
    show x * B ^ m + val B m r < _
    rw [Nat.add_mul, Nat.one_mul] at h1
    omega
/-- the turn that the machine is in, at the least -/
def vv (B many : Nat) (st : List Nat) (at0 : Nat) : Nat := 2 * val B (many - 1) (st.reverse ++ [at0]) + (st.length + 2 - many)
theorem vv_push {B many : Nat} (hB : 0 < B) {st : List Nat} {a b : Nat} (h : a ≤ b) (hl : st.length < many) : vv B many st a + 1 ≤ vv B many (b :: st) (b + 1) := by
  have := val_push hB h (many - 1) st.reverse
  unfold vv
  rw [List.reverse_cons, List.append_assoc]
  show _ ≤ 2 * val B (many - 1) (st.reverse ++ [b, b + 1]) + (st.length + 1 + 2 - many)
  rw [List.length_reverse] at this
  by_cases q : st.length + 2 ≤ many - 1
  · rw [if_pos q] at this
    omega
  · rw [if_neg q] at this
    omega
theorem vv_pop {B many : Nat} {st : List Nat} {x a : Nat} (h : a < B) (hl : st.length + 1 < many) : vv B many (x :: st) a + 1 ≤ vv B many st (x + 1) := by
  have := val_pop h (x := x) (many - 1) st.reverse (by rw [List.length_reverse]; omega)
  unfold vv
  rw [List.reverse_cons, List.append_assoc]
  show 2 * val B (many - 1) (st.reverse ++ [x, a]) + (st.length + 1 + 2 - many) + 1 ≤ _
  omega
theorem vv_lt {B many : Nat} (hB : 0 < B) {st : List Nat} {a : Nat} (hs : ∀ x ∈ st, x < B) (ha : a < B) (hl : st.length ≤ many) : vv B many st a ≤ 2 * B ^ (many - 1) := by
  have := val_lt hB (many - 1) (st.reverse ++ [a]) fun x hx => by
    rcases List.mem_append.mp hx with hx | hx
    · exact hs x (List.mem_reverse.mp hx)
    · rw [List.mem_singleton.mp hx]
      exact ha
  unfold vv
  omega
end K17
namespace K17
open PySem PySem.Spec PyProof.Rows L2
def topS (i : Nat) : Stmt := PySem.Challenge.pw_tunehouse_k17_whole_three_voices_of_a_me.main.body.getD i (.Pass ⟨0, 0, 0, 0⟩)
abbrev s_is_number : Stmt := topS 4
abbrev N_is_number : List Str := ["x"]
theorem sc_is_number : FnScope N_is_number ["x"] (defScope s_is_number) := ⟨rfl, rfl, rfl, by decide +kernel, rfl, by decide +kernel, by decide +kernel⟩
abbrev s_is_height : Stmt := topS 8
abbrev N_is_height : List Str := ["x"]
theorem sc_is_height : FnScope N_is_height ["x"] (defScope s_is_height) := ⟨rfl, rfl, rfl, by decide +kernel, rfl, by decide +kernel, by decide +kernel⟩
abbrev s_check_melody : Stmt := topS 9
abbrev N_check_melody : List Str := ["x", "one"]
theorem sc_check_melody : FnScope N_check_melody ["x"] (defScope s_check_melody) := ⟨rfl, rfl, rfl, by decide +kernel, rfl, by decide +kernel, by decide +kernel⟩
abbrev s_check_good : Stmt := topS 10
abbrev N_check_good : List Str := ["x", "one", "k"]
theorem sc_check_good : FnScope N_check_good ["x"] (defScope s_check_good) := ⟨rfl, rfl, rfl, by decide +kernel, rfl, by decide +kernel, by decide +kernel⟩
abbrev s_first_clash : Stmt := topS 11
abbrev N_first_clash : List Str := ["one", "other", "good", "time"]
theorem sc_first_clash : FnScope N_first_clash ["one", "other", "good"] (defScope s_first_clash) := ⟨rfl, rfl, rfl, by decide +kernel, rfl, by decide +kernel, by decide +kernel⟩
abbrev s_voice_of : Stmt := topS 12
abbrev N_voice_of : List Str := ["melody", "delay", "shift", "one"]
theorem sc_voice_of : FnScope N_voice_of ["melody", "delay", "shift"] (defScope s_voice_of) := ⟨rfl, rfl, rfl, by decide +kernel, rfl, by decide +kernel, by decide +kernel⟩
abbrev s_fitting : Stmt := topS 13
abbrev N_fitting : List Str := ["melody", "good", "most", "out", "delay", "shift"]
theorem sc_fitting : FnScope N_fitting ["melody", "good", "most"] (defScope s_fitting) := ⟨rfl, rfl, rfl, by decide +kernel, rfl, by decide +kernel, by decide +kernel⟩
abbrev s_check_most : Stmt := topS 14
abbrev N_check_most : List Str := ["x", "most"]
theorem sc_check_most : FnScope N_check_most ["x", "most"] (defScope s_check_most) := ⟨rfl, rfl, rfl, by decide +kernel, rfl, by decide +kernel, by decide +kernel⟩
abbrev s_all_fits : Stmt := topS 15
abbrev N_all_fits : List Str := ["melody", "good", "most"]
theorem sc_all_fits : FnScope N_all_fits ["melody", "good", "most"] (defScope s_all_fits) := ⟨rfl, rfl, rfl, by decide +kernel, rfl, by decide +kernel, by decide +kernel⟩
abbrev s_fit_between : Stmt := topS 16
abbrev N_fit_between : List Str := ["one", "other", "known", "apart", "melody", "good"]
theorem sc_fit_between : FnScope N_fit_between ["one", "other", "known"] (defScope s_fit_between) := ⟨rfl, rfl, rfl, by decide +kernel, rfl, by decide +kernel, by decide +kernel⟩
abbrev s_grown : Stmt := topS 17
abbrev N_grown : List Str := ["rows", "chosen", "at", "many", "known", "k", "one", "found"]
theorem sc_grown : FnScope N_grown ["rows", "chosen", "at", "many", "known"] (defScope s_grown) := ⟨rfl, rfl, rfl, by decide +kernel, rfl, by decide +kernel, by decide +kernel⟩
abbrev s_stacked : Stmt := topS 18
abbrev N_stacked : List Str := ["melody", "good", "most", "many", "found"]
theorem sc_stacked : FnScope N_stacked ["melody", "good", "most", "many"] (defScope s_stacked) := ⟨rfl, rfl, rfl, by decide +kernel, rfl, by decide +kernel, by decide +kernel⟩
abbrev s_law_box : Stmt := topS 20
abbrev N_law_box : List Str := ["script", "x"]
theorem sc_law_box : FnScope N_law_box ["script"] (defScope s_law_box) := ⟨rfl, rfl, rfl, by decide +kernel, rfl, by decide +kernel, by decide +kernel⟩
abbrev s_law_take : Stmt := topS 21
abbrev N_law_take : List Str := ["box", "m", "at", "cell", "told"]
theorem sc_law_take : FnScope N_law_take ["box", "m"] (defScope s_law_take) := ⟨rfl, rfl, rfl, by decide +kernel, rfl, by decide +kernel, by decide +kernel⟩
abbrev s_law_pick : Stmt := topS 22
abbrev N_law_pick : List Str := ["box", "menu"]
theorem sc_law_pick : FnScope N_law_pick ["box", "menu"] (defScope s_law_pick) := ⟨rfl, rfl, rfl, by decide +kernel, rfl, by decide +kernel, by decide +kernel⟩
abbrev s_law_melody : Stmt := topS 23
abbrev N_law_melody : List Str := ["box", "most", "row", "now", "turn"]
theorem sc_law_melody : FnScope N_law_melody ["box", "most"] (defScope s_law_melody) := ⟨rfl, rfl, rfl, by decide +kernel, rfl, by decide +kernel, by decide +kernel⟩
abbrev s_law_clash : Stmt := topS 24
abbrev N_law_clash : List Str := ["one", "other", "good", "k"]
theorem sc_law_clash : FnScope N_law_clash ["one", "other", "good"] (defScope s_law_clash) := ⟨rfl, rfl, rfl, by decide +kernel, rfl, by decide +kernel, by decide +kernel⟩
abbrev s_law_later : Stmt := topS 25
abbrev N_law_later : List Str := ["melody", "delay", "shift", "out", "one"]
theorem sc_law_later : FnScope N_law_later ["melody", "delay", "shift"] (defScope s_law_later) := ⟨rfl, rfl, rfl, by decide +kernel, rfl, by decide +kernel, by decide +kernel⟩
abbrev s_law_lot : Stmt := topS 26
abbrev N_law_lot : List Str := ["many", "rows", "apart", "lot", "at", "turn", "k", "j"]
theorem sc_law_lot : FnScope N_law_lot ["many", "rows", "apart"] (defScope s_law_lot) := ⟨rfl, rfl, rfl, by decide +kernel, rfl, by decide +kernel, by decide +kernel⟩
abbrev s_law : Stmt := topS 27
abbrev N_law : List Str := ["script", "box", "melody", "good", "most", "rows", "due_rows", "delay", "shift", "voices", "apart", "j", "k", "many", "lot", "due"]
theorem sc_law : FnScope N_law ["script"] (defScope s_law) := ⟨rfl, rfl, rfl, by decide +kernel, rfl, by decide +kernel, by decide +kernel⟩
end K17
namespace K17
open PySem PySem.Spec PyProof.Rows L2 Pl
section
variable {P : Program} {w : World} {K : PySem.W.Frag} {mg : Str → Option Value} {base : Heap}
/-! the box of draws -/
def encB (a b : Int) (c : Nat) (cells : List Int) : List PyData := [.int a, .int b, .int c, .list (cells.map PyData.int)]
def Bxs (es : List PyData) : Prop := ∃ a b c cells, es = encB a b c cells
def pre_take : List PyData → List PyData → Prop := fun es ds => Bxs es ∧ ∃ m : Int, 0 < m ∧ m < 1073741824 ∧ ds = [.int m]
def po_take : List PyData → List PyData → PyData → List PyData → Prop := fun _ ds d es' => Bxs es' ∧ ∃ m r : Int, ds = [.int m] ∧ 0 ≤ r ∧ r < m ∧ d = .int r
theorem cell_at {cells : List Int} {c : Nat} (h : (c : Int) < cells.length) : ∃ z, atI (cells.map PyData.int) (c : Int) = some (.int z) := by
  have hc : c < cells.length := by omega
  refine ⟨cells[c], atI_nat (j := c) ?_⟩
  rw [List.getElem?_map, List.getElem?_eq_getElem hc]
  rfl
theorem ok_take {f : Addr} {fd : FuncData} (F : Fun K "_law_take" "_law_take" s_law_take f fd) (ml : mg "len" = none) (mi : mg "int" = none) : FnOk P w K mg base CX0 1 f fd ["box", "m"] (spBox K 2 pre_take po_take) := by
  refine fn_box F sc_law_take (fun cdv A outer s H E l es ds hr hp hl => ?_)
  obtain ⟨⟨a, b, c, cells, rfl⟩, m, hm0, hm1, rfl⟩ := hp
  refine b_cut (fun ρ1 => ∃ a b c u v, ρ1 = [.lst l (encB a b c cells), .dat (.int m), u, v, .un]) (s_if' (k := decide (b = 0)) (tv_eq (ev_ixO (i := 0) rfl ev_int (atI_nat (j := 1) rfl)) ev_int) (fun h1 => ?_) (fun h1 => b_nil ⟨a, b, c, .un, .un, rfl⟩)) (fun ρ1 e => ?_)
  · refine b_cons (s_set (i := 2) sc_law_take.nd (Ev.w (ev_ixO (i := 0) rfl ev_int (atI_nat (j := 2) rfl)) ?_))
    refine b_cons (s_set (i := 3) sc_law_take.nd (Ev.w ev_int ?_))
    refine b_cut (fun ρ1 => ∃ a b z, ρ1 = [.lst l (encB a b c cells), .dat (.int m), .dat (.int c), .dat (.int z), .un]) (s_if' (k := decide ((c : Int) < (cells.map PyData.int).length)) (tv_lt (ev_var (i := 2) rfl) (ev_len ml (ev_ixO (i := 0) rfl ev_int (atI_nat (j := 3) rfl)) rfl)) (fun h2 => ?_) (fun h2 => b_nil ⟨a, b, 0, rfl⟩)) (fun ρ1 e => ?_)
    · have h3 : (c : Int) < cells.length := by
        have := of_decide_eq_true h2
        rwa [List.length_map] at this
      obtain ⟨z, hz⟩ := cell_at h3
      refine b_cons (s_set (i := 3) sc_law_take.nd (Ev.w (ev_ixL (ev_ixO (i := 0) rfl ev_int (atI_nat (j := 3) rfl)) (ev_var (i := 2) rfl) hz) ?_))
      refine b_cons (s_setI (i := 0) (ew_if (Tv.w (tv_ge (ev_var (i := 3) rfl) (ev_pow ev_int ev_int ⟨by decide, by decide, by decide⟩)) ?_)))
      split
      · exact Ev.w ev_int (Ev.w ev_int ⟨l, _, 1, 1, rfl, rfl, ix_is (j := 1) rfl (by show 1 < 4; decide), b_nil ⟨a, 60, z, rfl⟩⟩)
      · exact Ev.w (ev_neg ev_int) (Ev.w ev_int ⟨l, _, 1, 1, rfl, rfl, ix_is (j := 1) rfl (by show 1 < 4; decide), b_nil ⟨a, -9, z, rfl⟩⟩)
    obtain ⟨a, b, z, rfl⟩ := e
    refine b_cons (s_setI (i := 0) (Ev.w (ev_add (ev_var (i := 2) rfl) ev_int) (Ev.w ev_int ⟨l, _, 2, 2, rfl, rfl, ix_is (j := 2) rfl (by show 2 < 4; decide), ?_⟩)))
    refine b_cons (s_setI (i := 0) (Ev.w (ev_var (i := 3) rfl) (Ev.w ev_int ⟨l, _, 0, 0, rfl, rfl, ix_is (j := 0) rfl (by show 0 < 4; decide), ?_⟩)))
    refine b_cons (s_if' (k := decide (b = 0)) (tv_eq (ev_ixO (i := 0) rfl ev_int (atI_nat (j := 1) rfl)) ev_int) (fun h4 => ?_) (fun h4 => ?_))
    · exact b_cons (s_ret (Ev.w ev_int ⟨encB z b (c + 1) cells, ⟨⟨z, b, c + 1, cells, rfl⟩, m, 0, rfl, by decide, hm0, rfl⟩, rfl⟩))
    · exact b_nil (b_nil ⟨z, b, c + 1, .dat (.int c), .dat (.int z), rfl⟩)
  obtain ⟨a, b, c, u, v, rfl⟩ := e
  refine b_cons (s_if' (k := decide (0 < b)) (tv_gt (ev_ixO (i := 0) rfl ev_int (atI_nat (j := 1) rfl)) ev_int) (fun h1 => ?_) (fun h1 => b_nil ?_))
  · refine b_cons (s_set (i := 4) sc_law_take.nd (Ev.w (ev_mod (ev_int1 mi (ev_ixO (i := 0) rfl ev_int (atI_nat (j := 0) rfl))) (ev_var (i := 1) rfl) hm0) ?_))
    refine b_cons (s_setI (i := 0) (Ev.w (ev_fdiv (ev_ixO (i := 0) rfl ev_int (atI_nat (j := 0) rfl)) (ev_var (i := 1) rfl) ⟨hm0, hm1⟩) (Ev.w ev_int ⟨l, _, 0, 0, rfl, rfl, ix_is (j := 0) rfl (by show 0 < 4; decide), ?_⟩)))
    refine b_cons (s_setI (i := 0) (ew_if (Tv.w (tv_gt (ev_ixO (i := 0) rfl ev_int (atI_nat (j := 0) rfl)) ev_int) ?_)))
    split
    · refine Ev.w (ev_sub (ev_ixO (i := 0) rfl ev_int (atI_nat (j := 1) rfl)) ev_int) (Ev.w ev_int ⟨l, _, 1, 1, rfl, rfl, ix_is (j := 1) rfl (by show 1 < 4; decide), ?_⟩)
      exact b_cons (s_ret (Ev.w (ev_var (i := 4) rfl) ⟨encB (a / m) (b - 1) c cells, ⟨⟨_, _, c, cells, rfl⟩, m, a % m, rfl, Int.emod_nonneg _ (by omega), Int.emod_lt_of_pos _ hm0, rfl⟩, rfl⟩))
    · refine Ev.w ev_int (Ev.w ev_int ⟨l, _, 1, 1, rfl, rfl, ix_is (j := 1) rfl (by show 1 < 4; decide), ?_⟩)
      exact b_cons (s_ret (Ev.w (ev_var (i := 4) rfl) ⟨encB (a / m) 0 c cells, ⟨⟨_, _, c, cells, rfl⟩, m, a % m, rfl, Int.emod_nonneg _ (by omega), Int.emod_lt_of_pos _ hm0, rfl⟩, rfl⟩))
  · refine b_cons (s_setI (i := 0) (Ev.w (ev_add (ev_ixO (i := 0) rfl ev_int (atI_nat (j := 1) rfl)) ev_int) (Ev.w ev_int ⟨l, _, 1, 1, rfl, rfl, ix_is (j := 1) rfl (by show 1 < 4; decide), ?_⟩)))
    refine b_cons (s_setI (i := 0) (Ev.w (ev_mod (ev_int1 mi (ev_add (ev_mul (ev_ixO (i := 0) rfl ev_int (atI_nat (j := 0) rfl)) ev_int (.inr ⟨by decide, by decide⟩)) (ev_mul ev_int (ev_add (ev_ixO (i := 0) rfl ev_int (atI_nat (j := 1) rfl)) ev_int) (.inl ⟨by decide, by decide⟩)))) ev_int) (Ev.w ev_int ⟨l, _, 0, 0, rfl, rfl, ix_is (j := 0) rfl (by show 0 < 4; decide), ?_⟩)))
    refine b_cons (s_ret (Ev.w (ev_mod (ev_mod (ev_int1 mi (ev_add (ev_fdiv (ev_ixO (i := 0) rfl ev_int (atI_nat (j := 0) rfl)) ev_int ⟨by decide, by decide⟩) (ev_ixO (i := 0) rfl ev_int (atI_nat (j := 0) rfl)))) ev_int) (ev_var (i := 1) rfl) hm0) ?_))
    exact ⟨_, ⟨⟨_, _, c, cells, rfl⟩, m, _, rfl, Int.emod_nonneg _ (by omega), Int.emod_lt_of_pos _ hm0, rfl⟩, rfl⟩
theorem ew_take {X : Cx} {k i : Nat} {m : Int} {l : Addr} {es : List PyData} {ρ : Rho} {y : Str} {px py pos : Pos} {e : Expr} {Q : PyData → Rho → Prop} (Ft : Fn X.prog X.w X.K X.mg X.base k "_law_take" ["box", "m"] (spBox X.K 2 pre_take po_take)) (hr : Room k X.A) (h0 : ρ[i]? = some (.lst l es)) (hb : Bxs es) (he : Ev X e ρ (.int m)) (hm0 : 0 < m) (hm1 : m < 1073741824)
    (q : ∀ r es', 0 ≤ r → r < m → Bxs es' → Q (.int r) (ρ.set i (.lst l es'))) (hN : X.N[i]? = some y := by rfl) (hv : Vis X.env.scope y := by first | exact Or.inl rfl | exact Or.inr (Or.inl rfl) | exact Or.inr (Or.inr rfl)) (hd : (y == ("__debug__" : Str)) = false := by decide) (hcd : (y == ("__classdict__" : Str)) = false := by decide)
    (hg : Gl X "_law_take" := by rfl) (hst : starEach [.Name y py, e] X.env = (false, eval (.Name y py) X.env) :: starEach [e] X.env := by rfl) (hst2 : starEach [e] X.env = (false, eval e X.env) :: starEach [] X.env := by rfl) (hpl : (backTo pos (starEach [e] X.env)).any (·.1) = false := by rfl) : EvW X (.Call (.Name "_law_take" px) [.Name y py, e] [] pos) ρ Q :=
  ew_callBox (i := i) Ft hr (Av.w (av_cons he av_nil hst2) ⟨l, es, h0, rfl, ⟨hb, m, hm0, hm1, rfl⟩, fun d es' ⟨hb', m', r, e1, h1, h2, e2⟩ => by
    cases e1
    subst e2
    exact q r es' h1 h2 hb'⟩) ⟨l, es, h0⟩ hN hv hd hcd hg (by decide) hst hpl
end
end K17
namespace K17
open PySem PySem.Spec PyProof.Rows L2 Pl Pm
section
variable {P : Program} {w : World} {K : PySem.W.Frag} {mg : Str → Option Value} {base : Heap}
def encO : OI → PyData
  | none => .none
  | some x => .int x
def dM (M : List OI) : PyData := .tuple (M.map encO)
def dI (g : List Int) : PyData := .tuple (g.map PyData.int)
def encN : Option Nat → PyData
  | none => .none
  | some t => .int t
theorem isN_encO (x : OI) : isN (encO x) = x.isNone := by cases x <;> rfl
theorem dM_at {M : List OI} {t : Nat} {x : OI} (h : M[t]? = some x) : atI (M.map encO) (t : Int) = some (encO x) := atI_nat (by rw [List.getElem?_map, h]; rfl)
theorem dM_len (M : List OI) : dlen (dM M) = some M.length := by
  show some (M.map encO).length = _
  rw [List.length_map]
theorem dI_len (M : List Int) : dlen (dI M) = some M.length := by
  show some (M.map PyData.int).length = _
  rw [List.length_map]
def fp_number : List PyData → PyData → Prop := fun ds d => ∃ i : Int, ds = [.int i] ∧ d = .bool true
theorem ok_number {f : Addr} {fd : FuncData} (F : Fun K "is_number" "is_number" s_is_number f fd) (mi : mg "isinstance" = none) (mn : mg "int" = none) (mb : mg "bool" = none) : FnOk P w K mg base CX0 1 f fd ["x"] (spPure K 1 fp_number) := by
  refine fn_pure F sc_is_number (fun cdv A outer s H E ds d hr hp hl => ?_)
  obtain ⟨i, rfl, rfl⟩ := hp
  exact b_cons (s_ret (Ev.w (Ev.to (ev_and (ev_isi (Ts := "int") (t := "int") (k := true) mi mn (ev_var (i := 0) rfl) rfl (by decide +kernel) boot_int) fun _ => ev_one (ev_not (ev_isi (Ts := "bool") (t := "int") (k := false) mi mb (ev_var (i := 0) rfl) rfl (by decide +kernel) boot_bool))) rfl) rfl))
def fp_height : List PyData → PyData → Prop := fun ds d => ∃ i : Int, 0 ≤ i ∧ i ≤ 127 ∧ ds = [.int i] ∧ d = .bool true
theorem ok_height {f : Addr} {fd : FuncData} (F : Fun K "is_height" "is_height" s_is_height f fd) (Fn1 : Fn P w K mg base 1 "is_number" ["x"] (spPure K 1 fp_number)) (cH : Gc K mg "HIGHEST" (.int 127)) : FnOk P w K mg base CX0 2 f fd ["x"] (spPure K 1 fp_height) := by
  refine fn_pure F sc_is_height (fun cdv A outer s H E ds d hr hp hl => ?_)
  obtain ⟨i, h1, h2, rfl, rfl⟩ := hp
  refine b_cons (s_ret (Ev.w (Ev.to (ev_and (ev_call Fn1 hr (av_cons (ev_var (i := 0) rfl) av_nil) ⟨i, rfl, rfl⟩) fun _ => ev_one (ev_chain (k := decide (0 ≤ i)) (kc := decide (i ≤ 127)) op_le op_le ev_int (ev_var (i := 0) rfl) (fun _ => ev_glob cH) (od_I0 (fun _ => .bl _) rfl) fun _ => od_I0 (fun _ => .bl _) rfl)) ?_) rfl))
  rw [decide_eq_true h1, decide_eq_true h2]
  rfl
def HM (M : List OI) : Prop := ∀ x : Int, some x ∈ M → 0 ≤ x ∧ x ≤ 127
def fp_cmel : List PyData → PyData → Prop := fun ds d => ∃ M : List OI, 1 ≤ M.length ∧ M.length ≤ 200 ∧ HM M ∧ ds = [dM M] ∧ d = .none
theorem ok_cmel {f : Addr} {fd : FuncData} (F : Fun K "check_melody" "check_melody" s_check_melody f fd) (Fh : Fn P w K mg base 2 "is_height" ["x"] (spPure K 1 fp_height)) (mi : mg "isinstance" = none) (mt : mg "tuple" = none) (ml : mg "len" = none) (ma : mg "all" = none) (cM : Gc K mg "MOST_TIMES" (.int 200)) : FnOk P w K mg base CX0 3 f fd ["x"] (spPure K 1 fp_cmel) := by
  refine fn_pure F sc_check_melody (fun cdv A outer s H E ds d hr hp hl => ?_)
  obtain ⟨M, h1, h2, h3, rfl, rfl⟩ := hp
  refine b_cons (s_if' (k := false) (tv_w (Tw.to (tw_or' (tv_not' (tv_bool (ev_isi (Ts := "tuple") (t := "tuple") (k := true) mi mt (ev_var (i := 0) rfl) rfl (by decide +kernel) boot_tuple))) fun _ => tw_or1 (tv_not' (tv_chain (k := decide ((1 : Int) ≤ M.length)) (kc := decide ((M.length : Int) ≤ 200)) op_le op_le ev_int (ev_len ml (ev_var (i := 0) rfl) (dM_len M)) (fun _ => ev_glob cM) (od_I0 (fun _ => .bl _) rfl) fun _ => od_I0 (fun _ => .bl _) rfl))) ?_)) (fun h => nomatch h) (fun _ => b_nil ?_))
  · rw [decide_eq_true (by omega : (1 : Int) ≤ M.length), decide_eq_true (by omega : (M.length : Int) ≤ 200)]
    rfl
  refine b_cons (s_if' (k := false) (Tv.to (tv_not' (tv_bool (ev_allC (own := [("one", 1)]) M (fun _ => true) (fun _ => true) (lc_map (j := 1) M encO _ _ sc_check_melody.nd (iv_ofT (ev_var (i := 0) rfl) ⟨rfl, rfl, trivial⟩) (by omega) (fun y hy s H C cl fp => tf_nil ⟨rfl, rfl⟩)
    (fun y hy _ s H C cl fp => by
      cases y with
      | none => exact ev_or (k := isN (encO none)) (kb := true) (ev_isN (ev_var (i := 1) rfl)) fun h => absurd h (by decide)
      | some x => exact ev_or (k := isN (encO (some x))) (kb := true) (ev_isN (ev_var (i := 1) rfl)) fun _ => ev_one (ev_call Fh hr (av_cons (ev_var (i := 1) rfl) av_nil) ⟨x, (h3 x hy).1, (h3 x hy).2, rfl, rfl⟩))) rfl ma sc_check_melody.nd (blkOk_by (N := N_check_melody) (sc := defScope s_check_melody) (by decide +kernel))))) ?_) (fun h => nomatch h) (fun _ => b_nil (b_nil rfl)))
  have e : (M.all fun x => !(fun _ => true) x || true) = true := by simp
  rw [e]
  rfl
structure Gd (g : List Int) : Prop where
  r : ∀ x ∈ g, 0 ≤ x ∧ x < 12
  up : ∀ k, k + 1 < g.length → g.getD k 0 < g.getD (k + 1) 0
  few : g.length ≤ 12
theorem dI_at {g : List Int} {k : Nat} (h : k < g.length) : atI (g.map PyData.int) (k : Int) = some (.int (g.getD k 0)) := atI_nat (by
  rw [List.getElem?_map, List.getElem?_eq_getElem h]
  simp [List.getD, h])
def fp_cgood : List PyData → PyData → Prop := fun ds d => ∃ g : List Int, Gd g ∧ ds = [dI g] ∧ d = .none
theorem ok_cgood {f : Addr} {fd : FuncData} (F : Fun K "check_good" "check_good" s_check_good f fd) (Fn1 : Fn P w K mg base 1 "is_number" ["x"] (spPure K 1 fp_number)) (mi : mg "isinstance" = none) (mt : mg "tuple" = none) (ml : mg "len" = none) (ma : mg "all" = none) (mr : mg "range" = none) : FnOk P w K mg base CX0 2 f fd ["x"] (spPure K 1 fp_cgood) := by
  refine fn_pure F sc_check_good (fun cdv A outer s H E ds d hr hp hl => ?_)
  obtain ⟨g, hg, rfl, rfl⟩ := hp
  have few := hg.few
  refine b_cons (s_if' (k := false) (tv_w (Tw.to (tw_or' (tv_not' (tv_bool (ev_isi (Ts := "tuple") (t := "tuple") (k := true) mi mt (ev_var (i := 0) rfl) rfl (by decide +kernel) boot_tuple))) fun _ => tw_or1 (tv_not' (tv_bool (ev_allC (own := [("one", 1)]) g (fun _ => true) (fun x => decide (0 ≤ x) && decide (x < 12)) (lc_map (j := 1) g PyData.int _ _ sc_check_good.nd (iv_ofT (ev_var (i := 0) rfl) ⟨rfl, rfl, trivial⟩) (by omega) (fun y hy s H C cl fp => tf_nil ⟨rfl, rfl⟩)
    (fun y hy _ s H C cl fp => Ev.to (ev_and (ev_call Fn1 hr (av_cons (ev_var (i := 1) rfl) av_nil) ⟨y, rfl, rfl⟩) fun _ => ev_one (ev_chain (k := decide (0 ≤ y)) (kc := decide (y < 12)) op_le op_lt ev_int (ev_var (i := 1) rfl) (fun _ => ev_int) (od_I0 (fun _ => .bl _) rfl) fun _ => od_I0 (fun _ => .bl _) rfl)) rfl)) rfl ma sc_check_good.nd (blkOk_by (N := N_check_good) (sc := defScope s_check_good) (by decide +kernel)))))) ?_)) (fun h => nomatch h) (fun _ => b_nil ?_))
  · have e : (g.all fun x => !(fun _ => true) x || (decide (0 ≤ x) && decide (x < 12))) = true := List.all_eq_true.mpr fun x hx => by
      rw [decide_eq_true (hg.r x hx).1, decide_eq_true (hg.r x hx).2]
      rfl
    rw [e]
    rfl
  refine b_cons (s_if' (k := false) (Tv.to (tv_not' (tv_bool (ev_allC (own := [("k", 2)]) (List.range (g.length - 1)) (fun _ => true) (fun k => decide (g.getD k 0 < g.getD (k + 1) 0)) (lc_map (j := 2) (List.range (g.length - 1)) (fun k => PyData.int (0 + (k : Int))) _ _ sc_check_good.nd
    (iv_rng1 mr (Ev.w (ev_sub (ev_len ml (ev_var (i := 0) rfl) (dI_len g)) ev_int) ⟨_, rfl, by omega, by omega, rfl, by rw [show ((g.length : Int) - 1).toNat = g.length - 1 by omega]; rfl, trivial⟩)) (by rw [List.length_range]; omega) (fun y hy s H C cl fp => tf_nil ⟨rfl, rfl⟩)
    (fun y hy _ s H C cl fp => ev_lt (ev_ixT (ev_var (i := 0) rfl) (ev_var (i := 2) rfl) (by rw [Int.zero_add]; exact dI_at (by have := List.mem_range.mp hy; omega))) (ev_ixT (ev_var (i := 0) rfl) (ev_add (ev_var (i := 2) rfl) ev_int) (by rw [show (0 + (y : Int)) + 1 = ((y + 1 : Nat) : Int) by omega]; exact dI_at (by have := List.mem_range.mp hy; omega))))) rfl ma sc_check_good.nd (blkOk_by (N := N_check_good) (sc := defScope s_check_good) (by decide +kernel))))) ?_) (fun h => nomatch h) (fun _ => b_nil (b_nil rfl)))
  have e : ((List.range (g.length - 1)).all fun x => !(fun _ => true) x || decide (g.getD x 0 < g.getD (x + 1) 0)) = true := List.all_eq_true.mpr fun x hx => by
    rw [decide_eq_true (hg.up x (by have := List.mem_range.mp hx; omega))]
    rfl
  rw [e]
  rfl
def fp_cmost : List PyData → PyData → Prop := fun ds d => ∃ x m : Int, 1 ≤ x ∧ x ≤ m ∧ ds = [.int x, .int m] ∧ d = .none
theorem ok_cmost {f : Addr} {fd : FuncData} (F : Fun K "check_most" "check_most" s_check_most f fd) (Fn1 : Fn P w K mg base 1 "is_number" ["x"] (spPure K 1 fp_number)) : FnOk P w K mg base CX0 2 f fd ["x", "most"] (spPure K 2 fp_cmost) := by
  refine fn_pure F sc_check_most (fun cdv A outer s H E ds d hr hp hl => ?_)
  obtain ⟨x, m, h1, h2, rfl, rfl⟩ := hp
  refine b_cons (s_if' (k := false) (tv_w (Tw.to (tw_or' (tv_not' (tv_bool (ev_call Fn1 hr (av_cons (ev_var (i := 0) rfl) av_nil) ⟨x, rfl, rfl⟩))) fun _ => tw_or1 (tv_not' (tv_chain (k := decide (1 ≤ x)) (kc := decide (x ≤ m)) op_le op_le ev_int (ev_var (i := 0) rfl) (fun _ => ev_var (i := 1) rfl) (od_I0 (fun _ => .bl _) rfl) fun _ => od_I0 (fun _ => .bl _) rfl))) ?_)) (fun h => nomatch h) (fun _ => b_nil (b_nil rfl)))
  rw [decide_eq_true h1, decide_eq_true h2]
  rfl
def fp_clash : List PyData → PyData → Prop := fun ds d => ∃ (M N : List OI) (g : List Int), M.length ≤ 1000 ∧ N.length ≤ 1000 ∧ ds = [dM M, dM N, dI g] ∧ d = encN (clash M N g)
theorem find_at {p : Nat → Bool} {n k : Nat} (hk : k < n) (h0 : ∀ t, t < k → p t = false) (h1 : p k = true) : (List.range n).find? p = some k := by
  rw [List.find?_range_eq_some]
  exact ⟨h1, List.mem_range.mpr hk, fun t ht => by rw [h0 t ht]; rfl⟩
def clO (g : List Int) : OI → OI → Bool
  | some a, some b => badI g a b
  | _, _ => false
theorem ok_clash {f : Addr} {fd : FuncData} (F : Fun K "first_clash" "first_clash" s_first_clash f fd) (ml : mg "len" = none) (mr : mg "range" = none) (mn : mg "min" = none) (mb : mg "abs" = none) : FnOk P w K mg base CX0 1 f fd ["one", "other", "good"] (spPure K 3 fp_clash) := by
  refine fn_pure F sc_first_clash (fun cdv A outer s H E ds d hr hp hl => ?_)
  obtain ⟨M, N, g, hM, hN, rfl, rfl⟩ := hp
  have hmin : (if ((N.length : Int)) < M.length then ((N.length : Int)) else M.length) = ((min M.length N.length : Nat) : Int) := by split <;> omega
  refine b_cons (s_for rfl (iv_rng1 mr (ew_min2 rfl mn (aw_two (ev_len ml (ev_var (i := 0) rfl) (dM_len M)) (Ev.w (ev_len ml (ev_var (i := 1) rfl) (dM_len N)) ⟨_, _, rfl, _, rfl, by rw [hmin]; omega, by rw [hmin]; omega, ?_⟩)))))
  rw [hmin, Int.toNat_natCast]
  refine ⟨fun k ρ2 => (∀ t, t < k → clT M N g t = false) ∧ ∃ u, ρ2 = [.dat (dM M), .dat (dM N), .dat (dI g), u], fun _ _ _ => trivial, ⟨fun t ht => absurd ht (Nat.not_lt_zero _), .un, rfl⟩, fun k d ρ2 hd ⟨h0, u, e⟩ => ?_, fun ρ2 ⟨h0, u, e⟩ => ?_⟩
  · subst e
    obtain ⟨hk, rfl⟩ := rng_get hd
    rw [Int.zero_add]
    refine g_name (i := 3) sc_first_clash.nd trivial ?_
    obtain ⟨x, hx⟩ : ∃ x, M[k]? = some x := ⟨M[k]'(by omega), List.getElem?_eq_getElem _⟩
    obtain ⟨y, hy⟩ : ∃ y, N[k]? = some y := ⟨N[k]'(by omega), List.getElem?_eq_getElem _⟩
    have hc : clT M N g k = clO g x y := by
      unfold clT
      rw [hx, hy]
      cases x <;> cases y <;> rfl
    refine b_cons (s_if' (k := clT M N g k) (tv_w (by
        rw [hc]
        cases x with
        | none => exact Tw.to (tw_and' (kb := false) (tv_notN (ev_ixT (ev_var (i := 0) rfl) (ev_var (i := 3) rfl) (dM_at hx))) fun h => nomatch h) rfl
        | some a =>
          cases y with
          | none => exact Tw.to (tw_and' (tv_notN (ev_ixT (ev_var (i := 0) rfl) (ev_var (i := 3) rfl) (dM_at hx))) fun _ => tw_and' (kb := false) (tv_notN (ev_ixT (ev_var (i := 1) rfl) (ev_var (i := 3) rfl) (dM_at hy))) fun h => nomatch h) rfl
          | some b => exact Tw.to (tw_and' (tv_notN (ev_ixT (ev_var (i := 0) rfl) (ev_var (i := 3) rfl) (dM_at hx))) fun _ => tw_and' (tv_notN (ev_ixT (ev_var (i := 1) rfl) (ev_var (i := 3) rfl) (dM_at hy))) fun _ => tw_and1 (tv_niI g (ev_mod (ev_abs mb (ev_sub (ev_ixT (ev_var (i := 0) rfl) (ev_var (i := 3) rfl) (dM_at hx)) (ev_ixT (ev_var (i := 1) rfl) (ev_var (i := 3) rfl) (dM_at hy)))) ev_int) (ev_var (i := 2) rfl))) rfl)) (fun h1 => ?_) (fun h1 => b_nil (b_nil ⟨fun t ht => ?_, .dat (.int k), rfl⟩)))
    · refine b_cons (s_ret (Ev.w (ev_var (i := 3) rfl) ?_))
      unfold clash
      rw [find_at hk h0 h1]
      rfl
    · by_cases q : t = k
      · rw [q]
        exact h1
      · exact h0 t (by omega)
  · subst e
    rw [rng_len] at h0
    refine b_cons (s_ret (Ev.w ev_non ?_))
    have : clash M N g = none := by
      have := clash_none.mpr fun t => (if q : t < min M.length N.length then h0 t q else clT_out (by omega))
      simpa using this
    rw [this]
    rfl
def fp_voice : List PyData → PyData → Prop := fun ds d => ∃ (M : List OI) (k s : Int), 0 ≤ k ∧ k ≤ 1000 ∧ M.length ≤ 1000 ∧ ds = [dM M, .int k, .int s] ∧ d = dM (later M k.toNat s)
theorem ok_voice {f : Addr} {fd : FuncData} (F : Fun K "voice_of" "voice_of" s_voice_of f fd) (mt : mg "tuple" = none) : FnOk P w K mg base CX0 1 f fd ["melody", "delay", "shift"] (spPure K 3 fp_voice) := by
  refine fn_pure F sc_voice_of (fun cdv A outer s H E ds d hr hp hl => ?_)
  obtain ⟨M, k, sh, h0, h1, h2, rfl, rfl⟩ := hp
  refine b_cons (s_ret (Ev.w (ev_catT (ev_repA (ev_tup (av_cons ev_non av_nil)) (ev_var (i := 1) rfl) (by simp) h0 h1 (by simp)) (ev_tuple mt (ev_lc (own := [("one", 3)]) (lc_map (j := 3) M encO (fun _ => true) (fun x => encO (x.map (· + sh))) sc_voice_of.nd (iv_ofT (ev_var (i := 0) rfl) ⟨rfl, rfl, trivial⟩) (by omega) (fun y hy s H C cl fp => tf_nil ⟨rfl, rfl⟩)
    (fun y hy _ s H C cl fp => by
      cases y with
      | none => exact ev_if (k := isN (encO none)) (tv_isN (ev_var (i := 3) rfl)) (fun _ => ev_non) (fun h => absurd h (by decide))
      | some x => exact ev_if (k := isN (encO (some x))) (tv_isN (ev_var (i := 3) rfl)) (fun h => nomatch h) (fun _ => ev_add (ev_var (i := 3) rfl) (ev_var (i := 2) rfl)))) rfl sc_voice_of.nd (blkOk_by (N := N_voice_of) (sc := defScope s_voice_of) (by decide +kernel)))) ?_) ?_))
  · rw [filter_yes]
    simp
    omega
  · show _ = dM (later M k.toNat sh)
    unfold dM later
    rw [filter_yes, List.map_append, List.map_map, List.map_replicate]
    have e : (List.replicate k.toNat [PyData.none]).flatten = List.replicate k.toNat PyData.none := by simp
    rw [e]
    rfl
end
end K17
namespace K17
open PySem PySem.Spec PyProof.Rows L2 Pl Pm
section
variable {P : Program} {w : World} {K : PySem.W.Frag} {mg : Str → Option Value} {base : Heap}
theorem later_len (M : List OI) (d : Nat) (s : Int) : (later M d s).length = d + M.length := by
  unfold later
  rw [List.length_append, List.length_replicate, List.length_map]
theorem isN_encN (x : Option Nat) : isN (encN x) = x.isNone := by cases x <;> rfl
def fitD (M : List OI) (g : List Int) (d : Int) (n : Nat) : List PK := ((rI (-12) n).filter fun s => fitB M g (d, s)).map fun s => (d, s)
theorem fits_eq (M : List OI) (g : List Int) (most : Nat) : fits M g most = (rI 1 most).flatMap fun d => fitD M g d 25 := rfl
theorem rI_succ (lo : Int) (n : Nat) : rI lo (n + 1) = rI lo n ++ [lo + (n : Int)] := by
  unfold rI
  rw [List.range_succ, List.map_append]
  rfl
theorem fitD_succ (M : List OI) (g : List Int) (d : Int) (n : Nat) : fitD M g d (n + 1) = fitD M g d n ++ if fitB M g (d, -12 + (n : Int)) = true then [(d, -12 + (n : Int))] else [] := by
  unfold fitD
  rw [rI_succ, List.filter_append, List.map_append]
  congr 1
  cases h : fitB M g (d, -12 + (n : Int)) <;> simp [h]
theorem fitD_len (M : List OI) (g : List Int) (d : Int) (n : Nat) : (fitD M g d n).length ≤ n := by
  unfold fitD
  rw [List.length_map]
  refine Nat.le_trans (List.length_filter_le _ _) ?_
  simp [rI]
theorem fits_succ (M : List OI) (g : List Int) (n : Nat) : fits M g (n + 1) = fits M g n ++ fitD M g (1 + (n : Int)) 25 := by
  rw [fits_eq, fits_eq, rI_succ, List.flatMap_append]
  simp
theorem fits_len (M : List OI) (g : List Int) : ∀ n, (fits M g n).length ≤ 25 * n
  | 0 => Nat.le_refl _
  | n + 1 => by
    rw [fits_succ, List.length_append]
    have := fits_len M g n
    have := fitD_len M g (1 + (n : Int)) 25
    omega
def fp_fitting : List PyData → PyData → Prop := fun ds d => ∃ (M : List OI) (g : List Int) (most : Nat), M.length ≤ 200 ∧ most ≤ 40 ∧ ds = [dM M, dI g, .int most] ∧ d = .list ((fits M g most).map pr)
theorem ok_fitting {f : Addr} {fd : FuncData} (F : Fun K "fitting" "fitting" s_fitting f fd) (Fc : Fn P w K mg base 1 "first_clash" ["one", "other", "good"] (spPure K 3 fp_clash)) (Fv : Fn P w K mg base 1 "voice_of" ["melody", "delay", "shift"] (spPure K 3 fp_voice)) (mr : mg "range" = none) : FnOk P w K mg base CX0 2 f fd ["melody", "good", "most"] (spPure K 3 fp_fitting) := by
  refine fn_pure F sc_fitting (fun cdv A outer s H E ds d hr hp hl => ?_)
  obtain ⟨M, g, most, hM, hm, rfl, rfl⟩ := hp
  refine b_cons (s_setL (i := 3) sc_fitting.nd (El.w (el_lst av_nil) fun L => ?_))
  show BvW _ _ [.dat (dM M), .dat (dI g), .dat (.int most), .lst L ((fits M g 0).map pr), .un, .un] _
  refine b_cons (s_for rfl (iv_rng2 mr (Av.w (av_cons ev_int (av_cons (ev_add (ev_var (i := 2) rfl) ev_int) av_nil)) ⟨1, _, rfl, by decide, by decide, by omega, by omega, ?_⟩)))
  have et : ((most : Int) + 1 - 1).toNat = most := by omega
  rw [et]
  refine ⟨fun k ρ2 => ∃ u v, ρ2 = [.dat (dM M), .dat (dI g), .dat (.int most), .lst L ((fits M g k).map pr), u, v], fun _ _ _ => trivial, ⟨.un, .un, rfl⟩, fun k d ρ2 hd ⟨u, v, e⟩ => ?_, fun ρ2 ⟨u, v, e⟩ => ?_⟩
  · subst e
    obtain ⟨hk, rfl⟩ := rng_get hd
    refine g_name (i := 4) sc_fitting.nd trivial ?_
    refine b_cons (s_for rfl (iv_rng2 mr (Av.w (av_cons (ev_neg ev_int) (av_cons ev_int av_nil)) ⟨-12, 13, rfl, by decide, by decide, by decide, by decide, fun m ρ2 => ∃ v, ρ2 = [.dat (dM M), .dat (dI g), .dat (.int most), .lst L ((fits M g k ++ fitD M g (1 + (k : Int)) m).map pr), .dat (.int (1 + (k : Int))), v], fun _ _ _ => trivial, ⟨v, by rw [show fitD M g (1 + (k : Int)) 0 = [] from rfl, List.append_nil]; rfl⟩, fun m d ρ2 hd ⟨v, e⟩ => ?_, fun ρ2 ⟨v, e⟩ => ?_⟩)))
    · subst e
      obtain ⟨hm2, rfl⟩ := rng_get hd
      refine g_name (i := 5) sc_fitting.nd trivial ?_
      have hl1 := fits_len M g k
      have hl2 := fitD_len M g (1 + (k : Int)) m
      refine b_cons (s_if' (k := fitB M g (1 + (k : Int), -12 + (m : Int))) (Tv.to (tv_isN (ev_call Fc hr (av_cons (ev_var (i := 0) rfl) (av_cons (ev_call Fv hr (av_cons (ev_var (i := 0) rfl) (av_cons (ev_var (i := 4) rfl) (av_cons (ev_var (i := 5) rfl) av_nil))) ⟨M, 1 + (k : Int), -12 + (m : Int), by omega, by omega, by omega, rfl, rfl⟩) (av_cons (ev_var (i := 1) rfl) av_nil)))
        ⟨M, later M (1 + (k : Int)).toNat (-12 + (m : Int)), g, by omega, by rw [later_len]; omega, rfl, rfl⟩)) (isN_encN _)) (fun h1 => ?_) (fun h1 => ?_))
      · refine b_cons (s_app (i := 3) (Ev.w (ev_tup (av_cons (ev_var (i := 4) rfl) (av_cons (ev_var (i := 5) rfl) av_nil))) ⟨L, _, rfl, by rw [List.length_map, List.length_append]; omega, ?_⟩))
        refine b_nil (b_nil ⟨.dat (.int (-12 + (m : Int))), ?_⟩)
        rw [fitD_succ, h1, if_pos rfl, ← List.append_assoc]
        simp only [List.map_append]
        rfl
      · refine b_nil (b_nil ⟨.dat (.int (-12 + (m : Int))), ?_⟩)
        rw [fitD_succ, h1, if_neg Bool.false_ne_true, List.append_nil]
        rfl
    · subst e
      refine b_nil ⟨.dat (.int (1 + (k : Int))), v, ?_⟩
      rw [fits_succ]
      rfl
  · subst e
    rw [rng_len]
    exact b_freeze (i := 3) rfl (b_cons (s_ret (Ev.w (ev_var (i := 3) rfl) rfl)))
def fp_fits : List PyData → PyData → Prop := fun ds d => ∃ (M : List OI) (g : List Int) (most : Nat), 1 ≤ M.length ∧ M.length ≤ 200 ∧ HM M ∧ Gd g ∧ 1 ≤ most ∧ most ≤ 40 ∧ ds = [dM M, dI g, .int most] ∧ d = .tuple ((fits M g most).map pr)
theorem ok_fits {f : Addr} {fd : FuncData} (F : Fun K "all_fits" "all_fits" s_all_fits f fd) (Fm : Fn P w K mg base 3 "check_melody" ["x"] (spPure K 1 fp_cmel)) (Fg : Fn P w K mg base 2 "check_good" ["x"] (spPure K 1 fp_cgood)) (Fo : Fn P w K mg base 2 "check_most" ["x", "most"] (spPure K 2 fp_cmost)) (Ff : Fn P w K mg base 2 "fitting" ["melody", "good", "most"] (spPure K 3 fp_fitting)) (mt : mg "tuple" = none) :
    FnOk P w K mg base CX0 4 f fd ["melody", "good", "most"] (spPure K 3 fp_fits) := by
  refine fn_pure F sc_all_fits (fun cdv A outer s H E ds d hr hp hl => ?_)
  obtain ⟨M, g, most, h1, h2, h3, h4, h5, h6, rfl, rfl⟩ := hp
  refine b_cons (s_expr (Ev.w (ev_call Fm hr (av_cons (ev_var (i := 0) rfl) av_nil) ⟨M, h1, h2, h3, rfl, rfl⟩) ?_))
  refine b_cons (s_expr (Ev.w (ev_call Fg (hr.mono (by decide)) (av_cons (ev_var (i := 1) rfl) av_nil) ⟨g, h4, rfl, rfl⟩) ?_))
  refine b_cons (s_expr (Ev.w (ev_call Fo (hr.mono (by decide)) (av_cons (ev_var (i := 2) rfl) (av_cons ev_int av_nil)) ⟨most, 40, by omega, by omega, rfl, rfl⟩) ?_))
  exact b_cons (s_ret (Ev.w (ev_tuple mt (ev_call Ff (hr.mono (by decide)) (av_cons (ev_var (i := 0) rfl) (av_cons (ev_var (i := 1) rfl) (av_cons (ev_var (i := 2) rfl) av_nil))) ⟨M, g, most, h2, h6, rfl, rfl⟩)) rfl))
/-! what is known -/
theorem nodup_lt : ∀ (n : Nat) (l : List Nat), l.Nodup → (∀ x ∈ l, x < n) → l.length ≤ n
  | 0, l, _, h => by
    cases l with
    | nil => exact Nat.le_refl _
    | cons x r => exact absurd (h x List.mem_cons_self) (Nat.not_lt_zero _)
  | n + 1, l, nd, h => by
    have ih := nodup_lt n (l.erase n) (nd.erase n) fun x hx => by
      have h1 := (List.Nodup.mem_erase_iff nd).mp hx
      have := h x h1.2
      have := h1.1
      omega
    by_cases q : n ∈ l
    · rw [List.length_erase_of_mem q] at ih
      omega
    · rw [List.erase_of_not_mem q] at ih
      omega
structure KOk (M : List OI) (g : List Int) (kvs : List (PK × Bool)) : Prop where
  v : ∀ p ∈ kvs, p.2 = fitB M g p.1
  r : ∀ p ∈ kvs, (0 ≤ p.1.1 ∧ p.1.1 ≤ 50) ∧ (-100 ≤ p.1.2 ∧ p.1.2 ≤ 100)
  nd : (kvs.map (·.1)).Nodup
theorem KOk.few {M : List OI} {g : List Int} {kvs : List (PK × Bool)} (h : KOk M g kvs) : kvs.length < 100000 := by
  have h1 := nodup_lt 20000 ((kvs.map (·.1)).map fun k => (k.1 * 201 + (k.2 + 100)).toNat) (by
    rw [List.nodup_iff_pairwise_ne, List.pairwise_map, List.pairwise_map]
    have h2 := h.nd
    rw [List.nodup_iff_pairwise_ne, List.pairwise_map] at h2
    refine List.Pairwise.imp_of_mem (fun {a b} ha hb hne e => hne ?_) h2
    have r1 := h.r a ha
    have r2 := h.r b hb
    have e1 : a.1.1 = b.1.1 := by omega
    have e2 : a.1.2 = b.1.2 := by omega
    exact Prod.ext e1 e2) fun x hx => by
    obtain ⟨k, hk, rfl⟩ := List.mem_map.mp hx
    obtain ⟨p, hp, rfl⟩ := List.mem_map.mp hk
    have := h.r p hp
    show (p.1.1 * 201 + (p.1.2 + 100)).toNat < 20000
    omega
  rw [List.length_map, List.length_map] at h1
  omega
theorem KOk.get {M : List OI} {g : List Int} {kvs : List (PK × Bool)} (h : KOk M g kvs) {k : PK} {z : Bool} (e : Pm.mk kvs k = some z) : z = fitB M g k := by
  unfold Pm.mk at e
  obtain ⟨p, hp, rfl⟩ := Option.map_eq_some_iff.mp e
  have h1 := List.mem_of_find?_eq_some hp
  have h2 : p.1 = k := by simpa using List.find?_some hp
  rw [h.v p h1, h2]
theorem mk_none {kvs : List (PK × Bool)} {k : PK} (e : mk kvs k = none) : ∀ x ∈ kvs, ¬ x.1 = k := by
  unfold Pm.mk at e
  rw [Option.map_eq_none_iff, List.find?_eq_none] at e
  intro x hx
  simpa using e x hx
theorem mk_app {kvs : List (PK × Bool)} {k : PK} {z : Bool} (e : mk kvs k = none) : mk (kvs ++ [(k, z)]) k = some z := by
  unfold Pm.mk at e ⊢
  rw [Option.map_eq_none_iff] at e
  rw [List.find?_append, e]
  simp
theorem KOk.add {M : List OI} {g : List Int} {kvs : List (PK × Bool)} (h : KOk M g kvs) {k : PK} (e : Pm.mk kvs k = none) (r : (0 ≤ k.1 ∧ k.1 ≤ 50) ∧ (-100 ≤ k.2 ∧ k.2 ≤ 100)) : KOk M g (kvs ++ [(k, fitB M g k)]) := by
  refine ⟨fun p hp => ?_, fun p hp => ?_, ?_⟩
  · rcases List.mem_append.mp hp with hp | hp
    · exact h.v p hp
    · rw [List.mem_singleton.mp hp]
  · rcases List.mem_append.mp hp with hp | hp
    · exact h.r p hp
    · rw [List.mem_singleton.mp hp]
      exact r
  · rw [List.map_append, List.nodup_append]
    refine ⟨h.nd, by simp, fun a ha b hb => ?_⟩
    obtain ⟨x, hx, rfl⟩ := List.mem_map.mp ha
    obtain rfl := List.mem_singleton.mp hb
    exact mk_none e x hx
abbrev kO (P : Program) (w : World) (M : List OI) (g : List Int) (kvs : List (PK × Bool)) : Ow := mixO P w (.tuple [dM M, dI g]) kvs
def dif (a b : PK) : PK := (b.1 - a.1, b.2 - a.2)
def pre_fb (P : Program) (w : World) (M : List OI) (g : List Int) : List PyData → Ow → Prop := fun ds Φ => ∃ kvs a b, KOk M g kvs ∧ ((0 ≤ b.1 - a.1 ∧ b.1 - a.1 ≤ 50) ∧ (-100 ≤ b.2 - a.2 ∧ b.2 - a.2 ≤ 100)) ∧ ds = [pr a, pr b] ∧ Φ = kO P w M g kvs
def po_fb (P : Program) (w : World) (M : List OI) (g : List Int) : List PyData → Ow → PyData → Ow → Prop := fun ds _ d Φ' => ∃ kvs', KOk M g kvs' ∧ Φ' = kO P w M g kvs' ∧ ∀ a b, ds = [pr a, pr b] → d = .bool (fitB M g (dif a b))
theorem pr_inj {a b : PK} (h : pr a = pr b) : a = b := by
  unfold pr at h
  injection h with h
  injection h with h1 h2
  injection h2 with h2
  injection h1 with h1
  injection h2 with h2
  exact Prod.ext h1 h2
theorem ok_between (M : List OI) (g : List Int) (hM : M.length ≤ 200) {f : Addr} {fd : FuncData} (F : Fun K "fit_between" "fit_between" s_fit_between f fd) (Fc : Fn P w K mg base 1 "first_clash" ["one", "other", "good"] (spPure K 3 fp_clash)) (Fv : Fn P w K mg base 1 "voice_of" ["melody", "delay", "shift"] (spPure K 3 fp_voice)) :
    FnOk P w K mg base CX0 2 f fd ["one", "other", "known"] (spObj K 3 (pre_fb P w M g) (po_fb P w M g)) := by
  refine fn_obj F sc_fit_between (fun cdv A outer s H E l Φ ds hr hp hl => ?_)
  obtain ⟨kvs, a, b, hK, hd, rfl, rfl⟩ := hp
  have hu : (fX P w K mg base N_fit_between (Str.ofString "fit_between") s_fit_between f cdv A outer s H E).A.units + 2 < cLine := by
    have := hr.units
    omega
  have a0 : atI [PyData.int a.1, .int a.2] 0 = some (.int a.1) := atI_nat (j := 0) rfl
  have a1 : atI [PyData.int a.1, .int a.2] 1 = some (.int a.2) := atI_nat (j := 1) rfl
  have b0 : atI [PyData.int b.1, .int b.2] 0 = some (.int b.1) := atI_nat (j := 0) rfl
  have b1 : atI [PyData.int b.1, .int b.2] 1 = some (.int b.2) := atI_nat (j := 1) rfl
  show BvW _ _ [.dat (pr a), .dat (pr b), .obj l (kO P w M g kvs), .un, .un, .un] _
  refine b_cons (s_set (i := 3) sc_fit_between.nd (Ev.w (ev_tup (av_cons (ev_sub (ev_ixT (ev_var (i := 1) rfl) ev_int b0) (ev_ixT (ev_var (i := 0) rfl) ev_int a0)) (av_cons (ev_sub (ev_ixT (ev_var (i := 1) rfl) ev_int b1) (ev_ixT (ev_var (i := 0) rfl) ev_int a1)) av_nil))) ?_))
  show BvW _ _ [.dat (pr a), .dat (pr b), .obj l (kO P w M g kvs), .dat (pr (dif a b)), .un, .un] _
  have d0 : atI [PyData.int (dif a b).1, .int (dif a b).2] 0 = some (.int (dif a b).1) := atI_nat (j := 0) rfl
  have d1 : atI [PyData.int (dif a b).1, .int (dif a b).2] 1 = some (.int (dif a b).2) := atI_nat (j := 1) rfl
  refine b_cut (fun ρ2 => ∃ kvs' u v, KOk M g kvs' ∧ mk kvs' (dif a b) = some (fitB M g (dif a b)) ∧ ρ2 = [.dat (pr a), .dat (pr b), .obj l (kO P w M g kvs'), .dat (pr (dif a b)), u, v]) (s_if' (k := !(mk kvs (dif a b)).isSome) (tv_mixNi (i := 2) (l := l) (kvs := kvs) hu (ev_var (i := 3) rfl) rfl) (fun h1 => ?_) (fun h1 => b_nil ?_)) (fun ρ2 e => ?_)
  · have hn : mk kvs (dif a b) = none := by
      cases q : mk kvs (dif a b) with
      | none => rfl
      | some z =>
        rw [q] at h1
        cases h1
    refine b_cons (s_asg (Ev.w (ev_mixGt (i := 2) (l := l) (kvs := kvs) hu rfl) (g_tup rfl (gs_cons (g_name (i := 4) sc_fit_between.nd trivial (gs_cons (g_name (i := 5) sc_fit_between.nd trivial (gs_nil ?_))))))))
    refine b_cons (s_mixSt (i := 2) (l := l) (kvs := kvs) (k := dif a b) (z := fitB M g (dif a b)) hu rfl (Ev.to (ev_isN (ev_call Fc hr (av_cons (ev_var (i := 4) rfl) (av_cons (ev_call Fv hr (av_cons (ev_var (i := 4) rfl) (av_cons (ev_ixT (ev_var (i := 3) rfl) ev_int d0) (av_cons (ev_ixT (ev_var (i := 3) rfl) ev_int d1) av_nil))) ⟨M, (dif a b).1, (dif a b).2, hd.1.1, by have := hd.1.2; show b.1 - a.1 ≤ 1000; omega, by omega, rfl, rfl⟩) (av_cons (ev_var (i := 5) rfl) av_nil)))
      ⟨M, later M (dif a b).1.toNat (dif a b).2, g, by omega, by
        have h3 := hd.1
        have h4 : (dif a b).1.toNat ≤ 50 := by
          show (b.1 - a.1).toNat ≤ 50
          omega
        rw [later_len]
        omega, rfl, rfl⟩)) (by rw [isN_encN]; rfl)) (ev_var (i := 3) rfl) hK.few (mk_none hn) ?_)
    exact b_nil ⟨_, _, _, hK.add hn hd, mk_app hn, rfl⟩
  · cases q : mk kvs (dif a b) with
    | none =>
      rw [q] at h1
      cases h1
    | some z => exact ⟨kvs, .un, .un, hK, by rw [q, hK.get q], rfl⟩
  · obtain ⟨kvs', u, v, hK', hv, rfl⟩ := e
    refine b_cons (s_ret (Ev.w (ev_mixGp (i := 2) (l := l) (kvs := kvs') hu rfl (ev_var (i := 3) rfl) hv) ⟨kO P w M g kvs', ⟨kvs', hK', rfl, fun a' b' e => ?_⟩, rfl⟩))
    injection e with e1 e2
    injection e2 with e2 _
    rw [pr_inj e1, pr_inj e2]
end
end K17
namespace K17
open PySem PySem.Spec PyProof.Rows L2 Pl Pm
section
variable {P : Program} {w : World} {K : PySem.W.Frag} {mg : Str → Option Value} {base : Heap}
theorem EoW.imp {X : Cx} {e : Expr} {ρ : Rho} {Q Q' : Ow → Rho → Prop} (h : EoW X e ρ Q) (q : ∀ Φ ρ1, Q Φ ρ1 → Q' Φ ρ1) : EoW X e ρ Q' := fun σ G H rel R k => h σ G H rel R fun a o Φ ρ' G' H' r s n1 n2 n3 h1 h2 z => k a o Φ ρ' G' H' r s n1 n2 n3 h1 h2 (q Φ ρ' z)
def rw0 (rows : List PK) (k : Nat) : PK := rows.getD k (0, 0)
structure RowsOk (rows : List PK) : Prop where
  few : rows.length ≤ 1000
  df : ∀ i j, i ≤ j → j < rows.length → (0 ≤ (rw0 rows j).1 - (rw0 rows i).1 ∧ (rw0 rows j).1 - (rw0 rows i).1 ≤ 50) ∧ (-100 ≤ (rw0 rows j).2 - (rw0 rows i).2 ∧ (rw0 rows j).2 - (rw0 rows i).2 ≤ 100)
def encG : Option (List PK) → PyData
  | none => .none
  | some l => .tuple (l.map pr)
def fitP (M : List OI) (g : List Int) (a b : PK) : Bool := fitB M g (dif a b)
theorem rows_at {rows : List PK} {k : Nat} (h : k < rows.length) : atI (rows.map pr) (k : Int) = some (pr (rw0 rows k)) := atI_nat (by
  rw [List.getElem?_map, List.getElem?_eq_getElem h]
  simp [rw0, List.getD, h])
def dLot (rows : List PK) (lot : List Nat) : PyData := .list ((lot.map (rw0 rows)).map pr)
def pre_gr (P : Program) (w : World) (M : List OI) (g : List Int) (rows : List PK) (many : Nat) (lot : List Nat) (at0 : Nat) : List PyData → Ow → Prop := fun ds Φ => ∃ kvs, KOk M g kvs ∧ ds = [.list (rows.map pr), dLot rows lot, .int at0, .int many] ∧ Φ = kO P w M g kvs
def po_gr (P : Program) (w : World) (M : List OI) (g : List Int) (rows : List PK) (n : Nat) (lot : List Nat) (at0 : Nat) : List PyData → Ow → PyData → Ow → Prop := fun _ _ d Φ' => ∃ kvs', KOk M g kvs' ∧ Φ' = kO P w M g kvs' ∧ d = encG (grow (fitP M g) rows n (lot.map (rw0 rows)) at0)
abbrev ρG (P : Program) (w : World) (M : List OI) (g : List Int) (rows : List PK) (lot : List Nat) (at0 many : Nat) (l : Addr) (kvs : List (PK × Bool)) (k found : Sl) : Rho := [.dat (.list (rows.map pr)), .dat (dLot rows lot), .dat (.int at0), .dat (.int many), .obj l (kO P w M g kvs), k, .un, found]
theorem find_none {α : Type} {f : Nat → Option α} {n : Nat} (h : ∀ t, t < n → f t = none) : (List.range n).findSome? f = none := by
  rw [List.findSome?_eq_none_iff]
  intro x hx
  exact h x (List.mem_range.mp hx)
theorem find_first {α : Type} {f : Nat → Option α} {n k : Nat} {r : α} (hk : k < n) (h0 : ∀ t, t < k → f t = none) (h1 : f k = some r) : (List.range n).findSome? f = some r := by
  obtain ⟨m, rfl⟩ : ∃ m, n = k + (m + 1) := ⟨n - k - 1, by omega⟩
  rw [List.range_add, List.findSome?_append, find_none h0, List.range_succ_eq_map, List.map_cons, List.findSome?_cons]
  rw [Nat.add_zero, h1]
  rfl
def stG (M : List OI) (g : List Int) (rows : List PK) (n : Nat) (lot : List Nat) (at0 i : Nat) : Option (List PK) := if ((lot.map (rw0 rows)).all fun c => fitP M g c (rw0 rows (at0 + i))) = true then grow (fitP M g) rows n (lot.map (rw0 rows) ++ [rw0 rows (at0 + i)]) (at0 + i + 1) else none
theorem grow_st (M : List OI) (g : List Int) (rows : List PK) (n : Nat) (lot : List Nat) (at0 : Nat) : grow (fitP M g) rows (n + 1) (lot.map (rw0 rows)) at0 = (List.range (rows.length - at0)).findSome? (stG M g rows n lot at0) := rfl
theorem ok_grown (M : List OI) (g : List Int) (rows : List PK) (hR : RowsOk rows) (many : Nat) (hmany : many ≤ 4) {f : Addr} {fd : FuncData} (F : Fun K "grown" "grown" s_grown f fd) (hm : mg "grown" = some (.ref f)) (hb : Binds K fd ["rows", "chosen", "at", "many", "known"] [])
    (Fb : Fn P w K mg base 2 "fit_between" ["one", "other", "known"] (spObj K 3 (pre_fb P w M g) (po_fb P w M g))) (ml : mg "len" = none) (mr : mg "range" = none) (my : mg "all" = none) (mt : mg "tuple" = none) :
    ∀ (n : Nat) (lot : List Nat) (at0 : Nat), lot.length + n = many → (∀ x ∈ lot, x < at0) → at0 ≤ rows.length → FnOk P w K mg base CX0 (n + 3) f fd ["rows", "chosen", "at", "many", "known"] (spObj K 5 (pre_gr P w M g rows many lot at0) (po_gr P w M g rows n lot at0)) := by
  intro n
  induction n with
  | zero =>
    intro lot at0 hl hx ha
    refine fn_obj F sc_grown (fun cdv A outer s H E l Φ ds hr hp hl2 => ?_)
    obtain ⟨kvs, hK, rfl, rfl⟩ := hp
    show BvW _ _ (ρG P w M g rows lot at0 many l kvs .un .un) _
    have e1 : dlen (dLot rows lot) = some lot.length := by
      show some ((lot.map (rw0 rows)).map pr).length = _
      rw [List.length_map, List.length_map]
    refine b_cons (s_if' (k := true) (Tv.to (tv_eq (ev_len ml (ev_var (i := 1) rfl) e1) (ev_var (i := 3) rfl)) (decide_eq_true (by omega))) (fun _ => ?_) (fun h => nomatch h))
    exact b_cons (s_ret (Ev.w (ev_tuple mt (ev_var (i := 1) rfl)) ⟨_, ⟨kvs, hK, rfl, rfl⟩, rfl⟩))
  | succ n ih =>
    intro lot at0 hl hx ha
    refine fn_obj F sc_grown (fun cdv A outer s H E l Φ ds hr hp hl2 => ?_)
    obtain ⟨kvs, hK, rfl, rfl⟩ := hp
    show BvW _ _ (ρG P w M g rows lot at0 many l kvs .un .un) _
    have e1 : dlen (dLot rows lot) = some lot.length := by
      show some ((lot.map (rw0 rows)).map pr).length = _
      rw [List.length_map, List.length_map]
    have e2 : dlen (.list (rows.map pr)) = some rows.length := by
      show some (rows.map pr).length = _
      rw [List.length_map]
    have hfew := hR.few
    refine b_cons (s_if' (k := false) (Tv.to (tv_eq (ev_len ml (ev_var (i := 1) rfl) e1) (ev_var (i := 3) rfl)) (decide_eq_false (by omega))) (fun h => nomatch h) (fun _ => b_nil ?_))
    refine b_cons (s_for rfl (iv_rng2 mr (Av.w (av_cons (ev_var (i := 2) rfl) (av_cons (ev_len ml (ev_var (i := 0) rfl) e2) av_nil)) ⟨_, _, rfl, by omega, by omega, by omega, by omega, ?_⟩)))
    have et : ((rows.length : Int) - at0).toNat = rows.length - at0 := by omega
    rw [et]
    refine ⟨fun i ρ2 => (∀ t, t < i → stG M g rows n lot at0 t = none) ∧ ∃ kvs' u v, KOk M g kvs' ∧ ρ2 = ρG P w M g rows lot at0 many l kvs' u v, fun _ _ _ => trivial, ⟨fun t ht => absurd ht (Nat.not_lt_zero _), kvs, .un, .un, hK, rfl⟩, fun i d ρ2 hd ⟨h0, kvs', u, v, hK', e⟩ => ?_, fun ρ2 ⟨h0, kvs', u, v, hK', e⟩ => ?_⟩
    · subst e
      obtain ⟨hi, rfl⟩ := rng_get hd
      have ei : (at0 : Int) + (i : Int) = ((at0 + i : Nat) : Int) := by omega
      rw [ei]
      have hk : at0 + i < rows.length := by omega
      refine g_name (i := 5) sc_grown.nd trivial ?_
      refine b_cons (s_if (tv_tru (ew_all rfl my (ew_fz (el_of (own := [("one", 6)]) (lc_go (iv_of (ev_var (i := 1) rfl) ⟨by rw [List.length_map, List.length_map]; omega, fun m acc ρ2 => ∃ kvs2, KOk M g kvs2 ∧ acc = ((lot.take m).map fun j => fitP M g (rw0 rows j) (rw0 rows (at0 + i))).map PyData.bool ∧ ρ2 = ρG P w M g rows lot at0 many l kvs2 (.dat (.int (at0 + i : Nat))) v,
        fun _ _ _ _ => trivial, ⟨kvs', hK', rfl, rfl⟩, fun m d acc ρ2 hd ⟨kvs2, hK2, h1, h2⟩ s H C cl fp => ?_, fun acc ρ2 ⟨kvs2, hK2, h1, h2⟩ => ?_⟩)) rfl sc_grown.nd (blkOk_by (N := N_grown) (sc := defScope s_grown) (by decide +kernel)))))))
      · subst h1
        subst h2
        rw [List.map_map, List.getElem?_map] at hd
        cases hj : lot[m]? with
        | none =>
          rw [hj] at hd
          cases hd
        | some j =>
          rw [hj] at hd
          cases hd
          have hjm : j ∈ lot := List.mem_of_getElem? hj
          refine g_name (i := 6) sc_grown.nd (by simp) ?_
          intro s H C cl fp
          refine tf_nil ?_
          rw [if_pos rfl]
          intro s H C cl fp
          refine ew_callObj (i := 4) Fb (hr.mono (by omega)) (ao_ev (ev_var (i := 6) rfl) (ao_ev (ev_ixL (ev_var (i := 0) rfl) (ev_var (i := 5) rfl) (rows_at hk)) (ao_one (l := l) rfl ⟨rfl, ⟨kvs2, rw0 rows j, rw0 rows (at0 + i), hK2, hR.df j (at0 + i) (by have := hx j hjm; omega) hk, rfl, rfl⟩, fun d Φ' l2 ⟨kvs3, hK3, h3, h4⟩ h5 => ?_⟩)))
          cases h5
          subst h3
          refine ⟨kvs3, hK3, ?_, rfl⟩
          rw [h4 _ _ rfl, List.take_add_one, hj]
          simp only [List.map_append]
          rfl
      · subst h1
        subst h2
        rw [List.length_map, List.length_map, List.take_length]
        refine ⟨lot.map fun j => fitP M g (rw0 rows j) (rw0 rows (at0 + i)), rfl, _, rfl, ?_⟩
        have hall : (lot.map fun j => fitP M g (rw0 rows j) (rw0 rows (at0 + i))).all id = (lot.map (rw0 rows)).all fun c => fitP M g c (rw0 rows (at0 + i)) := by
          rw [List.all_map, List.all_map]
          rfl
        rw [hall]
        cases ha2 : (lot.map (rw0 rows)).all fun c => fitP M g c (rw0 rows (at0 + i)) with
        | true =>
          rw [if_pos rfl]
          have hs : stG M g rows n lot at0 i = grow (fitP M g) rows n ((lot ++ [at0 + i]).map (rw0 rows)) (at0 + i + 1) := by
            unfold stG
            rw [ha2, if_pos rfl, List.map_append]
            rfl
          have FG : Fn P w K mg base (n + 3) "grown" ["rows", "chosen", "at", "many", "known"] (spObj K 5 (pre_gr P w M g rows many (lot ++ [at0 + i]) (at0 + i + 1)) (po_gr P w M g rows n (lot ++ [at0 + i]) (at0 + i + 1))) := ⟨f, fd, hm, F.kp, hb, ih (lot ++ [at0 + i]) (at0 + i + 1) (by rw [List.length_append, List.length_singleton]; omega) (fun x hx2 => by
            rcases List.mem_append.mp hx2 with hx2 | hx2
            · have := hx x hx2
              omega
            · rw [List.mem_singleton.mp hx2]
              omega) (by omega)⟩
          refine b_cons (s_set (i := 7) sc_grown.nd (ew_callObj (i := 4) FG hr (ao_ev (ev_var (i := 0) rfl) (ao_ev (ev_catL (ev_var (i := 1) rfl) (ev_fz (el_lst (av_cons (ev_ixL (ev_var (i := 0) rfl) (ev_var (i := 5) rfl) (rows_at hk)) av_nil))) (by rw [List.length_map, List.length_map]; show _ + 1 ≤ _; omega)) (ao_ev (ev_add (ev_var (i := 5) rfl) ev_int) (ao_ev (ev_var (i := 3) rfl) (ao_one (l := l) rfl
            ⟨rfl, ⟨kvs2, hK2, ?_, rfl⟩, fun d Φ' l2 ⟨kvs3, hK3, h3, h4⟩ h5 => ?_⟩)))))))
          · unfold dLot
            rw [List.map_append, List.map_append]
            rfl
          · cases h5
            subst h3
            subst h4
            rw [← hs]
            refine b_cons (s_if' (k := !isN (encG (stG M g rows n lot at0 i))) (tv_notN (ev_var (i := 7) rfl)) (fun h6 => ?_) (fun h6 => b_nil (b_nil (b_nil ⟨fun t ht => ?_, kvs3, _, _, hK3, rfl⟩))))
            · refine b_cons (s_ret (Ev.w (ev_var (i := 7) rfl) ⟨_, ⟨kvs3, hK3, rfl, ?_⟩, rfl⟩))
              rw [grow_st]
              cases hst : stG M g rows n lot at0 i with
              | none =>
                rw [hst] at h6
                cases h6
              | some r => rw [find_first (by omega : i < rows.length - at0) h0 hst]
            · by_cases q : t = i
              · subst q
                cases hst : stG M g rows n lot at0 t with
                | none => rfl
                | some r =>
                  rw [hst] at h6
                  cases h6
              · exact h0 t (by omega)
        | false =>
          rw [if_neg Bool.false_ne_true]
          refine b_nil (b_nil ⟨fun t ht => ?_, kvs2, _, _, hK2, rfl⟩)
          by_cases q : t = i
          · subst q
            unfold stG
            rw [ha2, if_neg Bool.false_ne_true]
          · exact h0 t (by omega)
    · subst e
      rw [rng_len] at h0
      refine b_cons (s_ret (Ev.w ev_non ⟨_, ⟨kvs', hK', rfl, ?_⟩, rfl⟩))
      rw [grow_st, find_none h0]
      rfl
/-! the rows that fit -/
theorem fitD_mem {M : List OI} {g : List Int} {d : Int} {n : Nat} {p : PK} (h : p ∈ fitD M g d n) : p.1 = d ∧ -12 ≤ p.2 ∧ p.2 < -12 + (n : Int) := by
  obtain ⟨s, hs, rfl⟩ := List.mem_map.mp h
  obtain ⟨i, hi, rfl⟩ := List.mem_map.mp (List.mem_filter.mp hs).1
  have := List.mem_range.mp hi
  exact ⟨rfl, by show -12 ≤ -12 + (i : Int); omega, by show -12 + (i : Int) < _; omega⟩
theorem fits_mem {M : List OI} {g : List Int} : ∀ {n : Nat} {p : PK}, p ∈ fits M g n → (1 ≤ p.1 ∧ p.1 ≤ n) ∧ -12 ≤ p.2 ∧ p.2 ≤ 12
  | 0, p, h => nomatch h
  | n + 1, p, h => by
    rw [fits_succ] at h
    rcases List.mem_append.mp h with h | h
    · have := fits_mem h
      omega
    · have := fitD_mem h
      omega
theorem fits_up (M : List OI) (g : List Int) : ∀ n, (fits M g n).Pairwise fun a b => a.1 ≤ b.1
  | 0 => List.Pairwise.nil
  | n + 1 => by
    rw [fits_succ, List.pairwise_append]
    refine ⟨fits_up M g n, ?_, fun a ha b hb => ?_⟩
    · rw [List.pairwise_iff_forall_sublist]
      intro a b hab
      have h1 := fitD_mem (hab.subset (by simp : a ∈ [a, b]))
      have h2 := fitD_mem (hab.subset (by simp : b ∈ [a, b]))
      omega
    · have h1 := fits_mem ha
      have h2 := fitD_mem hb
      omega
theorem rw0_mem {rows : List PK} {k : Nat} (h : k < rows.length) : rw0 rows k ∈ rows := by
  unfold rw0
  rw [List.getD_eq_getElem?_getD, List.getElem?_eq_getElem h]
  exact List.getElem_mem h
theorem fits_ok (M : List OI) (g : List Int) {n : Nat} (hn : n ≤ 40) : RowsOk (fits M g n) := by
  refine ⟨by have := fits_len M g n; omega, fun i j hij hj => ?_⟩
  have h1 := fits_mem (rw0_mem (by omega : i < (fits M g n).length))
  have h2 := fits_mem (rw0_mem hj)
  have h3 : (rw0 (fits M g n) i).1 ≤ (rw0 (fits M g n) j).1 := by
    by_cases e : i = j
    · rw [e]
      exact Int.le_refl _
    · have := List.pairwise_iff_getElem.mp (fits_up M g n) i j (by omega) hj (by omega)
      unfold rw0
      rw [List.getD_eq_getElem?_getD, List.getD_eq_getElem?_getD, List.getElem?_eq_getElem hj, List.getElem?_eq_getElem (by omega)]
      exact this
  omega
theorem isN_encG (x : Option (List PK)) : isN (encG x) = x.isNone := by cases x <;> rfl
def stk (M : List OI) (g : List Int) (most many : Nat) : Option (List PK) := grow (fitP M g) (fits M g most) many [] 0
def fp_stacked : List PyData → PyData → Prop := fun ds d => ∃ (M : List OI) (g : List Int) (most many : Nat), 1 ≤ M.length ∧ M.length ≤ 200 ∧ HM M ∧ Gd g ∧ 1 ≤ most ∧ most ≤ 40 ∧ 1 ≤ many ∧ many ≤ 4 ∧ ds = [dM M, dI g, .int most, .int many] ∧ d = .tuple [.bool (!(stk M g most many).isNone), encG (stk M g most many)]
theorem ok_stacked {f fg : Addr} {fd fdg : FuncData} (F : Fun K "stacked" "stacked" s_stacked f fd) (Fm : Fn P w K mg base 3 "check_melody" ["x"] (spPure K 1 fp_cmel)) (Fg : Fn P w K mg base 2 "check_good" ["x"] (spPure K 1 fp_cgood)) (Fo : Fn P w K mg base 2 "check_most" ["x", "most"] (spPure K 2 fp_cmost)) (Ff : Fn P w K mg base 2 "fitting" ["melody", "good", "most"] (spPure K 3 fp_fitting))
    (FG : Fun K "grown" "grown" s_grown fg fdg) (hm : mg "grown" = some (.ref fg)) (hb : Binds K fdg ["rows", "chosen", "at", "many", "known"] []) (Fb : ∀ M g, M.length ≤ 200 → Fn P w K mg base 2 "fit_between" ["one", "other", "known"] (spObj K 3 (pre_fb P w M g) (po_fb P w M g))) (ml : mg "len" = none) (mr : mg "range" = none) (my : mg "all" = none) (mt : mg "tuple" = none) :
    FnOk P w K mg base CX0 8 f fd ["melody", "good", "most", "many"] (spPure K 4 fp_stacked) := by
  refine fn_pure F sc_stacked (fun cdv A outer s H E ds d hr hp hl => ?_)
  obtain ⟨M, g, most, many, h1, h2, h3, h4, h5, h6, h7, h8, rfl, rfl⟩ := hp
  refine b_cons (s_expr (Ev.w (ev_call Fm (hr.mono (by decide)) (av_cons (ev_var (i := 0) rfl) av_nil) ⟨M, h1, h2, h3, rfl, rfl⟩) ?_))
  refine b_cons (s_expr (Ev.w (ev_call Fg (hr.mono (by decide)) (av_cons (ev_var (i := 1) rfl) av_nil) ⟨g, h4, rfl, rfl⟩) ?_))
  refine b_cons (s_expr (Ev.w (ev_call Fo (hr.mono (by decide)) (av_cons (ev_var (i := 2) rfl) (av_cons ev_int av_nil)) ⟨most, 40, by omega, by omega, rfl, rfl⟩) ?_))
  refine b_cons (s_expr (Ev.w (ev_call Fo (hr.mono (by decide)) (av_cons (ev_var (i := 3) rfl) (av_cons ev_int av_nil)) ⟨many, 4, by omega, by omega, rfl, rfl⟩) ?_))
  have F1 : Fn P w K mg base (many + 3) "grown" ["rows", "chosen", "at", "many", "known"] (spObj K 5 (pre_gr P w M g (fits M g most) many [] 0) (po_gr P w M g (fits M g most) many [] 0)) := ⟨fg, fdg, hm, FG.kp, hb, ok_grown M g (fits M g most) (fits_ok M g h6) many h8 FG hm hb (Fb M g h2) ml mr my mt many [] 0 (Nat.zero_add _) (fun x hx => nomatch hx) (Nat.zero_le _)⟩
  refine b_cons (s_set (i := 4) sc_stacked.nd (ew_callObjN F1 (hr.mono (by omega)) (an_ev (ev_call Ff (hr.mono (by decide)) (av_cons (ev_var (i := 0) rfl) (av_cons (ev_var (i := 1) rfl) (av_cons (ev_var (i := 2) rfl) av_nil))) ⟨M, g, most, h2, h6, rfl, rfl⟩) (an_ev (ev_fz (el_lst av_nil)) (an_ev ev_int (an_ev (ev_var (i := 3) rfl)
    (an_one (EoW.imp (eo_mix (ev_tup (av_cons (ev_var (i := 0) rfl) (av_cons (ev_var (i := 1) rfl) av_nil)))) fun Φ ρ1 ⟨e1, e2⟩ => ?_))))))))
  subst e1
  subst e2
  refine ⟨rfl, ⟨[], ⟨fun p hp => (nomatch hp), fun p hp => (nomatch hp), List.nodup_nil⟩, rfl, rfl⟩, fun d Φ' ⟨kvs', _, _, e⟩ => ?_⟩
  subst e
  refine b_cons (s_ret (Ev.w (ev_tup (av_cons (ev_notN (ev_var (i := 4) rfl)) (av_cons (ev_var (i := 4) rfl) av_nil))) ?_))
  rw [isN_encG]
  rfl
end
end K17
namespace K17
open PySem PySem.Spec PyProof.Rows L2 Pl Pm
section
variable {P : Program} {w : World} {K : PySem.W.Frag} {mg : Str → Option Value} {base : Heap}
/-! _law_box -/
def cellsOf (ns : List Int) : List Int := ns.map fun z => if z < 0 then -z else z
def fp_box : List PyData → List PyData → Prop := fun ds es => ∃ ns : List Int, ns.length ≤ 63 ∧ ds = [.list (ns.map PyData.int)] ∧ es = encB 0 0 0 (cellsOf ns)
theorem ok_lbox {f : Addr} {fd : FuncData} (F : Fun K "_law_box" "_law_box" s_law_box f fd) (ma : mg "abs" = none) (mi : mg "int" = none) : FnOk P w K mg base CX0 1 f fd ["script"] (spNew K 1 fp_box) := by
  refine fn_new F sc_law_box rfl (fun cdv A outer s H E ds es hr hp hl => ?_)
  obtain ⟨ns, hn, rfl, rfl⟩ := hp
  refine El.w (el_lst (av_cons ev_int (av_cons ev_int (av_cons ev_int (av_cons (ev_lc (own := [("x", 1)]) (lc_map (j := 1) ns PyData.int (fun _ => true) (fun z => PyData.int (if z < 0 then -z else z)) sc_law_box.nd
    (iv_of (ev_var (i := 0) rfl) ⟨rfl, rfl, trivial⟩) (by omega) (fun y hy s H C cl fp => tf_nil ⟨rfl, rfl⟩) (fun y hy _ s H C cl fp => ev_abs ma (ev_int1 mi (ev_var (i := 1) rfl)))) rfl sc_law_box.nd (blkOk_by (N := N_law_box) (sc := defScope s_law_box) (by decide +kernel))) av_nil))))) ⟨?_, rfl⟩
  unfold encB cellsOf
  rw [filter_yes, List.map_map]
  rfl
def pre_pick : List PyData → List PyData → Prop := fun es ds => Bxs es ∧ ∃ items : List PyData, 0 < items.length ∧ items.length ≤ 1000 ∧ ds = [.list items]
def po_pick : List PyData → List PyData → PyData → List PyData → Prop := fun _ ds d es' => Bxs es' ∧ ∀ items, ds = [.list items] → d ∈ items
theorem ok_pick {f : Addr} {fd : FuncData} (F : Fun K "_law_pick" "_law_pick" s_law_pick f fd) (Ft : Fn P w K mg base 1 "_law_take" ["box", "m"] (spBox K 2 pre_take po_take)) (ml : mg "len" = none) : FnOk P w K mg base CX0 2 f fd ["box", "menu"] (spBox K 2 pre_pick po_pick) := by
  refine fn_box F sc_law_pick (fun cdv A outer s H E l es ds hr hp hl => ?_)
  obtain ⟨hb, items, h1, h2, rfl⟩ := hp
  refine b_cons (s_ret (ew_ix ix_list (ev_var (d := .list items) (i := 1) rfl) fun d ρ1 ⟨e1, e2⟩ => ?_))
  subst e1
  subst e2
  refine ew_take (i := 0) (l := l) Ft hr rfl hb (ev_len ml (ev_var (i := 1) rfl) rfl) (by omega) (by omega) fun r es2 h3 h4 hb2 => ?_
  obtain ⟨n, rfl⟩ := Int.eq_ofNat_of_zero_le h3
  have hn : n < items.length := by omega
  refine od_ixL (d := items[n]) (atI_nat (List.getElem?_eq_getElem hn)) ⟨es2, ⟨hb2, fun items' e => ?_⟩, rfl⟩
  injection e with e _
  injection e with e
  rw [← e]
  exact List.getElem_mem hn
def pre_mel : List PyData → List PyData → Prop := fun es ds => Bxs es ∧ ds = [.int 5]
def po_mel : List PyData → List PyData → PyData → List PyData → Prop := fun _ _ d es' => Bxs es' ∧ ∃ M : List OI, 1 ≤ M.length ∧ M.length ≤ 5 ∧ HM M ∧ d = dM M
theorem ok_mel {f : Addr} {fd : FuncData} (F : Fun K "_law_melody" "_law_melody" s_law_melody f fd) (Ft : Fn P w K mg base 1 "_law_take" ["box", "m"] (spBox K 2 pre_take po_take)) (mt : mg "tuple" = none) (mr : mg "range" = none) (ma : mg "max" = none) (mi : mg "min" = none) : FnOk P w K mg base CX0 2 f fd ["box", "most"] (spBox K 2 pre_mel po_mel) := by
  refine fn_box F sc_law_melody (fun cdv A outer s H E l es ds hr hp hl => ?_)
  obtain ⟨hb, rfl⟩ := hp
  refine b_cons (s_par (i := 2) (j := 3) rfl sc_law_melody.nd (ex_new (El.w (el_lst av_nil) fun L => ex_dat (ew_addR ev_int (ew_take (i := 0) (l := l) Ft hr rfl hb ev_int (by decide) (by decide) fun r es2 h1 h2 hb2 => ⟨r, rfl, ?_⟩)))))
  refine b_cons (s_for rfl (iv_rng1 mr (ew_addR ev_int (ew_take (i := 0) (l := l) Ft hr rfl hb2 (ev_var (i := 1) rfl) (by decide) (by decide) fun n es3 h3 h4 hb3 => ⟨n, rfl, 1 + n, rfl, by omega, by omega, fun k ρ2 => ∃ es4 M now u, Bxs es4 ∧ M.length = k ∧ HM M ∧ (0 ≤ now ∧ now ≤ 127) ∧ ρ2 = [.lst l es4, .dat (.int 5), .lst L (M.map encO), .dat (.int now), u],
    fun _ _ _ => trivial, ⟨es3, [], 50 + r, .un, hb3, rfl, fun x hx => (nomatch hx), by omega, rfl⟩, fun k d ρ2 hd ⟨es4, M, now, u, hb4, hlen, hx, hnow, e⟩ => ?_, fun ρ2 ⟨es4, M, now, u, hb4, hlen, hx, hnow, e⟩ => ?_⟩))))
  · subst e
    obtain ⟨hk, rfl⟩ := rng_get hd
    refine g_name (i := 4) sc_law_melody.nd trivial ?_
    refine b_cons (s_set (i := 3) sc_law_melody.nd (ew_max2 rfl ma (aw_two ev_int (ew_min2 rfl mi (aw_two ev_int (ew_subL (ew_addR (ev_var (i := 3) rfl) (ew_take (i := 0) (l := l) Ft hr rfl hb4 ev_int (by decide) (by decide) fun r2 es5 h5 h6 hb5 => ⟨r2, rfl, now + r2, 4, rfl, ev_int, 127, now + r2 - 4, rfl, 0, _, rfl, ?_⟩))))))))
    generalize hnw : (if (if now + r2 - 4 < 127 then now + r2 - 4 else 127) > 0 then (if now + r2 - 4 < 127 then now + r2 - 4 else 127) else 0) = nw
    have hnw2 : 0 ≤ nw ∧ nw ≤ 127 := by
      rw [← hnw]
      split <;> split <;> omega
    refine b_cons (s_app (i := 2) (ew_if (tv_eqL (ew_take (i := 0) (l := l) Ft hr rfl hb5 ev_int (by decide) (by decide) fun r3 es6 h7 h8 hb6 => ⟨r3, 0, rfl, ev_int, ?_⟩))))
    split
    · refine Ev.w ev_non ⟨L, _, rfl, by rw [List.length_map]; omega, b_nil ⟨es6, M ++ [none], nw, _, hb6, by rw [List.length_append, hlen]; rfl, fun x hx2 => ?_, hnw2, by rw [List.map_append]; rfl⟩⟩
      rcases List.mem_append.mp hx2 with hx2 | hx2
      · exact hx x hx2
      · cases List.mem_singleton.mp hx2
    · refine Ev.w (ev_var (i := 3) rfl) ⟨L, _, rfl, by rw [List.length_map]; omega, b_nil ⟨es6, M ++ [some nw], nw, _, hb6, by rw [List.length_append, hlen]; rfl, fun x hx2 => ?_, hnw2, by rw [List.map_append]; rfl⟩⟩
      rcases List.mem_append.mp hx2 with hx2 | hx2
      · exact hx x hx2
      · cases List.mem_singleton.mp hx2
        exact hnw2
  · subst e
    rw [rng_len] at hlen
    exact b_cons (s_ret (Ev.w (ev_tupleO (i := 2) mt rfl) ⟨es4, ⟨hb4, M, by omega, by omega, hx, rfl⟩, rfl⟩))
theorem absI_max (a b : Int) : (if b > a then b else a) - (if b < a then b else a) = absI (a - b) := by
  unfold absI
  split <;> split <;> split <;> omega
theorem ok_lclash {f : Addr} {fd : FuncData} (F : Fun K "_law_clash" "_law_clash" s_law_clash f fd) (ml : mg "len" = none) (mr : mg "range" = none) (mn : mg "min" = none) (mx : mg "max" = none) : FnOk P w K mg base CX0 1 f fd ["one", "other", "good"] (spPure K 3 fp_clash) := by
  refine fn_pure F sc_law_clash (fun cdv A outer s H E ds d hr hp hl => ?_)
  obtain ⟨M, N, g, hM, hN, rfl, rfl⟩ := hp
  have hmin : (if ((N.length : Int)) < M.length then ((N.length : Int)) else M.length) = ((min M.length N.length : Nat) : Int) := by split <;> omega
  refine b_cons (s_for rfl (iv_rng1 mr (ew_min2 rfl mn (aw_two (ev_len ml (ev_var (i := 0) rfl) (dM_len M)) (Ev.w (ev_len ml (ev_var (i := 1) rfl) (dM_len N)) ⟨_, _, rfl, _, rfl, by rw [hmin]; omega, by rw [hmin]; omega, ?_⟩)))))
  rw [hmin, Int.toNat_natCast]
  refine ⟨fun k ρ2 => (∀ t, t < k → clT M N g t = false) ∧ ∃ u, ρ2 = [.dat (dM M), .dat (dM N), .dat (dI g), u], fun _ _ _ => trivial, ⟨fun t ht => absurd ht (Nat.not_lt_zero _), .un, rfl⟩, fun k d ρ2 hd ⟨h0, u, e⟩ => ?_, fun ρ2 ⟨h0, u, e⟩ => ?_⟩
  · subst e
    obtain ⟨hk, rfl⟩ := rng_get hd
    rw [Int.zero_add]
    refine g_name (i := 3) sc_law_clash.nd trivial ?_
    obtain ⟨x, hx⟩ : ∃ x, M[k]? = some x := ⟨M[k]'(by omega), List.getElem?_eq_getElem _⟩
    obtain ⟨y, hy⟩ : ∃ y, N[k]? = some y := ⟨N[k]'(by omega), List.getElem?_eq_getElem _⟩
    have hc : clT M N g k = clO g x y := by
      unfold clT
      rw [hx, hy]
      cases x <;> cases y <;> rfl
    have next : clO g x y = false → ∀ t, t < k + 1 → clT M N g t = false := fun h t ht => by
      by_cases q : t = k
      · rw [q, hc]
        exact h
      · exact h0 t (by omega)
    refine b_cons (s_if' (k := !isN (encO x) && !isN (encO y)) (tv_w (tw_and' (tv_notN (ev_ixT (ev_var (i := 0) rfl) (ev_var (i := 3) rfl) (dM_at hx))) fun _ => tw_and1 (tv_notN (ev_ixT (ev_var (i := 1) rfl) (ev_var (i := 3) rfl) (dM_at hy))))) (fun h1 => ?_) (fun h1 => b_nil (b_nil ⟨next ?_, .dat (.int k), rfl⟩)))
    · cases x with
      | none => cases h1
      | some a =>
        cases y with
        | none => cases h1
        | some b =>
          have va := dM_at hx
          have vb := dM_at hy
          refine b_cons (s_if' (k := badI g a b) (Tv.to (tv_niI g (ev_mod (ev_sub (ew_max2 rfl mx (aw_two (ev_ixT (ev_var (i := 0) rfl) (ev_var (i := 3) rfl) va) (Ev.w (ev_ixT (ev_var (i := 1) rfl) (ev_var (i := 3) rfl) vb) ⟨a, b, rfl, rfl, rfl⟩))) (ew_min2 rfl mn (aw_two (ev_ixT (ev_var (i := 0) rfl) (ev_var (i := 3) rfl) va) (Ev.w (ev_ixT (ev_var (i := 1) rfl) (ev_var (i := 3) rfl) vb) ⟨a, b, rfl, rfl, rfl⟩)))) ev_int) (ev_var (i := 2) rfl)) (by rw [absI_max]; rfl)) (fun h2 => ?_) (fun h2 => b_nil (b_nil (b_nil ⟨next h2, .dat (.int k), rfl⟩))))
          refine b_cons (s_ret (Ev.w (ev_var (i := 3) rfl) ?_))
          unfold clash
          rw [find_at hk h0 (hc.trans h2)]
          rfl
    · cases x <;> cases y <;> first | rfl | cases h1
  · subst e
    rw [rng_len] at h0
    refine b_cons (s_ret (Ev.w ev_non ?_))
    have : clash M N g = none := by
      have := clash_none.mpr fun t => (if q : t < min M.length N.length then h0 t q else clT_out (by omega))
      simpa using this
    rw [this]
    rfl
theorem ok_later {f : Addr} {fd : FuncData} (F : Fun K "_law_later" "_law_later" s_law_later f fd) (mt : mg "tuple" = none) : FnOk P w K mg base CX0 1 f fd ["melody", "delay", "shift"] (spPure K 3 fp_voice) := by
  refine fn_pure F sc_law_later (fun cdv A outer s H E ds d hr hp hl => ?_)
  obtain ⟨M, k, sh, h0, h1, h2, rfl, rfl⟩ := hp
  refine b_cons (s_setL (i := 3) sc_law_later.nd (El.w (el_rep (av_cons ev_non av_nil) (ev_var (i := 1) rfl) h0 h1) fun L => ?_))
  have e0 : List.replicate k.toNat PyData.none = (List.replicate k.toNat (none : OI) ++ (M.take 0).map (·.map (· + sh))).map encO := by
    show _ = (List.replicate k.toNat (none : OI) ++ []).map encO
    rw [List.append_nil, List.map_replicate]
    rfl
  rw [e0]
  show BvW _ _ [.dat (dM M), .dat (.int k), .dat (.int sh), .lst L _, .un] _
  refine b_cons (s_for rfl (iv_ofT (ev_var (i := 0) rfl) ⟨fun i ρ2 => ∃ u, ρ2 = [.dat (dM M), .dat (.int k), .dat (.int sh), .lst L ((List.replicate k.toNat (none : OI) ++ (M.take i).map (·.map (· + sh))).map encO), u], fun _ _ _ => trivial, ⟨.un, rfl⟩, fun i d ρ2 hd ⟨u, e⟩ => ?_, fun ρ2 ⟨u, e⟩ => ?_⟩))
  · subst e
    rw [List.getElem?_map] at hd
    obtain ⟨x, hx, rfl⟩ := Option.map_eq_some_iff.mp hd
    have hi := (List.getElem?_eq_some_iff.mp hx).1
    refine g_name (i := 4) sc_law_later.nd trivial ?_
    refine b_cons (s_app (i := 3) (Ev.w (d := encO (x.map (· + sh))) (by
      cases x with
      | none => exact ev_if (k := isN (encO none)) (tv_isN (ev_var (i := 4) rfl)) (fun _ => ev_non) (fun h => absurd h (by decide))
      | some x => exact ev_if (k := isN (encO (some x))) (tv_isN (ev_var (i := 4) rfl)) (fun h => nomatch h) (fun _ => ev_add (ev_var (i := 4) rfl) (ev_var (i := 2) rfl))) ⟨L, _, rfl, by rw [List.length_map, List.length_append, List.length_replicate, List.length_map, List.length_take]; omega, ?_⟩))
    refine b_nil ⟨.dat (encO x), ?_⟩
    rw [List.take_add_one, hx]
    simp only [List.map_append, Option.toList_some, List.map_cons, List.map_nil, List.append_assoc]
    rfl
  · subst e
    rw [List.length_map, List.take_length]
    exact b_cons (s_ret (Ev.w (ev_tupleO (i := 3) mt rfl) rfl))
end
end K17
namespace K17
open PySem PySem.Spec PyProof.Rows L2 Pl Pm
section
variable {P : Program} {w : World} {K : PySem.W.Frag} {mg : Str → Option Value} {base : Heap}
theorem lay_ints : ∀ l : List Int, PyData.canLayAll0 (l.map PyData.int) = true
  | [] => rfl
  | x :: r => by
    rw [List.map_cons]
    simp only [PyData.canLayAll0, lay_ints r, Bool.and_true]
    rfl
theorem depth_ints : ∀ l : List Int, PyData.depthAll (l.map PyData.int) ≤ 1
  | [] => by simp [PyData.depthAll]
  | x :: r => by
    rw [List.map_cons]
    have := depth_ints r
    simp only [PyData.depthAll, PyData.depth]
    omega
theorem shaped_ints (l : List Int) : SeqAt.shaped (.list (l.map PyData.int)) = true := by
  unfold SeqAt.shaped
  have h1 := lay_ints l
  have h2 := depth_ints l
  simp only [PyData.canLay0, PyData.depth, h1, Bool.true_and]
  exact decide_eq_true (by omega)
theorem shaped_nil : SeqAt.shaped (.list []) = true := by decide +kernel
theorem eqv_nil (l : List PyData) : PyData.eqv (.list l) (.list []) = l.isEmpty := by
  cases l <;> simp [PyData.eqv, PyData.eqvAll]
theorem some_any {α : Type} (l : List α) (p : α → Bool) (e : α → PyData) : (!PyData.eqv (.list ((l.filter p).map e)) (.list [])) = l.any p := by
  rw [eqv_nil]
  induction l with
  | nil => rfl
  | cons x r ih =>
    rw [List.any_cons, ← ih]
    cases hp : p x <;> simp [hp]
def nI (n : Nat) : Int := (n : Int)
abbrev dSt (st : List Nat) : List PyData := (st.reverse.map nI).map PyData.int
def okK (ks : List PK) (j k : Nat) : Bool := !decide (((j : Int), (k : Int)) ∈ ks)
def encL : Option (List Nat) → PyData
  | none => .none
  | some l => .tuple ((l.map nI).map PyData.int)
def pre_lot (ks : List PK) (many N : Nat) : List PyData → Ow → Prop := fun ds Φ => ds = [.int many, .int N] ∧ Φ = dtO ks
def po_lot (ks : List PK) (many N : Nat) : List PyData → Ow → PyData → Ow → Prop := fun _ _ d Φ' => Φ' = dtO ks ∧ d = encL (gI (okK ks) N many [] 0)
abbrev ρQ (ks : List PK) (many N : Nat) (l L : Addr) (st : List Nat) (a : Nat) (turn k : Sl) : Rho := [.dat (.int many), .dat (.int N), .obj l (dtO ks), .lst L (dSt st), .dat (.int a), turn, k, .un]
theorem any_all0 (ks : List PK) (a : Nat) : ∀ l : List Nat, ((l.map nI).any fun j => decide ((j, (a : Int)) ∈ ks)) = !(l.all fun j => okK ks j a)
  | [] => rfl
  | x :: r => by
    rw [List.map_cons, List.any_cons, List.all_cons, any_all0 ks a r]
    unfold okK nI
    cases decide (((x : Int), (a : Int)) ∈ ks) <;> simp
theorem any_all (ks : List PK) (st : List Nat) (a : Nat) : ((st.reverse.map nI).any fun j => decide ((j, (a : Int)) ∈ ks)) = !(st.reverse.all fun j => okK ks j a) := any_all0 ks a _
theorem val_le {B a b : Nat} (h : a ≤ b) : ∀ (m : Nat) (lot : List Nat), val B m (lot ++ [a]) ≤ val B m (lot ++ [b])
  | 0, _ => Nat.le_refl _
  | m + 1, [] => Nat.add_le_add_right (Nat.mul_le_mul_right _ h) _
  | m + 1, x :: r => Nat.add_le_add_left (val_le h m r) _
theorem ok_lot (ks : List PK) (many N : Nat) (h1 : 0 < many) (h2 : many ≤ 4) (h3 : N ≤ 50) (hV : 2 * (N + 1) ^ (many - 1) < 100000) {f : Addr} {fd : FuncData} (F : Fun K "_law_lot" "_law_lot" s_law_lot f fd) (ml : mg "len" = none) (mr : mg "range" = none) (mt : mg "tuple" = none) :
    FnOk P w K mg base CX0 1 f fd ["many", "rows", "apart"] (spObj K 3 (pre_lot ks many N) (po_lot ks many N)) := by
  refine fn_obj F sc_law_lot (fun cdv A outer s H E l Φ ds hr hp hl => ?_)
  obtain ⟨rfl, rfl⟩ := hp
  have hun := hr.units
  have hu : (fX P w K mg base N_law_lot (Str.ofString "_law_lot") s_law_lot f cdv A outer s H E).A.units + 2 < cLine := by omega
  show BvW _ _ [.dat (.int many), .dat (.int N), .obj l (dtO ks), .un, .un, .un, .un, .un] _
  refine b_cons (s_tup2 (i := 3) (j := 4) rfl sc_law_lot.nd (ex_new (El.w (el_lst av_nil) fun L => ex_dat (Ev.w ev_int ?_))))
  generalize hR0 : gI (okK ks) N many [] 0 = R0
  refine b_cons (s_for rfl (iv_rng1 mr (Ev.w ev_int ⟨100000, rfl, by decide, by decide, fun i ρ2 => ∃ st a u v, res (okK ks) N many st a = R0 ∧ i ≤ vv (N + 1) many st a ∧ (∀ x ∈ st, x < N) ∧ a ≤ N ∧ st.length ≤ many ∧ ρ2 = ρQ ks many N l L st a u v, fun _ _ _ => trivial,
    ⟨[], 0, .un, .un, hR0, Nat.zero_le _, fun x hx => (nomatch hx), Nat.zero_le _, Nat.zero_le _, rfl⟩, fun i d ρ2 hd ⟨st, a, u, v, hres, hv, hst, ha, hle, e⟩ => ?_, fun ρ2 ⟨st, a, u, v, hres, hv, hst, ha, hle, e⟩ => ?_⟩)))
  · subst e
    obtain ⟨hi, rfl⟩ := rng_get hd
    refine g_name (i := 5) sc_law_lot.nd trivial ?_
    show BvW _ _ (ρQ ks many N l L st a (.dat (.int (0 + (i : Int)))) v) _
    have hlen : (dSt st).length = st.length := by simp [dSt]
    refine b_cons (s_if' (k := decide (st.length = many)) (Tv.to (tv_eq (ev_lenO (i := 3) ml rfl) (ev_var (i := 0) rfl)) (by rw [hlen, decide_eq_decide]; omega)) (fun h4 => ?_) (fun h4 => b_nil ?_))
    · refine b_cons (s_ret (Ev.w (ev_tupleO (i := 3) mt rfl) ⟨_, ⟨rfl, ?_⟩, rfl⟩))
      rw [hR0, ← hres, res_full (okK ks) N (of_decide_eq_true h4)]
      rfl
    have hlt : st.length < many := by
      have := of_decide_eq_false h4
      omega
    refine b_cut (fun ρ2 => ∃ b u v, res (okK ks) N many st b = R0 ∧ a ≤ b ∧ b ≤ N ∧ (b < N → (st.reverse.all fun j => okK ks j b) = true) ∧ ρ2 = ρQ ks many N l L st b u v)
      (s_for rfl (iv_rng1 mr (Ev.w (ev_var (i := 1) rfl) ⟨_, rfl, by omega, by omega, fun j ρ2 => ∃ b u v, res (okK ks) N many st b = R0 ∧ a ≤ b ∧ b ≤ N ∧ ((b < N → (st.reverse.all fun j => okK ks j b) = true) ∨ a + j ≤ b) ∧ ρ2 = ρQ ks many N l L st b u v, fun _ _ _ => trivial,
        ⟨a, _, v, hres, Nat.le_refl _, ha, .inr (Nat.le_refl _), rfl⟩, fun j d ρ2 hd ⟨b, u, v, r1, r2, r3, r4, e⟩ => ?_, fun ρ2 ⟨b, u, v, r1, r2, r3, r4, e⟩ => ?_⟩))) (fun ρ2 e => ?_)
    · subst e
      obtain ⟨hj, rfl⟩ := rng_get hd
      refine g_name (i := 6) sc_law_lot.nd trivial ?_
      show BvW _ _ (ρQ ks many N l L st b u (.dat (.int (0 + (j : Int))))) _
      have hbn : decide ((b : Int) < (N : Int)) = decide (b < N) := by
        rw [decide_eq_decide]
        omega
      refine b_cons (s_if' (k := decide (b < N) && !(st.reverse.all fun j => okK ks j b)) (tv_w (Tw.to (tw_and' (tv_lt (ev_var (i := 4) rfl) (ev_var (i := 1) rfl)) fun _ => tw_and1 (tv_neD (by exact hun) (ev_lc (own := [("j", 7)]) (lc_map (j := 7) (st.reverse.map nI) PyData.int (fun j => decide ((j, (b : Int)) ∈ ks)) PyData.int sc_law_lot.nd (iv_listO (i := 3) rfl ⟨rfl, rfl, rfl⟩) (by rw [List.length_map, List.length_reverse]; omega)
        (fun y hy s H C cl fp => tf_one (tv_dtIn (i := 2) (l := l) (ks := ks) (k := (y, (b : Int))) hu (av_cons (ev_var (i := 7) rfl) (av_cons (ev_var (i := 4) rfl) av_nil)) rfl)) (fun y hy _ s H C cl fp => ev_var (i := 7) rfl)) rfl sc_law_lot.nd (blkOk_by (N := N_law_lot) (sc := defScope s_law_lot) (by decide +kernel))) (ev_fz (el_lst av_nil)) (shaped_ints _) shaped_nil)) (by rw [some_any, any_all, hbn]))) (fun h5 => ?_) (fun h5 => b_nil (b_nil ⟨b, u, _, r1, r2, r3, ?_, rfl⟩)))
      · have h6 : b < N := of_decide_eq_true (Bool.and_eq_true_iff.mp h5).1
        have h7 : (st.reverse.all fun j => okK ks j b) = false := by
          have := (Bool.and_eq_true_iff.mp h5).2
          simpa using this
        refine b_cons (s_set (i := 4) sc_law_lot.nd (Ev.w (ev_add (ev_var (i := 4) rfl) ev_int) ?_))
        refine b_nil (b_nil ⟨b + 1, u, _, by rw [← res_skip (okK ks) N hlt h6 h7]; exact r1, by omega, by omega, .inr ?_, rfl⟩)
        rcases r4 with r4 | r4
        · rw [r4 h6] at h7
          cases h7
        · omega
      · by_cases h6 : b < N
        · refine .inl fun _ => ?_
          rw [decide_eq_true h6, Bool.true_and] at h5
          simpa using h5
        · exact .inl fun h => absurd h h6
    · subst e
      rw [rng_len] at r4
      refine ⟨b, u, v, r1, r2, r3, fun h6 => ?_, rfl⟩
      rcases r4 with r4 | r4
      · exact r4 h6
      · have : a + ((N : Int)).toNat ≤ b := r4
        omega
    · obtain ⟨b, u, v, r1, r2, r3, r4, rfl⟩ := e
      refine b_cons (s_if' (k := decide (b < N)) (Tv.to (tv_lt (ev_var (i := 4) rfl) (ev_var (i := 1) rfl)) (by rw [decide_eq_decide]; omega)) (fun h5 => ?_) (fun h5 => ?_))
      · have h6 := of_decide_eq_true h5
        refine b_cons (s_app (i := 3) (Ev.w (ev_var (i := 4) rfl) ⟨L, _, rfl, by rw [hlen]; omega, ?_⟩))
        refine b_cons (s_set (i := 4) sc_law_lot.nd (Ev.w (ev_add (ev_var (i := 4) rfl) ev_int) ?_))
        refine b_nil (b_nil ⟨b :: st, b + 1, u, v, by rw [← res_push (okK ks) N hlt h6 (r4 h6)]; exact r1, ?_, fun x hx => ?_, h6, hlt, ?_⟩)
        · have := vv_push (B := N + 1) (by omega) r2 hlt
          omega
        · rcases List.mem_cons.mp hx with hx | hx
          · rw [hx]
            exact h6
          · exact hst x hx
        · show _ = ρQ ks many N l L (b :: st) (b + 1) u v
          unfold ρQ dSt
          rw [List.reverse_cons, List.map_append, List.map_append]
          rfl
      · have h6 : N ≤ b := by
          have := of_decide_eq_false h5
          omega
        have hbN : b = N := by omega
        cases st with
        | nil =>
          refine b_cons (s_if (tv_truO (i := 3) rfl ?_))
          rw [if_neg (by simp [dSt])]
          refine b_cons (s_ret (Ev.w ev_non ⟨_, ⟨rfl, ?_⟩, rfl⟩))
          rw [hR0, ← r1, res_nil (okK ks) N h1 h6]
          rfl
        | cons x r =>
          have hx := hst x List.mem_cons_self
          refine b_cons (s_if (tv_truO (i := 3) rfl ?_))
          have hd2 : dSt (x :: r) = dSt r ++ [.int x] := by
            unfold dSt
            rw [List.reverse_cons, List.map_append, List.map_append]
            rfl
          rw [if_pos (by rw [hd2]; simp)]
          refine b_cons (s_set (i := 4) sc_law_lot.nd (ew_addL (ew_pop (i := 3) (l := L) (ds := dSt r) (d := .int x) (by rw [← hd2]; rfl) ⟨x, 1, rfl, ev_int, ?_⟩)))
          have hrl : r.length + 1 < many := hlt
          refine b_nil (b_nil (b_nil ⟨r, x + 1, u, v, by rw [← res_pop (okK ks) N hrl h6]; exact r1, ?_, fun y hy => hst y (List.mem_cons_of_mem _ hy), hx, by omega, rfl⟩))
          have q1 := vv_pop (B := N + 1) (x := x) (a := b) (by omega) hrl
          have q2 : vv (N + 1) many (x :: r) a ≤ vv (N + 1) many (x :: r) b := by
            have := val_le (B := N + 1) r2 (many - 1) (x :: r).reverse
            unfold vv
            omega
          omega
  · subst e
    rw [rng_len] at hv
    have := vv_lt (B := N + 1) (by omega) (fun x hx => Nat.lt_succ_of_lt (hst x hx)) (Nat.lt_succ_of_le ha) hle
    have hv : 100000 ≤ vv (N + 1) many st a := hv
    omega
end
end K17
namespace K17
open PySem PySem.Spec PyProof.Rows L2 Pl Pm
section
variable {P : Program} {w : World} {K : PySem.W.Frag} {mg : Str → Option Value} {base : Heap}
/-! the last of the mathematics -/
theorem findSome_congr {α β : Type} {f g : α → Option β} : ∀ {l : List α}, (∀ x ∈ l, f x = g x) → l.findSome? f = l.findSome? g
  | [], _ => rfl
  | x :: r, h => by
    rw [List.findSome?_cons, List.findSome?_cons, h x List.mem_cons_self, findSome_congr fun y hy => h y (List.mem_cons_of_mem _ hy)]
theorem all_congr {α : Type} {p q : α → Bool} : ∀ {l : List α}, (∀ x ∈ l, p x = q x) → l.all p = l.all q
  | [], _ => rfl
  | x :: r, h => by
    rw [List.all_cons, List.all_cons, h x List.mem_cons_self, all_congr fun y hy => h y (List.mem_cons_of_mem _ hy)]
theorem gI_congr {ok1 ok2 : Nat → Nat → Bool} {N : Nat} (h : ∀ j k, j < k → k < N → ok1 j k = ok2 j k) : ∀ n lot at0, (∀ x ∈ lot, x < at0) → gI ok1 N n lot at0 = gI ok2 N n lot at0
  | 0, _, _, _ => rfl
  | n + 1, lot, at0, hx => by
    show List.findSome? _ _ = List.findSome? _ _
    refine findSome_congr fun i hi => ?_
    have hi2 := List.mem_range.mp hi
    rw [all_congr fun j hj => h j (at0 + i) (by have := hx j hj; omega) (by omega), gI_congr h n (lot ++ [at0 + i]) (at0 + i + 1) fun x hx2 => by
      rcases List.mem_append.mp hx2 with hx2 | hx2
      · have := hx x hx2
        omega
      · rw [List.mem_singleton.mp hx2]
        omega]
theorem gI_lt {ok : Nat → Nat → Bool} {N : Nat} : ∀ n lot at0 l, (∀ x ∈ lot, x < N) → gI ok N n lot at0 = some l → ∀ x ∈ l, x < N
  | 0, lot, at0, l, hx, e => by
    cases e
    exact hx
  | n + 1, lot, at0, l, hx, e => by
    have e : List.findSome? _ _ = some l := e
    obtain ⟨i, hi, e2⟩ := List.exists_of_findSome?_eq_some e
    have hi2 := List.mem_range.mp hi
    split at e2
    · exact gI_lt n (lot ++ [at0 + i]) (at0 + i + 1) l (fun x hx2 => by
        rcases List.mem_append.mp hx2 with hx2 | hx2
        · exact hx x hx2
        · rw [List.mem_singleton.mp hx2]
          omega) e2
    · cases e2
theorem clash_fit (M : List OI) (g : List Int) {p q : PK} (h1 : 0 ≤ p.1) (h2 : p.1 ≤ q.1) : (clash (later M p.1.toNat p.2) (later M q.1.toNat q.2) g).isNone = fitP M g p q := by
  rw [clash_diff M g p.1.toNat q.1.toNat p.2 q.2 (by omega)]
  show _ = (clash M (later M (q.1 - p.1).toNat (q.2 - p.2)) g).isNone
  rw [show (q.1 - p.1).toNat = q.1.toNat - p.1.toNat by omega]
/-! the pairs that do not go together -/
def rowK (M : List OI) (g : List Int) (rows : List PK) (j n : Nat) : List PK := ((List.range n).filter fun i => !fitP M g (rw0 rows j) (rw0 rows (j + 1 + i))).map fun i => ((j : Int), ((j + 1 + i : Nat) : Int))
def allK (M : List OI) (g : List Int) (rows : List PK) (n : Nat) : List PK := (List.range n).flatMap fun j => rowK M g rows j (rows.length - (j + 1))
theorem rowK_succ (M : List OI) (g : List Int) (rows : List PK) (j n : Nat) : rowK M g rows j (n + 1) = rowK M g rows j n ++ if fitP M g (rw0 rows j) (rw0 rows (j + 1 + n)) = true then [] else [((j : Int), ((j + 1 + n : Nat) : Int))] := by
  unfold rowK
  rw [List.range_succ, List.filter_append, List.map_append]
  congr 1
  cases h : fitP M g (rw0 rows j) (rw0 rows (j + 1 + n)) <;> simp [h]
theorem allK_succ (M : List OI) (g : List Int) (rows : List PK) (n : Nat) : allK M g rows (n + 1) = allK M g rows n ++ rowK M g rows n (rows.length - (n + 1)) := by
  unfold allK
  rw [List.range_succ, List.flatMap_append]
  simp
theorem rowK_mem {M : List OI} {g : List Int} {rows : List PK} {j n : Nat} {x y : Int} : (x, y) ∈ rowK M g rows j n ↔ x = (j : Int) ∧ ∃ i, i < n ∧ y = ((j + 1 + i : Nat) : Int) ∧ fitP M g (rw0 rows j) (rw0 rows (j + 1 + i)) = false := by
  unfold rowK
  rw [List.mem_map]
  constructor
  · rintro ⟨i, hi, e⟩
    obtain ⟨h1, h2⟩ := List.mem_filter.mp hi
    cases e
    exact ⟨rfl, i, List.mem_range.mp h1, rfl, by simpa using h2⟩
  · rintro ⟨rfl, i, hi, rfl, h⟩
    exact ⟨i, List.mem_filter.mpr ⟨List.mem_range.mpr hi, by rw [h]; rfl⟩, rfl⟩
theorem allK_mem {M : List OI} {g : List Int} {rows : List PK} {n : Nat} {x y : Int} : (x, y) ∈ allK M g rows n ↔ ∃ j, j < n ∧ (x, y) ∈ rowK M g rows j (rows.length - (j + 1)) := by
  unfold allK
  rw [List.mem_flatMap]
  constructor
  · rintro ⟨j, h1, h2⟩
    exact ⟨j, List.mem_range.mp h1, h2⟩
  · rintro ⟨j, h1, h2⟩
    exact ⟨j, List.mem_range.mpr h1, h2⟩
theorem rowK_len (M : List OI) (g : List Int) (rows : List PK) (j n : Nat) : (rowK M g rows j n).length ≤ n := by
  unfold rowK
  rw [List.length_map]
  exact Nat.le_trans (List.length_filter_le _ _) (by rw [List.length_range]; exact Nat.le_refl _)
theorem allK_len (M : List OI) (g : List Int) (rows : List PK) (h : rows.length ≤ 50) : ∀ n, (allK M g rows n).length ≤ 50 * n
  | 0 => Nat.le_refl _
  | n + 1 => by
    rw [allK_succ, List.length_append]
    have := allK_len M g rows h n
    have := rowK_len M g rows n (rows.length - (n + 1))
    omega
theorem allK_ok (M : List OI) (g : List Int) (rows : List PK) {j k : Nat} (h1 : j < k) (h2 : k < rows.length) : okK (allK M g rows rows.length) j k = fitP M g (rw0 rows j) (rw0 rows k) := by
  unfold okK
  obtain ⟨i, rfl⟩ : ∃ i, k = j + 1 + i := ⟨k - (j + 1), by omega⟩
  cases h : fitP M g (rw0 rows j) (rw0 rows (j + 1 + i)) with
  | false =>
    rw [decide_eq_true (allK_mem.mpr ⟨j, by omega, rowK_mem.mpr ⟨rfl, i, by omega, rfl, h⟩⟩)]
    rfl
  | true =>
    rw [decide_eq_false fun z => ?_]
    · rfl
    · obtain ⟨j2, _, z2⟩ := allK_mem.mp z
      obtain ⟨e1, i2, _, e2, e3⟩ := rowK_mem.mp z2
      have : j2 = j := by omega
      subst this
      have : i2 = i := by omega
      subst this
      rw [h] at e3
      cases e3
theorem stk_lot (M : List OI) (g : List Int) (most many : Nat) : stk M g most many = (gI (okK (allK M g (fits M g most) (fits M g most).length)) (fits M g most).length many [] 0).map fun l => l.map (rw0 (fits M g most)) := by
  have h := grow_gI (fitP M g) (fits M g most) many [] 0
  unfold stk
  refine Eq.trans h ?_
  have hg := gI_congr (ok1 := fun j k => fitP M g (rw0 (fits M g most) j) (rw0 (fits M g most) k)) (ok2 := okK (allK M g (fits M g most) (fits M g most).length)) (N := (fits M g most).length) (fun j k h1 h2 => (allK_ok M g _ h1 h2).symm) many [] 0 (fun x hx => nomatch hx)
  show Option.map (fun l => List.map (rw0 (fits M g most)) l) (gI (fun j k => fitP M g (rw0 (fits M g most) j) (rw0 (fits M g most) k)) (fits M g most).length many [] 0) = _
  rw [hg]
/-! what is shown -/
theorem neg_int : ∀ n : Fin 128, ((PyData.int (-(n.val : Int))).weight ≤ 7 ∧ (PyData.int (-(n.val : Int))).intsShort 13 = true ∧ (PyData.int (-(n.val : Int))).showable = true) := by decide +kernel
theorem nice_int {k : Nat} {i : Int} (h0 : -128 < i) (h1 : i < 128) : Nice (k + 1) 7 (.int i) := by
  by_cases h : 0 ≤ i
  · exact Nice.int h h1
  · obtain ⟨n, hn⟩ := Int.eq_ofNat_of_zero_le (by omega : 0 ≤ -i)
    have e : i = -(n : Int) := by omega
    subst e
    have := neg_int ⟨n, by omega⟩
    exact ⟨rfl, by simp [PyData.depth], this.1, this.2.1, this.2.2, rfl⟩
def dueD (rows : List PK) : Option (List Nat) → PyData
  | none => .tuple [.bool false, .none]
  | some l => .tuple [.bool true, .tuple ((l.map (rw0 rows)).map pr)]
theorem nice_pr {M : List OI} {g : List Int} {most : Nat} (hm : most ≤ 40) {k : Nat} (hk : k < (fits M g most).length) : Nice 2 16 (pr (rw0 (fits M g most) k)) := by
  have h := fits_mem (rw0_mem hk)
  exact Nice.tup (.cons (nice_int (i := (rw0 (fits M g most) k).1) (by omega) (by omega)) (.cons (nice_int (i := (rw0 (fits M g most) k).2) (by omega) (by omega)) (.nil (n := 0))))
theorem nice_due {M : List OI} {g : List Int} {most : Nat} (hm : most ≤ 40) (x : Option (List Nat)) (h1 : ∀ l, x = some l → l.length ≤ 4 ∧ ∀ y ∈ l, y < (fits M g most).length) : Nice 4 200 (dueD (fits M g most) x) := by
  cases x with
  | none => exact Nice.up (Nice.tup (.cons (Nice.bl (k := 0) _) (.cons Nice.non (.nil (n := 0))))) (by decide) (by decide)
  | some l =>
    obtain ⟨h2, h3⟩ := h1 l rfl
    refine Nice.up (Nice.tup (.cons (Nice.bl (k := 2) _) (.cons (Nice.tup (NiceA.of (k := 2) (n := 16) (f := pr) (l := l.map (rw0 (fits M g most))) fun p hp => ?_)) (.nil (n := 0))))) (by decide) ?_
    · obtain ⟨y, hy, rfl⟩ := List.mem_map.mp hp
      exact nice_pr hm (h3 y hy)
    · rw [List.length_map]
      omega
theorem gI_len {ok : Nat → Nat → Bool} {N : Nat} : ∀ n lot at0 l, gI ok N n lot at0 = some l → l.length = lot.length + n
  | 0, lot, at0, l, e => by
    cases e
    rfl
  | n + 1, lot, at0, l, e => by
    have e : List.findSome? _ _ = some l := e
    obtain ⟨i, hi, e2⟩ := List.exists_of_findSome?_eq_some e
    split at e2
    · have := gI_len n (lot ++ [at0 + i]) (at0 + i + 1) l e2
      rw [this, List.length_append, List.length_singleton]
      omega
    · cases e2
theorem due_same (rows : List PK) (x : Option (List Nat)) : PyData.tuple [.bool (!(x.map fun l => l.map (rw0 rows)).isNone), encG (x.map fun l => l.map (rw0 rows))] = dueD rows x := by cases x <;> rfl
theorem lay_prs : ∀ l : List PK, PyData.canLayAll0 (l.map pr) = true
  | [] => rfl
  | x :: r => by
    rw [List.map_cons]
    simp only [PyData.canLayAll0, lay_prs r, Bool.and_true]
    rfl
theorem depth_prs : ∀ l : List PK, PyData.depthAll (l.map pr) ≤ 2
  | [] => by simp [PyData.depthAll]
  | x :: r => by
    rw [List.map_cons]
    have := depth_prs r
    simp only [PyData.depthAll]
    have : (pr x).depth ≤ 2 := by simp [pr, PyData.depth, PyData.depthAll]
    omega
theorem shaped_prs (l : List PK) : SeqAt.shaped (.tuple (l.map pr)) = true := by
  unfold SeqAt.shaped
  have h1 := lay_prs l
  have h2 := depth_prs l
  simp only [PyData.canLay0, PyData.depth, h1, Bool.true_and]
  exact decide_eq_true (by omega)
theorem eqv_prs (l : List PK) : PyData.eqv (.tuple (l.map pr)) (.tuple (l.map pr)) = true := SeqAt.eqv_refl _ (by simp only [PyData.canLay0, lay_prs l])
def goods : List (List Int) := [[0, 7], [0, 4, 7], [5], [0, 3, 4, 7, 8, 9], [0]]
theorem gd_by {g : List Int} (h : (((g.all fun x => decide (0 ≤ x ∧ x < 12)) && (List.range (g.length - 1)).all fun k => decide (g.getD k 0 < g.getD (k + 1) 0)) && decide (g.length ≤ 12)) = true) : Gd g := by
  simp only [Bool.and_eq_true] at h
  obtain ⟨⟨h1, h2⟩, h3⟩ := h
  exact ⟨fun x hx => of_decide_eq_true (List.all_eq_true.mp h1 x hx), fun k hk => of_decide_eq_true (List.all_eq_true.mp h2 k (List.mem_range.mpr (by omega))), of_decide_eq_true h3⟩
theorem goods_ok : ∀ g ∈ goods, Gd g := fun g hg => by
  simp only [goods, List.mem_cons, List.not_mem_nil, or_false] at hg
  rcases hg with rfl | rfl | rfl | rfl | rfl <;> exact gd_by (by decide)
end
end K17
namespace K17
open PySem PySem.Spec PyProof.Rows L2 Pl Pm
section
variable {P : Program} {w : World} {K : PySem.W.Frag} {mg : Str → Option Value} {base : Heap}
abbrev lX (P : Program) (w : World) (K : PySem.W.Frag) (mg : Str → Option Value) (base : Heap) (f : Addr) (cdv : Value) (A : Around) (outer : List Env) (s : Shared) (H : Hp) (E : XK) : Cx := fX P w K mg base N_law "law" s_law f cdv A outer s H E
abbrev ρW (ns : List Int) (l : Addr) (es : List PyData) (M : List OI) (g : List Int) (most : Nat) (R due_rows delay shift voices apart j k many lot due : Sl) : Rho := [.dat (.list (ns.map PyData.int)), .lst l es, .dat (dM M), .dat (dI g), .dat (.int most), R, due_rows, delay, shift, voices, apart, j, k, many, lot, due]
def dV (M : List OI) (rows : List PK) : PyData := .list (rows.map fun p => dM (later M p.1.toNat p.2))
theorem dV_at {M : List OI} {rows : List PK} {k : Nat} (h : k < rows.length) : atI (rows.map fun p => dM (later M p.1.toNat p.2)) (k : Int) = some (dM (later M (rw0 rows k).1.toNat (rw0 rows k).2)) := atI_nat (by
  rw [List.getElem?_map, List.getElem?_eq_getElem h]
  simp [rw0, List.getD, h])
theorem isN_encL (x : Option (List Nat)) : isN (encL x) = x.isNone := by cases x <;> rfl
theorem rowsT_at {rows : List PK} {k : Nat} (h : k < rows.length) : atI (rows.map pr) (k : Int) = some (pr (rw0 rows k)) := rows_at h
theorem od_isB {K : PySem.W.Frag} {k : PyData → Prop} {i j : Bool} (q : k (.bool (decide (i = j)))) : OpD K (fun x y H Q => ∃ a b, x = .bl a ∧ y = .bl b ∧ Q (.bl (decide (a = b))) H) (.bool i) (.bool j) k := fun G H v w x hv hw R z => by
  cases hv
  cases hw
  exact ⟨i, j, rfl, rfl, z _ _ G H (.refl x) (.bl _) q⟩
theorem st_list {es r : List Expr} {p : Pos} {env : Env} : starEach (.List es p :: r) env = (false, eval (.List es p) env) :: starEach r env := rfl
theorem st_name {y : Str} {p : Pos} {r : List Expr} {env : Env} : starEach (.Name y p :: r) env = (false, eval (.Name y p) env) :: starEach r env := rfl
theorem pl_list {es : List Expr} {p pos : Pos} {env : Env} : (backTo pos (starEach [.List es p] env)).any (·.1) = false := rfl
theorem ev_listD {X : Cx} {es : List Expr} {ρ : Rho} {ds : List PyData} {pos : Pos} (h : Av X es ρ ds) (hz : ds.length ≤ 1000000) : Ev X (.List es pos) ρ (.list ds) := ev_fz (el_lst h hz)
theorem menuD_hz : ∀ n, n = 5 → n ≤ 1000000 := fun n h => by omega
def menuD : List PyData := [.tuple [.int 0, .int 7], .tuple [.int 0, .int 4, .int 7], .tuple [.int 5], .tuple [.int 0, .int 3, .int 4, .int 7, .int 8, .int 9], .tuple [.int 0]]
theorem menuD_eq : menuD = goods.map dI := rfl
theorem menuD_len : menuD.length = 5 := rfl
theorem ew_pick {X : Cx} {es : List Expr} {l : Addr} {fs items : List PyData} {ρ : Rho} {px py pl pos : Pos} {Q : PyData → Rho → Prop} (Fp : Fn X.prog X.w X.K X.mg X.base 2 "_law_pick" ["box", "menu"] (spBox X.K 2 pre_pick po_pick)) (hr : Room 2 X.A) (h0 : ρ[1]? = some (.lst l fs)) (hb : Bxs fs) (hm : Av X es ρ items) (hl : 0 < items.length) (hl2 : items.length ≤ 1000) (q : ∀ d fs', Bxs fs' → d ∈ items → Q d (ρ.set 1 (.lst l fs')))
    (hN : X.N[1]? = some ("box" : Str) := by rfl) (hv : Vis X.env.scope "box" := by first | exact Or.inl rfl | exact Or.inr (Or.inl rfl) | exact Or.inr (Or.inr rfl)) (hg : Gl X "_law_pick" := by rfl) : EvW X (.Call (.Name "_law_pick" px) [.Name "box" py, .List es pl] [] pos) ρ Q :=
  ew_callBox (i := 1) Fp hr (Av.w (av_cons (ev_fz (el_lst hm (by omega))) av_nil st_list) ⟨l, fs, h0, rfl, ⟨hb, items, hl, hl2, rfl⟩, fun d fs' ⟨hb', hd⟩ => q d fs' hb' (hd items rfl)⟩) ⟨l, fs, h0⟩ hN hv (by decide) (by decide) hg (by decide) st_name pl_list
theorem hgl : (goods.map dI).length = 5 := by simp [goods]
theorem last_stk : (stk [some 60] [5] 1 1).isNone = false := by rfl
theorem st_tup {es r : List Expr} {x1} {p : Pos} {env : Env} : starEach (.Tuple es x1 p :: r) env = (false, eval (.Tuple es x1 p) env) :: starEach r env := rfl
theorem st_con {c} {j} {r : List Expr} {p : Pos} {env : Env} : starEach (.Constant c j p :: r) env = (false, eval (.Constant c j p) env) :: starEach r env := rfl
theorem ev_t1 {X : Cx} {ρ : Rho} {a0 : Int} {j0 x : Nat} {p0 q : Pos} : Ev X (.Tuple [.Constant (.int a0) j0 p0] x q) ρ (.tuple [.int a0]) := ev_tup (av_cons ev_int av_nil (by exact st_con)) (by show 1 ≤ 1000000; decide)
theorem ev_t2 {X : Cx} {ρ : Rho} {a0 a1 : Int} {j0 j1 x : Nat} {p0 p1 q : Pos} : Ev X (.Tuple [.Constant (.int a0) j0 p0, .Constant (.int a1) j1 p1] x q) ρ (.tuple [.int a0, .int a1]) := ev_tup (av_cons ev_int (av_cons ev_int av_nil (by exact st_con)) (by exact st_con)) (by show 2 ≤ 1000000; decide)
theorem ev_t3 {X : Cx} {ρ : Rho} {a0 a1 a2 : Int} {j0 j1 j2 x : Nat} {p0 p1 p2 q : Pos} : Ev X (.Tuple [.Constant (.int a0) j0 p0, .Constant (.int a1) j1 p1, .Constant (.int a2) j2 p2] x q) ρ (.tuple [.int a0, .int a1, .int a2]) := ev_tup (av_cons ev_int (av_cons ev_int (av_cons ev_int av_nil (by exact st_con)) (by exact st_con)) (by exact st_con)) (by show 3 ≤ 1000000; decide)
theorem ev_t6 {X : Cx} {ρ : Rho} {a0 a1 a2 a3 a4 a5 : Int} {j0 j1 j2 j3 j4 j5 x : Nat} {p0 p1 p2 p3 p4 p5 q : Pos} : Ev X (.Tuple [.Constant (.int a0) j0 p0, .Constant (.int a1) j1 p1, .Constant (.int a2) j2 p2, .Constant (.int a3) j3 p3, .Constant (.int a4) j4 p4, .Constant (.int a5) j5 p5] x q) ρ (.tuple [.int a0, .int a1, .int a2, .int a3, .int a4, .int a5]) := ev_tup (av_cons ev_int (av_cons ev_int (av_cons ev_int (av_cons ev_int (av_cons ev_int (av_cons ev_int av_nil (by exact st_con)) (by exact st_con)) (by exact st_con)) (by exact st_con)) (by exact st_con)) (by exact st_con)) (by show 6 ≤ 1000000; decide)
theorem av_menu {X : Cx} {ρ : Rho} {j0 j1 j2 j3 j4 j5 j6 j7 j8 j9 j10 j11 j12 x0 x1 x2 x3 x4 : Nat} {p0 p1 p2 p3 p4 p5 p6 p7 p8 p9 p10 p11 p12 q0 q1 q2 q3 q4 : Pos} : Av X [.Tuple [.Constant (.int 0) j0 p0, .Constant (.int 7) j1 p1] x0 q0, .Tuple [.Constant (.int 0) j2 p2, .Constant (.int 4) j3 p3, .Constant (.int 7) j4 p4] x1 q1, .Tuple [.Constant (.int 5) j5 p5] x2 q2, .Tuple [.Constant (.int 0) j6 p6, .Constant (.int 3) j7 p7, .Constant (.int 4) j8 p8, .Constant (.int 7) j9 p9, .Constant (.int 8) j10 p10, .Constant (.int 9) j11 p11] x3 q3, .Tuple [.Constant (.int 0) j12 p12] x4 q4] ρ [.tuple [.int 0, .int 7], .tuple [.int 0, .int 4, .int 7], .tuple [.int 5], .tuple [.int 0, .int 3, .int 4, .int 7, .int 8, .int 9], .tuple [.int 0]] := by
  refine av_cons (hs := ?h1) ?a1 ?b1
  case h1 => exact st_tup
  case a1 => exact ev_t2
  refine av_cons (hs := ?h2) ?a2 ?b2
  case h2 => exact st_tup
  case a2 => exact ev_t3
  refine av_cons (hs := ?h3) ?a3 ?b3
  case h3 => exact st_tup
  case a3 => exact ev_t1
  refine av_cons (hs := ?h4) ?a4 ?b4
  case h4 => exact st_tup
  case a4 => exact ev_t6
  refine av_cons (hs := ?h5) ?a5 ?b5
  case h5 => exact st_tup
  case a5 => exact ev_t1
  exact av_nil
theorem dlen_prs (rows : List PK) : dlen (.tuple (rows.map pr)) = some rows.length := by
  show some (rows.map pr).length = _
  rw [List.length_map]
def dueL (rows : List PK) : Option (List Nat) → List PyData
  | none => [.bool false, .none]
  | some l => [.bool true, .tuple ((l.map (rw0 rows)).map pr)]
theorem dueD_eq (rows : List PK) (x : Option (List Nat)) : dueD rows x = .tuple (dueL rows x) := by cases x <;> rfl
abbrev ρV (ns : List Int) (l : Addr) (es : List PyData) (M : List OI) (g : List Int) (most : Nat) (rows : List PK) (L : Addr) (u v : Sl) (la : Addr) (ks : List PK) (j k many lot due : Sl) : Rho := ρW ns l es M g most (.dat (.tuple (rows.map pr))) (.lst L (rows.map pr)) u v (.dat (dV M rows)) (.obj la (dtO ks)) j k many lot due
end
end K17
namespace K17
open PySem PySem.Spec PyProof.Rows L2 Pl Pm
section
variable {P : Program} {w : World} {K : PySem.W.Frag} {mg : Str → Option Value} {base : Heap}
theorem b_apart {f : Addr} (Fc : Fn P w K mg base 1 "_law_clash" ["one", "other", "good"] (spPure K 3 fp_clash)) 
    (mr : mg "range" = none) (ml : mg "len" = none) (cdv : Value) (A : Around) (outer : List Env) (s : Shared) (H : Hp) (E : XK) (ns : List Int) (l : Addr) (es : List PyData) (M : List OI) (g : List Int) (most : Nat) (rows : List PK) (L : Addr) (u v : Sl) (la : Addr) (D : En)
    (hM : M.length ≤ 5) (hm2 : most ≤ 2) (hrows : fits M g most = rows)
    (hr : Room 8 (lX P w K mg base f cdv A outer s H E).A)
    (q : ∀ j k, BvW (lX P w K mg base f cdv A outer s H E) ((defBody s_law).drop 9) (ρV ns l es M g most rows L u v la (allK M g rows rows.length) j k .un .un .un) D) :
    BvW (lX P w K mg base f cdv A outer s H E) ((defBody s_law).drop 8) (ρV ns l es M g most rows L u v la [] .un .un .un .un .un) D := by
  have hun : (lX P w K mg base f cdv A outer s H E).A.units + 64 < cLine := hr.units
  have hu2 : (lX P w K mg base f cdv A outer s H E).A.units + 2 < cLine := by omega
  have r1 := hr.mono (by decide : 1 ≤ 8)
  have hrl : rows.length ≤ 50 := by
    have := fits_len M g most
    rw [hrows] at this
    omega
  have hmem : ∀ {k}, k < rows.length → (1 ≤ (rw0 rows k).1 ∧ (rw0 rows k).1 ≤ most) := fun {k} hk => (fits_mem (M := M) (g := g) (n := most) (p := rw0 rows k) (by rw [hrows]; exact rw0_mem hk)).1
  have hrok : RowsOk rows := by
    have := fits_ok M g (n := most) (by omega)
    rw [hrows] at this
    exact this
  refine b_cut (fun ρ2 => ∃ a b, ρ2 = ρV ns l es M g most rows L u v la (allK M g rows rows.length) a b .un .un .un) (s_for rfl (iv_rng1 mr (Ev.w (ev_len ml (ev_var (i := 5) rfl) (dlen_prs rows)) ⟨_, rfl, by omega, by omega, fun n ρ2 => ∃ a b, ρ2 = ρV ns l es M g most rows L u v la (allK M g rows n) a b .un .un .un, fun _ _ _ => trivial, ⟨.un, .un, rfl⟩, fun n d ρ2 hd ⟨a, b, e⟩ => ?_, fun ρ2 ⟨a, b, e⟩ => ?_⟩))) (fun ρ2 e => ?_)
  · subst e
    obtain ⟨hn, rfl⟩ := rng_get hd
    have hn : n < rows.length := hn
    rw [Int.zero_add]
    refine g_name (i := 11) sc_law.nd trivial ?_
    refine b_cons (s_for rfl (iv_rng2 mr (Av.w (av_cons (ev_add (ev_var (i := 11) rfl) ev_int) (av_cons (ev_len ml (ev_var (i := 5) rfl) (dlen_prs rows)) av_nil)) ⟨(n : Int) + 1, rows.length, rfl, by omega, by omega, by omega, by omega, fun m ρ2 => ∃ b, ρ2 = ρV ns l es M g most rows L u v la (allK M g rows n ++ rowK M g rows n m) (.dat (.int (n : Int))) b .un .un .un, fun _ _ _ => trivial,
      ⟨b, by rw [show rowK M g rows n 0 = [] from rfl, List.append_nil]; rfl⟩, fun m d ρ2 hd ⟨b, e⟩ => ?_, fun ρ2 ⟨b, e⟩ => ?_⟩)))
    · subst e
      obtain ⟨hm, rfl⟩ := rng_get hd
      have ec : (n : Int) + 1 + (m : Int) = ((n + 1 + m : Nat) : Int) := by omega
      rw [ec]
      have hk : n + 1 + m < rows.length := by omega
      refine g_name (i := 12) sc_law.nd trivial ?_
      have h1 := hmem hn
      have h2 := hmem hk
      have h3 := (hrok.df n (n + 1 + m) (by omega) hk).1.1
      refine b_cons (s_if' (k := !fitP M g (rw0 rows n) (rw0 rows (n + 1 + m))) (Tv.to (tv_notN (ev_call Fc r1 (av_cons (ev_ixL (ev_var (i := 9) rfl) (ev_var (i := 11) rfl) (dV_at hn)) (av_cons (ev_ixL (ev_var (i := 9) rfl) (ev_var (i := 12) rfl) (dV_at hk)) (av_cons (ev_var (i := 3) rfl) av_nil))) ⟨later M (rw0 rows n).1.toNat (rw0 rows n).2, later M (rw0 rows (n + 1 + m)).1.toNat (rw0 rows (n + 1 + m)).2, g, by rw [later_len]; omega, by rw [later_len]; omega, rfl, rfl⟩)) (by rw [isN_encN, clash_fit M g (by omega) (by omega)])) (fun h4 => ?_) (fun h4 => ?_))
      · have h5 : fitP M g (rw0 rows n) (rw0 rows (n + 1 + m)) = false := by simpa using h4
        refine b_cons (s_dtSet (i := 10) (l := la) (ks := allK M g rows n ++ rowK M g rows n m) (k := ((n : Int), ((n + 1 + m : Nat) : Int))) hu2 rfl (av_cons (ev_var (i := 11) rfl) (av_cons (ev_var (i := 12) rfl) av_nil)) ?few ?new (b_nil (b_nil ⟨.dat (.int ((n + 1 + m : Nat) : Int)), ?_⟩)))
        case few =>
          have z1 := allK_len M g rows hrl n
          have z2 := rowK_len M g rows n m
          rw [List.length_append]
          omega
        case new =>
          intro z
          rcases List.mem_append.mp z with z | z
          · obtain ⟨j2, z1, z2⟩ := allK_mem.mp z
            have := (rowK_mem.mp z2).1
            omega
          · obtain ⟨_, i2, z1, z2, _⟩ := rowK_mem.mp z
            omega
        rw [rowK_succ, if_neg (by rw [h5]; exact Bool.false_ne_true), ← List.append_assoc]
        rfl
      · have h5 : fitP M g (rw0 rows n) (rw0 rows (n + 1 + m)) = true := by simpa using h4
        refine b_nil (b_nil ⟨.dat (.int ((n + 1 + m : Nat) : Int)), ?_⟩)
        rw [rowK_succ, if_pos h5, List.append_nil]
        rfl
    · subst e
      refine b_nil ⟨.dat (.int (n : Int)), b, ?_⟩
      rw [rng_len, allK_succ, show ((rows.length : Int) - ((n : Int) + 1)).toNat = rows.length - (n + 1) by omega]
  · subst e
    rw [rng_len]
    exact ⟨a, b, rfl⟩
  · obtain ⟨a, b, rfl⟩ := e
    exact q a b
end
end K17
namespace K17
open PySem PySem.Spec PyProof.Rows L2 Pl Pm
section
variable {P : Program} {w : World} {K : PySem.W.Frag} {mg : Str → Option Value} {base : Heap}
theorem hm60 : HM [some 60] := fun x h => by
  rcases List.mem_cons.mp h with h | h
  · cases h
    exact ⟨by decide, by decide⟩
  · cases h
theorem gd5 : Gd [5] := gd_by (by decide)
theorem b_many {f : Addr}
    (Fq : ∀ (ks : List PK) (many N : Nat), 0 < many → many ≤ 4 → N ≤ 50 → 2 * (N + 1) ^ (many - 1) < 100000 → Fn P w K mg base 1 "_law_lot" ["many", "rows", "apart"] (spObj K 3 (pre_lot ks many N) (po_lot ks many N))) (Fs : Fn P w K mg base 8 "stacked" ["melody", "good", "most", "many"] (spPure K 4 fp_stacked))
    (mt : mg "tuple" = none) (ml : mg "len" = none) (mp : mg "repr" = none) (cdv : Value) (A : Around) (outer : List Env) (s : Shared) (H : Hp) (E : XK) (ns : List Int) (l : Addr) (es : List PyData) (M : List OI) (g : List Int) (most : Nat) (rows : List PK) (L : Addr) (u v : Sl) (la : Addr)
    (hM1 : 1 ≤ M.length) (hM : M.length ≤ 5) (hHM : HM M) (hgd : Gd g) (hm1 : 1 ≤ most) (hm2 : most ≤ 2) (hrows : fits M g most = rows)
    (hr : Room 8 (lX P w K mg base f cdv A outer s H E).A) (hg : (lX P w K mg base f cdv A outer s H E).A.guards = some []) (j k : Sl) :
    BvW (lX P w K mg base f cdv A outer s H E) ((defBody s_law).drop 9) (ρV ns l es M g most rows L u v la (allK M g rows rows.length) j k .un .un .un) { nx := fun _ => False, rt := fun d _ => d = .bool true } := by
  have hu : (lX P w K mg base f cdv A outer s H E).A.units + 70 < cLine := by
    have := hr.un
    omega
  have r1 := hr.mono (by decide : 1 ≤ 8)
  have hrl : rows.length ≤ 50 := by
    have := fits_len M g most
    rw [hrows] at this
    omega
  refine b_cut (fun ρ2 => ∃ k a b c, ρ2 = ρV ns l es M g most rows L u v la (allK M g rows rows.length) j k a b c) (s_for rfl (iv_ofT (ev_tup (av_cons ev_int (av_cons ev_int av_nil))) ⟨fun _ ρ2 => ∃ k a b c, ρ2 = ρV ns l es M g most rows L u v la (allK M g rows rows.length) j k a b c, fun _ _ _ => trivial, ⟨k, .un, .un, .un, rfl⟩, fun n d ρ2 hd ⟨k, a, b, c, e⟩ => ?_, fun ρ2 e => e⟩)) (fun ρ2 e => ?_)
  · subst e
    obtain ⟨many, hmany, rfl⟩ : ∃ many : Nat, (many = 3 ∨ many = 4) ∧ d = .int (many : Int) := by
      rcases n with _ | n
      · cases hd
        exact ⟨3, .inl rfl, rfl⟩
      · rcases n with _ | n
        · cases hd
          exact ⟨4, .inr rfl, rfl⟩
        · cases hd
    refine g_name (i := 13) sc_law.nd trivial ?_
    refine b_cons (s_if' (tv_w (tw_or' (tv_eq (ev_var (i := 13) rfl) ev_int) fun _ => tw_or1 (tv_le (ev_len ml (ev_var (i := 5) rfl) (dlen_prs rows)) ev_int))) (fun h1 => ?_) (fun h1 => b_nil (b_nil ⟨k, _, b, c, rfl⟩)))
    have h2 : many = 3 ∨ rows.length ≤ 16 := by
      rcases Bool.or_eq_true_iff.mp h1 with h1 | h1
      · have := of_decide_eq_true h1
        omega
      · have := of_decide_eq_true h1
        omega
    have h3 : 2 * (rows.length + 1) ^ (many - 1) < 100000 := by
      rcases hmany with rfl | rfl
      · have := Nat.pow_le_pow_left (show rows.length + 1 ≤ 51 by omega) 2
        show 2 * (rows.length + 1) ^ 2 < 100000
        omega
      · have := Nat.pow_le_pow_left (show rows.length + 1 ≤ 17 by omega) 3
        show 2 * (rows.length + 1) ^ 3 < 100000
        omega
    generalize hks : allK M g rows rows.length = ks
    refine b_cons (s_set (i := 14) sc_law.nd (ew_callObj (i := 10) (Fq ks many rows.length (by omega) (by omega) hrl h3) r1 (ao_ev (ev_var (i := 13) rfl) (ao_ev (ev_len ml (ev_var (i := 5) rfl) (dlen_prs rows)) (ao_one (i := 10) (l := la) (Φ := dtO ks) rfl ⟨rfl, ⟨rfl, rfl⟩, fun d Φ' l2 ⟨e1, e2⟩ hs => ?_⟩)))))
    cases hs
    subst e1
    subst e2
    have hx : stk M g most many = (gI (okK ks) rows.length many [] 0).map fun l => l.map (rw0 rows) := by
      have := stk_lot M g most many
      rw [hrows, hks] at this
      exact this
    have hx2 : ∀ l, gI (okK ks) rows.length many [] 0 = some l → l.length ≤ 4 ∧ ∀ y ∈ l, y < rows.length := fun l e => ⟨by
      have := gI_len many [] 0 l e
      rw [List.length_nil] at this
      omega, gI_lt many [] 0 l (fun x hx => nomatch hx) e⟩
    generalize hxe : gI (okK ks) rows.length many [] 0 = x at hx hx2
    have hnice : Nice 4 200 (.tuple (dueL rows x)) := by
      have := nice_due (M := M) (g := g) (most := most) (by omega) x (by rw [hrows]; exact hx2)
      rw [hrows, dueD_eq] at this
      exact this
    show BvW _ _ (ρV ns l es M g most rows L u v la ks j k (.dat (.int (many : Int))) (.dat (encL x)) c) _
    refine b_cons (s_set (i := 15) sc_law.nd (Ev.w (d := .tuple (dueL rows x)) ?due ?rest))
    case due =>
      cases x with
      | none => exact ev_if (k := !isN (encL none)) (tv_notN (ev_var (i := 14) rfl)) (fun h => nomatch h) (fun _ => ev_tup (av_cons ev_bl (av_cons ev_non av_nil)))
      | some lt =>
        refine ev_if (k := !isN (encL (some lt))) (tv_notN (ev_var (i := 14) rfl)) (fun _ => ev_tup (av_cons ev_bl (av_cons (ev_tuple mt ((ev_lc (own := [("k", 12)]) (lc_map (j := 12) (lt.map nI) PyData.int (fun _ => true) (fun i => pr (rw0 rows i.toNat)) sc_law.nd (iv_ofT (ev_var (i := 14) rfl) ⟨rfl, rfl, trivial⟩) ?len (fun y hy s H C cl fp => tf_nil ⟨rfl, rfl⟩) (fun y hy _ s H C cl fp => ?item)) rfl sc_law.nd (blkOk_by (N := N_law) (sc := defScope s_law) (by decide +kernel))).to ?same)) av_nil))) (fun h => nomatch h)
        case len =>
          have := (hx2 lt rfl).1
          rw [List.length_map]
          omega
        case item =>
          obtain ⟨n, hn, rfl⟩ := List.mem_map.mp hy
          exact ev_ixT (ev_var (i := 5) rfl) (ev_var (i := 12) rfl) (rowsT_at ((hx2 lt rfl).2 n hn))
        case same =>
          rw [filter_yes, List.map_map, List.map_map]
          rfl
    case rest =>
      show BvW _ _ (ρV ns l es M g most rows L u v la ks j k (.dat (.int (many : Int))) (.dat (encL x)) (.dat (.tuple (dueL rows x)))) _
      refine b_cons (s_if' (k := false) (Tv.to (tv_neS (ev_repr hg hu mp ((ev_call Fs hr (av_cons (ev_var (i := 2) rfl) (av_cons (ev_var (i := 3) rfl) (av_cons (ev_var (i := 4) rfl) (av_cons (ev_var (i := 13) rfl) av_nil)))) ⟨M, g, most, many, hM1, by omega, hHM, hgd, hm1, by omega, by omega, by omega, rfl, rfl⟩).to ?eq) hnice (by decide) (by decide)) (ev_repr hg hu mp (ev_var (i := 15) rfl) hnice (by decide) (by decide))) (by simp)) (fun h => nomatch h) (fun _ => b_nil (b_nil (b_nil ?fin))))
      case eq =>
        rw [hx, due_same, dueD_eq]
      case fin => exact ⟨k, _, _, _, rfl⟩
  · obtain ⟨k, a, b, c, rfl⟩ := e
    refine b_cons (s_ret (Ev.w ((ev_isB (ev_ixT (ev_call Fs hr (av_cons (ev_tup (av_cons ev_int av_nil)) (av_cons (ev_tup (av_cons ev_int av_nil)) (av_cons ev_int (av_cons ev_int av_nil)))) ⟨[some 60], [5], 1, 1, by decide, by decide, hm60, gd5, by decide, by decide, by decide, by decide, rfl, rfl⟩) ev_int rfl) ev_bl).to ?last) rfl))
    case last =>
      rw [last_stk]
      rfl
end
end K17
namespace K17
open PySem PySem.Spec PyProof.Rows L2 Pl Pm
section
variable {P : Program} {w : World} {K : PySem.W.Frag} {mg : Str → Option Value} {base : Heap}
theorem b_law {f : Addr} (Fb : Fn P w K mg base 1 "_law_box" ["script"] (spNew K 1 fp_box)) (Ft : Fn P w K mg base 1 "_law_take" ["box", "m"] (spBox K 2 pre_take po_take)) (Fm : Fn P w K mg base 2 "_law_melody" ["box", "most"] (spBox K 2 pre_mel po_mel)) (Fp : Fn P w K mg base 2 "_law_pick" ["box", "menu"] (spBox K 2 pre_pick po_pick))
    (Ff : Fn P w K mg base 4 "all_fits" ["melody", "good", "most"] (spPure K 3 fp_fits)) (Fc : Fn P w K mg base 1 "_law_clash" ["one", "other", "good"] (spPure K 3 fp_clash)) (Fl : Fn P w K mg base 1 "_law_later" ["melody", "delay", "shift"] (spPure K 3 fp_voice))
    (Fq : ∀ (ks : List PK) (many N : Nat), 0 < many → many ≤ 4 → N ≤ 50 → 2 * (N + 1) ^ (many - 1) < 100000 → Fn P w K mg base 1 "_law_lot" ["many", "rows", "apart"] (spObj K 3 (pre_lot ks many N) (po_lot ks many N))) (Fs : Fn P w K mg base 8 "stacked" ["melody", "good", "most", "many"] (spPure K 4 fp_stacked))
    (mt : mg "tuple" = none) (mr : mg "range" = none) (ml : mg "len" = none) (mp : mg "repr" = none) (cdv : Value) (A : Around) (outer : List Env) (s : Shared) (H : Hp) (E : XK) (ns : List Int)
    (hr : Room 8 (lX P w K mg base f cdv A outer s H E).A) (hg : (lX P w K mg base f cdv A outer s H E).A.guards = some []) (hn : ns.length ≤ 63) :
    BvW (lX P w K mg base f cdv A outer s H E) (defBody s_law) (.dat (.list (ns.map PyData.int)) :: List.replicate (N_law.length - 1) Sl.un) { nx := fun _ => False, rt := fun d _ => d = .bool true } := by
  have hun : (lX P w K mg base f cdv A outer s H E).A.units + 64 < cLine := hr.units
  have hu2 : (lX P w K mg base f cdv A outer s H E).A.units + 2 < cLine := by omega
  have hu : (lX P w K mg base f cdv A outer s H E).A.units + 70 < cLine := by
    have := hr.un
    omega
  have r1 := hr.mono (by decide : 1 ≤ 8)
  refine b_cons (s_setL (i := 1) sc_law.nd (el_call Fb r1 (av_cons (ev_var (i := 0) rfl) av_nil) (encB 0 0 0 (cellsOf ns)) ⟨ns, hn, rfl, rfl⟩ fun l => ?_))
  refine b_cons (s_asg (ew_tup (aw_cons (Qa := fun d ρ1 => ∃ (es2 : List PyData) (M : List OI), Bxs es2 ∧ 1 ≤ M.length ∧ M.length ≤ 5 ∧ HM M ∧ d = dM M ∧ ρ1 = [.dat (.list (ns.map PyData.int)), .lst l es2, .un, .un, .un, .un, .un, .un, .un, .un, .un, .un, .un, .un, .un, .un]) (ew_callBox (i := 1) Fm (hr.mono (by decide)) (Av.w (av_cons ev_int av_nil) ⟨l, _, rfl, rfl, ⟨⟨0, 0, 0, _, rfl⟩, rfl⟩, fun d es2 ⟨hb2, M, h1, h2, h3, e2⟩ => ⟨es2, M, hb2, h1, h2, h3, e2, rfl⟩⟩)) fun d ρ1 ⟨es2, M, hb2, h1, h2, h3, e1, e2⟩ => ?_)))
  subst e1
  subst e2
  refine aw_cons (Qa := fun d ρ1 => ∃ (es3 : List PyData) (g : List Int), Bxs es3 ∧ Gd g ∧ d = dI g ∧ ρ1 = [.dat (.list (ns.map PyData.int)), .lst l es3, .un, .un, .un, .un, .un, .un, .un, .un, .un, .un, .un, .un, .un, .un]) ?call ?next
  case call =>
    refine ew_pick (l := l) (items := menuD) Fp (hr.mono (by decide)) rfl hb2 ?menu (by rw [menuD_len]; decide) (by rw [menuD_len]; decide) fun d fs' hb' hd => ?fin
    case menu => exact av_menu
    case fin =>
      rw [menuD_eq] at hd
      obtain ⟨g, hgm, rfl⟩ := List.mem_map.mp hd
      exact ⟨fs', g, hb', goods_ok g hgm, rfl, rfl⟩
  refine fun d ρ1 ⟨es3, g, hb3, hgd, e1, e2⟩ => ?_
  subst e1
  subst e2
  refine aw_nil ⟨by simp, g_tup rfl (gs_cons (g_name (i := 2) sc_law.nd trivial (gs_cons (g_name (i := 3) sc_law.nd trivial (gs_nil ?_)))))⟩
  refine b_cons (s_set (i := 4) sc_law.nd (ew_addR ev_int (ew_take (i := 1) (l := l) Ft r1 rfl hb3 ev_int (by decide) (by decide) fun r es4 h5 h6 hb4 => ⟨r, rfl, ?_⟩)))
  obtain ⟨most, hmost⟩ := Int.eq_ofNat_of_zero_le (by omega : 0 ≤ 1 + r)
  rw [hmost]
  have hmost1 : 1 ≤ most ∧ most ≤ 2 := by omega
  have hmost2 := hmost1.2
  refine b_cons (s_set (i := 5) sc_law.nd (Ev.w (ev_call Ff (hr.mono (by decide)) (av_cons (ev_var (i := 2) rfl) (av_cons (ev_var (i := 3) rfl) (av_cons (ev_var (i := 4) rfl) av_nil))) ⟨M, g, most, h1, by omega, h3, hgd, hmost1.1, by omega, rfl, rfl⟩) ?_))
  refine b_cons (s_setL (i := 6) sc_law.nd (El.w (el_lst av_nil) fun L => ?_))
  generalize hrows : fits M g most = rows
  have hrl : rows.length ≤ 50 := by
    have := fits_len M g most
    rw [hrows] at this
    omega
  have hrok : RowsOk rows := by
    have := fits_ok M g (n := most) (by omega)
    rw [hrows] at this
    exact this
  show BvW _ _ (ρW ns l es4 M g most (.dat (.tuple (rows.map pr))) (.lst L ((fits M g 0).map pr)) .un .un .un .un .un .un .un .un .un) _
  -- the rows again
  refine b_cut (fun ρ2 => ∃ u v, ρ2 = ρW ns l es4 M g most (.dat (.tuple (rows.map pr))) (.lst L (rows.map pr)) u v .un .un .un .un .un .un .un) (s_for rfl (iv_rng2 mr (Av.w (av_cons ev_int (av_cons (ev_add (ev_var (i := 4) rfl) ev_int) av_nil)) ⟨1, _, rfl, by decide, by decide, by omega, by omega, ?_⟩))) (fun ρ2 e => ?_)
  · have et : ((most : Int) + 1 - 1).toNat = most := by omega
    rw [et]
    refine ⟨fun k ρ2 => ∃ u v, ρ2 = ρW ns l es4 M g most (.dat (.tuple (rows.map pr))) (.lst L ((fits M g k).map pr)) u v .un .un .un .un .un .un .un, fun _ _ _ => trivial, ⟨.un, .un, rfl⟩, fun k d ρ2 hd ⟨u, v, e⟩ => ?_, fun ρ2 ⟨u, v, e⟩ => ?_⟩
    · subst e
      obtain ⟨hk, rfl⟩ := rng_get hd
      refine g_name (i := 7) sc_law.nd trivial ?_
      refine b_cons (s_for rfl (iv_rng2 mr (Av.w (av_cons (ev_neg ev_int) (av_cons ev_int av_nil)) ⟨-12, 13, rfl, by decide, by decide, by decide, by decide, fun m ρ2 => ∃ v, ρ2 = ρW ns l es4 M g most (.dat (.tuple (rows.map pr))) (.lst L ((fits M g k ++ fitD M g (1 + (k : Int)) m).map pr)) (.dat (.int (1 + (k : Int)))) v .un .un .un .un .un .un .un, fun _ _ _ => trivial,
        ⟨v, by rw [show fitD M g (1 + (k : Int)) 0 = [] from rfl, List.append_nil]; rfl⟩, fun m d ρ2 hd ⟨v, e⟩ => ?_, fun ρ2 ⟨v, e⟩ => ?_⟩)))
      · subst e
        obtain ⟨hm2, rfl⟩ := rng_get hd
        refine g_name (i := 8) sc_law.nd trivial ?_
        have hl1 := fits_len M g k
        have hl2 := fitD_len M g (1 + (k : Int)) m
        refine b_cons (s_if' (k := fitB M g (1 + (k : Int), -12 + (m : Int))) (Tv.to (tv_isN (ev_call Fc r1 (av_cons (ev_var (i := 2) rfl) (av_cons (ev_call Fl r1 (av_cons (ev_var (i := 2) rfl) (av_cons (ev_var (i := 7) rfl) (av_cons (ev_var (i := 8) rfl) av_nil))) ⟨M, 1 + (k : Int), -12 + (m : Int), by omega, by omega, by omega, rfl, rfl⟩) (av_cons (ev_var (i := 3) rfl) av_nil)))
          ⟨M, later M (1 + (k : Int)).toNat (-12 + (m : Int)), g, by omega, by rw [later_len]; omega, rfl, rfl⟩)) (isN_encN _)) (fun h1 => ?_) (fun h1 => ?_))
        · refine b_cons (s_app (i := 6) (Ev.w (ev_tup (av_cons (ev_var (i := 7) rfl) (av_cons (ev_var (i := 8) rfl) av_nil))) ⟨L, _, rfl, by rw [List.length_map, List.length_append]; omega, ?_⟩))
          refine b_nil (b_nil ⟨.dat (.int (-12 + (m : Int))), ?_⟩)
          rw [fitD_succ, h1, if_pos rfl, ← List.append_assoc]
          simp only [List.map_append]
          rfl
        · refine b_nil (b_nil ⟨.dat (.int (-12 + (m : Int))), ?_⟩)
          rw [fitD_succ, h1, if_neg Bool.false_ne_true, List.append_nil]
          rfl
      · subst e
        refine b_nil ⟨.dat (.int (1 + (k : Int))), v, ?_⟩
        rw [fits_succ]
        rfl
    · subst e
      rw [rng_len, hrows]
      exact ⟨u, v, rfl⟩
  obtain ⟨u, v, rfl⟩ := e
  refine b_cons (s_if' (k := false) (Tv.to (tv_neD hun (ev_var (i := 5) rfl) (ev_tupleO (i := 6) mt rfl) (shaped_prs rows) (shaped_prs rows)) (by rw [eqv_prs]; rfl)) (fun h => nomatch h) (fun _ => b_nil ?_))
  refine b_cons (s_par (i := 9) (j := 10) rfl sc_law.nd (ex_new (El.w (el_lc (own := [("delay", 7), ("shift", 8)]) (lc_map2 (i := 7) (j := 8) rows (fun p => .int p.1) (fun p => .int p.2) (fun _ => true) (fun p => dM (later M p.1.toNat p.2)) rfl sc_law.nd (iv_ofT (ev_var (i := 5) rfl) ⟨rfl, rfl, trivial⟩) (by omega) (fun y hy s H C cl fp => tf_nil ⟨rfl, rfl⟩)
    (fun y hy _ s H C cl fp => by
      have hy2 := fits_mem (M := M) (g := g) (n := most) (p := y) (by rw [hrows]; exact hy)
      exact ev_call Fl r1 (av_cons (ev_var (i := 2) rfl) (av_cons (ev_var (i := 7) rfl) (av_cons (ev_var (i := 8) rfl) av_nil))) ⟨M, y.1, y.2, by omega, by omega, by omega, rfl, rfl⟩)) rfl sc_law.nd (blkOk_by (N := N_law) (sc := defScope s_law) (by decide +kernel))) fun L2 => ex_obj (EoW.imp eo_dt fun Φ ρ1 ⟨e1, e2⟩ => ?_))))
  subst e1
  subst e2
  intro la
  refine b_weak (ρ' := ρW ns l es4 M g most (.dat (.tuple (rows.map pr))) (.lst L (rows.map pr)) u v (.lst L2 (rows.map fun p => dM (later M p.1.toNat p.2))) (.obj la (dtO [])) .un .un .un .un .un) ⟨rfl, fun i s e => .inr ?weak⟩ (b_freeze (i := 9) rfl ?cont)
  case weak =>
    rw [filter_yes]
    exact e
  case cont => exact b_apart Fc mr ml cdv A outer s H E ns l es4 M g most rows L u v la _ h2 hmost2 hrows hr fun j k => b_many Fq Fs mt ml mp cdv A outer s H E ns l es4 M g most rows L u v la h1 h2 h3 hgd hmost1.1 hmost2 hrows hr hg j k
end
end K17
namespace K17
open PySem PySem.Spec PyProof.Rows L2 Pl Pm
/-! all together -/
theorem all_mk {P : Program} {w : World} {K : PySem.W.Frag} {h : Heap} {mg : Str → Option Value} {fa : Addr} (X : K.In h) (G : h.Ns mainGlobals mg) (hfa : mg "law" = some (.ref fa))
    (d_is_number : Dfn K "is_number" s_is_number)
    (d_is_height : Dfn K "is_height" s_is_height)
    (d_check_melody : Dfn K "check_melody" s_check_melody)
    (d_check_good : Dfn K "check_good" s_check_good)
    (d_first_clash : Dfn K "first_clash" s_first_clash)
    (d_voice_of : Dfn K "voice_of" s_voice_of)
    (d_fitting : Dfn K "fitting" s_fitting)
    (d_check_most : Dfn K "check_most" s_check_most)
    (d_all_fits : Dfn K "all_fits" s_all_fits)
    (d_fit_between : Dfn K "fit_between" s_fit_between)
    (d_grown : Dfn K "grown" s_grown)
    (d_stacked : Dfn K "stacked" s_stacked)
    (d__law_box : Dfn K "_law_box" s_law_box)
    (d__law_take : Dfn K "_law_take" s_law_take)
    (d__law_pick : Dfn K "_law_pick" s_law_pick)
    (d__law_melody : Dfn K "_law_melody" s_law_melody)
    (d__law_clash : Dfn K "_law_clash" s_law_clash)
    (d__law_later : Dfn K "_law_later" s_law_later)
    (d__law_lot : Dfn K "_law_lot" s_law_lot)
    (d_law : Dfn K "law" s_law)
    (n_abs : PySem.W.nsIn K mainGlobals "abs" = some none)
    (n_isinstance : PySem.W.nsIn K mainGlobals "isinstance" = some none)
    (n_int : PySem.W.nsIn K mainGlobals "int" = some none)
    (n_bool : PySem.W.nsIn K mainGlobals "bool" = some none)
    (n_tuple : PySem.W.nsIn K mainGlobals "tuple" = some none)
    (n_len : PySem.W.nsIn K mainGlobals "len" = some none)
    (n_all : PySem.W.nsIn K mainGlobals "all" = some none)
    (n_range : PySem.W.nsIn K mainGlobals "range" = some none)
    (n_min : PySem.W.nsIn K mainGlobals "min" = some none)
    (n_max : PySem.W.nsIn K mainGlobals "max" = some none)
    (n_repr : PySem.W.nsIn K mainGlobals "repr" = some none)
    (c_MOST_TIMES : Cint K "MOST_TIMES" 200)
    (c_HIGHEST : Cint K "HIGHEST" 127)
    : ∃ fd, Fun K "law" "law" s_law fa fd ∧ (∀ (s : Shared) (v : Value), BindsTo s fd ⟨[v], []⟩ [("script", v)]) ∧ ∀ (base : Heap) (cdv : Value) (s' : Shared) (H : Hp) (E : XK) (ns : List Int), K.In base → base.Ns mainGlobals mg → Room 8 (fX P w K mg base N_law "law" s_law fa cdv callerA [] s' H E).A → (fX P w K mg base N_law "law" s_law fa cdv callerA [] s' H E).A.guards = some [] →
        ns.length ≤ 63 → BvW (fX P w K mg base N_law "law" s_law fa cdv callerA [] s' H E) (defBody s_law) (.dat (.list (ns.map PyData.int)) :: List.replicate (N_law.length - 1) Sl.un) { nx := fun _ => False, rt := fun d _ => d = .bool true } := by
  have z_abs := free_of X G n_abs
  have z_isinstance := free_of X G n_isinstance
  have z_int := free_of X G n_int
  have z_bool := free_of X G n_bool
  have z_tuple := free_of X G n_tuple
  have z_len := free_of X G n_len
  have z_all := free_of X G n_all
  have z_range := free_of X G n_range
  have z_min := free_of X G n_min
  have z_max := free_of X G n_max
  have z_repr := free_of X G n_repr
  have g_MOST_TIMES : Gc K mg "MOST_TIMES" (.int 200) := c_MOST_TIMES.gc X G
  have g_HIGHEST : Gc K mg "HIGHEST" (.int 127) := c_HIGHEST.gc X G
  obtain ⟨fl, oc, od, an, sl, kV, dc, pm, cd, ct, la, ll, lc, lk⟩ := d_law
  have e := hfa.symm.trans (PySem.W.mg_of X G la)
  cases e
  refine ⟨_, fun_mk (st := s_law) ll lc lk, fun s v => .of_eq rfl, fun base cdv s' H E ns _ _ hr hg hn => ?_⟩
  have f_is_number : Fn P w K mg base 1 "is_number" ["x"] (spPure K 1 fp_number) := d_is_number.fn X G (fun _ _ _ _ _ _ us hl => match us, hl with | [_], _ => rfl) fun f fd F => ok_number F z_isinstance z_int z_bool
  have f_is_height : Fn P w K mg base 2 "is_height" ["x"] (spPure K 1 fp_height) := d_is_height.fn X G (fun _ _ _ _ _ _ us hl => match us, hl with | [_], _ => rfl) fun f fd F => ok_height F f_is_number g_HIGHEST
  have f_check_melody : Fn P w K mg base 3 "check_melody" ["x"] (spPure K 1 fp_cmel) := d_check_melody.fn X G (fun _ _ _ _ _ _ us hl => match us, hl with | [_], _ => rfl) fun f fd F => ok_cmel F f_is_height z_isinstance z_tuple z_len z_all g_MOST_TIMES
  have f_check_good : Fn P w K mg base 2 "check_good" ["x"] (spPure K 1 fp_cgood) := d_check_good.fn X G (fun _ _ _ _ _ _ us hl => match us, hl with | [_], _ => rfl) fun f fd F => ok_cgood F f_is_number z_isinstance z_tuple z_len z_all z_range
  have f_first_clash : Fn P w K mg base 1 "first_clash" ["one", "other", "good"] (spPure K 3 fp_clash) := d_first_clash.fn X G (fun _ _ _ _ _ _ us hl => match us, hl with | [_, _, _], _ => rfl) fun f fd F => ok_clash F z_len z_range z_min z_abs
  have f_voice_of : Fn P w K mg base 1 "voice_of" ["melody", "delay", "shift"] (spPure K 3 fp_voice) := d_voice_of.fn X G (fun _ _ _ _ _ _ us hl => match us, hl with | [_, _, _], _ => rfl) fun f fd F => ok_voice F z_tuple
  have f_fitting : Fn P w K mg base 2 "fitting" ["melody", "good", "most"] (spPure K 3 fp_fitting) := d_fitting.fn X G (fun _ _ _ _ _ _ us hl => match us, hl with | [_, _, _], _ => rfl) fun f fd F => ok_fitting F f_first_clash f_voice_of z_range
  have f_check_most : Fn P w K mg base 2 "check_most" ["x", "most"] (spPure K 2 fp_cmost) := d_check_most.fn X G (fun _ _ _ _ _ _ us hl => match us, hl with | [_, _], _ => rfl) fun f fd F => ok_cmost F f_is_number
  have f_all_fits : Fn P w K mg base 4 "all_fits" ["melody", "good", "most"] (spPure K 3 fp_fits) := d_all_fits.fn X G (fun _ _ _ _ _ _ us hl => match us, hl with | [_, _, _], _ => rfl) fun f fd F => ok_fits F f_check_melody f_check_good f_check_most f_fitting z_tuple
  have f_fit_between : ∀ (M : List OI) (g : List Int) (hM : M.length ≤ 200), Fn P w K mg base 2 "fit_between" ["one", "other", "known"] (spObj K 3 (pre_fb P w M g) (po_fb P w M g)) := fun M g hM  => d_fit_between.fn X G (fun _ _ _ _ _ _ us hl => match us, hl with | [_, _, _], _ => rfl) fun f fd F => ok_between M g hM F f_first_clash f_voice_of
  obtain ⟨fgr, ocg, odg, ang, slg, kVg, dcg, pmg, cdg, ctg, lag, llg, lcg, lkg⟩ := d_grown
  have FG := fun_mk (st := s_grown) llg lcg lkg
  have hmgr := PySem.W.mg_of X G lag
  have hbg := FG.binds (ps := ["rows", "chosen", "at", "many", "known"]) (fun _ _ _ _ _ _ us hl => match us, hl with | [_, _, _, _, _], _ => rfl)
  have f_stacked : Fn P w K mg base 8 "stacked" ["melody", "good", "most", "many"] (spPure K 4 fp_stacked) := d_stacked.fn X G (fun _ _ _ _ _ _ us hl => match us, hl with | [_, _, _, _], _ => rfl) fun f fd F => ok_stacked F f_check_melody f_check_good f_check_most f_fitting FG hmgr hbg f_fit_between z_len z_range z_all z_tuple
  have f__law_box : Fn P w K mg base 1 "_law_box" ["script"] (spNew K 1 fp_box) := d__law_box.fn X G (fun _ _ _ _ _ _ us hl => match us, hl with | [_], _ => rfl) fun f fd F => ok_lbox F z_abs z_int
  have f__law_take : Fn P w K mg base 1 "_law_take" ["box", "m"] (spBox K 2 pre_take po_take) := d__law_take.fn X G (fun _ _ _ _ _ _ us hl => match us, hl with | [_, _], _ => rfl) fun f fd F => ok_take F z_len z_int
  have f__law_pick : Fn P w K mg base 2 "_law_pick" ["box", "menu"] (spBox K 2 pre_pick po_pick) := d__law_pick.fn X G (fun _ _ _ _ _ _ us hl => match us, hl with | [_, _], _ => rfl) fun f fd F => ok_pick F f__law_take z_len
  have f__law_melody : Fn P w K mg base 2 "_law_melody" ["box", "most"] (spBox K 2 pre_mel po_mel) := d__law_melody.fn X G (fun _ _ _ _ _ _ us hl => match us, hl with | [_, _], _ => rfl) fun f fd F => ok_mel F f__law_take z_tuple z_range z_max z_min
  have f__law_clash : Fn P w K mg base 1 "_law_clash" ["one", "other", "good"] (spPure K 3 fp_clash) := d__law_clash.fn X G (fun _ _ _ _ _ _ us hl => match us, hl with | [_, _, _], _ => rfl) fun f fd F => ok_lclash F z_len z_range z_min z_max
  have f__law_later : Fn P w K mg base 1 "_law_later" ["melody", "delay", "shift"] (spPure K 3 fp_voice) := d__law_later.fn X G (fun _ _ _ _ _ _ us hl => match us, hl with | [_, _, _], _ => rfl) fun f fd F => ok_later F z_tuple
  have f__law_lot : ∀ (ks : List PK) (many : Nat) (N : Nat) (h1 : 0 < many) (h2 : many ≤ 4) (h3 : N ≤ 50) (h4 : 2 * (N + 1) ^ (many - 1) < 100000), Fn P w K mg base 1 "_law_lot" ["many", "rows", "apart"] (spObj K 3 (pre_lot ks many N) (po_lot ks many N)) := fun ks many N h1 h2 h3 h4  => d__law_lot.fn X G (fun _ _ _ _ _ _ us hl => match us, hl with | [_, _, _], _ => rfl) fun f fd F => ok_lot ks many N h1 h2 h3 h4 F z_len z_range z_tuple
  exact b_law f__law_box f__law_take f__law_melody f__law_pick f_all_fits f__law_clash f__law_later f__law_lot f_stacked z_tuple z_range z_len z_repr cdv callerA [] s' H E ns hr hg hn
end K17
open PySem PySem.W PyProof.Rows
set_option maxHeartbeats 0 in
theorem PySem.Challenge.cw_tunehouse_k17_whole_three_voices_of_a_me_holds : PySem.Challenge.rw_tunehouse_k17_whole_three_voices_of_a_me.Holds := by
  w_on; o_law; k_head; (case hw => w_witness2)
  k_fill
  refine Pl.law_walk (l := PySem.Challenge.rw_tunehouse_k17_whole_three_voices_of_a_me) (k := 8) (N := K17.N_law) (st := K17.s_law) rfl rfl K17.sc_law ⟨rfl, by decide, by decide⟩ (fun w h Y => PySem.W.kIn_of Y) ?F
  case F =>
    intro w mg fa h KX G hmg
    refine' K17.all_mk KX G hmg ?d_is_number ?d_is_height ?d_check_melody ?d_check_good ?d_first_clash ?d_voice_of ?d_fitting ?d_check_most ?d_all_fits ?d_fit_between ?d_grown ?d_stacked ?d__law_box ?d__law_take ?d__law_pick ?d__law_melody ?d__law_clash ?d__law_later ?d__law_lot ?d_law ?n_abs ?n_isinstance ?n_int ?n_bool ?n_tuple ?n_len ?n_all ?n_range ?n_min ?n_max ?n_repr ?c_MOST_TIMES ?c_HIGHEST
    case d_is_number =>
      refine' Pl.dfn_mk ?a ?l ?c ?k
      (case a => k_is); (case l => k_is); (case c => k_is); (case k => k_is)
    case d_is_height =>
      refine' Pl.dfn_mk ?a ?l ?c ?k
      (case a => k_is); (case l => k_is); (case c => k_is); (case k => k_is)
    case d_check_melody =>
      refine' Pl.dfn_mk ?a ?l ?c ?k
      (case a => k_is); (case l => k_is); (case c => k_is); (case k => k_is)
    case d_check_good =>
      refine' Pl.dfn_mk ?a ?l ?c ?k
      (case a => k_is); (case l => k_is); (case c => k_is); (case k => k_is)
    case d_first_clash =>
      refine' Pl.dfn_mk ?a ?l ?c ?k
      (case a => k_is); (case l => k_is); (case c => k_is); (case k => k_is)
    case d_voice_of =>
      refine' Pl.dfn_mk ?a ?l ?c ?k
      (case a => k_is); (case l => k_is); (case c => k_is); (case k => k_is)
    case d_fitting =>
      refine' Pl.dfn_mk ?a ?l ?c ?k
      (case a => k_is); (case l => k_is); (case c => k_is); (case k => k_is)
    case d_check_most =>
      refine' Pl.dfn_mk ?a ?l ?c ?k
      (case a => k_is); (case l => k_is); (case c => k_is); (case k => k_is)
    case d_all_fits =>
      refine' Pl.dfn_mk ?a ?l ?c ?k
      (case a => k_is); (case l => k_is); (case c => k_is); (case k => k_is)
    case d_fit_between =>
      refine' Pl.dfn_mk ?a ?l ?c ?k
      (case a => k_is); (case l => k_is); (case c => k_is); (case k => k_is)
    case d_grown =>
      refine' Pl.dfn_mk ?a ?l ?c ?k
      (case a => k_is); (case l => k_is); (case c => k_is); (case k => k_is)
    case d_stacked =>
      refine' Pl.dfn_mk ?a ?l ?c ?k
      (case a => k_is); (case l => k_is); (case c => k_is); (case k => k_is)
    case d__law_box =>
      refine' Pl.dfn_mk ?a ?l ?c ?k
      (case a => k_is); (case l => k_is); (case c => k_is); (case k => k_is)
    case d__law_take =>
      refine' Pl.dfn_mk ?a ?l ?c ?k
      (case a => k_is); (case l => k_is); (case c => k_is); (case k => k_is)
    case d__law_pick =>
      refine' Pl.dfn_mk ?a ?l ?c ?k
      (case a => k_is); (case l => k_is); (case c => k_is); (case k => k_is)
    case d__law_melody =>
      refine' Pl.dfn_mk ?a ?l ?c ?k
      (case a => k_is); (case l => k_is); (case c => k_is); (case k => k_is)
    case d__law_clash =>
      refine' Pl.dfn_mk ?a ?l ?c ?k
      (case a => k_is); (case l => k_is); (case c => k_is); (case k => k_is)
    case d__law_later =>
      refine' Pl.dfn_mk ?a ?l ?c ?k
      (case a => k_is); (case l => k_is); (case c => k_is); (case k => k_is)
    case d__law_lot =>
      refine' Pl.dfn_mk ?a ?l ?c ?k
      (case a => k_is); (case l => k_is); (case c => k_is); (case k => k_is)
    case d_law =>
      refine' Pl.dfn_mk ?a ?l ?c ?k
      (case a => k_is); (case l => k_is); (case c => k_is); (case k => k_is)
    (case n_abs => k_is)
    (case n_isinstance => k_is)
    (case n_int => k_is)
    (case n_bool => k_is)
    (case n_tuple => k_is)
    (case n_len => k_is)
    (case n_all => k_is)
    (case n_range => k_is)
    (case n_min => k_is)
    (case n_max => k_is)
    (case n_repr => k_is)
    case c_MOST_TIMES =>
      refine' Pl.cint_mk ?a
      (case a => k_is)
    case c_HIGHEST =>
      refine' Pl.cint_mk ?a
      (case a => k_is)
