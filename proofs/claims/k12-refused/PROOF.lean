import PyProof.Rows.All
import Wide.All
import OpenK.AllK
import Wide.FinOn
import PySem.Challenge.RW_simplebetween_k12_refused
import HandS.ForMost
import HandS.Exc
import HandS.ExcOwn
import HandS.ExcIs
import HandS.TryOnly
import HandS.IsInst
import HandS.Wide
import HandS.WideBits
import HandS.Deep
import HandS.Style
import HandS.ExcValue
import HandS.WordsExc
import KE.DataMinMax
set_option Elab.async false
set_option linter.all false
set_option maxRecDepth 100000
set_option maxHeartbeats 4000000
/-! Sb1: our own layer over HandS: readings in a canonical form that speaks of pure data. -/
namespace Sb
open PySem L2

/-! ### pure data, slots, results -/
abbrev Dt := PyData
inductive Sl where
  | u | d (x : Dt) | o (xs : List Dt)
abbrev Env := List Sl
inductive Rs (α : Type) where
  | bad | ok (a : α) | exc (c : Str)
def Rs.bind {α β : Type} (r : Rs α) (k : α → Rs β) : Rs β := match r with
  | .bad => .bad
  | .ok a => k a
  | .exc c => .exc c
@[simp] theorem Rs.bind_ok {α β : Type} (a : α) (k : α → Rs β) : (Rs.ok a).bind k = k a := rfl
@[simp] theorem Rs.bind_exc {α β : Type} (c : Str) (k : α → Rs β) : (Rs.exc c).bind k = .exc c := rfl
@[simp] theorem Rs.bind_bad {α β : Type} (k : α → Rs β) : (Rs.bad : Rs α).bind k = .bad := rfl
/-- an exception's value -/
def exn (c : Str) : Dt := .dict [(.str c, .none)]

/-! ### how data lies in the abstract heap -/
def ExV (C a : Addr) : HO := .ext fun h => ∃ oe vs, h.get? a = some oe ∧ Zc (.ref C) none oe ∧ oe.data = .fields vs
mutual
inductive Den (K : PySem.W.Frag) (mg : Str → Option Value) (H : Hp) : V → Dt → Prop
  | non : Den K mg H .non .none
  | bl (b : Bool) : Den K mg H (.bl b) (.bool b)
  | int (i : Int) : Den K mg H (.int i) (.int i)
  | str (x : Str) : Den K mg H (.str x) (.str x)
  | lst {a : Addr} {xs : List V} {ds : List Dt} : H a = some (.lst xs) → DenAll K mg H xs ds → Den K mg H (.ref a) (.list ds)
  | tup {a : Addr} {xs : List V} {ds : List Dt} : SqT K H a xs → DenAll K mg H xs ds → Den K mg H (.ref a) (.tuple ds)
  | emp {a : Addr} : H a = some (.dK []) → Den K mg H (.ref a) (.dict [])
  | scr {a : Addr} {ns : List Int} : SqL K H a (ns.map V.int) → Den K mg H (.ref a) (.dict [(.list (ns.map PyData.int), .none)])
  | exn {a C : Addr} {c : Str} : mg c = some (.ref C) → H a = some (ExV C a) → Den K mg H (.ref a) (.dict [(.str c, .none)])
inductive DenAll (K : PySem.W.Frag) (mg : Str → Option Value) (H : Hp) : List V → List Dt → Prop
  | nil : DenAll K mg H [] []
  | cons {v : V} {vs : List V} {d : Dt} {ds : List Dt} : Den K mg H v d → DenAll K mg H vs ds → DenAll K mg H (v :: vs) (d :: ds)
end
section
variable {K : PySem.W.Frag} {mg : Str → Option Value} {H H' F : Hp}
theorem sameT (e : Same H H') {a : Addr} {xs : List V} (h : SqT K H a xs) : SqT K H' a xs := by
  rcases h with (h | ⟨o, h⟩) | h
  · exact .inl (.inl (e _ _ h))
  · exact .inl (.inr ⟨o, e _ _ h⟩)
  · exact .inr h
mutual
theorem Den.mono (e : Same H H') : ∀ (d : Dt) (v : V), Den K mg H v d → Den K mg H' v d
  | .none, _, h => by cases h; exact .non
  | .bool b, _, h => by cases h; exact .bl b
  | .int i, _, h => by cases h; exact .int i
  | .str x, _, h => by cases h; exact .str x
  | .list ds, _, h => by
    cases h with
    | lst h1 h2 => exact .lst (e _ _ h1) (DenAll.mono e ds _ h2)
  | .tuple ds, _, h => by
    cases h with
    | tup h1 h2 => exact .tup (sameT e h1) (DenAll.mono e ds _ h2)
  | .dict _, _, h => by
    cases h with
    | emp h1 => exact .emp (e _ _ h1)
    | scr h1 => exact .scr (e.seq h1)
    | exn h1 h2 => exact .exn h1 (e _ _ h2)
theorem DenAll.mono (e : Same H H') : ∀ (ds : List Dt) (vs : List V), DenAll K mg H vs ds → DenAll K mg H' vs ds
  | [], _, h => by cases h; exact .nil
  | d :: ds, _, h => by
    cases h with
    | cons h1 h2 => exact .cons (Den.mono e d _ h1) (DenAll.mono e ds _ h2)
end
theorem DenAll.length : ∀ {ds : List Dt} {vs : List V}, DenAll K mg H vs ds → vs.length = ds.length
  | [], _, h => by cases h; rfl
  | d :: ds, _, h => by
    cases h with
    | cons h1 h2 => rw [List.length_cons, List.length_cons, DenAll.length h2]
theorem DenAll.get : ∀ {ds : List Dt} {vs : List V} {i : Nat} {d : Dt}, DenAll K mg H vs ds → ds[i]? = some d → ∃ v, vs[i]? = some v ∧ Den K mg H v d
  | [], _, _, _, _, e => by simp at e
  | d :: ds, _, 0, d', h, e => by
    cases h with
    | cons h1 h2 =>
      have e' : d = d' := by simpa using e
      subst e'
      exact ⟨_, rfl, h1⟩
  | d :: ds, _, i + 1, d', h, e => by
    cases h with
    | cons h1 h2 =>
      obtain ⟨v, e1, e2⟩ := DenAll.get (i := i) h2 (by simpa using e)
      exact ⟨v, by simpa using e1, e2⟩
theorem DenAll.append : ∀ {ds es : List Dt} {vs ws : List V}, DenAll K mg H vs ds → DenAll K mg H ws es → DenAll K mg H (vs ++ ws) (ds ++ es)
  | [], _, _, _, h, h' => by cases h; exact h'
  | d :: ds, es, _, ws, h, h' => by
    cases h with
    | cons h1 h2 => exact .cons h1 (DenAll.append h2 h')
theorem DenAll.take : ∀ (n : Nat) {ds : List Dt} {vs : List V}, DenAll K mg H vs ds → DenAll K mg H (vs.take n) (ds.take n)
  | 0, _, _, _ => .nil
  | _ + 1, [], _, h => by cases h; exact .nil
  | n + 1, d :: ds, _, h => by
    cases h with
    | cons h1 h2 => exact .cons h1 (DenAll.take n h2)
theorem DenAll.drop : ∀ (n : Nat) {ds : List Dt} {vs : List V}, DenAll K mg H vs ds → DenAll K mg H (vs.drop n) (ds.drop n)
  | 0, _, _, h => h
  | _ + 1, [], _, h => by cases h; exact .nil
  | n + 1, d :: ds, _, h => by
    cases h with
    | cons h1 h2 => exact DenAll.drop n h2
theorem DenAll.set : ∀ (n : Nat) {ds : List Dt} {vs : List V} {v : V} {d : Dt}, Den K mg H v d → DenAll K mg H vs ds → DenAll K mg H (vs.set n v) (ds.set n d)
  | _, [], _, _, _, _, h => by cases h; exact .nil
  | 0, d :: ds, _, _, _, r, h => by
    cases h with
    | cons h1 h2 => exact .cons r h2
  | n + 1, d :: ds, _, _, _, r, h => by
    cases h with
    | cons h1 h2 => exact .cons h1 (DenAll.set n r h2)
theorem DenAll.reverse : ∀ {ds : List Dt} {vs : List V}, DenAll K mg H vs ds → DenAll K mg H vs.reverse ds.reverse
  | [], _, h => by cases h; exact .nil
  | d :: ds, _, h => by
    cases h with
    | cons h1 h2 =>
      rw [List.reverse_cons, List.reverse_cons]
      exact (DenAll.reverse h2).append (.cons h1 .nil)
theorem DenAll.one {v : V} {d : Dt} (h : Den K mg H v d) : DenAll K mg H [v] [d] := .cons h .nil
theorem DenAll.rep : ∀ (k : Nat) {ds : List Dt} {vs : List V}, DenAll K mg H vs ds → DenAll K mg H (List.replicate k vs).flatten (List.replicate k ds).flatten
  | 0, _, _, _ => .nil
  | k + 1, _, _, h => by
    rw [List.replicate_succ, List.replicate_succ, List.flatten_cons, List.flatten_cons]
    exact h.append (DenAll.rep k h)
theorem DenAll.ints : ∀ (ns : List Int), DenAll K mg H (ns.map V.int) (ns.map PyData.int)
  | [] => .nil
  | n :: ns => .cons (.int n) (DenAll.ints ns)
theorem DenAll.strs : ∀ (ns : List Str), DenAll K mg H (ns.map V.str) (ns.map PyData.str)
  | [] => .nil
  | n :: ns => .cons (.str n) (DenAll.strs ns)
theorem DenAll.of_ints : ∀ {ns : List Int} {vs : List V}, DenAll K mg H vs (ns.map PyData.int) → vs = ns.map V.int
  | [], _, h => by cases h; rfl
  | n :: ns, _, h => by
    cases h with
    | cons h1 h2 => cases h1; rw [DenAll.of_ints h2]; rfl
theorem DenAll.of_strs : ∀ {ns : List Str} {vs : List V}, DenAll K mg H vs (ns.map PyData.str) → vs = ns.map V.str
  | [], _, h => by cases h; rfl
  | n :: ns, _, h => by
    cases h with
    | cons h1 h2 => cases h1; rw [DenAll.of_strs h2]; rfl
theorem DenAll.of_bls : ∀ {ns : List Bool} {vs : List V}, DenAll K mg H vs (ns.map PyData.bool) → vs = ns.map V.bl
  | [], _, h => by cases h; rfl
  | n :: ns, _, h => by
    cases h with
    | cons h1 h2 => cases h1; rw [DenAll.of_bls h2]; rfl
end

/-! ### the state: F what is frozen, H all that is tracked; F0, H0 the same at the def's entry -/
structure SL (K : PySem.W.Frag) (mg : Str → Option Value) (F0 H0 F H : Hp) (σ : L2.St) (ρ : Env) : Prop where
  fh : Same F H
  ff : Same F0 F
  hh : Same H0 H
  nw : ∀ a o, F a = some o → F0 a = some o ∨ H0 a = none
  len : σ.length = ρ.length
  sl : ∀ (i : Nat) (x : Dt), ρ[i]? = some (.d x) → ∃ v, σ[i]? = some (some v) ∧ Den K mg F v x
  ow : ∀ (i : Nat) (xs : List Dt), ρ[i]? = some (.o xs) → ∃ a vs, σ[i]? = some (some (.ref a)) ∧ H a = some (.lst vs) ∧ F a = none ∧ H0 a = none ∧ DenAll K mg F vs xs
  ap : ∀ (i j : Nat) (xs ys : List Dt) (a : Addr), ρ[i]? = some (.o xs) → ρ[j]? = some (.o ys) → σ[i]? = some (some (.ref a)) → σ[j]? = some (some (.ref a)) → i = j
section
variable {K : PySem.W.Frag} {mg : Str → Option Value} {F0 H0 F H F' H' : Hp} {σ σ' : L2.St} {ρ : Env}
theorem same_new {p : Addr} {o : HO} (h : H p = none) : Same H (upd H p o) := fun b x e => by
  rw [upd_ne (ne_of_none e h)]
  exact e
/-- the heap grows, what is frozen with it; nothing of ours is frozen -/
theorem SL.grow (s : SL K mg F0 H0 F H σ ρ) (f : Same F F') (h : Same H H') (fh : Same F' H') (nw : ∀ a o, F' a = some o → F a = some o ∨ H a = none) : SL K mg F0 H0 F' H' σ ρ where
  fh := fh
  ff := s.ff.trans f
  hh := s.hh.trans h
  nw := fun a o e => by
    rcases nw a o e with q | q
    · exact s.nw a o q
    · exact .inr (s.hh.free q)
  len := s.len
  sl := fun i x e => by
    obtain ⟨v, e1, e2⟩ := s.sl i x e
    exact ⟨v, e1, Den.mono f _ _ e2⟩
  ow := fun i xs e => by
    obtain ⟨a, vs, e1, e2, e3, e4, e5⟩ := s.ow i xs e
    refine ⟨a, vs, e1, h _ _ e2, ?_, e4, DenAll.mono f _ _ e5⟩
    cases q : F' a with
    | none => rfl
    | some o =>
      rcases nw a o q with z | z
      · rw [e3] at z; cases z
      · rw [e2] at z; cases z
  ap := s.ap
theorem SL.freeF (s : SL K mg F0 H0 F H σ ρ) {p : Addr} (h : H p = none) : F p = none := s.fh.free h
theorem SL.free0 (s : SL K mg F0 H0 F H σ ρ) {p : Addr} (h : H p = none) : H0 p = none := s.hh.free h
theorem same_upd {p : Addr} {o : HO} (e : Same F H) : Same (upd F p o) (upd H p o) := fun b x q => by
  by_cases hb : b = p
  · subst hb; rw [upd_same] at q ⊢; exact q
  · rw [upd_ne hb] at q ⊢; exact e _ _ q
/-- a new object, frozen from the start -/
theorem SL.new (s : SL K mg F0 H0 F H σ ρ) {p : Addr} {o : HO} (h : H p = none) : SL K mg F0 H0 (upd F p o) (upd H p o) σ ρ :=
  s.grow (same_new (s.freeF h)) (same_new h) (same_upd s.fh) fun a x e => by
    by_cases ha : a = p
    · subst ha; exact .inr h
    · rw [upd_ne ha] at e; exact .inl e
/-- a new object that is not frozen -/
theorem SL.newH (s : SL K mg F0 H0 F H σ ρ) {p : Addr} {o : HO} (h : H p = none) : SL K mg F0 H0 F (upd H p o) σ ρ :=
  s.grow (Same.refl F) (same_new h) (s.fh.trans (same_new h)) fun a x e => .inl e
/-- a slot gets data -/
theorem SL.setD (s : SL K mg F0 H0 F H σ ρ) {i : Nat} {v : V} {x : Dt} (r : Den K mg F v x) : SL K mg F0 H0 F H (σ.set i (some v)) (ρ.set i (.d x)) where
  fh := s.fh
  ff := s.ff
  hh := s.hh
  nw := s.nw
  len := by rw [List.length_set, List.length_set, s.len]
  sl := fun j y e => by
    by_cases hj : i = j
    · subst hj
      by_cases hi : i < ρ.length
      · rw [List.getElem?_set_self hi] at e
        cases e
        exact ⟨v, List.getElem?_set_self (by rw [s.len]; exact hi), r⟩
      · rw [List.getElem?_eq_none (by rw [List.length_set]; omega)] at e
        cases e
    · rw [List.getElem?_set_ne hj] at e ⊢
      exact s.sl j y e
  ow := fun j xs e => by
    by_cases hj : i = j
    · subst hj
      by_cases hi : i < ρ.length
      · rw [List.getElem?_set_self hi] at e
        cases e
      · rw [List.getElem?_eq_none (by rw [List.length_set]; omega)] at e
        cases e
    · rw [List.getElem?_set_ne hj] at e ⊢
      exact s.ow j xs e
  ap := fun j k xs ys a e1 e2 e3 e4 => by
    by_cases hj : i = j
    · subst hj
      by_cases hi : i < ρ.length
      · rw [List.getElem?_set_self hi] at e1
        cases e1
      · rw [List.getElem?_eq_none (by rw [List.length_set]; omega)] at e1
        cases e1
    · by_cases hk : i = k
      · subst hk
        by_cases hi : i < ρ.length
        · rw [List.getElem?_set_self hi] at e2
          cases e2
        · rw [List.getElem?_eq_none (by rw [List.length_set]; omega)] at e2
          cases e2
      · rw [List.getElem?_set_ne hj] at e1 e3
        rw [List.getElem?_set_ne hk] at e2 e4
        exact s.ap j k xs ys a e1 e2 e3 e4
/-- a slot gets a list of its own -/
theorem SL.setO (s : SL K mg F0 H0 F H σ ρ) {i : Nat} {a : Addr} {vs : List V} {xs : List Dt} (h1 : H a = some (.lst vs)) (h2 : F a = none) (h3 : H0 a = none) (h4 : DenAll K mg F vs xs)
    (h5 : ∀ (j : Nat) (ys : List Dt), ρ[j]? = some (.o ys) → σ[j]? = some (some (.ref a)) → j = i) : SL K mg F0 H0 F H (σ.set i (some (.ref a))) (ρ.set i (.o xs)) where
  fh := s.fh
  ff := s.ff
  hh := s.hh
  nw := s.nw
  len := by rw [List.length_set, List.length_set, s.len]
  sl := fun j y e => by
    by_cases hj : i = j
    · subst hj
      by_cases hi : i < ρ.length
      · rw [List.getElem?_set_self hi] at e
        cases e
      · rw [List.getElem?_eq_none (by rw [List.length_set]; omega)] at e
        cases e
    · rw [List.getElem?_set_ne hj] at e ⊢
      exact s.sl j y e
  ow := fun j ys e => by
    by_cases hj : i = j
    · subst hj
      by_cases hi : i < ρ.length
      · rw [List.getElem?_set_self hi] at e
        cases e
        exact ⟨a, vs, List.getElem?_set_self (by rw [s.len]; exact hi), h1, h2, h3, h4⟩
      · rw [List.getElem?_eq_none (by rw [List.length_set]; omega)] at e
        cases e
    · rw [List.getElem?_set_ne hj] at e ⊢
      exact s.ow j ys e
  ap := fun j k ys zs b e1 e2 e3 e4 => by
    have lt : ∀ {x : Nat} {w : Sl}, (ρ.set i w)[x]? ≠ none → x < ρ.length := fun {x w} q => by
      refine Nat.lt_of_not_le fun z => q (List.getElem?_eq_none (by rw [List.length_set]; exact z))
    by_cases hj : i = j
    · by_cases hk : i = k
      · exact hj.symm.trans hk
      · rw [List.getElem?_set_ne hk] at e2 e4
        have hjl : j < ρ.length := lt (by rw [e1]; simp)
        rw [← hj, List.getElem?_set_self (by rw [s.len, hj]; exact hjl)] at e3
        cases e3
        exact (h5 k zs e2 e4).symm ▸ hj.symm
    · rw [List.getElem?_set_ne hj] at e1 e3
      by_cases hk : i = k
      · have hkl : k < ρ.length := lt (by rw [e2]; simp)
        rw [← hk, List.getElem?_set_self (by rw [s.len, hk]; exact hkl)] at e4
        cases e4
        exact (h5 j ys e1 e3).trans hk
      · rw [List.getElem?_set_ne hk] at e2 e4
        exact s.ap j k ys zs b e1 e2 e3 e4
/-- a slot is unset in the pure state -/
theorem SL.unset (s : SL K mg F0 H0 F H σ ρ) {i : Nat} {w : Option V} : SL K mg F0 H0 F H (σ.set i w) (ρ.set i .u) where
  fh := s.fh
  ff := s.ff
  hh := s.hh
  nw := s.nw
  len := by rw [List.length_set, List.length_set, s.len]
  sl := fun j y e => by
    by_cases hj : i = j
    · subst hj
      by_cases hi : i < ρ.length
      · rw [List.getElem?_set_self hi] at e
        cases e
      · rw [List.getElem?_eq_none (by rw [List.length_set]; omega)] at e
        cases e
    · rw [List.getElem?_set_ne hj] at e ⊢
      exact s.sl j y e
  ow := fun j ys e => by
    by_cases hj : i = j
    · subst hj
      by_cases hi : i < ρ.length
      · rw [List.getElem?_set_self hi] at e
        cases e
      · rw [List.getElem?_eq_none (by rw [List.length_set]; omega)] at e
        cases e
    · rw [List.getElem?_set_ne hj] at e ⊢
      exact s.ow j ys e
  ap := fun j k ys zs b e1 e2 e3 e4 => by
    have no : ∀ {x : Nat} {l : List Dt}, (ρ.set i .u)[x]? = some (.o l) → i ≠ x := fun {x l} q z => by
      subst z
      by_cases hi : i < ρ.length
      · rw [List.getElem?_set_self hi] at q
        cases q
      · rw [List.getElem?_eq_none (by rw [List.length_set]; omega)] at q
        cases q
    have n1 := no e1
    have n2 := no e2
    rw [List.getElem?_set_ne n1] at e1 e3
    rw [List.getElem?_set_ne n2] at e2 e4
    exact s.ap j k ys zs b e1 e2 e3 e4
/-- a list of ours is written -/
theorem SL.write (s : SL K mg F0 H0 F H σ ρ) {i : Nat} {a : Addr} {vs : List V} {xs ys : List Dt} (h0 : ρ[i]? = some (.o ys)) (h1 : σ[i]? = some (some (.ref a))) (h2 : F a = none) (h3 : H0 a = none)
    (h4 : DenAll K mg F vs xs) : SL K mg F0 H0 F (upd H a (.lst vs)) σ (ρ.set i (.o xs)) := by
  have il : i < ρ.length := (List.getElem?_eq_some_iff.mp h0).1
  have ne : ∀ {G : Hp} {b : Addr} {o : HO}, G b = some o → G a = none → b ≠ a := fun e n z => by rw [z, n] at e; cases e
  refine ⟨fun b o e => ?_, s.ff, fun b o e => ?_, s.nw, by rw [List.length_set, s.len], fun j y e => ?_, fun j zs e => ?_, fun j k y1 y2 b e1 e2 e3 e4 => ?_⟩
  · rw [upd_ne (ne e h2)]; exact s.fh b o e
  · rw [upd_ne (ne e h3)]; exact s.hh b o e
  · by_cases hj : i = j
    · subst hj
      rw [List.getElem?_set_self il] at e
      cases e
    · rw [List.getElem?_set_ne hj] at e
      exact s.sl j y e
  · by_cases hj : i = j
    · subst hj
      rw [List.getElem?_set_self il] at e
      cases e
      exact ⟨a, vs, h1, upd_same, h2, h3, h4⟩
    · rw [List.getElem?_set_ne hj] at e
      obtain ⟨b, ws, e1, e2, e3, e4, e5⟩ := s.ow j zs e
      have hb : b ≠ a := fun z => hj (s.ap i j ys zs a h0 e h1 (by rw [← z]; exact e1))
      exact ⟨b, ws, e1, by rw [upd_ne hb]; exact e2, e3, e4, e5⟩
  · have get : ∀ {x : Nat} {l : List Dt}, (ρ.set i (.o xs))[x]? = some (.o l) → ∃ l', ρ[x]? = some (.o l') := fun {x l} q => by
      by_cases hx : i = x
      · subst hx; exact ⟨ys, h0⟩
      · rw [List.getElem?_set_ne hx] at q; exact ⟨l, q⟩
    obtain ⟨l1, q1⟩ := get e1
    obtain ⟨l2, q2⟩ := get e2
    exact s.ap j k l1 l2 b q1 q2 e3 e4
/-- a list of ours is frozen -/
theorem SL.freeze (s : SL K mg F0 H0 F H σ ρ) {i : Nat} {xs : List Dt} (h0 : ρ[i]? = some (.o xs)) : ∃ F', Same F F' ∧ SL K mg F0 H0 F' H σ (ρ.set i (.d (.list xs))) := by
  obtain ⟨a, vs, h1, h2, h3, h4, h5⟩ := s.ow i xs h0
  have il : i < ρ.length := (List.getElem?_eq_some_iff.mp h0).1
  have f : Same F (upd F a (.lst vs)) := same_new h3
  refine ⟨upd F a (.lst vs), f, fun b o e => ?_, s.ff.trans f, s.hh, fun b o e => ?_, by rw [List.length_set, s.len], fun j y e => ?_, fun j zs e => ?_, fun j k y1 y2 b e1 e2 e3 e4 => ?_⟩
  · by_cases hb : b = a
    · subst hb; rw [upd_same] at e; cases e; exact h2
    · rw [upd_ne hb] at e; exact s.fh b o e
  · by_cases hb : b = a
    · subst hb; exact .inr h4
    · rw [upd_ne hb] at e; exact s.nw b o e
  · by_cases hj : i = j
    · subst hj
      rw [List.getElem?_set_self il] at e
      cases e
      exact ⟨.ref a, h1, .lst upd_same (DenAll.mono f _ _ h5)⟩
    · rw [List.getElem?_set_ne hj] at e
      obtain ⟨v, e1, e2⟩ := s.sl j y e
      exact ⟨v, e1, Den.mono f _ _ e2⟩
  · by_cases hj : i = j
    · subst hj
      rw [List.getElem?_set_self il] at e
      cases e
    · rw [List.getElem?_set_ne hj] at e
      obtain ⟨b, ws, e1, e2, e3, e4, e5⟩ := s.ow j zs e
      have hb : b ≠ a := fun z => hj (s.ap i j xs zs a h0 e h1 (by rw [← z]; exact e1))
      exact ⟨b, ws, e1, e2, by rw [upd_ne hb]; exact e3, e4, DenAll.mono f _ _ e5⟩
  · have get : ∀ {x : Nat} {l : List Dt}, (ρ.set i (.d (.list xs)))[x]? = some (.o l) → ρ[x]? = some (.o l) := fun {x l} q => by
      by_cases hx : i = x
      · subst hx; rw [List.getElem?_set_self il] at q; cases q
      · rw [List.getElem?_set_ne hx] at q; exact q
    exact s.ap j k y1 y2 b (get e1) (get e2) e3 e4
end

/-! ### canonical readings -/
/-- the heap grows; nothing that stood there unfrozen is frozen -/
structure Gw (F H F' H' : Hp) : Prop where
  h : Same H H'
  nw : ∀ a o, F' a = some o → F a = some o ∨ H a = none
theorem Gw.refl (F H : Hp) : Gw F H F H := ⟨Same.refl H, fun _ _ e => .inl e⟩
theorem Gw.trans {F H F1 H1 F2 H2 : Hp} (a : Gw F H F1 H1) (b : Gw F1 H1 F2 H2) : Gw F H F2 H2 := ⟨a.h.trans b.h, fun x o e => by
  rcases b.nw x o e with q | q
  · exact a.nw x o q
  · exact .inr (a.h.free q)⟩
theorem Gw.new {F H : Hp} {p : Addr} {o : HO} (h : H p = none) : Gw F H (upd F p o) (upd H p o) := ⟨same_new h, fun a x e => by
  by_cases ha : a = p
  · subst ha; exact .inr h
  · rw [upd_ne ha] at e; exact .inl e⟩
section
variable {β α γ : Type}
def EndG (K : PySem.W.Frag) (mg : Str → Option Value) (W : WX) (R : Hp → β → α → Prop) (F0 H0 : Hp) (σ : L2.St) (ρ : Env) (F H : Hp) (Q : β → Hp → Prop) : Rs α → Prop
  | .bad => False
  | .ok a => ∀ b F' H', Same F F' → Gw F H F' H' → SL K mg F0 H0 F' H' σ ρ → R F' b a → Q b H'
  | .exc c => ∀ C F' H', mg c = some (.ref C) → Same F F' → Gw F H F' H' → SL K mg F0 H0 F' H' σ ρ → W (.ref C) none σ H'
def tG (K : PySem.W.Frag) (mg : Str → Option Value) (W : WX) (R : Hp → β → α → Prop) (f : Env → Rs α) : L2.St → Hp → (β → Hp → Prop) → Prop := fun σ H Q =>
  ∃ F0 H0 F ρ, SL K mg F0 H0 F H σ ρ ∧ EndG K mg W R F0 H0 σ ρ F H Q (f ρ)
variable {K : PySem.W.Frag} {mg : Str → Option Value} {W : WX} {R : Hp → β → α → Prop} {F0 H0 F H F' H' : Hp} {σ : L2.St} {ρ : Env} {Q : β → Hp → Prop}
theorem EndG.mono {r : Rs α} (h : EndG K mg W R F0 H0 σ ρ F H Q r) (f : Same F F') (g : Gw F H F' H') : EndG K mg W R F0 H0 σ ρ F' H' Q r := by
  cases r with
  | bad => exact h
  | ok a => exact fun b F1 H1 a1 a2 s r => h b F1 H1 (f.trans a1) (g.trans a2) s r
  | exc c => exact fun C F1 H1 e a1 a2 s => h C F1 H1 e (f.trans a1) (g.trans a2) s
/-- one after the other -/
theorem tG.seq {β' α' : Type} {R' : Hp → β' → α' → Prop} {f : Env → Rs α} {k : α → Rs α'} {Q' : β' → Hp → Prop} (s : SL K mg F0 H0 F H σ ρ) (h : EndG K mg W R' F0 H0 σ ρ F H Q' ((f ρ).bind k))
    (hk : ∀ b a F' H', Same F F' → Gw F H F' H' → SL K mg F0 H0 F' H' σ ρ → R F' b a → EndG K mg W R' F0 H0 σ ρ F' H' Q' (k a) → Q b H') : tG K mg W R f σ H Q := by
  refine ⟨F0, H0, F, ρ, s, ?_⟩
  cases e : f ρ with
  | bad => rw [e] at h; exact h
  | exc c => rw [e] at h; exact h
  | ok a =>
    rw [e] at h
    exact fun b F1 H1 a1 a2 s1 r => hk b a F1 H1 a1 a2 s1 r (EndG.mono h a1 a2)
end
abbrev tD (K : PySem.W.Frag) (mg : Str → Option Value) (W : WX) (f : Env → Rs Dt) : TE := tG K mg W (Den K mg) f
abbrev tT (K : PySem.W.Frag) (mg : Str → Option Value) (W : WX) (f : Env → Rs Bool) : TT := tG K mg W (fun _ b b' => b = b') f
abbrev tA (K : PySem.W.Frag) (mg : Str → Option Value) (W : WX) (f : Env → Rs (List Dt)) : TA := tG K mg W (DenAll K mg) f
abbrev tOo (K : PySem.W.Frag) (mg : Str → Option Value) (W : WX) (f : Env → Rs (Option Int)) : TO := tG K mg W (fun _ b b' => b = b') f
abbrev PD (X : Cx) (W : WX) (e : Expr) (f : Env → Rs Dt) : Prop := PE X e (tD X.K X.mg W f)
abbrev PTD (X : Cx) (W : WX) (e : Expr) (f : Env → Rs Bool) : Prop := PT X e (tT X.K X.mg W f)
abbrev PAD (X : Cx) (W : WX) (es : List Expr) (f : Env → Rs (List Dt)) : Prop := PA X es (tA X.K X.mg W f)
abbrev POD (X : Cx) (W : WX) (e : Option Expr) (f : Env → Rs (Option Int)) : Prop := PO X e (tOo X.K X.mg W f)
section
variable {X : Cx}
theorem peW {e : Expr} {t t' : TE} (h : PE X e t) (i : ∀ σ H Q, t' σ H Q → t σ H Q) : PE X e t' := ⟨fun pins s σ H Q I q => h.run pins s σ H Q I (i _ _ _ q)⟩
theorem ptW {e : Expr} {t t' : TT} (h : PT X e t) (i : ∀ σ H Q, t' σ H Q → t σ H Q) : PT X e t' := ⟨fun pins s σ H Q I q => h.run pins s σ H Q I (i _ _ _ q)⟩
theorem paW {e : List Expr} {t t' : TA} (h : PA X e t) (i : ∀ σ H Q, t' σ H Q → t σ H Q) : PA X e t' := ⟨fun pos pins s σ H Q I q => h.run pos pins s σ H Q I (i _ _ _ q)⟩
theorem poW {e : Option Expr} {t t' : TO} (h : PO X e t) (i : ∀ σ H Q, t' σ H Q → t σ H Q) : PO X e t' := ⟨fun pins s σ H Q I q => h.run pins s σ H Q I (i _ _ _ q)⟩
theorem psW {e : Stmt} {t t' : TS} (h : PS X e t) (i : ∀ D σ H, t' D σ H → t D σ H) : PS X e t' := ⟨fun pins s σ H D I q => h.run pins s σ H D I (i _ _ _ q)⟩
theorem pssW {e : List Stmt} {t t' : TS} (h : PSs X e t) (i : ∀ D σ H, t' D σ H → t D σ H) : PSs X e t' := ⟨fun pins s σ H D I q => h.run pins s σ H D I (i _ _ _ q)⟩
end
end Sb
set_option Elab.async false
set_option linter.all false
set_option maxRecDepth 100000
set_option maxHeartbeats 4000000
/-! Sb2: expressions: what they compute on pure data. -/
namespace Sb
open PySem L2

/-! ### pure operations -/
def lim : Nat := 1000000
theorem lim_ok {n : Nat} (h : n ≤ lim) : n ≤ sizeLine := Nat.le_trans h (by decide)
theorem lim_lt {n : Nat} (h : n ≤ lim) : n < sizeLine := Nat.lt_of_le_of_lt h (by decide)
/-- ints that are no obstacle to a product -/
def Bd (i : Int) : Prop := i.natAbs < 2 ^ 400000
def Bq (i : Int) : Prop := i.natAbs < 2 ^ 9000
noncomputable instance (i : Int) : Decidable (Bd i) := Classical.propDecidable _
noncomputable instance (i : Int) : Decidable (Bq i) := Classical.propDecidable _
def scr (ns : List Int) : Dt := .dict [(.list (ns.map PyData.int), .none)]
def addD : Dt → Dt → Rs Dt
  | .int i, .int j => .ok (.int (i + j))
  | .str x, .str y => if x.length + y.length ≤ lim then .ok (.str (x ++ y)) else .bad
  | .list xs, .list ys => if xs.length + ys.length ≤ lim then .ok (.list (xs ++ ys)) else .bad
  | _, _ => .bad
def subD : Dt → Dt → Rs Dt
  | .int i, .int j => .ok (.int (i - j))
  | _, _ => .bad
noncomputable def mulD : Dt → Dt → Rs Dt
  | .int i, .int j => if Bd i ∧ Bd j then .ok (.int (i * j)) else .bad
  | .list xs, .int k => if 0 ≤ k ∧ k ≤ 1000 ∧ xs.length ≤ 1000 then .ok (.list (List.replicate k.toNat xs).flatten) else .bad
  | _, _ => .bad
noncomputable def divD : Dt → Dt → Rs Dt
  | .int i, .int j => if 0 < j ∧ Bq j then .ok (.int (i / j)) else .bad
  | _, _ => .bad
def modD : Dt → Dt → Rs Dt
  | .int i, .int j => if 0 < j then .ok (.int (i % j)) else .bad
  | _, _ => .bad
def powD : Dt → Dt → Rs Dt
  | .int i, .int j => if 0 ≤ j ∧ j ≤ 1000 ∧ 0 ≤ i ∧ i < 1000 then .ok (.int (i ^ j.toNat)) else .bad
  | _, _ => .bad
def cmpD (p : Int → Int → Bool) : Dt → Dt → Rs Dt
  | .int i, .int j => .ok (.bool (p i j))
  | _, _ => .bad
def ltD : Dt → Dt → Rs Dt := cmpD fun i j => decide (i < j)
def leD : Dt → Dt → Rs Dt := cmpD fun i j => decide (i ≤ j)
def gtD : Dt → Dt → Rs Dt := cmpD fun i j => decide (j < i)
def geD : Dt → Dt → Rs Dt := cmpD fun i j => decide (j ≤ i)
def eqD (x y : Dt) : Rs Dt := if SeqAt.shaped x = true ∧ SeqAt.shaped y = true then .ok (.bool (PyData.eqv x y)) else .bad
def neD (x y : Dt) : Rs Dt := if SeqAt.shaped x = true ∧ SeqAt.shaped y = true then .ok (.bool (!PyData.eqv x y)) else .bad
def isB : Dt → Dt → Rs Dt
  | .bool a, .bool b => .ok (.bool (decide (a = b)))
  | _, _ => .bad
def notB : Dt → Dt → Rs Dt
  | .bool a, .bool b => .ok (.bool (!decide (a = b)))
  | _, _ => .bad
def isNone : Dt → Bool
  | .none => true
  | _ => false
def inAny (x : Dt) (xs : List Dt) : Bool := xs.any fun z => PyData.eqv z x
def inD : Dt → Dt → Rs Dt
  | .str x, .str y => .ok (.bool (!(Builtin.Str.occurrences y x 0 y.length 1).isEmpty))
  | x, .list ys => if SeqAt.shaped x = true ∧ PyData.canLayAll0 ys = true then .ok (.bool (inAny x ys)) else .bad
  | x, .tuple ys => if SeqAt.shaped x = true ∧ PyData.canLayAll0 ys = true then .ok (.bool (inAny x ys)) else .bad
  | _, _ => .bad
def ninD : Dt → Dt → Rs Dt
  | .str x, .str y => .ok (.bool (!(!(Builtin.Str.occurrences y x 0 y.length 1).isEmpty)))
  | x, .list ys => if SeqAt.shaped x = true ∧ PyData.canLayAll0 ys = true then .ok (.bool (!inAny x ys)) else .bad
  | x, .tuple ys => if SeqAt.shaped x = true ∧ PyData.canLayAll0 ys = true then .ok (.bool (!inAny x ys)) else .bad
  | _, _ => .bad
def ofO {α : Type} : Option α → Rs α
  | some a => .ok a
  | none => .bad
def ixD : Dt → Dt → Rs Dt
  | .list xs, .int i => ofO (atI xs i)
  | .tuple xs, .int i => ofO (atI xs i)
  | .str z, .int i => if z.length ≤ lim then (ofO (atI z.cps.toList i)).bind fun c => .ok (.str ⟨#[c]⟩) else .bad
  | .dict [(.list xs, .none)], .int i => ofO (atI xs i)
  | _, _ => .bad
def asB : Dt → Rs Bool
  | .bool b => .ok b
  | _ => .bad
def cutD {α : Type} (xs : List α) (lo hi : Option Int) : List α := (xs.drop (HT.sIx xs.length 0 lo)).take (HT.sIx xs.length xs.length hi - HT.sIx xs.length 0 lo)
def slD : Dt → Option Int → Option Int → Rs Dt
  | .list xs, lo, hi => .ok (.list (cutD xs lo hi))
  | .str z, lo, hi => if z.length ≤ lim then .ok (.str (cutS z lo hi)) else .bad
  | _, _, _ => .bad
/-- the name of a value's built-in type -/
def tyn : Dt → Option String
  | .none => some "NoneType"
  | .bool _ => some "bool"
  | .int _ => some "int"
  | .str _ => some "str"
  | .list _ => some "list"
  | .tuple _ => some "tuple"
  | .dict [] => some "dict"
  | _ => none
def isiD (T : String) (x : Dt) : Rs Dt := ((ofO (tyn x)).bind fun n => ofO (kitB n T)).bind fun b => .ok (.bool b)

theorem bd_mul {i j : Int} (h : Bd i) (h' : Bd j) : CMulW i j := wide_mul (a := 400000) (b := 400000) h h' (by omega) (by omega) (by omega)
theorem bq_div {i j : Int} (h : 0 < j) (h' : Bq j) : CDivW i j := wide_div (b := 9000) h h' (by omega) (by omega)

/-! ### pure expressions -/
def vr (i : Nat) : Env → Rs Dt := fun ρ => match ρ[i]? with
  | some (.d x) => .ok x
  | _ => .bad
def cn (x : Dt) : Env → Rs Dt := fun _ => .ok x
def ap2 (g : Dt → Dt → Rs Dt) (f1 f2 : Env → Rs Dt) : Env → Rs Dt := fun ρ => (f1 ρ).bind fun x => (f2 ρ).bind fun y => g x y
def ap1 (g : Dt → Rs Dt) (f : Env → Rs Dt) : Env → Rs Dt := fun ρ => (f ρ).bind g
def chn (g h : Dt → Dt → Rs Dt) (f1 f2 f3 : Env → Rs Dt) : Env → Rs Dt := fun ρ => (f1 ρ).bind fun x => (f2 ρ).bind fun y => (g x y).bind fun b => (asB b).bind fun k => if k = true then (f3 ρ).bind fun z => h y z else .ok (.bool false)
def anV (f g : Env → Rs Dt) : Env → Rs Dt := fun ρ => (f ρ).bind fun x => (asB x).bind fun k => if k = true then g ρ else .ok (.bool false)
def orV (f g : Env → Rs Dt) : Env → Rs Dt := fun ρ => (f ρ).bind fun x => (asB x).bind fun k => if k = true then .ok (.bool true) else g ρ
def ntV (f : Env → Rs Dt) : Env → Rs Dt := fun ρ => (f ρ).bind fun x => (asB x).bind fun k => .ok (.bool (!k))
def tst (f : Env → Rs Dt) : Env → Rs Bool := fun ρ => (f ρ).bind asB
def anT (f g : Env → Rs Bool) : Env → Rs Bool := fun ρ => (f ρ).bind fun k => if k = true then g ρ else .ok false
def orT (f g : Env → Rs Bool) : Env → Rs Bool := fun ρ => (f ρ).bind fun k => if k = true then .ok true else g ρ
def ntT (f : Env → Rs Bool) : Env → Rs Bool := fun ρ => (f ρ).bind fun k => .ok (!k)
def ifE (t : Env → Rs Bool) (f g : Env → Rs Dt) : Env → Rs Dt := fun ρ => (t ρ).bind fun k => if k = true then f ρ else g ρ
def nlA : Env → Rs (List Dt) := fun _ => .ok []
def csA (f : Env → Rs Dt) (g : Env → Rs (List Dt)) : Env → Rs (List Dt) := fun ρ => (f ρ).bind fun x => (g ρ).bind fun xs => .ok (x :: xs)
def tpE (f : Env → Rs (List Dt)) : Env → Rs Dt := fun ρ => (f ρ).bind fun xs => if xs.length ≤ lim then .ok (.tuple xs) else .bad
def lsE (f : Env → Rs (List Dt)) : Env → Rs Dt := fun ρ => (f ρ).bind fun xs => if xs.length ≤ lim then .ok (.list xs) else .bad
def slE (f : Env → Rs Dt) (lo hi : Env → Rs (Option Int)) : Env → Rs Dt := fun ρ => (f ρ).bind fun x => (lo ρ).bind fun i => (hi ρ).bind fun j => slD x i j
def noO : Env → Rs (Option Int) := fun _ => .ok none
def soO (f : Env → Rs Dt) : Env → Rs (Option Int) := fun ρ => (f ρ).bind fun x => match x with
  | .int i => .ok (some i)
  | _ => .bad
def apA (g : List Dt → Rs Dt) (f : Env → Rs (List Dt)) : Env → Rs Dt := fun ρ => (f ρ).bind g
/-- an item of a list of ours -/
def owI (i : Nat) (f : Env → Rs Dt) : Env → Rs Dt := fun ρ => match ρ[i]? with
  | some (.o xs) => (f ρ).bind fun x => ixD (.list xs) x
  | _ => .bad
/-- a list of ours isn't [] -/
def owN (i : Nat) : Env → Rs Dt := fun ρ => match ρ[i]? with
  | some (.o xs) => if PyData.canLayAll0 xs = true ∧ PyData.depthAll xs ≤ 60 then .ok (.bool (!xs.isEmpty)) else .bad
  | _ => .bad

section
variable {X : Cx} {W : WX} {e a b c : Expr} {es : List Expr} {f g h : Env → Rs Dt} {fa : Env → Rs (List Dt)} {pos : Pos}
/-! ### rules: names, constants -/
theorem pd_var (i : Nat) {x : Str} {pos : Pos} (hN : X.N[i]? = some x := by rfl) (hv : Vis X.env.scope x := by first | exact Or.inl rfl | exact Or.inr (Or.inl rfl) | exact Or.inr (Or.inr rfl)) (hd : (x == ("__debug__" : Str)) = false := by decide)
    (hcd : (x == ("__classdict__" : Str)) = false := by decide) : PD X W (.Name x pos) (vr i) := peW (pe_var hN hv hd hcd) fun σ H Q hh => by
  obtain ⟨F0, H0, F, ρ, s, q⟩ := hh
  unfold vr at q
  cases e : ρ[i]? with
  | none => rw [e] at q; exact q.elim
  | some y =>
    rw [e] at q
    cases y with
    | u => exact q.elim
    | o xs => exact q.elim
    | d x =>
      obtain ⟨v, e1, r⟩ := s.sl i x e
      exact ⟨v, e1, q v F H (Same.refl F) (Gw.refl F H) s r⟩
theorem pd_tC {v : V} {x : Dt} (he : PE X e (tC v)) (r : ∀ F, Den X.K X.mg F v x) : PD X W e (cn x) := peW he fun σ H Q hh => by
  obtain ⟨F0, H0, F, ρ, s, q⟩ := hh
  exact q v F H (Same.refl F) (Gw.refl F H) s (r F)
theorem pd_int {i j pos} : PD X W (.Constant (.int i) j pos) (cn (.int i)) := pd_tC pe_int fun _ => .int i
theorem pd_bl {b j pos} : PD X W (.Constant (.bool b) j pos) (cn (.bool b)) := pd_tC pe_bl fun _ => .bl b
theorem pd_non {j pos} : PD X W (.Constant .none j pos) (cn .none) := pd_tC pe_non fun _ => .non
theorem pd_str {x j pos} : PD X W (.Constant (.str x) j pos) (cn (.str x)) := pd_tC pe_str fun _ => .str x
/-- a constant of the module: what its global holds -/
def GlD (X : Cx) (x : Str) (d : Dt) : Prop := ∃ u v, X.mg x = some u ∧ RelV v u ∧ ∀ F, Den X.K X.mg F v d
theorem pd_glob {x : Str} {d : Dt} {pos : Pos} (hm : GlD X x d) (hg : Gl X x := by rfl) (hd : (x == ("__debug__" : Str)) = false := by decide) : PD X W (.Name x pos) (cn d) := by
  obtain ⟨u, v, h1, h2, h3⟩ := hm
  exact pd_tC (pe_glob hg h1 h2 hd) h3

/-! ### operators -/
/-- a rule by values does what g says -/
def OpS (X : Cx) (r : R2) (g : Dt → Dt → Rs Dt) : Prop := ∀ (W : WX) (F0 H0 F H : Hp) (σ : L2.St) (ρ : Env) (x y : V) (dx dy : Dt) (Q : VK), SL X.K X.mg F0 H0 F H σ ρ → Den X.K X.mg F x dx → Den X.K X.mg F y dy →
  EndG X.K X.mg W (Den X.K X.mg) F0 H0 σ ρ F H Q (g dx dy) → r x y H Q
theorem two {r : R2} {g' : Dt → Dt → Rs Dt} (hs : OpS X r g') {σ : L2.St} {H : Hp} {Q : VK} (hh : tD X.K X.mg W (ap2 g' f g) σ H Q) : tOp r (tD X.K X.mg W f) (tD X.K X.mg W g) σ H Q := by
  obtain ⟨F0, H0, F, ρ, s, q⟩ := hh
  refine tG.seq s q fun x dx F1 H1 f1 h1 s1 r1 q1 => ?_
  refine tG.seq s1 q1 fun y dy F2 H2 f2 h2 s2 r2 q2 => ?_
  exact hs W F0 H0 F2 H2 σ ρ x y dx dy Q s2 (Den.mono f2 _ _ r1) r2 q2
theorem pd_op {op : Operator} {r : R2} {g' : Dt → Dt → Rs Dt} (ho : OpR X (binaryOp op) r) (hs : OpS X r g') (ha : PD X W a f) (hb : PD X W b g) : PD X W (.BinOp a op b pos) (ap2 g' f g) := peW (pe_op ho ha hb) fun _ _ _ hh => two hs hh
theorem pd_cmp {op : CmpOp} {r : R2} {g' : Dt → Dt → Rs Dt} (ho : OpR X (compareOp op) r) (hs : OpS X r g') (ha : PD X W a f) (hb : PD X W b g) (hm : behindInMarks op b = false := by first | exact nomark _ | rfl) : PD X W (.Compare a [op] [b] pos) (ap2 g' f g) :=
  peW (pe_cmpR ho ha hb hm) fun _ _ _ hh => two hs hh
theorem pt_cmp' {op : CmpOp} {r : R2} {g' : Dt → Dt → Rs Dt} (ho : OpR X (compareOp op) r) (hs : OpS X r g') (ha : PD X W a f) (hb : PD X W b g) (hm : behindInMarks op b = false := by first | exact nomark _ | rfl) : PTD X W (.Compare a [op] [b] pos) (tst (ap2 g' f g)) :=
  ptW (pt_cmpR ho ha hb hm) fun σ H Q hh => by
    obtain ⟨F0, H0, F, ρ, s, q⟩ := hh
    unfold tTest
    refine two (W := W) hs ⟨F0, H0, F, ρ, s, ?_⟩
    unfold tst at q
    cases e : ap2 g' f g ρ with
    | bad => rw [e] at q; exact q
    | exc c => rw [e] at q; exact q
    | ok x =>
      rw [e] at q
      intro v F1 H1 f1 h1 s1 r1
      cases x with
      | bool k =>
        cases r1
        exact ⟨k, rfl, q k F1 H1 f1 h1 s1 rfl⟩
      | _ => exact q.elim
theorem den_ii {F : Hp} {x y : V} {i j : Int} (h1 : Den X.K X.mg F x (.int i)) (h2 : Den X.K X.mg F y (.int j)) : x = .int i ∧ y = .int j := by cases h1; cases h2; exact ⟨rfl, rfl⟩
theorem den_int {F : Hp} {x : V} {i : Int} (h1 : Den X.K X.mg F x (.int i)) : x = .int i := by cases h1; rfl
theorem den_str {F : Hp} {x : V} {i : Str} (h1 : Den X.K X.mg F x (.str i)) : x = .str i := by cases h1; rfl
theorem den_bl {F : Hp} {x : V} {i : Bool} (h1 : Den X.K X.mg F x (.bool i)) : x = .bl i := by cases h1; rfl
theorem den_lst {F : Hp} {x : V} {ds : List Dt} (h1 : Den X.K X.mg F x (.list ds)) : ∃ a xs, x = .ref a ∧ F a = some (.lst xs) ∧ DenAll X.K X.mg F xs ds := by
  cases h1 with
  | lst h2 h3 => exact ⟨_, _, rfl, h2, h3⟩
theorem den_tup {F : Hp} {x : V} {ds : List Dt} (h1 : Den X.K X.mg F x (.tuple ds)) : ∃ a xs, x = .ref a ∧ SqT X.K F a xs ∧ DenAll X.K X.mg F xs ds := by
  cases h1 with
  | tup h2 h3 => exact ⟨_, _, rfl, h2, h3⟩
theorem EndG.here {α β : Type} {R : Hp → β → α → Prop} {K : PySem.W.Frag} {mg : Str → Option Value} {W : WX} {F0 H0 F H : Hp} {σ : L2.St} {ρ : Env} {Q : β → Hp → Prop} {x : α} {y : β} (q : EndG K mg W R F0 H0 σ ρ F H Q (.ok x)) (s : SL K mg F0 H0 F H σ ρ) (r : R F y x) : Q y H := q y F H (Same.refl F) (Gw.refl F H) s r
theorem EndG.new {α β : Type} {R : Hp → β → α → Prop} {K : PySem.W.Frag} {mg : Str → Option Value} {W : WX} {F0 H0 F H : Hp} {σ : L2.St} {ρ : Env} {Q : β → Hp → Prop} {x : α} {y : β} (q : EndG K mg W R F0 H0 σ ρ F H Q (.ok x)) (s : SL K mg F0 H0 F H σ ρ) {p : Addr} {o : HO} (hp : H p = none)
    (r : R (upd F p o) y x) : Q y (upd H p o) := q y _ _ (same_new (s.freeF hp)) (Gw.new hp) (s.new hp) r
theorem ifG {α β : Type} {R : Hp → β → α → Prop} {K : PySem.W.Frag} {mg : Str → Option Value} {W : WX} {F0 H0 F H : Hp} {σ : L2.St} {ρ : Env} {Q : β → Hp → Prop} {c : Prop} [Decidable c] {r : Rs α} (q : EndG K mg W R F0 H0 σ ρ F H Q (if c then r else .bad)) : c ∧ EndG K mg W R F0 H0 σ ρ F H Q r := by
  by_cases hc : c
  · rw [if_pos hc] at q
    exact ⟨hc, q⟩
  · rw [if_neg hc] at q
    exact q.elim
/-- a comparison of ints -/
theorem cmp_s {p : Int → Int → Bool} : OpS X (rI0 fun i j => .bl (p i j)) (cmpD p) := by
  intro W F0 H0 F H σ ρ x y dx dy Q s r1 r2 q
  cases dx <;> cases dy <;> first | exact q.elim | skip
  obtain ⟨rfl, rfl⟩ := den_ii r1 r2
  exact ⟨_, _, rfl, rfl, EndG.here q s (.bl _)⟩
theorem sub_s : OpS X (rI0 fun i j => .int (i - j)) subD := by
  intro W F0 H0 F H σ ρ x y dx dy Q s r1 r2 q
  cases dx <;> cases dy <;> first | exact q.elim | skip
  obtain ⟨rfl, rfl⟩ := den_ii r1 r2
  exact ⟨_, _, rfl, rfl, EndG.here q s (.int _)⟩
theorem modR : OpR X (binaryOp .Mod) (rI (fun _ j => 0 < j) fun i j => .int (i % j)) := op_mod
theorem mod_s : OpS X (rI (fun _ j => 0 < j) fun i j => .int (i % j)) modD := by
  intro W F0 H0 F H σ ρ x y dx dy Q s r1 r2 q
  cases dx <;> cases dy <;> first | exact q.elim | skip
  obtain ⟨rfl, rfl⟩ := den_ii r1 r2
  obtain ⟨hc, q⟩ := ifG q
  exact ⟨_, _, rfl, rfl, hc, EndG.here q s (.int _)⟩
theorem div_s : OpS X (rI CDivW fun i j => .int (i / j)) divD := by
  intro W F0 H0 F H σ ρ x y dx dy Q s r1 r2 q
  cases dx <;> cases dy <;> first | exact q.elim | skip
  obtain ⟨rfl, rfl⟩ := den_ii r1 r2
  obtain ⟨hc, q⟩ := ifG q
  exact ⟨_, _, rfl, rfl, bq_div hc.1 hc.2, EndG.here q s (.int _)⟩
theorem pow_s : OpS X (rI CPow fun i j => .int (i ^ j.toNat)) powD := by
  intro W F0 H0 F H σ ρ x y dx dy Q s r1 r2 q
  cases dx <;> cases dy <;> first | exact q.elim | skip
  obtain ⟨rfl, rfl⟩ := den_ii r1 r2
  obtain ⟨hc, q⟩ := ifG q
  exact ⟨_, _, rfl, rfl, ⟨hc.1, by omega, by omega⟩, EndG.here q s (.int _)⟩
def rAdd3 : R2 := fun x y H Q => rI0 (fun i j => V.int (i + j)) x y H Q ∨ (∃ i j, x = .str i ∧ y = .str j ∧ i.length + j.length ≤ sizeLine ∧ Q (.str (i ++ j)) H) ∨ rCat x y H Q
theorem addR : OpR X (binaryOp .Add) rAdd3 := op_add.or (op_add_str.or op_cat)
theorem add_s : OpS X rAdd3 addD := by
  intro W F0 H0 F H σ ρ x y dx dy Q s r1 r2 q
  cases dx <;> cases dy <;> first | exact q.elim | skip
  · obtain ⟨rfl, rfl⟩ := den_ii r1 r2
    exact .inl ⟨_, _, rfl, rfl, EndG.here q s (.int _)⟩
  · obtain rfl := den_str r1
    obtain rfl := den_str r2
    obtain ⟨hc, q⟩ := ifG q
    exact .inr (.inl ⟨_, _, rfl, rfl, lim_ok hc, EndG.here q s (.str _)⟩)
  · obtain ⟨a, xs, rfl, ha, da⟩ := den_lst r1
    obtain ⟨b, ys, rfl, hb, db⟩ := den_lst r2
    obtain ⟨hc, q⟩ := ifG q
    refine .inr (.inr ⟨a, b, xs, ys, rfl, rfl, s.fh _ _ ha, s.fh _ _ hb, by rw [da.length, db.length]; exact lim_ok hc, fun p hp => ?_⟩)
    exact EndG.new q s hp (.lst upd_same (DenAll.mono (same_new (s.freeF hp)) _ _ (da.append db)))
def rMul2 : R2 := fun x y H Q => rI CMulW (fun i j => V.int (i * j)) x y H Q ∨ rRep x y H Q
theorem mulR : OpR X (binaryOp .Mult) rMul2 := op_mulW.or op_rep
theorem mul_s : OpS X rMul2 mulD := by
  intro W F0 H0 F H σ ρ x y dx dy Q s r1 r2 q
  cases dx <;> cases dy <;> first | exact q.elim | skip
  · obtain ⟨rfl, rfl⟩ := den_ii r1 r2
    obtain ⟨hc, q⟩ := ifG q
    exact .inl ⟨_, _, rfl, rfl, bd_mul hc.1 hc.2, EndG.here q s (.int _)⟩
  · obtain ⟨a, xs, rfl, ha, da⟩ := den_lst r1
    obtain rfl := den_int r2
    rename_i k
    obtain ⟨hc, q⟩ := ifG q
    have hk : k.toNat ≤ 1000 := by omega
    have hn : xs.length * k.toNat ≤ 1000 * 1000 := Nat.mul_le_mul (by rw [da.length]; exact hc.2.2) hk
    refine .inr ⟨a, k, xs, rfl, rfl, s.fh _ _ ha, by omega, by omega, Nat.le_trans hn (by decide), fun p hp => ?_⟩
    exact EndG.new q s hp (.lst upd_same (DenAll.mono (same_new (s.freeF hp)) _ _ (da.rep _)))
theorem un_neg_s (ha : PD X W a f) : PD X W (.UnaryOp .USub a pos) (ap1 (fun x => match x with | .int i => .ok (.int (-i)) | _ => .bad) f) := peW (pe_un un_neg ha) fun σ H Q hh => by
  obtain ⟨F0, H0, F, ρ, s, q⟩ := hh
  refine tG.seq s q fun x dx F1 H1 f1 h1 s1 r1 q1 => ?_
  cases dx <;> first | exact q1.elim | skip
  obtain rfl := den_int r1
  exact ⟨_, rfl, EndG.here q1 s1 (.int _)⟩
theorem isB_s : OpS X rIsB isB := by
  intro W F0 H0 F H σ ρ x y dx dy Q s r1 r2 q
  cases dx <;> cases dy <;> first | exact q.elim | skip
  obtain rfl := den_bl r1
  obtain rfl := den_bl r2
  exact ⟨_, _, rfl, rfl, EndG.here q s (.bl _)⟩
theorem notB_s : OpS X rNotB notB := by
  intro W F0 H0 F H σ ρ x y dx dy Q s r1 r2 q
  cases dx <;> cases dy <;> first | exact q.elim | skip
  obtain rfl := den_bl r1
  obtain rfl := den_bl r2
  exact ⟨_, _, rfl, rfl, EndG.here q s (.bl _)⟩
theorem den_none {F : Hp} {x : V} {d : Dt} (h : Den X.K X.mg F x d) : decide (x = .non) = isNone d := by cases h <;> simp [isNone]
theorem pd_isN {j pos'} (ha : PD X W a f) : PD X W (.Compare a [.Is] [.Constant .none j pos'] pos) (ap1 (fun x => .ok (.bool (isNone x))) f) := peW (pe_cmp (pc_isN ha)) fun σ H Q hh => by
  obtain ⟨F0, H0, F, ρ, s, q⟩ := hh
  refine tG.seq s q fun x dx F1 H1 f1 h1 s1 r1 q1 => ?_
  rw [den_none r1]
  exact EndG.here q1 s1 (.bl _)
theorem pd_notN {j pos'} (ha : PD X W a f) : PD X W (.Compare a [.IsNot] [.Constant .none j pos'] pos) (ap1 (fun x => .ok (.bool (!isNone x))) f) := peW (pe_cmp (pc_notN ha)) fun σ H Q hh => by
  obtain ⟨F0, H0, F, ρ, s, q⟩ := hh
  refine tG.seq s q fun x dx F1 H1 f1 h1 s1 r1 q1 => ?_
  rw [den_none r1]
  exact EndG.here q1 s1 (.bl _)

/-! ### data that is compared: read off the real heap -/
section
variable {pins : List (Addr × Obj)} {σ : L2.St} {H : Hp} {s : Shared}
mutual
theorem den_reads (I : Inv X pins σ H s) : ∀ (d : Dt) (v : V) (u : Value), d.canLay0 = true → Den X.K X.mg H v d → RelV v u → ∃ as, Reads s.heap u d as
  | .none, _, _, _, h, r => by
    cases h
    cases r
    exact ⟨_, .none⟩
  | .bool b, _, _, _, h, r => by
    cases h
    cases r
    exact ⟨_, .bool b⟩
  | .int i, _, _, _, h, r => by
    cases h
    obtain ⟨t, rfl⟩ := r
    exact ⟨_, .int i t⟩
  | .str x, _, _, _, h, r => by
    cases h
    obtain ⟨t, rfl⟩ := r
    exact ⟨_, .str x t⟩
  | .list ds, _, _, c, h, r => by
    obtain ⟨a, xs, rfl, ha, da⟩ := den_lst h
    cases r
    obtain ⟨its, rv, ⟨o, n, ho, hc, _, hd⟩, _⟩ := I.list (SqL.of ha)
    obtain ⟨as, hr⟩ := den_readsAll I ds _ its (by simpa [PyData.canLay0] using c) da rv
    exact ⟨_, .list ho hc hd hr⟩
  | .tuple ds, _, _, c, h, r => by
    obtain ⟨a, xs, rfl, ha, da⟩ := den_tup h
    cases r
    obtain ⟨its, rv, ⟨o, ho, hc, n, hd⟩, _⟩ := I.tuple ha
    obtain ⟨as, hr⟩ := den_readsAll I ds _ its (by simpa [PyData.canLay0] using c) da rv
    exact ⟨_, .tuple ho hc hd hr⟩
  | .dict _, _, _, c, _, _ => by simp [PyData.canLay0] at c
theorem den_readsAll (I : Inv X pins σ H s) : ∀ (ds : List Dt) (vs : List V) (us : List Value), PyData.canLayAll0 ds = true → DenAll X.K X.mg H vs ds → Vals vs us → ∃ as, ReadsAll s.heap us ds as
  | [], _, _, _, h, r => by
    cases h
    cases r
    exact ⟨_, .nil⟩
  | d :: ds, _, _, c, h, r => by
    have c' : d.canLay0 = true ∧ PyData.canLayAll0 ds = true := by simpa [PyData.canLayAll0] using c
    cases h with
    | cons h1 h2 =>
      cases r with
      | cons r1 r2 =>
        obtain ⟨as, q1⟩ := den_reads I d _ _ c'.1 h1 r1
        obtain ⟨bs, q2⟩ := den_readsAll I ds _ _ c'.2 h2 r2
        exact ⟨_, .cons q1 q2⟩
end
end
def rEqS (X : Cx) : R2 := fun x y H Q => ∃ d e, Den X.K X.mg H x d ∧ Den X.K X.mg H y e ∧ SeqAt.shaped d = true ∧ SeqAt.shaped e = true ∧ Q (.bl (PyData.eqv d e)) H
def rNeS (X : Cx) : R2 := fun x y H Q => ∃ d e, Den X.K X.mg H x d ∧ Den X.K X.mg H y e ∧ SeqAt.shaped d = true ∧ SeqAt.shaped e = true ∧ Q (.bl (!PyData.eqv d e)) H
theorem eqR (hu : X.A.units + 64 < cLine) : OpR X (compareOp .Eq) (rEqS X) := by
  intro pins s σ H x y v u Q I rx ry hh
  obtain ⟨d, e, hd, he, sd, se, q⟩ := hh
  obtain ⟨as, r1⟩ := den_reads I d x v (SeqAt.canLay_of_shaped sd) hd rx
  obtain ⟨bs, r2⟩ := den_reads I e y u (SeqAt.canLay_of_shaped se) he ry
  exact SeqAt.compareEq_shaped r1 r2 sd se hu ⟨V.bl _, H, I, rfl, q⟩
theorem neR (hu : X.A.units + 64 < cLine) : OpR X (compareOp .NotEq) (rNeS X) := by
  intro pins s σ H x y v u Q I rx ry hh
  obtain ⟨d, e, hd, he, sd, se, q⟩ := hh
  obtain ⟨as, r1⟩ := den_reads I d x v (SeqAt.canLay_of_shaped sd) hd rx
  obtain ⟨bs, r2⟩ := den_reads I e y u (SeqAt.canLay_of_shaped se) he ry
  exact SeqAt.compareNe_shaped r1 r2 sd se hu ⟨V.bl _, H, I, rfl, q⟩
theorem eq_s : OpS X (rEqS X) eqD := by
  intro W F0 H0 F H σ ρ x y dx dy Q s r1 r2 q
  obtain ⟨hc, q⟩ := ifG q
  exact ⟨dx, dy, Den.mono s.fh _ _ r1, Den.mono s.fh _ _ r2, hc.1, hc.2, EndG.here q s (.bl _)⟩
theorem ne_s : OpS X (rNeS X) neD := by
  intro W F0 H0 F H σ ρ x y dx dy Q s r1 r2 q
  obtain ⟨hc, q⟩ := ifG q
  exact ⟨dx, dy, Den.mono s.fh _ _ r1, Den.mono s.fh _ _ r2, hc.1, hc.2, EndG.here q s (.bl _)⟩
/-- in, not in -/
def rInS (X : Cx) (neg : Bool) : R2 := fun x y H Q => (∃ i j, x = .str i ∧ y = .str j ∧ Q (.bl (if neg then !(!(Builtin.Str.occurrences j i 0 j.length 1).isEmpty) else !(Builtin.Str.occurrences j i 0 j.length 1).isEmpty)) H) ∨
  ∃ d ds, Den X.K X.mg H x d ∧ (Den X.K X.mg H y (.list ds) ∨ Den X.K X.mg H y (.tuple ds)) ∧ SeqAt.shaped d = true ∧ PyData.canLayAll0 ds = true ∧ Q (.bl (if neg then !inAny d ds else inAny d ds)) H
theorem inR (hu : X.A.units + 65 < cLine) : OpR X (compareOp .In) (rInS X false) := by
  intro pins s σ H x y v u Q I rx ry hh
  rcases hh with hh | ⟨d, ds, hd, he, sd, se, q⟩
  · exact op_in_str pins s σ H x y v u Q I rx ry hh
  obtain ⟨as, r1⟩ := den_reads I d x v (SeqAt.canLay_of_shaped sd) hd rx
  rcases he with he | he
  · obtain ⟨bs, r2⟩ := den_reads I (.list ds) y u (by simpa [PyData.canLay0] using se) he ry
    exact SeqAt.in_list_reads r2 r1 se (SeqAt.canLay_of_shaped sd) (PyProof.Rows.room_in_shaped sd hu) ⟨V.bl _, H, I, rfl, q⟩
  · obtain ⟨bs, r2⟩ := den_reads I (.tuple ds) y u (by simpa [PyData.canLay0] using se) he ry
    exact SeqAt.in_tuple_reads r2 r1 se (SeqAt.canLay_of_shaped sd) (PyProof.Rows.room_in_shaped sd hu) ⟨V.bl _, H, I, rfl, q⟩
theorem ninR (hu : X.A.units + 65 < cLine) : OpR X (compareOp .NotIn) (rInS X true) := by
  intro pins s σ H x y v u Q I rx ry hh
  rcases hh with hh | ⟨d, ds, hd, he, sd, se, q⟩
  · exact op_notIn_str pins s σ H x y v u Q I rx ry hh
  obtain ⟨as, r1⟩ := den_reads I d x v (SeqAt.canLay_of_shaped sd) hd rx
  rcases he with he | he
  · obtain ⟨bs, r2⟩ := den_reads I (.list ds) y u (by simpa [PyData.canLay0] using se) he ry
    exact SeqAt.notIn_list_reads r2 r1 se (SeqAt.canLay_of_shaped sd) (PyProof.Rows.room_in_shaped sd hu) ⟨V.bl _, H, I, rfl, q⟩
  · obtain ⟨bs, r2⟩ := den_reads I (.tuple ds) y u (by simpa [PyData.canLay0] using se) he ry
    exact SeqAt.notIn_tuple_reads r2 r1 se (SeqAt.canLay_of_shaped sd) (PyProof.Rows.room_in_shaped sd hu) ⟨V.bl _, H, I, rfl, q⟩
theorem in_s : OpS X (rInS X false) inD := by
  intro W F0 H0 F H σ ρ x y dx dy Q s r1 r2 q
  have fin : ∀ (ds : List Dt), (Den X.K X.mg H y (.list ds) ∨ Den X.K X.mg H y (.tuple ds)) → EndG X.K X.mg W (Den X.K X.mg) F0 H0 σ ρ F H Q (if SeqAt.shaped dx = true ∧ PyData.canLayAll0 ds = true then .ok (.bool (inAny dx ds)) else .bad) → rInS X false x y H Q := fun ds hy q => by
    obtain ⟨hc, q⟩ := ifG q
    exact .inr ⟨dx, ds, Den.mono s.fh _ _ r1, hy, hc.1, hc.2, EndG.here q s (.bl _)⟩
  cases dy with
  | list ds =>
    refine fin ds (.inl (Den.mono s.fh _ _ r2)) ?_
    cases dx <;> exact q
  | tuple ds =>
    refine fin ds (.inr (Den.mono s.fh _ _ r2)) ?_
    cases dx <;> exact q
  | str y' =>
    cases dx with
    | str x' =>
      obtain rfl := den_str r1
      obtain rfl := den_str r2
      exact .inl ⟨_, _, rfl, rfl, EndG.here q s (.bl _)⟩
    | _ => exact q.elim
  | _ => cases dx <;> exact q.elim
theorem nin_s : OpS X (rInS X true) ninD := by
  intro W F0 H0 F H σ ρ x y dx dy Q s r1 r2 q
  have fin : ∀ (ds : List Dt), (Den X.K X.mg H y (.list ds) ∨ Den X.K X.mg H y (.tuple ds)) → EndG X.K X.mg W (Den X.K X.mg) F0 H0 σ ρ F H Q (if SeqAt.shaped dx = true ∧ PyData.canLayAll0 ds = true then .ok (.bool (!inAny dx ds)) else .bad) → rInS X true x y H Q := fun ds hy q => by
    obtain ⟨hc, q⟩ := ifG q
    exact .inr ⟨dx, ds, Den.mono s.fh _ _ r1, hy, hc.1, hc.2, EndG.here q s (.bl _)⟩
  cases dy with
  | list ds =>
    refine fin ds (.inl (Den.mono s.fh _ _ r2)) ?_
    cases dx <;> exact q
  | tuple ds =>
    refine fin ds (.inr (Den.mono s.fh _ _ r2)) ?_
    cases dx <;> exact q
  | str y' =>
    cases dx with
    | str x' =>
      obtain rfl := den_str r1
      obtain rfl := den_str r2
      exact .inl ⟨_, _, rfl, rfl, EndG.here q s (.bl _)⟩
    | _ => exact q.elim
  | _ => cases dx <;> exact q.elim
end
end Sb
set_option Elab.async false
set_option linter.all false
set_option maxRecDepth 100000
set_option maxHeartbeats 4000000
/-! Sb3: truth, displays, subscripts, slices, calls. -/
namespace Sb
open PySem L2
section
variable {X : Cx} {W : WX} {e a b c : Expr} {es rest : List Expr} {f g h : Env → Rs Dt} {fa : Env → Rs (List Dt)} {t u : Env → Rs Bool} {pos : Pos}
/-! ### truth -/
theorem asB_s {F0 H0 F H : Hp} {σ : L2.St} {ρ : Env} {β α : Type} {R : Hp → β → α → Prop} {Q : β → Hp → Prop} {x : V} {dx : Dt} {k : Bool → Rs α} (r : Den X.K X.mg F x dx) (q : EndG X.K X.mg W R F0 H0 σ ρ F H Q ((asB dx).bind k)) : ∃ c, x = .bl c ∧ EndG X.K X.mg W R F0 H0 σ ρ F H Q (k c) := by
  cases dx <;> first | exact q.elim | skip
  obtain rfl := den_bl r
  exact ⟨_, rfl, q⟩
theorem pd_one {op} (hf : PD X W a f) : PD X W (.BoolOp op [a] pos) f := pe_one hf
theorem pd_and (ha : PD X W a f) (hb : PD X W (.BoolOp .And (b :: rest) pos) g) : PD X W (.BoolOp .And (a :: b :: rest) pos) (anV f g) := peW (pe_and ha hb) fun σ H Q hh => by
  obtain ⟨F0, H0, F, ρ, s, q⟩ := hh
  refine tG.seq s q fun x dx F1 H1 f1 h1 s1 r1 q1 => ?_
  obtain ⟨k, rfl, q1⟩ := asB_s r1 q1
  refine ⟨k, rfl, ?_⟩
  cases k with
  | true => exact ⟨F0, H0, F1, ρ, s1, q1⟩
  | false => exact EndG.here q1 s1 (.bl _)
theorem pd_or (ha : PD X W a f) (hb : PD X W (.BoolOp .Or (b :: rest) pos) g) : PD X W (.BoolOp .Or (a :: b :: rest) pos) (orV f g) := peW (pe_or ha hb) fun σ H Q hh => by
  obtain ⟨F0, H0, F, ρ, s, q⟩ := hh
  refine tG.seq s q fun x dx F1 H1 f1 h1 s1 r1 q1 => ?_
  obtain ⟨k, rfl, q1⟩ := asB_s r1 q1
  refine ⟨k, rfl, ?_⟩
  cases k with
  | true => exact EndG.here q1 s1 (.bl _)
  | false => exact ⟨F0, H0, F1, ρ, s1, q1⟩
theorem pd_not (ha : PD X W a f) : PD X W (.UnaryOp .Not a pos) (ntV f) := peW (pe_not ha) fun σ H Q hh => by
  obtain ⟨F0, H0, F, ρ, s, q⟩ := hh
  refine tG.seq s q fun x dx F1 H1 f1 h1 s1 r1 q1 => ?_
  obtain ⟨k, rfl, q1⟩ := asB_s r1 q1
  exact ⟨k, rfl, EndG.here q1 s1 (.bl _)⟩
theorem pt_v (hf : PD X W e f) (he : ∀ whole, isTrue e X.env whole = (do let v ← whole; standAt e.pos; holding [v] (truthy v)) := by intro _; rfl) : PTD X W e (tst f) := ptW (pt_val hf he) fun σ H Q hh => by
  obtain ⟨F0, H0, F, ρ, s, q⟩ := hh
  have q2 : EndG X.K X.mg W (fun _ b b' => b = b') F0 H0 σ ρ F H Q ((f ρ).bind fun x => (asB x).bind fun k => .ok k) := by
    unfold tst at q
    cases e : f ρ with
    | bad => rw [e] at q; exact q
    | exc c => rw [e] at q; exact q
    | ok x =>
      rw [e] at q
      cases x <;> first | exact q.elim | exact q
  refine tG.seq s q2 fun x dx F1 H1 f1 h1 s1 r1 q1 => ?_
  obtain ⟨k, rfl, q1⟩ := asB_s r1 q1
  exact ⟨k, rfl, EndG.here q1 s1 rfl⟩
abbrev PWD (X : Cx) (W : WX) (e : Expr) (f : Env → Rs Bool) : Prop := PW X e (tT X.K X.mg W f)
theorem pwW {e : Expr} {t t' : TT} (h : PW X e t) (i : ∀ σ H Q, t' σ H Q → t σ H Q) : PW X e t' := ⟨fun w pins s σ H Q I q => h.run w pins s σ H Q I (i _ _ _ q)⟩
theorem pq_and1 (ha : PTD X W a t) : PWD X W (.BoolOp .And [a] pos) t := pw_and1 ha
theorem pq_or1 (ha : PTD X W a t) : PWD X W (.BoolOp .Or [a] pos) t := pw_or1 ha
theorem pq_and (ha : PTD X W a t) (hb : PWD X W (.BoolOp .And (b :: rest) pos) u) : PWD X W (.BoolOp .And (a :: b :: rest) pos) (anT t u) := pwW (pw_and ha hb) fun σ H Q hh => by
  obtain ⟨F0, H0, F, ρ, s, q⟩ := hh
  refine tG.seq s q fun x dx F1 H1 f1 h1 s1 r1 q1 => ?_
  subst r1
  cases x with
  | true => exact ⟨F0, H0, F1, ρ, s1, q1⟩
  | false => exact EndG.here q1 s1 rfl
theorem pq_or (ha : PTD X W a t) (hb : PWD X W (.BoolOp .Or (b :: rest) pos) u) : PWD X W (.BoolOp .Or (a :: b :: rest) pos) (orT t u) := pwW (pw_or ha hb) fun σ H Q hh => by
  obtain ⟨F0, H0, F, ρ, s, q⟩ := hh
  refine tG.seq s q fun x dx F1 H1 f1 h1 s1 r1 q1 => ?_
  subst r1
  cases x with
  | true => exact EndG.here q1 s1 rfl
  | false => exact ⟨F0, H0, F1, ρ, s1, q1⟩
theorem pq (h : PWD X W e t) : PTD X W e t := PW.pt h
theorem pq_not (ha : PTD X W a t) : PTD X W (.UnaryOp .Not a pos) (ntT t) := ptW (pt_not ha) fun σ H Q hh => by
  obtain ⟨F0, H0, F, ρ, s, q⟩ := hh
  refine tG.seq s q fun x dx F1 H1 f1 h1 s1 r1 q1 => ?_
  subst r1
  exact EndG.here q1 s1 rfl
theorem pd_if (hc : PTD X W c t) (ha : PD X W a f) (hb : PD X W b g) : PD X W (.IfExp c a b pos) (ifE t f g) := peW (pe_ifExp hc ha hb) fun σ H Q hh => by
  obtain ⟨F0, H0, F, ρ, s, q⟩ := hh
  refine tG.seq s q fun x dx F1 H1 f1 h1 s1 r1 q1 => ?_
  subst r1
  cases x with
  | true => exact ⟨F0, H0, F1, ρ, s1, q1⟩
  | false => exact ⟨F0, H0, F1, ρ, s1, q1⟩
theorem pd_chain {op op' : CmpOp} {r r' : R2} {g1 g2 : Dt → Dt → Rs Dt} (ho : OpR X (compareOp op) r) (hs : OpS X r g1) (ho' : OpR X (compareOp op') r') (hs' : OpS X r' g2) (ha : PD X W a f) (hb : PD X W b g) (hc : PD X W c h) (hm : lastMarks [op, op'] [b, c] = false := by rfl) :
    PD X W (.Compare a [op, op'] [b, c] pos) (chn g1 g2 f g h) := peW (pe_chain ho ho' ha hb hc (hm := hm)) fun σ H Q hh => by
  obtain ⟨F0, H0, F, ρ, s, q⟩ := hh
  refine tG.seq s q fun x dx F1 H1 f1 h1 s1 r1 q1 => ?_
  refine tG.seq s1 q1 fun y dy F2 H2 f2 h2 s2 r2 q2 => ?_
  cases e : g1 dx dy with
  | bad => rw [e] at q2; exact q2.elim
  | exc c => rw [e] at q2; exact hs W F0 H0 F2 H2 σ ρ x y dx dy _ s2 (Den.mono f2 _ _ r1) r2 (by rw [e]; exact q2)
  | ok z =>
    rw [e] at q2
    refine hs W F0 H0 F2 H2 σ ρ x y dx dy _ s2 (Den.mono f2 _ _ r1) r2 ?_
    rw [e]
    intro v F3 H3 f3 h3 s3 r3
    obtain ⟨k, rfl, q3⟩ := asB_s r3 (EndG.mono q2 f3 h3)
    refine ⟨k, rfl, ?_⟩
    cases k with
    | false => exact EndG.here q3 s3 (.bl _)
    | true =>
      refine tG.seq s3 q3 fun z dz F4 H4 f4 h4 s4 r4 q4 => ?_
      exact hs' W F0 H0 F4 H4 σ ρ y z dy dz Q s4 (Den.mono (f3.trans f4) _ _ r2) r4 q4

/-! ### argument lists, displays -/
theorem pn_nil : PAD X W [] nlA := paW pa_nil fun σ H Q hh => by
  obtain ⟨F0, H0, F, ρ, s, q⟩ := hh
  exact EndG.here q s .nil
theorem pn_cons (ha : PD X W a f) (hr : PAD X W es fa) (hs : starEach (a :: es) X.env = (false, eval a X.env) :: starEach es X.env := by rfl) : PAD X W (a :: es) (csA f fa) := paW (pa_cons ha hr hs) fun σ H Q hh => by
  obtain ⟨F0, H0, F, ρ, s, q⟩ := hh
  refine tG.seq s q fun x dx F1 H1 f1 h1 s1 r1 q1 => ?_
  refine tG.seq s1 q1 fun y dy F2 H2 f2 h2 s2 r2 q2 => ?_
  exact EndG.here q2 s2 (.cons (Den.mono f2 _ _ r1) r2)
theorem pd_tup {x1} (ha : PAD X W es fa) : PD X W (.Tuple es x1 pos) (tpE fa) := peW (pe_tup ha) fun σ H Q hh => by
  obtain ⟨F0, H0, F, ρ, s, q⟩ := hh
  refine tG.seq s q fun x dx F1 H1 f1 h1 s1 r1 q1 => ?_
  obtain ⟨hc, q1⟩ := ifG q1
  refine ⟨by rw [r1.length]; exact lim_ok hc, fun p hp => ?_⟩
  exact EndG.new q1 s1 hp (.tup (SqT.of upd_same) (DenAll.mono (same_new (s1.freeF hp)) _ _ r1))
theorem pd_lst (ha : PAD X W es fa) : PD X W (.List es pos) (lsE fa) := peW (pe_lst ha) fun σ H Q hh => by
  obtain ⟨F0, H0, F, ρ, s, q⟩ := hh
  refine tG.seq s q fun x dx F1 H1 f1 h1 s1 r1 q1 => ?_
  obtain ⟨hc, q1⟩ := ifG q1
  refine ⟨by rw [r1.length]; exact lim_ok hc, fun p hp => ?_⟩
  exact EndG.new q1 s1 hp (.lst upd_same (DenAll.mono (same_new (s1.freeF hp)) _ _ r1))
theorem pd_emp : PD X W (.Dict [] [] pos) (cn (.dict [])) := peW pe_dnewK fun σ H Q hh => by
  obtain ⟨F0, H0, F, ρ, s, q⟩ := hh
  exact fun p hp => EndG.new q s hp (.emp upd_same)

/-! ### subscripts, slices -/
theorem atI_den {K : PySem.W.Frag} {mg : Str → Option Value} {F : Hp} {xs : List V} {ds : List Dt} {i : Int} {d : Dt} (r : DenAll K mg F xs ds) (e : atI ds i = some d) : ∃ v, atI xs i = some v ∧ Den K mg F v d := by
  unfold atI at e ⊢
  rw [r.length]
  cases q : ixN ds.length i with
  | none => rw [q] at e; cases e
  | some j =>
    rw [q] at e
    exact r.get e
theorem ofO_s {F0 H0 F H : Hp} {σ : L2.St} {ρ : Env} {β α γ : Type} {R : Hp → β → α → Prop} {Q : β → Hp → Prop} {o : Option γ} {k : γ → Rs α} (q : EndG X.K X.mg W R F0 H0 σ ρ F H Q ((ofO o).bind k)) : ∃ c, o = some c ∧ EndG X.K X.mg W R F0 H0 σ ρ F H Q (k c) := by
  cases o with
  | none => exact q.elim
  | some c => exact ⟨c, rfl, q⟩
theorem ofO_e {F0 H0 F H : Hp} {σ : L2.St} {ρ : Env} {β α : Type} {R : Hp → β → α → Prop} {Q : β → Hp → Prop} {o : Option α} (q : EndG X.K X.mg W R F0 H0 σ ρ F H Q (ofO o)) : ∃ c, o = some c ∧ EndG X.K X.mg W R F0 H0 σ ρ F H Q (.ok c) := by
  cases o with
  | none => exact q.elim
  | some c => exact ⟨c, rfl, q⟩
theorem atI_ints {ns : List Int} {i : Int} {d : Dt} (e : atI (ns.map PyData.int) i = some d) : ∃ n : Int, d = .int n ∧ atI (ns.map V.int) i = some (.int n) := by
  unfold atI at e ⊢
  rw [List.length_map] at e ⊢
  cases q : ixN ns.length i with
  | none => rw [q] at e; cases e
  | some j =>
    rw [q] at e
    have e' : (ns.map PyData.int)[j]? = some d := e
    rw [List.getElem?_map] at e'
    cases z : ns[j]? with
    | none => rw [z] at e'; cases e'
    | some n =>
      rw [z] at e'
      refine ⟨n, (Option.some.inj e').symm, ?_⟩
      show (ns.map V.int)[j]? = some (.int n)
      rw [List.getElem?_map, z]
      rfl
theorem ix_s : OpS X (rIx X.K) ixD := by
  intro W F0 H0 F H σ ρ x y dx dy Q s r1 r2 q
  cases dy with
  | int i =>
    obtain rfl := den_int r2
    cases dx with
    | list ds =>
      obtain ⟨a, xs, rfl, ha, da⟩ := den_lst r1
      obtain ⟨d, e, q⟩ := ofO_e q
      obtain ⟨v, e1, rv⟩ := atI_den da e
      exact .inl ⟨a, xs, i, v, rfl, rfl, SqL.of (s.fh _ _ ha), e1, EndG.here q s rv⟩
    | tuple ds =>
      obtain ⟨a, xs, rfl, ha, da⟩ := den_tup r1
      obtain ⟨d, e, q⟩ := ofO_e q
      obtain ⟨v, e1, rv⟩ := atI_den da e
      exact .inr (.inl ⟨a, xs, i, v, rfl, rfl, sameT s.fh ha, e1, EndG.here q s rv⟩)
    | str z =>
      obtain rfl := den_str r1
      obtain ⟨hc, q⟩ := ifG q
      obtain ⟨c, e, q⟩ := ofO_s q
      exact .inr (.inr ⟨z, i, c, rfl, rfl, lim_ok hc, e, EndG.here q s (.str _)⟩)
    | dict kvs =>
      cases r1 with
      | emp h1 => exact q.elim
      | scr h1 =>
        obtain ⟨d, e, q⟩ := ofO_e q
        obtain ⟨n, rfl, e1⟩ := atI_ints e
        exact .inl ⟨_, _, i, .int n, rfl, rfl, s.fh.seq h1, e1, EndG.here q s (.int n)⟩
      | exn h1 h2 => exact q.elim
    | _ => exact q.elim
  | _ => cases dx <;> first | exact q.elim | (rename_i kvs; revert q; cases r1 <;> exact fun q => q.elim)
theorem pd_ix (ha : PD X W a f) (hb : PD X W b g) (hs : PlainIx b := by exact fun _ _ => rfl) : PD X W (.Subscript a b pos) (ap2 ixD f g) := peW (pe_ix ix_seq ha hb hs) fun _ _ _ hh => two ix_s hh
theorem pr_none : POD X W none noO := poW po_none fun σ H Q hh => by
  obtain ⟨F0, H0, F, ρ, s, q⟩ := hh
  exact EndG.here q s rfl
theorem pr_some (ha : PD X W a f) : POD X W (some a) (soO f) := poW (po_some ha) fun σ H Q hh => by
  obtain ⟨F0, H0, F, ρ, s, q⟩ := hh
  refine tG.seq s q fun x dx F1 H1 f1 h1 s1 r1 q1 => ?_
  cases dx <;> first | exact q1.elim | skip
  obtain rfl := den_int r1
  exact ⟨_, rfl, EndG.here q1 s1 rfl⟩
theorem cut_den {K : PySem.W.Frag} {mg : Str → Option Value} {F : Hp} {xs : List V} {ds : List Dt} {lo hi : Option Int} (r : DenAll K mg F xs ds) : DenAll K mg F (cutV xs lo hi) (cutD ds lo hi) := by
  unfold cutV cutD
  rw [r.length]
  exact DenAll.take _ (DenAll.drop _ r)
def rSl2 (K : PySem.W.Frag) : V → Option Int → Option Int → Hp → VK → Prop := fun x lo hi H Q => rSlL K x lo hi H Q ∨ rSlS x lo hi H Q
theorem pd_slice {lo hi : Option Expr} {p2 : Pos} {fl fh : Env → Rs (Option Int)} (he : PD X W e f) (hl : POD X W lo fl) (hu : POD X W hi fh) : PD X W (.Subscript e (.Slice lo hi none p2) pos) (slE f fl fh) :=
  peW (pe_slice (r := rSl2 X.K) (sl_list.or sl_str) he hl hu) fun σ H Q hh => by
    obtain ⟨F0, H0, F, ρ, s, q⟩ := hh
    refine tG.seq s q fun x dx F1 H1 f1 h1 s1 r1 q1 => ?_
    refine tG.seq s1 q1 fun l l' F2 H2 f2 h2 s2 r2 q2 => ?_
    subst r2
    refine tG.seq s2 q2 fun u u' F3 H3 f3 h3 s3 r3 q3 => ?_
    subst r3
    have r1' := Den.mono (f2.trans f3) _ _ r1
    cases dx <;> first | exact q3.elim | skip
    · obtain rfl := den_str r1'
      obtain ⟨hc, q3⟩ := ifG q3
      exact .inr ⟨_, rfl, lim_ok hc, EndG.here q3 s3 (.str _)⟩
    · obtain ⟨a, xs, rfl, ha, da⟩ := den_lst r1'
      refine .inl ⟨a, xs, rfl, SqL.of (s3.fh _ _ ha), fun p hp => ?_⟩
      exact EndG.new q3 s3 hp (.lst upd_same (DenAll.mono (same_new (s3.freeF hp)) _ _ (cut_den da)))

/-! ### calls of built-ins -/
def CalS (X : Cx) (r : List V → Hp → VK → Prop) (g : List Dt → Rs Dt) : Prop := ∀ (W : WX) (F0 H0 F H : Hp) (σ : L2.St) (ρ : Env) (xs : List V) (ds : List Dt) (Q : VK), SL X.K X.mg F0 H0 F H σ ρ → DenAll X.K X.mg F xs ds →
  EndG X.K X.mg W (Den X.K X.mg) F0 H0 σ ρ F H Q (g ds) → r xs H Q
theorem cal1 {r : List V → Hp → VK → Prop} {g' : List Dt → Rs Dt} (hs : CalS X r g') {σ : L2.St} {H : Hp} {Q : VK} (hh : tD X.K X.mg W (apA g' fa) σ H Q) : tCB r (tA X.K X.mg W fa) σ H Q := by
  obtain ⟨F0, H0, F, ρ, s, q⟩ := hh
  refine tG.seq s q fun x dx F1 H1 f1 h1 s1 r1 q1 => ?_
  exact hs W F0 H0 F1 H1 σ ρ x dx Q s1 r1 q1
theorem pd_blt {id : String} {x : Str} {p : Pos} {r : List V → Hp → VK → Prop} {g' : List Dt → Rs Dt} (hc : CallR X (.builtin id) r) (hs : CalS X r g') (hm : X.mg x = none) (hv : bootBuiltins x = some (.builtin id)) (ha : PAD X W (e :: es) fa) (hg : Gl X x := by rfl) (hn : x ≠ "__name__" := by decide) (hdb : (x == ("__debug__" : Str)) = false := by decide)
    (he : starEach (e :: es) X.env = (false, eval e X.env) :: starEach es X.env := by rfl) (hpl : (backTo pos (starEach es X.env)).any (·.1) = false := by rfl) : PD X W (.Call (.Name x p) (e :: es) [] pos) (apA g' fa) :=
  peW (pe_callB hc hg hm hv ha hn hdb he hpl) fun _ _ _ hh => cal1 hs hh
theorem pd_bty {T : String} {x : Str} {p : Pos} {r : List V → Hp → VK → Prop} {g' : List Dt → Rs Dt} (hc : CallR X (.type T) r) (hs : CalS X r g') (hm : X.mg x = none) (hv : bootBuiltins x = some (.type T)) (ha : PAD X W (e :: es) fa) (hg : Gl X x := by rfl) (hn : x ≠ "__name__" := by decide) (hdb : (x == ("__debug__" : Str)) = false := by decide)
    (he : starEach (e :: es) X.env = (false, eval e X.env) :: starEach es X.env := by rfl) (hpl : (backTo pos (starEach es X.env)).any (·.1) = false := by rfl) : PD X W (.Call (.Name x p) (e :: es) [] pos) (apA g' fa) :=
  peW (pe_callTy hc hg hm hv ha hn hdb he hpl) fun _ _ _ hh => cal1 hs hh
def un1 (g : Dt → Rs Dt) : List Dt → Rs Dt
  | [x] => g x
  | _ => .bad
def un2 (g : Dt → Dt → Rs Dt) : List Dt → Rs Dt
  | [x, y] => g x y
  | _ => .bad
theorem un1_s {r : List V → Hp → VK → Prop} {g' : Dt → Rs Dt} (hs : ∀ (W : WX) (F0 H0 F H : Hp) (σ : L2.St) (ρ : Env) (x : V) (d : Dt) (Q : VK), SL X.K X.mg F0 H0 F H σ ρ → Den X.K X.mg F x d → EndG X.K X.mg W (Den X.K X.mg) F0 H0 σ ρ F H Q (g' d) → r [x] H Q) : CalS X r (un1 g') := by
  intro W F0 H0 F H σ ρ xs ds Q s hr q
  cases hr with
  | nil => exact q.elim
  | cons h1 h2 =>
    cases h2 with
    | nil => exact hs W F0 H0 F H σ ρ _ _ Q s h1 q
    | cons h3 h4 => exact q.elim
theorem un2_s {r : List V → Hp → VK → Prop} {g' : Dt → Dt → Rs Dt} (hs : ∀ (W : WX) (F0 H0 F H : Hp) (σ : L2.St) (ρ : Env) (x y : V) (d d' : Dt) (Q : VK), SL X.K X.mg F0 H0 F H σ ρ → Den X.K X.mg F x d → Den X.K X.mg F y d' → EndG X.K X.mg W (Den X.K X.mg) F0 H0 σ ρ F H Q (g' d d') → r [x, y] H Q) : CalS X r (un2 g') := by
  intro W F0 H0 F H σ ρ xs ds Q s hr q
  cases hr with
  | nil => exact q.elim
  | cons h1 h2 =>
    cases h2 with
    | nil => exact q.elim
    | cons h3 h4 =>
      cases h4 with
      | nil => exact hs W F0 H0 F H σ ρ _ _ _ _ Q s h1 h3 q
      | cons h5 h6 => exact q.elim
/-- len -/
def lenD : Dt → Rs Dt
  | .list xs => .ok (.int xs.length)
  | .tuple xs => .ok (.int xs.length)
  | .dict [(.list xs, .none)] => .ok (.int xs.length)
  | .str z => if z.length ≤ lim then .ok (.int z.length) else .bad
  | _ => .bad
def rLen (K : PySem.W.Frag) : List V → Hp → VK → Prop := fun xs H Q => (∃ p ys, xs = [.ref p] ∧ (SqL K H p ys ∨ SqT K H p ys) ∧ Q (.int ys.length) H) ∨ ∃ z, xs = [.str z] ∧ z.length ≤ sizeLine ∧ Q (.int z.length) H
theorem lenR : CallR X (.builtin "len") (rLen X.K) := call_len_seq.or call_len_str
theorem len_s : CalS X (rLen X.K) (un1 lenD) := un1_s fun W F0 H0 F H σ ρ x d Q s r q => by
  cases d with
  | list ys =>
    obtain ⟨a, vs, rfl, ha, da⟩ := den_lst r
    refine .inl ⟨a, vs, rfl, .inl (SqL.of (s.fh _ _ ha)), ?_⟩
    rw [da.length]
    exact EndG.here q s (.int _)
  | tuple ys =>
    obtain ⟨a, vs, rfl, ha, da⟩ := den_tup r
    refine .inl ⟨a, vs, rfl, .inr (sameT s.fh ha), ?_⟩
    rw [da.length]
    exact EndG.here q s (.int _)
  | str z =>
    obtain rfl := den_str r
    obtain ⟨hc, q⟩ := ifG q
    exact .inr ⟨z, rfl, lim_ok hc, EndG.here q s (.int _)⟩
  | dict kvs =>
    cases r with
    | emp h1 => exact q.elim
    | scr h1 =>
      rename_i a ns
      refine .inl ⟨a, _, rfl, .inl (s.fh.seq h1), ?_⟩
      rw [List.length_map]
      have q' : EndG X.K X.mg W (Den X.K X.mg) F0 H0 σ ρ F H Q (.ok (.int (ns.map PyData.int).length)) := q
      rw [List.length_map] at q'
      exact EndG.here q' s (.int _)
    | exn h1 h2 => exact q.elim
  | _ => exact q.elim
/-- int(..): of a truth, of a number -/
def intD : Dt → Rs Dt
  | .bool b => .ok (.int (if b then 1 else 0))
  | .int i => .ok (.int i)
  | _ => .bad
theorem int_s : CalS X (fun xs H Q => (∃ i, xs = [.int i] ∧ Q (.int i) H) ∨ ∃ k, xs = [.bl k] ∧ Q (.int (if k then 1 else 0)) H) (un1 intD) := un1_s fun W F0 H0 F H σ ρ x d Q s r q => by
  cases d <;> first | exact q.elim | skip
  · obtain rfl := den_bl r
    exact .inr ⟨_, rfl, EndG.here q s (.int _)⟩
  · obtain rfl := den_int r
    exact .inl ⟨_, rfl, EndG.here q s (.int _)⟩
def absD : Dt → Rs Dt
  | .int i => .ok (.int (if i < 0 then -i else i))
  | _ => .bad
theorem abs_s : CalS X (fun xs H Q => ∃ i, xs = [.int i] ∧ Q (.int (if i < 0 then -i else i)) H) (un1 absD) := un1_s fun W F0 H0 F H σ ρ x d Q s r q => by
  cases d <;> first | exact q.elim | skip
  obtain rfl := den_int r
  exact ⟨_, rfl, EndG.here q s (.int _)⟩
def mxD : Dt → Dt → Rs Dt
  | .int i, .int j => .ok (.int (if j > i then j else i))
  | _, _ => .bad
def mnD : Dt → Dt → Rs Dt
  | .int i, .int j => .ok (.int (if j < i then j else i))
  | _, _ => .bad
theorem mx_s : CalS X (fun xs H Q => ∃ i j, xs = [.int i, .int j] ∧ Q (.int (if j > i then j else i)) H) (un2 mxD) := un2_s fun W F0 H0 F H σ ρ x y d d' Q s r1 r2 q => by
  cases d <;> cases d' <;> first | exact q.elim | skip
  obtain ⟨rfl, rfl⟩ := den_ii r1 r2
  exact ⟨_, _, rfl, EndG.here q s (.int _)⟩
theorem mn_s : CalS X (fun xs H Q => ∃ i j, xs = [.int i, .int j] ∧ Q (.int (if j < i then j else i)) H) (un2 mnD) := un2_s fun W F0 H0 F H σ ρ x y d d' Q s r1 r2 q => by
  cases d <;> cases d' <;> first | exact q.elim | skip
  obtain ⟨rfl, rfl⟩ := den_ii r1 r2
  exact ⟨_, _, rfl, EndG.here q s (.int _)⟩
/-- str(n) -/
def strD : Dt → Rs Dt
  | .int i => if i.natAbs.log2 < 1920 then .ok (.str (toString i)) else .bad
  | _ => .bad
theorem str_s : CalS X (fun xs H Q => ∃ i, xs = [.int i] ∧ i.natAbs.log2 < 1920 ∧ Q (.str (toString i)) H) (un1 strD) := un1_s fun W F0 H0 F H σ ρ x d Q s r q => by
  cases d <;> first | exact q.elim | skip
  obtain rfl := den_int r
  obtain ⟨hc, q⟩ := ifG q
  exact ⟨_, rfl, hc, EndG.here q s (.str _)⟩
/-- int(text) -/
def ntxD : Dt → Rs Dt
  | .str z => if z.length ≤ 640 then (ofO (PySem.intText? z)).bind fun n => .ok (.int n) else .bad
  | _ => .bad
theorem ntx_s : CalS X (fun xs H Q => ∃ a n, xs = [.str a] ∧ PySem.intText? a = some n ∧ a.length ≤ 640 ∧ Q (.int n) H) (un1 ntxD) := un1_s fun W F0 H0 F H σ ρ x d Q s r q => by
  cases d <;> first | exact q.elim | skip
  obtain rfl := den_str r
  obtain ⟨hc, q⟩ := ifG q
  obtain ⟨n, e, q⟩ := ofO_s q
  exact ⟨_, n, rfl, e, hc, EndG.here q s (.int _)⟩
/-- divmod -/
noncomputable instance (i j : Int) : Decidable (CDivP i j) := Classical.propDecidable _
noncomputable def dvmD : Dt → Dt → Rs Dt
  | .int i, .int j => if CDivP i j then .ok (.tuple [.int (i / j), .int (i % j)]) else .bad
  | _, _ => .bad
theorem dvm_s : CalS X (fun xs H Q => ∃ i j, xs = [.int i, .int j] ∧ CDivP i j ∧ ∀ p, H p = none → Q (.ref p) (upd H p (.tup [.int (i / j), .int (i % j)]))) (un2 dvmD) := un2_s fun W F0 H0 F H σ ρ x y d d' Q s r1 r2 q => by
  cases d <;> cases d' <;> first | exact q.elim | skip
  obtain ⟨rfl, rfl⟩ := den_ii r1 r2
  obtain ⟨hc, q⟩ := ifG q
  exact ⟨_, _, rfl, hc, fun p hp => EndG.new q s hp (.tup (SqT.of upd_same) (.cons (.int _) (.cons (.int _) .nil)))⟩
/-- list(xs): a new list -/
def lisD : Dt → Rs Dt
  | .list xs => .ok (.list xs)
  | .tuple xs => .ok (.list xs)
  | _ => .bad
theorem lis_s : CalS X (fun xs H Q => ∃ p ys, xs = [.ref p] ∧ (SqL X.K H p ys ∨ SqT X.K H p ys) ∧ ∀ l, H l = none → Q (.ref l) (upd H l (.lst ys))) (un1 lisD) := un1_s fun W F0 H0 F H σ ρ x d Q s r q => by
  cases d <;> first | exact q.elim | skip
  · obtain ⟨a, vs, rfl, ha, da⟩ := den_lst r
    exact ⟨a, vs, rfl, .inl (SqL.of (s.fh _ _ ha)), fun p hp => EndG.new q s hp (.lst upd_same (DenAll.mono (same_new (s.freeF hp)) _ _ da))⟩
  · obtain ⟨a, vs, rfl, ha, da⟩ := den_tup r
    exact ⟨a, vs, rfl, .inr (sameT s.fh ha), fun p hp => EndG.new q s hp (.lst upd_same (DenAll.mono (same_new (s.freeF hp)) _ _ da))⟩
/-- sum(ints), all(truths) -/
def asI : List Dt → Option (List Int)
  | [] => some []
  | .int i :: r => (asI r).map (i :: ·)
  | _ => none
def asBs : List Dt → Option (List Bool)
  | [] => some []
  | .bool i :: r => (asBs r).map (i :: ·)
  | _ => none
theorem asI_eq : ∀ {xs : List Dt} {ns : List Int}, asI xs = some ns → xs = ns.map PyData.int
  | [], ns, e => by cases e; rfl
  | .int i :: r, ns, e => by
    unfold asI at e
    cases q : asI r with
    | none => rw [q] at e; cases e
    | some m => rw [q] at e; cases e; rw [asI_eq q]; rfl
  | .none :: _, _, e => by cases e
  | .bool _ :: _, _, e => by cases e
  | .str _ :: _, _, e => by cases e
  | .list _ :: _, _, e => by cases e
  | .tuple _ :: _, _, e => by cases e
  | .dict _ :: _, _, e => by cases e
theorem asBs_eq : ∀ {xs : List Dt} {ns : List Bool}, asBs xs = some ns → xs = ns.map PyData.bool
  | [], ns, e => by cases e; rfl
  | .bool i :: r, ns, e => by
    unfold asBs at e
    cases q : asBs r with
    | none => rw [q] at e; cases e
    | some m => rw [q] at e; cases e; rw [asBs_eq q]; rfl
  | .none :: _, _, e => by cases e
  | .int _ :: _, _, e => by cases e
  | .str _ :: _, _, e => by cases e
  | .list _ :: _, _, e => by cases e
  | .tuple _ :: _, _, e => by cases e
  | .dict _ :: _, _, e => by cases e
@[simp] theorem asI_map (ns : List Int) : asI (ns.map PyData.int) = some ns := by
  induction ns with
  | nil => rfl
  | cons n ns ih => show (asI (ns.map PyData.int)).map (n :: ·) = some (n :: ns); rw [ih]; rfl
@[simp] theorem asBs_map (ns : List Bool) : asBs (ns.map PyData.bool) = some ns := by
  induction ns with
  | nil => rfl
  | cons n ns ih => show (asBs (ns.map PyData.bool)).map (n :: ·) = some (n :: ns); rw [ih]; rfl
def sumD : Dt → Rs Dt
  | .list xs => (ofO (asI xs)).bind fun ns => .ok (.int ns.sum)
  | _ => .bad
def allD : Dt → Rs Dt
  | .list xs => (ofO (asBs xs)).bind fun bs => .ok (.bool (bs.all id))
  | _ => .bad
theorem sum_s : CalS X (rSum X.K) (un1 sumD) := un1_s fun W F0 H0 F H σ ρ x d Q s r q => by
  cases d <;> first | exact q.elim | skip
  obtain ⟨a, vs, rfl, ha, da⟩ := den_lst r
  obtain ⟨ns, e, q'⟩ := ofO_s q
  cases asI_eq e
  obtain rfl := da.of_ints
  exact ⟨a, ns, rfl, SqL.of (s.fh _ _ ha), EndG.here q' s (.int _)⟩
theorem all_s : CalS X (rAll X.K) (un1 allD) := un1_s fun W F0 H0 F H σ ρ x d Q s r q => by
  cases d <;> first | exact q.elim | skip
  obtain ⟨a, vs, rfl, ha, da⟩ := den_lst r
  obtain ⟨ns, e, q'⟩ := ofO_s q
  cases asBs_eq e
  obtain rfl := da.of_bls
  exact ⟨a, ns, rfl, SqL.of (s.fh _ _ ha), EndG.here q' s (.bl _)⟩
/-- max of a pair -/
def mxP : Dt → Rs Dt
  | .tuple [.int i, .int j] => .ok (.int (if j > i then j else i))
  | _ => .bad
def rMaxP (K : PySem.W.Frag) : List V → Hp → VK → Prop := fun xs H Q => ∃ p i j, xs = [.ref p] ∧ SqT K H p [.int i, .int j] ∧ Q (.int (if j > i then j else i)) H
theorem mxPR (hc : X.calm = true) (hu : X.A.units + 64 < cLine) : CallR X (.builtin "max") (rMaxP X.K) := by
  intro pins s σ H xs us Q I r hh
  obtain ⟨p, i, j, rfl, hq, q⟩ := hh
  obtain ⟨u, rfl, rx⟩ := vals1 r
  cases rx
  obtain ⟨its, rv, ht, hz⟩ := I.tuple hq
  obtain ⟨u1, u2, rfl, ⟨t1, rfl⟩, ⟨t2, rfl⟩⟩ := vals2 rv
  have hr : ReadsAll s.heap (#[Value.int i t1, Value.int j t2] : Array Value).toList [.int i, .int j] ([] ++ ([] ++ [])) := .cons (.int i t1) (.cons (.int j t2) .nil)
  have e1 : PySem.W.maxD (.int i) [.int j] = .int (if j > i then j else i) := by
    rw [show ([.int j] : List PyData) = [j].map PyData.int from rfl, PySem.W.maxD_ints]
    show PyData.int (max i j) = _
    congr 1
    split <;> omega
  refine PySem.W.max_tuple_data (I.ok.hd hc) (show s.heap.IsTuple p _ from ht) hr ⟨?_, ?_⟩ ?_ fun k v h' tk bs hk hrd hkp => ?_
  · intro x hx y hy
    rcases List.mem_cons.mp hx with rfl | hx <;> rcases List.mem_cons.mp hy with rfl | hy
    · rfl
    · cases List.mem_singleton.mp hy; rfl
    · cases List.mem_singleton.mp hx; rfl
    · cases List.mem_singleton.mp hx; cases List.mem_singleton.mp hy; rfl
  · intro x hx
    rcases List.mem_cons.mp hx with rfl | hx
    · exact fun z => nomatch z
    · cases List.mem_singleton.mp hx; exact fun z => nomatch z
  · show X.A.units + 1 + 0 < cLine
    omega
  · rw [e1] at hrd
    cases hrd with
    | int m t => exact ⟨.int _, H, I.kept hkp, ⟨t, rfl⟩, q⟩
theorem mxP_s : CalS X (rMaxP X.K) (un1 mxP) := un1_s fun W F0 H0 F H σ ρ x d Q s r q => by
  unfold mxP at q
  split at q
  · obtain ⟨a, vs, rfl, ha, da⟩ := den_tup r
    cases da with
    | cons r1 da =>
      cases da with
      | cons r2 da =>
        cases da
        obtain ⟨rfl, rfl⟩ := den_ii r1 r2
        exact ⟨a, _, _, rfl, sameT s.fh ha, EndG.here q s (.int _)⟩
  · exact q.elim
/-- isinstance -/
theorem den_tyn {F : Hp} {x : V} {d : Dt} {n : String} (h : Den X.K X.mg F x d) (e : tyn d = some n) : TyX X.K F x (.type n) := by
  cases h with
  | non => cases e; exact .base .non
  | bl b => cases e; exact .base (.bl b)
  | int i => cases e; exact .base (.int i)
  | str z => cases e; exact .base (.str z)
  | lst h1 h2 => cases e; exact .base (.lst h1)
  | tup h1 h2 =>
    cases e
    rcases h1 with (h1 | ⟨o, h1⟩) | ⟨o, its, m, h1, h3, _⟩
    · exact .base (.tup h1)
    · exact .fTuple h1
    · exact .kTuple h1 h3
  | emp h1 => cases e; exact .base (.dK h1)
  | scr h1 => cases e
  | exn h1 h2 => cases e
end
end Sb
set_option Elab.async false
set_option linter.all false
set_option maxRecDepth 100000
set_option maxHeartbeats 4000000
/-! Sb4: isinstance, repr, defs and their calls. -/
namespace Sb
open PySem L2
section
variable {X : Cx} {W : WX} {e a b c : Expr} {es rest : List Expr} {f g h : Env → Rs Dt} {fa : Env → Rs (List Dt)} {t u : Env → Rs Bool} {pos : Pos}
/-! ### isinstance -/
def isE (T : String) (f : Env → Rs Dt) : Env → Rs Dt := ap1 (isiD T) f
theorem pd_isi {T : String} {x : Str} {p p2 : Pos} (hm : X.mg "isinstance" = none) (hm2 : X.mg x = none) (hv2 : bootBuiltins x = some (.type T)) (ha : PD X W a f) (hg2 : Gl X x := by rfl) (hg : Gl X "isinstance" := by rfl) (hn2 : x ≠ "__name__" := by decide) (hdb2 : (x == ("__debug__" : Str)) = false := by decide)
    (he : starEach [a, .Name x p2] X.env = (false, eval a X.env) :: starEach [.Name x p2] X.env := by rfl) (he2 : starEach [.Name x p2] X.env = (false, eval (.Name x p2) X.env) :: starEach [] X.env := by rfl)
    (hpl : (backTo pos (starEach [.Name x p2] X.env)).any (·.1) = false := by rfl) : PD X W (.Call (.Name "isinstance" p) [a, .Name x p2] [] pos) (isE T f) :=
  peW (pe_callB call_isi hg hm (by decide +kernel) (pa_cons ha (pa_cons (pe_bltn (v := .ty T) hg2 hm2 hv2 rfl hn2 hdb2) pa_nil he2) he) (by decide) (by decide) he hpl) fun σ H Q hh => by
    obtain ⟨F0, H0, F, ρ, s, q⟩ := hh
    refine tG.seq s q fun x dx F1 H1 f1 h1 s1 r1 q1 => ?_
    obtain ⟨n, e1, q1⟩ : ∃ n, tyn dx = some n ∧ EndG X.K X.mg W (Den X.K X.mg) F0 H0 σ ρ F1 H1 Q ((ofO (kitB n T)).bind fun b => .ok (.bool b)) := by
      unfold isiD at q1
      cases e : tyn dx with
      | none => rw [e] at q1; exact q1.elim
      | some n => rw [e] at q1; exact ⟨n, rfl, q1⟩
    obtain ⟨b, e2, q1⟩ := ofO_s q1
    exact ⟨x, .ty T, _, _, b, rfl, .ty T, den_tyn (Den.mono s1.fh _ _ r1) e1, kit_ty e2, EndG.here q1 s1 (.bl _)⟩
/-- isinstance(e, C): e an exception's value -/
def exKin (c n : Str) : Bool := decide (c = n) || decide (n = "FractionError") || decide (n = "ValueError")
structure ExcOk (X : Cx) (cs : List Str) (n : Str) (cv : Value) : Prop where
  cl : ∀ c ∈ cs, ∀ C, X.mg c = some (.ref C) → ExcC X.K C
  kit : ∀ c ∈ cs, ∀ C, X.mg c = some (.ref C) → PySem.W.kitOne X.K (.ref C) cv = some (exKin c n)
def isX (cs : List Str) (n : Str) (f : Env → Rs Dt) : Env → Rs Dt := ap1 (fun x => match x with
  | .dict [(.str c, .none)] => if c ∈ cs then .ok (.bool (exKin c n)) else .bad
  | _ => .bad) f
theorem call_isXR : CallR X (.builtin "isinstance") (fun xs H Q => ∃ (a C : Addr) (c : V) (cv : Value) (b : Bool), xs = [.ref a, c] ∧ H a = some (ExV C a) ∧ ExcC X.K C ∧ (∀ u, RelV c u → u = cv) ∧ PySem.W.kitOne X.K (.ref C) cv = some b ∧ Q (.bl b) H) := by
  intro pins s σ H xs us Q I r hh
  obtain ⟨a, C, c, cv, b, rfl, ha, hC, hcv, ek, q⟩ := hh
  obtain ⟨u1, u2, rfl, r1, r2⟩ := vals2 r
  cases (show u1 = Value.ref a from r1)
  obtain rfl := hcv _ r2
  obtain ⟨⟨oe, vs, hg, hz, hv⟩, _, _⟩ := (show ObjOk X.prog X.w H s.heap a (ExV C a) from I.hok a _ ha)
  have J : PySem.W.InstAt s.heap a oe C none := by
    obtain ⟨oc, od, oda, osl⟩ := oe
    obtain ⟨z1, z2⟩ := hz
    dsimp only at z1 z2 hv
    subst z1 z2 hv
    exact ⟨hg, rfl, rfl, trivial⟩
  exact PySem.W.kia_one (PySem.W.handS_kitx_exc hC.hg hC.hk hC.hs hC.hd hC.ha hC.hn hC.ht hC.hm) I.kIn J ek (fun z => nomatch z) fun tk => ⟨.bl b, H, I.kept (t' := tk) fun _ _ z => z, rfl, q⟩
theorem isX_s {cs : List Str} {n : Str} {cv : Value} {vc : V} {ta : TE} (hc : ExcOk X cs n cv) (hcv : ∀ u, RelV vc u → u = cv) (htc : ∀ σ H Q, Q vc H → ta σ H Q) {σ : L2.St} {H : Hp} {Q : VK} (hh : tD X.K X.mg W (isX cs n f) σ H Q) :
    tCB (fun xs H Q => ∃ (a C : Addr) (c : V) (cv : Value) (b : Bool), xs = [.ref a, c] ∧ H a = some (ExV C a) ∧ ExcC X.K C ∧ (∀ u, RelV c u → u = cv) ∧ PySem.W.kitOne X.K (.ref C) cv = some b ∧ Q (.bl b) H) (tCons (tD X.K X.mg W f) (tCons ta tNil)) σ H Q := by
  obtain ⟨F0, H0, F, ρ, s, q⟩ := hh
  refine tG.seq s q fun x dx F1 H1 f1 h1 s1 r1 q1 => htc _ _ _ ?_
  split at q1
  · obtain ⟨hc1, q1⟩ := ifG q1
    cases r1 with
    | exn e1 e2 => exact ⟨_, _, vc, cv, _, rfl, s1.fh _ _ e2, hc.cl _ hc1 _ e1, hcv, hc.kit _ hc1 _ e1, EndG.here q1 s1 (.bl _)⟩
  · exact q1.elim
theorem pd_isx {cs : List Str} {x : Str} {C2 : Addr} {p p2 : Pos} (hc : ExcOk X cs x (.ref C2)) (hm : X.mg "isinstance" = none) (hm2 : X.mg x = some (.ref C2)) (ha : PD X W a f) (hg2 : Gl X x := by rfl) (hg : Gl X "isinstance" := by rfl) (hdb2 : (x == ("__debug__" : Str)) = false := by decide)
    (he : starEach [a, .Name x p2] X.env = (false, eval a X.env) :: starEach [.Name x p2] X.env := by rfl) (he2 : starEach [.Name x p2] X.env = (false, eval (.Name x p2) X.env) :: starEach [] X.env := by rfl)
    (hpl : (backTo pos (starEach [.Name x p2] X.env)).any (·.1) = false := by rfl) : PD X W (.Call (.Name "isinstance" p) [a, .Name x p2] [] pos) (isX cs x f) :=
  peW (pe_callB call_isXR hg hm (by decide +kernel) (pa_cons ha (pa_cons (pe_glob (v := .ref C2) hg2 hm2 rfl hdb2) pa_nil he2) he) (by decide) (by decide) he hpl) fun σ H Q hh => isX_s (vc := .ref C2) hc (fun u h => h) (fun _ _ _ q => q) hh
theorem pd_isv {cs : List Str} {p p2 : Pos} (hc : ExcOk X cs "ValueError" (.type "ValueError")) (hm : X.mg "isinstance" = none) (hm2 : X.mg "ValueError" = none) (ha : PD X W a f) (hg2 : Gl X "ValueError" := by rfl) (hg : Gl X "isinstance" := by rfl)
    (he : starEach [a, .Name "ValueError" p2] X.env = (false, eval a X.env) :: starEach [.Name "ValueError" p2] X.env := by rfl) (he2 : starEach [.Name "ValueError" p2] X.env = (false, eval (.Name "ValueError" p2) X.env) :: starEach [] X.env := by rfl)
    (hpl : (backTo pos (starEach [.Name "ValueError" p2] X.env)).any (·.1) = false := by rfl) : PD X W (.Call (.Name "isinstance" p) [a, .Name "ValueError" p2] [] pos) (isX cs "ValueError" f) :=
  peW (pe_callB call_isXR hg hm (by decide +kernel) (pa_cons ha (pa_cons (pe_bltn (v := .ty "ValueError") hg2 hm2 (by decide +kernel) rfl) pa_nil he2) he) (by decide) (by decide) he hpl) fun σ H Q hh => isX_s (vc := .ty "ValueError") hc (fun u h => h) (fun _ _ _ q => q) hh

/-! ### repr -/
def rprD (d : Dt) : Rs Dt := if d.canLay0 = true ∧ d.showable = true ∧ d.depth ≤ 60 ∧ d.shown.length ≤ lim then .ok (.str d.shown) else .bad
def rRepr (X : Cx) : List V → Hp → VK → Prop := fun xs H Q => ∃ v d, xs = [v] ∧ Den X.K X.mg H v d ∧ d.canLay0 = true ∧ d.showable = true ∧ d.depth ≤ 60 ∧ d.shown.length ≤ lim ∧ Q (.str d.shown) H
theorem rprR (hg : X.A.guards = some []) (hu : X.A.units + 64 < cLine) : CallR X (.builtin "repr") (rRepr X) := by
  intro pins s σ H xs us Q I r hh
  obtain ⟨v, d, rfl, hd, c, sh, dp, ln, q⟩ := hh
  obtain ⟨u, rfl, ru⟩ := vals1 r
  have fin : ∀ u' k, EP X pins σ Q (.str d.shown u') { s with toks := k } := fun u' k => ⟨.str d.shown, H, I.tok k, ⟨_, rfl⟩, q⟩
  have big : ∀ (a : Addr), u = .ref a → wpAny (model X.prog X.w) X.A (call (.builtin "repr") [u]) (EP X pins σ Q) X.xe s := fun a e => by
    subst e
    obtain ⟨as, hr⟩ := den_reads I d v _ c hd ru
    exact repr_of_reads' hr sh (fun z => by rw [PyData.hasDict_of_canLay d c] at z; cases z) hg (by omega) (fun _ _ z => z) (fun h' u' tk hk => ⟨.str d.shown, H, I.kept hk, ⟨_, rfl⟩, q⟩) (lim_ok ln)
  cases hd with
  | non =>
    cases ru
    exact P.repr_of_none (fin _ _)
  | bl b =>
    cases ru
    refine P.repr_of_bool ?_
    have z := fin s.toks (s.toks + 1)
    simpa only [PyData.shown] using z
  | int i =>
    obtain ⟨t, rfl⟩ := ru
    have sh' : i.natAbs.log2 < 1920 := by simpa [PyData.showable] using sh
    refine P.repr_of_int sh' ?_
    have z := fin s.toks (s.toks + 1)
    simpa only [PyData.shown] using z
  | str x =>
    obtain ⟨t, rfl⟩ := ru
    refine P.repr_of_str ?_ (by have z := lim_ok ln; simpa only [PyData.shown] using z)
    have z := fin s.toks (s.toks + 1)
    simpa only [PyData.shown] using z
  | lst h1 h2 => exact big _ ru
  | tup h1 h2 => exact big _ ru
  | emp h1 => exact big _ ru
  | scr h1 => exact big _ ru
  | exn h1 h2 => exact big _ ru
theorem rpr_s : CalS X (rRepr X) (un1 rprD) := un1_s fun W F0 H0 F H σ ρ x d Q s r q => by
  obtain ⟨hc, q⟩ := ifG q
  exact ⟨x, d, rfl, Den.mono s.fh _ _ r, hc.1, hc.2.1, hc.2.2.1, hc.2.2.2, EndG.here q s (.str _)⟩
end

/-! ### defs -/
def EndF (K : PySem.W.Frag) (mg : Str → Option Value) (F H : Hp) (Q : VK) (E : XK) : Rs Sl → Prop
  | .ok (.d x) => ∀ v F' H', Same F F' → Same H H' → Same F' H' → (∀ a o, F' a = some o → F a = some o ∨ H a = none) → Den K mg F' v x → Q v H'
  | .ok (.o xs) => ∀ a vs F' H', Same F F' → Same H H' → Same F' H' → (∀ a o, F' a = some o → F a = some o ∨ H a = none) → H a = none → F' a = none → H' a = some (.lst vs) → DenAll K mg F' vs xs → Q (.ref a) H'
  | .exc c => ∀ C F' H', mg c = some (.ref C) → Same F F' → Same H H' → Same F' H' → (∀ a o, F' a = some o → F a = some o ∨ H a = none) → E (.ref C) none H'
  | _ => False
def spF (K : PySem.W.Frag) (mg : Str → Option Value) (n : Nat) (m : List Dt → Rs Sl) : Sp := fun vs H Q E => vs.length = n ∧ ∃ F ds, Same F H ∧ DenAll K mg F vs ds ∧ EndF K mg F H Q E (m ds)
/-- the module's def x, of n parameters, does what m says; at most k levels deep -/
def DefOk (P : Program) (w : World) (K : PySem.W.Frag) (mg : Str → Option Value) (base : Heap) (k : Nat) (x : Str) (n : Nat) (m : List Dt → Rs Sl) : Prop :=
  ∃ (f : Addr) (fd : FuncData) (ps : List Str), mg x = some (.ref f) ∧ PySem.W.keepIn K (.ref f) = true ∧ Binds K fd ps [] ∧ ps.length = n ∧
    ∀ (A : Around) (outer : List PySem.Env) (s : Shared) (H : Hp) (args : Args) (us : List Value) (vs : List V) (Q : VK) (E : XK), Room k A → A.guards = some [] → Env0 P w K mg base A outer s H → BindsTo s fd args (ps.zip us) → Vals vs us →
      spF K mg n m vs H Q E → codeAny (model P w) A (.call (.ref f) args) (CR (L2.CX P w) outer P w H s Q E) s
/-- what a derivation asks of its context -/
structure Ctx (X : Cx) (W : WX) (k : Nat) : Prop where
  hr : Room k X.A
  gd : X.A.guards = some []
  tk : Takes X W
  po : PassesOwn (model X.prog X.w) X.A X.env X.xe
  calm : X.calm = true
  nd : X.N.Nodup
def unO : Sl → Rs Dt
  | .d x => .ok x
  | .o xs => .ok (.list xs)
  | .u => .bad
def calE (m : List Dt → Rs Sl) (fa : Env → Rs (List Dt)) : Env → Rs Dt := fun ρ => (fa ρ).bind fun ds => (m ds).bind unO
section
variable {X : Cx} {W : WX} {k j n : Nat} {x : Str} {m : List Dt → Rs Sl} {e : Expr} {es : List Expr} {fa : Env → Rs (List Dt)} {p pos : Pos}
theorem Ctx.hu (C : Ctx X W k) : X.A.units + 64 < cLine := C.hr.units
theorem Ctx.hu5 (C : Ctx X W k) : X.A.units + 65 < cLine := by have := C.hr.un; omega
/-- a call of a def: by its promise; what it raises goes where the context wants it -/
theorem pe_def (C : Ctx X W k) (D : DefOk X.prog X.w X.K X.mg X.base j x n m) (hj : j ≤ k) (ha : PAD X W (e :: es) fa) (hg : Gl X x := by rfl) (hdb : (x == ("__debug__" : Str)) = false := by decide)
    (he : starEach (e :: es) X.env = (false, eval e X.env) :: starEach es X.env := by rfl) (hpl : (backTo pos (starEach es X.env)).any (·.1) = false := by rfl) :
    PE X (.Call (.Name x p) (e :: es) [] pos) (fun σ H Q => tA X.K X.mg W fa σ H fun vs H1 => spF X.K X.mg n m vs H1 Q (WE W σ)) := by
  obtain ⟨f, fd, ps, hm, hk, hb, hn, run⟩ := D
  refine ⟨fun pins s σ H Q I hh => wpAny_Call_Name_kw (ld_glob I hg hm ?_ hdb)⟩
  refine PySem.W.callWith_K (h₀ := X.base) I.ok.mod.kin hk (thn (ha.run pos pins s σ H _ I hh) fun us s1 h1 => ?_) he hpl
  obtain ⟨vs, H1, I1, r, q⟩ := h1
  refine ⟨I1.kIn, ?_⟩
  have ln : us.length = ps.length := by rw [← r.length, hn]; exact q.1
  have bd := hb s1 us I1.kIn (by rw [List.append_nil]; exact ln)
  rw [List.append_nil] at bd
  refine wpAny_call (codeAny_mono (run X.A X.stack s1 H1 ⟨us, []⟩ us vs Q (WE W σ) (C.hr.mono hj) C.gd I1.env0 bd r q) fun rs s2 hq => ?_)
  cases rs with
  | error ex => exact passAt C.tk σ pins H1 s1 ex s2 I1 hq
  | ok fl => cases fl <;> first | exact I1.after hq | exact False.elim hq
theorem pd_call (C : Ctx X W k) (D : DefOk X.prog X.w X.K X.mg X.base j x n m) (hj : j ≤ k) (hn : ∀ ds, m ds ≠ .bad → ds.length = n) (ha : PAD X W (e :: es) fa) (hg : Gl X x := by rfl) (hdb : (x == ("__debug__" : Str)) = false := by decide)
    (he : starEach (e :: es) X.env = (false, eval e X.env) :: starEach es X.env := by rfl) (hpl : (backTo pos (starEach es X.env)).any (·.1) = false := by rfl) :
    PD X W (.Call (.Name x p) (e :: es) [] pos) (calE m fa) := peW (pe_def C D hj ha hg hdb he hpl) fun σ H Q hh => by
  obtain ⟨F0, H0, F, ρ, s, q⟩ := hh
  refine tG.seq s q fun vs ds F1 H1 f1 h1 s1 r1 q1 => ?_
  have nb : m ds ≠ .bad := fun z => by rw [z] at q1; exact q1.elim
  refine ⟨by rw [r1.length]; exact hn ds nb, F1, ds, s1.fh, r1, ?_⟩
  cases em : m ds with
  | bad => exact absurd em nb
  | exc c =>
    rw [em] at q1
    exact fun Ca F' H' e1 a1 a2 a3 a4 => q1 Ca F' H' e1 a1 ⟨a2, a4⟩ (s1.grow a1 a2 a3 a4)
  | ok sl =>
    rw [em] at q1
    cases sl with
    | u => exact q1.elim
    | d x => exact fun v F' H' a1 a2 a3 a4 r => q1 v F' H' a1 ⟨a2, a4⟩ (s1.grow a1 a2 a3 a4) r
    | o xs =>
      intro a ws F' H' a1 a2 a3 a4 na nF ea da
      have fz : Same F' (upd F' a (.lst ws)) := same_new nF
      have nwa : ∀ b o, (upd F' a (.lst ws)) b = some o → F1 b = some o ∨ H1 b = none := fun b o z => by
        by_cases hb : b = a
        · subst hb; exact .inr na
        · rw [upd_ne hb] at z; exact a4 b o z
      refine q1 (.ref a) (upd F' a (.lst ws)) H' (a1.trans fz) ⟨a2, nwa⟩ (s1.grow (a1.trans fz) a2 (fun b o z => ?_) nwa) (.lst upd_same (DenAll.mono fz _ _ da))
      by_cases hb : b = a
      · subst hb; rw [upd_same] at z; cases z; exact ea
      · rw [upd_ne hb] at z; exact a3 b o z
end
end Sb
set_option Elab.async false
set_option linter.all false
set_option maxRecDepth 100000
set_option maxHeartbeats 4000000
/-! Sb5: statements. -/
namespace Sb
open PySem L2

inductive So where
  | bad | nx (ρ : Env) | rt (x : Sl) | bk (ρ : Env) | ct (ρ : Env) | ex (c : Str) (ρ : Env)
def onR {α : Type} (r : Rs α) (ρ : Env) (k : α → So) : So := match r with
  | .bad => .bad
  | .exc c => .ex c ρ
  | .ok a => k a
@[simp] theorem onR_ok {α : Type} (a : α) (ρ : Env) (k : α → So) : onR (.ok a) ρ k = k a := rfl
@[simp] theorem onR_exc {α : Type} (c : Str) (ρ : Env) (k : α → So) : onR (.exc c) ρ k = .ex c ρ := rfl
@[simp] theorem onR_bad {α : Type} (ρ : Env) (k : α → So) : onR (.bad : Rs α) ρ k = .bad := rfl
def onO {α : Type} (r : Option α) (k : α → So) : So := match r with
  | none => .bad
  | some a => k a
@[simp] theorem onO_some {α : Type} (a : α) (k : α → So) : onO (some a) k = k a := rfl
@[simp] theorem onO_none {α : Type} (k : α → So) : onO (none : Option α) k = .bad := rfl
def So.thn (o : So) (k : Env → So) : So := match o with
  | .nx ρ => k ρ
  | o => o
@[simp] theorem So.thn_nx (ρ : Env) (k : Env → So) : (So.nx ρ).thn k = k ρ := rfl
@[simp] theorem So.thn_rt (x : Sl) (k : Env → So) : (So.rt x).thn k = .rt x := rfl
@[simp] theorem So.thn_bad (k : Env → So) : So.bad.thn k = .bad := rfl
@[simp] theorem So.thn_ex (c : Str) (ρ : Env) (k : Env → So) : (So.ex c ρ).thn k = .ex c ρ := rfl
@[simp] theorem So.thn_bk (ρ : Env) (k : Env → So) : (So.bk ρ).thn k = .bk ρ := rfl
@[simp] theorem So.thn_ct (ρ : Env) (k : Env → So) : (So.ct ρ).thn k = .ct ρ := rfl

/-! ### pure statements -/
abbrev Sm := Env → So
def sNil : Sm := fun ρ => .nx ρ
def sSeq (S T : Sm) : Sm := fun ρ => (S ρ).thn T
def sSet (i : Nat) (f : Env → Rs Dt) : Sm := fun ρ => onR (f ρ) ρ fun x => .nx (ρ.set i (.d x))
def sSetO (i : Nat) (f : Env → Rs (List Dt)) : Sm := fun ρ => onR (f ρ) ρ fun xs => if xs.length ≤ lim then .nx (ρ.set i (.o xs)) else .bad
def sSetC (i : Nat) (m : List Dt → Rs Sl) (f : Env → Rs (List Dt)) : Sm := fun ρ => onR (f ρ) ρ fun ds => onR (m ds) ρ fun x => match x with
  | .u => .bad
  | .d y => .nx (ρ.set i (.d y))
  | .o ys => .nx (ρ.set i (.o ys))
def sPar (i j : Nat) (f : Env → Rs (List Dt)) : Sm := fun ρ => onR (f ρ) ρ fun ds => match ds with
  | [x, y] => .nx ((ρ.set i (.d x)).set j (.d y))
  | _ => .bad
def gt1 (i : Nat) : Dt → Env → Option Env := fun x ρ => some (ρ.set i (.d x))
def gt2 (i j : Nat) : Dt → Env → Option Env := fun x ρ => match x with
  | .tuple [x, y] => some ((ρ.set i (.d x)).set j (.d y))
  | _ => none
def gt3 (i j k : Nat) : Dt → Env → Option Env := fun x ρ => match x with
  | .tuple [x, y, z] => some (((ρ.set i (.d x)).set j (.d y)).set k (.d z))
  | _ => none
def sUnp (g : Dt → Env → Option Env) (f : Env → Rs Dt) : Sm := fun ρ => onR (f ρ) ρ fun x => onO (g x ρ) fun ρ' => .nx ρ'
def sAug (i : Nat) (g : Int → Int → Int) (f : Env → Rs Dt) : Sm := fun ρ => onR (vr i ρ) ρ fun x => onR (f ρ) ρ fun y => match x, y with
  | .int a, .int b => .nx (ρ.set i (.d (.int (g a b))))
  | _, _ => .bad
def sIf (t : Env → Rs Bool) (S T : Sm) : Sm := fun ρ => onR (t ρ) ρ fun b => if b = true then S ρ else T ρ
def sRet (f : Env → Rs Dt) : Sm := fun ρ => onR (f ρ) ρ fun x => .rt (.d x)
def sRetN : Sm := fun _ => .rt (.d .none)
def sRetO (i : Nat) : Sm := fun ρ => match ρ[i]? with
  | some (.o xs) => .rt (.o xs)
  | _ => .bad
def sExc (c : Str) : Sm := fun ρ => .ex c ρ
def sDrop (f : Env → Rs Dt) : Sm := fun ρ => onR (f ρ) ρ fun _ => .nx ρ
def sApp (i : Nat) (f : Env → Rs Dt) : Sm := fun ρ => match ρ[i]? with
  | some (.o xs) => onR (f ρ) ρ fun x => if xs.length ≤ lim then .nx (ρ.set i (.o (xs ++ [x]))) else .bad
  | _ => .bad
def sPut (i : Nat) (f g : Env → Rs Dt) : Sm := fun ρ => match ρ[i]? with
  | some (.o xs) => onR (f ρ) ρ fun x => onR (g ρ) ρ fun y => match y with
    | .int k => match ixN xs.length k with
      | some j => .nx (ρ.set i (.o (xs.set j x)))
      | none => .bad
    | _ => .bad
  | _ => .bad
def sBrk : Sm := fun ρ => .bk ρ
def sCnt : Sm := fun ρ => .ct ρ
/-- the list in slot i isn't changed any more -/
def sFrz (i : Nat) (S : Sm) : Sm := fun ρ => match ρ[i]? with
  | some (.o xs) => S (ρ.set i (.d (.list xs)))
  | _ => .bad
/-- a loop's body: what a turn leaves -/
def turnE (o : So) (k : Env → So) : So := match o with
  | .nx ρ => k ρ
  | .ct ρ => k ρ
  | .bk ρ => .nx ρ
  | .rt x => .rt x
  | .ex c ρ => .ex c ρ
  | .bad => .bad
@[simp] theorem turnE_nx (ρ : Env) (k : Env → So) : turnE (.nx ρ) k = k ρ := rfl
@[simp] theorem turnE_ct (ρ : Env) (k : Env → So) : turnE (.ct ρ) k = k ρ := rfl
@[simp] theorem turnE_bk (ρ : Env) (k : Env → So) : turnE (.bk ρ) k = .nx ρ := rfl
@[simp] theorem turnE_rt (x : Sl) (k : Env → So) : turnE (.rt x) k = .rt x := rfl
@[simp] theorem turnE_ex (c : Str) (ρ : Env) (k : Env → So) : turnE (.ex c ρ) k = .ex c ρ := rfl
@[simp] theorem turnE_bad (k : Env → So) : turnE .bad k = .bad := rfl
def forL (g : Dt → Env → Option Env) (S : Sm) : List Dt → Env → So
  | [], ρ => .nx ρ
  | x :: xs, ρ => onO (g x ρ) fun ρ1 => turnE (S ρ1) (forL g S xs)
def sFor (I : Env → Rs (List Dt)) (g : Dt → Env → Option Env) (S : Sm) : Sm := fun ρ => onR (I ρ) ρ fun xs => forL g S xs ρ
def whN (t : Env → Rs Bool) (S : Sm) : Nat → Env → So
  | 0, _ => .bad
  | n + 1, ρ => onR (t ρ) ρ fun b => if b = true then turnE (S ρ) (whN t S n) else .nx ρ
theorem turnE_grow {o : So} {k k' : Env → So} (h : ∀ ρ, k ρ ≠ .bad → k' ρ = k ρ) (hb : turnE o k ≠ .bad) : turnE o k' = turnE o k := by
  cases o <;> first | rfl | exact h _ hb
theorem whN_grow {t : Env → Rs Bool} {S : Sm} : ∀ (n : Nat) (ρ : Env), whN t S n ρ ≠ .bad → whN t S (n + 1) ρ = whN t S n ρ
  | 0, _, h => absurd rfl h
  | n + 1, ρ, h => by
    unfold whN at h ⊢
    cases e : t ρ with
    | bad => rfl
    | exc c => rfl
    | ok b =>
      rw [e] at h
      rw [onR_ok, onR_ok]
      rw [onR_ok] at h
      cases b with
      | false => rfl
      | true =>
        rw [if_pos rfl] at h ⊢
        rw [if_pos rfl]
        exact turnE_grow (fun ρ' hb => whN_grow n ρ' hb) h
theorem whN_more {t : Env → Rs Bool} {S : Sm} {n : Nat} {ρ : Env} (h : whN t S n ρ ≠ .bad) : ∀ k, whN t S (n + k) ρ = whN t S n ρ
  | 0 => rfl
  | k + 1 => by
    have e := whN_more h k
    rw [← e]
    exact whN_grow (n + k) ρ (by rw [e]; exact h)
open Classical in
noncomputable def sWh (t : Env → Rs Bool) (S : Sm) : Sm := fun ρ => if h : ∃ n, whN t S n ρ ≠ .bad then whN t S (Classical.choose h) ρ else .bad
theorem sWh_of {t : Env → Rs Bool} {S : Sm} {n : Nat} {ρ : Env} (h : whN t S n ρ ≠ .bad) : sWh t S ρ = whN t S n ρ := by
  have hx : ∃ n, whN t S n ρ ≠ .bad := ⟨n, h⟩
  unfold sWh
  rw [dif_pos hx]
  have h2 := Classical.choose_spec hx
  rcases Nat.le_total n (Classical.choose hx) with l | l
  · obtain ⟨k, e⟩ := Nat.exists_eq_add_of_le l
    rw [e, whN_more h k]
  · obtain ⟨k, e⟩ := Nat.exists_eq_add_of_le l
    have := whN_more h2 k
    rw [← e] at this
    exact this.symm
theorem sWh_ex {t : Env → Rs Bool} {S : Sm} {ρ : Env} (h : sWh t S ρ ≠ .bad) : ∃ n, whN t S n ρ = sWh t S ρ := by
  unfold sWh at h ⊢
  split at h
  · rename_i hx
    exact ⟨_, by rw [dif_pos hx]⟩
  · exact absurd rfl h
/-- one turn -/
theorem sWh_step {t : Env → Rs Bool} {S : Sm} {ρ : Env} : sWh t S ρ = onR (t ρ) ρ fun b => if b = true then turnE (S ρ) (sWh t S) else .nx ρ := by
  cases e : t ρ with
  | bad =>
    have : ∀ n, whN t S n ρ = .bad := fun n => by
      cases n with
      | zero => rfl
      | succ n => unfold whN; rw [e]; rfl
    unfold sWh
    rw [dif_neg (fun ⟨n, h⟩ => h (this n))]
    rfl
  | exc c =>
    have h1 : whN t S 1 ρ = .ex c ρ := by unfold whN; rw [e]; rfl
    rw [sWh_of (n := 1) (by rw [h1]; exact fun z => nomatch z), h1]
    rfl
  | ok b =>
    rw [onR_ok]
    cases b with
    | false =>
      have h1 : whN t S 1 ρ = .nx ρ := by unfold whN; rw [e]; rfl
      rw [sWh_of (n := 1) (by rw [h1]; exact fun z => nomatch z), h1]
      rfl
    | true =>
      rw [if_pos rfl]
      have st : ∀ n, whN t S (n + 1) ρ = turnE (S ρ) (whN t S n) := fun n => by
        rw [show whN t S (n + 1) ρ = onR (t ρ) ρ fun b => if b = true then turnE (S ρ) (whN t S n) else .nx ρ from rfl, e, onR_ok, if_pos rfl]
      by_cases hb : turnE (S ρ) (sWh t S) = .bad
      · rw [hb]
        unfold sWh
        rw [dif_neg]
        rintro ⟨n, h⟩
        cases n with
        | zero => exact h rfl
        | succ n =>
          rw [st] at h
          refine h ?_
          rw [← hb]
          exact (turnE_grow (fun ρ' hz => sWh_of hz) h).symm
      · have : ∃ n, turnE (S ρ) (whN t S n) = turnE (S ρ) (sWh t S) := by
          cases eS : S ρ with
          | nx ρ' =>
            rw [eS] at hb
            obtain ⟨n, hn⟩ := sWh_ex (show sWh t S ρ' ≠ .bad from hb)
            exact ⟨n, hn⟩
          | ct ρ' =>
            rw [eS] at hb
            obtain ⟨n, hn⟩ := sWh_ex (show sWh t S ρ' ≠ .bad from hb)
            exact ⟨n, hn⟩
          | bk ρ' => exact ⟨0, rfl⟩
          | rt x => exact ⟨0, rfl⟩
          | ex c ρ' => exact ⟨0, rfl⟩
          | bad => exact ⟨0, rfl⟩
        obtain ⟨n, hn⟩ := this
        rw [← hn, ← st]
        exact sWh_of (by rw [st, hn]; exact hb)

/-! ### their readings -/
def EndS (K : PySem.W.Frag) (mg : Str → Option Value) (W : WX) (F0 H0 F : Hp) (D : Ends) : So → Prop
  | .bad => False
  | .nx ρ' => ∀ σ' F' H', Same F F' → SL K mg F0 H0 F' H' σ' ρ' → D.nx σ' H'
  | .bk ρ' => ∀ σ' F' H', Same F F' → SL K mg F0 H0 F' H' σ' ρ' → D.bk σ' H'
  | .ct ρ' => ∀ σ' F' H', Same F F' → SL K mg F0 H0 F' H' σ' ρ' → D.ct σ' H'
  | .rt (.d x) => ∀ v σ' ρ' F' H', Same F F' → SL K mg F0 H0 F' H' σ' ρ' → Den K mg F' v x → D.rt v H'
  | .rt (.o xs) => ∀ a vs σ' ρ' F' H', Same F F' → SL K mg F0 H0 F' H' σ' ρ' → H0 a = none → F' a = none → H' a = some (.lst vs) → DenAll K mg F' vs xs → D.rt (.ref a) H'
  | .rt .u => False
  | .ex c ρ' => ∀ C σ' F' H', mg c = some (.ref C) → Same F F' → SL K mg F0 H0 F' H' σ' ρ' → W (.ref C) none σ' H'
def tS (K : PySem.W.Frag) (mg : Str → Option Value) (W : WX) (S : Sm) : TS := fun D σ H => ∃ F0 H0 F ρ, SL K mg F0 H0 F H σ ρ ∧ EndS K mg W F0 H0 F D (S ρ)
abbrev PSD (X : Cx) (W : WX) (st : Stmt) (S : Sm) : Prop := PS X st (tS X.K X.mg W S)
abbrev PSDs (X : Cx) (W : WX) (st : List Stmt) (S : Sm) : Prop := PSs X st (tS X.K X.mg W S)
section
variable {K : PySem.W.Frag} {mg : Str → Option Value} {W : WX} {F0 H0 F H F' H' : Hp} {σ : L2.St} {ρ : Env} {D D' : Ends} {o : So}
theorem EndS.mono (h : EndS K mg W F0 H0 F D o) (f : Same F F') : EndS K mg W F0 H0 F' D o := by
  cases o with
  | bad => exact h
  | nx ρ' => exact fun σ' F1 H1 a s => h σ' F1 H1 (f.trans a) s
  | bk ρ' => exact fun σ' F1 H1 a s => h σ' F1 H1 (f.trans a) s
  | ct ρ' => exact fun σ' F1 H1 a s => h σ' F1 H1 (f.trans a) s
  | rt x =>
    cases x with
    | u => exact h
    | d x => exact fun v σ' ρ' F1 H1 a s => h v σ' ρ' F1 H1 (f.trans a) s
    | o xs => exact fun v ws σ' ρ' F1 H1 a s => h v ws σ' ρ' F1 H1 (f.trans a) s
  | ex c ρ' => exact fun C σ' F1 H1 e a s => h C σ' F1 H1 e (f.trans a) s
/-- an expression within a statement -/
theorem tG.st {β α : Type} {R : Hp → β → α → Prop} {f : Env → Rs α} {k : α → So} {Q : β → Hp → Prop} (s : SL K mg F0 H0 F H σ ρ) (h : EndS K mg W F0 H0 F D (onR (f ρ) ρ k))
    (hk : ∀ b a F' H', Same F F' → Same H H' → SL K mg F0 H0 F' H' σ ρ → R F' b a → EndS K mg W F0 H0 F' D (k a) → Q b H') : tG K mg W R f σ H Q := by
  refine ⟨F0, H0, F, ρ, s, ?_⟩
  cases e : f ρ with
  | bad => rw [e] at h; exact h
  | exc c => rw [e] at h; exact fun C F1 H1 e1 a1 a2 s1 => h C σ F1 H1 e1 a1 s1
  | ok a =>
    rw [e] at h
    exact fun b F1 H1 a1 a2 s1 r => hk b a F1 H1 a1 a2.h s1 r (EndS.mono h a1)
/-- another end -/
theorem EndS.imp (h : EndS K mg W F0 H0 F D o) (nx : ∀ ρ', o = .nx ρ' → ∀ σ' F' H', Same F F' → SL K mg F0 H0 F' H' σ' ρ' → D'.nx σ' H') (rt : D'.rt = D.rt) (bk : D'.bk = D.bk) (ct : D'.ct = D.ct) : EndS K mg W F0 H0 F D' o := by
  cases o with
  | bad => exact h
  | nx ρ' => exact nx ρ' rfl
  | bk ρ' => exact fun σ' F1 H1 a s => by rw [bk]; exact h σ' F1 H1 a s
  | ct ρ' => exact fun σ' F1 H1 a s => by rw [ct]; exact h σ' F1 H1 a s
  | rt x =>
    cases x with
    | u => exact h
    | d x => exact fun v σ' ρ' F1 H1 a s r => by rw [rt]; exact h v σ' ρ' F1 H1 a s r
    | o xs => exact fun v ws σ' ρ' F1 H1 a s r1 r2 r3 r4 => by rw [rt]; exact h v ws σ' ρ' F1 H1 a s r1 r2 r3 r4
  | ex c ρ' => exact h
end

section
variable {X : Cx} {W : WX} {k : Nat} {e a b c : Expr} {es : List Expr} {st : Stmt} {sts body orelse : List Stmt} {f g : Env → Rs Dt} {fa : Env → Rs (List Dt)} {t : Env → Rs Bool} {S T : Sm} {pos pos' : Pos} {x y : Str}
theorem ds_nil : PSDs X W [] sNil := pssW pss_nil fun D σ H hh => by
  obtain ⟨F0, H0, F, ρ, s, q⟩ := hh
  exact q σ F H (Same.refl F) s
theorem ds_cons (h1 : PSD X W st S) (h2 : PSDs X W sts T) : PSDs X W (st :: sts) (sSeq S T) := pssW (pss_cons h1 h2) fun D σ H hh => by
  obtain ⟨F0, H0, F, ρ, s, q⟩ := hh
  refine ⟨F0, H0, F, ρ, s, ?_⟩
  unfold sSeq at q
  cases eo : S ρ with
  | nx ρ' => 
    rw [eo] at q
    exact fun σ' F' H' a1 s1 => ⟨F0, H0, F', ρ', s1, EndS.mono q a1⟩
  | bad => rw [eo] at q; exact q
  | rt x => rw [eo] at q; exact EndS.imp q (fun _ z => nomatch z) rfl rfl rfl
  | bk ρ' => rw [eo] at q; exact q
  | ct ρ' => rw [eo] at q; exact q
  | ex c ρ' => rw [eo] at q; exact q
theorem ds_one (h1 : PSD X W st S) : PSDs X W [st] S := pss_one h1
theorem ds_frz {i : Nat} (h : PSDs X W sts S) : PSDs X W sts (sFrz i S) := pssW h fun D σ H hh => by
  obtain ⟨F0, H0, F, ρ, s, q⟩ := hh
  unfold sFrz at q
  split at q
  · rename_i xs e
    obtain ⟨F', a1, s1⟩ := s.freeze e
    exact ⟨F0, H0, F', _, s1, EndS.mono q a1⟩
  · exact q.elim
theorem dd_pass : PSD X W (.Pass pos) sNil := psW ps_pass fun D σ H hh => by
  obtain ⟨F0, H0, F, ρ, s, q⟩ := hh
  exact q σ F H (Same.refl F) s
theorem dd_brk : PSD X W (.Break pos) sBrk := psW ps_break fun D σ H hh => by
  obtain ⟨F0, H0, F, ρ, s, q⟩ := hh
  exact q σ F H (Same.refl F) s
theorem dd_cnt : PSD X W (.Continue pos) sCnt := psW ps_continue fun D σ H hh => by
  obtain ⟨F0, H0, F, ρ, s, q⟩ := hh
  exact q σ F H (Same.refl F) s
theorem dd_drop (he : PD X W e f) (hs : swapsWith e none pos.line X.env = pure false := by rfl) : PSD X W (.Expr e pos) (sDrop f) := psW (ps_expr he hs) fun D σ H hh => by
  obtain ⟨F0, H0, F, ρ, s, q⟩ := hh
  refine tG.st s q fun v d F1 H1 f1 h1 s1 r1 q1 => ?_
  exact q1 σ F1 H1 (Same.refl F1) s1
theorem dd_ret (he : PD X W e f) : PSD X W (.Return (some e) pos) (sRet f) := psW (ps_ret he) fun D σ H hh => by
  obtain ⟨F0, H0, F, ρ, s, q⟩ := hh
  refine tG.st s q fun v d F1 H1 f1 h1 s1 r1 q1 => ?_
  exact q1 v σ ρ F1 H1 (Same.refl F1) s1 r1
theorem dd_retN : PSD X W (.Return none pos) sRetN := psW ps_retN fun D σ H hh => by
  obtain ⟨F0, H0, F, ρ, s, q⟩ := hh
  exact q .non σ ρ F H (Same.refl F) s .non
theorem dd_retO (i : Nat) {pos2 : Pos} (hN : X.N[i]? = some x := by rfl) (hv : Vis X.env.scope x := by first | exact Or.inl rfl | exact Or.inr (Or.inl rfl) | exact Or.inr (Or.inr rfl)) (hd : (x == ("__debug__" : Str)) = false := by decide)
    (hcd : (x == ("__classdict__" : Str)) = false := by decide) : PSD X W (.Return (some (.Name x pos2)) pos) (sRetO i) := psW (ps_ret (pe_var hN hv hd hcd)) fun D σ H hh => by
  obtain ⟨F0, H0, F, ρ, s, q⟩ := hh
  unfold sRetO at q
  split at q
  · rename_i xs e
    obtain ⟨a, vs, e1, e2, e3, e4, e5⟩ := s.ow i xs e
    exact ⟨.ref a, e1, q a vs σ ρ F H (Same.refl F) s e4 e3 e2 e5⟩
  · exact q.elim
theorem dd_if (hc : PTD X W c t) (ha : PSDs X W body S) (hb : PSDs X W orelse T) : PSD X W (.If c body orelse pos) (sIf t S T) := psW (ps_if hc ha hb) fun D σ H hh => by
  obtain ⟨F0, H0, F, ρ, s, q⟩ := hh
  refine tG.st s q fun v d F1 H1 f1 h1 s1 r1 q1 => ?_
  subst r1
  cases v with
  | true => exact ⟨F0, H0, F1, ρ, s1, q1⟩
  | false => exact ⟨F0, H0, F1, ρ, s1, q1⟩

/-! ### assignments -/
theorem dd_set (C : Ctx X W k) (i : Nat) (he : PD X W e f) (hi : X.N[i]? = some x := by rfl) (hx : Loc X.env.scope x := by first | exact Or.inl rfl | exact Or.inr rfl) (hs : swapsWith e (some (.Name x pos')) pos.line X.env = pure false := by rfl) (hf : X.fn x = true ∨ X.env.scope.names.lookup x = some .local := by first | exact .inl rfl | exact .inr rfl) :
    PSD X W (.Assign [.Name x pos'] e pos) (sSet i f) := psW (ps_set C.nd hi hx he hs hf) fun D σ H hh => by
  obtain ⟨F0, H0, F, ρ, s, q⟩ := hh
  refine tG.st s q fun v d F1 H1 f1 h1 s1 r1 q1 => ?_
  exact q1 _ F1 H1 (Same.refl F1) (s1.setD r1)
/-- x = [..], a list that is changed later -/
theorem dd_setO (C : Ctx X W k) (i : Nat) {pl : Pos} (he : PAD X W es fa) (hi : X.N[i]? = some x := by rfl) (hx : Loc X.env.scope x := by first | exact Or.inl rfl | exact Or.inr rfl) (hs : swapsWith (.List es pl) (some (.Name x pos')) pos.line X.env = pure false := by rfl) (hf : X.fn x = true ∨ X.env.scope.names.lookup x = some .local := by first | exact .inl rfl | exact .inr rfl) :
    PSD X W (.Assign [.Name x pos'] (.List es pl) pos) (sSetO i fa) := psW (ps_set C.nd hi hx (pe_lst he) hs hf) fun D σ H hh => by
  obtain ⟨F0, H0, F, ρ, s, q⟩ := hh
  refine tG.st s q fun vs ds F1 H1 f1 h1 s1 r1 q1 => ?_
  by_cases hl : ds.length ≤ lim
  · rw [if_pos hl] at q1
    refine ⟨by rw [r1.length]; exact lim_ok hl, fun p hp => ?_⟩
    have s2 := s1.newH (o := .lst vs) hp
    exact q1 _ F1 (upd H1 p (.lst vs)) (Same.refl F1) (s2.setO (by exact upd_same) (s1.freeF hp) (s1.free0 hp) r1 fun j ys ej e => by
      obtain ⟨b, ws, z1, z2, _⟩ := s1.ow j ys ej
      rw [e] at z1
      cases z1
      rw [hp] at z2
      cases z2)
  · rw [if_neg hl] at q1
    exact q1.elim
/-- x = f(..), a list that is changed later -/
theorem dd_setC (C : Ctx X W k) (i : Nat) {n j : Nat} {m : List Dt → Rs Sl} {fn : Str} {p pc : Pos} (Df : DefOk X.prog X.w X.K X.mg X.base j fn n m) (hj : j ≤ k) (hn : ∀ ds, m ds ≠ .bad → ds.length = n) (ha : PAD X W (e :: es) fa) (hi : X.N[i]? = some x := by rfl) (hx : Loc X.env.scope x := by first | exact Or.inl rfl | exact Or.inr rfl)
    (hs : swapsWith (.Call (.Name fn p) (e :: es) [] pc) (some (.Name x pos')) pos.line X.env = pure false := by rfl) (hf : X.fn x = true ∨ X.env.scope.names.lookup x = some .local := by first | exact .inl rfl | exact .inr rfl) (hg : Gl X fn := by rfl) (hdb : (fn == ("__debug__" : Str)) = false := by decide)
    (he : starEach (e :: es) X.env = (false, eval e X.env) :: starEach es X.env := by rfl) (hpl : (backTo pc (starEach es X.env)).any (·.1) = false := by rfl) :
    PSD X W (.Assign [.Name x pos'] (.Call (.Name fn p) (e :: es) [] pc) pos) (sSetC i m fa) := psW (ps_set C.nd hi hx (pe_def C Df hj ha hg hdb he hpl) hs hf) fun D σ H hh => by
  obtain ⟨F0, H0, F, ρ, s, q⟩ := hh
  refine tG.st s q fun vs ds F1 H1 f1 h1 s1 r1 q1 => ?_
  have nb : m ds ≠ .bad := fun z => by rw [z] at q1; exact q1.elim
  refine ⟨by rw [r1.length]; exact hn ds nb, F1, ds, s1.fh, r1, ?_⟩
  cases em : m ds with
  | bad => exact absurd em nb
  | exc c =>
    rw [em] at q1
    exact fun Ca F' H' e1 a1 a2 a3 a4 => q1 Ca σ F' H' e1 a1 (s1.grow a1 a2 a3 a4)
  | ok sl =>
    rw [em] at q1
    cases sl with
    | d x => exact fun v F' H' a1 a2 a3 a4 r => q1 _ F' H' a1 ((s1.grow a1 a2 a3 a4).setD r)
    | o xs =>
      intro a ws F' H' a1 a2 a3 a4 na nF ea da
      have s2 := s1.grow a1 a2 a3 a4
      refine q1 _ F' H' a1 (s2.setO ea nF (s1.free0 na) da fun j ys ej e => ?_)
      obtain ⟨b, us, z1, z2, _⟩ := s1.ow j ys ej
      rw [e] at z1
      cases z1
      rw [na] at z2
      cases z2
    | u => exact q1.elim
theorem dd_par (C : Ctx X W k) (i j : Nat) {px py pt : Pos} {kt k2 pt2} (ha : PAD X W [a, b] fa) (hi : X.N[i]? = some x := by rfl) (hj : X.N[j]? = some y := by rfl) (hij : i ≠ j := by decide)
    (hx : X.env.scope.names.lookup x = some .local := by rfl) (hy : X.env.scope.names.lookup y = some .local := by rfl)
    (hw : swappedStores [.Tuple [.Name x px, .Name y py] kt pt] (.Tuple [a, b] k2 pt2) X.env = pure (some [x, y]) := by rfl)
    (hs : swapsWithSole [.Tuple [.Name x px, .Name y py] kt pt] (.Tuple [a, b] k2 pt2) pos.line X.env = pure false := by rfl) :
    PSD X W (.Assign [.Tuple [.Name x px, .Name y py] kt pt] (.Tuple [a, b] k2 pt2) pos) (sPar i j fa) := psW (ps_par C.calm C.nd hi hj hij hx hy ha hw hs) fun D σ H hh => by
  obtain ⟨F0, H0, F, ρ, s, q⟩ := hh
  refine tG.st s q fun vs ds F1 H1 f1 h1 s1 r1 q1 => ?_
  split at q1
  · cases r1 with
    | cons r2 r1 =>
      cases r1 with
      | cons r3 r1 =>
        cases r1
        exact ⟨_, _, rfl, q1 _ F1 H1 (Same.refl F1) ((s1.setD r2).setD r3)⟩
  · exact q1.elim
/-! targets -/
def tGt (K : PySem.W.Frag) (mg : Str → Option Value) (G : Dt → Env → Option Env) : TG := fun v σ H Q => ∃ F0 H0 F ρ x ρ', SL K mg F0 H0 F H σ ρ ∧ Den K mg F v x ∧ G x ρ = some ρ' ∧ ∀ σ', SL K mg F0 H0 F H σ' ρ' → Q σ' H
abbrev PGD (X : Cx) (tg : Expr) (G : Dt → Env → Option Env) : Prop := PG X tg (tGt X.K X.mg G)
theorem pgW {tg : Expr} {t t' : TG} (h : PG X tg t) (i : ∀ v σ H Q, t' v σ H Q → t v σ H Q) : PG X tg t' := ⟨fun pins s σ H v u Q I r q => h.run pins s σ H v u Q I r (i _ _ _ _ q)⟩
theorem gd_1 (nd : X.N.Nodup) (i : Nat) (hi : X.N[i]? = some x := by rfl) (hx : Loc X.env.scope x := by first | exact Or.inl rfl | exact Or.inr rfl) (hf : X.fn x = true ∨ X.env.scope.names.lookup x = some .local := by first | exact .inl rfl | exact .inr rfl) : PGD X (.Name x pos) (gt1 i) := pgW (pg_name nd hi hx hf) fun v σ H Q hh => by
  obtain ⟨F0, H0, F, ρ, d, ρ', s, r, e, q⟩ := hh
  cases e
  exact q _ (s.setD r)
theorem gd_2 (nd : X.N.Nodup) (hc : X.calm = true) (i j : Nat) {kk : Nat} {p1 p2 : Pos} (hi : X.N[i]? = some x := by rfl) (hx : Loc X.env.scope x := by first | exact Or.inl rfl | exact Or.inr rfl) (hf : X.fn x = true ∨ X.env.scope.names.lookup x = some .local := by first | exact .inl rfl | exact .inr rfl)
    (hj : X.N[j]? = some y := by rfl) (hy : Loc X.env.scope y := by first | exact Or.inl rfl | exact Or.inr rfl) (hf2 : X.fn y = true ∨ X.env.scope.names.lookup y = some .local := by first | exact .inl rfl | exact .inr rfl) : PGD X (.Tuple [.Name x p1, .Name y p2] kk pos) (gt2 i j) :=
  pgW (pg_tup hc (pgs_cons (pg_name nd hi hx hf) (pgs_cons (pg_name nd hj hy hf2) pgs_nil))) fun v σ H Q hh => by
    obtain ⟨F0, H0, F, ρ, d, ρ', s, r, e, q⟩ := hh
    unfold gt2 at e
    split at e
    · cases e
      obtain ⟨a, xs, rfl, ha, da⟩ := den_tup r
      cases da with
      | cons r1 da =>
        cases da with
        | cons r2 da =>
          cases da
          exact ⟨a, _, rfl, sameT s.fh ha, rfl, _, _, rfl, _, _, rfl, rfl, q _ ((s.setD r1).setD r2)⟩
    · cases e
theorem gd_3 (nd : X.N.Nodup) (hc : X.calm = true) (i j l : Nat) {z : Str} {kk : Nat} {p1 p2 p3 : Pos} (hi : X.N[i]? = some x := by rfl) (hx : Loc X.env.scope x := by first | exact Or.inl rfl | exact Or.inr rfl) (hf : X.fn x = true ∨ X.env.scope.names.lookup x = some .local := by first | exact .inl rfl | exact .inr rfl)
    (hj : X.N[j]? = some y := by rfl) (hy : Loc X.env.scope y := by first | exact Or.inl rfl | exact Or.inr rfl) (hf2 : X.fn y = true ∨ X.env.scope.names.lookup y = some .local := by first | exact .inl rfl | exact .inr rfl)
    (hl : X.N[l]? = some z := by rfl) (hz : Loc X.env.scope z := by first | exact Or.inl rfl | exact Or.inr rfl) (hf3 : X.fn z = true ∨ X.env.scope.names.lookup z = some .local := by first | exact .inl rfl | exact .inr rfl) : PGD X (.Tuple [.Name x p1, .Name y p2, .Name z p3] kk pos) (gt3 i j l) :=
  pgW (pg_tup hc (pgs_cons (pg_name nd hi hx hf) (pgs_cons (pg_name nd hj hy hf2) (pgs_cons (pg_name nd hl hz hf3) pgs_nil)))) fun v σ H Q hh => by
    obtain ⟨F0, H0, F, ρ, d, ρ', s, r, e, q⟩ := hh
    unfold gt3 at e
    split at e
    · cases e
      obtain ⟨a, xs, rfl, ha, da⟩ := den_tup r
      cases da with
      | cons r1 da =>
        cases da with
        | cons r2 da =>
          cases da with
          | cons r3 da =>
            cases da
            exact ⟨a, _, rfl, sameT s.fh ha, rfl, _, _, rfl, _, _, rfl, _, _, rfl, rfl, q _ (((s.setD r1).setD r2).setD r3)⟩
    · cases e
theorem dd_unp {tg : Expr} {G : Dt → Env → Option Env} (he : PD X W e f) (hg : PGD X tg G) (hs : swapsWithSole [tg] e pos.line X.env = pure false := by rfl) (hw : swappedStores [tg] e X.env = pure none := by rfl)
    (h1 : (assignEach [tg] X.env).map (·.2) = [assign tg X.env] := by rfl) : PSD X W (.Assign [tg] e pos) (sUnp G f) := psW (ps_asg he hg hs hw h1) fun D σ H hh => by
  obtain ⟨F0, H0, F, ρ, s, q⟩ := hh
  refine tG.st s q fun v d F1 H1 f1 h1 s1 r1 q1 => ?_
  cases eg : G d ρ with
  | none => rw [eg] at q1; exact q1.elim
  | some ρ' =>
    rw [eg] at q1
    exact ⟨F0, H0, F1, ρ, d, ρ', s1, r1, eg, fun σ' s2 => q1 σ' F1 H1 (Same.refl F1) s2⟩
theorem dd_aug (C : Ctx X W k) (i : Nat) {op : Operator} {g' : Int → Int → Int} (ho : PIp X op (ipI g')) (he : PD X W e f) (hi : X.N[i]? = some x := by rfl) (hx : Loc X.env.scope x := by first | exact Or.inl rfl | exact Or.inr rfl) (hf : X.fn x = true ∨ X.env.scope.names.lookup x = some .local := by first | exact .inl rfl | exact .inr rfl) :
    PSD X W (.AugAssign (.Name x pos') op e pos) (sAug i g' f) := psW (ps_aug C.nd hi hx he ho hf) fun D σ H hh => by
  obtain ⟨F0, H0, F, ρ, s, q⟩ := hh
  unfold sAug at q
  cases ev : vr i ρ with
  | bad => rw [ev] at q; exact q.elim
  | exc c =>
    unfold vr at ev
    split at ev <;> cases ev
  | ok d =>
    rw [ev] at q
    have er : ρ[i]? = some (.d d) := by
      unfold vr at ev
      split at ev
      · rename_i z ez
        cases ev
        exact ez
      · cases ev
    obtain ⟨v, e1, r0⟩ := s.sl i d er
    refine ⟨v, e1, tG.st s q fun w y F1 H1 f1 h1 s1 r1 q1 => ?_⟩
    cases d <;> first | exact q1.elim | skip
    cases y <;> first | exact q1.elim | skip
    obtain rfl := den_int (X := X) r0
    obtain rfl := den_int (X := X) r1
    exact ⟨_, _, rfl, rfl, q1 _ F1 H1 (Same.refl F1) (s1.setD (.int _))⟩
/-- x.append(e) -/
theorem dd_app (i : Nat) {pc pa pv' : Pos} (he : PD X W e f)
    (hb : PE X (.Call (.Attribute (.Name x pv') "append" pa) [e] [] pc) (tBM X.K "list" rAppend (tVar i) (tCons (tD X.K X.mg W f) tNil))) (hs : swapsWith (.Call (.Attribute (.Name x pv') "append" pa) [e] [] pc) none pos.line X.env = pure false := by rfl) :
    PSD X W (.Expr (.Call (.Attribute (.Name x pv') "append" pa) [e] [] pc) pos) (sApp i f) := psW (ps_expr hb hs) fun D σ H hh => by
  obtain ⟨F0, H0, F, ρ, s, q⟩ := hh
  unfold sApp at q
  split at q
  · rename_i xs ei
    obtain ⟨a, vs, e1, e2, e3, e4, e5⟩ := s.ow i xs ei
    refine ⟨.ref a, e1, .inl ⟨rfl, _, SqL.of e2⟩, ?_⟩
    refine tG.st s q fun w y F1 H1 f1 h1 s1 r1 q1 => ?_
    have e2' := h1 _ _ e2
    have e3' : F1 a = none := by
      obtain ⟨b, us, z1, z2, z3, _⟩ := s1.ow i xs ei
      rw [e1] at z1
      cases z1
      exact z3
    by_cases hl : xs.length ≤ lim
    · rw [if_pos hl] at q1
      refine ⟨a, vs, w, rfl, rfl, e2', by rw [e5.length]; exact lim_lt hl, ?_⟩
      exact q1 σ F1 _ (Same.refl F1) (s1.write ei e1 e3' e4 ((DenAll.mono f1 _ _ e5).append (.one r1)))
    · rw [if_neg hl] at q1
      exact q1.elim
  · exact q.elim
/-- x[g] = e -/
theorem dd_put (i : Nat) {ps pv' : Pos} (hN : X.N[i]? = some x := by rfl) (hv : Vis X.env.scope x := by first | exact Or.inl rfl | exact Or.inr (Or.inl rfl) | exact Or.inr (Or.inr rfl)) (he : PD X W e f) (hb : PD X W b g)
    (hs : swapsWithSole [.Subscript (.Name x pv') b ps] e pos.line X.env = pure false := by rfl) (hw : swappedStores [.Subscript (.Name x pv') b ps] e X.env = pure none := by rfl)
    (h1 : (assignEach [.Subscript (.Name x pv') b ps] X.env).map (·.2) = [assign (.Subscript (.Name x pv') b ps) X.env] := by rfl)
    (ha : ∀ v, assign (.Subscript (.Name x pv') b ps) X.env v = (do
      let ov ← holding [v] (eval (.Name x pv') X.env)
      let iv ← holding [v, ov] (eval b X.env)
      standAt ps
      holding [v, ov, iv] (setItem ov iv v)
      release [v, ov, iv] []) := by intro _; rfl) (hd : (x == ("__debug__" : Str)) = false := by decide) (hcd : (x == ("__classdict__" : Str)) = false := by decide) :
    PSD X W (.Assign [.Subscript (.Name x pv') b ps] e pos) (sPut i f g) := psW (ps_asg he (pg_sub (pe_var hN hv hd hcd) hb set_list ha) hs hw h1) fun D σ H hh => by
  obtain ⟨F0, H0, F, ρ, s, q⟩ := hh
  unfold sPut at q
  split at q
  · rename_i xs ei
    obtain ⟨a, vs, e1, e2, e3, e4, e5⟩ := s.ow i xs ei
    refine tG.st s q fun w y F1 H1 f1 h1 s1 r1 q1 => ⟨.ref a, e1, ?_⟩
    refine tG.st s1 q1 fun w2 y2 F2 H2 f2 h2 s2 r2 q2 => ?_
    cases y2 with
    | int kk =>
      obtain rfl := den_int (X := X) r2
      cases ej : ixN xs.length kk with
      | none =>
        simp only [ej] at q2
        exact q2.elim
      | some j =>
      simp only [ej] at q2
      have e3' : F2 a = none := by
        obtain ⟨b, us, z1, z2, z3, _⟩ := s2.ow i xs ei
        rw [e1] at z1
        cases z1
        exact z3
      refine ⟨a, vs, kk, j, rfl, rfl, h2 _ _ (h1 _ _ e2), by rw [e5.length]; exact ej, ?_⟩
      exact q2 σ F2 _ (Same.refl F2) (s2.write ei e1 e3' e4 (DenAll.set _ (Den.mono f2 _ _ r1) (DenAll.mono (f1.trans f2) _ _ e5)))
    | _ => exact q2.elim
  · exact q.elim
/-- an item of a list of ours; whether it isn't [] -/
theorem pd_owI (i : Nat) {pv' : Pos} (hb : PD X W b g) (hs : PlainIx b := by exact fun _ _ => rfl) (hN : X.N[i]? = some x := by rfl) (hv : Vis X.env.scope x := by first | exact Or.inl rfl | exact Or.inr (Or.inl rfl) | exact Or.inr (Or.inr rfl)) (hd : (x == ("__debug__" : Str)) = false := by decide)
    (hcd : (x == ("__classdict__" : Str)) = false := by decide) : PD X W (.Subscript (.Name x pv') b pos) (owI i g) := peW (pe_ix ix_list (pe_var hN hv hd hcd) hb hs) fun σ H Q hh => by
  obtain ⟨F0, H0, F, ρ, s, q⟩ := hh
  unfold owI at q
  split at q
  · rename_i xs ei
    obtain ⟨a, vs, e1, e2, e3, e4, e5⟩ := s.ow i xs ei
    refine ⟨.ref a, e1, tG.seq s q fun w y F1 H1 f1 h1 s1 r1 q1 => ?_⟩
    cases y with
    | int kk =>
      obtain rfl := den_int (X := X) r1
      obtain ⟨d, ed, q1⟩ := ofO_e q1
      obtain ⟨v, ev, rv⟩ := atI_den (DenAll.mono f1 _ _ e5) ed
      exact ⟨a, vs, kk, v, rfl, rfl, SqL.of (h1.h _ _ e2), ev, EndG.here q1 s1 rv⟩
    | _ => exact q1.elim
  · exact q.elim
/-- raise C('..') -/
structure RaiseOk (X : Cx) (c : Str) : Prop where
  ex : ∃ C : Addr, X.mg c = some (.ref C) ∧ PySem.W.excIn X.K C [.type "ValueError", .type "Exception", .type "BaseException", .type "object"] "ValueError.__new__" = true ∧ PySem.W.keepIn X.K (.ref C) = true ∧ Raises X (.ref C)
theorem dd_raise (C : Ctx X W k) {m : Str} {j : Nat} {p p2 pc : Pos} (hr : RaiseOk X x) (hg : Gl X x := by rfl) (hdb : (x == ("__debug__" : Str)) = false := by decide) : PSD X W (.Raise (some (.Call (.Name x p) [.Constant (.str m) j p2] [] pc)) none pos) (sExc x) := by
  obtain ⟨Ca, h1, h2, h3, h4⟩ := hr
  exact psW (ps_raise C.calm C.tk (pmk_own PySem.F.excBase_ValueError h2 h1 h3 h4 hg hdb)) fun D σ H hh => by
    obtain ⟨F0, H0, F, ρ, s, q⟩ := hh
    exact q Ca σ F H h1 (Same.refl F) s

/-! ### loops -/
theorem onR_ne {α : Type} {r : Rs α} {ρ : Env} {k : α → So} (h : EndS X.K X.mg W F0 H0 F D (onR r ρ k)) : r ≠ .bad := fun z => by rw [z] at h; exact h
theorem turn_end {F0 H0 F : Hp} {D : Ends} {o : So} {kk : Env → So} {N : L2.St → Hp → Prop} (h : EndS X.K X.mg W F0 H0 F D (turnE o kk)) (hN : ∀ ρ' σ' F' H', Same F F' → SL X.K X.mg F0 H0 F' H' σ' ρ' → EndS X.K X.mg W F0 H0 F' D (kk ρ') → N σ' H') :
    EndS X.K X.mg W F0 H0 F { D with nx := N, ct := N, bk := D.nx } o := by
  cases o with
  | bad => exact h
  | nx ρ' => exact fun σ' F' H' a1 s1 => hN ρ' σ' F' H' a1 s1 (EndS.mono h a1)
  | ct ρ' => exact fun σ' F' H' a1 s1 => hN ρ' σ' F' H' a1 s1 (EndS.mono h a1)
  | bk ρ' => exact h
  | rt x => cases x <;> exact h
  | ex c ρ' => exact h
theorem dd_wh (C : Ctx X W k) (hc : PTD X W c t) (hb : PSDs X W body S) : PSD X W (.While c body [] pos) (sWh t S) := psW (ps_while C.po hc hb) fun D σ H hh => by
  obtain ⟨F0, H0, F, ρ, s, q⟩ := hh
  have nb : sWh t S ρ ≠ .bad := fun z => by rw [z] at q; exact q
  obtain ⟨n, en⟩ := sWh_ex nb
  refine ⟨fun m σ' H' => ∃ F' ρ', SL X.K X.mg F0 H0 F' H' σ' ρ' ∧ EndS X.K X.mg W F0 H0 F' D (whN t S m ρ'), ⟨n, F, ρ, s, by rw [en]; exact q⟩, ?_⟩
  rintro m σ' H' ⟨F', ρ', s', q'⟩
  cases m with
  | zero => exact q'.elim
  | succ m =>
    refine tG.st s' q' fun b b' F1 H1 f1 h1 s1 r1 q1 => ?_
    subst r1
    cases b with
    | false => exact q1 σ' F1 H1 (Same.refl F1) s1
    | true =>
      have q1 : EndS X.K X.mg W F0 H0 F1 D (turnE (S ρ') (whN t S m)) := q1
      refine ⟨fun σ2 H2 => ∃ F2 ρ2, SL X.K X.mg F0 H0 F2 H2 σ2 ρ2 ∧ EndS X.K X.mg W F0 H0 F2 D (whN t S m ρ2), fun σ2 H2 h2 => ⟨m, Nat.lt_succ_self m, h2⟩, ?_⟩
      exact ⟨F0, H0, F1, ρ', s1, turn_end q1 fun ρ2 σ2 F2 H2 a2 s2 q2 => ⟨F2, ρ2, s2, q2⟩⟩
/-- what a loop walks: the items, as data -/
structure ItOk (K : PySem.W.Frag) (mg : Str → Option Value) (J : It) (F : Hp) (ds : List Dt) : Prop where
  stop : ∀ F1 H1 i, Same F F1 → Same F1 H1 → ds.length ≤ i → J.stop i H1
  go : ∀ F1 H1 i d, Same F F1 → Same F1 H1 → ds[i]? = some d → J.go i H1 ∧ ∀ x H2, J.yld i H1 x H2 → ∃ F2, Same F1 F2 ∧ Same H1 H2 ∧ Same F2 H2 ∧ (∀ a o, F2 a = some o → F1 a = some o ∨ H1 a = none) ∧ Den K mg F2 x d
def tIt (K : PySem.W.Frag) (mg : Str → Option Value) (W : WX) (I : Env → Rs (List Dt)) : TI := tG K mg W (fun F J ds => ItOk K mg J F ds) I
end
end Sb
set_option Elab.async false
set_option linter.all false
set_option maxRecDepth 100000
set_option maxHeartbeats 4000000
/-! Sb6: for, comprehensions, the defs themselves. -/
namespace Sb
open PySem L2
section
variable {X : Cx} {W : WX} {k : Nat} {e e2 a b c tg iter : Expr} {es : List Expr} {st : Stmt} {sts body orelse : List Stmt} {f g : Env → Rs Dt} {fa : Env → Rs (List Dt)} {t : Env → Rs Bool} {S T : Sm} {pos pos' p : Pos} {x y : Str}

/-! ### what is walked -/
theorem same_lst {F H : Hp} {a : Addr} {vs : List V} (s : Same F H) (h : F a = some (.lst vs)) : SqL X.K H a vs := SqL.of (s _ _ h)
theorem sq_uniq {K : PySem.W.Frag} {H : Hp} {a : Addr} {xs ys : List V} (h : H a = some (.lst xs)) (h' : SqL K H a ys) (i : Nat) (z : V) (e : xs[i]? = some z) : True := trivial
theorem it_list {K : PySem.W.Frag} {mg : Str → Option Value} {F : Hp} {a : Addr} {vs : List V} {ds : List Dt} (h : F a = some (.lst vs)) (r : DenAll K mg F vs ds) : ItOk K mg (Itl K a) F ds where
  stop := fun F1 H1 i f1 s1 hi => ⟨vs, SqL.of (s1 _ _ (f1 _ _ h)), by rw [r.length]; exact hi⟩
  go := fun F1 H1 i d f1 s1 e => by
    obtain ⟨v, ev, rv⟩ := r.get e
    refine ⟨⟨vs, v, SqL.of (s1 _ _ (f1 _ _ h)), ev⟩, ?_⟩
    rintro x H2 ⟨rfl, hx⟩
    have ex : x = v := Option.some.inj ((hx vs (SqL.of (s1 _ _ (f1 _ _ h)))).symm.trans ev)
    subst ex
    exact ⟨F1, Same.refl F1, Same.refl _, s1, fun a o z => .inl z, Den.mono f1 _ _ rv⟩
theorem it_tup {K : PySem.W.Frag} {mg : Str → Option Value} {F : Hp} {a : Addr} {vs : List V} {ds : List Dt} (h : SqT K F a vs) (r : DenAll K mg F vs ds) : ItOk K mg (Itt K a) F ds where
  stop := fun F1 H1 i f1 s1 hi => ⟨vs, sameT s1 (sameT f1 h), by rw [r.length]; exact hi⟩
  go := fun F1 H1 i d f1 s1 e => by
    obtain ⟨v, ev, rv⟩ := r.get e
    refine ⟨⟨vs, v, sameT s1 (sameT f1 h), ev⟩, ?_⟩
    rintro x H2 ⟨rfl, hx⟩
    have ex : x = v := Option.some.inj ((hx vs (sameT s1 (sameT f1 h))).symm.trans ev)
    subst ex
    exact ⟨F1, Same.refl F1, Same.refl _, s1, fun a o z => .inl z, Den.mono f1 _ _ rv⟩
def rngL (lo : Int) (n : Nat) : List Dt := (List.range n).map fun i => PyData.int (lo + (i : Nat))
theorem it_rng {K : PySem.W.Frag} {mg : Str → Option Value} {F : Hp} {lo : Int} {n : Nat} : ItOk K mg (Itr lo n) F (rngL lo n) where
  stop := fun F1 H1 i f1 s1 hi => by unfold rngL at hi; rw [List.length_map, List.length_range] at hi; exact hi
  go := fun F1 H1 i d f1 s1 e => by
    unfold rngL at e
    rw [List.getElem?_map] at e
    by_cases hi : i < n
    · rw [List.getElem?_range hi] at e
      cases e
      refine ⟨hi, ?_⟩
      rintro x H2 ⟨rfl, rfl⟩
      exact ⟨F1, Same.refl F1, Same.refl _, s1, fun a o z => .inl z, .int _⟩
    · rw [List.getElem?_eq_none (by rw [List.length_range]; omega)] at e
      cases e
def strL (z : Str) : List Dt := z.cps.toList.map fun c => PyData.str ⟨#[c]⟩
theorem it_str {K : PySem.W.Frag} {mg : Str → Option Value} {F : Hp} {z : Str} : ItOk K mg (Its z) F (strL z) where
  stop := fun F1 H1 i f1 s1 hi => by unfold strL at hi; rw [List.length_map, Array.length_toList] at hi; exact hi
  go := fun F1 H1 i d f1 s1 e => by
    unfold strL at e
    rw [List.getElem?_map, Array.getElem?_toList] at e
    cases ec : z.cps[i]? with
    | none => rw [ec] at e; cases e
    | some c =>
      rw [ec] at e
      cases e
      refine ⟨(Array.getElem?_eq_some_iff.mp ec).1, ?_⟩
      rintro x H2 ⟨rfl, c', e', rfl⟩
      rw [ec] at e'
      cases e'
      exact ⟨F1, Same.refl F1, Same.refl _, s1, fun a o z => .inl z, .str _⟩
def zipL : List Dt → List Dt → List Dt
  | x :: xs, y :: ys => .tuple [x, y] :: zipL xs ys
  | _, _ => []
theorem zipL_len : ∀ xs ys : List Dt, (zipL xs ys).length = min xs.length ys.length
  | [], _ => by simp [zipL]
  | _ :: _, [] => by simp [zipL]
  | _ :: xs, _ :: ys => by simp [zipL, zipL_len xs ys]
theorem zipL_get : ∀ (xs ys : List Dt) (i : Nat) (d : Dt), (zipL xs ys)[i]? = some d → ∃ x y, xs[i]? = some x ∧ ys[i]? = some y ∧ d = .tuple [x, y]
  | [], _, _, _, e => by simp [zipL] at e
  | _ :: _, [], _, _, e => by simp [zipL] at e
  | x :: xs, y :: ys, 0, d, e => ⟨x, y, rfl, rfl, by simpa [zipL] using e.symm⟩
  | x :: xs, y :: ys, i + 1, d, e => by simpa [zipL] using zipL_get xs ys i d (by simpa [zipL] using e)
theorem it_new {K : PySem.W.Frag} {mg : Str → Option Value} {F1 H1 : Hp} {T : Addr} {ws : List V} {ds : List Dt} (s1 : Same F1 H1) (hT : H1 T = none) (r : DenAll K mg F1 ws ds) :
    ∃ F2, Same F1 F2 ∧ Same H1 (upd H1 T (.tup ws)) ∧ Same F2 (upd H1 T (.tup ws)) ∧ (∀ a o, F2 a = some o → F1 a = some o ∨ H1 a = none) ∧ Den K mg F2 (.ref T) (.tuple ds) := by
  have hF : F1 T = none := s1.free hT
  refine ⟨upd F1 T (.tup ws), same_new hF, same_new hT, same_upd s1, fun a o z => ?_, .tup (SqT.of upd_same) (DenAll.mono (same_new hF) _ _ r)⟩
  by_cases ha : a = T
  · subst ha; exact .inr hT
  · rw [upd_ne ha] at z; exact .inl z
theorem it_zip {K : PySem.W.Frag} {mg : Str → Option Value} {F : Hp} {a b : Addr} {vs ws : List V} {ds es : List Dt} (h : F a = some (.lst vs)) (r : DenAll K mg F vs ds) (h' : F b = some (.lst ws)) (r' : DenAll K mg F ws es) : ItOk K mg (Itz K a b) F (zipL ds es) where
  stop := fun F1 H1 i f1 s1 hi => ⟨vs, ws, SqL.of (s1 _ _ (f1 _ _ h)), SqL.of (s1 _ _ (f1 _ _ h')), by rw [zipL_len] at hi; rw [r.length, r'.length]; omega⟩
  go := fun F1 H1 i d f1 s1 e => by
    obtain ⟨x, y, ex, ey, rfl⟩ := zipL_get _ _ _ _ e
    obtain ⟨v, ev, rv⟩ := r.get ex
    obtain ⟨w, ew, rw'⟩ := r'.get ey
    have l1 : SqL K H1 a vs := SqL.of (s1 _ _ (f1 _ _ h))
    have l2 : SqL K H1 b ws := SqL.of (s1 _ _ (f1 _ _ h'))
    refine ⟨⟨vs, ws, v, w, l1, l2, ev, ew⟩, ?_⟩
    rintro z H2 ⟨T, v', w', rfl, hT, rfl, q1, q2⟩
    obtain rfl : v' = v := Option.some.inj ((q1 _ l1).symm.trans ev)
    obtain rfl : w' = w := Option.some.inj ((q2 _ l2).symm.trans ew)
    exact it_new s1 hT (.cons (Den.mono f1 _ _ rv) (.cons (Den.mono f1 _ _ rw') .nil))
def enuL : Nat → List Dt → List Dt
  | _, [] => []
  | i, x :: xs => .tuple [.int (i : Nat), x] :: enuL (i + 1) xs
theorem enuL_len : ∀ (i : Nat) (xs : List Dt), (enuL i xs).length = xs.length
  | _, [] => rfl
  | i, _ :: xs => by simp [enuL, enuL_len (i + 1) xs]
theorem enuL_get : ∀ (j : Nat) (xs : List Dt) (i : Nat) (d : Dt), (enuL j xs)[i]? = some d → ∃ x, xs[i]? = some x ∧ d = .tuple [.int ((j + i : Nat) : Int), x]
  | _, [], _, _, e => by simp [enuL] at e
  | j, x :: xs, 0, d, e => ⟨x, rfl, by simpa [enuL] using e.symm⟩
  | j, x :: xs, i + 1, d, e => by
    obtain ⟨y, e1, e2⟩ := enuL_get (j + 1) xs i d (by simpa [enuL] using e)
    exact ⟨y, by simpa using e1, by rw [e2]; congr 3; omega⟩
theorem it_enu {K : PySem.W.Frag} {mg : Str → Option Value} {F : Hp} {a : Addr} {vs : List V} {ds : List Dt} (h : F a = some (.lst vs)) (r : DenAll K mg F vs ds) : ItOk K mg (Ite K a) F (enuL 0 ds) where
  stop := fun F1 H1 i f1 s1 hi => ⟨vs, SqL.of (s1 _ _ (f1 _ _ h)), by rw [enuL_len] at hi; rw [r.length]; omega⟩
  go := fun F1 H1 i d f1 s1 e => by
    obtain ⟨x, ex, rfl⟩ := enuL_get _ _ _ _ e
    obtain ⟨v, ev, rv⟩ := r.get ex
    have l1 : SqL K H1 a vs := SqL.of (s1 _ _ (f1 _ _ h))
    refine ⟨⟨vs, v, l1, ev⟩, ?_⟩
    rintro z H2 ⟨T, v', rfl, hT, rfl, q1⟩
    obtain rfl : v' = v := Option.some.inj ((q1 _ l1).symm.trans ev)
    rw [Nat.zero_add]
    exact it_new s1 hT (.cons (.int _) (.cons (Den.mono f1 _ _ rv) .nil))

abbrev PID (X : Cx) (W : WX) (tg iter : Expr) (I : Env → Rs (List Dt)) : Prop := PI X tg iter (tIt X.K X.mg W I)
theorem piW {tg iter : Expr} {t t' : TI} (h : PI X tg iter t) (i : ∀ σ H R, t' σ H R → t σ H R) : PI X tg iter t' := ⟨fun pins s σ H R I q => h.run pins s σ H R I (i _ _ _ q)⟩
def asL (f : Env → Rs Dt) : Env → Rs (List Dt) := fun ρ => (f ρ).bind fun x => match x with
  | .list xs => .ok xs
  | _ => .bad
def asT (f : Env → Rs Dt) : Env → Rs (List Dt) := fun ρ => (f ρ).bind fun x => match x with
  | .tuple xs => .ok xs
  | _ => .bad
def asS (f : Env → Rs Dt) : Env → Rs (List Dt) := fun ρ => (f ρ).bind fun x => match x with
  | .str z => .ok (strL z)
  | _ => .bad
def rg1 (fa : Env → Rs (List Dt)) : Env → Rs (List Dt) := fun ρ => (fa ρ).bind fun xs => match xs with
  | [.int j] => if -(2 ^ 60) ≤ j ∧ j ≤ 2 ^ 60 then .ok (rngL 0 j.toNat) else .bad
  | _ => .bad
def rg2 (fa : Env → Rs (List Dt)) : Env → Rs (List Dt) := fun ρ => (fa ρ).bind fun xs => match xs with
  | [.int i, .int j] => if (-(2 ^ 60) ≤ i ∧ i ≤ 2 ^ 60) ∧ -(2 ^ 60) ≤ j ∧ j ≤ 2 ^ 60 then .ok (rngL i (j - i).toNat) else .bad
  | _ => .bad
def zp2 (fa : Env → Rs (List Dt)) : Env → Rs (List Dt) := fun ρ => (fa ρ).bind fun xs => match xs with
  | [.list as, .list bs] => .ok (zipL as bs)
  | _ => .bad
def enu (fa : Env → Rs (List Dt)) : Env → Rs (List Dt) := fun ρ => (fa ρ).bind fun xs => match xs with
  | [.list as] => .ok (enuL 0 as)
  | _ => .bad
theorem pi_L (he : PD X W e f) : PID X W tg e (asL f) := piW (pi_list he) fun σ H R hh => by
  obtain ⟨F0, H0, F, ρ, s, q⟩ := hh
  refine tG.seq s q fun v d F1 H1 f1 h1 s1 r1 q1 => ?_
  cases d <;> first | exact q1.elim | skip
  obtain ⟨a, vs, rfl, ha, da⟩ := den_lst r1
  exact ⟨a, rfl, ⟨vs, SqL.of (s1.fh _ _ ha)⟩, EndG.here q1 s1 (it_list ha da)⟩
theorem pi_T (he : PD X W e f) : PID X W tg e (asT f) := piW (pi_tup he) fun σ H R hh => by
  obtain ⟨F0, H0, F, ρ, s, q⟩ := hh
  refine tG.seq s q fun v d F1 H1 f1 h1 s1 r1 q1 => ?_
  cases d <;> first | exact q1.elim | skip
  obtain ⟨a, vs, rfl, ha, da⟩ := den_tup r1
  exact ⟨a, rfl, ⟨vs, sameT s1.fh ha⟩, EndG.here q1 s1 (it_tup ha da)⟩
theorem pi_S (he : PD X W e f) : PID X W tg e (asS f) := piW (pi_str he) fun σ H R hh => by
  obtain ⟨F0, H0, F, ρ, s, q⟩ := hh
  refine tG.seq s q fun v d F1 H1 f1 h1 s1 r1 q1 => ?_
  cases d <;> first | exact q1.elim | skip
  obtain rfl := den_str r1
  exact ⟨_, rfl, EndG.here q1 s1 it_str⟩
theorem pi_R1 (hm : X.mg "range" = none) (ha : PAD X W [a] fa) (hg : Gl X "range" := by rfl) (hs : starEach [a] X.env = [(false, eval a X.env)] := by rfl) : PID X W tg (.Call (.Name "range" p) [a] [] pos) (rg1 fa) := piW (pi_range1 hg hm ha hs) fun σ H R hh => by
  obtain ⟨F0, H0, F, ρ, s, q⟩ := hh
  refine tG.seq s q fun vs ds F1 H1 f1 h1 s1 r1 q1 => ?_
  split at q1
  · obtain ⟨hc, q1⟩ := ifG q1
    cases r1 with
    | cons r2 r1 =>
      cases r1
      obtain rfl := den_int (X := X) r2
      exact ⟨_, rfl, by omega, by omega, EndG.here q1 s1 it_rng⟩
  · exact q1.elim
theorem pi_R2 (hm : X.mg "range" = none) (ha : PAD X W [a, b] fa) (hg : Gl X "range" := by rfl) (hs : starEach [a, b] X.env = [(false, eval a X.env), (false, eval b X.env)] := by rfl) (hs2 : starEach [b] X.env = [(false, eval b X.env)] := by rfl) :
    PID X W tg (.Call (.Name "range" p) [a, b] [] pos) (rg2 fa) := piW (pi_range2 hg hm ha hs hs2) fun σ H R hh => by
  obtain ⟨F0, H0, F, ρ, s, q⟩ := hh
  refine tG.seq s q fun vs ds F1 H1 f1 h1 s1 r1 q1 => ?_
  split at q1
  · obtain ⟨hc, q1⟩ := ifG q1
    cases r1 with
    | cons r2 r1 =>
      cases r1 with
      | cons r3 r1 =>
        cases r1
        obtain ⟨rfl, rfl⟩ := den_ii (X := X) r2 r3
        exact ⟨_, _, rfl, ⟨by omega, by omega, by omega, by omega⟩, EndG.here q1 s1 it_rng⟩
  · exact q1.elim
theorem pi_Z {elts : List Expr} {kk : Nat} {tpos : Pos} (hm : X.mg "zip" = none) (ha : PAD X W [e, e2] fa) (hg : Gl X "zip" := by rfl)
    (hs : starEach [e, e2] X.env = (false, eval e X.env) :: starEach [e2] X.env := by rfl) (hpl : (backTo pos (starEach [e2] X.env)).any (·.1) = false := by rfl) :
    PID X W (.Tuple elts kk tpos) (.Call (.Name "zip" p) [e, e2] [] pos) (zp2 fa) := piW (pi_zip hg hm ha hs hpl) fun σ H R hh => by
  obtain ⟨F0, H0, F, ρ, s, q⟩ := hh
  refine tG.seq s q fun vs ds F1 H1 f1 h1 s1 r1 q1 => ?_
  split at q1
  · cases r1 with
    | cons r2 r1 =>
      cases r1 with
      | cons r3 r1 =>
        cases r1
        obtain ⟨a, us, rfl, ha, da⟩ := den_lst r2
        obtain ⟨b, ws, rfl, hb, db⟩ := den_lst r3
        exact ⟨a, b, us, ws, rfl, SqL.of (s1.fh _ _ ha), SqL.of (s1.fh _ _ hb), EndG.here q1 s1 (it_zip ha da hb db)⟩
  · exact q1.elim
theorem pi_E {elts : List Expr} {kk : Nat} {tpos : Pos} (hm : X.mg "enumerate" = none) (ha : PAD X W [e] fa) (hg : Gl X "enumerate" := by rfl) (hs : starEach [e] X.env = [(false, eval e X.env)] := by rfl) :
    PID X W (.Tuple elts kk tpos) (.Call (.Name "enumerate" p) [e] [] pos) (enu fa) := piW (pi_enum hg hm ha hs) fun σ H R hh => by
  obtain ⟨F0, H0, F, ρ, s, q⟩ := hh
  refine tG.seq s q fun vs ds F1 H1 f1 h1 s1 r1 q1 => ?_
  split at q1
  · cases r1 with
    | cons r2 r1 =>
      cases r1
      obtain ⟨a, us, rfl, ha, da⟩ := den_lst r2
      exact ⟨a, us, rfl, SqL.of (s1.fh _ _ ha), EndG.here q1 s1 (it_enu ha da)⟩
  · exact q1.elim

/-! ### for -/
theorem dd_for {I : Env → Rs (List Dt)} {G : Dt → Env → Option Env} (C : Ctx X W k) (hi : PID X W tg iter I) (hg : PGD X tg G) (hb : PSDs X W body S) (hs : ∀ x, foldedSetIterable iter X.env x = pure x := by intro _; rfl) : PSD X W (.For tg iter body [] pos) (sFor I G S) :=
  psW (ps_for C.po C.calm hi hg hb hs) fun D σ H hh => by
    obtain ⟨F0, H0, F, ρ, s, q⟩ := hh
    refine tG.st s q fun J ds F1 H1 f1 h1 s1 it q1 => ?_
    refine ⟨fun i m σ' H' => m = ds.length - i ∧ i ≤ ds.length ∧ ∃ F' ρ', Same F1 F' ∧ SL X.K X.mg F0 H0 F' H' σ' ρ' ∧ EndS X.K X.mg W F0 H0 F' D (forL G S (ds.drop i) ρ'), ⟨ds.length, rfl, Nat.zero_le _, F1, ρ, Same.refl F1, s1, q1⟩, ?_⟩
    rintro i m σ' H' ⟨rfl, hi, F', ρ', a', s', q'⟩
    by_cases hl : i < ds.length
    · refine .inr ?_
      rw [List.drop_eq_getElem_cons hl] at q'
      obtain ⟨g1, g2⟩ := it.go F' H' i ds[i] a' s'.fh (List.getElem?_eq_getElem hl)
      refine ⟨g1, fun σ2 H2 => i + 1 ≤ ds.length ∧ ∃ F2 ρ2, Same F1 F2 ∧ SL X.K X.mg F0 H0 F2 H2 σ2 ρ2 ∧ EndS X.K X.mg W F0 H0 F2 D (forL G S (ds.drop (i + 1)) ρ2), fun σ2 H2 h2 => ⟨ds.length - (i + 1), by omega, rfl, h2.1, h2.2⟩, fun x H2 hy => ?_⟩
      obtain ⟨F2, b1, b2, b3, b4, b5⟩ := g2 x H2 hy
      have s2 := s'.grow b1 b2 b3 b4
      have q'' : EndS X.K X.mg W F0 H0 F' D (onO (G ds[i] ρ') fun ρ1 => turnE (S ρ1) (forL G S (ds.drop (i + 1)))) := q'
      cases eg : G ds[i] ρ' with
      | none => rw [eg] at q''; exact q''.elim
      | some ρ1 =>
        rw [eg] at q''
        exact ⟨F0, H0, F2, ρ', ds[i], ρ1, s2, b5, eg, fun σ3 s3 => ⟨F0, H0, F2, ρ1, s3, turn_end (EndS.mono q'' b1) fun ρ4 σ4 F4 H4 a4 s4 q4 => ⟨hl, F4, ρ4, a'.trans (b1.trans a4), s4, q4⟩⟩⟩
    · refine .inl ⟨it.stop F' H' i a' s'.fh (by omega), ?_⟩
      rw [List.drop_eq_nil_of_le (by omega)] at q'
      exact q' σ' F' H' (Same.refl F') s'

/-! ### comprehensions -/
def nox {α : Type} (r : Rs α) : Rs α := match r with
  | .ok a => .ok a
  | _ => .bad
@[simp] theorem nox_ok {α : Type} (a : α) : nox (.ok a) = .ok a := rfl
def wpE (ρ : Env) : List Nat → Env
  | [] => ρ
  | v :: vs => (wpE ρ vs).set v .u
def lcL (G : Dt → Env → Option Env) (T : Env → Rs Bool) (E : Env → Rs Dt) (ρ : Env) : List Dt → Rs (List Dt)
  | [] => .ok []
  | d :: ds => (ofO (G d ρ)).bind fun ρ1 => (nox (T ρ1)).bind fun b => if b = true then (nox (E ρ1)).bind fun y => (lcL G T E ρ ds).bind fun ys => .ok (y :: ys) else lcL G T E ρ ds
def lcE (I : Env → Rs (List Dt)) (G : Dt → Env → Option Env) (T : Env → Rs Bool) (E : Env → Rs Dt) (own : List Nat) : Env → Rs Dt := fun ρ => (I ρ).bind fun ds => if ds.length ≤ lim then (lcL G T E (wpE ρ own) ds).bind fun ys => .ok (.list ys) else .bad
def yesT : Env → Rs Bool := fun _ => .ok true
abbrev W0 : WX := fun _ _ _ _ => False
theorem Ctx.blk (C : Ctx X W k) (s : Shared) (H : Hp) (sc : Scope) (ce : PySem.Env) (fp : List Addr) : Ctx (X.blk s H sc ce fp) W0 k := ⟨C.hr, C.gd, takes0, PassesOwn.never, C.calm, C.nd⟩
theorem SL.wipe {K : PySem.W.Frag} {mg : Str → Option Value} {F0 H0 F H : Hp} {σ : L2.St} {ρ : Env} (s : SL K mg F0 H0 F H σ ρ) : ∀ vs : List Nat, SL K mg F0 H0 F H (L2.wipe σ vs) (wpE ρ vs)
  | [] => s
  | v :: vs => (s.wipe vs).unset
/-- a list that no slot holds is written -/
theorem SL.writeX {K : PySem.W.Frag} {mg : Str → Option Value} {F0 H0 F H : Hp} {σ : L2.St} {ρ : Env} (s : SL K mg F0 H0 F H σ ρ) {a : Addr} {o : HO} (h2 : F a = none) (h3 : H0 a = none) (h4 : ∀ (j : Nat) (ys : List Dt), ρ[j]? = some (.o ys) → σ[j]? ≠ some (some (.ref a))) : SL K mg F0 H0 F (upd H a o) σ ρ where
  fh := fun b x e => by
    have hb : b ≠ a := fun z => by rw [z, h2] at e; cases e
    rw [upd_ne hb]; exact s.fh b x e
  ff := s.ff
  hh := fun b x e => by
    have hb : b ≠ a := fun z => by rw [z, h3] at e; cases e
    rw [upd_ne hb]; exact s.hh b x e
  nw := s.nw
  len := s.len
  sl := s.sl
  ow := fun i xs e => by
    obtain ⟨b, vs, e1, e2, e3, e4, e5⟩ := s.ow i xs e
    have hb : b ≠ a := fun z => h4 i xs e (by rw [← z]; exact e1)
    exact ⟨b, vs, e1, by rw [upd_ne hb]; exact e2, e3, e4, e5⟩
  ap := s.ap
/-- what a comprehension's target does to the slots -/
structure TgOk (X : Cx) (g : TG) (G : Dt → Env → Option Env) (own : List Nat) : Prop where
  run : ∀ (F0 H0 F H : Hp) (σ : L2.St) (ρ ρ1 : Env) (v : V) (x : Dt) (Q : L2.St → Hp → Prop), SL X.K X.mg F0 H0 F H (L2.wipe σ own) (wpE ρ own) → Den X.K X.mg F v x → G x (wpE ρ own) = some ρ1 →
    (∀ σ', SL X.K X.mg F0 H0 F H σ' ρ1 → L2.wipe σ' own = L2.wipe σ own → (∀ (j : Nat) (ys : List Dt), ρ1[j]? = some (.o ys) → (wpE ρ own)[j]? = some (.o ys) ∧ σ'[j]? = (L2.wipe σ own)[j]?) → Q σ' H) → g v (L2.wipe σ own) H Q
theorem set_o {ρ : Env} {i j : Nat} {x : Dt} {ys : List Dt} (e : (ρ.set i (.d x))[j]? = some (.o ys)) : ρ[j]? = some (.o ys) ∧ i ≠ j := by
  by_cases hj : i = j
  · subst hj
    by_cases hi : i < ρ.length
    · rw [List.getElem?_set_self hi] at e; cases e
    · rw [List.getElem?_eq_none (by rw [List.length_set]; omega)] at e; cases e
  · rw [List.getElem?_set_ne hj] at e
    exact ⟨e, hj⟩
theorem tg_1 (i : Nat) : TgOk X (gName i) (gt1 i) [i] where
  run := fun F0 H0 F H σ ρ ρ1 v x Q s r e q => by
    cases e
    refine q _ (s.setD r) ?_ fun j ys e => ?_
    · show (((σ.set i none).set i (some v)).set i none) = σ.set i none
      rw [List.set_set, List.set_set]
    · obtain ⟨e1, ne⟩ := set_o e
      exact ⟨e1, List.getElem?_set_ne ne⟩
theorem tg_2 (i j : Nat) (ne : i ≠ j) : TgOk X (gTup X.K 2 (gCons (gName i) (gCons (gName j) gNil))) (gt2 i j) [i, j] where
  run := fun F0 H0 F H σ ρ ρ1 v x Q s r e q => by
    unfold gt2 at e
    split at e
    · cases e
      obtain ⟨a, xs, rfl, ha, da⟩ := den_tup r
      cases da with
      | cons r1 da =>
        cases da with
        | cons r2 da =>
          cases da
          refine ⟨a, _, rfl, sameT s.fh ha, rfl, _, _, rfl, _, _, rfl, rfl, q _ ((s.setD r1).setD r2) ?_ fun l ys e => ?_⟩
          · show ((((((σ.set j none).set i none).set i _).set j _).set j none).set i none) = (σ.set j none).set i none
            apply List.ext_getElem?
            intro m
            by_cases h1 : i = m
            · subst h1
              by_cases hl : i < σ.length
              · rw [List.getElem?_set_self (by simpa using hl), List.getElem?_set_self (by simpa using hl)]
              · rw [List.getElem?_eq_none (by simpa using hl), List.getElem?_eq_none (by simpa using hl)]
            · rw [List.getElem?_set_ne h1, List.getElem?_set_ne h1]
              by_cases h2 : j = m
              · subst h2
                by_cases hl : j < σ.length
                · rw [List.getElem?_set_self (by simpa using hl), List.getElem?_set_self (by simpa using hl)]
                · rw [List.getElem?_eq_none (by simpa using hl), List.getElem?_eq_none (by simpa using hl)]
              · rw [List.getElem?_set_ne h2, List.getElem?_set_ne h2, List.getElem?_set_ne h2, List.getElem?_set_ne h1, List.getElem?_set_ne h1, List.getElem?_set_ne h2]
          · obtain ⟨e1, n1⟩ := set_o e
            obtain ⟨e2, n2⟩ := set_o e1
            exact ⟨e2, by rw [List.getElem?_set_ne n1, List.getElem?_set_ne n2]⟩
    · cases e
theorem lcL_nx {G : Dt → Env → Option Env} {T : Env → Rs Bool} {E : Env → Rs Dt} {ρ : Env} : ∀ (l : List Dt) (c : Str), lcL G T E ρ l ≠ .exc c
  | [], _, z => nomatch z
  | d :: l, c, z => by
    unfold lcL at z
    cases e1 : G d ρ with
    | none => rw [e1] at z; cases z
    | some ρ1 =>
      rw [e1] at z
      simp only [ofO, Rs.bind_ok] at z
      cases e2 : T ρ1 with
      | bad => rw [e2] at z; cases z
      | exc c => rw [e2] at z; cases z
      | ok b =>
        rw [e2, nox_ok, Rs.bind_ok] at z
        cases b with
        | false => exact lcL_nx l c z
        | true =>
          simp only [if_true] at z
          cases e3 : E ρ1 with
          | bad => rw [e3] at z; cases z
          | exc c => rw [e3] at z; cases z
          | ok y =>
            rw [e3, nox_ok, Rs.bind_ok] at z
            cases e4 : lcL G T E ρ l with
            | bad => rw [e4] at z; cases z
            | exc c' => exact lcL_nx l c' e4
            | ok ys => rw [e4] at z; cases z
theorem keepN {F H F' H' : Hp} {D : Addr} {o : HO} (g : Gw F H F' H') (n : F D = none) (e : H D = some o) : F' D = none := by
  cases z : F' D with
  | none => rfl
  | some u =>
    rcases g.nw D u z with q | q
    · rw [n] at q; cases q
    · rw [e] at q; cases q
theorem bnd_nox {α : Type} {F0 H0 F H : Hp} {σ : L2.St} {ρ : Env} {β γ : Type} {R : Hp → β → α → Prop} {Q : β → Hp → Prop} {r : Rs γ} {kk : γ → Rs α} (q : EndG X.K X.mg W R F0 H0 σ ρ F H Q ((nox r).bind kk)) : ∃ a, r = .ok a ∧ EndG X.K X.mg W R F0 H0 σ ρ F H Q (kk a) := by
  cases r with
  | ok a => exact ⟨a, rfl, q⟩
  | bad => exact q.elim
  | exc c => exact q.elim
/-- the reading of a comprehension -/
theorem lc_s {I : Env → Rs (List Dt)} {G : Dt → Env → Option Env} {T : Env → Rs Bool} {E : Env → Rs Dt} {own : List Nat} {g : TG} (tk : TgOk X g G own) {σ : L2.St} {H : Hp} {Q : VK} (hh : tD X.K X.mg W (lcE I G T E own) σ H Q) :
    tLc (tIt X.K X.mg W I) g (tT X.K X.mg W0 T) (tD X.K X.mg W0 E) own σ H Q := by
  obtain ⟨F0, H0, F, ρ, s, q⟩ := hh
  refine tG.seq s q fun J ds F1 H1 f1 h1 s1 it q1 => ?_
  obtain ⟨hl, q1⟩ := ifG q1
  intro D hD
  have fD : F1 D = none := s1.freeF hD
  have oD : H0 D = none := s1.free0 hD
  have noD : ∀ (j : Nat) (ys : List Dt), ρ[j]? = some (.o ys) → σ[j]? ≠ some (some (.ref D)) := fun j ys e z => by
    obtain ⟨b, vs, e1, e2, _⟩ := s1.ow j ys e
    rw [z] at e1
    cases e1
    rw [hD] at e2
    cases e2
  let Wi : Nat → Hp → Prop := fun i H' => i ≤ ds.length ∧ ∃ F' acc done ys, Same F1 F' ∧ Gw F1 H1 F' H' ∧ SL X.K X.mg F0 H0 F' H' σ ρ ∧ F' D = none ∧ H' D = some (.lst acc) ∧ acc.length ≤ i ∧ DenAll X.K X.mg F' acc done ∧ lcL G T E (wpE ρ own) (ds.drop i) = .ok ys ∧
    EndG X.K X.mg W (Den X.K X.mg) F0 H0 σ ρ F1 H1 Q (.ok (.list (done ++ ys)))
  refine ⟨fun i m H' => m = ds.length - i ∧ Wi i H', ⟨ds.length, rfl, Nat.zero_le _, ?_⟩, ?_⟩
  · cases el : lcL G T E (wpE ρ own) ds with
    | bad => rw [el] at q1; exact q1.elim
    | exc c => exact absurd el (lcL_nx _ _)
    | ok ys =>
      rw [el] at q1
      exact ⟨F1, [], [], ys, Same.refl F1, ⟨same_new hD, fun a o z => .inl z⟩, s1.newH hD, fD, upd_same, Nat.le_refl _, .nil, el, q1⟩
  · rintro i m H' ⟨rfl, hi, F', acc, done, ys, a1, a2, s', nD, eD, la, da, el, q'⟩
    by_cases hlt : i < ds.length
    · refine .inr ?_
      rw [List.drop_eq_getElem_cons hlt] at el
      obtain ⟨g1, g2⟩ := it.go F' H' i ds[i] a1 s'.fh (List.getElem?_eq_getElem hlt)
      refine ⟨g1, Wi (i + 1), fun H2 h2 => ⟨ds.length - (i + 1), by omega, rfl, h2⟩, fun x H2 hy => ?_⟩
      obtain ⟨F2, b1, b2, b3, b4, b5⟩ := g2 x H2 hy
      have s2 := s'.grow b1 b2 b3 b4
      have gw2 : Gw F' H' F2 H2 := ⟨b2, b4⟩
      unfold lcL at el
      cases eg : G ds[i] (wpE ρ own) with
      | none => rw [eg] at el; cases el
      | some ρ1 =>
        rw [eg] at el
        simp only [ofO, Rs.bind_ok] at el
        refine tk.run F0 H0 F2 H2 σ ρ ρ1 x ds[i] _ (s2.wipe own) b5 eg fun σ3 s3 w3 o3 => ⟨w3, ?_⟩
        cases et : T ρ1 with
        | bad => rw [et] at el; cases el
        | exc c => rw [et] at el; cases el
        | ok b =>
          rw [et, nox_ok, Rs.bind_ok] at el
          refine ⟨F0, H0, F2, ρ1, s3, ?_⟩
          rw [et]
          intro b' F4 H4 c1 c2 s4 rb
          subst rb
          have gw4 : Gw F' H' F4 H4 := gw2.trans c2
          have so4 : SL X.K X.mg F0 H0 F4 H4 σ ρ := s'.grow (b1.trans c1) gw4.h s4.fh gw4.nw
          cases b' with
          | false =>
            rw [if_neg Bool.false_ne_true]
            exact ⟨hlt, F4, acc, done, ys, a1.trans (b1.trans c1), a2.trans gw4, so4, keepN gw4 nD eD, gw4.h _ _ eD, by omega, DenAll.mono (b1.trans c1) _ _ da, el, q'⟩
          | true =>
            rw [if_pos rfl]
            rw [if_pos rfl] at el
            cases ee : E ρ1 with
            | bad => rw [ee] at el; cases el
            | exc c => rw [ee] at el; cases el
            | ok y =>
              rw [ee, nox_ok, Rs.bind_ok] at el
              refine ⟨F0, H0, F4, ρ1, s4, ?_⟩
              rw [ee]
              intro v F5 H5 d1 d2 s5 rv
              have gw5 : Gw F' H' F5 H5 := gw4.trans d2
              have f5 : Same F' F5 := (b1.trans c1).trans d1
              have so5 : SL X.K X.mg F0 H0 F5 H5 σ ρ := s'.grow f5 gw5.h s5.fh gw5.nw
              have n5 := keepN gw5 nD eD
              cases er : lcL G T E (wpE ρ own) (ds.drop (i + 1)) with
              | bad => rw [er] at el; cases el
              | exc c => exact absurd er (lcL_nx _ _)
              | ok ys' =>
                rw [er, Rs.bind_ok] at el
                cases el
                refine ⟨acc, gw5.h _ _ eD, Nat.lt_of_le_of_lt la (Nat.lt_of_le_of_lt hi (lim_lt hl)), hlt, F5, acc ++ [v], done ++ [y], ys', a1.trans f5, ⟨fun b o z => ?_, (a2.trans gw5).nw⟩, so5.writeX n5 oD noD, n5, upd_same, ?_, (DenAll.mono f5 _ _ da).append (.one rv), er, ?_⟩
                · have hb : b ≠ D := fun w => by rw [w, hD] at z; cases z
                  rw [upd_ne hb]
                  exact (a2.trans gw5).h b o z
                · rw [List.length_append]
                  simp only [List.length_cons, List.length_nil]
                  omega
                · rw [List.append_assoc]
                  exact q'
    · refine .inl ⟨it.stop F' H' i a1 s'.fh (by omega), ?_⟩
      rw [List.drop_eq_nil_of_le (by omega)] at el
      have el' : (Rs.ok [] : Rs (List Dt)) = .ok ys := el
      cases el'
      rw [List.append_nil] at q'
      have fz : Same F' (upd F' D (.lst acc)) := same_new nD
      have nw' : ∀ a o, (upd F' D (.lst acc)) a = some o → F1 a = some o ∨ H1 a = none := fun b o z => by
        by_cases hb : b = D
        · subst hb; exact .inr hD
        · rw [upd_ne hb] at z; exact a2.nw b o z
      refine q' (.ref D) (upd F' D (.lst acc)) H' (a1.trans fz) ⟨a2.h, nw'⟩ (s1.grow (a1.trans fz) a2.h (fun b o z => ?_) nw') (.lst upd_same (DenAll.mono fz _ _ da))
      by_cases hb : b = D
      · subst hb; rw [upd_same] at z; cases z; exact eD
      · rw [upd_ne hb] at z; exact s'.fh b o z
/-- [elt for x in iter if ..] -/
theorem pd_lc {elt : Expr} {ifs : List Expr} {sc : Scope} {ow : List (Str × Nat)} {own : List Nat} {I : Env → Rs (List Dt)} {G : Dt → Env → Option Env} {T : Env → Rs Bool} {E : Env → Rs Dt} {g : TG} (C : Ctx X W k) (hi : PID X W tg iter I) (tk : TgOk X g G own) (ok : BlkOk X.N X.env.scope sc ow) (ho : ow.map (·.2) = own)
    (hg : ∀ (s : Shared) (H : Hp) (Ca : Addr) (cl : List (Str × Addr)) (fp : List Addr), PG (X.blk s H sc (compEnvC sc cl Ca X.env) fp) tg g) (ht : ∀ (s : Shared) (H : Hp) (Ca : Addr) (cl : List (Str × Addr)) (fp : List Addr), PTs (X.blk s H sc (compEnvC sc cl Ca X.env) fp) ifs (tT X.K X.mg W0 T))
    (he : ∀ (s : Shared) (H : Hp) (Ca : Addr) (cl : List (Str × Addr)) (fp : List Addr), PE (X.blk s H sc (compEnvC sc cl Ca X.env) fp) elt (tD X.K X.mg W0 E)) (hs : ∀ x, foldedSetIterable iter X.env x = pure x := by intro _; rfl) :
    PD X W (.ListComp elt [⟨tg, iter, ifs, 0⟩] sc pos) (lcE I G T E own) := by
  subst ho
  exact peW (pe_lc C.calm C.nd hi ok hg ht he hs) fun σ H Q hh => lc_s tk hh
/-- name = [elt for ..] -/
theorem dd_setL {i : Nat} {py : Pos} {elt : Expr} {ifs : List Expr} {sc : Scope} {ow : List (Str × Nat)} {own : List Nat} {I : Env → Rs (List Dt)} {G : Dt → Env → Option Env} {T : Env → Rs Bool} {E : Env → Rs Dt} {g : TG} (C : Ctx X W k) (hy : X.N[i]? = some y) (hyl : X.env.scope.names.lookup y = some .local)
    (hsw : swapsWith (.ListComp elt [⟨tg, iter, ifs, 0⟩] sc pos') (some (.Name y py)) pos.line X.env = pure true) (hi : PID X W tg iter I) (tk : TgOk X g G own) (ok : BlkOk X.N X.env.scope sc ow) (ho : ow.map (·.2) = own)
    (hg : ∀ (s : Shared) (H : Hp) (Ca : Addr) (cl : List (Str × Addr)) (fp : List Addr), PG (X.blk s H sc (compEnvC sc cl Ca X.env) fp) tg g) (ht : ∀ (s : Shared) (H : Hp) (Ca : Addr) (cl : List (Str × Addr)) (fp : List Addr), PTs (X.blk s H sc (compEnvC sc cl Ca X.env) fp) ifs (tT X.K X.mg W0 T))
    (he : ∀ (s : Shared) (H : Hp) (Ca : Addr) (cl : List (Str × Addr)) (fp : List Addr), PE (X.blk s H sc (compEnvC sc cl Ca X.env) fp) elt (tD X.K X.mg W0 E)) (hs : ∀ x, foldedSetIterable iter X.env x = pure x := by intro _; rfl) :
    PSD X W (.Assign [.Name y py] (.ListComp elt [⟨tg, iter, ifs, 0⟩] sc pos') pos) (sSet i (lcE I G T E own)) := by
  subst ho
  refine psW (ps_setLc C.calm C.nd hy hyl hsw hi ok hg ht he hs) fun D σ H hh => ?_
  obtain ⟨F0, H0, F, ρ, s, q⟩ := hh
  refine lc_s (W := W) tk ⟨F0, H0, F, ρ, s, ?_⟩
  unfold sSet at q
  cases ev : lcE I G T E (ow.map (·.2)) ρ with
  | bad => rw [ev] at q; exact q
  | exc c => rw [ev] at q; exact fun Ca F' H' e1 a1 a2 s' => q Ca σ F' H' e1 a1 s'
  | ok d => rw [ev] at q; exact fun v F' H' a1 a2 s' r => q _ F' H' a1 (s'.setD r)
theorem pts_y : PTs X [] (tT X.K X.mg W yesT) := ⟨fun pins s σ H Q I hh => (pts_nil (X := X)).run pins s σ H Q I (by
  obtain ⟨F0, H0, F, ρ, s', q⟩ := hh
  exact EndG.here q s' rfl)⟩
theorem pts_1 (h : PTD X W c t) : PTs X [c] (tT X.K X.mg W t) := pts_one h

/-! ### a def of the text -/
def runF (n N : Nat) (S : Sm) (ds : List Dt) : Rs Sl := if ds.length = n then (match S (ds.map Sl.d ++ List.replicate (N - n) Sl.u) with
  | .nx _ => .ok (.d .none)
  | .rt x => .ok x
  | .ex c _ => .exc c
  | _ => .bad) else .bad
theorem runF_len {n N : Nat} {S : Sm} {ds : List Dt} (h : runF n N S ds ≠ .bad) : ds.length = n := by
  unfold runF at h
  split at h
  · assumption
  · exact absurd rfl h
theorem start_SL {K : PySem.W.Frag} {mg : Str → Option Value} {F H : Hp} {vs : List V} {ds : List Dt} {N : List Str} {n : Nat} (fh : Same F H) (r : DenAll K mg F vs ds) (hn : vs.length = n) (hN : n ≤ N.length) : SL K mg F H F H (L2.start N vs) (ds.map Sl.d ++ List.replicate (N.length - n) Sl.u) where
  fh := fh
  ff := Same.refl F
  hh := Same.refl H
  nw := fun a o e => .inl e
  len := by
    have := r.length
    unfold L2.start
    simp only [List.length_append, List.length_map, List.length_replicate]
    omega
  sl := fun i x e => by
    have hl := r.length
    unfold L2.start
    by_cases hi : i < ds.length
    · rw [List.getElem?_append_left (by simpa using hi), List.getElem?_map] at e
      cases ed : ds[i]? with
      | none => rw [ed] at e; cases e
      | some d =>
        rw [ed] at e
        cases e
        obtain ⟨v, ev, rv⟩ := r.get ed
        exact ⟨v, by rw [List.getElem?_append_left (by rw [List.length_map, hl]; exact hi), List.getElem?_map, ev]; rfl, rv⟩
    · rw [List.getElem?_append_right (by simpa using hi), List.getElem?_replicate] at e
      split at e <;> cases e
  ow := fun i xs e => by
    by_cases hi : i < ds.length
    · rw [List.getElem?_append_left (by simpa using hi), List.getElem?_map] at e
      cases ed : ds[i]? with
      | none => rw [ed] at e; cases e
      | some d => rw [ed] at e; cases e
    · rw [List.getElem?_append_right (by simpa using hi), List.getElem?_replicate] at e
      split at e <;> cases e
  ap := fun i j xs ys a e1 e2 e3 e4 => by
    by_cases hi : i < ds.length
    · rw [List.getElem?_append_left (by simpa using hi), List.getElem?_map] at e1
      cases ed : ds[i]? with
      | none => rw [ed] at e1; cases e1
      | some d => rw [ed] at e1; cases e1
    · rw [List.getElem?_append_right (by simpa using hi), List.getElem?_replicate] at e1
      split at e1 <;> cases e1
section
variable {P : Program} {w : World} {K : PySem.W.Frag} {mg : Str → Option Value} {base : Heap}
abbrev WF (E : XK) : WX := fun cls d _ H => E cls d H
/-- the context of the def's body -/
abbrev CxF (P : Program) (w : World) (K : PySem.W.Frag) (mg : Str → Option Value) (base : Heap) (N : List Str) (qual : Str) (scope : Scope) (f : Addr) (cd : Value) (A : Around) (outer : List PySem.Env) (s : Shared) (H : Hp) (E : XK) : Cx := cxOf (L2.CX P w) P w K mg base N qual scope f cd A outer s H E
/-- the rule: the def's body, derived, gives its promise -/
theorem def_ok {qual : Str} {st : Stmt} {f : Addr} {fd : FuncData} {N ps : List Str} {j : Nat} {S : Sm} (F : Fun K x qual st f fd) (sc : FnScope N ps (defScope st)) (hm : mg x = some (.ref f)) (hb : Binds K fd ps [])
    (body : ∀ (cdv : Value) (A : Around) (outer : List PySem.Env) (s : Shared) (H : Hp) (E : XK), Ctx (CxF P w K mg base N qual (defScope st) f cdv A outer s H E) (WF E) j → PSDs (CxF P w K mg base N qual (defScope st) f cdv A outer s H E) (WF E) (defBody st) S) :
    DefOk P w K mg base (j + 1) x ps.length (runF ps.length N.length S) := by
  obtain ⟨oc, od, kV, doc, pm, an, cdv, ct, osl, rfl, lk, hcd⟩ := F.ex
  refine ⟨f, _, ps, hm, F.kp, hb, rfl, fun A outer s H args us vs Q E hr hgd e0 hbd rv hsp => ?_⟩
  obtain ⟨hl, F1, ds, fh, dv, q⟩ := hsp
  have hpl : ps.length ≤ N.length := by
    have := congrArg List.length sc.pre
    rw [List.length_take] at this
    omega
  have KX : K.In s.heap := e0.mod.kin.keeps fun b o e => (e0.bs b o e).1
  have nl : s.heap.NoLimit := e0.mod.nolimit.keeps fun b o e => (e0.bs b o e).1
  have kinds : ∀ y ∈ ps.zip us, (defScope st).names.lookup y.1 = some .local ∨ ((defScope st).names.lookup y.1 = some .cell ∧ ((cellsFrom (s.heap.objs.size + 1) (defScope st).names []).lookup y.1).isSome = true) := fun y hy => by
    rcases sc.par y.1 (List.of_mem_zip (a := y.1) (b := y.2) hy).1 with z | z
    · exact .inl z
    · exact .inr ⟨z, PySem.W.cellsFrom_some _ _ _ (.inl z)⟩
  refine codeAny_call_function hr.depth (KX _ _ lk) rfl sc.co sc.gen rfl (PySem.W.codeRec_of KX hcd) (hbd _ _ _ _ ?_)
  refine wpAny_newFunctionEnv_cells sc.kind kinds fun env he s1 inC => ?_
  subst he
  refine ⟨nl.keeps inC.toInCall.keep, codeAny_func ?_⟩
  have I := inv_start (CX := L2.CX P w) (E := E) (cd := cdv) (f := f) sc hr.hd e0 hl rv inC
  have cx : Ctx (CxF P w K mg base N qual (defScope st) f cdv A outer s H E) (WF E) j := ⟨hr.deeper _, hgd, takes_of (E := E) rfl rfl rfl rfl, passes_of rfl, rfl, sc.nd⟩
  have bd := (body cdv A outer s H E cx).run [] s1 (L2.start N vs) H { nx := fun _ H' => Q .non H', rt := Q } I
  have fin : ∀ {σ' : L2.St} {H' : Hp} {v : V} {u : Value} {s' : Shared}, Inv (CxF P w K mg base N qual (defScope st) f cdv A outer s H E) [] σ' H' s' → RelV v u → Q v H' → CE outer P w H s Q u s' := fun {σ' H' v u s'} J r z => ⟨v, H', J.os, J.bare, J.base, J.hok, r, z⟩
  refine wpAny_mono (bd ⟨F1, H, F1, _, start_SL fh dv hl hpl, ?_⟩) (fun fl s' hs => ?_) fun e s' hs => hs
  · have dl : ds.length = ps.length := dv.length.symm.trans hl
    unfold runF at q
    rw [if_pos dl] at q
    cases eo : S (ds.map Sl.d ++ List.replicate (N.length - ps.length) Sl.u) with
    | bad => rw [eo] at q; exact q.elim
    | bk ρ' => rw [eo] at q; exact q.elim
    | ct ρ' => rw [eo] at q; exact q.elim
    | nx ρ' =>
      rw [eo] at q
      exact fun σ' F' H' a1 s' => q .non F' H' a1 s'.hh s'.fh s'.nw .non
    | ex c ρ' =>
      rw [eo] at q
      exact fun Ca σ' F' H' e1 a1 s' => q Ca F' H' e1 a1 s'.hh s'.fh s'.nw
    | rt z =>
      rw [eo] at q
      cases z with
      | u => exact q.elim
      | d d => exact fun v σ' ρ' F' H' a1 s' r => q v F' H' a1 s'.hh s'.fh s'.nw r
      | o xs => exact fun a ws σ' ρ' F' H' a1 s' z1 z2 z3 z4 => q a ws F' H' a1 s'.hh s'.fh s'.nw z1 z2 z3 z4
  · cases fl with
    | ret u =>
      obtain ⟨v, σ', H', J, r, z⟩ := hs
      exact fin J r z
    | next =>
      obtain ⟨σ', H', J, z⟩ := hs
      exact fin (v := V.non) (u := Value.none) J rfl z
    | brk => exact hs.elim fun _ h => h.elim fun _ h => h.2.elim
    | cont => exact hs.elim fun _ h => h.elim fun _ h => h.2.elim
end
end
end Sb
set_option Elab.async false
set_option linter.all false
set_option maxRecDepth 100000
set_option maxHeartbeats 4000000
/-! Sb7: a try whose except clause keeps the error in a name; the end of a law. -/
namespace Sb
open PySem L2

section
variable {X : Cx} {pins : List (Addr × Obj)} {σ : L2.St} {H : Hp} {s : Shared}
/-- an object that came since the entry, that nothing tracks, is tracked from now on -/
theorem inv_track (I : Inv X pins σ H s) {a : Addr} {o : HO} (hn : H a = none) (h0 : X.s_0.heap.get? a = none) (hL : a ≠ X.env.locals) (hc : ∀ x c, X.env.cells.lookup x = some c → c ≠ a) (hp : ∀ p ∈ X.pn ++ pins, p.1 ≠ a)
    (new : ObjOk X.prog X.w (upd H a o) s.heap a o) : Inv X pins σ (upd H a o) s where
  ok := I.ok
  os := I.os
  bare := I.bare
  base := ⟨I.base.keep, I.base.slot, fun b u e n hx => by
      have hb : b ≠ a := fun z => by rw [z, h0] at e; cases e
      rw [upd_ne hb]; exact I.base.free b u e n hx, I.base.there,
    fun b xs e => by
      have q := I.base.tups b xs e
      rw [upd_ne (ne_of_none q hn)]; exact q,
    fun b u v e => by
      have q := I.base.frzs b u v e
      rw [upd_ne (ne_of_none q hn)]; exact q,
    fun b ps e => by
      obtain ⟨more, q⟩ := I.base.tbls b ps e
      exact ⟨more, by rw [upd_ne (ne_of_none q hn)]; exact q⟩⟩
  loc := I.loc
  cell := I.cell
  free := by rw [upd_ne (Ne.symm hL)]; exact I.free
  freeC := fun x c e => by rw [upd_ne (hc x c e)]; exact I.freeC x c e
  pin := fun p hm => by
    obtain ⟨q1, q2, q3⟩ := I.pin p hm
    exact ⟨q1, by rw [upd_ne (hp p hm)]; exact q2, q3⟩
  hok := fun b u e => by
    by_cases hb : b = a
    · subst hb; rw [upd_same] at e; cases e; exact new
    · rw [upd_ne hb] at e
      exact (I.hok b u e).stay (fun c v _ z => z) (fun c z => by rw [upd_ne (ne_of_none z hn)]; exact z) fun c xs z => by rw [upd_ne (ne_of_none z hn)]; exact z
  len := I.len
end

/-- what the clause 'except x as n: y = n' wishes: slot i is n's, slot j is y's -/
def wHold (K : PySem.W.Frag) (cv : Value) (i j : Nat) (Wout : WX) (D : Ends) : WX := fun cls d σ H => d = none ∧ ∃ Ca, cls = .ref Ca ∧ PySem.W.exmOne K cls cv = some true ∧
  ∀ a, H a = none → D.nx (((σ.set i (some (.ref a))).set j (some (.ref a))).set i none) (upd H a (ExV Ca a))
section
variable {X : Cx} {W : WX} {k : Nat} {body : List Stmt} {S : Sm} {x n y : Str} {cv : Value} {i j : Nat} {np np2 py pos pos' posA : Pos}
theorem ps_hold {tb : WX → TS} (hst : X.stack = X.env :: X.outer) (hfr : X.env.frame = some X.env.locals) (hex : X.ex = []) (nd : X.N.Nodup) (hi : X.N[i]? = some n) (hln : X.env.kindOf n = some .local) (hj : X.N[j]? = some y) (hy : X.env.scope.names.lookup y = some .local) (hc : Names X x cv)
    (hsw : swapsWith (.Name n np2) (some (.Name y py)) posA.line X.env = pure false) (hnd : (n == ("__debug__" : Str)) = false) (hncd : (n == ("__classdict__" : Str)) = false)
    (hb : ∀ (W' : WX) (pn : List (Addr × Obj)) (xe : Value → Shared → Prop), Takes (X.tr pn xe) W' → PassesOwn (model X.prog X.w) X.A X.env xe → PSs (X.tr pn xe) body (tb W')) :
    PS X (.Try body [.ExceptHandler (some (.Name x np)) (some n) [.Assign [.Name y py] (.Name n np2) posA] pos'] [] [] pos) (fun D σ H => tb (wHold X.K cv i j W D) D σ H) := by
  refine ⟨fun pins s σ H D I0 h0 => ?_⟩
  have okX := I0.ok
  have fr : X.A.frames = some (X.env :: X.outer) := okX.frames.trans (by rw [hst])
  have land0 := hb (wHold X.K cv i j W D) (X.pn ++ pins) (fun e t1 => wpAny (model X.prog X.w) X.A (noteFrame e X.env) (fun _ t2 => wpAny (model X.prog X.w) X.A (setFlight e none) (fun _ t3 => wpAny (model X.prog X.w) X.A (handleBy e X.env [.ExceptHandler (some (.Name x np)) (some n) [.Assign [.Name y py] (.Name n np2) posA] pos']) (SP X pins D) X.xe t3) X.xe t2) X.xe t1)
  refine wpAny_Try_except (wpAny_mono ((land0 (fun u t0 caught => ?_) PassesOwn.looking).run [] s σ H D (I0.toTry _) h0) (fun fl t1 end1 => ?_) (fun e t1 he => he))
  · obtain ⟨a, B, sI, pins1, σ1, H1, cls, dd, rfl, J0, ground, up, sky, na, os1, bare1, hd0, Ca, rfl, hx, go⟩ := caught
    subst hd0
    have J : Inv X pins σ1 H1 sI := J0.ofTry okX
    rw [hst] at sky
    show wpAny (model X.prog X.w) X.A (noteFrame (.ref a) X.env) _ _ _
    refine Sky.land Zc.steady fr hfr sky fun h3 fly3 up3 => ?_
    have J3 : Inv X pins σ1 H1 { t0 with heap := h3 } := J.landed ground fly3.1 (up.trans up3) os1 bare1
    obtain ⟨oe3, vs3, g3, z3, d3⟩ := fly3.there
    have offFr : a ∉ frs (X.env :: X.outer) := fun hm => by
      obtain ⟨_, o', e', nf⟩ := fly3.2.2.1.mem hm
      rw [g3] at e'; cases e'
      exact nf _ d3
    have aL : a ≠ X.env.locals := fun z => offFr (List.mem_filterMap.mpr ⟨X.env, List.mem_cons_self, by rw [hfr, z]⟩)
    have aF : a ∉ X.fs := fun hm => by
      obtain ⟨ev, m1, m2⟩ := List.mem_filterMap.mp hm
      exact offFr (List.mem_filterMap.mpr ⟨ev, List.mem_cons_of_mem _ m1, m2⟩)
    -- the exception's object stands nowhere in the state without it
    have aI : sI.heap.get? a = none := by
      cases q : sI.heap.get? a with
      | none => rfl
      | some o =>
        have q2 := ground a o q (by rw [hst]; exact offFr)
        have q3 : B.get? a = none := fly3.2.1
        rw [q3] at q2; cases q2
    have a0 : X.s_0.heap.get? a = none := by
      cases q : X.s_0.heap.get? a with
      | none => rfl
      | some o =>
        obtain ⟨o', q2⟩ := J.base.there a o q (by rw [hex]; exact fun z => nomatch z)
        rw [aI] at q2; cases q2
    have aC : ∀ z c, X.env.cells.lookup z = some c → c ≠ a := fun z c e w => by
      obtain ⟨v, o, q, _⟩ := J.cell z c e
      rw [w, aI] at q; cases q
    have aP : ∀ p ∈ X.pn ++ pins, p.1 ≠ a := fun p hm w => by
      have q := (J.pin p hm).1
      rw [w, aI] at q; cases q
    have S3 := J3.suite g3 d3 na aL aF
    refine wpAny_handleBy_cons (codeAny_handlers_test ?_) (by intro q; cases q)
    have looks : PySem.W.Looks (model X.prog X.w) h3 (typeOf (.ref a)) (.ref Ca) := fun A' Q' E' t' kk q => wpAny_typeOf_ref (kk _ _ g3) (by rw [z3.1]; exact q)
    have matches_ := PySem.W.exm_one (M := model X.prog X.w) (J3.kIn) looks hx
    have test : ∀ {Q' : Value → Shared → Prop} {E' : Value → Shared → Prop}, Q' cv { t0 with heap := h3 } → wpAny (model X.prog X.w) (X.A.mark (some (.ref a))) (eval (.Name x np) X.env) Q' E' { t0 with heap := h3 } := fun {Q' E'} q => by
      obtain ⟨c1, c2, c3 | ⟨c3, c4, c5⟩⟩ := hc
      · exact ld_glob (X := X.suite a ((a, oe3) :: (X.pn ++ pins))) S3 c1 c3 q c2
      · exact ld_blt (X := X.suite a ((a, oe3) :: (X.pn ++ pins))) S3 c1 c3 c4 q c5 c2
    refine test (matches_.here (codeAny_handlers_suite_as (HandSPX.lands_againZ fly3 fun h4 fly4 up4 => ?_)))
    have J4 : Inv X pins σ1 H1 { t0 with heap := h4 } := J.landed ground fly4.1 ((up.trans up3).trans up4) os1 bare1
    obtain ⟨oe4, vs4, g4, z4, d4⟩ := fly4.there
    have S4 := J4.suite g4 d4 na aL aF
    refine store_ok (X := X.suite a ((a, oe4) :: (X.pn ++ pins))) (v := .ref a) S4 nd hi (.inl hln) rfl (fun t5 S5 => ?_) (.inr hln)
    have suite := ps_set (X := X.suite a ((a, oe4) :: (X.pn ++ pins))) (i := j) (x := y) (pos := posA) (pos' := py) nd hj (.inl hy) (pe_var (X := X.suite a ((a, oe4) :: (X.pn ++ pins))) (i := i) (pos := np2) hi (.inl hln) hnd hncd) hsw (.inr hy)
    have il : i < σ1.length := by rw [J.len]; exact (List.getElem?_eq_some_iff.mp hi).1
    refine wpAny_mono ((pss_one suite).run [] t5 _ H1 { nx := fun σ' H' => σ' = (σ1.set i (some (.ref a))).set j (some (.ref a)) ∧ H' = H1, rt := fun _ _ => False } S5 ⟨.ref a, List.getElem?_set_self il, rfl, rfl⟩) (fun fl t6 end6 => ?_) (fun _ _ z => False.elim z)
    cases fl with
    | next =>
      obtain ⟨σ6, H6, S6, rfl, rfl⟩ := end6
      have pin6 := S6.pin (a, oe4) (List.mem_append.mpr (.inl List.mem_cons_self))
      have new : ObjOk X.prog X.w (upd H6 a (ExV Ca a)) t6.heap a (ExV Ca a) := ⟨⟨oe4, vs4, pin6.1, z4, d4⟩, ⟨oe4, pin6.1⟩, fun _ _ ⟨o, v, q, r⟩ kk => ⟨o, v, kk o q, r⟩⟩
      exact gone_ok (inv_track (S6.unsuite okX) na a0 aL aC aP new) nd hi hln fun t7 J7 => ⟨_, _, J7, go a na⟩
    | brk => exact (end6.elim fun _ z => z.elim fun _ z => z.2.elim)
    | cont => exact (end6.elim fun _ z => z.elim fun _ z => z.2.elim)
    | ret u => exact (end6.elim fun _ z => z.elim fun _ z => z.elim fun _ z => z.2.2.elim)
  · cases fl with
    | next =>
      obtain ⟨σ', H', J', q⟩ := end1
      exact wpAny_execs_nil ⟨σ', H', J'.ofTry okX, q⟩
    | brk =>
      obtain ⟨σ', H', J', q⟩ := end1
      exact ⟨σ', H', J'.ofTry okX, q⟩
    | cont =>
      obtain ⟨σ', H', J', q⟩ := end1
      exact ⟨σ', H', J'.ofTry okX, q⟩
    | ret u =>
      obtain ⟨v, σ', H', J', r, q⟩ := end1
      exact ⟨v, σ', H', J'.ofTry okX, r, q⟩
/-! ### the try, on pure data -/
def exNames : List Str := ["BadFraction", "BadNumber", "BadOrder", "BadRoad", "BadText", "NotThere", "TooGreat"]
/-- the errors of cs are caught; slot j keeps the error, slot i is the clause's own name -/
def sTry (cs : List Str) (i j : Nat) (S : Sm) : Sm := fun ρ => match S ρ with
  | .ex c ρ' => if c ∈ cs then .nx (((ρ'.set i .u).set j (.d (exn c))).set i .u) else .bad
  | o => o
structure TryOk (X : Cx) (cs : List Str) (x : Str) (cv : Value) : Prop where
  nm : Names X x cv
  ex : ∀ c ∈ cs, ∀ C, X.mg c = some (.ref C) → PySem.W.exmOne X.K (.ref C) cv = some true
theorem dd_try {cs : List Str} (C : Ctx X W k) (i j : Nat) (hc : TryOk X cs x cv) (hb : ∀ (W' : WX) (pn : List (Addr × Obj)) (xe : Value → Shared → Prop), Ctx (X.tr pn xe) W' k → PSs (X.tr pn xe) body (tS X.K X.mg W' S))
    (hst : X.stack = X.env :: X.outer := by rfl) (hfr : X.env.frame = some X.env.locals := by rfl) (hex : X.ex = [] := by rfl) (hi : X.N[i]? = some n := by rfl) (hln : X.env.kindOf n = some .local := by rfl) (hj : X.N[j]? = some y := by rfl) (hy : X.env.scope.names.lookup y = some .local := by rfl)
    (hsw : swapsWith (.Name n np2) (some (.Name y py)) posA.line X.env = pure false := by rfl) (hnd : (n == ("__debug__" : Str)) = false := by decide) (hncd : (n == ("__classdict__" : Str)) = false := by decide) :
    PSD X W (.Try body [.ExceptHandler (some (.Name x np)) (some n) [.Assign [.Name y py] (.Name n np2) posA] pos'] [] [] pos) (sTry cs i j S) :=
  psW (ps_hold (tb := fun W' => tS X.K X.mg W' S) (W := W) hst hfr hex C.nd hi hln hj hy hc.nm hsw hnd hncd fun W' pn xe tk po => hb W' pn xe ⟨C.hr, C.gd, tk, po, C.calm, C.nd⟩) fun D σ H hh => by
    obtain ⟨F0, H0, F, ρ, s, q⟩ := hh
    refine ⟨F0, H0, F, ρ, s, ?_⟩
    unfold sTry at q
    cases eo : S ρ with
    | bad => rw [eo] at q; exact q
    | nx ρ' => rw [eo] at q; exact q
    | bk ρ' => rw [eo] at q; exact q
    | ct ρ' => rw [eo] at q; exact q
    | rt z => rw [eo] at q; cases z <;> exact q
    | ex c ρ' =>
      rw [eo] at q
      intro Ca σ' F' H' e1 a1 s'
      by_cases hm : c ∈ cs
      · simp only [if_pos hm] at q
        refine ⟨rfl, Ca, rfl, hc.ex c hm Ca e1, fun a na => ?_⟩
        have s2 := s'.new (o := ExV Ca a) na
        exact q _ _ _ (a1.trans (same_new (s'.freeF na))) (((s2.unset (i := i)).setD (.exn e1 upd_same)).unset)
      · simp only [if_neg hm] at q
        exact q.elim
end

/-! ### the end of a law -/
/-- the def law, called with the script, hands back True -/
theorem law_end {P : Program} {w : World} {K : PySem.W.Frag} {mg mb : Str → Option Value} {k : Nat} {a fa : Addr} {m : List Dt → Rs Sl} {s1 : Shared} {vs : List Value} {ns : List Int} {x : Str}
    (KX : K.In s1.heap) (g1 : s1.heap.Ns mainGlobals mg) (g2 : s1.heap.Ns builtinsNs mb) (g3 : ∀ y : Str, y ≠ "__name__" → mb y = bootBuiltins y) (g4 : s1.heap.NoLimit) (gn : s1.gens = #[]) (hm : mg x = some (.ref fa))
    (ha : s1.heap.get? a = some { cls := .type "list", data := .seq vs.toArray }) (hi : PyProof.Rows.IntsAre vs ns) (hl : ns.length ≤ sizeLine) (hr : Room k callerA)
    (D : ∀ base : Heap, K.In base → base.Ns mainGlobals mg → DefOk P w K mg base k x 1 m) (hmt : m [scr ns] = .ok (.d (.bool true))) :
    codeAny (model P w) callerA (.call (.ref fa) ⟨[.ref a], []⟩) (fun r s' => r = .ok (.ret (.bool true)) ∧ OldK s1.heap s'.heap ∧ s'.os = s1.os ∧ PyProof.Rows.AllBare s'.gens) s1 := by
  have rv := vals_ints hi
  have vl := hi.length
  have core : ∀ H : Hp, (∀ b u, H b = some u → b = a ∧ ∃ o xs, u = .frz o (.lst xs)) → SqL K H a (ns.map V.int) → HOk P w H s1.heap → (H a ≠ none → K.lookup a = none) →
      codeAny (model P w) callerA (.call (.ref fa) ⟨[.ref a], []⟩) (fun r s' => r = .ok (.ret (.bool true)) ∧ OldK s1.heap s'.heap ∧ s'.os = s1.os ∧ PyProof.Rows.AllBare s'.gens) s1 := by
    intro H hO hS hok hK
    have notA : ∀ {b : Addr} {o : Obj} {es : Array DictEntry} {ep : Nat}, s1.heap.get? b = some o → o.data = .dict es ep → H b = none := fun {b o es ep} e d => by
      cases q : H b with
      | none => rfl
      | some u =>
        obtain ⟨rfl, _⟩ := hO b u q
        rw [ha] at e
        cases e
        exact nomatch (show Data.seq vs.toArray _ = Data.dict es ep from d)
    have ns' : ∀ {b : Addr} {mm : Str → Option Value}, s1.heap.Ns b mm → (hidT s1.heap H).Ns b mm := fun {b mm} z => by
      obtain ⟨o, es, ep, e, d, r⟩ := z
      exact ⟨o, es, ep, hidT_get e (notA e d), d, r⟩
    have kb : K.In (hidT s1.heap H) := fun b o e => hidT_get (KX b o e) (by
      cases q : H b with
      | none => rfl
      | some u =>
        obtain ⟨rfl, _⟩ := hO b u q
        rw [hK (by rw [q]; exact fun z => nomatch z)] at e
        cases e)
    obtain ⟨mc, l1, l2⟩ := g4
    have M : Mod K mg (hidT s1.heap H) := ⟨kb, ns' g1, ⟨mb, ns' g2, g3⟩, mc, ns' l1, l2⟩
    have e0 : Env0 P w K mg (hidT s1.heap H) callerA [] s1 H := ⟨rfl, M, fun b o e => of_hidT e, Nat.le_of_eq (hidT_size _ _), trivial, fun b hb => (nomatch (show b ∈ ([] : List Addr) from hb)), hok, .of_eq gn⟩
    obtain ⟨f, fd, ps, hf, _, hbd, hn, run⟩ := D _ kb (ns' g1)
    rw [hm] at hf
    cases hf
    have bd := hbd s1 [.ref a] KX (by rw [List.append_nil, hn]; rfl)
    rw [List.append_nil] at bd
    refine codeAny_mono (run callerA [] s1 H ⟨[.ref a], []⟩ [.ref a] [.ref a] (fun v _ => v = .bl true) (fun _ _ _ => False) hr rfl e0 bd (.cons rfl .nil) ⟨rfl, H, [scr ns], Same.refl H, .cons (.scr hS) .nil, ?_⟩) fun r s' z => ?_
    · rw [hmt]
      intro v F' H' _ _ _ _ r
      cases r
      rfl
    · cases r with
      | error e =>
        obtain ⟨_, _, _, _, _, _, _, _, _, _, _, _, z⟩ := z
        exact z.elim
      | ok fl =>
        cases fl with
        | next => exact z.elim
        | brk => exact z.elim
        | cont => exact z.elim
        | ret u =>
          obtain ⟨v, H', os, bare, un, hok', r', rfl⟩ := z
          obtain rfl : u = Value.bool true := r'
          refine ⟨rfl, OldK.of_keep fun b o e => ?_, os, bare⟩
          cases q : H b with
          | none => exact un.keep b o e q (fun z => nomatch (show b ∈ ([] : List Addr) from z)) (fun z => nomatch z)
          | some u =>
            obtain ⟨_, ob, xs, rfl⟩ := hO b u q
            obtain ⟨e1, _⟩ := hok b _ q
            obtain ⟨e2, _⟩ := hok' b _ (un.frzs b ob _ q)
            rw [e] at e1
            cases e1
            exact e2
  have len : ns.length = vs.length := vl.symm
  cases hk : K.lookup a with
  | some o =>
    have e := KX a o hk
    rw [ha] at e
    cases e
    exact core (fun _ => none) (fun b u z => nomatch (show (none : Option HO) = some u from z)) (.inr ⟨_, vs.toArray, _, hk, rfl, rfl, rfl, by rw [List.size_toArray, ← len]; exact hl, by simpa using rv⟩) (fun b u z => nomatch (show (none : Option HO) = some u from z)) fun z => absurd rfl z
  | none =>
    have at_ : ∀ b u, (if b = a then some (HO.frz { cls := .type "list", data := .seq vs.toArray } (.lst (ns.map V.int))) else none) = some u → b = a ∧ u = HO.frz { cls := .type "list", data := .seq vs.toArray } (.lst (ns.map V.int)) := fun b u z => by
      by_cases hb : b = a
      · rw [if_pos hb] at z; cases z; exact ⟨hb, rfl⟩
      · rw [if_neg hb] at z; cases z
    refine core (fun b => if b = a then some (.frz { cls := .type "list", data := .seq vs.toArray } (.lst (ns.map V.int))) else none) (fun b u z => ?_) (.inl (.inr ⟨_, if_pos rfl⟩)) (fun b u z => ?_) fun _ => hk
    · obtain ⟨h1, h2⟩ := at_ b u z
      exact ⟨h1, _, _, h2⟩
    · obtain ⟨rfl, rfl⟩ := at_ b u z
      exact ⟨ha, by rw [List.length_map]; exact hl, vs, _, rv, ha⟩
theorem law_walk {l : PySem.W.OpenLaw} {n k : Nat} {q : Program} {loose : List Str} {XP : (Str → Option Value) → Heap → Prop} {YP : World → Heap → Prop} {d : DefRec} {K : Params → PySem.W.Frag} {m : List Dt → Rs Sl}
    (hn : l.most = some n) (hn2 : n ≤ sizeLine) (hdf : d.params.defaults = []) (hr : Room k callerA) (hY : ∀ (w : World) (h : Heap), YP w h → (K w.params).In h)
    (F : ∀ (w : World) (mg : Str → Option Value) (h : Heap), XP mg h → (K w.params).In h → h.Ns mainGlobals mg → ∀ base : Heap, (K w.params).In base → base.Ns mainGlobals mg → DefOk l.prog w (K w.params) mg base k d.name 1 m)
    (hmt : ∀ ns : List Int, ns.length ≤ n → m [scr ns] = .ok (.d (.bool true))) :
    PySem.W.WalkO q loose XP YP l.row.toRowW d [] (fun f vs => PySem.call f vs) :=
  Att.attach_call hn hdf fun w s₀ s1 mg mb fa o pm cd doc a vs ns G Y ho hd hcd hmg hobj hints hlen hg =>
    law_end (hY w _ Y) G.T.g G.T.b G.T.builtins G.T.nolimit hg hmg hobj hints (Nat.le_trans hlen hn2) hr (F w mg s1.heap G.X (hY w _ Y) G.T.g) (hmt ns hlen)
end Sb
set_option Elab.async false
set_option linter.all false
set_option maxRecDepth 100000
set_option maxHeartbeats 4000000
/-! Sb8: lists of ours that are read, texts' methods, what the top has written. -/
namespace Sb
open PySem L2
section
variable {X : Cx} {W : WX} {k : Nat} {e a b c o : Expr} {es : List Expr} {f g h : Env → Rs Dt} {t : Env → Rs Bool} {fa : Env → Rs (List Dt)} {pos apos : Pos}
/-! ### a list of ours read, the result plain -/
def plainD : Dt → Bool
  | .none => true
  | .bool _ => true
  | .int _ => true
  | .str _ => true
  | _ => false
def bor (i : Nat) (f : Env → Rs Dt) : Env → Rs Dt := fun ρ => match ρ[i]? with
  | some (.o xs) => (f (ρ.set i (.d (.list xs)))).bind fun x => if plainD x = true then .ok x else .bad
  | _ => .bad
def borT (i : Nat) (f : Env → Rs Bool) : Env → Rs Bool := fun ρ => match ρ[i]? with
  | some (.o xs) => f (ρ.set i (.d (.list xs)))
  | _ => .bad
theorem den_plain {K : PySem.W.Frag} {mg : Str → Option Value} {F F' : Hp} {v : V} {x : Dt} (h : Den K mg F v x) (p : plainD x = true) : Den K mg F' v x := by
  cases h with
  | non => exact .non
  | bl b => exact .bl b
  | int i => exact .int i
  | str z => exact .str z
  | lst h1 h2 => cases p
  | tup h1 h2 => cases p
  | emp h1 => cases p
  | scr h1 => cases p
  | exn h1 h2 => cases p
theorem SL.back {K : PySem.W.Frag} {mg : Str → Option Value} {F0 H0 F H H1 : Hp} {σ : L2.St} {ρ : Env} (s : SL K mg F0 H0 F H σ ρ) (h : Same H H1) : SL K mg F0 H0 F H1 σ ρ := s.grow (Same.refl F) h (s.fh.trans h) fun a o e => .inl e
theorem pd_bor (i : Nat) (he : PD X W e f) : PD X W e (bor i f) := peW he fun σ H Q hh => by
  obtain ⟨F0, H0, F, ρ, s, q⟩ := hh
  unfold bor at q
  split at q
  · rename_i xs ei
    obtain ⟨F', a1, s1⟩ := s.freeze ei
    refine ⟨F0, H0, F', _, s1, ?_⟩
    cases ef : f (ρ.set i (.d (.list xs))) with
    | bad => rw [ef] at q; exact q
    | exc c =>
      rw [ef] at q
      exact fun Ca F2 H2 e1 b1 b2 s2 => q Ca F H2 e1 (Same.refl F) ⟨b2.h, fun a o z => .inl z⟩ (s.back b2.h)
    | ok x =>
      rw [ef] at q
      intro v F2 H2 b1 b2 s2 r
      obtain ⟨hp, q⟩ := ifG q
      exact q v F H2 (Same.refl F) ⟨b2.h, fun a o z => .inl z⟩ (s.back b2.h) (den_plain r hp)
  · exact q.elim
theorem pt_bor (i : Nat) (he : PTD X W e t) : PTD X W e (borT i t) := ptW he fun σ H Q hh => by
  obtain ⟨F0, H0, F, ρ, s, q⟩ := hh
  unfold borT at q
  split at q
  · rename_i xs ei
    obtain ⟨F', a1, s1⟩ := s.freeze ei
    refine ⟨F0, H0, F', _, s1, ?_⟩
    cases ef : t (ρ.set i (.d (.list xs))) with
    | bad => rw [ef] at q; exact q
    | exc c =>
      rw [ef] at q
      exact fun Ca F2 H2 e1 b1 b2 s2 => q Ca F H2 e1 (Same.refl F) ⟨b2.h, fun a o z => .inl z⟩ (s.back b2.h)
    | ok x =>
      rw [ef] at q
      intro v F2 H2 b1 b2 s2 r
      exact q v F H2 (Same.refl F) ⟨b2.h, fun a o z => .inl z⟩ (s.back b2.h) r
  · exact q.elim
/-! ### a chain as a test -/
theorem pt_chn {op op' : CmpOp} {r r' : R2} {g1 g2 : Dt → Dt → Rs Dt} (ho : OpR X (compareOp op) r) (hs : OpS X r g1) (ho' : OpR X (compareOp op') r') (hs' : OpS X r' g2) (ha : PD X W a f) (hb : PD X W b g) (hc : PD X W c h) (hm : lastMarks [op, op'] [b, c] = false := by rfl) :
    PTD X W (.Compare a [op, op'] [b, c] pos) (tst (chn g1 g2 f g h)) := ptW (pt_chain ho ho' ha hb hc (hm := hm)) fun σ H Q hh => by
  obtain ⟨F0, H0, F, ρ, s, q⟩ := hh
  unfold tTest
  have q2 : EndG X.K X.mg W (fun _ b b' => b = b') F0 H0 σ ρ F H Q ((chn g1 g2 f g h ρ).bind asB) := q
  have go : ∀ R : VK, (∀ v x F1 H1, Same F F1 → Gw F H F1 H1 → SL X.K X.mg F0 H0 F1 H1 σ ρ → Den X.K X.mg F1 v x → EndG X.K X.mg W (fun _ b b' => b = b') F0 H0 σ ρ F1 H1 Q (asB x) → R v H1) → tD X.K X.mg W (chn g1 g2 f g h) σ H R := fun R hR => by
    exact tG.seq s q2 fun v x F1 H1 f1 h1 s1 r1 q1 => hR v x F1 H1 f1 h1 s1 r1 q1
  have := go (fun x H' => ∃ k, x = .bl k ∧ Q k H') fun v x F1 H1 f1 h1 s1 r1 q1 => by
    cases x <;> first | exact q1.elim | skip
    obtain rfl := den_bl r1
    exact ⟨_, rfl, EndG.here q1 s1 rfl⟩
  obtain ⟨F0', H0', F', ρ', s', q'⟩ := this
  refine tG.seq s' (k := fun x => _) q' fun x dx F1 H1 f1 h1 s1 r1 q1 => ?_
  refine tG.seq s1 q1 fun y dy F2 H2 f2 h2 s2 r2 q2 => ?_
  cases e : g1 dx dy with
  | bad => rw [e] at q2; exact q2.elim
  | exc c => rw [e] at q2; exact hs W F0' H0' F2 H2 σ ρ' x y dx dy _ s2 (Den.mono f2 _ _ r1) r2 (by rw [e]; exact q2)
  | ok z =>
    rw [e] at q2
    refine hs W F0' H0' F2 H2 σ ρ' x y dx dy _ s2 (Den.mono f2 _ _ r1) r2 ?_
    rw [e]
    intro v F3 H3 f3 h3 s3 r3
    obtain ⟨k, rfl, q3⟩ := asB_s r3 (EndG.mono q2 f3 h3)
    refine ⟨k, rfl, ?_⟩
    cases k with
    | false => exact EndG.here q3 s3 (.bl _)
    | true =>
      refine tG.seq s3 q3 fun z dz F4 H4 f4 h4 s4 r4 q4 => ?_
      exact hs' W F0' H0' F4 H4 σ ρ' y z dy dz _ s4 (Den.mono (f3.trans f4) _ _ r2) r4 q4

theorem pt_isN {j pos'} (ha : PD X W a f) : PTD X W (.Compare a [.Is] [.Constant .none j pos'] pos) (tst (ap1 (fun x => .ok (.bool (isNone x))) f)) := ptW (pt_cmp (pc_isN ha)) fun σ H Q hh => by
  obtain ⟨F0, H0, F, ρ, s, q⟩ := hh
  have q2 : EndG X.K X.mg W (fun _ b b' => b = b') F0 H0 σ ρ F H Q ((f ρ).bind fun x => .ok (isNone x)) := by
    unfold tst ap1 at q
    cases e : f ρ with
    | bad => rw [e] at q; exact q
    | exc c => rw [e] at q; exact q
    | ok x => rw [e] at q; exact q
  refine tG.seq s q2 fun x dx F1 H1 f1 h1 s1 r1 q1 => ?_
  rw [den_none r1]
  exact ⟨_, rfl, EndG.here q1 s1 rfl⟩
theorem pt_notN {j pos'} (ha : PD X W a f) : PTD X W (.Compare a [.IsNot] [.Constant .none j pos'] pos) (tst (ap1 (fun x => .ok (.bool (!isNone x))) f)) := ptW (pt_cmp (pc_notN ha)) fun σ H Q hh => by
  obtain ⟨F0, H0, F, ρ, s, q⟩ := hh
  have q2 : EndG X.K X.mg W (fun _ b b' => b = b') F0 H0 σ ρ F H Q ((f ρ).bind fun x => .ok (!isNone x)) := by
    unfold tst ap1 at q
    cases e : f ρ with
    | bad => rw [e] at q; exact q
    | exc c => rw [e] at q; exact q
    | ok x => rw [e] at q; exact q
  refine tG.seq s q2 fun x dx F1 H1 f1 h1 s1 r1 q1 => ?_
  rw [den_none r1]
  exact ⟨_, rfl, EndG.here q1 s1 rfl⟩
/-- int(..) of a truth, a number, a text -/
def itD : Dt → Rs Dt
  | .bool b => .ok (.int (if b then 1 else 0))
  | .int i => .ok (.int i)
  | .str z => if z.length ≤ 640 then (ofO (PySem.intText? z)).bind fun n => .ok (.int n) else .bad
  | _ => .bad
def rInt : List V → Hp → VK → Prop := fun xs H Q => ((∃ i, xs = [.int i] ∧ Q (.int i) H) ∨ ∃ k, xs = [.bl k] ∧ Q (.int (if k then 1 else 0)) H) ∨ ∃ a n, xs = [.str a] ∧ PySem.intText? a = some n ∧ a.length ≤ 640 ∧ Q (.int n) H
theorem intR : CallR X (.type "int") rInt := call_int1.or call_int_str
theorem it_s : CalS X rInt (un1 itD) := un1_s fun W F0 H0 F H σ ρ x d Q s r q => by
  cases d <;> first | exact q.elim | skip
  · obtain rfl := den_bl r
    exact .inl (.inr ⟨_, rfl, EndG.here q s (.int _)⟩)
  · obtain rfl := den_int r
    exact .inl (.inl ⟨_, rfl, EndG.here q s (.int _)⟩)
  · obtain rfl := den_str r
    obtain ⟨hc, q⟩ := ifG q
    obtain ⟨n, e, q⟩ := ofO_s q
    exact .inr ⟨_, n, rfl, e, hc, EndG.here q s (.int _)⟩

/-! ### texts -/
def asSs : List Dt → Option (List Str)
  | [] => some []
  | .str i :: r => (asSs r).map (i :: ·)
  | _ => none
theorem asSs_eq : ∀ {xs : List Dt} {ns : List Str}, asSs xs = some ns → xs = ns.map PyData.str
  | [], ns, e => by cases e; rfl
  | .str i :: r, ns, e => by
    unfold asSs at e
    cases q : asSs r with
    | none => rw [q] at e; cases e
    | some m => rw [q] at e; cases e; rw [asSs_eq q]; rfl
  | .none :: _, _, e => by cases e
  | .bool _ :: _, _, e => by cases e
  | .int _ :: _, _, e => by cases e
  | .list _ :: _, _, e => by cases e
  | .tuple _ :: _, _, e => by cases e
  | .dict _ :: _, _, e => by cases e
@[simp] theorem asSs_map (ns : List Str) : asSs (ns.map PyData.str) = some ns := by
  induction ns with
  | nil => rfl
  | cons n ns ih => show (asSs (ns.map PyData.str)).map (n :: ·) = some (n :: ns); rw [ih]; rfl
def mt1 (G : Str → Dt → Rs Dt) (f g : Env → Rs Dt) : Env → Rs Dt := fun ρ => (f ρ).bind fun x => match x with
  | .str z => (g ρ).bind fun y => G z y
  | _ => .bad
def joiD (z : Str) : Dt → Rs Dt
  | .list xs => (ofO (asSs xs)).bind fun ys => if (ys.map (·.length)).sum + ys.length * z.length ≤ lim then .ok (.str (Txt.join z ys)) else .bad
  | _ => .bad
def parD (z : Str) : Dt → Rs Dt
  | .str y => if (y.length == 0) = false ∧ z.length ≤ lim then .ok (.tuple [.str (Txt.partition z y).1, .str (Txt.partition z y).2.1, .str (Txt.partition z y).2.2]) else .bad
  | _ => .bad
def splD (z : Str) : Dt → Rs Dt
  | .str y => if (y.length == 0) = false ∧ z.length + 2 ≤ lim then .ok (.list ((Txt.split z y).map PyData.str)) else .bad
  | _ => .bad
theorem mt1_s {G : Str → Dt → Rs Dt} {r : V → List V → Hp → VK → Prop} (hr : ∀ (F0 H0 F H : Hp) (σ : L2.St) (ρ : Env) (z : Str) (w : V) (y : Dt) (Q : VK), SL X.K X.mg F0 H0 F H σ ρ → Den X.K X.mg F w y → EndG X.K X.mg W (Den X.K X.mg) F0 H0 σ ρ F H Q (G z y) → r (.str z) [w] H Q)
    {σ : L2.St} {H : Hp} {Q : VK} (hh : tD X.K X.mg W (mt1 G f g) σ H Q) : tM1 r (tD X.K X.mg W f) (tD X.K X.mg W g) σ H Q := by
  obtain ⟨F0, H0, F, ρ, s, q⟩ := hh
  refine tG.seq s q fun v d F1 H1 f1 h1 s1 r1 q1 => ?_
  cases d with
  | str z =>
    obtain rfl := den_str r1
    refine ⟨⟨z, rfl⟩, tG.seq s1 q1 fun w y F2 H2 f2 h2 s2 r2 q2 => ?_⟩
    exact hr F0 H0 F2 H2 σ ρ z w y Q s2 r2 q2
  | _ => exact q1.elim
theorem pd_join (ho : PD X W o f) (he : PD X W e g) (hs : starEach [e] X.env = [(false, eval e X.env)] := by rfl) (hbase : attributeBase o "join" X.env (eval o X.env) = eval o X.env := by rfl) (hline : (apos.endLine == pos.line) = true := by rfl) :
    PD X W (.Call (.Attribute o "join" apos) [e] [] pos) (mt1 joiD f g) := peW (pe_join ho he hs hbase hline) fun σ H Q hh => mt1_s (fun F0 H0 F H σ ρ z w y Q s2 r2 q2 => by
    cases y <;> first | exact q2.elim | skip
    obtain ⟨p, vs, rfl, ha, da⟩ := den_lst r2
    obtain ⟨ys, ey, q3⟩ := ofO_s q2
    cases asSs_eq ey
    obtain rfl := da.of_strs
    obtain ⟨hc, q3⟩ := ifG q3
    exact ⟨z, p, ys, rfl, rfl, .inl (SqL.of (s2.fh _ _ ha)), lim_ok hc, EndG.here q3 s2 (.str _)⟩) hh
theorem pd_part (ho : PD X W o f) (he : PD X W e g) (hs : starEach [e] X.env = [(false, eval e X.env)] := by rfl) (hbase : attributeBase o "partition" X.env (eval o X.env) = eval o X.env := by rfl) (hline : (apos.endLine == pos.line) = true := by rfl) :
    PD X W (.Call (.Attribute o "partition" apos) [e] [] pos) (mt1 parD f g) := peW (pe_partition ho he hs hbase hline) fun σ H Q hh => mt1_s (fun F0 H0 F H σ ρ z w y Q s2 r2 q2 => by
    cases y <;> first | exact q2.elim | skip
    obtain rfl := den_str r2
    obtain ⟨hc, q3⟩ := ifG q2
    exact ⟨z, _, rfl, rfl, hc.1, lim_ok hc.2, fun p hp => EndG.new q3 s2 hp (.tup (SqT.of upd_same) (.cons (.str _) (.cons (.str _) (.cons (.str _) .nil))))⟩) hh
theorem pd_split (ho : PD X W o f) (he : PD X W e g) (hs : starEach [e] X.env = [(false, eval e X.env)] := by rfl) (hbase : attributeBase o "split" X.env (eval o X.env) = eval o X.env := by rfl) (hline : (apos.endLine == pos.line) = true := by rfl) :
    PD X W (.Call (.Attribute o "split" apos) [e] [] pos) (mt1 splD f g) := peW (pe_split ho he hs hbase hline) fun σ H Q hh => mt1_s (fun F0 H0 F H σ ρ z w y Q s2 r2 q2 => by
    cases y <;> first | exact q2.elim | skip
    obtain rfl := den_str r2
    obtain ⟨hc, q3⟩ := ifG q2
    exact ⟨z, _, rfl, rfl, hc.1, lim_ok hc.2, fun p hp => EndG.new q3 s2 hp (.lst upd_same (DenAll.strs _))⟩) hh
end

/-! ### what the top has written -/
section
variable {K : PySem.W.Frag} {mg : Str → Option Value}
/-- a constant of the module -/
def GlK (K : PySem.W.Frag) (mg : Str → Option Value) (x : Str) (d : Dt) : Prop := ∃ u v, mg x = some u ∧ RelV v u ∧ ∀ F, Den K mg F v d
theorem glk_int {x : Str} {i : Int} {t : Tok} (h : mg x = some (.int i t)) : GlK K mg x (.int i) := ⟨_, .int i, h, ⟨t, rfl⟩, fun _ => .int i⟩
theorem glk_str {x : Str} {z : Str} {t : Tok} (h : mg x = some (.str z t)) : GlK K mg x (.str z) := ⟨_, .str z, h, ⟨t, rfl⟩, fun _ => .str z⟩
/-- a pair of the module -/
theorem glk_tup {x : Str} {a : Addr} {o : Obj} {its : List Value} {n : Nat} {vs : List V} {ds : List Dt} (h : mg x = some (.ref a)) (hk : K.lookup a = some o) (hc : o.cls = .type "tuple") (hd : o.data = .seq its.toArray n) (hz : its.length ≤ sizeLine) (hv : Vals vs its) (hr : ∀ F, DenAll K mg F vs ds) : GlK K mg x (.tuple ds) :=
  ⟨_, .ref a, h, rfl, fun F => .tup (.inr ⟨o, its.toArray, n, hk, hc, hd, by simpa using hz, by simpa using hv⟩) (hr F)⟩
/-- an own error that may be raised -/
structure RaiseK (K : PySem.W.Frag) (mg : Str → Option Value) (c : Str) (C : Addr) : Prop where
  g : mg c = some (.ref C)
  x : PySem.W.excIn K C [.type "ValueError", .type "Exception", .type "BaseException", .type "object"] "ValueError.__new__" = true
  k : PySem.W.keepIn K (.ref C) = true
  b : PySem.W.subIn K (.ref C) (.type "BaseException") = some true
  t : PySem.W.typeIn K (.ref C) = some (.type "type")
theorem RaiseK.ok {X : Cx} {c : Str} {C : Addr} (h : RaiseK X.K X.mg c C) : RaiseOk X c := ⟨C, h.g, h.x, h.k, raises_own h.b h.t⟩
end
theorem bt_len : bootBuiltins "len" = some (.builtin "len") := by decide +kernel
theorem bt_repr : bootBuiltins "repr" = some (.builtin "repr") := by decide +kernel
theorem bt_min : bootBuiltins "min" = some (.builtin "min") := by decide +kernel
theorem bt_max : bootBuiltins "max" = some (.builtin "max") := by decide +kernel
theorem bt_abs : bootBuiltins "abs" = some (.builtin "abs") := by decide +kernel
theorem bt_sum : bootBuiltins "sum" = some (.builtin "sum") := by decide +kernel
theorem bt_all : bootBuiltins "all" = some (.builtin "all") := by decide +kernel
theorem bt_divmod : bootBuiltins "divmod" = some (.builtin "divmod") := by decide +kernel
theorem bt_int : bootBuiltins "int" = some (.type "int") := by decide +kernel
theorem bt_str : bootBuiltins "str" = some (.type "str") := by decide +kernel
theorem bt_bool : bootBuiltins "bool" = some (.type "bool") := by decide +kernel
theorem bt_list : bootBuiltins "list" = some (.type "list") := by decide +kernel
theorem bt_tuple : bootBuiltins "tuple" = some (.type "tuple") := by decide +kernel
end Sb
set_option Elab.async false
set_option linter.all false
set_option maxRecDepth 100000
set_option maxHeartbeats 4000000
/-! Sb9: the last rules. -/
namespace Sb
open PySem L2
def negD : Dt → Rs Dt
  | .int i => .ok (.int (-i))
  | _ => .bad
section
variable {X : Cx} {W : WX} {k : Nat} {e a b c o : Expr} {es : List Expr} {f g h : Env → Rs Dt} {t : Env → Rs Bool} {fa : Env → Rs (List Dt)} {pos apos : Pos}
theorem pd_neg (ha : PD X W a f) : PD X W (.UnaryOp .USub a pos) (ap1 negD f) := peW (pe_un un_neg ha) fun σ H Q hh => by
  obtain ⟨F0, H0, F, ρ, s, q⟩ := hh
  refine tG.seq s q fun x dx F1 H1 f1 h1 s1 r1 q1 => ?_
  cases dx <;> first | exact q1.elim | skip
  obtain rfl := den_int r1
  exact ⟨_, rfl, EndG.here q1 s1 (.int _)⟩
end
/-! ### errors, as the top has them -/
section
variable {K : PySem.W.Frag} {mg : Str → Option Value}
structure ExcK (K : PySem.W.Frag) (mg : Str → Option Value) (cs : List Str) (n : Str) (cv : Value) : Prop where
  cl : ∀ c ∈ cs, ∀ C, mg c = some (.ref C) → ExcC K C
  kit : ∀ c ∈ cs, ∀ C, mg c = some (.ref C) → PySem.W.kitOne K (.ref C) cv = some (exKin c n)
theorem ExcK.ok {X : Cx} {cs : List Str} {n : Str} {cv : Value} (h : ExcK X.K X.mg cs n cv) : ExcOk X cs n cv := ⟨h.cl, h.kit⟩
structure TryK (K : PySem.W.Frag) (mg : Str → Option Value) (cs : List Str) (x : Str) (C : Addr) : Prop where
  nm : mg x = some (.ref C)
  ex : ∀ c ∈ cs, ∀ C', mg c = some (.ref C') → PySem.W.exmOne K (.ref C') (.ref C) = some true
end
/-! ### facts by k_is -/
section
variable {K : PySem.W.Frag} {mg : Str → Option Value} {h : Heap}
/-- a def of the text, where the top has put it -/
def FK (K : PySem.W.Frag) (x : Str) (st : Stmt) : Prop := ∃ (f : Addr) (fd : FuncData), PySem.W.nsIn K mainGlobals x = some (some (.ref f)) ∧ Fun K x x st f fd
theorem fk_mk {x : Str} {st : Stmt} {f : Addr} {oc : Value} {od an : Option Addr} {osl : Array (Option Value)} {kV doc pm cdv ct : Value} (a : PySem.W.nsIn K mainGlobals x = some (some (.ref f)))
    (l : K.lookup f = some ⟨oc, od, .func (PySem.W.fnOf x x (defArgs st) (defBody st) (defScope st) .none kV doc pm an cdv ct), osl⟩) (c : PySem.W.codeIn K cdv x = true) (k : PySem.W.keepIn K (.ref f) = true) : FK K x st := ⟨f, _, a, fun_mk l c k⟩
structure RK (K : PySem.W.Frag) (x : Str) (C : Addr) : Prop where
  a : PySem.W.nsIn K mainGlobals x = some (some (.ref C))
  x : PySem.W.excIn K C [.type "ValueError", .type "Exception", .type "BaseException", .type "object"] "ValueError.__new__" = true
  k : PySem.W.keepIn K (.ref C) = true
  b : PySem.W.subIn K (.ref C) (.type "BaseException") = some true
  t : PySem.W.typeIn K (.ref C) = some (.type "type")
theorem rk_mk {x : Str} {C : Addr} (a : PySem.W.nsIn K mainGlobals x = some (some (.ref C))) (x' : PySem.W.excIn K C [.type "ValueError", .type "Exception", .type "BaseException", .type "object"] "ValueError.__new__" = true) (k : PySem.W.keepIn K (.ref C) = true)
    (b : PySem.W.subIn K (.ref C) (.type "BaseException") = some true) (t : PySem.W.typeIn K (.ref C) = some (.type "type")) : RK K x C := ⟨a, x', k, b, t⟩
theorem RK.ok {x : Str} {C : Addr} (r : RK K x C) (X : K.In h) (G : h.Ns mainGlobals mg) : RaiseK K mg x C := ⟨PySem.W.mg_of X G r.a, r.x, r.k, r.b, r.t⟩
theorem glk_intK {x : Str} {i : Int} {t : Tok} (X : K.In h) (G : h.Ns mainGlobals mg) (a : PySem.W.nsIn K mainGlobals x = some (some (.int i t))) : GlK K mg x (.int i) := glk_int (PySem.W.mg_of X G a)
theorem glk_strK {x : Str} {z : Str} {t : Tok} (X : K.In h) (G : h.Ns mainGlobals mg) (a : PySem.W.nsIn K mainGlobals x = some (some (.str z t))) : GlK K mg x (.str z) := glk_str (PySem.W.mg_of X G a)
theorem glk_pairI {x : Str} {a : Addr} {i j : Int} {t1 t2 : Tok} {dd : Option Addr} {n : Nat} {sl : Array (Option Value)} (X : K.In h) (G : h.Ns mainGlobals mg) (ha : PySem.W.nsIn K mainGlobals x = some (some (.ref a))) (hl : K.lookup a = some ⟨.type "tuple", dd, .seq #[.int i t1, .int j t2] n, sl⟩) : GlK K mg x (.tuple [.int i, .int j]) :=
  glk_tup (its := [.int i t1, .int j t2]) (vs := [.int i, .int j]) (PySem.W.mg_of X G ha) hl rfl rfl (by show 2 ≤ sizeLine; decide) (.cons ⟨_, rfl⟩ (.cons ⟨_, rfl⟩ .nil)) fun F => .cons (.int _) (.cons (.int _) .nil)
theorem glk_pairS {x : Str} {a : Addr} {i j : Str} {t1 t2 : Tok} {dd : Option Addr} {n : Nat} {sl : Array (Option Value)} (X : K.In h) (G : h.Ns mainGlobals mg) (ha : PySem.W.nsIn K mainGlobals x = some (some (.ref a))) (hl : K.lookup a = some ⟨.type "tuple", dd, .seq #[.str i t1, .str j t2] n, sl⟩) : GlK K mg x (.tuple [.str i, .str j]) :=
  glk_tup (its := [.str i t1, .str j t2]) (vs := [.str i, .str j]) (PySem.W.mg_of X G ha) hl rfl rfl (by show 2 ≤ sizeLine; decide) (.cons ⟨_, rfl⟩ (.cons ⟨_, rfl⟩ .nil)) fun F => .cons (.str _) (.cons (.str _) .nil)
/-- a constant that the top reckons -/
theorem glk_loose {p : Program} {x : Str} {i : Int} (hx : PySem.W.XL p [(x, .int i)] mg h) : GlK K mg x (.int i) := by
  obtain ⟨v, e, r⟩ := hx.2.val _ (List.mem_cons_self ..)
  cases r
  exact glk_int e
end
def revD : Dt → Rs Dt
  | .list xs => .ok (.list xs.reverse)
  | _ => .bad
end Sb
set_option Elab.async false
set_option linter.all false
set_option maxRecDepth 100000
set_option maxHeartbeats 4000000
/-! Sb10: reversed lists; the facts of errors put together. -/
namespace Sb
open PySem L2
section
variable {X : Cx} {W : WX} {k : Nat} {e a b c o : Expr} {es : List Expr} {f g h : Env → Rs Dt} {t : Env → Rs Bool} {fa : Env → Rs (List Dt)} {pos apos : Pos}
theorem pd_rev {k' : Nat} {p1 p2 p3 : Pos} (ha : PD X W e f) : PD X W (.Subscript e (.Slice none none (some (.UnaryOp .USub (.Constant (.int 1) k' p1) p2)) p3) pos) (ap1 revD f) := peW (pe_revL ha) fun σ H Q hh => by
  obtain ⟨F0, H0, F, ρ, s, q⟩ := hh
  refine tG.seq s q fun x dx F1 H1 f1 h1 s1 r1 q1 => ?_
  cases dx <;> first | exact q1.elim | skip
  obtain ⟨a, vs, rfl, ha, da⟩ := den_lst r1
  exact ⟨a, vs, rfl, SqL.of (s1.fh _ _ ha), fun p hp => EndG.new q1 s1 hp (.lst upd_same (DenAll.mono (same_new (s1.freeF hp)) _ _ da.reverse))⟩
theorem TryK.ok {cs : List Str} {x : Str} {C : Addr} (h : TryK X.K X.mg cs x C) (hg : Gl X x := by rfl) (hd : (x == ("__debug__" : Str)) = false := by decide) : TryOk X cs x (.ref C) := ⟨⟨hg, hd, Or.inl h.nm⟩, h.ex⟩
end
section
variable {K : PySem.W.Frag} {mg : Str → Option Value}
theorem kit_ref {C D : Addr} {b : Bool} (hd : PySem.W.hasDictIn K D = true) (ht : PySem.W.typeIn K (.ref D) = some (.type "type")) (hs : PySem.W.subIn K (.ref C) (.ref D) = some b) (hh : PySem.W.subIn K (.ref C) (.ref C) = some true) : PySem.W.kitOne K (.ref C) (.ref D) = some b := by
  unfold PySem.W.kitOne
  by_cases e : C = D
  · subst e
    rw [if_pos (by simp)]
    rw [hh] at hs
    exact hs
  · rw [if_neg (by simpa using e)]
    obtain ⟨cd, hc, _⟩ := PySem.W.any_some hd
    show (if ((PySem.W.clsIn K D).isSome && PySem.W.typeIn K (.ref D) == some (.type "type")) = true then PySem.W.subIn K (.ref C) (.ref D) else none) = some b
    rw [if_pos (by rw [hc, ht]; rfl)]
    exact hs
theorem kit_ve {C : Addr} (hs : PySem.W.subIn K (.ref C) (.type "ValueError") = some true) : PySem.W.kitOne K (.ref C) (.type "ValueError") = some true := by
  have e : PySem.W.kitMeta "ValueError" = true := by decide +kernel
  unfold PySem.W.kitOne
  rw [if_neg (by simp)]
  show (if PySem.W.kitMeta "ValueError" = true then PySem.W.subIn K (.ref C) (.type "ValueError") else none) = some true
  rw [if_pos e]
  exact hs
/-- the errors and their places -/
theorem all_nil {α : Type} {P : α → Prop} : ∀ p ∈ ([] : List α), P p := fun _ h => nomatch h
theorem all_cons {α : Type} {P : α → Prop} {x : α} {L : List α} (h : P x) (hs : ∀ p ∈ L, P p) : ∀ p ∈ x :: L, P p := fun p hp => by
  rcases List.mem_cons.mp hp with e | e
  · rw [e]; exact h
  · exact hs p e
theorem of_L {L : List (Str × Addr)} {P : Str → Addr → Prop} (hm : ∀ p ∈ L, mg p.1 = some (.ref p.2)) (hp : ∀ p ∈ L, P p.1 p.2) : ∀ c ∈ L.map (·.1), ∀ C, mg c = some (.ref C) → P c C := by
  intro c hc C e
  rw [List.mem_map] at hc
  obtain ⟨p, hpL, rfl⟩ := hc
  have e2 := hm p hpL
  rw [e2] at e
  have : p.2 = C := by injection e with e; injection e
  subst this
  exact hp p hpL
theorem exck_mk {L : List (Str × Addr)} {n : Str} {cv : Value} (hm : ∀ p ∈ L, mg p.1 = some (.ref p.2)) (hc : ∀ p ∈ L, ExcC K p.2) (hk : ∀ p ∈ L, PySem.W.kitOne K (.ref p.2) cv = some (exKin p.1 n)) : ExcK K mg (L.map (·.1)) n cv :=
  ⟨of_L (P := fun _ C => ExcC K C) hm hc, of_L (P := fun c C => PySem.W.kitOne K (.ref C) cv = some (exKin c n)) hm hk⟩
theorem tryk_mk {L : List (Str × Addr)} {n : Str} {FE : Addr} (hm : ∀ p ∈ L, mg p.1 = some (.ref p.2)) (hn : mg n = some (.ref FE)) (b : PySem.W.subIn K (.ref FE) (.type "BaseException") = some true) (d : PySem.W.hasDictIn K FE = true) (t : PySem.W.typeIn K (.ref FE) = some (.type "type"))
    (hs : ∀ p ∈ L, PySem.W.subIn K (.ref p.2) (.ref FE) = some true) : TryK K mg (L.map (·.1)) n FE :=
  ⟨hn, of_L (P := fun _ C => PySem.W.exmOne K (.ref C) (.ref FE) = some true) hm fun p hp => PySem.W.exm_ref b d t (hs p hp)⟩
end
end Sb
set_option Elab.async false
set_option linter.all false
set_option maxRecDepth 100000
set_option maxHeartbeats 4000000
/-! printed by gen.py: what the defs compute that more than one law reaches -/
namespace Lw
open PySem L2 Sb
def c_FIGURES : Dt := .str "0123456789"
def c_GREATEST : Dt := .int 1000000000000000000000000000000000000000000000000000000000000
def c_MOST_FIGURES : Dt := .int 61
def c_MOST_NUMBER : Dt := .int 60
def c_NOUGHT : Dt := .tuple [.int 0, .int 1]
def c_NO_END : Dt := .tuple [.int 1, .int 0]
def c_STEPS : Dt := .tuple [.str "R", .str "L"]
abbrev exCs : List Str := ["BadFraction", "BadNumber", "BadOrder", "BadRoad", "BadText", "NotThere", "TooGreat"]
noncomputable def F_is_among : Sm := (sRet (anV (isE "int" (vr 0)) (anV (ntV (isE "bool" (vr 0))) (chn leD leD (vr 1) (vr 0) (vr 2)))))
noncomputable def m_is_among : List Dt → Rs Sl := runF 3 3 F_is_among
noncomputable def F_divisor : Sm := (sSeq (sWh (tst (ap2 gtD (vr 1) (cn (.int 0))))
(sPar 0 1 (csA (vr 1) (csA (ap2 modD (vr 0) (vr 1)) nlA))))
(sRet (vr 0)))
noncomputable def m_divisor : List Dt → Rs Sl := runF 2 2 F_divisor
noncomputable def F_is_pair : Sm := (sSeq (sIf (orT (ntT (tst (isE "tuple" (vr 0)))) (tst (ap2 neD (apA (un1 lenD) (csA (vr 0) nlA)) (cn (.int 2)))))
(sRet (cn (.bool false)))
sNil)
(sRet (anV (calE m_is_among (csA (ap2 ixD (vr 0) (cn (.int 0))) (csA (cn (.int 0)) (csA (cn c_GREATEST) nlA)))) (calE m_is_among (csA (ap2 ixD (vr 0) (cn (.int 1))) (csA (cn (.int 0)) (csA (cn c_GREATEST) nlA)))))))
noncomputable def m_is_pair : List Dt → Rs Sl := runF 1 1 F_is_pair
noncomputable def F_is_fraction : Sm := (sRet (anV (calE m_is_pair (csA (vr 0) nlA)) (anV (ap2 gtD (ap2 ixD (vr 0) (cn (.int 0))) (cn (.int 0))) (anV (ap2 gtD (ap2 ixD (vr 0) (cn (.int 1))) (cn (.int 0))) (ap2 eqD (calE m_divisor (csA (ap2 ixD (vr 0) (cn (.int 0))) (csA (ap2 ixD (vr 0) (cn (.int 1))) nlA))) (cn (.int 1)))))))
noncomputable def m_is_fraction : List Dt → Rs Sl := runF 1 1 F_is_fraction
noncomputable def F_is_bound : Sm := (sRet (orV (calE m_is_fraction (csA (vr 0) nlA)) (anV (calE m_is_pair (csA (vr 0) nlA)) (orV (ap2 eqD (vr 0) (cn c_NOUGHT)) (ap2 eqD (vr 0) (cn c_NO_END))))))
noncomputable def m_is_bound : List Dt → Rs Sl := runF 1 1 F_is_bound
noncomputable def F_need_bound : Sm := (sIf (ntT (tst (calE m_is_bound (csA (vr 0) nlA))))
(sExc "BadFraction")
sNil)
noncomputable def m_need_bound : List Dt → Rs Sl := runF 1 1 F_need_bound
noncomputable def F_less : Sm := (sRet (ap2 ltD (ap2 mulD (ap2 ixD (vr 0) (cn (.int 0))) (ap2 ixD (vr 1) (cn (.int 1)))) (ap2 mulD (ap2 ixD (vr 1) (cn (.int 0))) (ap2 ixD (vr 0) (cn (.int 1))))))
noncomputable def m_less : List Dt → Rs Sl := runF 2 2 F_less
noncomputable def F_is_less : Sm := (sSeq (sDrop (calE m_need_bound (csA (vr 0) nlA)))
(sSeq (sDrop (calE m_need_bound (csA (vr 1) nlA)))
(sRet (calE m_less (csA (vr 0) (csA (vr 1) nlA))))))
noncomputable def m_is_less : List Dt → Rs Sl := runF 2 2 F_is_less
noncomputable def F_lowest : Sm := (sSeq (sIf (orT (ntT (tst (calE m_is_among (csA (vr 0) (csA (cn (.int 0)) (csA (cn c_GREATEST) nlA)))))) (ntT (tst (calE m_is_among (csA (vr 1) (csA (cn (.int 1)) (csA (cn c_GREATEST) nlA)))))))
(sExc "BadNumber")
sNil)
(sSeq (sSet 2 (calE m_divisor (csA (vr 0) (csA (vr 1) nlA))))
(sRet (tpE (csA (ap2 divD (vr 0) (vr 2)) (csA (ap2 divD (vr 1) (vr 2)) nlA))))))
noncomputable def m_lowest : List Dt → Rs Sl := runF 2 3 F_lowest
noncomputable def F__law_mixed : Sm := (sSeq (sSet 2 (ap2 modD (ap2 mulD (ap2 addD (ap2 addD (ap2 addD (ap2 modD (vr 0) (cn (.int 1000000007))) (ap2 mulD (ap2 mulD (cn (.int 7919)) (vr 1)) (vr 1))) (ap2 mulD (cn (.int 31)) (vr 1))) (cn (.int 17))) (cn (.int 48271))) (cn (.int 2147483647))))
(sRet (ap2 divD (ap2 modD (ap2 mulD (vr 2) (ap2 addD (ap2 modD (vr 2) (cn (.int 65521))) (cn (.int 16807)))) (cn (.int 2147483629))) (cn (.int 4)))))
noncomputable def m__law_mixed : List Dt → Rs Sl := runF 2 3 F__law_mixed
noncomputable def F__law_number : Sm := (sSeq (sSet 2 (cn (.int 0)))
(sSeq (sIf (tst (ap2 gtD (apA (un1 lenD) (csA (vr 0) nlA)) (cn (.int 0))))
(sSet 2 (ap2 ixD (vr 0) (ap2 modD (vr 1) (apA (un1 lenD) (csA (vr 0) nlA)))))
sNil)
(sRet (calE m__law_mixed (csA (vr 2) (csA (vr 1) nlA))))))
noncomputable def m__law_number : List Dt → Rs Sl := runF 2 3 F__law_number
noncomputable def F__law_kind : Sm := (sSeq (sSet 1 (ap2 addD (ap2 mulD (lsE (csA (cn (.str "fraction")) nlA)) (apA (un1 itD) (csA (isX exCs "BadFraction" (vr 0)) nlA))) (ap2 mulD (lsE (csA (cn (.str "number")) nlA)) (apA (un1 itD) (csA (isX exCs "BadNumber" (vr 0)) nlA)))))
(sSeq (sSet 1 (ap2 addD (ap2 addD (vr 1) (ap2 mulD (lsE (csA (cn (.str "order")) nlA)) (apA (un1 itD) (csA (isX exCs "BadOrder" (vr 0)) nlA)))) (ap2 mulD (lsE (csA (cn (.str "road")) nlA)) (apA (un1 itD) (csA (isX exCs "BadRoad" (vr 0)) nlA)))))
(sSeq (sSet 1 (ap2 addD (ap2 addD (vr 1) (ap2 mulD (lsE (csA (cn (.str "text")) nlA)) (apA (un1 itD) (csA (isX exCs "BadText" (vr 0)) nlA)))) (ap2 mulD (lsE (csA (cn (.str "there")) nlA)) (apA (un1 itD) (csA (isX exCs "NotThere" (vr 0)) nlA)))))
(sSeq (sSet 1 (ap2 addD (vr 1) (ap2 mulD (lsE (csA (cn (.str "great")) nlA)) (apA (un1 itD) (csA (isX exCs "TooGreat" (vr 0)) nlA)))))
(sRet (mt1 joiD (cn (.str "/")) (ap2 addD (vr 1) (ap2 mulD (lsE (csA (cn (.str "base")) nlA)) (apA (un1 itD) (csA (ntV (isX exCs "ValueError" (vr 0))) nlA))))))))))
noncomputable def m__law_kind : List Dt → Rs Sl := runF 1 2 F__law_kind
noncomputable def F__law_common : Sm := (sSeq (sWh (tst (ap2 gtD (vr 1) (cn (.int 0))))
(sPar 0 1 (csA (vr 1) (csA (ap2 modD (vr 0) (vr 1)) nlA))))
(sRet (vr 0)))
noncomputable def m__law_common : List Dt → Rs Sl := runF 2 2 F__law_common
noncomputable def F__law_lowest : Sm := (sSeq (sSet 2 (calE m__law_common (csA (vr 0) (csA (vr 1) nlA))))
(sRet (tpE (csA (ap2 divD (vr 0) (vr 2)) (csA (ap2 divD (vr 1) (vr 2)) nlA)))))
noncomputable def m__law_lowest : List Dt → Rs Sl := runF 2 3 F__law_lowest
noncomputable def F__law_great : Sm := (sSeq (sSet 2 (calE m__law_number (csA (vr 0) (csA (vr 1) nlA))))
(sSeq (sIf (tst (ap2 eqD (ap2 modD (vr 2) (cn (.int 5))) (cn (.int 1))))
(sRet (ap2 subD (ap2 powD (cn (.int 10)) (cn (.int 60))) (ap2 modD (ap2 divD (vr 2) (cn (.int 5))) (cn (.int 4)))))
sNil)
(sRet (ap2 addD (cn (.int 1)) (ap2 modD (ap2 mulD (ap2 mulD (ap2 mulD (vr 2) (calE m__law_number (csA (vr 0) (csA (ap2 addD (vr 1) (cn (.int 1))) nlA)))) (calE m__law_number (csA (vr 0) (csA (ap2 addD (vr 1) (cn (.int 2))) nlA)))) (ap2 powD (cn (.int 7)) (cn (.int 45)))) (ap2 powD (cn (.int 10)) (cn (.int 60))))))))
noncomputable def m__law_great : List Dt → Rs Sl := runF 2 3 F__law_great
noncomputable def F__law_fraction : Sm := (sSeq (sSet 2 (calE m__law_number (csA (vr 0) (csA (vr 1) nlA))))
(sSeq (sIf (tst (ap2 ltD (ap2 modD (vr 2) (cn (.int 6))) (cn (.int 2))))
(sRet (calE m__law_lowest (csA (ap2 addD (cn (.int 1)) (ap2 modD (ap2 divD (vr 2) (cn (.int 6))) (cn (.int 12)))) (csA (ap2 addD (cn (.int 1)) (ap2 modD (ap2 divD (vr 2) (cn (.int 72))) (cn (.int 12)))) nlA))))
sNil)
(sSeq (sIf (tst (ap2 eqD (ap2 modD (vr 2) (cn (.int 6))) (cn (.int 2))))
(sRet (calE m__law_lowest (csA (ap2 addD (cn (.int 1)) (ap2 modD (ap2 divD (vr 2) (cn (.int 6))) (cn (.int 600)))) (csA (ap2 addD (cn (.int 1)) (ap2 modD (ap2 divD (vr 2) (cn (.int 3600))) (cn (.int 600)))) nlA))))
sNil)
(sSeq (sSet 3 (calE m__law_great (csA (vr 0) (csA (ap2 addD (vr 1) (cn (.int 1))) nlA))))
(sSeq (sIf (tst (ap2 eqD (ap2 modD (vr 2) (cn (.int 6))) (cn (.int 3))))
(sRet (calE m__law_lowest (csA (vr 3) (csA (calE m__law_great (csA (vr 0) (csA (ap2 addD (vr 1) (cn (.int 4))) nlA))) nlA))))
sNil)
(sSeq (sIf (tst (ap2 eqD (ap2 modD (vr 2) (cn (.int 6))) (cn (.int 4))))
(sRet (ap2 ixD (lsE (csA (tpE (csA (cn (.int 1)) (csA (vr 3) nlA))) (csA (tpE (csA (vr 3) (csA (cn (.int 1)) nlA))) nlA))) (ap2 modD (ap2 divD (vr 2) (cn (.int 6))) (cn (.int 2)))))
sNil)
(sSeq (sSet 4 (apA (un2 mxD) (csA (cn (.int 1)) (csA (ap2 subD (ap2 subD (vr 3) (cn (.int 1))) (ap2 modD (ap2 divD (vr 2) (cn (.int 12))) (cn (.int 3)))) nlA))))
(sRet (ap2 ixD (lsE (csA (calE m__law_lowest (csA (vr 4) (csA (vr 3) nlA))) (csA (calE m__law_lowest (csA (vr 3) (csA (vr 4) nlA))) nlA))) (ap2 modD (ap2 divD (vr 2) (cn (.int 6))) (cn (.int 2))))))))))))
noncomputable def m__law_fraction : List Dt → Rs Sl := runF 2 5 F__law_fraction
noncomputable def F__law_bound : Sm := (sSeq (sSet 2 (calE m__law_number (csA (vr 0) (csA (ap2 addD (vr 1) (cn (.int 9))) nlA))))
(sRet (ifE (tst (ap2 eqD (ap2 modD (vr 2) (cn (.int 8))) (cn (.int 1)))) (ap2 ixD (lsE (csA (tpE (csA (cn (.int 0)) (csA (cn (.int 1)) nlA))) (csA (tpE (csA (cn (.int 1)) (csA (cn (.int 0)) nlA))) nlA))) (ap2 modD (ap2 divD (vr 2) (cn (.int 8))) (cn (.int 2)))) (calE m__law_fraction (csA (vr 0) (csA (vr 1) nlA))))))
noncomputable def m__law_bound : List Dt → Rs Sl := runF 2 3 F__law_bound
noncomputable def F__law_below : Sm := (sRet (ap2 ltD (ap2 mulD (ap2 ixD (vr 0) (cn (.int 0))) (ap2 ixD (vr 1) (cn (.int 1)))) (ap2 mulD (ap2 ixD (vr 1) (cn (.int 0))) (ap2 ixD (vr 0) (cn (.int 1))))))
noncomputable def m__law_below : List Dt → Rs Sl := runF 2 2 F__law_below
noncomputable def F__law_odd : Sm := (sSeq (sSet 1 (lsE (csA (cn .none) (csA (cn (.int 5)) (csA (cn (.bool true)) (csA (cn (.str "1/2")) (csA (lsE (csA (cn (.int 1)) (csA (cn (.int 2)) nlA))) (csA (tpE nlA) (csA (tpE (csA (cn (.int 1)) nlA)) (csA (tpE (csA (cn (.int 1)) (csA (cn (.int 2)) (csA (cn (.int 3)) nlA)))) (csA (cn (.dict [])) (csA (tpE (csA (cn (.int 2)) (csA (cn (.int 4)) nlA))) (csA (tpE (csA (cn (.int 0)) (csA (cn (.int 0)) nlA))) (csA (tpE (csA (cn (.int 0)) (csA (cn (.int 2)) nlA))) (csA (tpE (csA (cn (.int 2)) (csA (cn (.int 0)) nlA))) (csA (tpE (csA (ap1 negD (cn (.int 1))) (csA (cn (.int 2)) nlA))) (csA (tpE (csA (cn (.int 1)) (csA (ap1 negD (cn (.int 2))) nlA))) nlA)))))))))))))))))
(sSeq (sSet 1 (ap2 addD (vr 1) (lsE (csA (tpE (csA (cn (.bool true)) (csA (cn (.int 2)) nlA))) (csA (tpE (csA (cn (.int 1)) (csA (cn (.bool true)) nlA))) (csA (tpE (csA (cn (.bool false)) (csA (cn (.int 1)) nlA))) (csA (tpE (csA (cn (.str "1")) (csA (cn (.int 2)) nlA))) (csA (tpE (csA (cn (.int 1)) (csA (cn .none) nlA))) (csA (tpE (csA (lsE (csA (cn (.int 1)) nlA)) (csA (cn (.int 2)) nlA))) (csA (tpE (csA (ap2 addD (ap2 powD (cn (.int 10)) (cn (.int 60))) (cn (.int 1))) (csA (cn (.int 1)) nlA))) nlA))))))))))
(sRet (ap2 ixD (ap2 addD (vr 1) (lsE (csA (tpE (csA (cn (.int 1)) (csA (ap2 addD (ap2 powD (cn (.int 10)) (cn (.int 60))) (cn (.int 1))) nlA))) (csA (tpE (csA (cn (.int 6)) (csA (cn (.int 9)) nlA))) (csA (tpE (csA (ap1 negD (cn (.int 1))) (csA (ap1 negD (cn (.int 1))) nlA))) (csA (tpE (csA (tpE (csA (cn (.int 1)) (csA (cn (.int 2)) nlA))) (csA (cn (.int 1)) nlA))) nlA)))))) (ap2 modD (vr 0) (cn (.int 26)))))))
noncomputable def m__law_odd : List Dt → Rs Sl := runF 1 2 F__law_odd
noncomputable def F__law_asked : Sm := (sSeq (sSet 3 (cn .none))
(sSeq (sSet 4 (cn .none))
(sSeq (sTry exCs 5 3
(sSet 4 (ifE (tst (ap2 eqD (vr 0) (cn (.int 0)))) (calE m_is_less (csA (vr 1) (csA (vr 2) nlA))) (calE m_lowest (csA (vr 1) (csA (vr 2) nlA))))))
(sRet (ifE (tst (ap1 (fun x => .ok (.bool (isNone x))) (vr 3))) (vr 4) (calE m__law_kind (csA (vr 3) nlA)))))))
noncomputable def m__law_asked : List Dt → Rs Sl := runF 3 6 F__law_asked
noncomputable def F_stepped : Sm := (sSeq (sIf (tst (ap2 eqD (vr 2) (cn (.str "L"))))
(sRet (tpE (csA (vr 0) (csA (tpE (csA (ap2 addD (ap2 ixD (vr 1) (cn (.int 0))) (ap2 mulD (vr 3) (ap2 ixD (vr 0) (cn (.int 0))))) (csA (ap2 addD (ap2 ixD (vr 1) (cn (.int 1))) (ap2 mulD (vr 3) (ap2 ixD (vr 0) (cn (.int 1))))) nlA))) nlA))))
sNil)
(sRet (tpE (csA (tpE (csA (ap2 addD (ap2 ixD (vr 0) (cn (.int 0))) (ap2 mulD (vr 3) (ap2 ixD (vr 1) (cn (.int 0))))) (csA (ap2 addD (ap2 ixD (vr 0) (cn (.int 1))) (ap2 mulD (vr 3) (ap2 ixD (vr 1) (cn (.int 1))))) nlA))) (csA (vr 1) nlA)))))
noncomputable def m_stepped : List Dt → Rs Sl := runF 4 4 F_stepped
noncomputable def F_middle : Sm := (sRet (tpE (csA (ap2 addD (ap2 ixD (vr 0) (cn (.int 0))) (ap2 ixD (vr 1) (cn (.int 0)))) (csA (ap2 addD (ap2 ixD (vr 0) (cn (.int 1))) (ap2 ixD (vr 1) (cn (.int 1)))) nlA))))
noncomputable def m_middle : List Dt → Rs Sl := runF 2 2 F_middle
noncomputable def F_road_of : Sm := (sSeq (sIf (ntT (tst (calE m_is_fraction (csA (vr 0) nlA))))
(sExc "BadFraction")
sNil)
(sSeq (sUnp (gt2 1 2) (vr 0))
(sSeq (sSetO 3 nlA)
(sSeq (sSet 4 (cn (.int 0)))
(sSeq (sWh (tst (ap2 gtD (vr 2) (cn (.int 0))))
(sSeq (sUnp (gt2 5 6) (apA (un2 dvmD) (csA (vr 1) (csA (vr 2) nlA))))
(sSeq (sPar 1 2 (csA (vr 2) (csA (vr 6) nlA)))
(sSeq (sIf (tst (ap2 eqD (vr 2) (cn (.int 0))))
(sAug 5 (fun i j => i - j) (cn (.int 1)))
sNil)
(sSeq (sIf (tst (ap2 gtD (vr 5) (cn (.int 0))))
(sApp 3 (tpE (csA (ap2 ixD (cn c_STEPS) (vr 4)) (csA (vr 5) nlA))))
sNil)
(sSet 4 (ap2 subD (cn (.int 1)) (vr 4))))))))
(sRetO 3))))))
noncomputable def m_road_of : List Dt → Rs Sl := runF 1 7 F_road_of
noncomputable def F_is_run : Sm := (sSeq (sIf (orT (ntT (tst (isE "tuple" (vr 0)))) (orT (tst (ap2 neD (apA (un1 lenD) (csA (vr 0) nlA)) (cn (.int 2)))) (orT (ntT (tst (isE "str" (ap2 ixD (vr 0) (cn (.int 0)))))) (tst (ap2 ninD (ap2 ixD (vr 0) (cn (.int 0))) (cn c_STEPS))))))
(sRet (cn (.bool false)))
sNil)
(sRet (calE m_is_among (csA (ap2 ixD (vr 0) (cn (.int 1))) (csA (cn (.int 1)) (csA (cn c_GREATEST) nlA))))))
noncomputable def m_is_run : List Dt → Rs Sl := runF 1 1 F_is_run
noncomputable def F_is_road : Sm := (sSeq (sIf (orT (ntT (tst (isE "list" (vr 0)))) (ntT (tst (apA (un1 allD) (csA (lcE (asL (vr 0)) (gt1 1) yesT (calE m_is_run (csA (vr 1) nlA)) [1]) nlA)))))
(sRet (cn (.bool false)))
sNil)
(sRet (apA (un1 allD) (csA (lcE (zp2 (csA (vr 0) (csA (slE (vr 0) (soO (cn (.int 1))) noO) nlA))) (gt2 1 2) yesT (ap2 neD (ap2 ixD (vr 1) (cn (.int 0))) (ap2 ixD (vr 2) (cn (.int 0)))) [1, 2]) nlA))))
noncomputable def m_is_road : List Dt → Rs Sl := runF 1 3 F_is_road
noncomputable def F_fraction_at : Sm := (sSeq (sIf (ntT (tst (calE m_is_road (csA (vr 0) nlA))))
(sExc "BadRoad")
sNil)
(sSeq (sPar 1 2 (csA (cn c_NOUGHT) (csA (cn c_NO_END) nlA)))
(sSeq (sFor (asL (vr 0)) (gt2 3 4)
(sSeq (sUnp (gt2 1 2) (calE m_stepped (csA (vr 1) (csA (vr 2) (csA (vr 3) (csA (vr 4) nlA))))))
(sIf (tst (ap2 gtD (apA (un1 mxP) (csA (calE m_middle (csA (vr 1) (csA (vr 2) nlA))) nlA)) (cn c_GREATEST)))
(sExc "TooGreat")
sNil)))
(sRet (calE m_middle (csA (vr 1) (csA (vr 2) nlA)))))))
noncomputable def m_fraction_at : List Dt → Rs Sl := runF 1 5 F_fraction_at
noncomputable def F_borders : Sm := (sSeq (sPar 1 2 (csA (cn c_NOUGHT) (csA (cn c_NO_END) nlA)))
(sSeq (sFor (asL (calE m_road_of (csA (vr 0) nlA))) (gt2 3 4)
(sUnp (gt2 1 2) (calE m_stepped (csA (vr 1) (csA (vr 2) (csA (vr 3) (csA (vr 4) nlA)))))))
(sRet (tpE (csA (vr 1) (csA (vr 2) nlA))))))
noncomputable def m_borders : List Dt → Rs Sl := runF 1 5 F_borders
noncomputable def F__law_gone : Sm := (sSeq (sUnp (gt2 1 2) (tpE (csA (tpE (csA (cn (.int 0)) (csA (cn (.int 1)) nlA))) (csA (tpE (csA (cn (.int 1)) (csA (cn (.int 0)) nlA))) nlA))))
(sSeq (sSet 3 (cn (.str "")))
(sWh (tst (cn (.bool true)))
(sSeq (sSet 4 (tpE (csA (ap2 addD (ap2 ixD (vr 1) (cn (.int 0))) (ap2 ixD (vr 2) (cn (.int 0)))) (csA (ap2 addD (ap2 ixD (vr 1) (cn (.int 1))) (ap2 ixD (vr 2) (cn (.int 1)))) nlA))))
(sSeq (sIf (tst (ap2 eqD (vr 4) (vr 0)))
(sRet (tpE (csA (vr 3) (csA (tpE (csA (vr 1) (csA (vr 2) nlA))) nlA))))
sNil)
(sIf (tst (ap2 ltD (ap2 mulD (ap2 ixD (vr 0) (cn (.int 0))) (ap2 ixD (vr 4) (cn (.int 1)))) (ap2 mulD (ap2 ixD (vr 4) (cn (.int 0))) (ap2 ixD (vr 0) (cn (.int 1))))))
(sSeq (sSet 3 (ap2 addD (vr 3) (cn (.str "L"))))
(sSet 2 (vr 4)))
(sSeq (sSet 3 (ap2 addD (vr 3) (cn (.str "R"))))
(sSet 1 (vr 4)))))))))
noncomputable def m__law_gone : List Dt → Rs Sl := runF 1 5 F__law_gone
noncomputable def F__law_runs : Sm := (sSeq (sSetO 1 nlA)
(sSeq (sFor (asS (vr 0)) (gt1 2)
(sIf (anT (borT 1 (tst (ap2 neD (vr 1) (lsE nlA)))) (tst (ap2 eqD (ap2 ixD (owI 1 (ap1 negD (cn (.int 1)))) (cn (.int 0))) (vr 2))))
(sPut 1 (tpE (csA (vr 2) (csA (ap2 addD (ap2 ixD (owI 1 (ap1 negD (cn (.int 1)))) (cn (.int 1))) (cn (.int 1))) nlA))) (ap1 negD (cn (.int 1))))
(sApp 1 (tpE (csA (vr 2) (csA (cn (.int 1)) nlA))))))
(sRetO 1)))
noncomputable def m__law_runs : List Dt → Rs Sl := runF 1 3 F__law_runs
noncomputable def F__law_walked : Sm := (sSeq (sUnp (gt2 1 2) (tpE (csA (tpE (csA (cn (.int 0)) (csA (cn (.int 1)) nlA))) (csA (tpE (csA (cn (.int 1)) (csA (cn (.int 0)) nlA))) nlA))))
(sSeq (sFor (asL (vr 0)) (gt2 3 4)
(sIf (tst (ap2 eqD (vr 3) (cn (.str "L"))))
(sSet 2 (tpE (csA (ap2 addD (ap2 ixD (vr 2) (cn (.int 0))) (ap2 mulD (vr 4) (ap2 ixD (vr 1) (cn (.int 0))))) (csA (ap2 addD (ap2 ixD (vr 2) (cn (.int 1))) (ap2 mulD (vr 4) (ap2 ixD (vr 1) (cn (.int 1))))) nlA))))
(sSet 1 (tpE (csA (ap2 addD (ap2 ixD (vr 1) (cn (.int 0))) (ap2 mulD (vr 4) (ap2 ixD (vr 2) (cn (.int 0))))) (csA (ap2 addD (ap2 ixD (vr 1) (cn (.int 1))) (ap2 mulD (vr 4) (ap2 ixD (vr 2) (cn (.int 1))))) nlA))))))
(sRet (tpE (csA (vr 1) (csA (vr 2) nlA))))))
noncomputable def m__law_walked : List Dt → Rs Sl := runF 1 5 F__law_walked
noncomputable def F__law_between : Sm := (sSeq (sUnp (gt2 1 2) (vr 0))
(sRet (tpE (csA (ap2 addD (ap2 ixD (vr 1) (cn (.int 0))) (ap2 ixD (vr 2) (cn (.int 0)))) (csA (ap2 addD (ap2 ixD (vr 1) (cn (.int 1))) (ap2 ixD (vr 2) (cn (.int 1)))) nlA)))))
noncomputable def m__law_between : List Dt → Rs Sl := runF 1 3 F__law_between
noncomputable def F__law_is_road : Sm := (sSeq (sIf (ntT (tst (isE "list" (vr 0))))
(sRet (cn (.bool false)))
sNil)
(sSeq (sFor (enu (csA (vr 0) nlA)) (gt2 1 2)
(sSeq (sIf (orT (ntT (tst (isE "tuple" (vr 2)))) (orT (tst (ap2 neD (apA (un1 lenD) (csA (vr 2) nlA)) (cn (.int 2)))) (orT (tst (ap2 ninD (ap2 ixD (vr 2) (cn (.int 0))) (tpE (csA (cn (.str "L")) (csA (cn (.str "R")) nlA))))) (tst (isE "bool" (ap2 ixD (vr 2) (cn (.int 1))))))))
(sRet (cn (.bool false)))
sNil)
(sIf (orT (ntT (tst (isE "int" (ap2 ixD (vr 2) (cn (.int 1)))))) (orT (tst (ap2 ltD (ap2 ixD (vr 2) (cn (.int 1))) (cn (.int 1)))) (anT (tst (ap2 gtD (vr 1) (cn (.int 0)))) (tst (ap2 eqD (ap2 ixD (ap2 ixD (vr 0) (ap2 subD (vr 1) (cn (.int 1)))) (cn (.int 0))) (ap2 ixD (vr 2) (cn (.int 0))))))))
(sRet (cn (.bool false)))
sNil)))
(sRet (cn (.bool true)))))
noncomputable def m__law_is_road : List Dt → Rs Sl := runF 1 3 F__law_is_road
noncomputable def F__law_tens : Sm := (sSeq (sSet 1 (cn (.int 1)))
(sSeq (sFor (rg1 (csA (vr 0) nlA)) (gt1 2)
(sSet 1 (ap2 mulD (vr 1) (cn (.int 10)))))
(sRet (vr 1))))
noncomputable def m__law_tens : List Dt → Rs Sl := runF 1 3 F__law_tens
noncomputable def F__law_drawn : Sm := (sSeq (sSet 2 (calE m__law_number (csA (vr 0) (csA (cn (.int 500)) nlA))))
(sSeq (sSetO 3 nlA)
(sSeq (sFor (rg1 (csA (apA (un2 mnD) (csA (vr 1) (csA (apA (un1 lenD) (csA (vr 0) nlA)) nlA))) nlA)) (gt1 4)
(sSeq (sSet 5 (calE m__law_number (csA (vr 0) (csA (ap2 addD (cn (.int 501)) (vr 4)) nlA))))
(sSeq (sSet 6 (ap2 ixD (lsE (csA (cn (.int 1)) (csA (ap2 addD (cn (.int 1)) (ap2 modD (ap2 divD (vr 5) (cn (.int 8))) (cn (.int 9)))) (csA (cn (.int 1)) (csA (ap2 addD (cn (.int 1)) (ap2 modD (ap2 divD (vr 5) (cn (.int 8))) (cn (.int 3)))) nlA))))) (ap2 modD (vr 5) (cn (.int 4)))))
(sSeq (sIf (tst (ap2 eqD (ap2 modD (ap2 divD (vr 5) (cn (.int 128))) (cn (.int 40))) (cn (.int 1))))
(sSet 6 (calE m__law_tens (csA (ap2 modD (ap2 divD (vr 5) (cn (.int 5120))) (cn (.int 61))) nlA)))
sNil)
(sApp 3 (tpE (csA (ap2 ixD (cn (.str "LR")) (ap2 modD (ap2 addD (vr 2) (vr 4)) (cn (.int 2)))) (csA (vr 6) nlA))))))))
(sRetO 3))))
noncomputable def m__law_drawn : List Dt → Rs Sl := runF 2 7 F__law_drawn
noncomputable def F_up_to : Sm := (sRet (ap2 divD (ap2 subD (ap2 mulD (ap2 ixD (vr 2) (cn (.int 0))) (ap2 ixD (vr 0) (cn (.int 1)))) (ap2 mulD (ap2 ixD (vr 0) (cn (.int 0))) (ap2 ixD (vr 2) (cn (.int 1))))) (ap2 subD (ap2 mulD (ap2 ixD (vr 1) (cn (.int 0))) (ap2 ixD (vr 2) (cn (.int 1)))) (ap2 mulD (ap2 ixD (vr 2) (cn (.int 0))) (ap2 ixD (vr 1) (cn (.int 1)))))))
noncomputable def m_up_to : List Dt → Rs Sl := runF 3 3 F_up_to
noncomputable def F_down_to : Sm := (sRet (ap2 divD (ap2 subD (ap2 mulD (ap2 ixD (vr 1) (cn (.int 0))) (ap2 ixD (vr 2) (cn (.int 1)))) (ap2 mulD (ap2 ixD (vr 2) (cn (.int 0))) (ap2 ixD (vr 1) (cn (.int 1))))) (ap2 subD (ap2 mulD (ap2 ixD (vr 2) (cn (.int 0))) (ap2 ixD (vr 0) (cn (.int 1)))) (ap2 mulD (ap2 ixD (vr 0) (cn (.int 0))) (ap2 ixD (vr 2) (cn (.int 1)))))))
noncomputable def m_down_to : List Dt → Rs Sl := runF 3 3 F_down_to
noncomputable def F_simplest : Sm := (sSeq (sDrop (calE m_need_bound (csA (vr 0) nlA)))
(sSeq (sDrop (calE m_need_bound (csA (vr 1) nlA)))
(sSeq (sIf (ntT (tst (calE m_less (csA (vr 0) (csA (vr 1) nlA)))))
(sExc "BadOrder")
sNil)
(sSeq (sPar 2 3 (csA (cn c_NOUGHT) (csA (cn c_NO_END) nlA)))
(sSeq (sWh (ntT (anT (tst (calE m_less (csA (vr 0) (csA (calE m_middle (csA (vr 2) (csA (vr 3) nlA))) nlA)))) (tst (calE m_less (csA (calE m_middle (csA (vr 2) (csA (vr 3) nlA))) (csA (vr 1) nlA))))))
(sSeq (sUnp (gt2 2 3) (calE m_stepped (csA (vr 2) (csA (vr 3) (csA (cn (.str "R")) (csA (calE m_up_to (csA (vr 2) (csA (vr 3) (csA (vr 0) nlA)))) nlA))))))
(sUnp (gt2 2 3) (calE m_stepped (csA (vr 2) (csA (vr 3) (csA (cn (.str "L")) (csA (calE m_down_to (csA (vr 2) (csA (vr 3) (csA (vr 1) nlA)))) nlA))))))))
(sSeq (sIf (tst (ap2 gtD (apA (un1 mxP) (csA (calE m_middle (csA (vr 2) (csA (vr 3) nlA))) nlA)) (cn c_GREATEST)))
(sExc "TooGreat")
sNil)
(sRet (calE m_middle (csA (vr 2) (csA (vr 3) nlA))))))))))
noncomputable def m_simplest : List Dt → Rs Sl := runF 2 4 F_simplest
noncomputable def F__law_simplest : Sm := (sSeq (sSetO 2 nlA)
(sSeq (sWh (tst (cn (.bool true)))
(sSeq (sSet 3 (ap2 divD (ap2 ixD (vr 0) (cn (.int 0))) (ap2 ixD (vr 0) (cn (.int 1)))))
(sSeq (sApp 2 (vr 3))
(sSeq (sIf (tst (calE m__law_below (csA (tpE (csA (ap2 addD (vr 3) (cn (.int 1))) (csA (cn (.int 1)) nlA))) (csA (vr 1) nlA))))
sBrk
sNil)
(sPar 0 1 (csA (tpE (csA (ap2 ixD (vr 1) (cn (.int 1))) (csA (ap2 subD (ap2 ixD (vr 1) (cn (.int 0))) (ap2 mulD (vr 3) (ap2 ixD (vr 1) (cn (.int 1))))) nlA))) (csA (tpE (csA (ap2 ixD (vr 0) (cn (.int 1))) (csA (ap2 subD (ap2 ixD (vr 0) (cn (.int 0))) (ap2 mulD (vr 3) (ap2 ixD (vr 0) (cn (.int 1))))) nlA))) nlA)))))))
(sSeq (sSet 4 (tpE (csA (ap2 addD (owI 2 (ap1 negD (cn (.int 1)))) (cn (.int 1))) (csA (cn (.int 1)) nlA))))
(sFrz 2 (sSeq (sFor (asL (ap1 revD (slE (vr 2) noO (soO (ap1 negD (cn (.int 1))))))) (gt1 3)
(sSet 4 (tpE (csA (ap2 addD (ap2 mulD (vr 3) (ap2 ixD (vr 4) (cn (.int 0)))) (ap2 ixD (vr 4) (cn (.int 1)))) (csA (ap2 ixD (vr 4) (cn (.int 0))) nlA)))))
(sRet (vr 4)))))))
noncomputable def m__law_simplest : List Dt → Rs Sl := runF 2 5 F__law_simplest
noncomputable def F_need_asked : Sm := (sSeq (sIf (orT (ntT (tst (calE m_is_bound (csA (vr 0) nlA)))) (tst (ap2 eqD (vr 0) (cn c_NO_END))))
(sExc "BadFraction")
sNil)
(sIf (ntT (tst (calE m_is_among (csA (vr 1) (csA (cn (.int 1)) (csA (cn c_GREATEST) nlA))))))
(sExc "BadNumber")
sNil))
noncomputable def m_need_asked : List Dt → Rs Sl := runF 2 2 F_need_asked
noncomputable def F_room_for : Sm := (sRet (ifE (tst (ap2 eqD (vr 1) (cn (.int 0)))) (cn .none) (ap2 divD (ap2 subD (vr 2) (vr 0)) (vr 1))))
noncomputable def m_room_for : List Dt → Rs Sl := runF 3 3 F_room_for
noncomputable def F_fewer : Sm := (sRet (ifE (tst (ap1 (fun x => .ok (.bool (isNone x))) (vr 1))) (vr 0) (apA (un2 mnD) (csA (vr 0) (csA (vr 1) nlA)))))
noncomputable def m_fewer : List Dt → Rs Sl := runF 2 2 F_fewer
noncomputable def F_low_high : Sm := (sSeq (sDrop (calE m_need_asked (csA (vr 0) (csA (vr 1) nlA))))
(sSeq (sIf (tst (ap2 leD (ap2 ixD (vr 0) (cn (.int 1))) (vr 1)))
(sRet (tpE (csA (vr 0) (csA (vr 0) nlA))))
sNil)
(sSeq (sPar 2 3 (csA (cn c_NOUGHT) (csA (cn c_NO_END) nlA)))
(sSeq (sWh (tst (ap2 leD (ap2 addD (ap2 ixD (vr 2) (cn (.int 1))) (ap2 ixD (vr 3) (cn (.int 1)))) (vr 1)))
(sSeq (sSet 4 (calE m_fewer (csA (calE m_up_to (csA (vr 2) (csA (vr 3) (csA (vr 0) nlA)))) (csA (calE m_room_for (csA (ap2 ixD (vr 2) (cn (.int 1))) (csA (ap2 ixD (vr 3) (cn (.int 1))) (csA (vr 1) nlA)))) nlA))))
(sSeq (sUnp (gt2 2 3) (calE m_stepped (csA (vr 2) (csA (vr 3) (csA (cn (.str "R")) (csA (vr 4) nlA))))))
(sSeq (sSet 4 (calE m_fewer (csA (calE m_down_to (csA (vr 2) (csA (vr 3) (csA (vr 0) nlA)))) (csA (calE m_room_for (csA (ap2 ixD (vr 3) (cn (.int 1))) (csA (ap2 ixD (vr 2) (cn (.int 1))) (csA (vr 1) nlA)))) nlA))))
(sUnp (gt2 2 3) (calE m_stepped (csA (vr 2) (csA (vr 3) (csA (cn (.str "L")) (csA (vr 4) nlA))))))))))
(sRet (tpE (csA (vr 2) (csA (vr 3) nlA))))))))
noncomputable def m_low_high : List Dt → Rs Sl := runF 2 5 F_low_high
noncomputable def F_nearest : Sm := (sSeq (sUnp (gt2 2 3) (calE m_low_high (csA (vr 0) (csA (vr 1) nlA))))
(sSeq (sSet 4 (ap2 mulD (ap2 subD (ap2 mulD (ap2 ixD (vr 0) (cn (.int 0))) (ap2 ixD (vr 2) (cn (.int 1)))) (ap2 mulD (ap2 ixD (vr 2) (cn (.int 0))) (ap2 ixD (vr 0) (cn (.int 1))))) (ap2 ixD (vr 3) (cn (.int 1)))))
(sSeq (sSet 5 (ap2 mulD (ap2 subD (ap2 mulD (ap2 ixD (vr 3) (cn (.int 0))) (ap2 ixD (vr 0) (cn (.int 1)))) (ap2 mulD (ap2 ixD (vr 0) (cn (.int 0))) (ap2 ixD (vr 3) (cn (.int 1))))) (ap2 ixD (vr 2) (cn (.int 1)))))
(sSeq (sIf (tst (ap2 eqD (vr 4) (vr 5)))
(sRet (ifE (tst (ap2 ltD (ap2 ixD (vr 3) (cn (.int 1))) (ap2 ixD (vr 2) (cn (.int 1))))) (vr 3) (vr 2)))
sNil)
(sRet (ifE (tst (ap2 ltD (vr 4) (vr 5))) (vr 2) (vr 3)))))))
noncomputable def m_nearest : List Dt → Rs Sl := runF 2 6 F_nearest
noncomputable def F__law_is_bound : Sm := (sSeq (sIf (orT (ntT (tst (isE "tuple" (vr 0)))) (tst (ap2 neD (apA (un1 lenD) (csA (vr 0) nlA)) (cn (.int 2)))))
(sRet (cn (.bool false)))
sNil)
(sSeq (sIf (tst (ap2 neD (lcE (asT (vr 0)) (gt1 1) (orT (tst (isE "bool" (vr 1))) (ntT (tst (isE "int" (vr 1))))) (vr 1) [1]) (lsE nlA)))
(sRet (cn (.bool false)))
sNil)
(sRet (anV (chn leD leD (cn (.int 0)) (ap2 ixD (vr 0) (cn (.int 0))) (ap2 powD (cn (.int 10)) (cn (.int 60)))) (anV (chn leD leD (cn (.int 1)) (ap2 ixD (vr 0) (cn (.int 1))) (ap2 powD (cn (.int 10)) (cn (.int 60)))) (ap2 eqD (calE m__law_common (csA (ap2 ixD (vr 0) (cn (.int 0))) (csA (ap2 ixD (vr 0) (cn (.int 1))) nlA))) (cn (.int 1))))))))
noncomputable def m__law_is_bound : List Dt → Rs Sl := runF 1 2 F__law_is_bound
noncomputable def F__law_nearest : Sm := (sSeq (sSet 3 (ap2 mulD (ap2 subD (ap2 mulD (ap2 ixD (vr 0) (cn (.int 0))) (ap2 ixD (vr 1) (cn (.int 1)))) (ap2 mulD (ap2 ixD (vr 1) (cn (.int 0))) (ap2 ixD (vr 0) (cn (.int 1))))) (ap2 ixD (vr 2) (cn (.int 1)))))
(sSeq (sSet 4 (ap2 mulD (ap2 subD (ap2 mulD (ap2 ixD (vr 2) (cn (.int 0))) (ap2 ixD (vr 0) (cn (.int 1)))) (ap2 mulD (ap2 ixD (vr 0) (cn (.int 0))) (ap2 ixD (vr 2) (cn (.int 1))))) (ap2 ixD (vr 1) (cn (.int 1)))))
(sSeq (sIf (tst (ap2 neD (vr 3) (vr 4)))
(sRet (ifE (tst (ap2 ltD (vr 3) (vr 4))) (vr 1) (vr 2)))
sNil)
(sRet (ifE (tst (ap2 ltD (ap2 ixD (vr 2) (cn (.int 1))) (ap2 ixD (vr 1) (cn (.int 1))))) (vr 2) (vr 1))))))
noncomputable def m__law_nearest : List Dt → Rs Sl := runF 3 5 F__law_nearest
noncomputable def F__law_far : Sm := (sRet (apA (un1 absD) (csA (ap2 subD (ap2 mulD (ap2 ixD (vr 0) (cn (.int 0))) (ap2 ixD (vr 1) (cn (.int 1)))) (ap2 mulD (ap2 ixD (vr 1) (cn (.int 0))) (ap2 ixD (vr 0) (cn (.int 1))))) nlA)))
noncomputable def m__law_far : List Dt → Rs Sl := runF 2 2 F__law_far
noncomputable def F_need_number : Sm := (sIf (ntT (tst (calE m_is_among (csA (vr 0) (csA (cn (.int 1)) (csA (cn c_MOST_NUMBER) nlA))))))
(sExc "BadNumber")
sNil)
noncomputable def m_need_number : List Dt → Rs Sl := runF 1 1 F_need_number
noncomputable def F_need_in : Sm := (sSeq (sDrop (calE m_need_bound (csA (vr 0) nlA)))
(sSeq (sDrop (calE m_need_number (csA (vr 1) nlA)))
(sIf (orT (ntT (tst (chn leD leD (cn (.int 1)) (ap2 ixD (vr 0) (cn (.int 1))) (vr 1)))) (tst (ap2 gtD (ap2 ixD (vr 0) (cn (.int 0))) (ap2 ixD (vr 0) (cn (.int 1))))))
(sExc "NotThere")
sNil)))
noncomputable def m_need_in : List Dt → Rs Sl := runF 2 2 F_need_in
noncomputable def F_row_of : Sm := (sSeq (sDrop (calE m_need_number (csA (vr 0) nlA)))
(sSeq (sSetO 1 (csA (tpE (csA (cn (.int 0)) (csA (cn (.int 1)) nlA))) nlA))
(sSeq (sSet 2 (tpE (csA (cn (.int 1)) (csA (vr 0) nlA))))
(sSeq (sWh (tst (ap2 neD (owI 1 (ap1 negD (cn (.int 1)))) (tpE (csA (cn (.int 1)) (csA (cn (.int 1)) nlA)))))
(sSeq (sPar 3 4 (csA (owI 1 (ap1 negD (cn (.int 1)))) (csA (vr 2) nlA)))
(sSeq (sApp 1 (vr 4))
(sSeq (sSet 5 (ap2 divD (ap2 addD (vr 0) (ap2 ixD (vr 3) (cn (.int 1)))) (ap2 ixD (vr 4) (cn (.int 1)))))
(sSet 2 (tpE (csA (ap2 subD (ap2 mulD (vr 5) (ap2 ixD (vr 4) (cn (.int 0)))) (ap2 ixD (vr 3) (cn (.int 0)))) (csA (ap2 subD (ap2 mulD (vr 5) (ap2 ixD (vr 4) (cn (.int 1)))) (ap2 ixD (vr 3) (cn (.int 1)))) nlA))))))))
(sRetO 1)))))
noncomputable def m_row_of : List Dt → Rs Sl := runF 1 6 F_row_of
noncomputable def F_counts_below : Sm := (sSeq (sSetO 2 (csA (cn (.int 0)) nlA))
(sSeq (sFor (rg2 (csA (cn (.int 1)) (csA (ap2 addD (vr 1) (cn (.int 1))) nlA))) (gt1 3)
(sSeq (sSet 4 (ap2 divD (ap2 subD (ap2 addD (ap2 mulD (ap2 ixD (vr 0) (cn (.int 0))) (vr 3)) (ap2 ixD (vr 0) (cn (.int 1)))) (cn (.int 1))) (ap2 ixD (vr 0) (cn (.int 1)))))
(sApp 2 (ap2 subD (vr 4) (apA (un1 sumD) (csA (lcE (rg2 (csA (cn (.int 1)) (csA (vr 3) nlA))) (gt1 5) (tst (ap2 eqD (ap2 modD (vr 3) (vr 5)) (cn (.int 0)))) (owI 2 (vr 5)) [5]) nlA))))))
(sRetO 2)))
noncomputable def m_counts_below : List Dt → Rs Sl := runF 2 6 F_counts_below
noncomputable def F_size_of : Sm := (sSeq (sDrop (calE m_need_number (csA (vr 0) nlA)))
(sRet (ap2 addD (cn (.int 1)) (apA (un1 sumD) (csA (calE m_counts_below (csA (tpE (csA (cn (.int 1)) (csA (cn (.int 1)) nlA))) (csA (vr 0) nlA))) nlA)))))
noncomputable def m_size_of : List Dt → Rs Sl := runF 1 1 F_size_of
noncomputable def F_place_of : Sm := (sSeq (sDrop (calE m_need_in (csA (vr 0) (csA (vr 1) nlA))))
(sRet (apA (un1 sumD) (csA (calE m_counts_below (csA (vr 0) (csA (vr 1) nlA))) nlA))))
noncomputable def m_place_of : List Dt → Rs Sl := runF 2 2 F_place_of
noncomputable def F_next_one : Sm := (sSeq (sDrop (calE m_need_in (csA (vr 0) (csA (vr 1) nlA))))
(sSeq (sIf (tst (ap2 eqD (vr 0) (tpE (csA (cn (.int 1)) (csA (cn (.int 1)) nlA)))))
(sExc "NotThere")
sNil)
(sSeq (sSet 2 (vr 1))
(sSeq (sWh (tst (ap2 gtD (ap2 modD (ap2 addD (cn (.int 1)) (ap2 mulD (ap2 ixD (vr 0) (cn (.int 0))) (vr 2))) (ap2 ixD (vr 0) (cn (.int 1)))) (cn (.int 0))))
(sAug 2 (fun i j => i - j) (cn (.int 1))))
(sRet (tpE (csA (ap2 divD (ap2 addD (cn (.int 1)) (ap2 mulD (ap2 ixD (vr 0) (cn (.int 0))) (vr 2))) (ap2 ixD (vr 0) (cn (.int 1)))) (csA (vr 2) nlA))))))))
noncomputable def m_next_one : List Dt → Rs Sl := runF 2 3 F_next_one
noncomputable def F_one_ahead : Sm := (sSeq (sDrop (calE m_need_in (csA (vr 0) (csA (vr 1) nlA))))
(sSeq (sIf (tst (ap2 eqD (vr 0) (tpE (csA (cn (.int 0)) (csA (cn (.int 1)) nlA)))))
(sExc "NotThere")
sNil)
(sSeq (sSet 2 (vr 1))
(sSeq (sWh (tst (ap2 gtD (ap2 modD (ap2 subD (ap2 mulD (ap2 ixD (vr 0) (cn (.int 0))) (vr 2)) (cn (.int 1))) (ap2 ixD (vr 0) (cn (.int 1)))) (cn (.int 0))))
(sAug 2 (fun i j => i - j) (cn (.int 1))))
(sRet (tpE (csA (ap2 divD (ap2 subD (ap2 mulD (ap2 ixD (vr 0) (cn (.int 0))) (vr 2)) (cn (.int 1))) (ap2 ixD (vr 0) (cn (.int 1)))) (csA (vr 2) nlA))))))))
noncomputable def m_one_ahead : List Dt → Rs Sl := runF 2 3 F_one_ahead
noncomputable def F_at_place : Sm := (sSeq (sSet 2 (calE m_row_of (csA (vr 1) nlA)))
(sSeq (sIf (ntT (tst (calE m_is_among (csA (vr 0) (csA (cn (.int 0)) (csA (ap2 subD (apA (un1 lenD) (csA (vr 2) nlA)) (cn (.int 1))) nlA))))))
(sExc "NotThere")
sNil)
(sRet (ap2 ixD (vr 2) (vr 0)))))
noncomputable def m_at_place : List Dt → Rs Sl := runF 2 3 F_at_place
noncomputable def F__law_size : Sm := (sRet (ap2 divD (ap2 mulD (ap2 ixD (vr 0) (cn (.int 0))) (ap2 powD (cn (.int 10)) (cn (.int 9)))) (ap2 ixD (vr 0) (cn (.int 1)))))
noncomputable def m__law_size : List Dt → Rs Sl := runF 1 1 F__law_size
noncomputable def F__law_beside : Sm := (sSeq (sSet 3 (cn .none))
(sSeq (sSet 4 (cn .none))
(sSeq (sTry exCs 5 3
(sSet 4 (ifE (tst (ap2 eqD (vr 0) (cn (.int 0)))) (calE m_next_one (csA (vr 1) (csA (vr 2) nlA))) (calE m_one_ahead (csA (vr 1) (csA (vr 2) nlA))))))
(sRet (ifE (tst (ap1 (fun x => .ok (.bool (isNone x))) (vr 3))) (vr 4) (calE m__law_kind (csA (vr 3) nlA)))))))
noncomputable def m__law_beside : List Dt → Rs Sl := runF 3 6 F__law_beside
noncomputable def F__law_place_right : Sm := (sSeq (sSet 3 (ap2 ixD (vr 0) (vr 2)))
(sSeq (sIf (orT (tst (ap2 neD (apA (un1 rprD) (csA (calE m_at_place (csA (vr 2) (csA (vr 1) nlA))) nlA)) (apA (un1 rprD) (csA (vr 3) nlA)))) (tst (ap2 neD (apA (un1 rprD) (csA (calE m_place_of (csA (vr 3) (csA (vr 1) nlA))) nlA)) (apA (un1 rprD) (csA (vr 2) nlA)))))
(sRet (cn (.bool false)))
sNil)
(sSeq (sSet 4 (lsE (csA (ifE (tst (ap2 ltD (ap2 addD (vr 2) (cn (.int 1))) (apA (un1 lenD) (csA (vr 0) nlA)))) (ap2 ixD (vr 0) (ap2 addD (vr 2) (cn (.int 1)))) (cn (.str "there"))) (csA (ifE (tst (ap2 gtD (vr 2) (cn (.int 0)))) (ap2 ixD (vr 0) (ap2 subD (vr 2) (cn (.int 1)))) (cn (.str "there"))) nlA))))
(sRet (ap2 eqD (apA (un1 rprD) (csA (lsE (csA (calE m__law_beside (csA (cn (.int 0)) (csA (vr 3) (csA (vr 1) nlA)))) (csA (calE m__law_beside (csA (cn (.int 1)) (csA (vr 3) (csA (vr 1) nlA)))) nlA))) nlA)) (apA (un1 rprD) (csA (vr 4) nlA)))))))
noncomputable def m__law_place_right : List Dt → Rs Sl := runF 3 5 F__law_place_right
noncomputable def F__law_grown : Sm := (sSeq (sSetO 2 (csA (ap2 ixD (vr 0) (cn (.int 0))) nlA))
(sSeq (sFor (zp2 (csA (vr 0) (csA (slE (vr 0) (soO (cn (.int 1))) noO) nlA))) (gt2 3 4)
(sSeq (sIf (tst (ap2 eqD (ap2 addD (ap2 ixD (vr 3) (cn (.int 1))) (ap2 ixD (vr 4) (cn (.int 1)))) (ap2 addD (vr 1) (cn (.int 1)))))
(sApp 2 (tpE (csA (ap2 addD (ap2 ixD (vr 3) (cn (.int 0))) (ap2 ixD (vr 4) (cn (.int 0)))) (csA (ap2 addD (vr 1) (cn (.int 1))) nlA))))
sNil)
(sApp 2 (vr 4))))
(sRetO 2)))
noncomputable def m__law_grown : List Dt → Rs Sl := runF 2 5 F__law_grown
noncomputable def F_number_of : Sm := (sSeq (sIf (orT (ntT (tst (chn leD leD (cn (.int 1)) (apA (un1 lenD) (csA (vr 0) nlA)) (cn c_MOST_FIGURES)))) (ntT (tst (apA (un1 allD) (csA (lcE (asS (vr 0)) (gt1 1) yesT (ap2 inD (vr 1) (cn c_FIGURES)) [1]) nlA)))))
(sRet (cn .none))
sNil)
(sSeq (sIf (anT (tst (ap2 eqD (ap2 ixD (vr 0) (cn (.int 0))) (cn (.str "0")))) (tst (ap2 neD (vr 0) (cn (.str "0")))))
(sRet (cn .none))
sNil)
(sRet (apA (un1 itD) (csA (vr 0) nlA)))))
noncomputable def m_number_of : List Dt → Rs Sl := runF 1 2 F_number_of
noncomputable def F_bound_text : Sm := (sSeq (sDrop (calE m_need_bound (csA (vr 0) nlA)))
(sRet (ap2 addD (ap2 addD (apA (un1 strD) (csA (ap2 ixD (vr 0) (cn (.int 0))) nlA)) (cn (.str "/"))) (apA (un1 strD) (csA (ap2 ixD (vr 0) (cn (.int 1))) nlA)))))
noncomputable def m_bound_text : List Dt → Rs Sl := runF 1 1 F_bound_text
noncomputable def F_read_bound : Sm := (sSeq (sIf (ntT (tst (isE "str" (vr 0))))
(sExc "BadText")
sNil)
(sSeq (sUnp (gt3 1 2 3) (mt1 parD (vr 0) (cn (.str "/"))))
(sSeq (sSet 4 (tpE (csA (calE m_number_of (csA (vr 1) nlA)) (csA (calE m_number_of (csA (vr 3) nlA)) nlA))))
(sSeq (sIf (ntT (tst (calE m_is_bound (csA (vr 4) nlA))))
(sExc "BadText")
sNil)
(sRet (vr 4))))))
noncomputable def m_read_bound : List Dt → Rs Sl := runF 1 5 F_read_bound
noncomputable def F_road_text : Sm := (sSeq (sIf (ntT (tst (calE m_is_road (csA (vr 0) nlA))))
(sExc "BadRoad")
sNil)
(sSeq (sIf (tst (ap2 eqD (vr 0) (lsE nlA)))
(sRet (cn (.str ".")))
sNil)
(sRet (mt1 joiD (cn (.str " ")) (lcE (asL (vr 0)) (gt2 1 2) yesT (ap2 addD (vr 1) (apA (un1 strD) (csA (vr 2) nlA))) [1, 2])))))
noncomputable def m_road_text : List Dt → Rs Sl := runF 1 3 F_road_text
noncomputable def F_run_of : Sm := (sSeq (sSet 1 (calE m_number_of (csA (slE (vr 0) (soO (cn (.int 1))) noO) nlA)))
(sSeq (sIf (orT (tst (ap2 ninD (slE (vr 0) noO (soO (cn (.int 1)))) (cn c_STEPS))) (orT (tst (ap1 (fun x => .ok (.bool (isNone x))) (vr 1))) (tst (ap2 eqD (vr 1) (cn (.int 0))))))
(sExc "BadText")
sNil)
(sRet (tpE (csA (slE (vr 0) noO (soO (cn (.int 1)))) (csA (vr 1) nlA))))))
noncomputable def m_run_of : List Dt → Rs Sl := runF 1 2 F_run_of
noncomputable def F_read_road : Sm := (sSeq (sIf (ntT (tst (isE "str" (vr 0))))
(sExc "BadText")
sNil)
(sSeq (sIf (tst (ap2 eqD (vr 0) (cn (.str "."))))
(sRet (lsE nlA))
sNil)
(sSeq (sSet 1 (lcE (asL (mt1 splD (vr 0) (cn (.str " ")))) (gt1 2) yesT (calE m_run_of (csA (vr 2) nlA)) [2]))
(sSeq (sIf (ntT (tst (calE m_is_road (csA (vr 1) nlA))))
(sExc "BadText")
sNil)
(sRet (vr 1))))))
noncomputable def m_read_road : List Dt → Rs Sl := runF 1 3 F_read_road
noncomputable def F__law_written : Sm := (sRet (ifE (tst (ap2 neD (vr 0) (lsE nlA))) (mt1 joiD (cn (.str " ")) (lcE (asL (vr 0)) (gt2 1 2) yesT (ap2 addD (vr 1) (apA (un1 strD) (csA (vr 2) nlA))) [1, 2])) (cn (.str "."))))
noncomputable def m__law_written : List Dt → Rs Sl := runF 1 3 F__law_written
noncomputable def F__law_number_of : Sm := (sSeq (sIf (orT (ntT (tst (chn leD leD (cn (.int 1)) (apA (un1 lenD) (csA (vr 0) nlA)) (cn (.int 61))))) (tst (ap2 neD (lcE (asS (vr 0)) (gt1 1) (tst (ap2 ninD (vr 1) (cn (.str "0123456789")))) (vr 1) [1]) (lsE nlA))))
(sRet (cn .none))
sNil)
(sRet (ifE (tst (ap2 eqD (apA (un1 strD) (csA (apA (un1 itD) (csA (vr 0) nlA)) nlA)) (vr 0))) (apA (un1 itD) (csA (vr 0) nlA)) (cn .none))))
noncomputable def m__law_number_of : List Dt → Rs Sl := runF 1 2 F__law_number_of
noncomputable def F__law_read_bound : Sm := (sSeq (sSet 1 (mt1 splD (vr 0) (cn (.str "/"))))
(sSeq (sIf (tst (ap2 neD (apA (un1 lenD) (csA (vr 1) nlA)) (cn (.int 2))))
(sRet (cn .none))
sNil)
(sSeq (sPar 2 3 (csA (calE m__law_number_of (csA (ap2 ixD (vr 1) (cn (.int 0))) nlA)) (csA (calE m__law_number_of (csA (ap2 ixD (vr 1) (cn (.int 1))) nlA)) nlA)))
(sSeq (sIf (orT (tst (ap1 (fun x => .ok (.bool (isNone x))) (vr 2))) (orT (tst (ap1 (fun x => .ok (.bool (isNone x))) (vr 3))) (orT (tst (ap2 gtD (apA (un2 mxD) (csA (vr 2) (csA (vr 3) nlA))) (ap2 powD (cn (.int 10)) (cn (.int 60))))) (tst (ap2 neD (calE m__law_common (csA (vr 2) (csA (vr 3) nlA))) (cn (.int 1)))))))
(sRet (cn .none))
sNil)
(sRet (tpE (csA (vr 2) (csA (vr 3) nlA))))))))
noncomputable def m__law_read_bound : List Dt → Rs Sl := runF 1 4 F__law_read_bound
noncomputable def F__law_read_road : Sm := (sSeq (sSetO 1 nlA)
(sSeq (sFor (asL (mt1 splD (vr 0) (cn (.str " ")))) (gt1 2)
(sSeq (sIf (tst (ap2 eqD (vr 0) (cn (.str "."))))
sCnt
sNil)
(sSeq (sSet 3 (calE m__law_number_of (csA (slE (vr 2) (soO (cn (.int 1))) noO) nlA)))
(sSeq (sIf (orT (tst (ap2 ninD (slE (vr 2) noO (soO (cn (.int 1)))) (tpE (csA (cn (.str "L")) (csA (cn (.str "R")) nlA))))) (orT (tst (ap1 (fun x => .ok (.bool (isNone x))) (vr 3))) (ntT (tst (chn leD leD (cn (.int 1)) (vr 3) (ap2 powD (cn (.int 10)) (cn (.int 60))))))))
(sRet (cn .none))
sNil)
(sSeq (sIf (anT (borT 1 (tst (ap2 neD (vr 1) (lsE nlA)))) (tst (ap2 eqD (ap2 ixD (owI 1 (ap1 negD (cn (.int 1)))) (cn (.int 0))) (slE (vr 2) noO (soO (cn (.int 1)))))))
(sRet (cn .none))
sNil)
(sApp 1 (tpE (csA (slE (vr 2) noO (soO (cn (.int 1)))) (csA (vr 3) nlA)))))))))
(sRetO 1)))
noncomputable def m__law_read_road : List Dt → Rs Sl := runF 1 4 F__law_read_road
noncomputable def F__law_bent : Sm := (sSeq (sSet 2 (ap2 modD (ap2 divD (vr 1) (cn (.int 5))) (ap2 addD (apA (un1 lenD) (csA (vr 0) nlA)) (cn (.int 1)))))
(sSeq (sSet 3 (ap2 ixD (cn (.str "0123456789/ LR.-+_a\n")) (ap2 modD (ap2 divD (vr 1) (cn (.int 500))) (cn (.int 20)))))
(sSeq (sSet 4 (mt1 splD (vr 0) (cn (.str " "))))
(sSeq (sSet 5 (ap2 modD (ap2 divD (vr 1) (cn (.int 500))) (apA (un1 lenD) (csA (vr 4) nlA))))
(sSeq (sIf (tst (ap2 ltD (ap2 modD (vr 1) (cn (.int 5))) (cn (.int 2))))
(sRet (ap2 addD (ap2 addD (slE (vr 0) noO (soO (vr 2))) (vr 3)) (slE (vr 0) (soO (ap2 addD (vr 2) (ap2 modD (vr 1) (cn (.int 5))))) noO)))
sNil)
(sSeq (sIf (tst (ap2 eqD (ap2 modD (vr 1) (cn (.int 5))) (cn (.int 2))))
(sRet (ap2 addD (slE (vr 0) noO (soO (vr 2))) (slE (vr 0) (soO (ap2 addD (vr 2) (cn (.int 1)))) noO)))
sNil)
(sSeq (sSet 6 (ap2 mulD (cn (.int 2)) (ap2 subD (ap2 modD (vr 1) (cn (.int 5))) (cn (.int 3)))))
(sRet (mt1 joiD (cn (.str " ")) (ap2 addD (ap2 addD (slE (vr 4) noO (soO (vr 5))) (ap2 mulD (lsE (csA (ap2 ixD (vr 4) (vr 5)) nlA)) (vr 6))) (slE (vr 4) (soO (ap2 addD (vr 5) (cn (.int 1)))) noO)))))))))))
noncomputable def m__law_bent : List Dt → Rs Sl := runF 2 7 F__law_bent
noncomputable def F__law_called : Sm := (sSeq (sIf (tst (ap2 eqD (vr 0) (cn (.int 0))))
(sRet (calE m_simplest (csA (vr 1) (csA (vr 2) nlA))))
sNil)
(sSeq (sIf (tst (ap2 eqD (vr 0) (cn (.int 1))))
(sRet (calE m_low_high (csA (vr 1) (csA (vr 2) nlA))))
sNil)
(sSeq (sIf (tst (ap2 eqD (vr 0) (cn (.int 2))))
(sRet (calE m_nearest (csA (vr 1) (csA (vr 2) nlA))))
sNil)
(sSeq (sIf (tst (ap2 eqD (vr 0) (cn (.int 3))))
(sRet (calE m_place_of (csA (vr 1) (csA (vr 2) nlA))))
sNil)
(sSeq (sIf (tst (ap2 eqD (vr 0) (cn (.int 4))))
(sRet (calE m_next_one (csA (vr 1) (csA (vr 2) nlA))))
sNil)
(sSeq (sIf (tst (ap2 eqD (vr 0) (cn (.int 5))))
(sRet (calE m_one_ahead (csA (vr 1) (csA (vr 2) nlA))))
sNil)
(sSeq (sIf (tst (ap2 eqD (vr 0) (cn (.int 6))))
(sRet (calE m_at_place (csA (vr 1) (csA (vr 2) nlA))))
sNil)
(sSeq (sIf (tst (ap2 eqD (vr 0) (cn (.int 7))))
(sRet (calE m_row_of (csA (vr 2) nlA)))
sNil)
(sSeq (sIf (tst (ap2 eqD (vr 0) (cn (.int 8))))
(sRet (calE m_size_of (csA (vr 2) nlA)))
sNil)
(sRet (ifE (tst (ap2 eqD (vr 0) (cn (.int 9)))) (calE m_bound_text (csA (vr 1) nlA)) (calE m_road_text (csA (vr 1) nlA)))))))))))))
noncomputable def m__law_called : List Dt → Rs Sl := runF 3 3 F__law_called
noncomputable def F__law_no_bound : Sm := (sSeq (sSet 1 (lsE (csA (cn .none) (csA (cn (.int 5)) (csA (cn (.bool true)) (csA (cn (.str "1/2")) (csA (lsE (csA (cn (.int 1)) (csA (cn (.int 2)) nlA))) (csA (tpE nlA) (csA (tpE (csA (cn (.int 1)) nlA)) (csA (tpE (csA (cn (.int 1)) (csA (cn (.int 2)) (csA (cn (.int 3)) nlA)))) (csA (cn (.dict [])) (csA (tpE (csA (cn (.int 2)) (csA (cn (.int 4)) nlA))) (csA (tpE (csA (cn (.int 0)) (csA (cn (.int 0)) nlA))) (csA (tpE (csA (cn (.int 0)) (csA (cn (.int 2)) nlA))) (csA (tpE (csA (cn (.int 2)) (csA (cn (.int 0)) nlA))) (csA (tpE (csA (ap1 negD (cn (.int 1))) (csA (cn (.int 2)) nlA))) (csA (tpE (csA (cn (.int 1)) (csA (ap1 negD (cn (.int 2))) nlA))) nlA)))))))))))))))))
(sRet (ap2 ixD (ap2 addD (vr 1) (lsE (csA (tpE (csA (cn (.bool true)) (csA (cn (.int 2)) nlA))) (csA (tpE (csA (cn (.int 1)) (csA (cn (.bool true)) nlA))) (csA (tpE (csA (cn (.str "1")) (csA (cn (.int 2)) nlA))) (csA (tpE (csA (ap2 addD (ap2 powD (cn (.int 10)) (cn (.int 60))) (cn (.int 1))) (csA (cn (.int 1)) nlA))) (csA (tpE (csA (cn (.int 1)) (csA (ap2 addD (ap2 powD (cn (.int 10)) (cn (.int 60))) (cn (.int 1))) nlA))) nlA))))))) (ap2 modD (vr 0) (cn (.int 20))))))
noncomputable def m__law_no_bound : List Dt → Rs Sl := runF 1 2 F__law_no_bound
end Lw
set_option Elab.async false
set_option linter.all false
set_option maxRecDepth 100000
set_option maxHeartbeats 4000000
/-! Mx: plain Lean: how the meanings are reckoned out. -/
namespace Sb
open PySem L2

/-! ### reckoning -/
@[simp] theorem e_sNil (ρ : Env) : sNil ρ = .nx ρ := rfl
@[simp] theorem e_sSeq (S T : Sm) (ρ : Env) : sSeq S T ρ = (S ρ).thn T := rfl
@[simp] theorem e_sSet (i : Nat) (f : Env → Rs Dt) (ρ : Env) : sSet i f ρ = onR (f ρ) ρ fun x => .nx (ρ.set i (.d x)) := rfl
@[simp] theorem e_sSetO (i : Nat) (f : Env → Rs (List Dt)) (ρ : Env) : sSetO i f ρ = onR (f ρ) ρ fun xs => if xs.length ≤ lim then .nx (ρ.set i (.o xs)) else .bad := rfl
@[simp] theorem e_sSetC (i : Nat) (m : List Dt → Rs Sl) (f : Env → Rs (List Dt)) (ρ : Env) : sSetC i m f ρ = onR (f ρ) ρ fun ds => onR (m ds) ρ fun x => match x with
  | .u => .bad
  | .d y => .nx (ρ.set i (.d y))
  | .o ys => .nx (ρ.set i (.o ys)) := rfl
@[simp] theorem e_sPar (i j : Nat) (f : Env → Rs (List Dt)) (ρ : Env) : sPar i j f ρ = onR (f ρ) ρ fun ds => match ds with
  | [x, y] => .nx ((ρ.set i (.d x)).set j (.d y))
  | _ => .bad := rfl
@[simp] theorem e_gt1 (i : Nat) (x : Dt) (ρ : Env) : gt1 i x ρ = some (ρ.set i (.d x)) := rfl
@[simp] theorem e_gt2 (i j : Nat) (x y : Dt) (ρ : Env) : gt2 i j (.tuple [x, y]) ρ = some ((ρ.set i (.d x)).set j (.d y)) := rfl
@[simp] theorem e_gt3 (i j k : Nat) (x y z : Dt) (ρ : Env) : gt3 i j k (.tuple [x, y, z]) ρ = some (((ρ.set i (.d x)).set j (.d y)).set k (.d z)) := rfl
@[simp] theorem e_sUnp (g : Dt → Env → Option Env) (f : Env → Rs Dt) (ρ : Env) : sUnp g f ρ = onR (f ρ) ρ fun x => onO (g x ρ) fun ρ' => .nx ρ' := rfl
@[simp] theorem e_sAug (i : Nat) (g : Int → Int → Int) (f : Env → Rs Dt) (ρ : Env) : sAug i g f ρ = onR (vr i ρ) ρ fun x => onR (f ρ) ρ fun y => match x, y with
  | .int a, .int b => .nx (ρ.set i (.d (.int (g a b))))
  | _, _ => .bad := rfl
@[simp] theorem e_sIf (t : Env → Rs Bool) (S T : Sm) (ρ : Env) : sIf t S T ρ = onR (t ρ) ρ fun b => if b = true then S ρ else T ρ := rfl
@[simp] theorem e_sRet (f : Env → Rs Dt) (ρ : Env) : sRet f ρ = onR (f ρ) ρ fun x => .rt (.d x) := rfl
@[simp] theorem e_sRetN (ρ : Env) : sRetN ρ = .rt (.d .none) := rfl
@[simp] theorem e_sRetO (i : Nat) (ρ : Env) : sRetO i ρ = match ρ[i]? with
  | some (.o xs) => .rt (.o xs)
  | _ => .bad := rfl
@[simp] theorem e_sExc (c : Str) (ρ : Env) : sExc c ρ = .ex c ρ := rfl
@[simp] theorem e_sDrop (f : Env → Rs Dt) (ρ : Env) : sDrop f ρ = onR (f ρ) ρ fun _ => .nx ρ := rfl
@[simp] theorem e_sApp (i : Nat) (f : Env → Rs Dt) (ρ : Env) : sApp i f ρ = match ρ[i]? with
  | some (.o xs) => onR (f ρ) ρ fun x => if xs.length ≤ lim then .nx (ρ.set i (.o (xs ++ [x]))) else .bad
  | _ => .bad := rfl
@[simp] theorem e_sPut (i : Nat) (f g : Env → Rs Dt) (ρ : Env) : sPut i f g ρ = match ρ[i]? with
  | some (.o xs) => onR (f ρ) ρ fun x => onR (g ρ) ρ fun y => match y with
    | .int k => match ixN xs.length k with
      | some j => .nx (ρ.set i (.o (xs.set j x)))
      | none => .bad
    | _ => .bad
  | _ => .bad := rfl
@[simp] theorem e_sBrk (ρ : Env) : sBrk ρ = .bk ρ := rfl
@[simp] theorem e_sCnt (ρ : Env) : sCnt ρ = .ct ρ := rfl
@[simp] theorem e_sFrz (i : Nat) (S : Sm) (ρ : Env) : sFrz i S ρ = match ρ[i]? with
  | some (.o xs) => S (ρ.set i (.d (.list xs)))
  | _ => .bad := rfl
@[simp] theorem e_sFor (I : Env → Rs (List Dt)) (g : Dt → Env → Option Env) (S : Sm) (ρ : Env) : sFor I g S ρ = onR (I ρ) ρ fun xs => forL g S xs ρ := rfl
@[simp] theorem e_sTry (cs : List Str) (i j : Nat) (S : Sm) (ρ : Env) : sTry cs i j S ρ = match S ρ with
  | .ex c ρ' => if c ∈ cs then .nx (((ρ'.set i .u).set j (.d (exn c))).set i .u) else .bad
  | o => o := rfl
@[simp] theorem e_forL_nil (g : Dt → Env → Option Env) (S : Sm) (ρ : Env) : forL g S [] ρ = .nx ρ := rfl
theorem e_forL_cons (g : Dt → Env → Option Env) (S : Sm) (x : Dt) (xs : List Dt) (ρ : Env) : forL g S (x :: xs) ρ = onO (g x ρ) fun ρ1 => turnE (S ρ1) (forL g S xs) := rfl
@[simp] theorem e_vr (i : Nat) (ρ : Env) : vr i ρ = match ρ[i]? with
  | some (.d x) => .ok x
  | _ => .bad := rfl
@[simp] theorem e_cn (x : Dt) (ρ : Env) : cn x ρ = .ok x := rfl
@[simp] theorem e_ap2 (g : Dt → Dt → Rs Dt) (f1 f2 : Env → Rs Dt) (ρ : Env) : ap2 g f1 f2 ρ = (f1 ρ).bind fun x => (f2 ρ).bind fun y => g x y := rfl
@[simp] theorem e_ap1 (g : Dt → Rs Dt) (f : Env → Rs Dt) (ρ : Env) : ap1 g f ρ = (f ρ).bind g := rfl
@[simp] theorem e_chn (g h : Dt → Dt → Rs Dt) (f1 f2 f3 : Env → Rs Dt) (ρ : Env) : chn g h f1 f2 f3 ρ = (f1 ρ).bind fun x => (f2 ρ).bind fun y => (g x y).bind fun b => (asB b).bind fun k => if k = true then (f3 ρ).bind fun z => h y z else .ok (.bool false) := rfl
@[simp] theorem e_anV (f g : Env → Rs Dt) (ρ : Env) : anV f g ρ = (f ρ).bind fun x => (asB x).bind fun k => if k = true then g ρ else .ok (.bool false) := rfl
@[simp] theorem e_orV (f g : Env → Rs Dt) (ρ : Env) : orV f g ρ = (f ρ).bind fun x => (asB x).bind fun k => if k = true then .ok (.bool true) else g ρ := rfl
@[simp] theorem e_ntV (f : Env → Rs Dt) (ρ : Env) : ntV f ρ = (f ρ).bind fun x => (asB x).bind fun k => .ok (.bool (!k)) := rfl
@[simp] theorem e_tst (f : Env → Rs Dt) (ρ : Env) : tst f ρ = (f ρ).bind asB := rfl
@[simp] theorem e_anT (f g : Env → Rs Bool) (ρ : Env) : anT f g ρ = (f ρ).bind fun k => if k = true then g ρ else .ok false := rfl
@[simp] theorem e_orT (f g : Env → Rs Bool) (ρ : Env) : orT f g ρ = (f ρ).bind fun k => if k = true then .ok true else g ρ := rfl
@[simp] theorem e_ntT (f : Env → Rs Bool) (ρ : Env) : ntT f ρ = (f ρ).bind fun k => .ok (!k) := rfl
@[simp] theorem e_ifE (t : Env → Rs Bool) (f g : Env → Rs Dt) (ρ : Env) : ifE t f g ρ = (t ρ).bind fun k => if k = true then f ρ else g ρ := rfl
@[simp] theorem e_nlA (ρ : Env) : nlA ρ = .ok [] := rfl
@[simp] theorem e_csA (f : Env → Rs Dt) (g : Env → Rs (List Dt)) (ρ : Env) : csA f g ρ = (f ρ).bind fun x => (g ρ).bind fun xs => .ok (x :: xs) := rfl
theorem lim1 : lim = 1000000 := rfl
@[simp] theorem e_tpE (f : Env → Rs (List Dt)) (ρ : Env) : tpE f ρ = (f ρ).bind fun xs => if xs.length ≤ lim then .ok (.tuple xs) else .bad := rfl
@[simp] theorem e_lsE (f : Env → Rs (List Dt)) (ρ : Env) : lsE f ρ = (f ρ).bind fun xs => if xs.length ≤ lim then .ok (.list xs) else .bad := rfl
@[simp] theorem lim_num (n : Nat) [OfNat Nat n] : lim = 1000000 := rfl
@[simp] theorem e_slE (f : Env → Rs Dt) (lo hi : Env → Rs (Option Int)) (ρ : Env) : slE f lo hi ρ = (f ρ).bind fun x => (lo ρ).bind fun i => (hi ρ).bind fun j => slD x i j := rfl
@[simp] theorem e_noO (ρ : Env) : noO ρ = .ok none := rfl
@[simp] theorem e_soO (f : Env → Rs Dt) (ρ : Env) : soO f ρ = (f ρ).bind fun x => match x with
  | .int i => .ok (some i)
  | _ => .bad := rfl
@[simp] theorem e_apA (g : List Dt → Rs Dt) (f : Env → Rs (List Dt)) (ρ : Env) : apA g f ρ = (f ρ).bind g := rfl
@[simp] theorem e_owI (i : Nat) (f : Env → Rs Dt) (ρ : Env) : owI i f ρ = match ρ[i]? with
  | some (.o xs) => (f ρ).bind fun x => ixD (.list xs) x
  | _ => .bad := rfl
@[simp] theorem e_isE (T : String) (f : Env → Rs Dt) (ρ : Env) : isE T f ρ = (f ρ).bind (isiD T) := rfl
@[simp] theorem e_calE (m : List Dt → Rs Sl) (fa : Env → Rs (List Dt)) (ρ : Env) : calE m fa ρ = (fa ρ).bind fun ds => (m ds).bind unO := rfl
@[simp] theorem e_unO_d (x : Dt) : unO (.d x) = .ok x := rfl
@[simp] theorem e_unO_o (xs : List Dt) : unO (.o xs) = .ok (.list xs) := rfl
@[simp] theorem e_un1 (g : Dt → Rs Dt) (x : Dt) : un1 g [x] = g x := rfl
@[simp] theorem e_un2 (g : Dt → Dt → Rs Dt) (x y : Dt) : un2 g [x, y] = g x y := rfl
@[simp] theorem e_asB (b : Bool) : asB (.bool b) = .ok b := rfl
@[simp] theorem e_asL (f : Env → Rs Dt) (ρ : Env) : asL f ρ = (f ρ).bind fun x => match x with
  | .list xs => .ok xs
  | _ => .bad := rfl
@[simp] theorem e_asT (f : Env → Rs Dt) (ρ : Env) : asT f ρ = (f ρ).bind fun x => match x with
  | .tuple xs => .ok xs
  | _ => .bad := rfl
@[simp] theorem e_asS (f : Env → Rs Dt) (ρ : Env) : asS f ρ = (f ρ).bind fun x => match x with
  | .str z => .ok (strL z)
  | _ => .bad := rfl
@[simp] theorem e_rg1 (fa : Env → Rs (List Dt)) (ρ : Env) : rg1 fa ρ = (fa ρ).bind fun xs => match xs with
  | [.int j] => if -(2 ^ 60) ≤ j ∧ j ≤ 2 ^ 60 then .ok (rngL 0 j.toNat) else .bad
  | _ => .bad := rfl
@[simp] theorem e_rg2 (fa : Env → Rs (List Dt)) (ρ : Env) : rg2 fa ρ = (fa ρ).bind fun xs => match xs with
  | [.int i, .int j] => if (-(2 ^ 60) ≤ i ∧ i ≤ 2 ^ 60) ∧ -(2 ^ 60) ≤ j ∧ j ≤ 2 ^ 60 then .ok (rngL i (j - i).toNat) else .bad
  | _ => .bad := rfl
@[simp] theorem e_zp2 (fa : Env → Rs (List Dt)) (ρ : Env) : zp2 fa ρ = (fa ρ).bind fun xs => match xs with
  | [.list as, .list bs] => .ok (zipL as bs)
  | _ => .bad := rfl
@[simp] theorem e_enu (fa : Env → Rs (List Dt)) (ρ : Env) : enu fa ρ = (fa ρ).bind fun xs => match xs with
  | [.list as] => .ok (enuL 0 as)
  | _ => .bad := rfl
@[simp] theorem e_lcE (I : Env → Rs (List Dt)) (G : Dt → Env → Option Env) (T : Env → Rs Bool) (E : Env → Rs Dt) (own : List Nat) (ρ : Env) : lcE I G T E own ρ = (I ρ).bind fun ds => if ds.length ≤ lim then (lcL G T E (wpE ρ own) ds).bind fun ys => .ok (.list ys) else .bad := rfl
@[simp] theorem e_wpE_nil (ρ : Env) : wpE ρ [] = ρ := rfl
@[simp] theorem e_wpE_cons (ρ : Env) (v : Nat) (vs : List Nat) : wpE ρ (v :: vs) = (wpE ρ vs).set v .u := rfl
@[simp] theorem e_yesT (ρ : Env) : yesT ρ = .ok true := rfl
@[simp] theorem e_bor (i : Nat) (f : Env → Rs Dt) (ρ : Env) : bor i f ρ = match ρ[i]? with
  | some (.o xs) => (f (ρ.set i (.d (.list xs)))).bind fun x => if plainD x = true then .ok x else .bad
  | _ => .bad := rfl
@[simp] theorem e_borT (i : Nat) (f : Env → Rs Bool) (ρ : Env) : borT i f ρ = match ρ[i]? with
  | some (.o xs) => f (ρ.set i (.d (.list xs)))
  | _ => .bad := rfl
@[simp] theorem e_mt1 (G : Str → Dt → Rs Dt) (f g : Env → Rs Dt) (ρ : Env) : mt1 G f g ρ = (f ρ).bind fun x => match x with
  | .str z => (g ρ).bind fun y => G z y
  | _ => .bad := rfl
@[simp] theorem e_plain_b (b : Bool) : plainD (.bool b) = true := rfl
@[simp] theorem e_plain_i (i : Int) : plainD (.int i) = true := rfl
@[simp] theorem e_plain_s (z : Str) : plainD (.str z) = true := rfl
@[simp] theorem e_plain_n : plainD .none = true := rfl
/-- a def's call -/
@[simp] theorem e_runF (n N : Nat) (S : Sm) (ds : List Dt) : runF n N S ds = if ds.length = n then (match S (ds.map Sl.d ++ List.replicate (N - n) Sl.u) with
  | .nx _ => .ok (.d .none)
  | .rt x => .ok x
  | .ex c _ => .exc c
  | _ => .bad) else .bad := rfl
/-! ### operations -/
@[simp] theorem o_add (i j : Int) : addD (.int i) (.int j) = .ok (.int (i + j)) := rfl
@[simp] theorem o_sub (i j : Int) : subD (.int i) (.int j) = .ok (.int (i - j)) := rfl
theorem o_mul {i j : Int} (hi : Bd i) (hj : Bd j) : mulD (.int i) (.int j) = .ok (.int (i * j)) := by
  show (if Bd i ∧ Bd j then _ else _) = _
  rw [if_pos ⟨hi, hj⟩]
theorem o_div {i j : Int} (h0 : 0 < j) (hj : Bq j) : divD (.int i) (.int j) = .ok (.int (i / j)) := by
  show (if 0 < j ∧ Bq j then _ else _) = _
  rw [if_pos ⟨h0, hj⟩]
theorem o_mod {i j : Int} (h0 : 0 < j) : modD (.int i) (.int j) = .ok (.int (i % j)) := by
  show (if 0 < j then _ else _) = _
  rw [if_pos h0]
@[simp] theorem o_lt (i j : Int) : ltD (.int i) (.int j) = .ok (.bool (decide (i < j))) := rfl
@[simp] theorem o_le (i j : Int) : leD (.int i) (.int j) = .ok (.bool (decide (i ≤ j))) := rfl
@[simp] theorem o_gt (i j : Int) : gtD (.int i) (.int j) = .ok (.bool (decide (j < i))) := rfl
@[simp] theorem o_ge (i j : Int) : geD (.int i) (.int j) = .ok (.bool (decide (j ≤ i))) := rfl
@[simp] theorem o_len_l (xs : List Dt) : lenD (.list xs) = .ok (.int xs.length) := rfl
@[simp] theorem o_len_t (xs : List Dt) : lenD (.tuple xs) = .ok (.int xs.length) := rfl
@[simp] theorem o_len_scr (ns : List Int) : lenD (scr ns) = .ok (.int ns.length) := by
  show Rs.ok (PyData.int (ns.map PyData.int).length) = _
  rw [List.length_map]
@[simp] theorem o_mx (i j : Int) : mxD (.int i) (.int j) = .ok (.int (if j > i then j else i)) := rfl
@[simp] theorem o_mn (i j : Int) : mnD (.int i) (.int j) = .ok (.int (if j < i then j else i)) := rfl
@[simp] theorem o_mxP (i j : Int) : mxP (.tuple [.int i, .int j]) = .ok (.int (if j > i then j else i)) := rfl
@[simp] theorem o_abs (i : Int) : absD (.int i) = .ok (.int (if i < 0 then -i else i)) := rfl
@[simp] theorem o_neg (i : Int) : negD (.int i) = .ok (.int (-i)) := rfl
theorem atI_nat {α : Type} (xs : List α) (i : Int) (h0 : 0 ≤ i) (h1 : i < xs.length) : atI xs i = xs[i.toNat]? := by
  unfold atI ixN
  rw [if_pos h0, if_pos h1]
  rfl
@[simp] theorem o_ix_t0 (x : Dt) (xs : List Dt) : ixD (.tuple (x :: xs)) (.int 0) = .ok x := by
  show ofO (atI (x :: xs) 0) = _
  rw [atI_nat _ _ (by omega) (by simp only [List.length_cons]; omega)]; rfl
@[simp] theorem o_ix_t1 (x y : Dt) (xs : List Dt) : ixD (.tuple (x :: y :: xs)) (.int 1) = .ok y := by
  show ofO (atI (x :: y :: xs) 1) = _
  rw [atI_nat _ _ (by omega) (by simp only [List.length_cons]; omega)]; rfl
@[simp] theorem o_ix_l0 (x : Dt) (xs : List Dt) : ixD (.list (x :: xs)) (.int 0) = .ok x := by
  show ofO (atI (x :: xs) 0) = _
  rw [atI_nat _ _ (by omega) (by simp only [List.length_cons]; omega)]; rfl
@[simp] theorem o_ix_l1 (x y : Dt) (xs : List Dt) : ixD (.list (x :: y :: xs)) (.int 1) = .ok y := by
  show ofO (atI (x :: y :: xs) 1) = _
  rw [atI_nat _ _ (by omega) (by simp only [List.length_cons]; omega)]; rfl
theorem o_ix_l {xs : List Dt} {i : Int} {x : Dt} (h0 : 0 ≤ i) (h : xs[i.toNat]? = some x) : ixD (.list xs) (.int i) = .ok x := by
  show ofO (atI xs i) = _
  have hl : i.toNat < xs.length := by
    rcases Nat.lt_or_ge i.toNat xs.length with l | l
    · exact l
    · rw [List.getElem?_eq_none l] at h; cases h
  rw [atI_nat _ _ h0 (by omega), h]; rfl
theorem o_ix_t {xs : List Dt} {i : Int} {x : Dt} (h0 : 0 ≤ i) (h : xs[i.toNat]? = some x) : ixD (.tuple xs) (.int i) = .ok x := by
  show ofO (atI xs i) = _
  have hl : i.toNat < xs.length := by
    rcases Nat.lt_or_ge i.toNat xs.length with l | l
    · exact l
    · rw [List.getElem?_eq_none l] at h; cases h
  rw [atI_nat _ _ h0 (by omega), h]; rfl
theorem o_ix_scr {ns : List Int} {i : Int} {n : Int} (h0 : 0 ≤ i) (h : ns[i.toNat]? = some n) : ixD (scr ns) (.int i) = .ok (.int n) := by
  show ofO (atI (ns.map PyData.int) i) = _
  have hl : i.toNat < ns.length := by
    rcases Nat.lt_or_ge i.toNat ns.length with l | l
    · exact l
    · rw [List.getElem?_eq_none l] at h; cases h
  rw [atI_nat _ _ h0 (by rw [List.length_map]; omega), List.getElem?_map, h]; rfl
@[simp] theorem o_isN_n : isNone .none = true := rfl
@[simp] theorem o_isN_b (b : Bool) : isNone (.bool b) = false := rfl
@[simp] theorem o_isN_i (b : Int) : isNone (.int b) = false := rfl
@[simp] theorem o_isN_s (b : Str) : isNone (.str b) = false := rfl
@[simp] theorem o_isN_t (b : List Dt) : isNone (.tuple b) = false := rfl
@[simp] theorem o_isN_l (b : List Dt) : isNone (.list b) = false := rfl
@[simp] theorem o_isN_d (b : List (Dt × Dt)) : isNone (.dict b) = false := rfl
@[simp] theorem o_isB (a b : Bool) : isB (.bool a) (.bool b) = .ok (.bool (decide (a = b))) := rfl
@[simp] theorem o_notB (a b : Bool) : notB (.bool a) (.bool b) = .ok (.bool (!decide (a = b))) := rfl
@[simp] theorem o_isi (T : String) (x : Dt) : isiD T x = ((ofO (tyn x)).bind fun n => ofO (kitB n T)).bind fun b => .ok (.bool b) := rfl
@[simp] theorem o_ofO (α : Type) (a : α) : ofO (some a) = .ok a := rfl
@[simp] theorem t_n : tyn .none = some "NoneType" := rfl
@[simp] theorem t_b (b : Bool) : tyn (.bool b) = some "bool" := rfl
@[simp] theorem t_i (b : Int) : tyn (.int b) = some "int" := rfl
@[simp] theorem t_s (b : Str) : tyn (.str b) = some "str" := rfl
@[simp] theorem t_l (b : List Dt) : tyn (.list b) = some "list" := rfl
@[simp] theorem t_t (b : List Dt) : tyn (.tuple b) = some "tuple" := rfl
@[simp] theorem t_d : tyn (.dict []) = some "dict" := rfl
@[simp] theorem kb_NoneType_int : kitB "NoneType" "int" = some false := by decide +kernel
@[simp] theorem kb_NoneType_bool : kitB "NoneType" "bool" = some false := by decide +kernel
@[simp] theorem kb_NoneType_str : kitB "NoneType" "str" = some false := by decide +kernel
@[simp] theorem kb_NoneType_tuple : kitB "NoneType" "tuple" = some false := by decide +kernel
@[simp] theorem kb_NoneType_list : kitB "NoneType" "list" = some false := by decide +kernel
@[simp] theorem kb_bool_int : kitB "bool" "int" = some true := by decide +kernel
@[simp] theorem kb_bool_bool : kitB "bool" "bool" = some true := by decide +kernel
@[simp] theorem kb_bool_str : kitB "bool" "str" = some false := by decide +kernel
@[simp] theorem kb_bool_tuple : kitB "bool" "tuple" = some false := by decide +kernel
@[simp] theorem kb_bool_list : kitB "bool" "list" = some false := by decide +kernel
@[simp] theorem kb_int_int : kitB "int" "int" = some true := by decide +kernel
@[simp] theorem kb_int_bool : kitB "int" "bool" = some false := by decide +kernel
@[simp] theorem kb_int_str : kitB "int" "str" = some false := by decide +kernel
@[simp] theorem kb_int_tuple : kitB "int" "tuple" = some false := by decide +kernel
@[simp] theorem kb_int_list : kitB "int" "list" = some false := by decide +kernel
@[simp] theorem kb_str_int : kitB "str" "int" = some false := by decide +kernel
@[simp] theorem kb_str_bool : kitB "str" "bool" = some false := by decide +kernel
@[simp] theorem kb_str_str : kitB "str" "str" = some true := by decide +kernel
@[simp] theorem kb_str_tuple : kitB "str" "tuple" = some false := by decide +kernel
@[simp] theorem kb_str_list : kitB "str" "list" = some false := by decide +kernel
@[simp] theorem kb_list_int : kitB "list" "int" = some false := by decide +kernel
@[simp] theorem kb_list_bool : kitB "list" "bool" = some false := by decide +kernel
@[simp] theorem kb_list_str : kitB "list" "str" = some false := by decide +kernel
@[simp] theorem kb_list_tuple : kitB "list" "tuple" = some false := by decide +kernel
@[simp] theorem kb_list_list : kitB "list" "list" = some true := by decide +kernel
@[simp] theorem kb_tuple_int : kitB "tuple" "int" = some false := by decide +kernel
@[simp] theorem kb_tuple_bool : kitB "tuple" "bool" = some false := by decide +kernel
@[simp] theorem kb_tuple_str : kitB "tuple" "str" = some false := by decide +kernel
@[simp] theorem kb_tuple_tuple : kitB "tuple" "tuple" = some true := by decide +kernel
@[simp] theorem kb_tuple_list : kitB "tuple" "list" = some false := by decide +kernel
@[simp] theorem kb_dict_int : kitB "dict" "int" = some false := by decide +kernel
@[simp] theorem kb_dict_bool : kitB "dict" "bool" = some false := by decide +kernel
@[simp] theorem kb_dict_str : kitB "dict" "str" = some false := by decide +kernel
@[simp] theorem kb_dict_tuple : kitB "dict" "tuple" = some false := by decide +kernel
@[simp] theorem kb_dict_list : kitB "dict" "list" = some false := by decide +kernel
end Sb
set_option Elab.async false
set_option linter.all false
set_option maxRecDepth 100000
set_option maxHeartbeats 4000000
/-! Ma: what the first defs compute. -/
namespace Lw
open PySem L2 Sb

abbrev fr (a b : Int) : Dt := .tuple [.int a, .int b]
theorem Bd_small {i : Int} (h : -(10 ^ 1000) ≤ i ∧ i ≤ 10 ^ 1000) : Bd i := by
  unfold Bd
  have : i.natAbs ≤ 10 ^ 1000 := by omega
  exact Nat.lt_of_le_of_lt this (by decide +kernel)
theorem Bq_small {i : Int} (h : -(10 ^ 1000) ≤ i ∧ i ≤ 10 ^ 1000) : Bq i := by
  unfold Bq
  have : i.natAbs ≤ 10 ^ 1000 := by omega
  exact Nat.lt_of_le_of_lt this (by decide +kernel)

theorem among_int (i lo hi : Int) : m_is_among [.int i, .int lo, .int hi] = .ok (.d (.bool (decide (lo ≤ i) && decide (i ≤ hi)))) := by
  unfold m_is_among F_is_among
  by_cases h1 : lo ≤ i <;> by_cases h2 : i ≤ hi <;> simp [h1, h2]

def isInt : Dt → Bool
  | .int _ => true
  | _ => false
theorem among_odd {x : Dt} {n : String} (lo hi : Int) (ht : tyn x = some n) (h : isInt x = false) : m_is_among [x, .int lo, .int hi] = .ok (.d (.bool false)) := by
  unfold m_is_among F_is_among
  cases x with
  | int i => exact Bool.noConfusion h
  | dict kvs =>
    cases kvs with
    | nil => simp
    | cons a b => simp [tyn] at ht
  | _ => simp

theorem divisor_gcd : ∀ (n : Nat) (a b : Int), 0 ≤ a → 0 ≤ b → b.toNat = n →
    sWh (tst (ap2 gtD (vr 1) (cn (.int 0)))) (sPar 0 1 (csA (vr 1) (csA (ap2 modD (vr 0) (vr 1)) nlA))) [.d (.int a), .d (.int b)] = .nx [.d (.int (Int.gcd a b)), .d (.int 0)] := by
  intro n
  induction n using Nat.strongRecOn with
  | _ n ih =>
    intro a b ha hb hn
    rw [sWh_step]
    by_cases h : 0 < b
    · have e : Int.gcd a b = Int.gcd b (a % b) := by
        obtain ⟨m, rfl⟩ := Int.eq_ofNat_of_zero_le ha
        obtain ⟨k, rfl⟩ := Int.eq_ofNat_of_zero_le hb
        rw [← Int.natCast_emod, Int.gcd_natCast_natCast, Int.gcd_natCast_natCast, Nat.gcd_comm m k, Nat.gcd_rec k m, Nat.gcd_comm]
      have l := Int.emod_lt_of_pos a h
      have p := Int.emod_nonneg a (Int.ne_of_gt h)
      simp only [e_tst, e_ap2, e_vr, e_cn, List.getElem?_cons_zero, List.getElem?_cons_succ, Rs.bind_ok, o_gt, e_asB, onR_ok, h, decide_true, if_true, e_sPar, e_csA, e_nlA, o_mod h, List.set_cons_zero, List.set_cons_succ, turnE_nx]
      rw [e]
      exact ih (a % b).toNat (by omega) b (a % b) hb p rfl
    · have hb0 : b = 0 := by omega
      subst hb0
      simp [Int.natAbs_of_nonneg ha]
theorem divisor_is {a b : Int} (ha : 0 ≤ a) (hb : 0 ≤ b) : m_divisor [.int a, .int b] = .ok (.d (.int (Int.gcd a b))) := by
  have h := divisor_gcd _ a b ha hb rfl
  unfold m_divisor F_divisor
  simp [h]
theorem common_is {a b : Int} (ha : 0 ≤ a) (hb : 0 ≤ b) : m__law_common [.int a, .int b] = .ok (.d (.int (Int.gcd a b))) := divisor_is ha hb
/-- a number of the script -/
theorem mixed_is {c k : Int} (hk : -(10 ^ 9) ≤ k ∧ k ≤ 10 ^ 9) : ∃ n, m__law_mixed [.int c, .int k] = .ok (.d (.int n)) ∧ 0 ≤ n ∧ n < 536870908 := by
  have m1 := Int.emod_nonneg c (by decide : (1000000007 : Int) ≠ 0)
  have m2 := Int.emod_lt_of_pos c (by decide : (0 : Int) < 1000000007)
  have q1 : 7919 * k * k ≤ 7919 * 10 ^ 9 * 10 ^ 9 ∧ 0 ≤ 7919 * k * k := by
    constructor
    · rcases Int.le_total 0 k with l | l
      · exact Int.mul_le_mul (Int.mul_le_mul_of_nonneg_left hk.2 (by decide)) hk.2 l (by decide)
      · have : 7919 * k * k = 7919 * (-k) * (-k) := by simp [Int.mul_neg, Int.neg_mul]
        rw [this]
        exact Int.mul_le_mul (Int.mul_le_mul_of_nonneg_left (by omega) (by decide)) (by omega) (by omega) (by decide)
    · rw [Int.mul_assoc]
      rcases Int.le_total 0 k with l | l
      · exact Int.mul_nonneg (by decide) (Int.mul_nonneg l l)
      · exact Int.mul_nonneg (by decide) (Int.mul_nonneg_of_nonpos_of_nonpos l l)
  have b1 : Bd (7919 : Int) := Bd_small (by omega)
  have b2 : Bd k := Bd_small (by omega)
  have b3 : Bd (7919 * k) := Bd_small (by omega)
  have b4 : Bd (31 : Int) := Bd_small (by omega)
  have b5 : Bd (48271 : Int) := Bd_small (by omega)
  have b6 : Bd (c % 1000000007 + 7919 * k * k + 31 * k + 17) := Bd_small (by omega)
  generalize hx : (c % 1000000007 + 7919 * k * k + 31 * k + 17) * 48271 % 2147483647 = x
  have x1 : 0 ≤ x := by rw [← hx]; exact Int.emod_nonneg _ (by decide)
  have x2 : x < 2147483647 := by rw [← hx]; exact Int.emod_lt_of_pos _ (by decide)
  have y1 := Int.emod_nonneg x (by decide : (65521 : Int) ≠ 0)
  have y2 := Int.emod_lt_of_pos x (by decide : (0 : Int) < 65521)
  have b7 : Bd x := Bd_small (by omega)
  have b8 : Bd (x % 65521 + 16807) := Bd_small (by omega)
  have z1 := Int.emod_nonneg (x * (x % 65521 + 16807)) (by decide : (2147483629 : Int) ≠ 0)
  have z2 := Int.emod_lt_of_pos (x * (x % 65521 + 16807)) (by decide : (0 : Int) < 2147483629)
  have b9 : Bq (4 : Int) := Bq_small (by omega)
  refine ⟨x * (x % 65521 + 16807) % 2147483629 / 4, ?_, by omega, by omega⟩
  unfold m__law_mixed F__law_mixed
  simp [o_mod, o_mul, o_div, b1, b2, b3, b4, b5, b6, b7, b8, b9, hx]
noncomputable def nmb (ns : List Int) (k : Int) : Int := match m__law_number [scr ns, .int k] with
  | .ok (.d (.int n)) => n
  | _ => 0
theorem number_is (ns : List Int) {k : Int} (hk : 0 ≤ k ∧ k ≤ 10 ^ 9) : m__law_number [scr ns, .int k] = .ok (.d (.int (nmb ns k))) ∧ 0 ≤ nmb ns k ∧ nmb ns k < 536870908 := by
  obtain ⟨n, h, h0, h1⟩ : ∃ n, m__law_number [scr ns, .int k] = .ok (.d (.int n)) ∧ 0 ≤ n ∧ n < 536870908 := by
    by_cases l : 0 < ns.length
    · have li : (0 : Int) < ns.length := by omega
      have e1 := Int.emod_nonneg k (Int.ne_of_gt li)
      have e2 := Int.emod_lt_of_pos k li
      have lt : (k % (ns.length : Int)).toNat < ns.length := by omega
      obtain ⟨n, h, h0⟩ := mixed_is (c := ns[(k % (ns.length : Int)).toNat]) (k := k) (by omega)
      refine ⟨n, ?_, h0⟩
      unfold m__law_number F__law_number
      simp [l, li, o_mod, o_ix_scr e1 (List.getElem?_eq_getElem lt), h]
    · obtain ⟨n, h, h0⟩ := mixed_is (c := 0) (k := k) (by omega)
      refine ⟨n, ?_, h0⟩
      unfold m__law_number F__law_number
      simp [l, h]
  have e : nmb ns k = n := by unfold nmb; rw [h]
  rw [e]
  exact ⟨h, h0, h1⟩
/-- the lowest terms -/
theorem gcd_pos {a b : Int} (h : 0 < a ∨ 0 < b) : 0 < (Int.gcd a b : Int) := by
  rcases h with h | h
  · exact_mod_cast Int.gcd_pos_of_ne_zero_left b (by omega)
  · exact_mod_cast Int.gcd_pos_of_ne_zero_right a (by omega)
theorem gcd_le {a b : Int} (ha : 0 ≤ a) (hb : 0 < b) : (Int.gcd a b : Int) ≤ b := Int.le_of_dvd hb (Int.gcd_dvd_right a b)
theorem lowest_is {a b : Int} (ha : 0 ≤ a) (hb : 0 < b) (hB : b ≤ 10 ^ 999) : m__law_lowest [.int a, .int b] = .ok (.d (fr (a / Int.gcd a b) (b / Int.gcd a b))) := by
  have g0 := gcd_pos (a := a) (Or.inr hb)
  have g1 := gcd_le ha hb
  have g2 : Bq (Int.gcd a b : Int) := Bq_small (by omega)
  unfold m__law_lowest F__law_lowest
  simp [common_is ha (Int.le_of_lt hb), o_div (i := a) g0 g2, o_div (i := b) g0 g2]
theorem lowest_gcd {a b : Int} (hb : 0 < b) : Int.gcd (a / Int.gcd a b) (b / Int.gcd a b) = 1 := by
  have g0 := gcd_pos (a := a) (Or.inr hb)
  exact Int.gcd_ediv_gcd_ediv_gcd (by omega)
/-! ### equal, shown -/
theorem eqv_fr (a b c d : Int) : PyData.eqv (fr a b) (fr c d) = (decide (a = c) && decide (b = d)) := by
  by_cases h1 : a = c <;> by_cases h2 : b = d <;> simp [PyData.eqv, PyData.eqvAll, h1, h2]
theorem shaped_fr (a b : Int) : SeqAt.shaped (fr a b) = true := by
  simp [SeqAt.shaped, PyData.canLay0, PyData.canLayAll0, PyData.depth, PyData.depthAll]
theorem eq_fr (a b c d : Int) : eqD (fr a b) (fr c d) = .ok (.bool (decide (a = c) && decide (b = d))) := by
  unfold eqD
  rw [if_pos ⟨shaped_fr a b, shaped_fr c d⟩, eqv_fr]
theorem ne_fr (a b c d : Int) : neD (fr a b) (fr c d) = .ok (.bool (!(decide (a = c) && decide (b = d)))) := by
  unfold neD
  rw [if_pos ⟨shaped_fr a b, shaped_fr c d⟩, eqv_fr]
theorem shaped_int (a : Int) : SeqAt.shaped (.int a) = true := by
  simp [SeqAt.shaped, PyData.canLay0, PyData.depth]
theorem eqv_int (a b : Int) : PyData.eqv (.int a) (.int b) = decide (a = b) := by
  by_cases h : a = b <;> simp [PyData.eqv, h]
@[simp] theorem eq_int (a b : Int) : eqD (.int a) (.int b) = .ok (.bool (decide (a = b))) := by
  unfold eqD
  rw [if_pos ⟨shaped_int a, shaped_int b⟩, eqv_int]
@[simp] theorem ne_int (a b : Int) : neD (.int a) (.int b) = .ok (.bool (!decide (a = b))) := by
  unfold neD
  rw [if_pos ⟨shaped_int a, shaped_int b⟩, eqv_int]
theorem eqv_str (a b : Str) : PyData.eqv (.str a) (.str b) = decide (a = b) := by
  by_cases h : a = b <;> simp [PyData.eqv, h]
theorem shaped_str {x : Str} (h : PyData.strOk x = true) : SeqAt.shaped (.str x) = true := by
  simp [SeqAt.shaped, PyData.canLay0, PyData.depth, h]
theorem eq_str {a b : Str} (ha : PyData.strOk a = true) (hb : PyData.strOk b = true) : eqD (.str a) (.str b) = .ok (.bool (decide (a = b))) := by
  unfold eqD
  rw [if_pos ⟨shaped_str ha, shaped_str hb⟩, eqv_str]
theorem ne_str {a b : Str} (ha : PyData.strOk a = true) (hb : PyData.strOk b = true) : neD (.str a) (.str b) = .ok (.bool (!decide (a = b))) := by
  unfold neD
  rw [if_pos ⟨shaped_str ha, shaped_str hb⟩, eqv_str]
/-! ### bounds -/
structure IsB (a b : Int) : Prop where
  a0 : 0 ≤ a
  a1 : a ≤ 1000000000000000000000000000000000000000000000000000000000000
  b0 : 0 ≤ b
  b1 : b ≤ 1000000000000000000000000000000000000000000000000000000000000
  g : Int.gcd a b = 1
theorem pair_is (a b : Int) : m_is_pair [fr a b] = .ok (.d (.bool ((decide (0 ≤ a) && decide (a ≤ 1000000000000000000000000000000000000000000000000000000000000)) && (decide (0 ≤ b) && decide (b ≤ 1000000000000000000000000000000000000000000000000000000000000))))) := by
  unfold m_is_pair F_is_pair
  by_cases h : (0 ≤ a ∧ a ≤ 1000000000000000000000000000000000000000000000000000000000000)
  · simp [among_int, c_GREATEST, h]
  · simp [among_int, c_GREATEST, h]
theorem IsB.fraction {a b : Int} (h : IsB a b) : m_is_fraction [fr a b] = .ok (.d (.bool (decide (0 < a) && decide (0 < b)))) := by
  unfold m_is_fraction F_is_fraction
  by_cases h1 : 0 < a <;> by_cases h2 : 0 < b <;> simp [pair_is, h.a0, h.a1, h.b0, h.b1, h1, h2, divisor_is h.a0 h.b0, h.g]
theorem IsB.zero {a b : Int} (h : IsB a b) (h0 : ¬(0 < a)) : a = 0 ∧ b = 1 := by
  have e : a = 0 := by have := h.a0; omega
  subst e
  have g := h.g
  have := h.b0
  simp at g
  omega
theorem IsB.one {a b : Int} (h : IsB a b) (h0 : ¬(0 < b)) : a = 1 ∧ b = 0 := by
  have e : b = 0 := by have := h.b0; omega
  subst e
  have g := h.g
  have := h.a0
  simp at g
  omega
theorem IsB.bound {a b : Int} (h : IsB a b) : m_is_bound [fr a b] = .ok (.d (.bool true)) := by
  unfold m_is_bound F_is_bound
  by_cases h1 : 0 < a <;> by_cases h2 : 0 < b
  · simp [h.fraction, h1, h2]
  · obtain ⟨rfl, rfl⟩ := h.one h2
    simp [h.fraction, pair_is, c_NOUGHT, c_NO_END, eq_fr, (by decide : (1 : Int) ≤ 1000000000000000000000000000000000000000000000000000000000000)]
  · obtain ⟨rfl, rfl⟩ := h.zero h1
    simp [h.fraction, pair_is, c_NOUGHT, c_NO_END, eq_fr, (by decide : (1 : Int) ≤ 1000000000000000000000000000000000000000000000000000000000000)]
  · obtain ⟨rfl, rfl⟩ := h.zero h1
    exact absurd Int.one_pos h2
theorem IsB.need {a b : Int} (h : IsB a b) : m_need_bound [fr a b] = .ok (.d .none) := by
  unfold m_need_bound F_need_bound
  simp [h.bound]
theorem isB_01 : IsB 0 1 := ⟨by decide, by decide, by decide, by decide, by decide⟩
theorem isB_10 : IsB 1 0 := ⟨by decide, by decide, by decide, by decide, by decide⟩
theorem less_is {a b c d : Int} (ha : Bd a) (hb : Bd b) (hc : Bd c) (hd : Bd d) : m_less [fr a b, fr c d] = .ok (.d (.bool (decide (a * d < c * b)))) := by
  unfold m_less F_less
  simp [o_mul, ha, hb, hc, hd]
theorem below_is {a b c d : Int} (ha : Bd a) (hb : Bd b) (hc : Bd c) (hd : Bd d) : m__law_below [fr a b, fr c d] = .ok (.d (.bool (decide (a * d < c * b)))) := less_is ha hb hc hd
theorem middle_is (a b c d : Int) : m_middle [fr a b, fr c d] = .ok (.d (fr (a + c) (b + d))) := by
  unfold m_middle F_middle
  simp
theorem stepped_R {a b c d k : Int} (hk : Bd k) (hc : Bd c) (hd : Bd d) : m_stepped [fr a b, fr c d, .str "R", .int k] = .ok (.d (.tuple [fr (a + k * c) (b + k * d), fr c d])) := by
  have e : eqD (.str "R") (.str "L") = .ok (.bool false) := by rw [eq_str (by decide +kernel) (by decide +kernel)]; rfl
  unfold m_stepped F_stepped
  simp [e, o_mul, hk, hc, hd]
theorem stepped_L {a b c d k : Int} (hk : Bd k) (hc : Bd a) (hd : Bd b) : m_stepped [fr a b, fr c d, .str "L", .int k] = .ok (.d (.tuple [fr a b, fr (c + k * a) (d + k * b)])) := by
  have e : eqD (.str "L") (.str "L") = .ok (.bool true) := by rw [eq_str (by decide +kernel) (by decide +kernel)]; rfl
  unfold m_stepped F_stepped
  simp [e, o_mul, hk, hc, hd]
end Lw
set_option Elab.async false
set_option linter.all false
set_option maxRecDepth 100000
set_option maxHeartbeats 4000000
/-! Mb: the simplest one between two bounds. -/
namespace Lw
open PySem L2 Sb

theorem cancel_lt {x y z : Int} (hz : 0 < z) (h : x * z < y * z) : x < y := Int.lt_of_mul_lt_mul_right h (Int.le_of_lt hz)
theorem cancel_le {x y z : Int} (hz : 0 < z) (h : x * z ≤ y * z) : x ≤ y := Int.le_of_mul_le_mul_right h hz
/-- borders around two bounds -/
structure Inv (p q r s a b c d : Int) : Prop where
  pq : p * s < r * q
  q0 : 0 < q
  r0 : 0 < r
  p0 : 0 ≤ p
  s0 : 0 ≤ s
  a0 : 0 ≤ a
  b0 : 0 < b
  c0 : 0 < c
  d0 : 0 ≤ d
  det : c * b - a * d = 1
  l1 : a * q ≤ p * b
  l2 : r * d ≤ c * s
namespace Inv
variable {p q r s a b c d : Int}
theorem h1 (I : Inv p q r s a b c d) : p * d < c * q := by
  obtain ⟨pq, q0, r0, p0, s0, a0, b0, c0, d0, det, l1, l2⟩ := I
  refine cancel_lt r0 ?_
  have e1 := Int.mul_le_mul_of_nonneg_right l2 p0
  have e2 := Int.mul_lt_mul_of_pos_right pq c0
  grind
theorem h2 (I : Inv p q r s a b c d) : a * s < r * b := by
  obtain ⟨pq, q0, r0, p0, s0, a0, b0, c0, d0, det, l1, l2⟩ := I
  refine cancel_lt q0 ?_
  have e1 := Int.mul_le_mul_of_nonneg_right l1 s0
  have e2 := Int.mul_lt_mul_of_pos_right pq b0
  grind
theorem le_pq (I : Inv p q r s a b c d) : a ≤ p ∧ b ≤ q := by
  have h1 := I.h1
  obtain ⟨pq, q0, r0, p0, s0, a0, b0, c0, d0, det, l1, l2⟩ := I
  have x1 : 1 ≤ c * q - p * d := by omega
  have y0 : 0 ≤ p * b - a * q := by omega
  have e1 := Int.mul_le_mul_of_nonneg_left x1 a0
  have e2 := Int.mul_nonneg y0 (Int.le_of_lt c0)
  have e3 := Int.mul_le_mul_of_nonneg_left x1 (Int.le_of_lt b0)
  have e4 := Int.mul_nonneg y0 d0
  constructor
  · have : p = a * (c * q - p * d) + (p * b - a * q) * c := by grind
    omega
  · have : q = b * (c * q - p * d) + (p * b - a * q) * d := by grind
    omega
theorem le_rs (I : Inv p q r s a b c d) : c ≤ r ∧ d ≤ s := by
  have h2 := I.h2
  obtain ⟨pq, q0, r0, p0, s0, a0, b0, c0, d0, det, l1, l2⟩ := I
  have x1 : 1 ≤ r * b - a * s := by omega
  have y0 : 0 ≤ c * s - r * d := by omega
  have e1 := Int.mul_le_mul_of_nonneg_left x1 (Int.le_of_lt c0)
  have e2 := Int.mul_nonneg y0 a0
  have e3 := Int.mul_le_mul_of_nonneg_left x1 d0
  have e4 := Int.mul_nonneg y0 (Int.le_of_lt b0)
  constructor
  · have : r = c * (r * b - a * s) + (c * s - r * d) * a := by grind
    omega
  · have : s = d * (r * b - a * s) + (c * s - r * d) * b := by grind
    omega
/-- so many steps R -/
abbrev kR (p q a b c d : Int) : Int := (p * b - a * q) / (c * q - p * d)
theorem kR_le {X Y : Int} (x : 0 < X) (y : 0 ≤ Y) : 0 ≤ Y / X ∧ (Y / X) * X ≤ Y ∧ Y < (Y / X + 1) * X :=
  ⟨Int.ediv_nonneg y (Int.le_of_lt x), Int.ediv_mul_le Y (Int.ne_of_gt x), Int.lt_ediv_add_one_mul_self Y x⟩
theorem stepR (I : Inv p q r s a b c d) {k : Int} (k0 : 0 ≤ k) (hk : k * (c * q - p * d) ≤ p * b - a * q) : Inv p q r s (a + k * c) (b + k * d) c d := by
  obtain ⟨pq, q0, r0, p0, s0, a0, b0, c0, d0, det, l1, l2⟩ := I
  have e1 := Int.mul_nonneg k0 (Int.le_of_lt c0)
  have e2 := Int.mul_nonneg k0 d0
  exact ⟨pq, q0, r0, p0, s0, by omega, by omega, c0, d0, by grind, by grind, l2⟩
theorem stepL (I : Inv p q r s a b c d) {k : Int} (k0 : 0 ≤ k) (hk : k * (r * b - a * s) ≤ c * s - r * d) : Inv p q r s a b (c + k * a) (d + k * b) := by
  obtain ⟨pq, q0, r0, p0, s0, a0, b0, c0, d0, det, l1, l2⟩ := I
  have e1 := Int.mul_nonneg k0 a0
  have e2 := Int.mul_nonneg k0 (Int.le_of_lt b0)
  exact ⟨pq, q0, r0, p0, s0, a0, b0, by omega, by omega, by grind, l1, by grind⟩
theorem k_small {k x y : Int} (k0 : 0 ≤ k) (x1 : 0 < x) (h : k * x ≤ y) : k ≤ y := by
  have := Int.mul_le_mul_of_nonneg_left (show (1 : Int) ≤ x by omega) k0
  omega
end Inv
theorem start_inv {p q r s : Int} (h1 : IsB p q) (h2 : IsB r s) (h : p * s < r * q) : Inv p q r s 0 1 1 0 := by
  have a1 := h1.a0
  have a2 := h1.b0
  have a3 := h2.a0
  have a4 := h2.b0
  have e := Int.mul_nonneg a1 a4
  have q0 : 0 < q := by
    rcases Int.lt_or_le 0 q with l | l
    · exact l
    · have : q = 0 := by omega
      subst this
      simp at h
      omega
  have r0 : 0 < r := by
    rcases Int.lt_or_le 0 r with l | l
    · exact l
    · have : r = 0 := by omega
      subst this
      simp at h
      omega
  exact ⟨h, q0, r0, a1, a4, by omega, by omega, by omega, by omega, by omega, by omega, by omega⟩
theorem up_to_is {a b c d p q : Int} (ha : 0 ≤ a ∧ a ≤ 10 ^ 61) (hb : 0 ≤ b ∧ b ≤ 10 ^ 61) (hc : 0 ≤ c ∧ c ≤ 10 ^ 61) (hd : 0 ≤ d ∧ d ≤ 10 ^ 61) (hp : 0 ≤ p ∧ p ≤ 10 ^ 61) (hq : 0 ≤ q ∧ q ≤ 10 ^ 61) (h : p * d < c * q) :
    m_up_to [fr a b, fr c d, fr p q] = .ok (.d (.int ((p * b - a * q) / (c * q - p * d)))) := by
  have e1 : c * q ≤ 10 ^ 61 * 10 ^ 61 := Int.mul_le_mul hc.2 hq.2 hq.1 (by decide)
  have e2 : 0 ≤ p * d := Int.mul_nonneg hp.1 hd.1
  have d0 : 0 < c * q - p * d := by omega
  have d1 : Bq (c * q - p * d) := Bq_small (by omega)
  unfold m_up_to F_up_to
  simp [o_mul, o_div d0 d1, Bd_small (i := a) (by omega), Bd_small (i := b) (by omega), Bd_small (i := c) (by omega), Bd_small (i := d) (by omega), Bd_small (i := p) (by omega), Bd_small (i := q) (by omega)]
theorem down_to_is {a b c d p q : Int} (ha : 0 ≤ a ∧ a ≤ 10 ^ 61) (hb : 0 ≤ b ∧ b ≤ 10 ^ 61) (hc : 0 ≤ c ∧ c ≤ 10 ^ 61) (hd : 0 ≤ d ∧ d ≤ 10 ^ 61) (hp : 0 ≤ p ∧ p ≤ 10 ^ 61) (hq : 0 ≤ q ∧ q ≤ 10 ^ 61) (h : a * q < p * b) :
    m_down_to [fr a b, fr c d, fr p q] = .ok (.d (.int ((c * q - p * d) / (p * b - a * q)))) := by
  have e1 : p * b ≤ 10 ^ 61 * 10 ^ 61 := Int.mul_le_mul hp.2 hb.2 hb.1 (by decide)
  have e2 : 0 ≤ a * q := Int.mul_nonneg ha.1 hq.1
  have d0 : 0 < p * b - a * q := by omega
  have d1 : Bq (p * b - a * q) := Bq_small (by omega)
  unfold m_down_to F_down_to
  simp [o_mul, o_div d0 d1, Bd_small (i := a) (by omega), Bd_small (i := b) (by omega), Bd_small (i := c) (by omega), Bd_small (i := d) (by omega), Bd_small (i := p) (by omega), Bd_small (i := q) (by omega)]
/-! the loop of simplest -/
noncomputable def simpT : Sb.Env → Rs Bool := ntT (anT (tst (calE m_less (csA (vr 0) (csA (calE m_middle (csA (vr 2) (csA (vr 3) nlA))) nlA)))) (tst (calE m_less (csA (calE m_middle (csA (vr 2) (csA (vr 3) nlA))) (csA (vr 1) nlA)))))
noncomputable def simpS : Sm := sSeq (sUnp (gt2 2 3) (calE m_stepped (csA (vr 2) (csA (vr 3) (csA (cn (.str "R")) (csA (calE m_up_to (csA (vr 2) (csA (vr 3) (csA (vr 0) nlA)))) nlA))))))
  (sUnp (gt2 2 3) (calE m_stepped (csA (vr 2) (csA (vr 3) (csA (cn (.str "L")) (csA (calE m_down_to (csA (vr 2) (csA (vr 3) (csA (vr 1) nlA)))) nlA))))))
structure Big (p q r s : Int) : Prop where
  p : p ≤ 1000000000000000000000000000000000000000000000000000000000000
  q : q ≤ 1000000000000000000000000000000000000000000000000000000000000
  r : r ≤ 1000000000000000000000000000000000000000000000000000000000000
  s : s ≤ 1000000000000000000000000000000000000000000000000000000000000
structure Found (p q r s a b c d : Int) : Prop where
  i : Inv p q r s a b c d
  one : p * (b + d) < (a + c) * q
  two : (a + c) * s < r * (b + d)
theorem simp_turn {p q r s a b c d : Int} (I : Inv p q r s a b c d) (B : Big p q r s) : simpT [Sl.d (fr p q), Sl.d (fr r s), Sl.d (fr a b), Sl.d (fr c d)] = .ok (!(decide (p * (b + d) < (a + c) * q) && decide ((a + c) * s < r * (b + d)))) := by
  obtain ⟨x1, x2⟩ := I.le_pq
  obtain ⟨x3, x4⟩ := I.le_rs
  obtain ⟨pq, q0, r0, p0, s0, a0, b0, c0, d0, det, l1, l2⟩ := I
  obtain ⟨y1, y2, y3, y4⟩ := B
  have z1 : Bd (a + c) := Bd_small (by omega)
  have z2 : Bd (b + d) := Bd_small (by omega)
  have z3 : Bd p := Bd_small (by omega)
  have z4 : Bd q := Bd_small (by omega)
  have z5 : Bd r := Bd_small (by omega)
  have z6 : Bd s := Bd_small (by omega)
  unfold simpT
  by_cases h1 : p * (b + d) < (a + c) * q <;> simp [middle_is, less_is, z1, z2, z3, z4, z5, z6, h1]
theorem simp_step {p q r s a b c d : Int} (I : Inv p q r s a b c d) (B : Big p q r s) :
    ∃ k l, 0 ≤ k ∧ 0 ≤ l ∧ k = (p * b - a * q) / (c * q - p * d) ∧ l = (c * s - r * d) / (r * (b + k * d) - (a + k * c) * s) ∧ Inv p q r s (a + k * c) (b + k * d) c d ∧
      Inv p q r s (a + k * c) (b + k * d) (c + l * (a + k * c)) (d + l * (b + k * d)) ∧
      simpS [Sl.d (fr p q), Sl.d (fr r s), Sl.d (fr a b), Sl.d (fr c d)] = .nx [.d (fr p q), .d (fr r s), .d (fr (a + k * c) (b + k * d)), .d (fr (c + l * (a + k * c)) (d + l * (b + k * d)))] := by
  obtain ⟨y1, y2, y3, y4⟩ := B
  have h1 := I.h1
  obtain ⟨x1, x2⟩ := I.le_pq
  obtain ⟨x3, x4⟩ := I.le_rs
  have p0 := I.p0
  have q0 := I.q0
  have r0 := I.r0
  have s0 := I.s0
  have a0 := I.a0
  have b0 := I.b0
  have c0 := I.c0
  have d0 := I.d0
  obtain ⟨k0, k1, k2⟩ := Inv.kR_le (X := c * q - p * d) (Y := p * b - a * q) (by omega) (by have := I.l1; omega)
  have u := up_to_is (a := a) (b := b) (c := c) (d := d) (p := p) (q := q) (by omega) (by omega) (by omega) (by omega) (by omega) (by omega) h1
  generalize hk : (p * b - a * q) / (c * q - p * d) = k at *
  have I2 := I.stepR k0 k1
  have h2 := I2.h2
  obtain ⟨x5, x6⟩ := I2.le_pq
  have a2 := I2.a0
  have b2 := I2.b0
  have kb : k ≤ p * b := by
    have := Inv.k_small k0 (show 0 < c * q - p * d by omega) k1
    have := Int.mul_nonneg a0 (Int.le_of_lt q0)
    omega
  have pb : p * b ≤ 1000000000000000000000000000000000000000000000000000000000000 * 1000000000000000000000000000000000000000000000000000000000000 := Int.mul_le_mul (by omega) (by omega) (by omega) (by decide)
  have zk : Bd k := Bd_small (by omega)
  have zc : Bd c := Bd_small (by omega)
  have zd : Bd d := Bd_small (by omega)
  have za : Bd (a + k * c) := Bd_small (by omega)
  have zb : Bd (b + k * d) := Bd_small (by omega)
  obtain ⟨l0, l1, l2⟩ := Inv.kR_le (X := r * (b + k * d) - (a + k * c) * s) (Y := c * s - r * d) (by omega) (by have := I.l2; omega)
  have v := down_to_is (a := a + k * c) (b := b + k * d) (c := c) (d := d) (p := r) (q := s) (by omega) (by omega) (by omega) (by omega) (by omega) (by omega) h2
  generalize hl : (c * s - r * d) / (r * (b + k * d) - (a + k * c) * s) = l at *
  have I3 := I2.stepL l0 l1
  have lb : l ≤ c * s := by
    have := Inv.k_small l0 (show 0 < r * (b + k * d) - (a + k * c) * s by omega) l1
    have := Int.mul_nonneg (Int.le_of_lt r0) d0
    omega
  have cs : c * s ≤ 1000000000000000000000000000000000000000000000000000000000000 * 1000000000000000000000000000000000000000000000000000000000000 := Int.mul_le_mul (by omega) (by omega) (by omega) (by decide)
  have zl : Bd l := Bd_small (by omega)
  refine ⟨k, l, k0, l0, rfl, hl.symm, I2, I3, ?_⟩
  unfold simpS
  simp [u, stepped_R zk zc zd, v, stepped_L zl za zb]
theorem simp_loop : ∀ (n : Nat) {p q r s a b c d : Int}, Inv p q r s a b c d → Big p q r s → ((p + q + r + s) - (a + b + c + d)).toNat = n →
    ∃ a' b' c' d', Found p q r s a' b' c' d' ∧ sWh simpT simpS [Sl.d (fr p q), Sl.d (fr r s), Sl.d (fr a b), Sl.d (fr c d)] = .nx [.d (fr p q), .d (fr r s), .d (fr a' b'), .d (fr c' d')] := by
  intro n
  induction n using Nat.strongRecOn with
  | _ n ih =>
    intro p q r s a b c d I B hn
    rw [sWh_step, simp_turn I B]
    by_cases h1 : p * (b + d) < (a + c) * q ∧ (a + c) * s < r * (b + d)
    · refine ⟨a, b, c, d, ⟨I, h1.1, h1.2⟩, ?_⟩
      simp [h1.1, h1.2]
    · obtain ⟨k, l, k0, l0, hk, hl, I2, I3, e⟩ := simp_step I B
      have x1 := I3.le_pq
      have x2 := I3.le_rs
      have hh := I.h1
      have hh2 := I.h2
      obtain ⟨pq, q0, r0, p0, s0, a0, b0, c0, d0, det, l1, l2⟩ := I
      have kk : 1 ≤ k ∨ 1 ≤ l := by
        rcases Int.lt_or_le 0 k with t | t
        · exact Or.inl t
        · right
          have k1 : k = 0 := by omega
          subst k1
          simp only [Int.zero_mul, Int.add_zero] at hl
          have kx := Int.lt_ediv_add_one_mul_self (p * b - a * q) (show 0 < c * q - p * d by omega)
          rw [← hk] at kx
          have o1 : p * (b + d) < (a + c) * q := by grind
          have o2 : r * (b + d) ≤ (a + c) * s := by
            rcases Int.lt_or_le ((a + c) * s) (r * (b + d)) with t | t
            · exact absurd ⟨o1, t⟩ h1
            · exact t
          rw [hl, Int.le_ediv_iff_mul_le (by omega)]
          grind
      have g1 : 0 ≤ k * c := Int.mul_nonneg k0 (Int.le_of_lt c0)
      have g2 : 0 ≤ k * d := Int.mul_nonneg k0 d0
      have g3 : 0 ≤ l * (a + k * c) := Int.mul_nonneg l0 (by omega)
      have g4 : 0 ≤ l * (b + k * d) := Int.mul_nonneg l0 (by omega)
      have up : a + b + c + d < (a + k * c) + (b + k * d) + (c + l * (a + k * c)) + (d + l * (b + k * d)) := by
        rcases kk with t | t
        · have := Int.mul_le_mul_of_nonneg_right t (Int.le_of_lt c0)
          omega
        · have := Int.mul_le_mul_of_nonneg_right t (show 0 ≤ b + k * d by omega)
          omega
      obtain ⟨a', b', c', d', F, e2⟩ := ih _ (by omega) I3 B rfl
      refine ⟨a', b', c', d', F, ?_⟩
      have hb : (!(decide (p * (b + d) < (a + c) * q) && decide ((a + c) * s < r * (b + d)))) = true := by
        simp only [Bool.not_eq_true', Bool.and_eq_false_iff, decide_eq_false_iff_not]
        rcases Classical.em (p * (b + d) < (a + c) * q) with t | t
        · exact Or.inr fun t2 => h1 ⟨t, t2⟩
        · exact Or.inl t
      rw [hb]
      simp only [onR_ok, if_true, e, turnE_nx]
      exact e2
theorem Big.of {p q r s : Int} (h1 : IsB p q) (h2 : IsB r s) : Big p q r s := ⟨h1.a1, h1.b1, h2.a1, h2.b1⟩
/-- the simplest one -/
theorem simplest_is {p q r s : Int} (h1 : IsB p q) (h2 : IsB r s) (h : p * s < r * q) : ∃ a b c d, Found p q r s a b c d ∧
    m_simplest [fr p q, fr r s] = (if 1000000000000000000000000000000000000000000000000000000000000 < (if b + d > a + c then b + d else a + c) then .exc "TooGreat" else .ok (.d (fr (a + c) (b + d)))) := by
  have B := Big.of h1 h2
  obtain ⟨a, b, c, d, F, e⟩ := simp_loop _ (start_inv h1 h2 h) B rfl
  refine ⟨a, b, c, d, F, ?_⟩
  have I := F.i
  have z1 : Bd p := Bd_small (by have := h1.a0; have := h1.a1; omega)
  have z2 : Bd q := Bd_small (by have := h1.b0; have := h1.b1; omega)
  have z3 : Bd r := Bd_small (by have := h2.a0; have := h2.a1; omega)
  have z4 : Bd s := Bd_small (by have := h2.b0; have := h2.b1; omega)
  have e' : sWh (ntT (anT (tst (calE m_less (csA (vr 0) (csA (calE m_middle (csA (vr 2) (csA (vr 3) nlA))) nlA)))) (tst (calE m_less (csA (calE m_middle (csA (vr 2) (csA (vr 3) nlA))) (csA (vr 1) nlA)))))) (sSeq (sUnp (gt2 2 3) (calE m_stepped (csA (vr 2) (csA (vr 3) (csA (cn (.str "R")) (csA (calE m_up_to (csA (vr 2) (csA (vr 3) (csA (vr 0) nlA)))) nlA))))))
  (sUnp (gt2 2 3) (calE m_stepped (csA (vr 2) (csA (vr 3) (csA (cn (.str "L")) (csA (calE m_down_to (csA (vr 2) (csA (vr 3) (csA (vr 1) nlA)))) nlA))))))) [.d (fr p q), .d (fr r s), .d (fr 0 1), .d (fr 1 0)] = .nx [Sl.d (fr p q), Sl.d (fr r s), Sl.d (fr a b), Sl.d (fr c d)] := e
  unfold m_simplest F_simplest
  by_cases hg : 1000000000000000000000000000000000000000000000000000000000000 < (if b + d > a + c then b + d else a + c) <;> simp [h1.need, h2.need, less_is z1 z2 z3 z4, h, c_NOUGHT, c_NO_END, c_GREATEST, e', middle_is, hg] <;> split <;> simp_all
theorem simplest_order {p q r s : Int} (h1 : IsB p q) (h2 : IsB r s) (h : ¬(p * s < r * q)) : m_simplest [fr p q, fr r s] = .exc "BadOrder" := by
  have z1 : Bd p := Bd_small (by have := h1.a0; have := h1.a1; omega)
  have z2 : Bd q := Bd_small (by have := h1.b0; have := h1.b1; omega)
  have z3 : Bd r := Bd_small (by have := h2.a0; have := h2.a1; omega)
  have z4 : Bd s := Bd_small (by have := h2.b0; have := h2.b1; omega)
  unfold m_simplest F_simplest
  simp [h1.need, h2.need, less_is z1 z2 z3 z4, h]
/-- nothing between is simpler -/
theorem Found.least {p q r s a b c d x y : Int} (F : Found p q r s a b c d) (h1 : p * y < x * q) (h2 : x * s < r * y) (hy : 0 < y) : a + c ≤ x ∧ b + d ≤ y := by
  obtain ⟨⟨pq, q0, r0, p0, s0, a0, b0, c0, d0, det, l1, l2⟩, o1, o2⟩ := F
  have hx : 0 < x := by
    have : 0 < x * q := by have := Int.mul_nonneg p0 (Int.le_of_lt hy); omega
    exact cancel_lt q0 (by omega)
  have u : a * y < x * b := by
    refine cancel_lt q0 ?_
    have e1 := Int.mul_le_mul_of_nonneg_right l1 (Int.le_of_lt hy)
    have e2 := Int.mul_lt_mul_of_pos_right h1 b0
    grind
  have v : x * d < c * y := by
    refine cancel_lt r0 ?_
    have e1 := Int.mul_le_mul_of_nonneg_right l2 (Int.le_of_lt hx)
    have e2 := Int.mul_lt_mul_of_pos_right h2 c0
    grind
  have e1 : 1 ≤ x * b - a * y := by omega
  have e2 : 1 ≤ c * y - x * d := by omega
  have g1 := Int.mul_le_mul_of_nonneg_left e1 (Int.le_of_lt c0)
  have g2 := Int.mul_le_mul_of_nonneg_left e2 a0
  have g3 := Int.mul_le_mul_of_nonneg_left e1 d0
  have g4 := Int.mul_le_mul_of_nonneg_left e2 (Int.le_of_lt b0)
  constructor
  · have : x = c * (x * b - a * y) + a * (c * y - x * d) := by grind
    omega
  · have : y = d * (x * b - a * y) + b * (c * y - x * d) := by grind
    omega
end Lw
set_option Elab.async false
set_option linter.all false
set_option maxRecDepth 100000
set_option maxHeartbeats 4000000
/-! Mc: what is shown by repr. -/
namespace Lw
open PySem L2 Sb

def Sk (x : Str) : Prop := ∀ c ∈ x.cps.toList, c < 0x110000
theorem sk_iff {x : Str} : PyData.strOk x = true ↔ Sk x := by
  unfold PyData.strOk Sk
  rw [← Array.all_toList, List.all_eq_true]
  simp only [decide_eq_true_eq]
theorem sk_app {x y : Str} (hx : Sk x) (hy : Sk y) : Sk (x ++ y) := by
  intro c h
  have e : (x ++ y).cps.toList = x.cps.toList ++ y.cps.toList := Array.toList_append
  rw [e, List.mem_append] at h
  rcases h with h | h
  · exact hx c h
  · exact hy c h
theorem sk_of (s : String) : Sk (Str.ofString s) := by
  intro c h
  rw [Str.ofString_eq_toList] at h
  have h' : c ∈ s.toList.map Char.toNat := h
  rw [List.mem_map] at h'
  obtain ⟨a, _, rfl⟩ := h'
  have v := a.valid
  show a.val.toNat < 0x110000
  rcases v with v | v
  · exact Nat.lt_trans v (by decide)
  · exact v.2
theorem sk_empty : Sk Str.empty := fun c h => by cases h
theorem sk_join {z : Str} (hz : Sk z) : ∀ {xs : List Str}, (∀ x ∈ xs, Sk x) → Sk (Str.join z xs)
  | [], _ => sk_empty
  | [x], h => h x (List.mem_singleton.mpr rfl)
  | x :: y :: r, h => sk_app (sk_app (h x (List.mem_cons_self ..)) hz) (sk_join hz fun w hw => h w (List.mem_cons_of_mem _ hw))
theorem sk_from : ∀ (ts : List Str) (k : Nat) (acc : Str), Sk acc → (∀ x ∈ ts, Sk x) → Sk (textFrom k acc ts)
  | [], _, _, h, _ => h
  | t :: ts, k, acc, h, h2 => by
    show Sk (textFrom (k + 1) (acc ++ (if k > 0 then ", " else "" : String) ++ t) ts)
    exact sk_from ts (k + 1) _ (sk_app (sk_app h (sk_of _)) (h2 t (List.mem_cons_self ..))) fun w hw => h2 w (List.mem_cons_of_mem _ hw)
theorem reprChar_lt {q c : Nat} (hq : q < 0x110000) (hc : c < 0x110000) : ∀ d ∈ Builtin.Str.reprChar q c, d < 0x110000 := by
  have ch : ∀ d ∈ (Nat.toDigits 16 c).map Char.toNat, d < 0x110000 := by
    intro d h
    rw [List.mem_map] at h
    obtain ⟨a, _, rfl⟩ := h
    have v := a.valid
    show a.val.toNat < 0x110000
    rcases v with v | v
    · exact Nat.lt_trans v (by decide)
    · exact v.2
  have hx : ∀ w, ∀ d ∈ List.replicate (w - ((Nat.toDigits 16 c).map Char.toNat).length) 48 ++ (Nat.toDigits 16 c).map Char.toNat, d < 0x110000 := by
    intro w d h
    rw [List.mem_append] at h
    rcases h with h | h
    · rw [(List.mem_replicate.mp h).2]; decide
    · exact ch d h
  intro d h
  unfold Builtin.Str.reprChar at h
  have two : ∀ a b : Nat, a < 0x110000 → b < 0x110000 → ∀ l : List Nat, (∀ d ∈ l, d < 0x110000) → d ∈ a :: b :: l → d < 0x110000 := by
    intro a b ha hb l hl hm
    rcases List.mem_cons.mp hm with h | h
    · rw [h]; exact ha
    · rcases List.mem_cons.mp h with h | h
      · rw [h]; exact hb
      · exact hl d h
  have no : ∀ d ∈ ([] : List Nat), d < 0x110000 := fun d h => by cases h
  simp only at h
  split at h
  · exact two _ _ (by decide) hc _ no h
  split at h
  · exact two _ _ (by decide) (by decide) _ no h
  split at h
  · exact two _ _ (by decide) (by decide) _ no h
  split at h
  · exact two _ _ (by decide) (by decide) _ no h
  split at h
  · rw [List.mem_singleton.mp h]; exact hc
  split at h
  · exact two _ _ (by decide) (by decide) _ (hx 2) h
  split at h
  · exact two _ _ (by decide) (by decide) _ (hx 4) h
  · exact two _ _ (by decide) (by decide) _ (hx 8) h
theorem sk_repr {x : Str} (hx : Sk x) : Sk (reprText x) := by
  have hq : reprQuote x < 0x110000 := by unfold reprQuote; split <;> decide
  have fold : ∀ (l : List Nat) (acc : Array Nat), (∀ c ∈ l, c < 0x110000) → (∀ c ∈ acc.toList, c < 0x110000) → ∀ c ∈ (l.foldl (fun out c => out ++ (Builtin.Str.reprChar (reprQuote x) c).toArray) acc).toList, c < 0x110000 := by
    intro l
    induction l with
    | nil => intro acc _ h; exact h
    | cons a l ih =>
      intro acc hl h
      rw [List.foldl_cons]
      refine ih _ (fun c hc => hl c (List.mem_cons_of_mem _ hc)) ?_
      intro c hc
      rw [Array.toList_append, List.mem_append] at hc
      rcases hc with hc | hc
      · exact h c hc
      · exact reprChar_lt hq (hl a (List.mem_cons_self ..)) c (by simpa using hc)
  intro c h
  unfold reprText at h
  have h' : c ∈ ((x.cps.foldl (fun out c => out ++ (Builtin.Str.reprChar (reprQuote x) c).toArray) #[reprQuote x]).push (reprQuote x)).toList := h
  rw [Array.toList_push, List.mem_append, ← Array.foldl_toList] at h'
  rcases h' with h' | h'
  · exact fold _ _ hx (fun c hc => by rw [List.mem_singleton.mp (show c ∈ [reprQuote x] from hc)]; exact hq) c h'
  · rw [List.mem_singleton.mp h']; exact hq
mutual
theorem sk_shown : ∀ d : Dt, d.canLay0 = true → Sk d.shown
  | .none, _ => by simp only [PyData.shown]; exact sk_of _
  | .bool b, _ => by simp only [PyData.shown]; split <;> exact sk_of _
  | .int i, _ => by simp only [PyData.shown]; exact sk_of _
  | .str x, h => by
    simp only [PyData.shown]
    exact sk_repr (sk_iff.mp (by simpa [PyData.canLay0] using h))
  | .list xs, h => by
    simp only [PyData.shown]
    exact sk_app (sk_from _ _ _ (sk_of _) (sk_shownAll xs (by simpa [PyData.canLay0] using h))) (sk_of _)
  | .tuple xs, h => by
    simp only [PyData.shown]
    exact sk_app (sk_app (sk_of _) (sk_join (sk_of _) (sk_shownAll xs (by simpa [PyData.canLay0] using h)))) (by split <;> exact sk_of _)
  | .dict _, h => by simp [PyData.canLay0] at h
theorem sk_shownAll : ∀ xs : List Dt, PyData.canLayAll0 xs = true → ∀ t ∈ PyData.shownAll xs, Sk t
  | [], _, t, ht => by simp [PyData.shownAll] at ht
  | x :: xs, h, t, ht => by
    have h' : x.canLay0 = true ∧ PyData.canLayAll0 xs = true := by simpa [PyData.canLayAll0] using h
    rw [PyData.shownAll, List.mem_cons] at ht
    rcases ht with ht | ht
    · rw [ht]; exact sk_shown x h'.1
    · exact sk_shownAll xs h'.2 t ht
end
/-- what can be shown -/
structure OkR (d : Dt) : Prop where
  c : d.canLay0 = true
  s : d.showable = true
  l : d.leavesShort 64 = true
theorem OkR.strOk {d : Dt} (h : OkR d) : PyData.strOk d.shown = true := sk_iff.mpr (sk_shown d h.c)
theorem okR_int {i : Int} (h : -(10 ^ 62) ≤ i ∧ i ≤ 10 ^ 62) : OkR (.int i) := by
  have a : i.natAbs < 10 ^ 63 := by omega
  have b : i.natAbs.log2 < 1920 := by
    rcases Nat.eq_zero_or_pos i.natAbs with z | z
    · rw [z]; decide
    · exact (Nat.log2_lt (by omega)).mpr (Nat.lt_of_lt_of_le a (by decide +kernel))
  refine ⟨by simp [PyData.canLay0], by simp [PyData.showable, b], ?_⟩
  have := int_text_length_le10 (k := 63) (by decide) a
  simp only [PyData.leavesShort, PyData.shown]
  refine decide_eq_true ?_
  have e : (Str.ofString (toString i)).length = (toString i).length := by
    rw [Str.ofString_eq_toList]
    show (List.map Char.toNat (toString i).toList).toArray.size = _
    rw [List.size_toArray, List.length_map]
    exact String.length_toList
  omega
theorem okR_bool (b : Bool) : OkR (.bool b) := ⟨by simp [PyData.canLay0], by simp [PyData.showable], by simp [PyData.leavesShort]⟩
theorem okR_none : OkR .none := ⟨by simp [PyData.canLay0], by simp [PyData.showable], by simp [PyData.leavesShort]⟩
theorem okR_str {x : Str} (h : PyData.strOk x = true) : OkR (.str x) := by
  refine ⟨by simp [PyData.canLay0, h], by simp [PyData.showable], ?_⟩
  simp only [PyData.leavesShort, List.all_eq_true, decide_eq_true_eq]
  intro c hc
  exact Nat.lt_trans (sk_iff.mp h c hc) (by decide)
structure OkRs (ds : List Dt) : Prop where
  c : PyData.canLayAll0 ds = true
  s : PyData.showableAll ds = true
  l : PyData.leavesShortAll 64 ds = true
theorem okRs_nil : OkRs [] := ⟨by simp [PyData.canLayAll0], by simp [PyData.showableAll], by simp [PyData.leavesShortAll]⟩
theorem okRs_cons {d : Dt} {ds : List Dt} (h : OkR d) (hs : OkRs ds) : OkRs (d :: ds) := ⟨by simp [PyData.canLayAll0, h.c, hs.c], by simp [PyData.showableAll, h.s, hs.s], by simp [PyData.leavesShortAll, h.l, hs.l]⟩
theorem okR_tup {ds : List Dt} (h : OkRs ds) : OkR (.tuple ds) := ⟨by simp [PyData.canLay0, h.c], by simp [PyData.showable, h.s], by simp [PyData.leavesShort, h.l]⟩
theorem okR_list {ds : List Dt} (h : OkRs ds) : OkR (.list ds) := ⟨by simp [PyData.canLay0, h.c], by simp [PyData.showable, h.s], by simp [PyData.leavesShort, h.l]⟩
theorem okRs_of : ∀ {ds : List Dt}, (∀ d ∈ ds, OkR d) → OkRs ds
  | [], _ => okRs_nil
  | d :: ds, h => okRs_cons (h d (List.mem_cons_self ..)) (okRs_of fun x hx => h x (List.mem_cons_of_mem _ hx))
theorem rpr_is {d : Dt} (h : OkR d) (hb : d.bulk ≤ 15000) (hd : d.depth ≤ 60) : rprD d = .ok (.str d.shown) := by
  have e := PyData.shown_le_bulk 64 (by decide) d h.l
  unfold rprD
  rw [if_pos ⟨h.c, h.s, hd, by rw [lim1]; omega⟩]
theorem okR_fr {a b : Int} (ha : -(10 ^ 62) ≤ a ∧ a ≤ 10 ^ 62) (hb : -(10 ^ 62) ≤ b ∧ b ≤ 10 ^ 62) : OkR (fr a b) := okR_tup (okRs_cons (okR_int ha) (okRs_cons (okR_int hb) okRs_nil))
theorem rpr_fr {a b : Int} (ha : -(10 ^ 62) ≤ a ∧ a ≤ 10 ^ 62) (hb : -(10 ^ 62) ≤ b ∧ b ≤ 10 ^ 62) : rprD (fr a b) = .ok (.str (fr a b).shown) :=
  rpr_is (okR_fr ha hb) (by simp [PyData.bulk, PyData.bulkAll]) (by simp [PyData.depth, PyData.depthAll])
theorem ne_shown {d : Dt} (h : OkR d) : neD (.str d.shown) (.str d.shown) = .ok (.bool false) := by
  rw [ne_str h.strOk h.strOk]
  simp
theorem eq_shown {d : Dt} (h : OkR d) : eqD (.str d.shown) (.str d.shown) = .ok (.bool true) := by
  rw [eq_str h.strOk h.strOk]
  simp
/-! ### loops over numbers -/
def Good (P : Sb.Env → Prop) : So → Prop
  | .nx ρ => P ρ
  | .ct ρ => P ρ
  | _ => False
@[simp] theorem good_nx (P : Sb.Env → Prop) (ρ : Sb.Env) : Good P (.nx ρ) = P ρ := rfl
@[simp] theorem good_ct (P : Sb.Env → Prop) (ρ : Sb.Env) : Good P (.ct ρ) = P ρ := rfl
theorem forL_nx {g : Dt → Sb.Env → Option Sb.Env} {S : Sm} (P : Sb.Env → Prop) : ∀ {xs : List Dt} {ρ : Sb.Env}, P ρ →
    (∀ x ∈ xs, ∀ ρ, P ρ → Good P (onO (g x ρ) S)) → ∃ ρ', forL g S xs ρ = .nx ρ' ∧ P ρ'
  | [], ρ, h, _ => ⟨ρ, rfl, h⟩
  | x :: xs, ρ, h, hs => by
    have e1 := hs x (List.mem_cons_self ..) ρ h
    rw [e_forL_cons]
    cases e : g x ρ with
    | none => rw [e] at e1; exact e1.elim
    | some ρ1 =>
      rw [e, onO_some] at e1
      rw [onO_some]
      cases e2 : S ρ1 with
      | nx ρ2 =>
        rw [e2] at e1
        rw [turnE_nx]
        exact forL_nx P e1 fun y hy => hs y (List.mem_cons_of_mem _ hy)
      | ct ρ2 =>
        rw [e2] at e1
        rw [turnE_ct]
        exact forL_nx P e1 fun y hy => hs y (List.mem_cons_of_mem _ hy)
      | _ => rw [e2] at e1; exact e1.elim
theorem forL_thn {g : Dt → Sb.Env → Option Sb.Env} {S T : Sm} (P : Sb.Env → Prop) {r : So} {xs : List Dt} {ρ : Sb.Env} (h : P ρ)
    (hs : ∀ x ∈ xs, ∀ ρ, P ρ → Good P (onO (g x ρ) S)) (ht : ∀ ρ', P ρ' → T ρ' = r) : (forL g S xs ρ).thn T = r := by
  obtain ⟨ρ', e, h'⟩ := forL_nx P h hs
  rw [e, So.thn_nx]
  exact ht ρ' h'
theorem mem_rngL {x : Dt} {lo : Int} {n : Nat} (h : x ∈ rngL lo n) : ∃ i : Int, x = .int i ∧ lo ≤ i ∧ i < lo + n := by
  unfold rngL at h
  rw [List.mem_map] at h
  obtain ⟨i, hi, rfl⟩ := h
  rw [List.mem_range] at hi
  exact ⟨lo + i, rfl, by omega, by omega⟩
theorem rngL_zero (lo : Int) : rngL lo 0 = [] := rfl
theorem rngL_succ (lo : Int) (n : Nat) : rngL lo (n + 1) = .int lo :: rngL (lo + 1) n := by
  unfold rngL
  rw [List.range_succ_eq_map, List.map_cons, List.map_map]
  congr 1
  · congr 1; omega
  · refine List.map_congr_left fun i _ => ?_
    show PyData.int (lo + ((i + 1 : Nat) : Int)) = PyData.int (lo + 1 + (i : Int))
    congr 1; omega
theorem forL_rng {g : Dt → Sb.Env → Option Sb.Env} {S : Sm} (P : Int → Sb.Env → Prop) : ∀ (n : Nat) (lo : Int) {ρ : Sb.Env}, P lo ρ →
    (∀ i : Int, lo ≤ i → i < lo + n → ∀ ρ, P i ρ → Good (P (i + 1)) (onO (g (.int i) ρ) S)) → ∃ ρ', forL g S (rngL lo n) ρ = .nx ρ' ∧ P (lo + n) ρ'
  | 0, lo, ρ, h, _ => ⟨ρ, rfl, by simpa using h⟩
  | n + 1, lo, ρ, h, hs => by
    have e1 := hs lo (Int.le_refl _) (by omega) ρ h
    rw [rngL_succ, e_forL_cons]
    have w : lo + ((n + 1 : Nat) : Int) = lo + 1 + (n : Nat) := by omega
    rw [w]
    cases e : g (.int lo) ρ with
    | none => rw [e] at e1; exact e1.elim
    | some ρ1 =>
      rw [e, onO_some] at e1
      rw [onO_some]
      cases e2 : S ρ1 with
      | nx ρ2 =>
        rw [e2] at e1
        rw [turnE_nx]
        exact forL_rng P n (lo + 1) e1 fun i h1 h2 => hs i (by omega) (by omega)
      | ct ρ2 =>
        rw [e2] at e1
        rw [turnE_ct]
        exact forL_rng P n (lo + 1) e1 fun i h1 h2 => hs i (by omega) (by omega)
      | _ => rw [e2] at e1; exact e1.elim
theorem forL_rng_thn {g : Dt → Sb.Env → Option Sb.Env} {S T : Sm} (P : Int → Sb.Env → Prop) {r : So} {n : Nat} {lo : Int} {ρ : Sb.Env} (h : P lo ρ)
    (hs : ∀ i : Int, lo ≤ i → i < lo + n → ∀ ρ, P i ρ → Good (P (i + 1)) (onO (g (.int i) ρ) S)) (ht : ∀ ρ', P (lo + n) ρ' → T ρ' = r) : (forL g S (rngL lo n) ρ).thn T = r := by
  obtain ⟨ρ', e, h'⟩ := forL_rng P n lo h hs
  rw [e, So.thn_nx]
  exact ht ρ' h'
theorem cut1 (xs : List Dt) : cutD xs (some 1) none = xs.drop 1 := by
  unfold cutD
  have e1 : HT.sIx xs.length 0 (some 1) = min 1 xs.length := HT.sIx_nat xs.length 0 1
  rw [e1, HT.sIx_none]
  cases xs with
  | nil => rfl
  | cons x xs =>
    have : min 1 (x :: xs).length = 1 := by simp only [List.length_cons]; omega
    rw [this]
    refine List.take_of_length_le ?_
    simp
theorem ix_last (xs : List Dt) (x : Dt) : ixD (.list (xs ++ [x])) (.int (-1)) = .ok x := by
  show ofO (atI (xs ++ [x]) (-1)) = _
  have e : atI (xs ++ [x]) (-1) = some x := by
    unfold atI ixN
    rw [if_neg (by decide), if_pos (by simp only [List.length_append, List.length_cons, List.length_nil]; omega)]
    show (xs ++ [x])[((-1 : Int) + ((xs ++ [x]).length : Int)).toNat]? = some x
    have : ((-1 : Int) + ((xs ++ [x]).length : Int)).toNat = xs.length := by simp only [List.length_append, List.length_cons, List.length_nil]; omega
    rw [this]
    simp
  rw [e]; rfl
mutual
theorem eqv_refl : ∀ d : Dt, d.canLay0 = true → PyData.eqv d d = true
  | .none, _ => by simp [PyData.eqv]
  | .bool _, _ => by simp [PyData.eqv]
  | .int _, _ => by simp [PyData.eqv]
  | .str _, _ => by simp [PyData.eqv]
  | .list xs, h => by
    simp only [PyData.eqv]
    exact eqvAll_refl xs (by simpa [PyData.canLay0] using h)
  | .tuple xs, h => by
    simp only [PyData.eqv]
    exact eqvAll_refl xs (by simpa [PyData.canLay0] using h)
  | .dict _, h => by simp [PyData.canLay0] at h
theorem eqvAll_refl : ∀ xs : List Dt, PyData.canLayAll0 xs = true → PyData.eqvAll xs xs = true
  | [], _ => by simp [PyData.eqvAll]
  | x :: xs, h => by
    have h' : x.canLay0 = true ∧ PyData.canLayAll0 xs = true := by simpa [PyData.canLayAll0] using h
    simp [PyData.eqvAll, eqv_refl x h'.1, eqvAll_refl xs h'.2]
end
theorem OkR.shaped {d : Dt} (h : OkR d) (hd : d.depth ≤ 60) : SeqAt.shaped d = true := by
  unfold SeqAt.shaped
  rw [h.c]
  simp
  omega
theorem ne_same {d : Dt} (h : OkR d) (hd : d.depth ≤ 60) : neD d d = .ok (.bool false) := by
  unfold neD
  rw [if_pos ⟨h.shaped hd, h.shaped hd⟩, eqv_refl d h.c]
  rfl
theorem eq_same {d : Dt} (h : OkR d) (hd : d.depth ≤ 60) : eqD d d = .ok (.bool true) := by
  unfold eqD
  rw [if_pos ⟨h.shaped hd, h.shaped hd⟩, eqv_refl d h.c]
end Lw
set_option Elab.async false
set_option linter.all false
set_option maxRecDepth 100000
set_option maxHeartbeats 4000000
/-! Md: the nearest bounds with a small bottom. -/
namespace Lw
open PySem L2 Sb

/-- coprime and equal -/
theorem frac_eq {p q r s : Int} (a1 : 0 ≤ p) (a2 : 0 ≤ q) (a3 : 0 ≤ r) (a4 : 0 ≤ s) (h1 : Int.gcd p q = 1) (h2 : Int.gcd r s = 1) (h : p * s = r * q) : p = r ∧ q = s := by
  obtain ⟨p, rfl⟩ := Int.eq_ofNat_of_zero_le a1
  obtain ⟨q, rfl⟩ := Int.eq_ofNat_of_zero_le a2
  obtain ⟨r, rfl⟩ := Int.eq_ofNat_of_zero_le a3
  obtain ⟨s, rfl⟩ := Int.eq_ofNat_of_zero_le a4
  have g1 : Nat.gcd p q = 1 := by simpa using h1
  have g2 : Nat.gcd r s = 1 := by simpa using h2
  have e : p * s = r * q := by exact_mod_cast h
  have d1 : p ∣ r := Nat.Coprime.dvd_of_dvd_mul_right g1 ⟨s, e.symm⟩
  have d2 : r ∣ p := Nat.Coprime.dvd_of_dvd_mul_right g2 ⟨q, e⟩
  have d3 : q ∣ s := Nat.Coprime.dvd_of_dvd_mul_left (Nat.Coprime.symm g1) ⟨r, by rw [e, Nat.mul_comm]⟩
  have d4 : s ∣ q := Nat.Coprime.dvd_of_dvd_mul_left (Nat.Coprime.symm g2) ⟨p, by rw [← e, Nat.mul_comm]⟩
  exact ⟨by exact_mod_cast Nat.dvd_antisymm d1 d2, by exact_mod_cast Nat.dvd_antisymm d3 d4⟩
/-- a greater bottom isn't met -/
theorem no_eq {p q a b : Int} (g : Int.gcd p q = 1) (q0 : 0 < q) (b0 : 0 < b) (h : b < q) : a * q ≠ p * b := by
  intro e
  have d : q ∣ p * b := ⟨a, by rw [← e, Int.mul_comm]⟩
  have d2 : q ∣ b := by
    rw [← Int.natAbs_dvd_natAbs] at d ⊢
    rw [Int.natAbs_mul] at d
    exact Nat.Coprime.dvd_of_dvd_mul_left (by rw [Nat.Coprime, Nat.gcd_comm]; exact g) d
  have := Int.le_of_dvd b0 d2
  omega
theorem gcd_det {a b c d : Int} (h : c * b - a * d = 1) : Int.gcd a b = 1 ∧ Int.gcd c d = 1 := by
  constructor
  · rw [Int.gcd_eq_one_iff]
    intro x hx hy
    have : x ∣ c * b - a * d := Int.dvd_sub (Int.dvd_mul_of_dvd_right hy) (Int.dvd_mul_of_dvd_left hx)
    rwa [h] at this
  · rw [Int.gcd_eq_one_iff]
    intro x hx hy
    have : x ∣ c * b - a * d := Int.dvd_sub (Int.dvd_mul_of_dvd_left hx) (Int.dvd_mul_of_dvd_right hy)
    rwa [h] at this
/-- what is asked -/
structure Ask (p q m : Int) : Prop where
  i : IsB p q
  q1 : 1 ≤ q
  m1 : 1 ≤ m
  m2 : m ≤ 1000000000000000000000000000000000000000000000000000000000000
theorem Ask.need {p q m : Int} (h : Ask p q m) : m_need_asked [fr p q, .int m] = .ok (.d .none) := by
  have e : (decide (p = 1) && decide (q = 0)) = false := by
    have := h.q1
    have : ¬(q = 0) := by omega
    simp [this]
  unfold m_need_asked F_need_asked
  simp [h.i.bound, c_NO_END, c_GREATEST, eq_fr, e, among_int, h.m1, h.m2]
/-- borders around one bound, of small bottoms -/
structure Nb (p q m a b c d : Int) : Prop where
  a0 : 0 ≤ a
  b0 : 0 < b
  c0 : 0 < c
  d0 : 0 ≤ d
  bm : b ≤ m
  dm : d ≤ m
  det : c * b - a * d = 1
  l1 : a * q < p * b
  l2 : p * d < c * q
namespace Nb
variable {p q m a b c d : Int}
theorem le_pq (I : Nb p q m a b c d) : a ≤ p ∧ b ≤ q ∧ c ≤ p ∧ d ≤ q := by
  obtain ⟨a0, b0, c0, d0, bm, dm, det, l1, l2⟩ := I
  have x1 : 1 ≤ c * q - p * d := by omega
  have y1 : 1 ≤ p * b - a * q := by omega
  have e1 := Int.mul_le_mul_of_nonneg_left x1 a0
  have e2 := Int.mul_le_mul_of_nonneg_left y1 (Int.le_of_lt c0)
  have e3 := Int.mul_le_mul_of_nonneg_left x1 (Int.le_of_lt b0)
  have e4 := Int.mul_le_mul_of_nonneg_left y1 d0
  have : p = a * (c * q - p * d) + c * (p * b - a * q) := by grind
  have : q = b * (c * q - p * d) + d * (p * b - a * q) := by grind
  omega
theorem stepR (I : Nb p q m a b c d) (g : Int.gcd p q = 1) (hm : m < q) {k : Int} (k0 : 0 ≤ k) (hk : k * (c * q - p * d) ≤ p * b - a * q) (hr : k * d ≤ m - b) : Nb p q m (a + k * c) (b + k * d) c d := by
  obtain ⟨a0, b0, c0, d0, bm, dm, det, l1, l2⟩ := I
  have e1 := Int.mul_nonneg k0 (Int.le_of_lt c0)
  have e2 := Int.mul_nonneg k0 d0
  have le : (a + k * c) * q ≤ p * (b + k * d) := by grind
  have ne := no_eq (p := p) (q := q) (a := a + k * c) (b := b + k * d) g (by omega) (by omega) (by omega)
  exact ⟨by omega, by omega, c0, d0, by omega, dm, by grind, by omega, l2⟩
theorem stepL (I : Nb p q m a b c d) (g : Int.gcd p q = 1) (hm : m < q) {k : Int} (k0 : 0 ≤ k) (hk : k * (p * b - a * q) ≤ c * q - p * d) (hr : k * b ≤ m - d) : Nb p q m a b (c + k * a) (d + k * b) := by
  obtain ⟨a0, b0, c0, d0, bm, dm, det, l1, l2⟩ := I
  have e1 := Int.mul_nonneg k0 a0
  have e2 := Int.mul_nonneg k0 (Int.le_of_lt b0)
  have le : p * (d + k * b) ≤ (c + k * a) * q := by grind
  have lt : p * (d + k * b) < (c + k * a) * q := by
    rcases Int.lt_or_le 0 (d + k * b) with t | t
    · have ne := no_eq (p := p) (q := q) (a := c + k * a) (b := d + k * b) g (by omega) t (by omega)
      omega
    · have e : d + k * b = 0 := by omega
      rw [e, Int.mul_zero]
      exact Int.mul_pos (by omega) (by omega)
  exact ⟨a0, b0, by omega, by omega, bm, by omega, by grind, l1, lt⟩
end Nb
theorem room_0 (b m : Int) : m_room_for [.int b, .int 0, .int m] = .ok (.d .none) := by
  unfold m_room_for F_room_for
  simp
theorem room_is {b d m : Int} (hd : 0 < d) (h2 : d ≤ 10 ^ 999) : m_room_for [.int b, .int d, .int m] = .ok (.d (.int ((m - b) / d))) := by
  have e : ¬(d = 0) := by omega
  unfold m_room_for F_room_for
  simp [e, o_div hd (Bq_small (by omega))]
theorem fewer_n (k : Int) : m_fewer [.int k, .none] = .ok (.d (.int k)) := by
  unfold m_fewer F_fewer
  simp
theorem fewer_i (k r : Int) : m_fewer [.int k, .int r] = .ok (.d (.int (if r < k then r else k))) := by
  unfold m_fewer F_fewer
  simp
noncomputable def lhT : Sb.Env → Rs Bool := (tst (ap2 leD (ap2 addD (ap2 ixD (vr 2) (cn (.int 1))) (ap2 ixD (vr 3) (cn (.int 1)))) (vr 1)))
noncomputable def lhS : Sm := (sSeq (sSet 4 (calE m_fewer (csA (calE m_up_to (csA (vr 2) (csA (vr 3) (csA (vr 0) nlA)))) (csA (calE m_room_for (csA (ap2 ixD (vr 2) (cn (.int 1))) (csA (ap2 ixD (vr 3) (cn (.int 1))) (csA (vr 1) nlA)))) nlA))))
(sSeq (sUnp (gt2 2 3) (calE m_stepped (csA (vr 2) (csA (vr 3) (csA (cn (.str "R")) (csA (vr 4) nlA))))))
(sSeq (sSet 4 (calE m_fewer (csA (calE m_down_to (csA (vr 2) (csA (vr 3) (csA (vr 0) nlA)))) (csA (calE m_room_for (csA (ap2 ixD (vr 3) (cn (.int 1))) (csA (ap2 ixD (vr 2) (cn (.int 1))) (csA (vr 1) nlA)))) nlA))))
(sUnp (gt2 2 3) (calE m_stepped (csA (vr 2) (csA (vr 3) (csA (cn (.str "L")) (csA (vr 4) nlA)))))))))
/-- how many steps -/
theorem many_is {U b d m : Int} (u : 0 ≤ U) (d0 : 0 ≤ d) (d1 : d ≤ 10 ^ 999) (bm : b ≤ m) : ∃ (k : Int) (z : Dt), 0 ≤ k ∧ k ≤ U ∧ k * d ≤ m - b ∧ (1 ≤ U → b + d ≤ m → 1 ≤ k) ∧ m_room_for [.int b, .int d, .int m] = .ok (.d z) ∧ m_fewer [.int U, z] = .ok (.d (.int k)) := by
  rcases Int.lt_or_le 0 d with t | t
  · have r0 : 0 ≤ (m - b) / d := Int.ediv_nonneg (by omega) d0
    have r1 := Int.ediv_mul_le (m - b) (Int.ne_of_gt t)
    refine ⟨if (m - b) / d < U then (m - b) / d else U, _, ?_, ?_, ?_, ?_, room_is t d1, fewer_i _ _⟩
    · split <;> omega
    · split <;> omega
    · split
      · exact r1
      · have := Int.mul_le_mul_of_nonneg_right (show U ≤ (m - b) / d by omega) d0
        omega
    · intro h1 h2
      have : 1 ≤ (m - b) / d := by rw [Int.le_ediv_iff_mul_le t]; omega
      split <;> omega
  · have e : d = 0 := by omega
    subst e
    exact ⟨U, _, u, Int.le_refl _, by omega, fun h _ => h, room_0 _ _, fewer_n _⟩
theorem lh_turn {p q m a b c d : Int} (x : Sl) : lhT [.d (fr p q), .d (.int m), .d (fr a b), .d (fr c d), x] = .ok (decide (b + d ≤ m)) := by
  unfold lhT
  simp
theorem lh_step {p q m a b c d : Int} (A : Ask p q m) (hm : m < q) (I : Nb p q m a b c d) (x : Sl) (hl : b + d ≤ m) : ∃ a' b' c' d' x', Nb p q m a' b' c' d' ∧ a + b + c + d < a' + b' + c' + d' ∧
    lhS [.d (fr p q), .d (.int m), .d (fr a b), .d (fr c d), x] = .nx [.d (fr p q), .d (.int m), .d (fr a' b'), .d (fr c' d'), x'] := by
  obtain ⟨p0, p1, q0, q1, g⟩ := A.i
  have m2 := A.m2
  obtain ⟨x1, x2, x3, x4⟩ := I.le_pq
  have l1 := I.l1; have l2 := I.l2
  have a0 := I.a0; have b0 := I.b0; have c0 := I.c0; have d0 := I.d0; have bm := I.bm; have dm := I.dm
  obtain ⟨u0, u1, u2⟩ := Inv.kR_le (X := c * q - p * d) (Y := p * b - a * q) (by omega) (by omega)
  have u := up_to_is (a := a) (b := b) (c := c) (d := d) (p := p) (q := q) (by omega) (by omega) (by omega) (by omega) (by omega) (by omega) l2
  generalize hU : (p * b - a * q) / (c * q - p * d) = U at *
  obtain ⟨k, z, k0, kU, kd, k1, er, ef⟩ := many_is (U := U) (b := b) (d := d) (m := m) u0 d0 (by omega) bm
  have hk : k * (c * q - p * d) ≤ p * b - a * q := by
    have := Int.mul_le_mul_of_nonneg_right kU (show 0 ≤ c * q - p * d by omega)
    omega
  have I2 := I.stepR g hm k0 hk kd
  obtain ⟨y1, y2, y3, y4⟩ := I2.le_pq
  have l3 := I2.l1
  have a2 := I2.a0; have b2 := I2.b0; have bm2 := I2.bm
  have kb : k ≤ p * b := by
    have := Inv.k_small k0 (show 0 < c * q - p * d by omega) hk
    have := Int.mul_nonneg a0 (show 0 ≤ q by omega)
    omega
  have pb : p * b ≤ 1000000000000000000000000000000000000000000000000000000000000 * 1000000000000000000000000000000000000000000000000000000000000 := Int.mul_le_mul (by omega) (by omega) (by omega) (by decide)
  have zk : Bd k := Bd_small (by omega)
  have zc : Bd c := Bd_small (by omega)
  have zd : Bd d := Bd_small (by omega)
  have za : Bd (a + k * c) := Bd_small (by omega)
  have zb : Bd (b + k * d) := Bd_small (by omega)
  obtain ⟨v0, v1, v2⟩ := Inv.kR_le (X := p * (b + k * d) - (a + k * c) * q) (Y := c * q - p * d) (by omega) (by omega)
  have v := down_to_is (a := a + k * c) (b := b + k * d) (c := c) (d := d) (p := p) (q := q) (by omega) (by omega) (by omega) (by omega) (by omega) (by omega) l3
  generalize hV : (c * q - p * d) / (p * (b + k * d) - (a + k * c) * q) = V at *
  obtain ⟨l, w, w0, wV, wd, w1, fr', ff⟩ := many_is (U := V) (b := d) (d := b + k * d) (m := m) v0 (by omega) (by omega) dm
  have hl2 : l * (p * (b + k * d) - (a + k * c) * q) ≤ c * q - p * d := by
    have := Int.mul_le_mul_of_nonneg_right wV (show 0 ≤ p * (b + k * d) - (a + k * c) * q by omega)
    omega
  have I3 := I2.stepL g hm w0 hl2 wd
  have lb : l ≤ c * q := by
    have := Inv.k_small w0 (show 0 < p * (b + k * d) - (a + k * c) * q by omega) hl2
    have := Int.mul_nonneg p0 d0
    omega
  have cq : c * q ≤ 1000000000000000000000000000000000000000000000000000000000000 * 1000000000000000000000000000000000000000000000000000000000000 := Int.mul_le_mul (by omega) (by omega) (by omega) (by decide)
  have zl : Bd l := Bd_small (by omega)
  refine ⟨_, _, _, _, .d (.int l), I3, ?_, ?_⟩
  · have g1 : 0 ≤ k * c := Int.mul_nonneg k0 (Int.le_of_lt c0)
    have g2 : 0 ≤ k * d := Int.mul_nonneg k0 d0
    have g3 : 0 ≤ l * (a + k * c) := Int.mul_nonneg w0 a2
    have g4 : 0 ≤ l * (b + k * d) := Int.mul_nonneg w0 (Int.le_of_lt b2)
    have kk : 1 ≤ k ∨ 1 ≤ l := by
      rcases Int.lt_or_le 0 k with t | t
      · exact Or.inl t
      · right
        have e0 : k = 0 := by omega
        subst e0
        have U0 : U = 0 := by
          rcases Int.lt_or_le 0 U with t | t
          · have := k1 t hl
            omega
          · omega
        subst U0
        simp only [Int.zero_mul, Int.add_zero] at *
        have o1 : p * (b + d) < (a + c) * q := by grind
        refine w1 ?_ (by omega)
        rw [← hV, Int.le_ediv_iff_mul_le (by omega)]
        grind
    rcases kk with t | t
    · have := Int.mul_le_mul_of_nonneg_right t (Int.le_of_lt c0)
      omega
    · have := Int.mul_le_mul_of_nonneg_right t (Int.le_of_lt b2)
      omega
  · unfold lhS
    simp [u, er, ef, stepped_R zk zc zd, v, fr', ff, stepped_L zl za zb]
theorem lh_loop : ∀ (n : Nat) {p q m a b c d : Int} (x : Sl), Ask p q m → m < q → Nb p q m a b c d → ((2 * p + 2 * q) - (a + b + c + d)).toNat = n →
    ∃ a' b' c' d' x', Nb p q m a' b' c' d' ∧ m < b' + d' ∧ sWh lhT lhS [.d (fr p q), .d (.int m), .d (fr a b), .d (fr c d), x] = .nx [.d (fr p q), .d (.int m), .d (fr a' b'), .d (fr c' d'), x'] := by
  intro n
  induction n using Nat.strongRecOn with
  | _ n ih =>
    intro p q m a b c d x A hm I hn
    rw [sWh_step, lh_turn]
    by_cases hl : b + d ≤ m
    · obtain ⟨a', b', c', d', x', I2, up, e⟩ := lh_step A hm I x hl
      have := I2.le_pq
      obtain ⟨a2, b2, c2, d2, x2, I3, hb, e2⟩ := ih _ (by omega) x' A hm I2 rfl
      refine ⟨a2, b2, c2, d2, x2, I3, hb, ?_⟩
      simp only [onR_ok, hl, decide_true, if_true, e, turnE_nx]
      exact e2
    · refine ⟨a, b, c, d, x, I, by omega, ?_⟩
      simp [hl]
theorem low_high_small {p q m : Int} (A : Ask p q m) (h : q ≤ m) : m_low_high [fr p q, .int m] = .ok (.d (.tuple [fr p q, fr p q])) := by
  unfold m_low_high F_low_high
  simp [A.need, h]
theorem low_high_is {p q m : Int} (A : Ask p q m) (h : m < q) : ∃ a b c d, Nb p q m a b c d ∧ m < b + d ∧ m_low_high [fr p q, .int m] = .ok (.d (.tuple [fr a b, fr c d])) := by
  have hp : 0 < p := by
    have := A.i.a0
    have := A.m1
    rcases Int.lt_or_le 0 p with t | t
    · exact t
    · have := A.i.zero (by omega)
      omega
  have m1 := A.m1
  have I : Nb p q m 0 1 1 0 := ⟨by omega, by omega, by omega, by omega, by omega, by omega, by omega, by omega, by omega⟩
  obtain ⟨a, b, c, d, x, I2, hb, e⟩ := lh_loop _ .u A h I rfl
  refine ⟨a, b, c, d, I2, hb, ?_⟩
  have hh : ¬(q ≤ m) := by omega
  unfold lhT lhS at e
  unfold m_low_high F_low_high
  simp [A.need, hh, c_NOUGHT, c_NO_END, e]
/-- the nearest one -/
def nearB (p q a b c d : Int) : Bool := if (p * b - a * q) * d = (c * q - p * d) * b then !decide (d < b) else decide ((p * b - a * q) * d < (c * q - p * d) * b)
theorem nearest_is {p q m a b c d : Int} (e : m_low_high [fr p q, .int m] = .ok (.d (.tuple [fr a b, fr c d])))
    (ha : 0 ≤ a ∧ a ≤ 1000000000000000000000000000000000000000000000000000000000000) (hb : 0 ≤ b ∧ b ≤ 1000000000000000000000000000000000000000000000000000000000000) (hc : 0 ≤ c ∧ c ≤ 1000000000000000000000000000000000000000000000000000000000000) (hd : 0 ≤ d ∧ d ≤ 1000000000000000000000000000000000000000000000000000000000000) (hp : 0 ≤ p ∧ p ≤ 1000000000000000000000000000000000000000000000000000000000000) (hq : 0 ≤ q ∧ q ≤ 1000000000000000000000000000000000000000000000000000000000000) : m_nearest [fr p q, .int m] = .ok (.d (if nearB p q a b c d = true then fr a b else fr c d)) := by
  have t1 : p * b ≤ 1000000000000000000000000000000000000000000000000000000000000 * 1000000000000000000000000000000000000000000000000000000000000 := Int.mul_le_mul hp.2 hb.2 hb.1 (by decide)
  have t2 : a * q ≤ 1000000000000000000000000000000000000000000000000000000000000 * 1000000000000000000000000000000000000000000000000000000000000 := Int.mul_le_mul ha.2 hq.2 hq.1 (by decide)
  have t3 : c * q ≤ 1000000000000000000000000000000000000000000000000000000000000 * 1000000000000000000000000000000000000000000000000000000000000 := Int.mul_le_mul hc.2 hq.2 hq.1 (by decide)
  have t4 : p * d ≤ 1000000000000000000000000000000000000000000000000000000000000 * 1000000000000000000000000000000000000000000000000000000000000 := Int.mul_le_mul hp.2 hd.2 hd.1 (by decide)
  have u1 : 0 ≤ p * b := Int.mul_nonneg hp.1 hb.1
  have u2 : 0 ≤ a * q := Int.mul_nonneg ha.1 hq.1
  have u3 : 0 ≤ c * q := Int.mul_nonneg hc.1 hq.1
  have u4 : 0 ≤ p * d := Int.mul_nonneg hp.1 hd.1
  have z1 : Bd a := Bd_small (by omega)
  have z2 : Bd b := Bd_small (by omega)
  have z3 : Bd c := Bd_small (by omega)
  have z4 : Bd d := Bd_small (by omega)
  have z5 : Bd p := Bd_small (by omega)
  have z6 : Bd q := Bd_small (by omega)
  have z7 : Bd (p * b - a * q) := Bd_small (by omega)
  have z8 : Bd (c * q - p * d) := Bd_small (by omega)
  unfold m_nearest F_nearest nearB
  by_cases h1 : (p * b - a * q) * d = (c * q - p * d) * b
  · by_cases h2 : d < b <;> simp [e, o_mul, z1, z2, z3, z4, z5, z6, z7, z8, h1, h2]
  · by_cases h2 : (p * b - a * q) * d < (c * q - p * d) * b <;> simp [e, o_mul, z1, z2, z3, z4, z5, z6, z7, z8, h1, h2]
theorem lowest_eq {t u a b : Int} (t0 : 0 ≤ t) (u0 : 0 < u) (ul : u ≤ 10 ^ 999) (a0 : 0 ≤ a) (b0 : 0 < b) (g : Int.gcd a b = 1) (h : t * b = a * u) : m__law_lowest [.int t, .int u] = .ok (.d (fr a b)) := by
  rw [lowest_is t0 u0 ul]
  have g0 := gcd_pos (a := t) (Or.inr u0)
  have e1 : t / (Int.gcd t u : Int) * (Int.gcd t u : Int) = t := Int.ediv_mul_cancel (Int.gcd_dvd_left t u)
  have e2 : u / (Int.gcd t u : Int) * (Int.gcd t u : Int) = u := Int.ediv_mul_cancel (Int.gcd_dvd_right t u)
  have lg := lowest_gcd (a := t) u0
  have n1 : 0 ≤ t / (Int.gcd t u : Int) := Int.ediv_nonneg t0 (Int.le_of_lt g0)
  have n2 : 0 ≤ u / (Int.gcd t u : Int) := Int.ediv_nonneg (Int.le_of_lt u0) (Int.le_of_lt g0)
  generalize t / (Int.gcd t u : Int) = t' at *
  generalize u / (Int.gcd t u : Int) = u' at *
  have e : t' * b = a * u' := by
    refine Int.eq_of_mul_eq_mul_right (Int.ne_of_gt g0) ?_
    grind
  obtain ⟨rfl, rfl⟩ := frac_eq n1 n2 a0 (Int.le_of_lt b0) lg g e
  rfl
end Lw
set_option Elab.async false
set_option linter.all false
set_option maxRecDepth 100000
set_option maxHeartbeats 4000000
/-! Me: the drawn fractions and bounds. -/
namespace Lw
open PySem L2 Sb

theorem pow_is {i j : Int} (h : 0 ≤ j ∧ j ≤ 1000 ∧ 0 ≤ i ∧ i < 1000) : powD (.int i) (.int j) = .ok (.int (i ^ j.toNat)) := if_pos h
@[simp] theorem pow_10_60 : powD (.int 10) (.int 60) = .ok (.int 1000000000000000000000000000000000000000000000000000000000000) := by
  rw [pow_is (by decide)]
  rfl
@[simp] theorem pow_7_45 : powD (.int 7) (.int 45) = .ok (.int (7 ^ 45)) := by
  rw [pow_is (by decide)]
  rfl
theorem great_is (ns : List Int) {k : Int} (hk : 0 ≤ k ∧ k ≤ 10 ^ 8) : ∃ g, m__law_great [scr ns, .int k] = .ok (.d (.int g)) ∧ 1 ≤ g ∧ g ≤ 1000000000000000000000000000000000000000000000000000000000000 := by
  obtain ⟨n1, n2, n3⟩ := number_is ns (k := k) (by omega)
  obtain ⟨m1, m2, m3⟩ := number_is ns (k := k + 1) (by omega)
  obtain ⟨l1, l2, l3⟩ := number_is ns (k := k + 2) (by omega)
  generalize nmb ns k = n at *
  generalize nmb ns (k + 1) = m at *
  generalize nmb ns (k + 2) = l at *
  have q5 := o_div (i := n) (j := 5) (by decide) (Bq_small (by omega))
  have w1 := o_mod (i := n) (j := 5) (by decide)
  have w2 := o_mod (i := n / 5) (j := 4) (by decide)
  by_cases h : n % 5 = 1
  · refine ⟨1000000000000000000000000000000000000000000000000000000000000 - n / 5 % 4, ?_, by omega, by omega⟩
    unfold m__law_great F__law_great
    simp [n1, w1, h, q5, w2]
  · have b1 : n * m ≤ 536870908 * 536870908 := Int.mul_le_mul (by omega) (by omega) (by omega) (by decide)
    have b2 : 0 ≤ n * m := Int.mul_nonneg n2 m2
    have b3 : n * m * l ≤ (536870908 * 536870908) * 536870908 := Int.mul_le_mul b1 (by omega) (by omega) (by decide)
    have b4 : 0 ≤ n * m * l := Int.mul_nonneg b2 l2
    have z1 := o_mul (i := n) (j := m) (Bd_small (by omega)) (Bd_small (by omega))
    have z2 := o_mul (i := n * m) (j := l) (Bd_small (by omega)) (Bd_small (by omega))
    have z3 := o_mul (i := n * m * l) (j := 7 ^ 45) (Bd_small (by omega)) (Bd_small (by decide +kernel))
    have z4 := o_mod (i := n * m * l * 7 ^ 45) (j := 1000000000000000000000000000000000000000000000000000000000000) (by decide)
    have c1 := Int.emod_nonneg (n * m * l * 7 ^ 45) (by decide : (1000000000000000000000000000000000000000000000000000000000000 : Int) ≠ 0)
    have c2 := Int.emod_lt_of_pos (n * m * l * 7 ^ 45) (by decide : (0 : Int) < 1000000000000000000000000000000000000000000000000000000000000)
    refine ⟨1 + n * m * l * 7 ^ 45 % 1000000000000000000000000000000000000000000000000000000000000, ?_, by omega, by omega⟩
    unfold m__law_great F__law_great
    simp only [Int.reducePow] at z3 z4 ⊢
    simp [n1, m1, l1, w1, h, z1, z2, z3, z4]
structure Pos2 (a b : Int) : Prop extends IsB a b where
  ap : 0 < a
  bp : 0 < b
theorem low_pos {t u : Int} (ht : 1 ≤ t ∧ t ≤ 1000000000000000000000000000000000000000000000000000000000000) (hu : 1 ≤ u ∧ u ≤ 1000000000000000000000000000000000000000000000000000000000000) : ∃ a b, m__law_lowest [.int t, .int u] = .ok (.d (fr a b)) ∧ Pos2 a b := by
  have g0 := gcd_pos (a := t) (b := u) (Or.inr (by omega))
  have g1 := gcd_le (a := t) (b := u) (by omega) (by omega)
  have g2 : (Int.gcd t u : Int) ≤ t := Int.le_of_dvd (by omega) (Int.gcd_dvd_left t u)
  have d1 : 1 ≤ t / (Int.gcd t u : Int) := by rw [Int.le_ediv_iff_mul_le g0]; omega
  have d2 : t / (Int.gcd t u : Int) ≤ t := Int.ediv_le_self _ (by omega)
  have d3 : 1 ≤ u / (Int.gcd t u : Int) := by rw [Int.le_ediv_iff_mul_le g0]; omega
  have d4 : u / (Int.gcd t u : Int) ≤ u := Int.ediv_le_self _ (by omega)
  exact ⟨_, _, lowest_is (by omega) (by omega) (by omega), ⟨by omega, by omega, by omega, by omega, lowest_gcd (by omega)⟩, by omega, by omega⟩
theorem pos_1g {g : Int} (h : 1 ≤ g ∧ g ≤ 1000000000000000000000000000000000000000000000000000000000000) : Pos2 1 g ∧ Pos2 g 1 :=
  ⟨⟨⟨by omega, by omega, by omega, by omega, by simp⟩, by omega, by omega⟩, ⟨⟨by omega, by omega, by omega, by omega, by simp⟩, by omega, by omega⟩⟩
theorem fraction_drawn (ns : List Int) {k : Int} (hk : 0 ≤ k ∧ k ≤ 10 ^ 7) : ∃ a b, m__law_fraction [scr ns, .int k] = .ok (.d (fr a b)) ∧ Pos2 a b := by
  obtain ⟨n1, n2, n3⟩ := number_is ns (k := k) (by omega)
  obtain ⟨g, g1, g2, g3⟩ := great_is ns (k := k + 1) (by omega)
  obtain ⟨f, f1, f2, f3⟩ := great_is ns (k := k + 4) (by omega)
  generalize nmb ns k = n at *
  have w := o_mod (i := n) (j := 6) (by decide)
  have q6 := o_div (i := n) (j := 6) (by decide) (Bq_small (by omega))
  have q72 := o_div (i := n) (j := 72) (by decide) (Bq_small (by omega))
  have q3600 := o_div (i := n) (j := 3600) (by decide) (Bq_small (by omega))
  have q12 := o_div (i := n) (j := 12) (by decide) (Bq_small (by omega))
  have w1 := o_mod (i := n / 6) (j := 12) (by decide)
  have w2 := o_mod (i := n / 72) (j := 12) (by decide)
  have w3 := o_mod (i := n / 6) (j := 600) (by decide)
  have w4 := o_mod (i := n / 3600) (j := 600) (by decide)
  have w5 := o_mod (i := n / 6) (j := 2) (by decide)
  have w6 := o_mod (i := n / 12) (j := 3) (by decide)
  have c2 : n / 6 % 2 = 0 ∨ n / 6 % 2 = 1 := by omega
  by_cases h0 : n % 6 < 2
  · obtain ⟨a, b, e, P⟩ := low_pos (t := 1 + n / 6 % 12) (u := 1 + n / 72 % 12) (by omega) (by omega)
    refine ⟨a, b, ?_, P⟩
    unfold m__law_fraction F__law_fraction
    simp [n1, w, q6, q72, w1, w2, h0, e]
  by_cases h1 : n % 6 = 2
  · obtain ⟨a, b, e, P⟩ := low_pos (t := 1 + n / 6 % 600) (u := 1 + n / 3600 % 600) (by omega) (by omega)
    refine ⟨a, b, ?_, P⟩
    unfold m__law_fraction F__law_fraction
    simp [n1, w, q6, q3600, w3, w4, h0, h1, e]
  by_cases h2 : n % 6 = 3
  · obtain ⟨a, b, e, P⟩ := low_pos (t := g) (u := f) ⟨g2, g3⟩ ⟨f2, f3⟩
    refine ⟨a, b, ?_, P⟩
    unfold m__law_fraction F__law_fraction
    simp [n1, w, h0, h1, h2, g1, f1, e]
  by_cases h3 : n % 6 = 4
  · obtain ⟨p1, p2⟩ := pos_1g ⟨g2, g3⟩
    rcases c2 with c | c
    · refine ⟨1, g, ?_, p1⟩
      unfold m__law_fraction F__law_fraction
      simp [n1, w, h0, h1, h2, h3, g1, q6, w5, c]
    · refine ⟨g, 1, ?_, p2⟩
      unfold m__law_fraction F__law_fraction
      simp [n1, w, h0, h1, h2, h3, g1, q6, w5, c]
  · have hs : 1 ≤ (if g - 1 - n / 12 % 3 > 1 then g - 1 - n / 12 % 3 else 1) ∧ (if g - 1 - n / 12 % 3 > 1 then g - 1 - n / 12 % 3 else 1) ≤ 1000000000000000000000000000000000000000000000000000000000000 := by split <;> omega
    have hm : mxD (.int 1) (.int (g - 1 - n / 12 % 3)) = .ok (.int (if g - 1 - n / 12 % 3 > 1 then g - 1 - n / 12 % 3 else 1)) := rfl
    generalize (if g - 1 - n / 12 % 3 > 1 then g - 1 - n / 12 % 3 else 1) = s at *
    obtain ⟨a, b, e, P⟩ := low_pos (t := s) (u := g) hs ⟨g2, g3⟩
    obtain ⟨c, d, e', P'⟩ := low_pos (t := g) (u := s) ⟨g2, g3⟩ hs
    rcases c2 with c2 | c2
    · refine ⟨a, b, ?_, P⟩
      unfold m__law_fraction F__law_fraction
      simp [-o_mx, n1, w, h0, h1, h2, h3, g1, q6, q12, w6, w5, c2, hm, e, e']
    · refine ⟨c, d, ?_, P'⟩
      unfold m__law_fraction F__law_fraction
      simp [-o_mx, n1, w, h0, h1, h2, h3, g1, q6, q12, w6, w5, c2, hm, e, e']
theorem bound_drawn (ns : List Int) {k : Int} (hk : 0 ≤ k ∧ k ≤ 10 ^ 7) : ∃ a b, m__law_bound [scr ns, .int k] = .ok (.d (fr a b)) ∧ IsB a b := by
  obtain ⟨n1, n2, n3⟩ := number_is ns (k := k + 9) (by omega)
  obtain ⟨a, b, e, P⟩ := fraction_drawn ns hk
  generalize nmb ns (k + 9) = n at *
  have w := o_mod (i := n) (j := 8) (by decide)
  have q8 := o_div (i := n) (j := 8) (by decide) (Bq_small (by omega))
  have w5 := o_mod (i := n / 8) (j := 2) (by decide)
  have c2 : n / 8 % 2 = 0 ∨ n / 8 % 2 = 1 := by omega
  by_cases h : n % 8 = 1
  · rcases c2 with c | c
    · refine ⟨0, 1, ?_, isB_01⟩
      unfold m__law_bound F__law_bound
      simp [n1, w, h, q8, w5, c]
    · refine ⟨1, 0, ?_, isB_10⟩
      unfold m__law_bound F__law_bound
      simp [n1, w, h, q8, w5, c]
  · refine ⟨a, b, ?_, P.toIsB⟩
    unfold m__law_bound F__law_bound
    simp [n1, w, h, e]
end Lw
set_option Elab.async false
set_option linter.all false
set_option maxRecDepth 100000
set_option maxHeartbeats 4000000
/-! Mk: the kinds of errors. -/
namespace Lw
open PySem L2 Sb

def isxD (cs : List Str) (n : Str) : Dt → Rs Dt
  | .dict [(.str c, .none)] => if c ∈ cs then .ok (.bool (exKin c n)) else .bad
  | _ => .bad
@[simp] theorem e_isX (cs : List Str) (n : Str) (f : Sb.Env → Rs Dt) (ρ : Sb.Env) : isX cs n f ρ = (f ρ).bind (isxD cs n) := by
  show (f ρ).bind _ = _
  congr 1
theorem o_isx {cs : List Str} {n c : Str} (h : c ∈ cs) : isxD cs n (exn c) = .ok (.bool (exKin c n)) := if_pos h
theorem mul_one_l (x : Dt) : mulD (.list [x]) (.int 1) = .ok (.list [x]) := by
  have : (0 : Int) ≤ 1 ∧ (1 : Int) ≤ 1000 ∧ [x].length ≤ 1000 := ⟨by decide, by decide, by simp⟩
  show (if (0 : Int) ≤ 1 ∧ (1 : Int) ≤ 1000 ∧ [x].length ≤ 1000 then Rs.ok (PyData.list (List.replicate (1 : Int).toNat [x]).flatten) else .bad) = _
  rw [if_pos this]
  rfl
theorem mul_zero_l (x : Dt) : mulD (.list [x]) (.int 0) = .ok (.list []) := by
  have : (0 : Int) ≤ 0 ∧ (0 : Int) ≤ 1000 ∧ [x].length ≤ 1000 := ⟨by decide, by decide, by simp⟩
  show (if (0 : Int) ≤ 0 ∧ (0 : Int) ≤ 1000 ∧ [x].length ≤ 1000 then Rs.ok (PyData.list (List.replicate (0 : Int).toNat [x]).flatten) else .bad) = _
  rw [if_pos this]
  rfl
theorem add_l {xs ys : List Dt} (h : xs.length + ys.length ≤ 1000000) : addD (.list xs) (.list ys) = .ok (.list (xs ++ ys)) := if_pos h
theorem joi_one {z x : Str} (h : x.length + z.length ≤ 1000) : joiD z (.list [.str x]) = .ok (.str x) := by
  have e : joiD z (.list [.str x]) = if ([x].map (·.length)).sum + [x].length * z.length ≤ lim then .ok (.str (Txt.join z [x])) else .bad := rfl
  rw [e, if_pos (by rw [lim1]; simp; omega)]
  rfl
@[simp] theorem o_isN_x (c : Str) : isNone (exn c) = false := rfl
theorem ex_in_BadFraction : ("BadFraction" : Str) ∈ exCs := by decide +kernel
theorem ev_BadFraction : exKin "BadFraction" "ValueError" = true := by decide +kernel
theorem ek_BadFraction_BadFraction : exKin "BadFraction" "BadFraction" = true := by decide +kernel
theorem ek_BadFraction_BadNumber : exKin "BadFraction" "BadNumber" = false := by decide +kernel
theorem ek_BadFraction_BadOrder : exKin "BadFraction" "BadOrder" = false := by decide +kernel
theorem ek_BadFraction_BadRoad : exKin "BadFraction" "BadRoad" = false := by decide +kernel
theorem ek_BadFraction_BadText : exKin "BadFraction" "BadText" = false := by decide +kernel
theorem ek_BadFraction_NotThere : exKin "BadFraction" "NotThere" = false := by decide +kernel
theorem ek_BadFraction_TooGreat : exKin "BadFraction" "TooGreat" = false := by decide +kernel
theorem ex_in_BadNumber : ("BadNumber" : Str) ∈ exCs := by decide +kernel
theorem ev_BadNumber : exKin "BadNumber" "ValueError" = true := by decide +kernel
theorem ek_BadNumber_BadFraction : exKin "BadNumber" "BadFraction" = false := by decide +kernel
theorem ek_BadNumber_BadNumber : exKin "BadNumber" "BadNumber" = true := by decide +kernel
theorem ek_BadNumber_BadOrder : exKin "BadNumber" "BadOrder" = false := by decide +kernel
theorem ek_BadNumber_BadRoad : exKin "BadNumber" "BadRoad" = false := by decide +kernel
theorem ek_BadNumber_BadText : exKin "BadNumber" "BadText" = false := by decide +kernel
theorem ek_BadNumber_NotThere : exKin "BadNumber" "NotThere" = false := by decide +kernel
theorem ek_BadNumber_TooGreat : exKin "BadNumber" "TooGreat" = false := by decide +kernel
theorem ex_in_BadOrder : ("BadOrder" : Str) ∈ exCs := by decide +kernel
theorem ev_BadOrder : exKin "BadOrder" "ValueError" = true := by decide +kernel
theorem ek_BadOrder_BadFraction : exKin "BadOrder" "BadFraction" = false := by decide +kernel
theorem ek_BadOrder_BadNumber : exKin "BadOrder" "BadNumber" = false := by decide +kernel
theorem ek_BadOrder_BadOrder : exKin "BadOrder" "BadOrder" = true := by decide +kernel
theorem ek_BadOrder_BadRoad : exKin "BadOrder" "BadRoad" = false := by decide +kernel
theorem ek_BadOrder_BadText : exKin "BadOrder" "BadText" = false := by decide +kernel
theorem ek_BadOrder_NotThere : exKin "BadOrder" "NotThere" = false := by decide +kernel
theorem ek_BadOrder_TooGreat : exKin "BadOrder" "TooGreat" = false := by decide +kernel
theorem ex_in_BadRoad : ("BadRoad" : Str) ∈ exCs := by decide +kernel
theorem ev_BadRoad : exKin "BadRoad" "ValueError" = true := by decide +kernel
theorem ek_BadRoad_BadFraction : exKin "BadRoad" "BadFraction" = false := by decide +kernel
theorem ek_BadRoad_BadNumber : exKin "BadRoad" "BadNumber" = false := by decide +kernel
theorem ek_BadRoad_BadOrder : exKin "BadRoad" "BadOrder" = false := by decide +kernel
theorem ek_BadRoad_BadRoad : exKin "BadRoad" "BadRoad" = true := by decide +kernel
theorem ek_BadRoad_BadText : exKin "BadRoad" "BadText" = false := by decide +kernel
theorem ek_BadRoad_NotThere : exKin "BadRoad" "NotThere" = false := by decide +kernel
theorem ek_BadRoad_TooGreat : exKin "BadRoad" "TooGreat" = false := by decide +kernel
theorem ex_in_BadText : ("BadText" : Str) ∈ exCs := by decide +kernel
theorem ev_BadText : exKin "BadText" "ValueError" = true := by decide +kernel
theorem ek_BadText_BadFraction : exKin "BadText" "BadFraction" = false := by decide +kernel
theorem ek_BadText_BadNumber : exKin "BadText" "BadNumber" = false := by decide +kernel
theorem ek_BadText_BadOrder : exKin "BadText" "BadOrder" = false := by decide +kernel
theorem ek_BadText_BadRoad : exKin "BadText" "BadRoad" = false := by decide +kernel
theorem ek_BadText_BadText : exKin "BadText" "BadText" = true := by decide +kernel
theorem ek_BadText_NotThere : exKin "BadText" "NotThere" = false := by decide +kernel
theorem ek_BadText_TooGreat : exKin "BadText" "TooGreat" = false := by decide +kernel
theorem ex_in_NotThere : ("NotThere" : Str) ∈ exCs := by decide +kernel
theorem ev_NotThere : exKin "NotThere" "ValueError" = true := by decide +kernel
theorem ek_NotThere_BadFraction : exKin "NotThere" "BadFraction" = false := by decide +kernel
theorem ek_NotThere_BadNumber : exKin "NotThere" "BadNumber" = false := by decide +kernel
theorem ek_NotThere_BadOrder : exKin "NotThere" "BadOrder" = false := by decide +kernel
theorem ek_NotThere_BadRoad : exKin "NotThere" "BadRoad" = false := by decide +kernel
theorem ek_NotThere_BadText : exKin "NotThere" "BadText" = false := by decide +kernel
theorem ek_NotThere_NotThere : exKin "NotThere" "NotThere" = true := by decide +kernel
theorem ek_NotThere_TooGreat : exKin "NotThere" "TooGreat" = false := by decide +kernel
theorem ex_in_TooGreat : ("TooGreat" : Str) ∈ exCs := by decide +kernel
theorem ev_TooGreat : exKin "TooGreat" "ValueError" = true := by decide +kernel
theorem ek_TooGreat_BadFraction : exKin "TooGreat" "BadFraction" = false := by decide +kernel
theorem ek_TooGreat_BadNumber : exKin "TooGreat" "BadNumber" = false := by decide +kernel
theorem ek_TooGreat_BadOrder : exKin "TooGreat" "BadOrder" = false := by decide +kernel
theorem ek_TooGreat_BadRoad : exKin "TooGreat" "BadRoad" = false := by decide +kernel
theorem ek_TooGreat_BadText : exKin "TooGreat" "BadText" = false := by decide +kernel
theorem ek_TooGreat_NotThere : exKin "TooGreat" "NotThere" = false := by decide +kernel
theorem ek_TooGreat_TooGreat : exKin "TooGreat" "TooGreat" = true := by decide +kernel
theorem kind_BadFraction : m__law_kind [exn "BadFraction"] = .ok (.d (.str "fraction")) := by
  have j := joi_one (z := "/") (x := "fraction") (by decide +kernel)
  unfold m__law_kind F__law_kind
  simp [o_isx ex_in_BadFraction, itD, mul_one_l, mul_zero_l, add_l, j, ev_BadFraction, ek_BadFraction_BadFraction, ek_BadFraction_BadNumber, ek_BadFraction_BadOrder, ek_BadFraction_BadRoad, ek_BadFraction_BadText, ek_BadFraction_NotThere, ek_BadFraction_TooGreat]
theorem kind_BadNumber : m__law_kind [exn "BadNumber"] = .ok (.d (.str "number")) := by
  have j := joi_one (z := "/") (x := "number") (by decide +kernel)
  unfold m__law_kind F__law_kind
  simp [o_isx ex_in_BadNumber, itD, mul_one_l, mul_zero_l, add_l, j, ev_BadNumber, ek_BadNumber_BadFraction, ek_BadNumber_BadNumber, ek_BadNumber_BadOrder, ek_BadNumber_BadRoad, ek_BadNumber_BadText, ek_BadNumber_NotThere, ek_BadNumber_TooGreat]
theorem kind_BadOrder : m__law_kind [exn "BadOrder"] = .ok (.d (.str "order")) := by
  have j := joi_one (z := "/") (x := "order") (by decide +kernel)
  unfold m__law_kind F__law_kind
  simp [o_isx ex_in_BadOrder, itD, mul_one_l, mul_zero_l, add_l, j, ev_BadOrder, ek_BadOrder_BadFraction, ek_BadOrder_BadNumber, ek_BadOrder_BadOrder, ek_BadOrder_BadRoad, ek_BadOrder_BadText, ek_BadOrder_NotThere, ek_BadOrder_TooGreat]
theorem kind_BadRoad : m__law_kind [exn "BadRoad"] = .ok (.d (.str "road")) := by
  have j := joi_one (z := "/") (x := "road") (by decide +kernel)
  unfold m__law_kind F__law_kind
  simp [o_isx ex_in_BadRoad, itD, mul_one_l, mul_zero_l, add_l, j, ev_BadRoad, ek_BadRoad_BadFraction, ek_BadRoad_BadNumber, ek_BadRoad_BadOrder, ek_BadRoad_BadRoad, ek_BadRoad_BadText, ek_BadRoad_NotThere, ek_BadRoad_TooGreat]
theorem kind_BadText : m__law_kind [exn "BadText"] = .ok (.d (.str "text")) := by
  have j := joi_one (z := "/") (x := "text") (by decide +kernel)
  unfold m__law_kind F__law_kind
  simp [o_isx ex_in_BadText, itD, mul_one_l, mul_zero_l, add_l, j, ev_BadText, ek_BadText_BadFraction, ek_BadText_BadNumber, ek_BadText_BadOrder, ek_BadText_BadRoad, ek_BadText_BadText, ek_BadText_NotThere, ek_BadText_TooGreat]
theorem kind_NotThere : m__law_kind [exn "NotThere"] = .ok (.d (.str "there")) := by
  have j := joi_one (z := "/") (x := "there") (by decide +kernel)
  unfold m__law_kind F__law_kind
  simp [o_isx ex_in_NotThere, itD, mul_one_l, mul_zero_l, add_l, j, ev_NotThere, ek_NotThere_BadFraction, ek_NotThere_BadNumber, ek_NotThere_BadOrder, ek_NotThere_BadRoad, ek_NotThere_BadText, ek_NotThere_NotThere, ek_NotThere_TooGreat]
theorem kind_TooGreat : m__law_kind [exn "TooGreat"] = .ok (.d (.str "great")) := by
  have j := joi_one (z := "/") (x := "great") (by decide +kernel)
  unfold m__law_kind F__law_kind
  simp [o_isx ex_in_TooGreat, itD, mul_one_l, mul_zero_l, add_l, j, ev_TooGreat, ek_TooGreat_BadFraction, ek_TooGreat_BadNumber, ek_TooGreat_BadOrder, ek_TooGreat_BadRoad, ek_TooGreat_BadText, ek_TooGreat_NotThere, ek_TooGreat_TooGreat]
end Lw
set_option Elab.async false
set_option linter.all false
set_option maxRecDepth 100000
set_option maxHeartbeats 4000000
/-! Mr: rows of all bounds with small bottoms. -/
namespace Lw
open PySem L2 Sb

/-- one next to the other in a row -/
structure Pre (n a b c d : Int) : Prop where
  b1 : 1 ≤ b
  bn : b ≤ n
  d1 : 1 ≤ d
  dn : d ≤ n
  a0 : 0 ≤ a
  ab : a ≤ b
  det : c * b - a * d = 1
  sum : n < b + d
structure Nx (n a b c d : Int) : Prop extends Pre n a b c d where
  cd : c ≤ d
inductive Far (n : Int) : List (Int × Int) → Prop
  | last : Far n [(1, 1)]
  | cons {a b c d : Int} {L : List (Int × Int)} : Nx n a b c d → Far n ((c, d) :: L) → Far n ((a, b) :: (c, d) :: L)
theorem Pre.lt {n a b c d : Int} (h : Pre n a b c d) (hl : ¬(a = 1 ∧ b = 1)) : a < b := by
  obtain ⟨b1, bn, d1, dn, a0, ab, det, sum⟩ := h
  rcases Int.lt_or_le a b with t | t
  · exact t
  · exfalso
    have e : a = b := by omega
    subst e
    have e2 : a * (c - d) = 1 := by grind
    have d1 : a ∣ 1 := ⟨c - d, e2.symm⟩
    have := Int.le_of_dvd (by decide) d1
    omega
theorem Pre.nx {n a b c d : Int} (h : Pre n a b c d) (hl : a < b) : Nx n a b c d := by
  refine ⟨h, ?_⟩
  obtain ⟨b1, bn, d1, dn, a0, ab, det, sum⟩ := h
  refine cancel_le (z := b) (by omega) ?_
  have := Int.mul_le_mul_of_nonneg_right (show a ≤ b - 1 by omega) (show 0 ≤ d by omega)
  grind
theorem Pre.c0 {n a b c d : Int} (h : Pre n a b c d) : 0 < c := by
  obtain ⟨b1, bn, d1, dn, a0, ab, det, sum⟩ := h
  have := Int.mul_nonneg a0 (show 0 ≤ d by omega)
  have : 0 * b < c * b := by omega
  exact cancel_lt (show 0 < b by omega) this
/-- the one behind -/
theorem Pre.next {n a b c d : Int} (h : Pre n a b c d) (hl : a < b) : Pre n c d ((n + b) / d * c - a) ((n + b) / d * d - b) := by
  have c0 := h.c0
  have cd := (h.nx hl).cd
  obtain ⟨b1, bn, d1, dn, a0, ab, det, sum⟩ := h
  have k1 := Int.ediv_mul_le (n + b) (show d ≠ 0 by omega)
  have k2 := Int.lt_ediv_add_one_mul_self (n + b) (show 0 < d by omega)
  generalize (n + b) / d = k at *
  have k3 : (k + 1) * d = k * d + d := by grind
  exact ⟨d1, dn, by omega, by omega, Int.le_of_lt c0, cd, by grind, by omega⟩
abbrev frs (L : List (Int × Int)) : List Dt := L.map fun p => fr p.1 p.2
noncomputable def rowT : Sb.Env → Rs Bool := (tst (ap2 neD (owI 1 (ap1 negD (cn (.int 1)))) (tpE (csA (cn (.int 1)) (csA (cn (.int 1)) nlA)))))
noncomputable def rowS : Sm := (sSeq (sPar 3 4 (csA (owI 1 (ap1 negD (cn (.int 1)))) (csA (vr 2) nlA)))
(sSeq (sApp 1 (vr 4))
(sSeq (sSet 5 (ap2 divD (ap2 addD (vr 0) (ap2 ixD (vr 3) (cn (.int 1)))) (ap2 ixD (vr 4) (cn (.int 1)))))
(sSet 2 (tpE (csA (ap2 subD (ap2 mulD (vr 5) (ap2 ixD (vr 4) (cn (.int 0)))) (ap2 ixD (vr 3) (cn (.int 0)))) (csA (ap2 subD (ap2 mulD (vr 5) (ap2 ixD (vr 4) (cn (.int 1)))) (ap2 ixD (vr 3) (cn (.int 1)))) nlA)))))))
theorem row_loop {n : Int} (hn : 1 ≤ n ∧ n ≤ 60) : ∀ (f : Nat) (xs : List Dt) (a b c d : Int) (z1 z2 z3 : Sl), Pre n a b c d → (xs.length : Int) * b ≤ a * (n * n) → (n * n - xs.length).toNat = f →
    ∃ R x y z w, Far n ((a, b) :: R) ∧ ((xs.length : Int) + R.length ≤ n * n) ∧ sWh rowT rowS [.d (.int n), .o (xs ++ [fr a b]), .d (fr c d), z1, z2, z3] = .nx [.d (.int n), .o (xs ++ frs ((a, b) :: R)), x, y, z, w] := by
  intro f
  induction f with
  | zero =>
    intro xs a b c d z1 z2 z3 P hi hf
    have nn : n * n ≤ 60 * 60 := Int.mul_le_mul hn.2 hn.2 (by omega) (by decide)
    have e : a = 1 ∧ b = 1 := by
      rcases Classical.em (a = 1 ∧ b = 1) with t | t
      · exact t
      · exfalso
        have l := P.lt t
        have b1 := P.b1
        have a0 := P.a0
        have h1 : n * n ≤ (xs.length : Int) := by omega
        have h2 := Int.mul_le_mul_of_nonneg_right h1 (show 0 ≤ b by omega)
        have h3 : a * (n * n) < b * (n * n) := Int.mul_lt_mul_of_pos_right l (Int.mul_pos (by omega) (by omega))
        have h4 : n * n * b = b * (n * n) := Int.mul_comm ..
        omega
    obtain ⟨rfl, rfl⟩ := e
    refine ⟨[], .d (fr c d), z1, z2, z3, .last, by simp; omega, ?_⟩
    rw [sWh_step]
    unfold rowT
    simp [ix_last, ne_fr]
  | succ f ih =>
    intro xs a b c d z1 z2 z3 P hi hf
    have nn : n * n ≤ 60 * 60 := Int.mul_le_mul hn.2 hn.2 (by omega) (by decide)
    by_cases hl : a = 1 ∧ b = 1
    · obtain ⟨rfl, rfl⟩ := hl
      refine ⟨[], .d (fr c d), z1, z2, z3, .last, by simp; omega, ?_⟩
      rw [sWh_step]
      unfold rowT
      simp [ix_last, ne_fr]
    · have l := P.lt hl
      have N := P.nx l
      have Q := P.next l
      have c0 := P.c0
      have hl' : (!(decide (a = 1) && decide (b = 1))) = true := by
        rcases Classical.em (a = 1) with t | t
        · have : ¬(b = 1) := fun t2 => hl ⟨t, t2⟩
          simp [this]
        · simp [t]
      have cd := N.cd
      obtain ⟨b1, bn, d1, dn, a0, ab, det, sum⟩ := P
      have xl : (xs.length : Int) ≤ n * n := by omega
      have hi2 : ((xs ++ [fr a b]).length : Int) * d ≤ c * (n * n) := by
        simp only [List.length_append, List.length_cons, List.length_nil]
        refine cancel_le (z := b) (by omega) ?_
        have e1 := Int.mul_le_mul_of_nonneg_right hi (show 0 ≤ d by omega)
        have e2 : b * d ≤ n * n := Int.mul_le_mul bn dn (by omega) (by omega)
        have e3 : c * b = 1 + a * d := by omega
        have e4 : c * (n * n) * b = (1 + a * d) * (n * n) := by rw [← e3]; grind
        rw [e4]
        have e5 : ((xs.length + (0 + 1) : Nat) : Int) = (xs.length : Int) + 1 := by omega
        rw [e5]
        grind
      have zz : ∀ {i : Int}, -(10 ^ 6) ≤ i → i ≤ 10 ^ 6 → Bd i := fun h1 h2 => Bd_small (by omega)
      have k0 : 0 ≤ (n + b) / d := Int.ediv_nonneg (by omega) (by omega)
      have k1 : (n + b) / d ≤ n + b := Int.ediv_le_self _ (by omega)
      obtain ⟨R, x, y, z, w, F, hR, e⟩ := ih (xs ++ [fr a b]) c d _ _ (.d (fr a b)) (.d (fr c d)) (.d (.int ((n + b) / d))) Q hi2 (by simp only [List.length_append, List.length_cons, List.length_nil]; omega)
      refine ⟨(c, d) :: R, x, y, z, w, .cons N F, by simp only [List.length_append, List.length_cons, List.length_nil] at hR ⊢; omega, ?_⟩
      have o1 := o_div (i := n + b) (j := d) (by omega) (Bq_small (by omega))
      have o2 := o_mul (i := (n + b) / d) (j := c) (zz (by omega) (by omega)) (zz (by omega) (by omega))
      have o3 := o_mul (i := (n + b) / d) (j := d) (zz (by omega) (by omega)) (zz (by omega) (by omega))
      have ln : (xs ++ [fr a b]).length ≤ 1000000 := by
        simp only [List.length_append, List.length_cons, List.length_nil]; omega
      have es : rowS [.d (.int n), .o (xs ++ [fr a b]), .d (fr c d), z1, z2, z3] = .nx [.d (.int n), .o (xs ++ [fr a b] ++ [fr c d]), .d (fr ((n + b) / d * c - a) ((n + b) / d * d - b)), .d (fr a b), .d (fr c d), .d (.int ((n + b) / d))] := by
        unfold rowS
        have ln2 : xs.length ≤ 999999 := by simp only [List.length_append, List.length_cons, List.length_nil] at ln; omega
        simp [ix_last, o1, o2, o3, ln2]
      have et : rowT [.d (.int n), .o (xs ++ [fr a b]), .d (fr c d), z1, z2, z3] = .ok true := by
        unfold rowT
        simp [ix_last, ne_fr, hl']
      rw [sWh_step, et]
      simp only [onR_ok, if_true, es, turnE_nx]
      rw [e]
      simp
theorem need_number_is {n : Int} (hn : 1 ≤ n ∧ n ≤ 60) : m_need_number [.int n] = .ok (.d .none) := by
  unfold m_need_number F_need_number
  simp [c_MOST_NUMBER, among_int, hn]
theorem row_is {n : Int} (hn : 1 ≤ n ∧ n ≤ 60) : ∃ R, Far n ((0, 1) :: R) ∧ R.length ≤ 3600 ∧ m_row_of [.int n] = .ok (.o (frs ((0, 1) :: R))) := by
  have nn : n * n ≤ 60 * 60 := Int.mul_le_mul hn.2 hn.2 (by omega) (by decide)
  obtain ⟨R, x, y, z, w, F, hR, e⟩ := row_loop hn _ [] 0 1 1 n .u .u .u ⟨by omega, by omega, by omega, by omega, by omega, by omega, by omega, by omega⟩ (by simp) rfl
  refine ⟨R, F, by simp at hR; omega, ?_⟩
  unfold rowT rowS at e
  simp only [List.nil_append] at e
  unfold m_row_of F_row_of
  simp [need_number_is hn, e]
end Lw
set_option Elab.async false
set_option linter.all false
set_option maxRecDepth 100000
set_option maxHeartbeats 4000000
/-! Ms: places in a row. -/
namespace Lw
open PySem L2 Sb

def tsum (xs : List Int) (b : Int) : Int → Nat → Int
  | _, 0 => 0
  | lo, n + 1 => (if b % lo = 0 then xs.getD lo.toNat 0 else 0) + tsum xs b (lo + 1) n
def cnts (A : Int → Int) : Nat → List Int
  | 0 => [0]
  | k + 1 => cnts A k ++ [A (k + 1) - tsum (cnts A k) (k + 1) 1 k]
@[simp] theorem cnts_len (A : Int → Int) : ∀ k, (cnts A k).length = k + 1
  | 0 => rfl
  | k + 1 => by rw [cnts, List.length_append, cnts_len A k]; rfl
theorem tsum_diff {xs ys : List Int} {b q : Int} : ∀ (n : Nat) (lo : Int), 1 ≤ lo → (∀ i : Int, lo ≤ i → i < lo + n → ys.getD i.toNat 0 - xs.getD i.toNat 0 = if i = q then 1 else 0) →
    tsum ys b lo n - tsum xs b lo n = if (lo ≤ q ∧ q < lo + n) ∧ b % q = 0 then 1 else 0
  | 0, lo, _, _ => by
    rw [if_neg (by omega)]
    rfl
  | n + 1, lo, h1, h => by
    have ih := tsum_diff n (lo + 1) (by omega) (b := b) fun i h2 h3 => h i (by omega) (by omega)
    have e := h lo (by omega) (by omega)
    unfold tsum
    by_cases hq : lo = q
    · subst hq
      rw [if_pos rfl] at e
      rw [if_neg (by omega)] at ih
      by_cases hb : b % lo = 0
      · rw [if_pos hb, if_pos hb, if_pos ⟨by omega, hb⟩]; omega
      · rw [if_neg hb, if_neg hb, if_neg (fun t => hb t.2)]; omega
    · rw [if_neg hq] at e
      by_cases hb : (lo ≤ q ∧ q < lo + ((n + 1 : Nat) : Int)) ∧ b % q = 0
      · rw [if_pos hb]
        rw [if_pos ⟨by omega, hb.2⟩] at ih
        split <;> omega
      · rw [if_neg hb]
        rw [if_neg (fun t => hb ⟨by omega, t.2⟩)] at ih
        split <;> omega
theorem cnts_get (A : Int → Int) (k : Nat) (i : Nat) (h : i ≤ k) : (cnts A (k + 1)).getD i 0 = (cnts A k).getD i 0 := by
  rw [cnts, List.getD_eq_getElem?_getD, List.getD_eq_getElem?_getD, List.getElem?_append_left (by rw [cnts_len]; omega)]
theorem cnts_top (A : Int → Int) (k : Nat) : (cnts A (k + 1)).getD (k + 1) 0 = A (k + 1) - tsum (cnts A k) (k + 1) 1 k := by
  rw [cnts, List.getD_eq_getElem?_getD, List.getElem?_append_right (by rw [cnts_len]; omega), cnts_len]
  simp
theorem dvd_case {b q : Int} (b1 : 0 < b) (q1 : 1 ≤ q) (h : b % q = 0) : q ≤ b := Int.le_of_dvd b1 (Int.dvd_of_emod_eq_zero h)
theorem cnts_diff {A1 A2 : Int → Int} {q : Int} (q1 : 1 ≤ q) : ∀ (n : Nat), (∀ b : Int, 1 ≤ b → b ≤ n → A2 b - A1 b = if b % q = 0 then 1 else 0) →
    (∀ i : Int, 0 ≤ i → i ≤ n → (cnts A2 n).getD i.toNat 0 - (cnts A1 n).getD i.toNat 0 = if i = q then 1 else 0) ∧ (cnts A2 n).sum - (cnts A1 n).sum = if q ≤ n then 1 else 0
  | 0, _ => by
    refine ⟨fun i h0 h1 => ?_, ?_⟩
    · have : i = 0 := by omega
      subst this
      rw [if_neg (by omega)]
      rfl
    · rw [if_neg (by omega)]
      rfl
  | n + 1, h => by
    obtain ⟨g, s⟩ := cnts_diff q1 n fun b h1 h2 => h b h1 (by omega)
    have t := tsum_diff (xs := cnts A1 n) (ys := cnts A2 n) (b := n + 1) (q := q) n 1 (by omega) fun i h1 h2 => g i (by omega) (by omega)
    have a := h (n + 1) (by omega) (by omega)
    have top : (A2 (n + 1) - tsum (cnts A2 n) (n + 1) 1 n) - (A1 (n + 1) - tsum (cnts A1 n) (n + 1) 1 n) = if ((n : Int) + 1) = q then 1 else 0 := by
      by_cases hd : ((n : Int) + 1) % q = 0
      · have le := dvd_case (by omega) q1 hd
        rw [if_pos hd] at a
        by_cases hq : (n : Int) + 1 = q
        · rw [if_pos hq]
          rw [if_neg (by omega)] at t
          omega
        · rw [if_neg hq]
          rw [if_pos ⟨by omega, hd⟩] at t
          omega
      · have hq : ¬((n : Int) + 1 = q) := fun e => hd (by rw [e]; exact Int.emod_self)
        rw [if_neg hd] at a
        rw [if_neg (fun u => hd u.2)] at t
        rw [if_neg hq]
        omega
    constructor
    · intro i h0 h1
      by_cases hi : i = n + 1
      · subst hi
        have e : ((n : Int) + 1).toNat = n + 1 := by omega
        rw [e, cnts_top, cnts_top]
        exact top
      · rw [cnts_get _ _ _ (by omega), cnts_get _ _ _ (by omega)]
        exact g i h0 (by omega)
    · rw [cnts, cnts, List.sum_append, List.sum_append]
      simp only [List.sum_cons, List.sum_nil]
      by_cases hq : (n : Int) + 1 = q
      · rw [if_pos hq] at top
        rw [if_neg (by omega)] at s
        rw [if_pos (by omega)]
        omega
      · rw [if_neg hq] at top
        by_cases hl : q ≤ (n : Int)
        · rw [if_pos hl] at s
          rw [if_pos (by omega)]
          omega
        · rw [if_neg hl] at s
          rw [if_neg (by omega)]
          omega
theorem tsum_zero {xs : List Int} {b : Int} (h : ∀ i, xs.getD i 0 = 0) : ∀ (n : Nat) (lo : Int), tsum xs b lo n = 0
  | 0, _ => rfl
  | n + 1, lo => by
    unfold tsum
    rw [tsum_zero h n, h]
    split <;> rfl
theorem cnts_zero {A : Int → Int} (h : ∀ b, A b = 0) : ∀ (n : Nat), (∀ i, (cnts A n).getD i 0 = 0) ∧ (cnts A n).sum = 0
  | 0 => ⟨fun i => by cases i <;> rfl, rfl⟩
  | n + 1 => by
    obtain ⟨g, s⟩ := cnts_zero h n
    constructor
    · intro i
      rw [cnts, h, tsum_zero g, List.getD_eq_getElem?_getD, List.getElem?_append]
      split
      · rw [← List.getD_eq_getElem?_getD]; exact g i
      · cases i - (cnts A n).length <;> rfl
    · rw [cnts, h, tsum_zero g, List.sum_append, s]
      rfl
/-- how many topz are less -/
def topz (p q : Int) : Int → Int := fun b => (p * b + q - 1) / q
theorem tops_is {p q b : Int} (q0 : 0 < q) : p * b ≤ topz p q b * q ∧ ∀ z, p * b ≤ z * q → topz p q b ≤ z := by
  have h1 := Int.ediv_mul_le (p * b + q - 1) (Int.ne_of_gt q0)
  have h2 := Int.lt_ediv_add_one_mul_self (p * b + q - 1) q0
  unfold topz
  generalize (p * b + q - 1) / q = x at *
  have e : (x + 1) * q = x * q + q := by grind
  refine ⟨by omega, fun z hz => ?_⟩
  have : x * q < (z + 1) * q := by
    have : (z + 1) * q = z * q + q := by grind
    omega
  have := cancel_lt q0 this
  omega
theorem tops_diff {n p q r s : Int} (N : Nx n p q r s) {b : Int} (b1 : 1 ≤ b) (b2 : b ≤ n) : topz r s b - topz p q b = if b % q = 0 then 1 else 0 := by
  obtain ⟨⟨q1, qn, s1, sn, p0, pq, det, sum⟩, rs⟩ := N
  obtain ⟨x1, x2⟩ := tops_is (p := p) (q := q) (b := b) (by omega)
  obtain ⟨y1, y2⟩ := tops_is (p := r) (q := s) (b := b) (by omega)
  generalize topz p q b = x at *
  generalize topz r s b = y at *
  have lt : p * b < y * q := by
    refine cancel_lt (z := s) (by omega) ?_
    have e1 := Int.mul_le_mul_of_nonneg_right y1 (show 0 ≤ q by omega)
    have e2 : r * b * q = (1 + p * s) * b := by
      have : r * q = 1 + p * s := by omega
      grind
    grind
  by_cases h : b % q = 0
  · rw [if_pos h]
    obtain ⟨t, rfl⟩ := Int.dvd_of_emod_eq_zero h
    have t1 : 1 ≤ t := by
      have : 0 * q < t * q := by rw [Int.mul_comm t q]; omega
      have := cancel_lt (show 0 < q by omega) this
      omega
    have ts : t ≤ s := by
      have := Int.mul_le_mul_of_nonneg_left q1 (show 0 ≤ t - 1 by omega)
      have : q * t = (t - 1) * q + q := by grind
      omega
    have xe : x ≤ p * t := x2 _ (by grind)
    have xe2 : p * t ≤ x := cancel_le (show 0 < q by omega) (by grind)
    have ye : y ≤ p * t + 1 := y2 _ (by
      have e0 : r * q = 1 + p * s := by omega
      have e1 : r * (q * t) = (r * q) * t := by grind
      have e2 : (p * t + 1) * s = p * s * t + s := by grind
      have e3 : (1 + p * s) * t = p * s * t + t := by grind
      rw [e1, e0, e3, e2]
      omega)
    have ye2 : p * t < y := cancel_lt (show 0 < q by omega) (by grind)
    omega
  · rw [if_neg h]
    have lx : p * b < x * q := by
      rcases Int.lt_or_le (p * b) (x * q) with w | w
      · exact w
      · exfalso
        have e : x * q = p * b := by omega
        have g := (gcd_det det).1
        have d : q ∣ p * b := ⟨x, by rw [← e, Int.mul_comm]⟩
        have d2 : q ∣ b := by
          rw [← Int.natAbs_dvd_natAbs] at d ⊢
          rw [Int.natAbs_mul] at d
          exact Nat.Coprime.dvd_of_dvd_mul_left (by rw [Nat.Coprime, Nat.gcd_comm]; exact g) d
        exact h (Int.emod_eq_zero_of_dvd d2)
    have le : r * b ≤ x * s := by
      rcases Int.lt_or_le (x * s) (r * b) with w | w
      · exfalso
        have e1 := Int.mul_le_mul_of_nonneg_left (show 1 ≤ r * b - x * s by omega) (show 0 ≤ q by omega)
        have e2 := Int.mul_le_mul_of_nonneg_left (show 1 ≤ x * q - p * b by omega) (show 0 ≤ s by omega)
        have : b = q * (r * b - x * s) + s * (x * q - p * b) := by
          have : r * q = 1 + p * s := by omega
          grind
        omega
      · exact w
    have := y2 x le
    have := x2 y (Int.le_of_lt lt)
    omega
/-- the place -/
def pl (n p q : Int) : Int := (cnts (topz p q) n.toNat).sum
theorem pl_nx {n p q r s : Int} (N : Nx n p q r s) : pl n r s = pl n p q + 1 := by
  have h := (cnts_diff (A1 := topz p q) (A2 := topz r s) N.b1 n.toNat fun b h1 h2 => tops_diff N h1 (by have := N.bn; have := N.b1; omega)).2
  rw [if_pos (by have := N.bn; have := N.b1; omega)] at h
  unfold pl
  omega
theorem pl_zero (n : Int) : pl n 0 1 = 0 := (cnts_zero (A := topz 0 1) (fun b => by unfold topz; simp) n.toNat).2
/-! ### the loop of counts -/
abbrev itl (xs : List Int) : List Dt := xs.map PyData.int
theorem ix_itl {xs : List Int} {i : Int} (h0 : 0 ≤ i) (h1 : i < xs.length) : ixD (.list (itl xs)) (.int i) = .ok (.int (xs.getD i.toNat 0)) := by
  refine o_ix_l h0 ?_
  rw [List.getElem?_map, List.getElem?_eq_getElem (show i.toNat < xs.length by omega)]
  simp only [Option.map_some, List.getD_eq_getElem?_getD]
  rw [List.getElem?_eq_getElem (show i.toNat < xs.length by omega)]
  rfl
theorem part_lc {p q n b : Int} {xs : List Int} {z w : Sl} : ∀ (m : Nat) (lo : Int), 1 ≤ lo → lo + m ≤ xs.length →
    ∃ ys : List Int, ys.sum = tsum xs b lo m ∧ lcL (gt1 5) (tst (ap2 eqD (ap2 modD (vr 3) (vr 5)) (cn (.int 0)))) (owI 2 (vr 5)) [.d (fr p q), .d (.int n), .o (itl xs), .d (.int b), z, .u] (rngL lo m) = .ok (itl ys)
  | 0, lo, _, _ => ⟨[], rfl, rfl⟩
  | m + 1, lo, h1, h2 => by
    obtain ⟨ys, s, e⟩ := part_lc (p := p) (q := q) (n := n) (b := b) (xs := xs) (z := z) (w := w) m (lo + 1) (by omega) (by omega)
    have e1 := o_mod (i := b) (j := lo) (by omega)
    have e2 := ix_itl (xs := xs) (i := lo) (by omega) (by omega)
    by_cases hb : b % lo = 0
    · refine ⟨xs.getD lo.toNat 0 :: ys, ?_, ?_⟩
      · rw [List.sum_cons, s, tsum, if_pos hb]
      · rw [rngL_succ, lcL]
        simp [e1, hb, e2, e]
    · refine ⟨ys, ?_, ?_⟩
      · rw [s, tsum, if_neg hb]; omega
      · rw [rngL_succ, lcL]
        simp [e1, hb, e]
noncomputable def cntS : Sm := (sSeq (sSet 4 (ap2 divD (ap2 subD (ap2 addD (ap2 mulD (ap2 ixD (vr 0) (cn (.int 0))) (vr 3)) (ap2 ixD (vr 0) (cn (.int 1)))) (cn (.int 1))) (ap2 ixD (vr 0) (cn (.int 1)))))
(sApp 2 (ap2 subD (vr 4) (apA (un1 sumD) (csA (lcE (rg2 (csA (cn (.int 1)) (csA (vr 3) nlA))) (gt1 5) (tst (ap2 eqD (ap2 modD (vr 3) (vr 5)) (cn (.int 0)))) (owI 2 (vr 5)) [5]) nlA)))))
theorem sum_itl (ys : List Int) : sumD (.list (itl ys)) = .ok (.int ys.sum) := by
  show ((ofO (asI (ys.map PyData.int))).bind fun ns => Rs.ok (PyData.int ns.sum)) = _
  rw [asI_map]; rfl
theorem cnt_step {p q n b : Int} {k : Nat} {z w : Sl} (hp : 0 ≤ p ∧ p ≤ 60) (hq : 1 ≤ q ∧ q ≤ 60) (hk : k < 60) (hb : b = k + 1) :
    onO (gt1 3 (.int b) [.d (fr p q), .d (.int n), .o (itl (cnts (topz p q) k)), z, w, .u]) cntS = .nx [.d (fr p q), .d (.int n), .o (itl (cnts (topz p q) (k + 1))), .d (.int b), .d (.int (topz p q b)), .u] := by
  obtain ⟨ys, s, e⟩ := part_lc (p := p) (q := q) (n := n) (b := b) (xs := cnts (topz p q) k) (z := .d (.int (topz p q b))) (w := .u) k 1 (by omega) (by rw [cnts_len]; omega)
  have b1 : 1 ≤ b ∧ b ≤ 60 := by omega
  have z1 := o_mul (i := p) (j := b) (Bd_small (by omega)) (Bd_small (by omega))
  have z2 := o_div (i := p * b + q - 1) (j := q) (by omega) (Bq_small (by omega))
  have hr : (-1152921504606846976 ≤ b ∧ b ≤ 1152921504606846976) := by omega
  have hk2 : (b - 1).toNat = k := by omega
  have ll : (rngL 1 k).length ≤ lim := by unfold rngL; rw [List.length_map, List.length_range, lim1]; omega
  have l2 : (itl (cnts (topz p q) k)).length ≤ lim := by rw [List.length_map, cnts_len, lim1]; omega
  have td : (p * b + q - 1) / q = topz p q b := rfl
  rw [td] at z2
  have ec : itl (cnts (topz p q) (k + 1)) = itl (cnts (topz p q) k) ++ [.int (topz p q b - ys.sum)] := by
    rw [cnts, s, hb]
    exact List.map_append
  rw [ec]
  generalize itl (cnts (topz p q) k) = X at *
  unfold cntS
  simp [-lim_num, z1, z2, hr, hk2, ll, e, sum_itl, l2]
theorem counts_is {p q n : Int} (hp : 0 ≤ p ∧ p ≤ 60) (hq : 1 ≤ q ∧ q ≤ 60) (hn : 1 ≤ n ∧ n ≤ 60) : m_counts_below [fr p q, .int n] = .ok (.o (itl (cnts (topz p q) n.toNat))) := by
  have L := forL_rng (g := gt1 3) (S := cntS) (fun i ρ => ∃ z w, ρ = [.d (fr p q), .d (.int n), .o (itl (cnts (topz p q) (i - 1).toNat)), z, w, .u]) n.toNat 1
    (ρ := [.d (fr p q), .d (.int n), .o (itl (cnts (topz p q) 0)), .u, .u, .u]) ⟨.u, .u, rfl⟩ (by
      rintro i i1 i2 ρ ⟨z, w, rfl⟩
      have e := cnt_step (p := p) (q := q) (n := n) (b := i) (k := (i - 1).toNat) (z := z) (w := w) hp hq (by omega) (by omega)
      have w2 : (i + 1 - 1).toNat = (i - 1).toNat + 1 := by omega
      rw [e, good_nx, w2]
      exact ⟨_, _, rfl⟩)
  obtain ⟨ρ', e, z, w, rfl⟩ := L
  have w1 : (1 + ((n.toNat : Nat) : Int) - 1).toNat = n.toNat := by omega
  rw [w1] at e
  have hr : (-1152921504606846976 ≤ n + 1 ∧ n + 1 ≤ 1152921504606846976) := by omega
  have w2 : (n + 1 - 1).toNat = n.toNat := by omega
  have e0 : itl (cnts (topz p q) 0) = [.int 0] := rfl
  rw [e0] at e
  unfold cntS at e
  unfold m_counts_below F_counts_below
  simp [hr, w2, e]
/-- a bound of the row -/
structure InR (n p q : Int) : Prop where
  n1 : 1 ≤ n
  n2 : n ≤ 60
  p0 : 0 ≤ p
  pq : p ≤ q
  q1 : 1 ≤ q
  qn : q ≤ n
  g : Int.gcd p q = 1
theorem InR.isB {n p q : Int} (h : InR n p q) : IsB p q := by
  obtain ⟨n1, n2, p0, pq, q1, qn, g⟩ := h
  exact ⟨p0, by omega, by omega, by omega, g⟩
theorem InR.need {n p q : Int} (h : InR n p q) : m_need_in [fr p q, .int n] = .ok (.d .none) := by
  have b := h.isB.need
  obtain ⟨n1, n2, p0, pq, q1, qn, g⟩ := h
  have h1 : ¬(q < p) := by omega
  unfold m_need_in F_need_in
  simp [b, need_number_is ⟨n1, n2⟩, q1, qn, h1]
theorem place_is {n p q : Int} (h : InR n p q) : m_place_of [fr p q, .int n] = .ok (.d (.int (pl n p q))) := by
  have e := h.need
  obtain ⟨n1, n2, p0, pq, q1, qn, g⟩ := h
  have c := counts_is (p := p) (q := q) (n := n) (by omega) (by omega) (by omega)
  unfold m_place_of F_place_of
  simp [e, c, sum_itl, pl]
theorem size_is {n : Int} (hn : 1 ≤ n ∧ n ≤ 60) : m_size_of [.int n] = .ok (.d (.int (1 + pl n 1 1))) := by
  have c := counts_is (p := 1) (q := 1) (n := n) (by omega) (by omega) hn
  unfold m_size_of F_size_of
  simp [need_number_is hn, c, sum_itl, pl]
theorem Nx.inL {n p q r s : Int} (N : Nx n p q r s) (hn : 1 ≤ n ∧ n ≤ 60) : InR n p q := ⟨hn.1, hn.2, N.a0, N.ab, N.b1, N.bn, (gcd_det N.det).1⟩
theorem Nx.inR {n p q r s : Int} (N : Nx n p q r s) (hn : 1 ≤ n ∧ n ≤ 60) : InR n r s := ⟨hn.1, hn.2, Int.le_of_lt N.c0, N.cd, N.d1, N.dn, (gcd_det N.det).2⟩
/-! ### the next one, the one ahead -/
noncomputable def nxT : Sb.Env → Rs Bool := (tst (ap2 gtD (ap2 modD (ap2 addD (cn (.int 1)) (ap2 mulD (ap2 ixD (vr 0) (cn (.int 0))) (vr 2))) (ap2 ixD (vr 0) (cn (.int 1)))) (cn (.int 0))))
noncomputable def nxS : Sm := (sAug 2 (fun i j => i - j) (cn (.int 1)))
noncomputable def ahT : Sb.Env → Rs Bool := (tst (ap2 gtD (ap2 modD (ap2 subD (ap2 mulD (ap2 ixD (vr 0) (cn (.int 0))) (vr 2)) (cn (.int 1))) (ap2 ixD (vr 0) (cn (.int 1)))) (cn (.int 0))))
noncomputable def ahS : Sm := (sAug 2 (fun i j => i - j) (cn (.int 1)))
theorem only {p q y s : Int} (g : Int.gcd p q = 1) (h1 : s < y) (h2 : y - s < q) (d1 : (1 + p * s) % q = 0) (d2 : (1 + p * y) % q = 0) : False := by
  have a := Int.dvd_of_emod_eq_zero d1
  have b := Int.dvd_of_emod_eq_zero d2
  have c : q ∣ p * (y - s) := by
    have := Int.dvd_sub b a
    have e : (1 + p * y) - (1 + p * s) = p * (y - s) := by grind
    rwa [e] at this
  have d : q ∣ y - s := by
    rw [← Int.natAbs_dvd_natAbs] at c ⊢
    rw [Int.natAbs_mul] at c
    exact Nat.Coprime.dvd_of_dvd_mul_left (by rw [Nat.Coprime, Nat.gcd_comm]; exact g) c
  have := Int.le_of_dvd (by omega) d
  omega
theorem only2 {r q y s : Int} (g : Int.gcd r s = 1) (h1 : q < y) (h2 : y - q < s) (d1 : (r * q - 1) % s = 0) (d2 : (r * y - 1) % s = 0) : False := by
  have a := Int.dvd_of_emod_eq_zero d1
  have b := Int.dvd_of_emod_eq_zero d2
  have c : s ∣ r * (y - q) := by
    have := Int.dvd_sub b a
    have e : (r * y - 1) - (r * q - 1) = r * (y - q) := by grind
    rwa [e] at this
  have d : s ∣ y - q := by
    rw [← Int.natAbs_dvd_natAbs] at c ⊢
    rw [Int.natAbs_mul] at c
    exact Nat.Coprime.dvd_of_dvd_mul_left (by rw [Nat.Coprime, Nat.gcd_comm]; exact g) c
  have := Int.le_of_dvd (by omega) d
  omega
theorem next_loop {n p q r s : Int} (N : Nx n p q r s) (hn : n ≤ 60) : ∀ (f : Nat) (y : Int), s ≤ y → y ≤ n → (y - s).toNat = f →
    sWh nxT nxS [.d (fr p q), .d (.int n), .d (.int y)] = .nx [.d (fr p q), .d (.int n), .d (.int s)] := by
  obtain ⟨⟨q1, qn, s1, sn, p0, pq, det, sum⟩, rs⟩ := N
  have ds : (1 + p * s) % q = 0 := by
    have e : 1 + p * s = r * q := by omega
    rw [e]
    exact Int.mul_emod_left r q
  intro f
  induction f with
  | zero =>
    intro y h1 h2 h3
    have e : y = s := by omega
    subst e
    have z1 := o_mul (i := p) (j := y) (Bd_small (by omega)) (Bd_small (by omega))
    have z2 := o_mod (i := 1 + p * y) (j := q) (by omega)
    rw [sWh_step]
    unfold nxT
    simp [z1, z2, ds]
  | succ f ih =>
    intro y h1 h2 h3
    have z1 := o_mul (i := p) (j := y) (Bd_small (by omega)) (Bd_small (by omega))
    have z2 := o_mod (i := 1 + p * y) (j := q) (by omega)
    have hy : 0 < (1 + p * y) % q := by
      have := Int.emod_nonneg (1 + p * y) (show q ≠ 0 by omega)
      rcases Int.lt_or_le 0 ((1 + p * y) % q) with t | t
      · exact t
      · exact (only (gcd_det det).1 (show s < y by omega) (by omega) ds (by omega)).elim
    have e1 : nxT [.d (fr p q), .d (.int n), .d (.int y)] = .ok true := by
      unfold nxT
      simp [z1, z2, hy]
    have e2 : nxS [.d (fr p q), .d (.int n), .d (.int y)] = .nx [.d (fr p q), .d (.int n), .d (.int (y - 1))] := by
      unfold nxS
      simp
    rw [sWh_step, e1]
    simp only [onR_ok, if_true, e2, turnE_nx]
    exact ih (y - 1) (by omega) (by omega) (by omega)
theorem next_is {n p q r s : Int} (N : Nx n p q r s) (hn : 1 ≤ n ∧ n ≤ 60) : m_next_one [fr p q, .int n] = .ok (.d (fr r s)) := by
  have e := next_loop N hn.2 _ n N.dn (Int.le_refl _) rfl
  have need := (N.inL hn).need
  obtain ⟨⟨q1, qn, s1, sn, p0, pq, det, sum⟩, rs⟩ := N
  have z1 := o_mul (i := p) (j := s) (Bd_small (by omega)) (Bd_small (by omega))
  have z2 := o_div (i := 1 + p * s) (j := q) (by omega) (Bq_small (by omega))
  have e2 : (1 + p * s) / q = r := by
    have e : 1 + p * s = r * q := by omega
    rw [e]
    exact Int.mul_ediv_cancel r (by omega)
  rw [e2] at z2
  have ne : (decide (p = 1) && decide (q = 1)) = false := by
    rcases Classical.em (p = 1) with t | t
    · rcases Classical.em (q = 1) with t2 | t2
      · subst t t2
        omega
      · simp [t2]
    · simp [t]
  unfold nxT nxS at e
  unfold m_next_one F_next_one
  simp [need, eq_fr, ne, e, z1, z2]
theorem ahead_loop {n p q r s : Int} (N : Nx n p q r s) (hn : n ≤ 60) : ∀ (f : Nat) (y : Int), q ≤ y → y ≤ n → (y - q).toNat = f →
    sWh ahT ahS [.d (fr r s), .d (.int n), .d (.int y)] = .nx [.d (fr r s), .d (.int n), .d (.int q)] := by
  have c0 := N.c0
  obtain ⟨⟨q1, qn, s1, sn, p0, pq, det, sum⟩, rs⟩ := N
  have ds : (r * q - 1) % s = 0 := by
    have e : r * q - 1 = p * s := by omega
    rw [e]
    exact Int.mul_emod_left p s
  intro f
  induction f with
  | zero =>
    intro y h1 h2 h3
    have e : y = q := by omega
    subst e
    have z1 := o_mul (i := r) (j := y) (Bd_small (by omega)) (Bd_small (by omega))
    have z2 := o_mod (i := r * y - 1) (j := s) (by omega)
    rw [sWh_step]
    unfold ahT
    simp [z1, z2, ds]
  | succ f ih =>
    intro y h1 h2 h3
    have z1 := o_mul (i := r) (j := y) (Bd_small (by omega)) (Bd_small (by omega))
    have z2 := o_mod (i := r * y - 1) (j := s) (by omega)
    have hy : 0 < (r * y - 1) % s := by
      have := Int.emod_nonneg (r * y - 1) (show s ≠ 0 by omega)
      rcases Int.lt_or_le 0 ((r * y - 1) % s) with t | t
      · exact t
      · exact (only2 (gcd_det det).2 (show q < y by omega) (by omega) ds (by omega)).elim
    have e1 : ahT [.d (fr r s), .d (.int n), .d (.int y)] = .ok true := by
      unfold ahT
      simp [z1, z2, hy]
    have e2 : ahS [.d (fr r s), .d (.int n), .d (.int y)] = .nx [.d (fr r s), .d (.int n), .d (.int (y - 1))] := by
      unfold ahS
      simp
    rw [sWh_step, e1]
    simp only [onR_ok, if_true, e2, turnE_nx]
    exact ih (y - 1) (by omega) (by omega) (by omega)
theorem ahead_is {n p q r s : Int} (N : Nx n p q r s) (hn : 1 ≤ n ∧ n ≤ 60) : m_one_ahead [fr r s, .int n] = .ok (.d (fr p q)) := by
  have e := ahead_loop N hn.2 _ n N.bn (Int.le_refl _) rfl
  have need := (N.inR hn).need
  have c0 := N.c0
  obtain ⟨⟨q1, qn, s1, sn, p0, pq, det, sum⟩, rs⟩ := N
  have z1 := o_mul (i := r) (j := q) (Bd_small (by omega)) (Bd_small (by omega))
  have z2 := o_div (i := r * q - 1) (j := s) (by omega) (Bq_small (by omega))
  have e2 : (r * q - 1) / s = p := by
    have e : r * q - 1 = p * s := by omega
    rw [e]
    exact Int.mul_ediv_cancel p (by omega)
  rw [e2] at z2
  have ne : (decide (r = 0) && decide (s = 1)) = false := by
    have : ¬(r = 0) := by omega
    simp [this]
  unfold ahT ahS at e
  unfold m_one_ahead F_one_ahead
  simp [need, eq_fr, ne, e, z1, z2]
end Lw
set_option Elab.async false
set_option linter.all false
set_option maxRecDepth 100000
set_option maxHeartbeats 4000000
/-! Mt: rows as wholes. -/
namespace Lw
open PySem L2 Sb

/-- one behind the other, by the place -/
theorem far_at {n : Int} : ∀ {L : List (Int × Int)}, Far n L → ∀ (i : Nat) (x y : Int × Int), L[i]? = some x → L[i + 1]? = some y → Nx n x.1 x.2 y.1 y.2
  | _, .last, i, x, y, h1, h2 => by simp at h2
  | _, .cons (L := L) N F, 0, x, y, h1, h2 => by
    simp at h1 h2
    subst h1 h2
    exact N
  | _, .cons (L := L) N F, i + 1, x, y, h1, h2 => by
    refine far_at F i x y ?_ ?_
    · simpa using h1
    · simpa using h2
theorem far_pl {n : Int} : ∀ {L : List (Int × Int)}, Far n L → ∀ (m : Int), (∀ x, L[0]? = some x → pl n x.1 x.2 = m) → (∀ (i : Nat) (x : Int × Int), L[i]? = some x → pl n x.1 x.2 = m + i) ∧ pl n 1 1 + 1 = m + L.length
  | _, .last, m, h => by
    have e : pl n 1 1 = m := h (1, 1) rfl
    refine ⟨fun i x hx => ?_, ?_⟩
    · cases i with
      | zero => simpa using h x hx
      | succ i => simp at hx
    · simp only [List.length_cons, List.length_nil]; omega
  | _, .cons (a := a) (b := b) (c := c) (d := d) (L := L) N F, m, h => by
    have e : pl n a b = m := h (a, b) rfl
    have e2 := pl_nx N
    obtain ⟨h1, h2⟩ := far_pl F (m + 1) (fun x hx => by simp at hx; subst hx; show pl n c d = m + 1; omega)
    refine ⟨fun i x hx => ?_, ?_⟩
    · cases i with
      | zero => simpa using h x hx
      | succ i =>
        have := h1 i x (by simpa using hx)
        omega
    · simp only [List.length_cons] at h2 ⊢; omega
theorem far_one {n : Int} : ∀ {L : List (Int × Int)}, Far n L → L.getLast? = some (1, 1)
  | _, .last => rfl
  | _, .cons (L := L) N F => by
    have := far_one F
    rw [List.getLast?_cons_cons]
    exact this
/-- there is one row alone -/
theorem nx_one {n a b c d c' d' : Int} (h : Nx n a b c d) (h' : Nx n a b c' d') : c = c' ∧ d = d' := by
  obtain ⟨⟨b1, bn, d1, dn, a0, ab, det, sum⟩, cd⟩ := h
  obtain ⟨⟨_, _, d1', dn', _, _, det', sum'⟩, cd'⟩ := h'
  have e : (c - c') * b = a * (d - d') := by grind
  have g := (gcd_det det).1
  have dv : b ∣ d - d' := by
    have d0 : b ∣ a * (d - d') := ⟨c - c', by rw [← e, Int.mul_comm]⟩
    rw [← Int.natAbs_dvd_natAbs] at d0 ⊢
    rw [Int.natAbs_mul] at d0
    exact Nat.Coprime.dvd_of_dvd_mul_left (by rw [Nat.Coprime, Nat.gcd_comm]; exact g) d0
  have dd : d = d' := by
    rcases Int.lt_trichotomy d d' with t | t | t
    · have := Int.le_of_dvd (by omega) (show b ∣ d' - d by have := Int.dvd_neg.mpr dv; rwa [Int.neg_sub] at this)
      omega
    · exact t
    · have := Int.le_of_dvd (by omega) dv
      omega
  subst dd
  refine ⟨?_, rfl⟩
  have : (c - c') * b = 0 * b := by rw [e]; simp
  have := Int.eq_of_mul_eq_mul_right (show b ≠ 0 by omega) this
  omega
theorem far_uniq {n : Int} : ∀ {R R' : List (Int × Int)} {x : Int × Int}, Far n (x :: R) → Far n (x :: R') → R = R' := by
  intro R
  induction R with
  | nil =>
    intro R' x h h'
    cases h with
    | last =>
      cases h' with
      | last => rfl
      | cons N F =>
        exfalso
        obtain ⟨⟨b1, bn, d1, dn, a0, ab, det, sum⟩, cd⟩ := N
        omega
  | cons y R ih =>
    intro R' x h h'
    cases h with
    | cons N F =>
      cases h' with
      | last =>
        exfalso
        obtain ⟨⟨b1, bn, d1, dn, a0, ab, det, sum⟩, cd⟩ := N
        omega
      | cons N' F' =>
        obtain ⟨rfl, rfl⟩ := nx_one N N'
        rw [ih F F']
/-! ### shown -/
theorem okR_frs : ∀ {L : List (Int × Int)}, (∀ x ∈ L, (0 ≤ x.1 ∧ x.1 ≤ 10 ^ 61) ∧ (0 ≤ x.2 ∧ x.2 ≤ 10 ^ 61)) → OkRs (frs L)
  | [], _ => okRs_nil
  | x :: L, h => okRs_cons (okR_fr (by have := h x (List.mem_cons_self ..); omega) (by have := h x (List.mem_cons_self ..); omega)) (okR_frs fun y hy => h y (List.mem_cons_of_mem _ hy))
theorem bulk_frs : ∀ L : List (Int × Int), PyData.bulkAll (frs L) = 3 * L.length
  | [] => by simp [PyData.bulkAll]
  | x :: L => by
    have := bulk_frs L
    unfold frs at this ⊢
    simp only [List.map_cons, PyData.bulkAll, PyData.bulk, List.length_cons] at this ⊢
    omega
theorem depth_frs : ∀ L : List (Int × Int), PyData.depthAll (frs L) ≤ 1
  | [] => by simp [PyData.depthAll]
  | x :: L => by
    have := depth_frs L
    unfold frs at this ⊢
    simp only [List.map_cons, PyData.depthAll, PyData.depth] at this ⊢
    omega
theorem rpr_frs {L : List (Int × Int)} (h : ∀ x ∈ L, (0 ≤ x.1 ∧ x.1 ≤ 10 ^ 61) ∧ (0 ≤ x.2 ∧ x.2 ≤ 10 ^ 61)) (hl : L.length ≤ 4000) : rprD (.list (frs L)) = .ok (.str (PyData.list (frs L)).shown) := by
  refine rpr_is (okR_list (okR_frs h)) ?_ ?_
  · rw [PyData.bulk, bulk_frs]; omega
  · have := depth_frs L
    rw [PyData.depth]; omega
theorem far_mem {n : Int} (n1 : 1 ≤ n) : ∀ {L : List (Int × Int)}, Far n L → ∀ x ∈ L, (0 ≤ x.1 ∧ x.1 ≤ x.2) ∧ (1 ≤ x.2 ∧ x.2 ≤ n)
  | _, .last, x, hx => by
    rw [List.mem_singleton] at hx
    subst hx
    exact ⟨⟨by decide, by decide⟩, by decide, n1⟩
  | _, .cons N F, x, hx => by
    rcases List.mem_cons.mp hx with hx | hx
    · subst hx
      exact ⟨⟨N.a0, N.ab⟩, N.b1, N.bn⟩
    · exact far_mem n1 F x hx
theorem ix_frs {L : List (Int × Int)} {i : Int} {x : Int × Int} (h0 : 0 ≤ i) (h : L[i.toNat]? = some x) : ixD (.list (frs L)) (.int i) = .ok (fr x.1 x.2) := by
  refine o_ix_l h0 ?_
  rw [List.getElem?_map, h]; rfl
theorem at_place_is {n : Int} {R : List (Int × Int)} (hn : 1 ≤ n ∧ n ≤ 60) (hR : R.length ≤ 3600) (e : m_row_of [.int n] = .ok (.o (frs ((0, 1) :: R)))) {i : Int} {x : Int × Int} (h0 : 0 ≤ i) (h : ((0, 1) :: R)[i.toNat]? = some x) :
    m_at_place [.int i, .int n] = .ok (.d (fr x.1 x.2)) := by
  have lt : i.toNat < ((0, 1) :: R).length := by
    rcases Nat.lt_or_ge i.toNat ((0, 1) :: R).length with l | l
    · exact l
    · rw [List.getElem?_eq_none l] at h; cases h
  simp only [List.length_cons] at lt
  have a := among_int i 0 (((frs ((0, 1) :: R)).length : Int) - 1)
  have c1 : decide (0 ≤ i) = true := decide_eq_true h0
  have c2 : decide (i ≤ ((frs ((0, 1) :: R)).length : Int) - 1) = true := decide_eq_true (by rw [List.length_map, List.length_cons]; omega)
  rw [c1, c2] at a
  have ix := ix_frs h0 h
  generalize frs ((0, 1) :: R) = X at *
  unfold m_at_place F_at_place
  simp [e, a, ix]
/-- a comprehension over a row's places -/
theorem lc_rng {G : Dt → Sb.Env → Option Sb.Env} {E : Sb.Env → Rs Dt} {ρ : Sb.Env} : ∀ (X : List Dt) (lo : Int), (∀ (i : Nat) (x : Dt), X[i]? = some x → ∃ ρ1, G (.int (lo + i)) ρ = some ρ1 ∧ E ρ1 = .ok x) → lcL G yesT E ρ (rngL lo X.length) = .ok X
  | [], lo, _ => rfl
  | x :: X, lo, h => by
    obtain ⟨ρ1, e1, e2⟩ := h 0 x rfl
    have ih := lc_rng X (lo + 1) (fun i y hy => by
      obtain ⟨ρ2, e3, e4⟩ := h (i + 1) y (by simpa using hy)
      exact ⟨ρ2, by rw [← e3]; congr 2; omega, e4⟩)
    have e1' : G (.int lo) ρ = some ρ1 := by rw [← e1]; congr 2; omega
    rw [List.length_cons, rngL_succ, lcL]
    simp [e1', e2, ih]
end Lw
set_option Elab.async false
set_option linter.all false
set_option maxRecDepth 100000
set_option maxHeartbeats 4000000
/-! Mw: roads. -/
namespace Lw
open PySem L2 Sb

def stp : Bool → Str
  | true => "R"
  | false => "L"
abbrev Run := Bool × Int
def enc1 (x : Run) : Dt := .tuple [.str (stp x.1), .int x.2]
def enc (r : List Run) : List Dt := r.map enc1
/-- where a road leads to -/
def V : List Run → Int × Int
  | [] => (1, 1)
  | (true, k) :: r => ((V r).1 + k * (V r).2, (V r).2)
  | (false, k) :: r => ((V r).1, (V r).2 + k * (V r).1)
/-- steps by turns -/
def Alt : Option Bool → List Run → Prop
  | _, [] => True
  | o, x :: r => 1 ≤ x.2 ∧ o ≠ some x.1 ∧ Alt (some x.1) r
theorem alt_weak {o : Option Bool} {r : List Run} (h : Alt o r) : Alt none r := by
  cases r with
  | nil => trivial
  | cons x r => exact ⟨h.1, (fun e => by cases e), h.2.2⟩
theorem V_pos : ∀ {r : List Run} {o : Option Bool}, Alt o r → 1 ≤ (V r).1 ∧ 1 ≤ (V r).2
  | [], _, _ => ⟨by decide, by decide⟩
  | (true, k) :: r, _, h => by
    have ih := V_pos h.2.2
    have k1 : 1 ≤ k := h.1
    have := Int.mul_le_mul k1 ih.2 (by decide) (by omega)
    simp only [V]
    omega
  | (false, k) :: r, _, h => by
    have ih := V_pos h.2.2
    have k1 : 1 ≤ k := h.1
    have := Int.mul_le_mul k1 ih.1 (by decide) (by omega)
    simp only [V]
    omega
theorem V_R {k : Int} {r : List Run} {o : Option Bool} (h : Alt o ((true, k) :: r)) : (V ((true, k) :: r)).2 < (V ((true, k) :: r)).1 := by
  have ih := V_pos h.2.2
  have k1 : 1 ≤ k := h.1
  have := Int.mul_le_mul_of_nonneg_right k1 (show 0 ≤ (V r).2 by omega)
  simp only [V]
  omega
theorem V_L {k : Int} {r : List Run} {o : Option Bool} (h : Alt o ((false, k) :: r)) : (V ((false, k) :: r)).1 < (V ((false, k) :: r)).2 := by
  have ih := V_pos h.2.2
  have k1 : 1 ≤ k := h.1
  have := Int.mul_le_mul_of_nonneg_right k1 (show 0 ≤ (V r).1 by omega)
  simp only [V]
  omega
theorem V_notR {r : List Run} (h : Alt (some true) r) : (V r).1 ≤ (V r).2 := by
  cases r with
  | nil => exact Int.le_refl _
  | cons x r =>
    obtain ⟨b, k⟩ := x
    cases b with
    | true => exact absurd rfl h.2.1
    | false => exact Int.le_of_lt (V_L h)
theorem V_notL {r : List Run} (h : Alt (some false) r) : (V r).2 ≤ (V r).1 := by
  cases r with
  | nil => exact Int.le_refl _
  | cons x r =>
    obtain ⟨b, k⟩ := x
    cases b with
    | false => exact absurd rfl h.2.1
    | true => exact Int.le_of_lt (V_R h)
theorem mod_one {t t' u k k' : Int} (u1 : 1 ≤ u) (t1 : 1 ≤ t) (tu : t ≤ u) (t1' : 1 ≤ t') (tu' : t' ≤ u) (h : t + k * u = t' + k' * u) : t = t' ∧ k = k' := by
  have e : (k - k') * u = t' - t := by grind
  have kk : k = k' := by
    rcases Int.lt_trichotomy k k' with w | w | w
    · have := Int.mul_le_mul_of_nonneg_right (show 1 ≤ k' - k by omega) (show 0 ≤ u by omega)
      have : (k' - k) * u = t - t' := by grind
      omega
    · exact w
    · have := Int.mul_le_mul_of_nonneg_right (show 1 ≤ k - k' by omega) (show 0 ≤ u by omega)
      omega
  subst kk
  exact ⟨by omega, rfl⟩
/-- to a fraction there is one road alone -/
theorem V_inj : ∀ {r r' : List Run} {o o' : Option Bool}, Alt o r → Alt o' r' → V r = V r' → r = r'
  | [], [], _, _, _, _, _ => rfl
  | [], (true, k) :: r, _, _, _, h, e => by
    have := V_R h
    rw [← e] at this
    exact absurd this (by decide)
  | [], (false, k) :: r, _, _, _, h, e => by
    have := V_L h
    rw [← e] at this
    exact absurd this (by decide)
  | (true, k) :: r, [], _, _, h, _, e => by
    have := V_R h
    rw [e] at this
    exact absurd this (by decide)
  | (false, k) :: r, [], _, _, h, _, e => by
    have := V_L h
    rw [e] at this
    exact absurd this (by decide)
  | (true, k) :: r, (false, k') :: r', _, _, h, h', e => by
    have a := V_R h
    have b := V_L h'
    rw [e] at a
    omega
  | (false, k) :: r, (true, k') :: r', _, _, h, h', e => by
    have a := V_L h
    have b := V_R h'
    rw [e] at a
    omega
  | (true, k) :: r, (true, k') :: r', _, _, h, h', e => by
    have p := V_pos h.2.2
    have p' := V_pos h'.2.2
    have n := V_notR h.2.2
    have n' := V_notR h'.2.2
    simp only [V, Prod.mk.injEq] at e
    obtain ⟨e1, e2⟩ := e
    rw [← e2] at e1 n'
    obtain ⟨a, b⟩ := mod_one p.2 p.1 n p'.1 n' e1
    have := V_inj h.2.2 h'.2.2 (Prod.ext a e2)
    rw [this, b]
  | (false, k) :: r, (false, k') :: r', _, _, h, h', e => by
    have p := V_pos h.2.2
    have p' := V_pos h'.2.2
    have n := V_notL h.2.2
    have n' := V_notL h'.2.2
    simp only [V, Prod.mk.injEq] at e
    obtain ⟨e1, e2⟩ := e
    rw [← e1] at e2 n'
    obtain ⟨a, b⟩ := mod_one p.1 p.2 n p'.2 n' e2
    have := V_inj h.2.2 h'.2.2 (Prod.ext e1 a)
    rw [this, b]
/-! ### road_of -/
abbrev tn (τ : Bool) : Int := if τ then 0 else 1
def ori (τ : Bool) (t u : Int) : Int × Int := if τ then (t, u) else (u, t)
noncomputable def roT : Sb.Env → Rs Bool := (tst (ap2 gtD (vr 2) (cn (.int 0))))
noncomputable def roS : Sm := (sSeq (sUnp (gt2 5 6) (apA (un2 dvmD) (csA (vr 1) (csA (vr 2) nlA))))
(sSeq (sPar 1 2 (csA (vr 2) (csA (vr 6) nlA)))
(sSeq (sIf (tst (ap2 eqD (vr 2) (cn (.int 0))))
(sAug 5 (fun i j => i - j) (cn (.int 1)))
sNil)
(sSeq (sIf (tst (ap2 gtD (vr 5) (cn (.int 0))))
(sApp 3 (tpE (csA (ap2 ixD (cn c_STEPS) (vr 4)) (csA (vr 5) nlA))))
sNil)
(sSet 4 (ap2 subD (cn (.int 1)) (vr 4)))))))
theorem dvm_is {i j : Int} (h : 0 < j) (h2 : j ≤ 10 ^ 1000) : dvmD (.int i) (.int j) = .ok (.tuple [.int (i / j), .int (i % j)]) := by
  have c : CDivP i j := ⟨h, PyProof.noPylong_of_log2 (by
    have b : j.natAbs < 2 ^ 9000 := by
      have : j.natAbs ≤ 10 ^ 1000 := by omega
      exact Nat.lt_of_le_of_lt this (by decide +kernel)
    exact (Nat.log2_lt (by omega)).mpr b)⟩
  exact if_pos c
theorem steps_ix (τ : Bool) : ixD c_STEPS (.int (tn τ)) = .ok (.str (stp τ)) := by
  cases τ with
  | true => exact o_ix_t0 ..
  | false => exact o_ix_t1 ..
theorem tn_not (τ : Bool) : 1 - tn τ = tn (!τ) := by cases τ <;> rfl
theorem ro_step1 {F z5 z6 : Sl} {xs : List Dt} {τ : Bool} {t u : Int} (u1 : 1 ≤ u) (u2 : u ≤ 1000000000000000000000000000000000000000000000000000000000000) (ut : u ≤ t) (hr : 0 < t % u) (hx : xs.length ≤ lim) :
    roS [F, .d (.int t), .d (.int u), .o xs, .d (.int (tn τ)), z5, z6] = .nx [F, .d (.int u), .d (.int (t % u)), .o (xs ++ [enc1 (τ, t / u)]), .d (.int (tn (!τ))), .d (.int (t / u)), .d (.int (t % u))] := by
  have d := dvm_is (i := t) (j := u) (by omega) (by omega)
  have q : 0 < t / u := by
    have : 1 ≤ t / u := by rw [Int.le_ediv_iff_mul_le (by omega)]; omega
    omega
  have r : ¬(t % u = 0) := by omega
  have six := steps_ix τ
  have tnn := tn_not τ
  generalize tn τ = n at *
  generalize tn (!τ) = n' at *
  have lim2 : 2 ≤ lim := by decide
  unfold roS enc1
  simp [-lim_num, lim2, d, r, q, six, tnn, hx]
theorem ro_step0 {F z5 z6 : Sl} {xs : List Dt} {τ : Bool} {t u : Int} (t1 : 1 ≤ t) (u2 : u ≤ 1000000000000000000000000000000000000000000000000000000000000) (ut : t < u) :
    roS [F, .d (.int t), .d (.int u), .o xs, .d (.int (tn τ)), z5, z6] = .nx [F, .d (.int u), .d (.int t), .o xs, .d (.int (tn (!τ))), .d (.int 0), .d (.int t)] := by
  have d := dvm_is (i := t) (j := u) (by omega) (by omega)
  rw [Int.ediv_eq_zero_of_lt (by omega) ut, Int.emod_eq_of_lt (by omega) ut] at d
  have r : ¬(t = 0) := by omega
  have tnn := tn_not τ
  generalize tn τ = n at *
  generalize tn (!τ) = n' at *
  unfold roS
  simp [d, r, tnn]
theorem ro_end1 {F z5 z6 : Sl} {xs : List Dt} {τ : Bool} {t : Int} (t1 : 2 ≤ t) (hx : xs.length ≤ lim) :
    roS [F, .d (.int t), .d (.int 1), .o xs, .d (.int (tn τ)), z5, z6] = .nx [F, .d (.int 1), .d (.int 0), .o (xs ++ [enc1 (τ, t - 1)]), .d (.int (tn (!τ))), .d (.int (t - 1)), .d (.int 0)] := by
  have d := dvm_is (i := t) (j := 1) (by omega) (by omega)
  have d1 : t / 1 = t := Int.ediv_one t
  have d2 : t % 1 = 0 := Int.emod_one t
  rw [d1, d2] at d
  have q : 0 < t - 1 := by omega
  have q2 : 1 < t := by omega
  have six := steps_ix τ
  have tnn := tn_not τ
  generalize tn τ = n at *
  generalize tn (!τ) = n' at *
  have lim2 : 2 ≤ lim := by decide
  unfold roS enc1
  simp [-lim_num, lim2, d, q, q2, six, tnn, hx]
theorem ro_end0 {F z5 z6 : Sl} {xs : List Dt} {τ : Bool} :
    roS [F, .d (.int 1), .d (.int 1), .o xs, .d (.int (tn τ)), z5, z6] = .nx [F, .d (.int 1), .d (.int 0), .o xs, .d (.int (tn (!τ))), .d (.int 0), .d (.int 0)] := by
  have d := dvm_is (i := 1) (j := 1) (by omega) (by omega)
  have d1 : (1 : Int) / 1 = 1 := rfl
  have d2 : (1 : Int) % 1 = 0 := rfl
  rw [d1, d2] at d
  have tnn := tn_not τ
  generalize tn τ = n at *
  generalize tn (!τ) = n' at *
  unfold roS
  simp [d, tnn]
theorem ro_turn {F z4 z5 z6 : Sl} {xs : List Dt} {t u : Int} : roT [F, .d (.int t), .d (.int u), .o xs, z4, z5, z6] = .ok (decide (0 < u)) := by
  unfold roT
  simp
theorem ro_loop {F : Sl} : ∀ (k : Nat) (xs : List Dt) (τ : Bool) (t u : Int) (z5 z6 : Sl), 1 ≤ u → u < t → Int.gcd t u = 1 → t ≤ 1000000000000000000000000000000000000000000000000000000000000 → t * u < 2 ^ k → xs.length + k ≤ lim →
    ∃ r z1 z2 z4 z5' z6', Alt (some (!τ)) r ∧ r.length ≤ k ∧ V r = ori τ t u ∧ (∀ x ∈ r, x.2 ≤ t) ∧
      sWh roT roS [F, .d (.int t), .d (.int u), .o xs, .d (.int (tn τ)), z5, z6] = .nx [F, z1, z2, .o (xs ++ enc r), z4, z5', z6'] := by
  intro k
  induction k with
  | zero =>
    intro xs τ t u z5 z6 u1 ut g tG hk hl
    have := Int.mul_le_mul (show 1 ≤ t by omega) u1 (by decide) (by omega)
    simp at hk
    omega
  | succ k ih =>
    intro xs τ t u z5 z6 u1 ut g tG hk hl
    have dm := Int.mul_ediv_add_emod t u
    have rn := Int.emod_nonneg t (show u ≠ 0 by omega)
    have rl := Int.emod_lt_of_pos t (show 0 < u by omega)
    have hx : xs.length ≤ lim := by omega
    have hk2 : (2 : Int) ^ (k + 1) = 2 * 2 ^ k := by rw [Int.pow_succ]; omega
    by_cases hr : 0 < t % u
    · have q1 : 1 ≤ t / u := by rw [Int.le_ediv_iff_mul_le (by omega)]; omega
      have qt : t / u ≤ t := Int.ediv_le_self _ (by omega)
      have e := ro_step1 (F := F) (z5 := z5) (z6 := z6) (τ := τ) (xs := xs) u1 (by omega) (Int.le_of_lt ut) hr hx
      have g2 : Int.gcd u (t % u) = 1 := by
        rw [← g]
        obtain ⟨m, rfl⟩ := Int.eq_ofNat_of_zero_le (show 0 ≤ t by omega)
        obtain ⟨n, rfl⟩ := Int.eq_ofNat_of_zero_le (show 0 ≤ u by omega)
        rw [← Int.natCast_emod, Int.gcd_natCast_natCast, Int.gcd_natCast_natCast, Nat.gcd_comm m n, Nat.gcd_rec n m, Nat.gcd_comm]
      generalize hq : t / u = q at *
      generalize hm : t % u = m at *
      have pr : u * m < 2 ^ k := by
        have e1 := Int.mul_le_mul_of_nonneg_left q1 (show 0 ≤ u * u by exact Int.mul_nonneg (by omega) (by omega))
        have e2 := Int.mul_le_mul_of_nonneg_left (Int.le_of_lt rl) (show 0 ≤ u by omega)
        have e3 : t * u = u * u * q + u * m := by rw [← dm]; grind
        omega
      obtain ⟨r, z1, z2, z4, z5', z6', A, ln, hV, hc, ew⟩ := ih (xs ++ [enc1 (τ, q)]) (!τ) u m (.d (.int q)) (.d (.int m)) (by omega) rl g2 (by omega) pr (by simp only [List.length_append, List.length_cons, List.length_nil]; omega)
      refine ⟨(τ, q) :: r, z1, z2, z4, z5', z6', ⟨q1, by cases τ <;> simp, by rw [Bool.not_not] at A; exact A⟩, by simp only [List.length_cons]; omega, ?_, ?_, ?_⟩
      · cases τ with
        | true =>
          simp only [V, hV, ori]
          simp
          rw [← dm, Int.mul_comm u q]; omega
        | false =>
          simp only [V, hV, ori]
          simp
          rw [← dm, Int.mul_comm u q]; omega
      · intro x hx'
        rcases List.mem_cons.mp hx' with h | h
        · subst h; exact qt
        · have := hc x h; omega
      · rw [sWh_step, ro_turn]
        simp only [onR_ok, show 0 < u by omega, decide_true, if_true, e, turnE_nx]
        rw [ew]
        simp [enc]
    · have m0 : t % u = 0 := by omega
      have uu : u = 1 := by
        have d : u ∣ t := Int.dvd_of_emod_eq_zero m0
        have d2 : u ∣ (Int.gcd t u : Int) := Int.dvd_coe_gcd d (Int.dvd_refl u)
        rw [g] at d2
        have := Int.le_of_dvd (by decide) d2
        omega
      subst uu
      have e := ro_end1 (F := F) (z5 := z5) (z6 := z6) (τ := τ) (xs := xs) (t := t) (by omega) hx
      refine ⟨[(τ, t - 1)], .d (.int 1), .d (.int 0), .d (.int (tn (!τ))), .d (.int (t - 1)), .d (.int 0), ⟨by show 1 ≤ t - 1; omega, by cases τ <;> simp, trivial⟩, by simp, ?_, ?_, ?_⟩
      · cases τ with
        | true => simp only [V, ori]; simp; omega
        | false => simp only [V, ori]; simp; omega
      · intro x hx'
        rw [List.mem_singleton] at hx'
        subst hx'
        show t - 1 ≤ t
        omega
      · rw [sWh_step, ro_turn]
        simp only [onR_ok, show (0 : Int) < 1 by decide, decide_true, if_true, e, turnE_nx]
        rw [sWh_step, ro_turn]
        simp [enc]
/-- the road of a fraction -/
structure RoadOf (p q : Int) (r : List Run) : Prop where
  al : Alt none r
  v : V r = (p, q)
  len : r.length ≤ 400
  le : ∀ x ∈ r, x.2 ≤ 1000000000000000000000000000000000000000000000000000000000000
theorem road_is {p q : Int} (P : Pos2 p q) : ∃ r, RoadOf p q r ∧ m_road_of [fr p q] = .ok (.o (enc r)) := by
  obtain ⟨⟨p0, p1, q0, q1, g⟩, pp, qp⟩ := P
  have fi := IsB.fraction (a := p) (b := q) ⟨p0, p1, q0, q1, g⟩
  have pq : p * q ≤ 1000000000000000000000000000000000000000000000000000000000000 * 1000000000000000000000000000000000000000000000000000000000000 := Int.mul_le_mul p1 q1 q0 (by decide)
  have lim4 : 400 ≤ lim := by decide
  have fin : ∀ r z1 z2 z4 z5 z6, sWh roT roS [.d (fr p q), .d (.int p), .d (.int q), .o [], .d (.int 0), .u, .u] = .nx [.d (fr p q), z1, z2, .o (enc r), z4, z5, z6] → m_road_of [fr p q] = .ok (.o (enc r)) := by
    intro r z1 z2 z4 z5 z6 e
    unfold roT roS at e
    unfold m_road_of F_road_of
    simp [fi, pp, qp, e]
  rcases Int.lt_trichotomy p q with w | w | w
  · obtain ⟨r, z1, z2, z4, z5', z6', A, ln, hV, hc, ew⟩ := ro_loop (F := .d (fr p q)) 400 [] false q p (.d (.int 0)) (.d (.int p)) (by omega) w (by rw [Int.gcd_comm]; exact g) q1 (by rw [Int.mul_comm]; exact Int.lt_of_le_of_lt pq (by decide +kernel)) (by simp only [List.length_nil]; omega)
    refine ⟨r, ⟨alt_weak A, hV, ln, fun x hx => by have := hc x hx; omega⟩, fin r z1 z2 z4 z5' z6' ?_⟩
    have e := ro_step0 (F := .d (fr p q)) (z5 := .u) (z6 := .u) (xs := []) (τ := true) (t := p) (u := q) (by omega) q1 w
    rw [sWh_step, ro_turn]
    simp only [onR_ok, qp, decide_true, if_true]
    have e' : roS [.d (fr p q), .d (.int p), .d (.int q), .o [], .d (.int 0), .u, .u] = _ := e
    rw [e', turnE_nx]
    exact ew
  · subst w
    have e1 : p = 1 := by simp at g; omega
    subst e1
    refine ⟨[], ⟨trivial, rfl, by decide, fun x hx => by cases hx⟩, fin [] (.d (.int 1)) (.d (.int 0)) (.d (.int 1)) (.d (.int 0)) (.d (.int 0)) ?_⟩
    have e := ro_end0 (F := .d (fr 1 1)) (z5 := .u) (z6 := .u) (xs := []) (τ := true)
    rw [sWh_step, ro_turn]
    simp only [onR_ok, show (0 : Int) < 1 by decide, decide_true, if_true]
    have e' : roS [.d (fr 1 1), .d (.int 1), .d (.int 1), .o [], .d (.int 0), .u, .u] = _ := e
    rw [e', turnE_nx, sWh_step, ro_turn]
    rfl
  · obtain ⟨r, z1, z2, z4, z5', z6', A, ln, hV, hc, ew⟩ := ro_loop (F := .d (fr p q)) 400 [] true p q .u .u (by omega) w g p1 (Int.lt_of_le_of_lt pq (by decide +kernel)) (by simp only [List.length_nil]; omega)
    exact ⟨r, ⟨alt_weak A, hV, ln, fun x hx => by have := hc x hx; omega⟩, fin r z1 z2 z4 z5' z6' ew⟩
end Lw
set_option Elab.async false
set_option linter.all false
set_option maxRecDepth 100000
set_option maxHeartbeats 4000000
/-! Mv: roads gone along. -/
namespace Lw
open PySem L2 Sb

structure Bo where
  a : Int
  b : Int
  c : Int
  d : Int
def st1 (s : Bo) : Run → Bo
  | (true, k) => ⟨s.a + k * s.c, s.b + k * s.d, s.c, s.d⟩
  | (false, k) => ⟨s.a, s.b, s.c + k * s.a, s.d + k * s.b⟩
def wk : Bo → List Run → Bo
  | s, [] => s
  | s, x :: r => wk (st1 s x) r
def bo0 : Bo := ⟨0, 1, 1, 0⟩
structure Ok4 (s : Bo) : Prop where
  a : 0 ≤ s.a
  b : 0 ≤ s.b
  c : 0 ≤ s.c
  d : 0 ≤ s.d
abbrev lo (s : Bo) : Dt := fr s.a s.b
abbrev hi (s : Bo) : Dt := fr s.c s.d
abbrev mxm (s : Bo) : Int := if s.b + s.d > s.a + s.c then s.b + s.d else s.a + s.c
theorem st1_ok {s : Bo} {x : Run} (h : Ok4 s) (hx : 1 ≤ x.2) : Ok4 (st1 s x) ∧ s.a ≤ (st1 s x).a ∧ s.b ≤ (st1 s x).b ∧ s.c ≤ (st1 s x).c ∧ s.d ≤ (st1 s x).d := by
  obtain ⟨τ, k⟩ := x
  have k0 : 0 ≤ k := by have : 1 ≤ k := hx; omega
  obtain ⟨a, b, c, d⟩ := h
  have e1 := Int.mul_nonneg k0 a
  have e2 := Int.mul_nonneg k0 b
  have e3 := Int.mul_nonneg k0 c
  have e4 := Int.mul_nonneg k0 d
  cases τ with
  | true => exact ⟨⟨by show 0 ≤ s.a + k * s.c; omega, by show 0 ≤ s.b + k * s.d; omega, c, d⟩, by show s.a ≤ s.a + k * s.c; omega, by show s.b ≤ s.b + k * s.d; omega, Int.le_refl _, Int.le_refl _⟩
  | false => exact ⟨⟨a, b, by show 0 ≤ s.c + k * s.a; omega, by show 0 ≤ s.d + k * s.b; omega⟩, Int.le_refl _, Int.le_refl _, by show s.c ≤ s.c + k * s.a; omega, by show s.d ≤ s.d + k * s.b; omega⟩
theorem wk_ok : ∀ {r : List Run} {s : Bo}, Ok4 s → (∀ x ∈ r, 1 ≤ x.2) → Ok4 (wk s r) ∧ s.a ≤ (wk s r).a ∧ s.b ≤ (wk s r).b ∧ s.c ≤ (wk s r).c ∧ s.d ≤ (wk s r).d
  | [], s, h, _ => ⟨h, Int.le_refl _, Int.le_refl _, Int.le_refl _, Int.le_refl _⟩
  | x :: r, s, h, hx => by
    obtain ⟨h1, a, b, c, d⟩ := st1_ok h (hx x (List.mem_cons_self ..))
    obtain ⟨h2, a', b', c', d'⟩ := wk_ok h1 fun y hy => hx y (List.mem_cons_of_mem _ hy)
    exact ⟨h2, Int.le_trans a a', Int.le_trans b b', Int.le_trans c c', Int.le_trans d d'⟩
theorem wk_sum : ∀ (r : List Run) (s : Bo), (wk s r).a + (wk s r).c = (V r).1 * s.c + (V r).2 * s.a ∧ (wk s r).b + (wk s r).d = (V r).1 * s.d + (V r).2 * s.b
  | [], s => by simp only [wk, V]; omega
  | (true, k) :: r, s => by
    have h := wk_sum r ⟨s.a + k * s.c, s.b + k * s.d, s.c, s.d⟩
    have e : wk s ((true, k) :: r) = wk ⟨s.a + k * s.c, s.b + k * s.d, s.c, s.d⟩ r := rfl
    rw [e]
    generalize wk ⟨s.a + k * s.c, s.b + k * s.d, s.c, s.d⟩ r = w at *
    simp only at h
    simp only [V]
    generalize (V r).1 = x at *
    generalize (V r).2 = y at *
    exact ⟨by rw [h.1]; grind, by rw [h.2]; grind⟩
  | (false, k) :: r, s => by
    have h := wk_sum r ⟨s.a, s.b, s.c + k * s.a, s.d + k * s.b⟩
    have e : wk s ((false, k) :: r) = wk ⟨s.a, s.b, s.c + k * s.a, s.d + k * s.b⟩ r := rfl
    rw [e]
    generalize wk ⟨s.a, s.b, s.c + k * s.a, s.d + k * s.b⟩ r = w at *
    simp only at h
    simp only [V]
    generalize (V r).1 = x at *
    generalize (V r).2 = y at *
    exact ⟨by rw [h.1]; grind, by rw [h.2]; grind⟩
theorem wk_det : ∀ (r : List Run) (s : Bo), (wk s r).c * (wk s r).b - (wk s r).a * (wk s r).d = s.c * s.b - s.a * s.d
  | [], s => rfl
  | (true, k) :: r, s => by
    have h := wk_det r ⟨s.a + k * s.c, s.b + k * s.d, s.c, s.d⟩
    have e : wk s ((true, k) :: r) = wk ⟨s.a + k * s.c, s.b + k * s.d, s.c, s.d⟩ r := rfl
    rw [e, h]
    simp only
    grind
  | (false, k) :: r, s => by
    have h := wk_det r ⟨s.a, s.b, s.c + k * s.a, s.d + k * s.b⟩
    have e : wk s ((false, k) :: r) = wk ⟨s.a, s.b, s.c + k * s.a, s.d + k * s.b⟩ r := rfl
    rw [e, h]
    simp only
    grind
theorem wk0 (r : List Run) : (wk bo0 r).a + (wk bo0 r).c = (V r).1 ∧ (wk bo0 r).b + (wk bo0 r).d = (V r).2 ∧ (wk bo0 r).c * (wk bo0 r).b - (wk bo0 r).a * (wk bo0 r).d = 1 := by
  obtain ⟨h1, h2⟩ := wk_sum r bo0
  have h3 := wk_det r bo0
  simp only [bo0] at h1 h2 h3
  simp only [bo0]
  exact ⟨by omega, by omega, by omega⟩
theorem bo0_ok : Ok4 bo0 := ⟨by decide, by decide, by decide, by decide⟩
theorem alt_ge : ∀ {r : List Run} {o : Option Bool}, Alt o r → ∀ x ∈ r, 1 ≤ x.2
  | x :: r, _, h, y, hy => by
    rcases List.mem_cons.mp hy with e | e
    · rw [e]; exact h.1
    · exact alt_ge h.2.2 y e
theorem stepped_is {s : Bo} {x : Run} (h : Ok4 s) (ha : s.a ≤ 1000000000000000000000000000000000000000000000000000000000000) (hb : s.b ≤ 1000000000000000000000000000000000000000000000000000000000000) (hc : s.c ≤ 1000000000000000000000000000000000000000000000000000000000000) (hd : s.d ≤ 1000000000000000000000000000000000000000000000000000000000000) (k1 : 1 ≤ x.2) (k2 : x.2 ≤ 1000000000000000000000000000000000000000000000000000000000000) :
    m_stepped [lo s, hi s, .str (stp x.1), .int x.2] = .ok (.d (.tuple [lo (st1 s x), hi (st1 s x)])) := by
  obtain ⟨a, b, c, d⟩ := h
  obtain ⟨τ, k⟩ := x
  have k1 : 1 ≤ k := k1
  have k2 : k ≤ 1000000000000000000000000000000000000000000000000000000000000 := k2
  cases τ with
  | true => exact stepped_R (Bd_small (by omega)) (Bd_small (by omega)) (Bd_small (by omega))
  | false => exact stepped_L (Bd_small (by omega)) (Bd_small (by omega)) (Bd_small (by omega))
/-! ### borders -/
noncomputable def boS : Sm := (sUnp (gt2 1 2) (calE m_stepped (csA (vr 1) (csA (vr 2) (csA (vr 3) (csA (vr 4) nlA))))))
theorem bo_loop {X : Sl} : ∀ (r : List Run) (s : Bo) (z3 z4 : Sl), Ok4 s → (∀ x ∈ r, 1 ≤ x.2 ∧ x.2 ≤ 1000000000000000000000000000000000000000000000000000000000000) → (wk s r).a ≤ 1000000000000000000000000000000000000000000000000000000000000 → (wk s r).b ≤ 1000000000000000000000000000000000000000000000000000000000000 → (wk s r).c ≤ 1000000000000000000000000000000000000000000000000000000000000 → (wk s r).d ≤ 1000000000000000000000000000000000000000000000000000000000000 →
    ∃ y3 y4, forL (gt2 3 4) boS (enc r) [X, .d (lo s), .d (hi s), z3, z4] = .nx [X, .d (lo (wk s r)), .d (hi (wk s r)), y3, y4]
  | [], s, z3, z4, _, _, _, _, _, _ => ⟨z3, z4, rfl⟩
  | x :: r, s, z3, z4, h, hx, ha, hb, hc, hd => by
    obtain ⟨k1, k2⟩ := hx x (List.mem_cons_self ..)
    obtain ⟨h1, a, b, c, d⟩ := st1_ok h k1
    obtain ⟨h2, a', b', c', d'⟩ := wk_ok h1 fun y hy => (hx y (List.mem_cons_of_mem _ hy)).1
    simp only [wk] at ha hb hc hd
    have e := stepped_is h (x := x) (by omega) (by omega) (by omega) (by omega) k1 k2
    obtain ⟨y3, y4, ih⟩ := bo_loop (X := X) r (st1 s x) (.d (.str (stp x.1))) (.d (.int x.2)) h1 (fun y hy => hx y (List.mem_cons_of_mem _ hy)) ha hb hc hd
    refine ⟨y3, y4, ?_⟩
    have es : boS [X, .d (lo s), .d (hi s), .d (.str (stp x.1)), .d (.int x.2)] = .nx [X, .d (lo (st1 s x)), .d (hi (st1 s x)), .d (.str (stp x.1)), .d (.int x.2)] := by
      unfold boS
      simp only [lo, hi] at e ⊢
      simp [e]
    show forL (gt2 3 4) boS (enc1 x :: enc r) _ = _
    rw [e_forL_cons, enc1, e_gt2, onO_some]
    simp only [List.set_cons_succ, List.set_cons_zero]
    rw [es, turnE_nx]
    exact ih
theorem borders_is {p q : Int} {r : List Run} (P : Pos2 p q) (R : RoadOf p q r) (e : m_road_of [fr p q] = .ok (.o (enc r))) : m_borders [fr p q] = .ok (.d (.tuple [lo (wk bo0 r), hi (wk bo0 r)])) := by
  obtain ⟨s1, s2, s3⟩ := wk0 r
  obtain ⟨⟨a, b, c, d⟩, _⟩ := wk_ok bo0_ok (alt_ge R.al)
  have p1 := P.a1
  have q1 := P.b1
  rw [R.v] at s1 s2
  simp only at s1 s2
  obtain ⟨y3, y4, el⟩ := bo_loop (X := .d (fr p q)) r bo0 .u .u bo0_ok (fun x hx => ⟨alt_ge R.al x hx, R.le x hx⟩) (by omega) (by omega) (by omega) (by omega)
  unfold boS at el
  have el' : forL (gt2 3 4) _ (enc r) [.d (fr p q), .d (fr 0 1), .d (fr 1 0), .u, .u] = _ := el
  generalize enc r = E at *
  simp only [lo, hi] at el' ⊢
  unfold m_borders F_borders
  simp [c_NOUGHT, c_NO_END, e, el']
/-! ### fraction_at -/
noncomputable def faS : Sm := (sSeq (sUnp (gt2 1 2) (calE m_stepped (csA (vr 1) (csA (vr 2) (csA (vr 3) (csA (vr 4) nlA))))))
(sIf (tst (ap2 gtD (apA (un1 mxP) (csA (calE m_middle (csA (vr 1) (csA (vr 2) nlA))) nlA)) (cn c_GREATEST)))
(sExc "TooGreat")
sNil))
theorem fa_step {X : Sl} {s : Bo} {x : Run} {z3 z4 : Sl} (h : Ok4 s) (hm : mxm s ≤ 1000000000000000000000000000000000000000000000000000000000000) (k1 : 1 ≤ x.2) (k2 : x.2 ≤ 1000000000000000000000000000000000000000000000000000000000000) :
    onO (gt2 3 4 (enc1 x) [X, .d (lo s), .d (hi s), z3, z4]) faS = if 1000000000000000000000000000000000000000000000000000000000000 < mxm (st1 s x) then .ex "TooGreat" [X, .d (lo (st1 s x)), .d (hi (st1 s x)), .d (.str (stp x.1)), .d (.int x.2)] else .nx [X, .d (lo (st1 s x)), .d (hi (st1 s x)), .d (.str (stp x.1)), .d (.int x.2)] := by
  have hb : s.a ≤ 1000000000000000000000000000000000000000000000000000000000000 ∧ s.b ≤ 1000000000000000000000000000000000000000000000000000000000000 ∧ s.c ≤ 1000000000000000000000000000000000000000000000000000000000000 ∧ s.d ≤ 1000000000000000000000000000000000000000000000000000000000000 := by
    obtain ⟨a, b, c, d⟩ := h
    have hm' : (if s.b + s.d > s.a + s.c then s.b + s.d else s.a + s.c) ≤ 1000000000000000000000000000000000000000000000000000000000000 := hm
    split at hm' <;> omega
  have e := stepped_is h (x := x) hb.1 hb.2.1 hb.2.2.1 hb.2.2.2 k1 k2
  have m := middle_is (st1 s x).a (st1 s x).b (st1 s x).c (st1 s x).d
  unfold enc1 faS
  simp only [lo, hi, mxm] at e ⊢
  generalize hg : (if (st1 s x).b + (st1 s x).d > (st1 s x).a + (st1 s x).c then (st1 s x).b + (st1 s x).d else (st1 s x).a + (st1 s x).c) = g
  have mx : mxP (fr ((st1 s x).a + (st1 s x).c) ((st1 s x).b + (st1 s x).d)) = .ok (.int g) := by rw [o_mxP, hg]
  by_cases hw : 1000000000000000000000000000000000000000000000000000000000000 < g
  · rw [if_pos hw]
    simp [-o_mxP, e, m, mx, c_GREATEST, hw]
  · rw [if_neg hw]
    simp [-o_mxP, e, m, mx, c_GREATEST, hw]
theorem mxm_mono {s s' : Bo} (a : s.a ≤ s'.a) (b : s.b ≤ s'.b) (c : s.c ≤ s'.c) (d : s.d ≤ s'.d) : mxm s ≤ mxm s' := by
  show (if s.b + s.d > s.a + s.c then s.b + s.d else s.a + s.c) ≤ (if s'.b + s'.d > s'.a + s'.c then s'.b + s'.d else s'.a + s'.c)
  split <;> split <;> omega
theorem fa_loop {X : Sl} : ∀ (r : List Run) (s : Bo) (z3 z4 : Sl), Ok4 s → (∀ x ∈ r, 1 ≤ x.2 ∧ x.2 ≤ 1000000000000000000000000000000000000000000000000000000000000) → mxm s ≤ 1000000000000000000000000000000000000000000000000000000000000 →
    (mxm (wk s r) ≤ 1000000000000000000000000000000000000000000000000000000000000 → ∃ y3 y4, forL (gt2 3 4) faS (enc r) [X, .d (lo s), .d (hi s), z3, z4] = .nx [X, .d (lo (wk s r)), .d (hi (wk s r)), y3, y4]) ∧
    (1000000000000000000000000000000000000000000000000000000000000 < mxm (wk s r) → ∃ ρ, forL (gt2 3 4) faS (enc r) [X, .d (lo s), .d (hi s), z3, z4] = .ex "TooGreat" ρ)
  | [], s, z3, z4, _, _, hm => ⟨fun _ => ⟨z3, z4, rfl⟩, fun h => by simp only [wk] at h; omega⟩
  | x :: r, s, z3, z4, h, hx, hm => by
    obtain ⟨k1, k2⟩ := hx x (List.mem_cons_self ..)
    obtain ⟨h1, a, b, c, d⟩ := st1_ok h k1
    obtain ⟨h2, a', b', c', d'⟩ := wk_ok h1 fun y hy => (hx y (List.mem_cons_of_mem _ hy)).1
    have mono := mxm_mono a' b' c' d'
    have e := fa_step (X := X) (z3 := z3) (z4 := z4) h hm k1 k2
    have un : forL (gt2 3 4) faS (enc (x :: r)) [X, .d (lo s), .d (hi s), z3, z4] = turnE (onO (gt2 3 4 (enc1 x) [X, .d (lo s), .d (hi s), z3, z4]) faS) (forL (gt2 3 4) faS (enc r)) := rfl
    simp only [wk]
    by_cases hw : 1000000000000000000000000000000000000000000000000000000000000 < mxm (st1 s x)
    · rw [if_pos hw] at e
      refine ⟨fun h3 => by omega, fun _ => ⟨[X, .d (lo (st1 s x)), .d (hi (st1 s x)), .d (.str (stp x.1)), .d (.int x.2)], ?_⟩⟩
      rw [un, e, turnE_ex]
    · rw [if_neg hw] at e
      obtain ⟨i1, i2⟩ := fa_loop (X := X) r (st1 s x) (.d (.str (stp x.1))) (.d (.int x.2)) h1 (fun y hy => hx y (List.mem_cons_of_mem _ hy)) (by omega)
      rw [un, e, turnE_nx]
      exact ⟨i1, i2⟩
/-! ### is_road -/
theorem strOk_stp (τ : Bool) : PyData.strOk (stp τ) = true := by cases τ <;> decide +kernel
theorem nin_stp (τ : Bool) : ninD (.str (stp τ)) c_STEPS = .ok (.bool false) := by
  have h : ninD (.str (stp τ)) c_STEPS = .ok (.bool (!inAny (.str (stp τ)) [.str "R", .str "L"])) := if_pos ⟨shaped_str (strOk_stp τ), by decide +kernel⟩
  rw [h]
  cases τ <;> (congr 2)
theorem enc_len (r : List Run) : (enc r).length = r.length := List.length_map _
theorem is_run_is {x : Run} (k1 : 1 ≤ x.2) (k2 : x.2 ≤ 1000000000000000000000000000000000000000000000000000000000000) : m_is_run [enc1 x] = .ok (.d (.bool true)) := by
  have a := among_int x.2 1 1000000000000000000000000000000000000000000000000000000000000
  rw [decide_eq_true k1, decide_eq_true k2] at a
  have n := nin_stp x.1
  unfold m_is_run F_is_run enc1
  generalize stp x.1 = z at *
  simp [n, c_GREATEST, a]
theorem lc_const {G : Dt → Sb.Env → Option Sb.Env} {E : Sb.Env → Rs Dt} {ρ : Sb.Env} {y : Dt} : ∀ (ds : List Dt), (∀ d ∈ ds, ∃ ρ1, G d ρ = some ρ1 ∧ E ρ1 = .ok y) → lcL G yesT E ρ ds = .ok (List.replicate ds.length y)
  | [], _ => rfl
  | d :: ds, h => by
    obtain ⟨ρ1, e1, e2⟩ := h d (List.mem_cons_self ..)
    have ih := lc_const ds fun x hx => h x (List.mem_cons_of_mem _ hx)
    rw [lcL]
    simp [e1, e2, ih, List.replicate_succ]
theorem all_true (n : Nat) : allD (.list (List.replicate n (.bool true))) = .ok (.bool true) := by
  have e : List.replicate n (PyData.bool true) = (List.replicate n true).map PyData.bool := by rw [List.map_replicate]
  show ((ofO (asBs (List.replicate n (PyData.bool true)))).bind fun bs => Rs.ok (PyData.bool (bs.all id))) = _
  rw [e, asBs_map]
  simp [ofO]
theorem zip_alt : ∀ {r : List Run} {o : Option Bool}, Alt o r → ∀ d ∈ zipL (enc r) ((enc r).drop 1), ∃ x y : Run, d = .tuple [enc1 x, enc1 y] ∧ x.1 ≠ y.1
  | [], _, _, d, hd => by cases hd
  | [x], _, _, d, hd => by cases hd
  | x :: y :: r, _, h, d, hd => by
    have e : zipL (enc (x :: y :: r)) ((enc (x :: y :: r)).drop 1) = .tuple [enc1 x, enc1 y] :: zipL (enc (y :: r)) ((enc (y :: r)).drop 1) := rfl
    rw [e] at hd
    rcases List.mem_cons.mp hd with hd | hd
    · exact ⟨x, y, hd, fun t => h.2.2.2.1 (by rw [t])⟩
    · exact zip_alt h.2.2 d hd
theorem zip_len : ∀ (xs ys : List Dt), (zipL xs ys).length ≤ xs.length
  | [], _ => Nat.le_refl _
  | _ :: _, [] => Nat.zero_le _
  | x :: xs, y :: ys => by
    have := zip_len xs ys
    simp only [zipL, List.length_cons]
    omega
theorem ne_stp {a b : Bool} (h : a ≠ b) : neD (.str (stp a)) (.str (stp b)) = .ok (.bool true) := by
  rw [ne_str (strOk_stp a) (strOk_stp b)]
  cases a <;> cases b <;> first | exact absurd rfl h | (congr 2)
theorem is_road_is {r : List Run} (h : Alt none r) (hk : ∀ x ∈ r, x.2 ≤ 1000000000000000000000000000000000000000000000000000000000000) (hl : r.length ≤ 1000) : m_is_road [.list (enc r)] = .ok (.d (.bool true)) := by
  have l1 : (enc r).length ≤ lim := by rw [enc_len, lim1]; omega
  have c1 : lcL (gt1 1) yesT (calE m_is_run (csA (vr 1) nlA)) [.d (.list (enc r)), .u, .u] (enc r) = .ok (List.replicate (enc r).length (.bool true)) := by
    refine lc_const _ fun d hd => ?_
    obtain ⟨x, hx, rfl⟩ := List.mem_map.mp hd
    refine ⟨_, rfl, ?_⟩
    have e := is_run_is (alt_ge h x hx) (hk x hx)
    simp [e]
  have c2 : lcL (gt2 1 2) yesT (ap2 neD (ap2 ixD (vr 1) (cn (.int 0))) (ap2 ixD (vr 2) (cn (.int 0)))) [.d (.list (enc r)), .u, .u] (zipL (enc r) ((enc r).drop 1)) = .ok (List.replicate (zipL (enc r) ((enc r).drop 1)).length (.bool true)) := by
    refine lc_const _ fun d hd => ?_
    obtain ⟨x, y, rfl, hxy⟩ := zip_alt h d hd
    refine ⟨_, rfl, ?_⟩
    have e := ne_stp hxy
    unfold enc1
    simp [e]
  have l2 : (zipL (enc r) ((enc r).drop 1)).length ≤ lim := Nat.le_trans (zip_len _ _) l1
  have ec : slD (.list (enc r)) (some 1) none = .ok (.list ((enc r).drop 1)) := by
    show Rs.ok (PyData.list (cutD (enc r) (some 1) none)) = _
    rw [cut1]
  have a1 := all_true (enc r).length
  have a2 := all_true (zipL (enc r) ((enc r).drop 1)).length
  generalize hZ : zipL (enc r) ((enc r).drop 1) = Z at *
  generalize (enc r).drop 1 = D at *
  generalize enc r = E at *
  unfold m_is_road F_is_road
  simp [-lim_num, l1, l2, c1, c2, a1, a2, ec, hZ]
theorem fraction_at_is {r : List Run} (h : Alt none r) (hk : ∀ x ∈ r, x.2 ≤ 1000000000000000000000000000000000000000000000000000000000000) (hl : r.length ≤ 1000) : m_fraction_at [.list (enc r)] = if 1000000000000000000000000000000000000000000000000000000000000 < (if (V r).2 > (V r).1 then (V r).2 else (V r).1) then .exc "TooGreat" else .ok (.d (fr (V r).1 (V r).2)) := by
  have ro := is_road_is h hk hl
  obtain ⟨s1, s2, s3⟩ := wk0 r
  obtain ⟨l1, l2⟩ := fa_loop (X := .d (.list (enc r))) r bo0 .u .u bo0_ok (fun x hx => ⟨alt_ge h x hx, hk x hx⟩) (by decide)
  have hm : mxm (wk bo0 r) = (if (V r).2 > (V r).1 then (V r).2 else (V r).1) := by
    show (if (wk bo0 r).b + (wk bo0 r).d > (wk bo0 r).a + (wk bo0 r).c then (wk bo0 r).b + (wk bo0 r).d else (wk bo0 r).a + (wk bo0 r).c) = _
    rw [s1, s2]
  rw [hm] at l1 l2
  have md := middle_is (wk bo0 r).a (wk bo0 r).b (wk bo0 r).c (wk bo0 r).d
  rw [s1, s2] at md
  generalize (if (V r).2 > (V r).1 then (V r).2 else (V r).1) = g at *
  by_cases hg : 1000000000000000000000000000000000000000000000000000000000000 < g
  · obtain ⟨ρ, e⟩ := l2 hg
    have e' : forL (gt2 3 4) faS (enc r) [.d (.list (enc r)), .d (fr 0 1), .d (fr 1 0), .u, .u] = .ex "TooGreat" ρ := e
    unfold faS at e'
    rw [if_pos hg]
    generalize enc r = E at *
    unfold m_fraction_at F_fraction_at
    simp [ro, c_NOUGHT, c_NO_END, e']
  · obtain ⟨y3, y4, e⟩ := l1 (by omega)
    have e' : forL (gt2 3 4) faS (enc r) [.d (.list (enc r)), .d (fr 0 1), .d (fr 1 0), .u, .u] = .nx [.d (.list (enc r)), .d (lo (wk bo0 r)), .d (hi (wk bo0 r)), y3, y4] := e
    unfold faS at e'
    rw [if_neg hg]
    simp only [lo, hi] at e'
    generalize enc r = E at *
    unfold m_fraction_at F_fraction_at
    simp [ro, c_NOUGHT, c_NO_END, e', md]
/-! ### roads shown -/
theorem okR_enc : ∀ {r : List Run}, (∀ x ∈ r, -(10 ^ 61) ≤ x.2 ∧ x.2 ≤ 10 ^ 61) → OkRs (enc r)
  | [], _ => okRs_nil
  | x :: r, h => okRs_cons (okR_tup (okRs_cons (okR_str (strOk_stp x.1)) (okRs_cons (okR_int (by have := h x (List.mem_cons_self ..); omega)) okRs_nil))) (okR_enc fun y hy => h y (List.mem_cons_of_mem _ hy))
theorem stp_size (τ : Bool) : (stp τ).cps.size = 1 := by cases τ <;> decide +kernel
theorem bulk_enc : ∀ r : List Run, PyData.bulkAll (enc r) = 4 * r.length
  | [] => by simp [enc, PyData.bulkAll]
  | x :: r => by
    have := bulk_enc r
    have := stp_size x.1
    unfold enc enc1 at *
    simp only [List.map_cons, PyData.bulkAll, PyData.bulk, List.length_cons] at *
    omega
theorem depth_enc : ∀ r : List Run, PyData.depthAll (enc r) ≤ 1
  | [] => by simp [enc, PyData.depthAll]
  | x :: r => by
    have := depth_enc r
    unfold enc enc1 at *
    simp only [List.map_cons, PyData.depthAll, PyData.depth] at *
    omega
structure Shw (d : Dt) : Prop where
  o : OkR d
  b : d.bulk ≤ 15000
  d : d.depth ≤ 60
theorem Shw.rpr {d : Dt} (h : Shw d) : rprD d = .ok (.str d.shown) := rpr_is h.o h.b h.d
theorem Shw.ne {d : Dt} (h : Shw d) : neD d d = .ok (.bool false) := ne_same h.o h.d
theorem Shw.eq {d : Dt} (h : Shw d) : eqD d d = .ok (.bool true) := eq_same h.o h.d
theorem Shw.nes {d : Dt} (h : Shw d) : neD (.str d.shown) (.str d.shown) = .ok (.bool false) := ne_shown h.o
theorem Shw.eqs {d : Dt} (h : Shw d) : eqD (.str d.shown) (.str d.shown) = .ok (.bool true) := eq_shown h.o
theorem shw_enc {r : List Run} (h : ∀ x ∈ r, -(10 ^ 61) ≤ x.2 ∧ x.2 ≤ 10 ^ 61) (hl : r.length ≤ 3000) : Shw (.list (enc r)) := by
  refine ⟨okR_list (okR_enc h), ?_, ?_⟩
  · rw [PyData.bulk, bulk_enc]; omega
  · have := depth_enc r
    rw [PyData.depth]; omega
theorem shw_fr {a b : Int} (ha : -(10 ^ 62) ≤ a ∧ a ≤ 10 ^ 62) (hb : -(10 ^ 62) ≤ b ∧ b ≤ 10 ^ 62) : Shw (fr a b) := ⟨okR_fr ha hb, by simp [PyData.bulk, PyData.bulkAll], by simp [PyData.depth, PyData.depthAll]⟩
theorem shw_pair {x y : Dt} (h1 : OkR x) (h2 : OkR y) (hb : x.bulk + y.bulk ≤ 14000) (hd1 : x.depth ≤ 50) (hd2 : y.depth ≤ 50) : Shw (.tuple [x, y]) := by
  refine ⟨okR_tup (okRs_cons h1 (okRs_cons h2 okRs_nil)), ?_, ?_⟩
  · simp only [PyData.bulk, PyData.bulkAll]; omega
  · simp only [PyData.depth, PyData.depthAll]; omega
theorem shw_two {a b c d : Int} (ha : -(10 ^ 62) ≤ a ∧ a ≤ 10 ^ 62) (hb : -(10 ^ 62) ≤ b ∧ b ≤ 10 ^ 62) (hc : -(10 ^ 62) ≤ c ∧ c ≤ 10 ^ 62) (hd : -(10 ^ 62) ≤ d ∧ d ≤ 10 ^ 62) : Shw (.tuple [fr a b, fr c d]) :=
  shw_pair (okR_fr ha hb) (okR_fr hc hd) (by simp [PyData.bulk, PyData.bulkAll]) (by simp [PyData.depth, PyData.depthAll]) (by simp [PyData.depth, PyData.depthAll])
end Lw
set_option Elab.async false
set_option linter.all false
set_option maxRecDepth 100000
set_option maxHeartbeats 4000000
/-! Mo: odd things. -/
namespace Lw
open PySem L2 Sb
theorem need_odd {x : Dt} (h : m_is_bound [x] = .ok (.d (.bool false))) : m_need_bound [x] = .exc "BadFraction" := by
  unfold m_need_bound F_need_bound
  simp [h]
/-- what is no number among -/
def NoNum (x : Dt) (lo hi : Int) : Prop := m_is_among [x, .int lo, .int hi] = .ok (.d (.bool false))
/-! ### odd things -/
structure Odd (x : Dt) : Prop where
  b : m_is_bound [x] = .ok (.d (.bool false))
  f : m_is_fraction [x] = .ok (.d (.bool false))
theorem odd_pair {x : Dt} (h : m_is_pair [x] = .ok (.d (.bool false))) : Odd x := by
  have f : m_is_fraction [x] = .ok (.d (.bool false)) := by
    unfold m_is_fraction F_is_fraction
    simp [h]
  refine ⟨?_, f⟩
  unfold m_is_bound F_is_bound
  simp [h, f]
theorem pair_no {x : Dt} {n : String} (ht : tyn x = some n) (h : n ≠ "tuple") : m_is_pair [x] = .ok (.d (.bool false)) := by
  unfold m_is_pair F_is_pair
  cases x with
  | dict kvs =>
    cases kvs with
    | nil => simp
    | cons a b => simp [tyn] at ht
  | tuple xs => simp [tyn] at ht; exact absurd ht.symm h
  | _ => simp
theorem pair_len {xs : List Dt} (h : xs.length ≠ 2) : m_is_pair [.tuple xs] = .ok (.d (.bool false)) := by
  have h2 : ¬((xs.length : Int) = 2) := by omega
  unfold m_is_pair F_is_pair
  simp [h2]
theorem pair_1 {x y : Dt} (h : NoNum x 0 1000000000000000000000000000000000000000000000000000000000000) : m_is_pair [.tuple [x, y]] = .ok (.d (.bool false)) := by
  unfold NoNum at h
  unfold m_is_pair F_is_pair
  simp [c_GREATEST, h]
theorem pair_2 {a : Int} {y : Dt} (h : NoNum y 0 1000000000000000000000000000000000000000000000000000000000000) : m_is_pair [.tuple [.int a, y]] = .ok (.d (.bool false)) := by
  unfold NoNum at h
  unfold m_is_pair F_is_pair
  by_cases h1 : 0 ≤ a <;> by_cases h2 : a ≤ 1000000000000000000000000000000000000000000000000000000000000 <;> simp [c_GREATEST, among_int, h, h1, h2]
theorem nonum_int {i lo hi : Int} (h : i < lo ∨ hi < i) : NoNum (.int i) lo hi := by
  unfold NoNum
  rw [among_int]
  congr 3
  rcases h with h | h
  · have : ¬(lo ≤ i) := by omega
    simp [this]
  · have : ¬(i ≤ hi) := by omega
    simp [this]
theorem nonum_odd {x : Dt} {n : String} {lo hi : Int} (ht : tyn x = some n) (h : isInt x = false) : NoNum x lo hi := among_odd lo hi ht h
theorem odd_low {a b : Int} (ha : 0 ≤ a ∧ a ≤ 1000000000000000000000000000000000000000000000000000000000000) (hb : 0 ≤ b ∧ b ≤ 1000000000000000000000000000000000000000000000000000000000000) (h : (0 < a ∧ 0 < b ∧ Int.gcd a b ≠ 1) ∨ (a = 0 ∧ b ≠ 1) ∨ (b = 0 ∧ a ≠ 1)) : Odd (fr a b) := by
  have d := divisor_is ha.1 hb.1
  have f : m_is_fraction [fr a b] = .ok (.d (.bool false)) := by
    unfold m_is_fraction F_is_fraction
    rcases h with h | h | h
    · have g : ¬((Int.gcd a b : Int) = 1) := fun e => h.2.2 (by exact_mod_cast e)
      simp [pair_is, ha, hb, h.1, h.2.1, d, g]
    · simp [pair_is, ha, hb, h.1]
    · simp [pair_is, ha, hb, h.1]
  refine ⟨?_, f⟩
  have n1 : (decide (a = 0) && decide (b = 1)) = false := by
    rcases Classical.em (a = 0) with t | t
    · have : ¬(b = 1) := by rcases h with h | h | h <;> omega
      simp [this]
    · simp [t]
  have n2 : (decide (a = 1) && decide (b = 0)) = false := by
    rcases Classical.em (b = 0) with t | t
    · have : ¬(a = 1) := by rcases h with h | h | h <;> omega
      simp [this]
    · simp [t]
  unfold m_is_bound F_is_bound
  simp [f, pair_is, ha, hb, c_NOUGHT, c_NO_END, eq_fr, n1, n2]
theorem word_ne (x : Str) (h : PyData.strOk x = true) : neD (.str x) (.str x) = .ok (.bool false) := by
  rw [ne_str h h]; simp
theorem word_eq (x : Str) (h : PyData.strOk x = true) : eqD (.str x) (.str x) = .ok (.bool true) := by
  rw [eq_str h h]; simp
theorem log_small {i : Int} (h : -(10 ^ 62) ≤ i ∧ i ≤ 10 ^ 62) : i.natAbs.log2 < 1920 := by
  have a : i.natAbs < 10 ^ 63 := by omega
  rcases Nat.eq_zero_or_pos i.natAbs with z | z
  · rw [z]; decide
  · exact (Nat.log2_lt (by omega)).mpr (Nat.lt_of_lt_of_le a (by decide +kernel))
theorem str_is {i : Int} (h : -(10 ^ 62) ≤ i ∧ i ≤ 10 ^ 62) : strD (.int i) = .ok (.str (Str.ofString (toString i))) := by
  show (if i.natAbs.log2 < 1920 then Rs.ok (PyData.str (Str.ofString (toString i))) else .bad) = _
  rw [if_pos (log_small h)]
end Lw
set_option Elab.async false
set_option linter.all false
set_option maxRecDepth 100000
set_option maxHeartbeats 4000000
/-! printed by gen.py: the defs of simplebetween_k12_refused, what they compute, and that they do -/
namespace Lw
open PySem L2 Sb
def tops (i : Nat) : Stmt := PySem.Challenge.pw_simplebetween_k12_refused.main.body.getD i (.Pass ⟨0, 0, 0, 0⟩)
abbrev s_is_among : Stmt := tops 13
abbrev s_divisor : Stmt := tops 14
abbrev s_is_pair : Stmt := tops 15
abbrev s_is_fraction : Stmt := tops 16
abbrev s_is_bound : Stmt := tops 17
abbrev s_need_bound : Stmt := tops 18
abbrev s_less : Stmt := tops 19
abbrev s_need_number : Stmt := tops 22
abbrev s_need_in : Stmt := tops 23
abbrev s_row_of : Stmt := tops 24
abbrev s_counts_below : Stmt := tops 25
abbrev s_size_of : Stmt := tops 26
abbrev s_place_of : Stmt := tops 27
abbrev s_next_one : Stmt := tops 28
abbrev s_one_ahead : Stmt := tops 29
abbrev s_at_place : Stmt := tops 30
abbrev s_stepped : Stmt := tops 33
abbrev s_middle : Stmt := tops 34
abbrev s_is_run : Stmt := tops 35
abbrev s_is_road : Stmt := tops 36
abbrev s_up_to : Stmt := tops 38
abbrev s_down_to : Stmt := tops 39
abbrev s_simplest : Stmt := tops 40
abbrev s_need_asked : Stmt := tops 42
abbrev s_room_for : Stmt := tops 43
abbrev s_fewer : Stmt := tops 44
abbrev s_low_high : Stmt := tops 45
abbrev s_nearest : Stmt := tops 46
abbrev s_bound_text : Stmt := tops 48
abbrev s_road_text : Stmt := tops 49
abbrev s__law_mixed : Stmt := tops 51
abbrev s__law_number : Stmt := tops 52
abbrev s__law_kind : Stmt := tops 53
abbrev s__law_called : Stmt := tops 54
abbrev s__law_word : Stmt := tops 55
abbrev s__law_no_bound : Stmt := tops 56
abbrev s__law_bounds_right : Stmt := tops 57
abbrev s__law_numbers_right : Stmt := tops 58
abbrev s__law_there_right : Stmt := tops 59
abbrev s_law : Stmt := tops 60
/-- what the top has written -/
structure Txt (K : PySem.W.Frag) (mg : Str → Option Value) (C_FractionError C_BadFraction C_BadNumber C_BadOrder C_BadRoad C_BadText C_NotThere C_TooGreat : Addr) : Prop where
  b_ValueError : mg "ValueError" = none
  b_all : mg "all" = none
  b_bool : mg "bool" = none
  b_int : mg "int" = none
  b_isinstance : mg "isinstance" = none
  b_len : mg "len" = none
  b_list : mg "list" = none
  b_max : mg "max" = none
  b_min : mg "min" = none
  b_range : mg "range" = none
  b_str : mg "str" = none
  b_sum : mg "sum" = none
  b_tuple : mg "tuple" = none
  b_zip : mg "zip" = none
  g_GREATEST : GlK K mg "GREATEST" c_GREATEST
  g_MOST_NUMBER : GlK K mg "MOST_NUMBER" c_MOST_NUMBER
  g_NOUGHT : GlK K mg "NOUGHT" c_NOUGHT
  g_NO_END : GlK K mg "NO_END" c_NO_END
  g_STEPS : GlK K mg "STEPS" c_STEPS
  rr : True
  r_BadFraction : RaiseK K mg "BadFraction" C_BadFraction
  r_BadNumber : RaiseK K mg "BadNumber" C_BadNumber
  r_BadOrder : RaiseK K mg "BadOrder" C_BadOrder
  r_BadRoad : RaiseK K mg "BadRoad" C_BadRoad
  r_NotThere : RaiseK K mg "NotThere" C_NotThere
  r_TooGreat : RaiseK K mg "TooGreat" C_TooGreat
  n_FractionError : mg "FractionError" = some (.ref C_FractionError)
  n_BadFraction : mg "BadFraction" = some (.ref C_BadFraction)
  n_BadNumber : mg "BadNumber" = some (.ref C_BadNumber)
  n_BadOrder : mg "BadOrder" = some (.ref C_BadOrder)
  n_BadRoad : mg "BadRoad" = some (.ref C_BadRoad)
  n_BadText : mg "BadText" = some (.ref C_BadText)
  n_NotThere : mg "NotThere" = some (.ref C_NotThere)
  n_TooGreat : mg "TooGreat" = some (.ref C_TooGreat)
  i_BadFraction : ExcK K mg exCs "BadFraction" (.ref C_BadFraction)
  i_BadNumber : ExcK K mg exCs "BadNumber" (.ref C_BadNumber)
  i_BadOrder : ExcK K mg exCs "BadOrder" (.ref C_BadOrder)
  i_BadRoad : ExcK K mg exCs "BadRoad" (.ref C_BadRoad)
  i_BadText : ExcK K mg exCs "BadText" (.ref C_BadText)
  i_NotThere : ExcK K mg exCs "NotThere" (.ref C_NotThere)
  i_TooGreat : ExcK K mg exCs "TooGreat" (.ref C_TooGreat)
  i_ValueError : ExcK K mg exCs "ValueError" (.type "ValueError")
  t_FractionError : TryK K mg exCs "FractionError" C_FractionError
noncomputable def F__law_word : Sm := (sSeq (sSet 3 (cn .none))
(sSeq (sTry exCs 4 3
(sDrop (calE m__law_called (csA (vr 0) (csA (vr 1) (csA (vr 2) nlA))))))
(sRet (ifE (tst (ap1 (fun x => .ok (.bool (isNone x))) (vr 3))) (cn (.str "")) (calE m__law_kind (csA (vr 3) nlA))))))
noncomputable def m__law_word : List Dt → Rs Sl := runF 3 5 F__law_word
noncomputable def F__law_bounds_right : Sm := (sSeq (sSet 2 (ap2 ixD (lsE (csA (tpE (csA (cn (.int 1)) (csA (cn (.int 2)) nlA))) (csA (cn .none) (csA (cn (.int 5)) (csA (cn (.str "x")) nlA))))) (ap2 modD (vr 1) (cn (.int 4)))))
(sSeq (sIf (orT (tst (ap2 neD (calE m__law_word (csA (cn (.int 0)) (csA (vr 0) (csA (vr 2) nlA)))) (cn (.str "fraction")))) (tst (ap2 neD (calE m__law_word (csA (cn (.int 0)) (csA (tpE (csA (cn (.int 1)) (csA (cn (.int 2)) nlA))) (csA (vr 0) nlA)))) (cn (.str "fraction")))))
(sRet (cn (.bool false)))
sNil)
(sSeq (sFor (asT (tpE (csA (cn (.int 1)) (csA (cn (.int 2)) (csA (cn (.int 3)) (csA (cn (.int 4)) (csA (cn (.int 5)) nlA))))))) (gt1 3)
(sIf (tst (ap2 neD (calE m__law_word (csA (vr 3) (csA (vr 0) (csA (ap2 ixD (lsE (csA (cn (.int 7)) (csA (cn .none) (csA (cn (.int 0)) (csA (cn (.str "7")) nlA))))) (ap2 modD (vr 1) (cn (.int 4)))) nlA)))) (cn (.str "fraction"))))
(sRet (cn (.bool false)))
sNil))
(sRet (anV (ap2 eqD (calE m__law_word (csA (cn (.int 9)) (csA (vr 0) (csA (cn .none) nlA)))) (cn (.str "fraction"))) (ap2 eqD (calE m__law_word (csA (cn (.int 9)) (csA (tpE (csA (cn (.int 0)) (csA (cn (.int 1)) nlA))) (csA (cn .none) nlA)))) (cn (.str ""))))))))
noncomputable def m__law_bounds_right : List Dt → Rs Sl := runF 2 4 F__law_bounds_right
noncomputable def F__law_numbers_right : Sm := (sSeq (sFor (asT (tpE (csA (cn (.int 1)) (csA (cn (.int 2)) nlA)))) (gt1 2)
(sSeq (sIf (orT (tst (ap2 neD (calE m__law_word (csA (vr 2) (csA (tpE (csA (cn (.int 3)) (csA (cn (.int 7)) nlA))) (csA (vr 0) nlA)))) (cn (.str "number")))) (tst (ap2 neD (calE m__law_word (csA (vr 2) (csA (tpE (csA (cn (.int 1)) (csA (cn (.int 0)) nlA))) (csA (ap2 ixD (lsE (csA (cn (.int 5)) (csA (vr 0) nlA))) (ap2 modD (vr 1) (cn (.int 2)))) nlA)))) (cn (.str "fraction")))))
(sRet (cn (.bool false)))
sNil)
(sIf (orT (tst (ap2 neD (calE m__law_word (csA (vr 2) (csA (tpE (csA (cn (.int 3)) (csA (cn (.int 7)) nlA))) (csA (ap2 powD (cn (.int 10)) (cn (.int 60))) nlA)))) (cn (.str "")))) (tst (ap2 neD (calE m__law_word (csA (vr 2) (csA (tpE (csA (cn (.int 3)) (csA (cn (.int 7)) nlA))) (csA (ap2 addD (ap2 addD (ap2 powD (cn (.int 10)) (cn (.int 60))) (cn (.int 1))) (vr 1)) nlA)))) (cn (.str "number")))))
(sRet (cn (.bool false)))
sNil)))
(sSeq (sFor (asT (tpE (csA (cn (.int 3)) (csA (cn (.int 4)) (csA (cn (.int 5)) (csA (cn (.int 6)) (csA (cn (.int 7)) (csA (cn (.int 8)) nlA)))))))) (gt1 2)
(sSeq (sSet 3 (ap2 ixD (lsE (csA (tpE (csA (cn (.int 1)) (csA (cn (.int 2)) nlA))) (csA (cn (.int 1)) nlA))) (apA (un1 itD) (csA (ap2 eqD (vr 2) (cn (.int 6))) nlA))))
(sSeq (sIf (orT (tst (ap2 neD (calE m__law_word (csA (vr 2) (csA (vr 3) (csA (vr 0) nlA)))) (cn (.str "number")))) (tst (ap2 neD (calE m__law_word (csA (vr 2) (csA (vr 3) (csA (ap2 addD (cn (.int 61)) (vr 1)) nlA)))) (cn (.str "number")))))
(sRet (cn (.bool false)))
sNil)
(sIf (tst (ap2 neD (calE m__law_word (csA (vr 2) (csA (vr 3) (csA (cn (.int 60)) nlA)))) (cn (.str ""))))
(sRet (cn (.bool false)))
sNil))))
(sSeq (sFor (asT (tpE (csA (tpE (csA (cn (.int 2)) (csA (cn (.int 1)) nlA))) (csA (tpE (csA (cn (.int 1)) (csA (cn (.int 1)) nlA))) (csA (tpE (csA (cn (.int 0)) (csA (cn (.int 1)) nlA))) (csA (tpE (csA (cn (.int 1)) (csA (cn (.int 0)) nlA))) nlA)))))) (gt1 3)
(sIf (tst (ap2 neD (lcE (asT (tpE (csA (cn (.int 3)) (csA (cn (.int 4)) (csA (cn (.int 5)) nlA))))) (gt1 2) yesT (calE m__law_word (csA (vr 2) (csA (vr 3) (csA (vr 0) nlA)))) [2]) (ap2 mulD (lsE (csA (cn (.str "number")) nlA)) (cn (.int 3)))))
(sRet (cn (.bool false)))
sNil))
(sRet (ap2 eqD (calE m__law_word (csA (cn (.int 6)) (csA (cn .none) (csA (vr 0) nlA)))) (cn (.str "number")))))))
noncomputable def m__law_numbers_right : List Dt → Rs Sl := runF 2 4 F__law_numbers_right
noncomputable def F__law_there_right : Sm := (sSeq (sSet 2 (ap2 ixD (lsE (csA (tpE (csA (cn (.int 1)) (csA (ap2 addD (ap2 addD (vr 0) (cn (.int 1))) (vr 1)) nlA))) (csA (tpE (csA (ap2 addD (vr 0) (cn (.int 2))) (csA (ap2 addD (vr 0) (cn (.int 1))) nlA))) (csA (tpE (csA (cn (.int 2)) (csA (cn (.int 1)) nlA))) (csA (tpE (csA (cn (.int 1)) (csA (cn (.int 0)) nlA))) (csA (tpE (csA (ap2 addD (vr 0) (cn (.int 1))) (csA (vr 0) nlA))) nlA)))))) (ap2 modD (vr 1) (cn (.int 5)))))
(sSeq (sFor (asT (tpE (csA (cn (.int 3)) (csA (cn (.int 4)) (csA (cn (.int 5)) nlA))))) (gt1 3)
(sIf (tst (ap2 neD (calE m__law_word (csA (vr 3) (csA (vr 2) (csA (vr 0) nlA)))) (cn (.str "there"))))
(sRet (cn (.bool false)))
sNil))
(sSeq (sIf (orT (tst (ap2 neD (calE m__law_word (csA (cn (.int 4)) (csA (tpE (csA (cn (.int 1)) (csA (cn (.int 1)) nlA))) (csA (vr 0) nlA)))) (cn (.str "there")))) (tst (ap2 neD (calE m__law_word (csA (cn (.int 5)) (csA (tpE (csA (cn (.int 0)) (csA (cn (.int 1)) nlA))) (csA (vr 0) nlA)))) (cn (.str "there")))))
(sRet (cn (.bool false)))
sNil)
(sSeq (sSet 4 (calE m_size_of (csA (vr 0) nlA)))
(sSeq (sFor (asL (lsE (csA (ap2 subD (ap1 negD (cn (.int 1))) (vr 1)) (csA (vr 4) (csA (ap2 addD (vr 4) (vr 1)) (csA (cn .none) (csA (cn (.bool true)) (csA (cn (.str "0")) (csA (lsE (csA (cn (.int 0)) nlA)) (csA (cn (.bool false)) nlA)))))))))) (gt1 5)
(sIf (tst (ap2 neD (calE m__law_word (csA (cn (.int 6)) (csA (vr 5) (csA (vr 0) nlA)))) (cn (.str "there"))))
(sRet (cn (.bool false)))
sNil))
(sRet (anV (ap2 eqD (calE m__law_word (csA (cn (.int 6)) (csA (cn (.int 0)) (csA (vr 0) nlA)))) (cn (.str ""))) (ap2 eqD (calE m__law_word (csA (cn (.int 6)) (csA (ap2 subD (vr 4) (cn (.int 1))) (csA (vr 0) nlA)))) (cn (.str ""))))))))))
noncomputable def m__law_there_right : List Dt → Rs Sl := runF 2 6 F__law_there_right
noncomputable def F_law : Sm := (sSeq (sFor (rg1 (csA (ap2 addD (cn (.int 1)) (apA (un2 mnD) (csA (cn (.int 30)) (csA (apA (un1 lenD) (csA (vr 0) nlA)) nlA)))) nlA)) (gt1 1)
(sSeq (sSet 2 (calE m__law_number (csA (vr 0) (csA (ap2 mulD (cn (.int 3)) (vr 1)) nlA))))
(sSeq (sIf (ntT (tst (calE m__law_bounds_right (csA (calE m__law_no_bound (csA (ap2 divD (vr 2) (cn (.int 4))) nlA)) (csA (vr 2) nlA)))))
(sRet (cn (.bool false)))
sNil)
(sSeq (sSet 3 (ap2 ixD (lsE (csA (cn (.int 0)) (csA (ap2 subD (ap1 negD (cn (.int 1))) (vr 2)) (csA (cn .none) (csA (cn (.bool true)) (csA (cn (.bool false)) (csA (cn (.str "5")) (csA (lsE (csA (cn (.int 5)) nlA)) (csA (tpE (csA (cn (.int 5)) nlA)) (csA (cn (.dict [])) nlA)))))))))) (ap2 modD (ap2 divD (vr 2) (cn (.int 100))) (cn (.int 9)))))
(sSeq (sIf (ntT (tst (calE m__law_numbers_right (csA (vr 3) (csA (vr 2) nlA)))))
(sRet (cn (.bool false)))
sNil)
(sSeq (sSet 4 (calE m__law_number (csA (vr 0) (csA (ap2 addD (ap2 mulD (cn (.int 3)) (vr 1)) (cn (.int 1))) nlA))))
(sSeq (sIf (ntT (tst (calE m__law_there_right (csA (ap2 addD (cn (.int 1)) (ap2 modD (ap2 divD (vr 4) (cn (.int 1000))) (cn (.int 20)))) (csA (ap2 modD (vr 4) (cn (.int 1000))) nlA)))))
(sRet (cn (.bool false)))
sNil)
(sSeq (sSet 5 (ap2 ixD (lsE (csA (cn .none) (csA (cn (.int 5)) (csA (cn (.str "L1")) (csA (tpE (csA (cn (.str "L")) (csA (cn (.int 1)) nlA))) (csA (lsE (csA (tpE (csA (cn (.str "L")) (csA (cn (.int 0)) nlA))) nlA)) (csA (lsE (csA (tpE (csA (cn (.str "L")) (csA (cn (.int 1)) nlA))) (csA (tpE (csA (cn (.str "L")) (csA (cn (.int 2)) nlA))) nlA))) (csA (lsE (csA (tpE (csA (cn (.str "l")) (csA (cn (.int 1)) nlA))) nlA)) (csA (cn (.dict [])) nlA))))))))) (ap2 modD (ap2 divD (vr 4) (cn (.int 9))) (cn (.int 8)))))
(sIf (orT (tst (ap2 neD (calE m__law_word (csA (cn (.int 10)) (csA (vr 5) (csA (cn .none) nlA)))) (cn (.str "road")))) (tst (ap2 neD (calE m__law_word (csA (cn (.int 10)) (csA (lsE (csA (tpE (csA (cn (.str "L")) (csA (cn (.int 1)) nlA))) nlA)) (csA (cn .none) nlA)))) (cn (.str "")))))
(sRet (cn (.bool false)))
sNil)))))))))
(sRet (cn (.bool true))))
noncomputable def m_law : List Dt → Rs Sl := runF 1 6 F_law
section
variable {P : Program} {w : World} {K : PySem.W.Frag} {mg : Str → Option Value} {base : Heap} {C_FractionError C_BadFraction C_BadNumber C_BadOrder C_BadRoad C_BadText C_NotThere C_TooGreat : Addr}
theorem sc_is_among : FnScope ["thing", "least", "most"] ["thing", "least", "most"] (defScope s_is_among) := ⟨rfl, rfl, rfl, by decide +kernel, rfl, by decide +kernel, by decide +kernel⟩
theorem ok_is_among {f : Addr} {fd : FuncData} (T : Txt K mg C_FractionError C_BadFraction C_BadNumber C_BadOrder C_BadRoad C_BadText C_NotThere C_TooGreat)  (F : Fun K "is_among" "is_among" s_is_among f fd) (hm : mg "is_among" = some (.ref f)) : DefOk P w K mg base 1 "is_among" 3 m_is_among :=
  def_ok (S := F_is_among) F sc_is_among hm (F.binds fun _ _ _ _ _ _ us hl => match us, hl with | [_, _, _], _ => rfl) fun cdv A outer s H E C =>
(ds_one (dd_ret (pd_and (pd_isi T.b_isinstance T.b_int bt_int (pd_var 0)) (pd_and (pd_not (pd_isi T.b_isinstance T.b_bool bt_bool (pd_var 0))) (pd_one (pd_chain op_le cmp_s op_le cmp_s (pd_var 1) (pd_var 0) (pd_var 2)))))))
theorem sc_divisor : FnScope ["one", "other"] ["one", "other"] (defScope s_divisor) := ⟨rfl, rfl, rfl, by decide +kernel, rfl, by decide +kernel, by decide +kernel⟩
theorem ok_divisor {f : Addr} {fd : FuncData} (T : Txt K mg C_FractionError C_BadFraction C_BadNumber C_BadOrder C_BadRoad C_BadText C_NotThere C_TooGreat)  (F : Fun K "divisor" "divisor" s_divisor f fd) (hm : mg "divisor" = some (.ref f)) : DefOk P w K mg base 1 "divisor" 2 m_divisor :=
  def_ok (S := F_divisor) F sc_divisor hm (F.binds fun _ _ _ _ _ _ us hl => match us, hl with | [_, _], _ => rfl) fun cdv A outer s H E C =>
(ds_cons (dd_wh C (pt_cmp' op_gt cmp_s (pd_var 1) pd_int)
(ds_one (dd_par C 0 1 (pn_cons (pd_var 1) (pn_cons (pd_op modR mod_s (pd_var 0) (pd_var 1)) pn_nil)))))
(ds_one (dd_ret (pd_var 0))))
theorem sc_is_pair : FnScope ["thing"] ["thing"] (defScope s_is_pair) := ⟨rfl, rfl, rfl, by decide +kernel, rfl, by decide +kernel, by decide +kernel⟩
theorem ok_is_pair {f : Addr} {fd : FuncData} (T : Txt K mg C_FractionError C_BadFraction C_BadNumber C_BadOrder C_BadRoad C_BadText C_NotThere C_TooGreat) (D_is_among : DefOk P w K mg base 1 "is_among" 3 m_is_among) (F : Fun K "is_pair" "is_pair" s_is_pair f fd) (hm : mg "is_pair" = some (.ref f)) : DefOk P w K mg base 2 "is_pair" 1 m_is_pair :=
  def_ok (S := F_is_pair) F sc_is_pair hm (F.binds fun _ _ _ _ _ _ us hl => match us, hl with | [_], _ => rfl) fun cdv A outer s H E C =>
(ds_cons (dd_if (pq (pq_or (pq_not (pt_v (pd_isi T.b_isinstance T.b_tuple bt_tuple (pd_var 0)))) (pq_or1 (pt_cmp' (neR C.hu) ne_s (pd_blt lenR len_s T.b_len bt_len (pn_cons (pd_var 0) pn_nil)) pd_int))))
(ds_one (dd_ret pd_bl))
ds_nil)
(ds_one (dd_ret (pd_and (pd_call C D_is_among (by decide) (fun _ => runF_len) (pn_cons (pd_ix (pd_var 0) pd_int) (pn_cons pd_int (pn_cons (pd_glob T.g_GREATEST) pn_nil)))) (pd_one (pd_call C D_is_among (by decide) (fun _ => runF_len) (pn_cons (pd_ix (pd_var 0) pd_int) (pn_cons pd_int (pn_cons (pd_glob T.g_GREATEST) pn_nil)))))))))
theorem sc_is_fraction : FnScope ["thing"] ["thing"] (defScope s_is_fraction) := ⟨rfl, rfl, rfl, by decide +kernel, rfl, by decide +kernel, by decide +kernel⟩
theorem ok_is_fraction {f : Addr} {fd : FuncData} (T : Txt K mg C_FractionError C_BadFraction C_BadNumber C_BadOrder C_BadRoad C_BadText C_NotThere C_TooGreat) (D_is_pair : DefOk P w K mg base 2 "is_pair" 1 m_is_pair) (D_divisor : DefOk P w K mg base 1 "divisor" 2 m_divisor) (F : Fun K "is_fraction" "is_fraction" s_is_fraction f fd) (hm : mg "is_fraction" = some (.ref f)) : DefOk P w K mg base 3 "is_fraction" 1 m_is_fraction :=
  def_ok (S := F_is_fraction) F sc_is_fraction hm (F.binds fun _ _ _ _ _ _ us hl => match us, hl with | [_], _ => rfl) fun cdv A outer s H E C =>
(ds_one (dd_ret (pd_and (pd_call C D_is_pair (by decide) (fun _ => runF_len) (pn_cons (pd_var 0) pn_nil)) (pd_and (pd_cmp op_gt cmp_s (pd_ix (pd_var 0) pd_int) pd_int) (pd_and (pd_cmp op_gt cmp_s (pd_ix (pd_var 0) pd_int) pd_int) (pd_one (pd_cmp (eqR C.hu) eq_s (pd_call C D_divisor (by decide) (fun _ => runF_len) (pn_cons (pd_ix (pd_var 0) pd_int) (pn_cons (pd_ix (pd_var 0) pd_int) pn_nil))) pd_int)))))))
theorem sc_is_bound : FnScope ["thing"] ["thing"] (defScope s_is_bound) := ⟨rfl, rfl, rfl, by decide +kernel, rfl, by decide +kernel, by decide +kernel⟩
theorem ok_is_bound {f : Addr} {fd : FuncData} (T : Txt K mg C_FractionError C_BadFraction C_BadNumber C_BadOrder C_BadRoad C_BadText C_NotThere C_TooGreat) (D_is_fraction : DefOk P w K mg base 3 "is_fraction" 1 m_is_fraction) (D_is_pair : DefOk P w K mg base 2 "is_pair" 1 m_is_pair) (F : Fun K "is_bound" "is_bound" s_is_bound f fd) (hm : mg "is_bound" = some (.ref f)) : DefOk P w K mg base 4 "is_bound" 1 m_is_bound :=
  def_ok (S := F_is_bound) F sc_is_bound hm (F.binds fun _ _ _ _ _ _ us hl => match us, hl with | [_], _ => rfl) fun cdv A outer s H E C =>
(ds_one (dd_ret (pd_or (pd_call C D_is_fraction (by decide) (fun _ => runF_len) (pn_cons (pd_var 0) pn_nil)) (pd_one (pd_and (pd_call C D_is_pair (by decide) (fun _ => runF_len) (pn_cons (pd_var 0) pn_nil)) (pd_one (pd_or (pd_cmp (eqR C.hu) eq_s (pd_var 0) (pd_glob T.g_NOUGHT)) (pd_one (pd_cmp (eqR C.hu) eq_s (pd_var 0) (pd_glob T.g_NO_END))))))))))
theorem sc_need_bound : FnScope ["thing"] ["thing"] (defScope s_need_bound) := ⟨rfl, rfl, rfl, by decide +kernel, rfl, by decide +kernel, by decide +kernel⟩
theorem ok_need_bound {f : Addr} {fd : FuncData} (T : Txt K mg C_FractionError C_BadFraction C_BadNumber C_BadOrder C_BadRoad C_BadText C_NotThere C_TooGreat) (D_is_bound : DefOk P w K mg base 4 "is_bound" 1 m_is_bound) (F : Fun K "need_bound" "need_bound" s_need_bound f fd) (hm : mg "need_bound" = some (.ref f)) : DefOk P w K mg base 5 "need_bound" 1 m_need_bound :=
  def_ok (S := F_need_bound) F sc_need_bound hm (F.binds fun _ _ _ _ _ _ us hl => match us, hl with | [_], _ => rfl) fun cdv A outer s H E C =>
(ds_one (dd_if (pq_not (pt_v (pd_call C D_is_bound (by decide) (fun _ => runF_len) (pn_cons (pd_var 0) pn_nil))))
(ds_one (dd_raise C T.r_BadFraction.ok))
ds_nil))
theorem sc_less : FnScope ["one", "other"] ["one", "other"] (defScope s_less) := ⟨rfl, rfl, rfl, by decide +kernel, rfl, by decide +kernel, by decide +kernel⟩
theorem ok_less {f : Addr} {fd : FuncData} (T : Txt K mg C_FractionError C_BadFraction C_BadNumber C_BadOrder C_BadRoad C_BadText C_NotThere C_TooGreat)  (F : Fun K "less" "less" s_less f fd) (hm : mg "less" = some (.ref f)) : DefOk P w K mg base 1 "less" 2 m_less :=
  def_ok (S := F_less) F sc_less hm (F.binds fun _ _ _ _ _ _ us hl => match us, hl with | [_, _], _ => rfl) fun cdv A outer s H E C =>
(ds_one (dd_ret (pd_cmp op_lt cmp_s (pd_op mulR mul_s (pd_ix (pd_var 0) pd_int) (pd_ix (pd_var 1) pd_int)) (pd_op mulR mul_s (pd_ix (pd_var 1) pd_int) (pd_ix (pd_var 0) pd_int)))))
theorem sc_need_number : FnScope ["number"] ["number"] (defScope s_need_number) := ⟨rfl, rfl, rfl, by decide +kernel, rfl, by decide +kernel, by decide +kernel⟩
theorem ok_need_number {f : Addr} {fd : FuncData} (T : Txt K mg C_FractionError C_BadFraction C_BadNumber C_BadOrder C_BadRoad C_BadText C_NotThere C_TooGreat) (D_is_among : DefOk P w K mg base 1 "is_among" 3 m_is_among) (F : Fun K "need_number" "need_number" s_need_number f fd) (hm : mg "need_number" = some (.ref f)) : DefOk P w K mg base 2 "need_number" 1 m_need_number :=
  def_ok (S := F_need_number) F sc_need_number hm (F.binds fun _ _ _ _ _ _ us hl => match us, hl with | [_], _ => rfl) fun cdv A outer s H E C =>
(ds_one (dd_if (pq_not (pt_v (pd_call C D_is_among (by decide) (fun _ => runF_len) (pn_cons (pd_var 0) (pn_cons pd_int (pn_cons (pd_glob T.g_MOST_NUMBER) pn_nil))))))
(ds_one (dd_raise C T.r_BadNumber.ok))
ds_nil))
theorem sc_need_in : FnScope ["bound", "number"] ["bound", "number"] (defScope s_need_in) := ⟨rfl, rfl, rfl, by decide +kernel, rfl, by decide +kernel, by decide +kernel⟩
theorem ok_need_in {f : Addr} {fd : FuncData} (T : Txt K mg C_FractionError C_BadFraction C_BadNumber C_BadOrder C_BadRoad C_BadText C_NotThere C_TooGreat) (D_need_bound : DefOk P w K mg base 5 "need_bound" 1 m_need_bound) (D_need_number : DefOk P w K mg base 2 "need_number" 1 m_need_number) (F : Fun K "need_in" "need_in" s_need_in f fd) (hm : mg "need_in" = some (.ref f)) : DefOk P w K mg base 6 "need_in" 2 m_need_in :=
  def_ok (S := F_need_in) F sc_need_in hm (F.binds fun _ _ _ _ _ _ us hl => match us, hl with | [_, _], _ => rfl) fun cdv A outer s H E C =>
(ds_cons (dd_drop (pd_call C D_need_bound (by decide) (fun _ => runF_len) (pn_cons (pd_var 0) pn_nil)))
(ds_cons (dd_drop (pd_call C D_need_number (by decide) (fun _ => runF_len) (pn_cons (pd_var 1) pn_nil)))
(ds_one (dd_if (pq (pq_or (pq_not (pt_chn op_le cmp_s op_le cmp_s pd_int (pd_ix (pd_var 0) pd_int) (pd_var 1))) (pq_or1 (pt_cmp' op_gt cmp_s (pd_ix (pd_var 0) pd_int) (pd_ix (pd_var 0) pd_int)))))
(ds_one (dd_raise C T.r_NotThere.ok))
ds_nil))))
theorem sc_row_of : FnScope ["number", "found", "following", "before", "here", "times"] ["number"] (defScope s_row_of) := ⟨rfl, rfl, rfl, by decide +kernel, rfl, by decide +kernel, by decide +kernel⟩
theorem ok_row_of {f : Addr} {fd : FuncData} (T : Txt K mg C_FractionError C_BadFraction C_BadNumber C_BadOrder C_BadRoad C_BadText C_NotThere C_TooGreat) (D_need_number : DefOk P w K mg base 2 "need_number" 1 m_need_number) (F : Fun K "row_of" "row_of" s_row_of f fd) (hm : mg "row_of" = some (.ref f)) : DefOk P w K mg base 3 "row_of" 1 m_row_of :=
  def_ok (S := F_row_of) F sc_row_of hm (F.binds fun _ _ _ _ _ _ us hl => match us, hl with | [_], _ => rfl) fun cdv A outer s H E C =>
(ds_cons (dd_drop (pd_call C D_need_number (by decide) (fun _ => runF_len) (pn_cons (pd_var 0) pn_nil)))
(ds_cons (dd_setO C 1 (pn_cons (pd_tup (pn_cons pd_int (pn_cons pd_int pn_nil))) pn_nil))
(ds_cons (dd_set C 2 (pd_tup (pn_cons pd_int (pn_cons (pd_var 0) pn_nil))))
(ds_cons (dd_wh C (pt_cmp' (neR C.hu) ne_s (pd_owI 1 (pd_neg pd_int)) (pd_tup (pn_cons pd_int (pn_cons pd_int pn_nil))))
(ds_cons (dd_par C 3 4 (pn_cons (pd_owI 1 (pd_neg pd_int)) (pn_cons (pd_var 2) pn_nil)))
(ds_cons (dd_app 1 (pd_var 4) (pe_bm PySem.F.plainAttrs_list PySem.F.slot_list_append PySem.F.type_list_append mt_append (pv 1) (pa_cons (pd_var 4) pa_nil)))
(ds_cons (dd_set C 5 (pd_op op_fdivW div_s (pd_op addR add_s (pd_var 0) (pd_ix (pd_var 3) pd_int)) (pd_ix (pd_var 4) pd_int)))
(ds_one (dd_set C 2 (pd_tup (pn_cons (pd_op op_sub sub_s (pd_op mulR mul_s (pd_var 5) (pd_ix (pd_var 4) pd_int)) (pd_ix (pd_var 3) pd_int)) (pn_cons (pd_op op_sub sub_s (pd_op mulR mul_s (pd_var 5) (pd_ix (pd_var 4) pd_int)) (pd_ix (pd_var 3) pd_int)) pn_nil)))))))))
(ds_one (dd_retO 1))))))
theorem sc_counts_below : FnScope ["bound", "number", "found", "bottom", "all_tops", "part"] ["bound", "number"] (defScope s_counts_below) := ⟨rfl, rfl, rfl, by decide +kernel, rfl, by decide +kernel, by decide +kernel⟩
theorem ok_counts_below {f : Addr} {fd : FuncData} (T : Txt K mg C_FractionError C_BadFraction C_BadNumber C_BadOrder C_BadRoad C_BadText C_NotThere C_TooGreat)  (F : Fun K "counts_below" "counts_below" s_counts_below f fd) (hm : mg "counts_below" = some (.ref f)) : DefOk P w K mg base 1 "counts_below" 2 m_counts_below :=
  def_ok (S := F_counts_below) F sc_counts_below hm (F.binds fun _ _ _ _ _ _ us hl => match us, hl with | [_, _], _ => rfl) fun cdv A outer s H E C =>
(ds_cons (dd_setO C 2 (pn_cons pd_int pn_nil))
(ds_cons (dd_for C (pi_R2 T.b_range (pn_cons pd_int (pn_cons (pd_op addR add_s (pd_var 1) pd_int) pn_nil))) (gd_1 C.nd 3)
(ds_cons (dd_set C 4 (pd_op op_fdivW div_s (pd_op op_sub sub_s (pd_op addR add_s (pd_op mulR mul_s (pd_ix (pd_var 0) pd_int) (pd_var 3)) (pd_ix (pd_var 0) pd_int)) pd_int) (pd_ix (pd_var 0) pd_int)))
(ds_one (dd_app 2 (pd_op op_sub sub_s (pd_var 4) (pd_blt (cr_sum C.calm) sum_s T.b_sum bt_sum (pn_cons (pd_lc C (pi_R2 T.b_range (pn_cons pd_int (pn_cons (pd_var 3) pn_nil))) (tg_1 5) (blkOk_by (own := [("part", 5)]) (by show blkC ["bound", "number", "found", "bottom", "all_tops", "part"] (defScope s_counts_below) _ _ = true; decide +kernel)) rfl (fun _ _ _ _ _ => pg_name (i := 5) C.nd rfl (Or.inl rfl)) (fun s H Ca cl fp => (pts_1 (pt_cmp' (eqR (C.blk s H _ _ fp).hu) eq_s (pd_op modR mod_s (pd_var 3) (pd_var 5)) pd_int))) (fun s H Ca cl fp => (pd_owI 2 (pd_var 5)))) pn_nil))) (pe_bm PySem.F.plainAttrs_list PySem.F.slot_list_append PySem.F.type_list_append mt_append (pv 2) (pa_cons (pd_op op_sub sub_s (pd_var 4) (pd_blt (cr_sum C.calm) sum_s T.b_sum bt_sum (pn_cons (pd_lc C (pi_R2 T.b_range (pn_cons pd_int (pn_cons (pd_var 3) pn_nil))) (tg_1 5) (blkOk_by (own := [("part", 5)]) (by show blkC ["bound", "number", "found", "bottom", "all_tops", "part"] (defScope s_counts_below) _ _ = true; decide +kernel)) rfl (fun _ _ _ _ _ => pg_name (i := 5) C.nd rfl (Or.inl rfl)) (fun s H Ca cl fp => (pts_1 (pt_cmp' (eqR (C.blk s H _ _ fp).hu) eq_s (pd_op modR mod_s (pd_var 3) (pd_var 5)) pd_int))) (fun s H Ca cl fp => (pd_owI 2 (pd_var 5)))) pn_nil))) pa_nil))))))
(ds_one (dd_retO 2))))
theorem sc_size_of : FnScope ["number"] ["number"] (defScope s_size_of) := ⟨rfl, rfl, rfl, by decide +kernel, rfl, by decide +kernel, by decide +kernel⟩
theorem ok_size_of {f : Addr} {fd : FuncData} (T : Txt K mg C_FractionError C_BadFraction C_BadNumber C_BadOrder C_BadRoad C_BadText C_NotThere C_TooGreat) (D_need_number : DefOk P w K mg base 2 "need_number" 1 m_need_number) (D_counts_below : DefOk P w K mg base 1 "counts_below" 2 m_counts_below) (F : Fun K "size_of" "size_of" s_size_of f fd) (hm : mg "size_of" = some (.ref f)) : DefOk P w K mg base 3 "size_of" 1 m_size_of :=
  def_ok (S := F_size_of) F sc_size_of hm (F.binds fun _ _ _ _ _ _ us hl => match us, hl with | [_], _ => rfl) fun cdv A outer s H E C =>
(ds_cons (dd_drop (pd_call C D_need_number (by decide) (fun _ => runF_len) (pn_cons (pd_var 0) pn_nil)))
(ds_one (dd_ret (pd_op addR add_s pd_int (pd_blt (cr_sum C.calm) sum_s T.b_sum bt_sum (pn_cons (pd_call C D_counts_below (by decide) (fun _ => runF_len) (pn_cons (pd_tup (pn_cons pd_int (pn_cons pd_int pn_nil))) (pn_cons (pd_var 0) pn_nil))) pn_nil))))))
theorem sc_place_of : FnScope ["bound", "number"] ["bound", "number"] (defScope s_place_of) := ⟨rfl, rfl, rfl, by decide +kernel, rfl, by decide +kernel, by decide +kernel⟩
theorem ok_place_of {f : Addr} {fd : FuncData} (T : Txt K mg C_FractionError C_BadFraction C_BadNumber C_BadOrder C_BadRoad C_BadText C_NotThere C_TooGreat) (D_need_in : DefOk P w K mg base 6 "need_in" 2 m_need_in) (D_counts_below : DefOk P w K mg base 1 "counts_below" 2 m_counts_below) (F : Fun K "place_of" "place_of" s_place_of f fd) (hm : mg "place_of" = some (.ref f)) : DefOk P w K mg base 7 "place_of" 2 m_place_of :=
  def_ok (S := F_place_of) F sc_place_of hm (F.binds fun _ _ _ _ _ _ us hl => match us, hl with | [_, _], _ => rfl) fun cdv A outer s H E C =>
(ds_cons (dd_drop (pd_call C D_need_in (by decide) (fun _ => runF_len) (pn_cons (pd_var 0) (pn_cons (pd_var 1) pn_nil))))
(ds_one (dd_ret (pd_blt (cr_sum C.calm) sum_s T.b_sum bt_sum (pn_cons (pd_call C D_counts_below (by decide) (fun _ => runF_len) (pn_cons (pd_var 0) (pn_cons (pd_var 1) pn_nil))) pn_nil)))))
theorem sc_next_one : FnScope ["bound", "number", "bottom"] ["bound", "number"] (defScope s_next_one) := ⟨rfl, rfl, rfl, by decide +kernel, rfl, by decide +kernel, by decide +kernel⟩
theorem ok_next_one {f : Addr} {fd : FuncData} (T : Txt K mg C_FractionError C_BadFraction C_BadNumber C_BadOrder C_BadRoad C_BadText C_NotThere C_TooGreat) (D_need_in : DefOk P w K mg base 6 "need_in" 2 m_need_in) (F : Fun K "next_one" "next_one" s_next_one f fd) (hm : mg "next_one" = some (.ref f)) : DefOk P w K mg base 7 "next_one" 2 m_next_one :=
  def_ok (S := F_next_one) F sc_next_one hm (F.binds fun _ _ _ _ _ _ us hl => match us, hl with | [_, _], _ => rfl) fun cdv A outer s H E C =>
(ds_cons (dd_drop (pd_call C D_need_in (by decide) (fun _ => runF_len) (pn_cons (pd_var 0) (pn_cons (pd_var 1) pn_nil))))
(ds_cons (dd_if (pt_cmp' (eqR C.hu) eq_s (pd_var 0) (pd_tup (pn_cons pd_int (pn_cons pd_int pn_nil))))
(ds_one (dd_raise C T.r_NotThere.ok))
ds_nil)
(ds_cons (dd_set C 2 (pd_var 1))
(ds_cons (dd_wh C (pt_cmp' op_gt cmp_s (pd_op modR mod_s (pd_op addR add_s pd_int (pd_op mulR mul_s (pd_ix (pd_var 0) pd_int) (pd_var 2))) (pd_ix (pd_var 0) pd_int)) pd_int)
(ds_one (dd_aug C 2 ip_sub pd_int)))
(ds_one (dd_ret (pd_tup (pn_cons (pd_op op_fdivW div_s (pd_op addR add_s pd_int (pd_op mulR mul_s (pd_ix (pd_var 0) pd_int) (pd_var 2))) (pd_ix (pd_var 0) pd_int)) (pn_cons (pd_var 2) pn_nil)))))))))
theorem sc_one_ahead : FnScope ["bound", "number", "bottom"] ["bound", "number"] (defScope s_one_ahead) := ⟨rfl, rfl, rfl, by decide +kernel, rfl, by decide +kernel, by decide +kernel⟩
theorem ok_one_ahead {f : Addr} {fd : FuncData} (T : Txt K mg C_FractionError C_BadFraction C_BadNumber C_BadOrder C_BadRoad C_BadText C_NotThere C_TooGreat) (D_need_in : DefOk P w K mg base 6 "need_in" 2 m_need_in) (F : Fun K "one_ahead" "one_ahead" s_one_ahead f fd) (hm : mg "one_ahead" = some (.ref f)) : DefOk P w K mg base 7 "one_ahead" 2 m_one_ahead :=
  def_ok (S := F_one_ahead) F sc_one_ahead hm (F.binds fun _ _ _ _ _ _ us hl => match us, hl with | [_, _], _ => rfl) fun cdv A outer s H E C =>
(ds_cons (dd_drop (pd_call C D_need_in (by decide) (fun _ => runF_len) (pn_cons (pd_var 0) (pn_cons (pd_var 1) pn_nil))))
(ds_cons (dd_if (pt_cmp' (eqR C.hu) eq_s (pd_var 0) (pd_tup (pn_cons pd_int (pn_cons pd_int pn_nil))))
(ds_one (dd_raise C T.r_NotThere.ok))
ds_nil)
(ds_cons (dd_set C 2 (pd_var 1))
(ds_cons (dd_wh C (pt_cmp' op_gt cmp_s (pd_op modR mod_s (pd_op op_sub sub_s (pd_op mulR mul_s (pd_ix (pd_var 0) pd_int) (pd_var 2)) pd_int) (pd_ix (pd_var 0) pd_int)) pd_int)
(ds_one (dd_aug C 2 ip_sub pd_int)))
(ds_one (dd_ret (pd_tup (pn_cons (pd_op op_fdivW div_s (pd_op op_sub sub_s (pd_op mulR mul_s (pd_ix (pd_var 0) pd_int) (pd_var 2)) pd_int) (pd_ix (pd_var 0) pd_int)) (pn_cons (pd_var 2) pn_nil)))))))))
theorem sc_at_place : FnScope ["place", "number", "found"] ["place", "number"] (defScope s_at_place) := ⟨rfl, rfl, rfl, by decide +kernel, rfl, by decide +kernel, by decide +kernel⟩
theorem ok_at_place {f : Addr} {fd : FuncData} (T : Txt K mg C_FractionError C_BadFraction C_BadNumber C_BadOrder C_BadRoad C_BadText C_NotThere C_TooGreat) (D_row_of : DefOk P w K mg base 3 "row_of" 1 m_row_of) (D_is_among : DefOk P w K mg base 1 "is_among" 3 m_is_among) (F : Fun K "at_place" "at_place" s_at_place f fd) (hm : mg "at_place" = some (.ref f)) : DefOk P w K mg base 4 "at_place" 2 m_at_place :=
  def_ok (S := F_at_place) F sc_at_place hm (F.binds fun _ _ _ _ _ _ us hl => match us, hl with | [_, _], _ => rfl) fun cdv A outer s H E C =>
(ds_cons (dd_set C 2 (pd_call C D_row_of (by decide) (fun _ => runF_len) (pn_cons (pd_var 1) pn_nil)))
(ds_cons (dd_if (pq_not (pt_v (pd_call C D_is_among (by decide) (fun _ => runF_len) (pn_cons (pd_var 0) (pn_cons pd_int (pn_cons (pd_op op_sub sub_s (pd_blt lenR len_s T.b_len bt_len (pn_cons (pd_var 2) pn_nil)) pd_int) pn_nil))))))
(ds_one (dd_raise C T.r_NotThere.ok))
ds_nil)
(ds_one (dd_ret (pd_ix (pd_var 2) (pd_var 0))))))
theorem sc_stepped : FnScope ["low", "high", "step", "many"] ["low", "high", "step", "many"] (defScope s_stepped) := ⟨rfl, rfl, rfl, by decide +kernel, rfl, by decide +kernel, by decide +kernel⟩
theorem ok_stepped {f : Addr} {fd : FuncData} (T : Txt K mg C_FractionError C_BadFraction C_BadNumber C_BadOrder C_BadRoad C_BadText C_NotThere C_TooGreat)  (F : Fun K "stepped" "stepped" s_stepped f fd) (hm : mg "stepped" = some (.ref f)) : DefOk P w K mg base 1 "stepped" 4 m_stepped :=
  def_ok (S := F_stepped) F sc_stepped hm (F.binds fun _ _ _ _ _ _ us hl => match us, hl with | [_, _, _, _], _ => rfl) fun cdv A outer s H E C =>
(ds_cons (dd_if (pt_cmp' (eqR C.hu) eq_s (pd_var 2) pd_str)
(ds_one (dd_ret (pd_tup (pn_cons (pd_var 0) (pn_cons (pd_tup (pn_cons (pd_op addR add_s (pd_ix (pd_var 1) pd_int) (pd_op mulR mul_s (pd_var 3) (pd_ix (pd_var 0) pd_int))) (pn_cons (pd_op addR add_s (pd_ix (pd_var 1) pd_int) (pd_op mulR mul_s (pd_var 3) (pd_ix (pd_var 0) pd_int))) pn_nil))) pn_nil)))))
ds_nil)
(ds_one (dd_ret (pd_tup (pn_cons (pd_tup (pn_cons (pd_op addR add_s (pd_ix (pd_var 0) pd_int) (pd_op mulR mul_s (pd_var 3) (pd_ix (pd_var 1) pd_int))) (pn_cons (pd_op addR add_s (pd_ix (pd_var 0) pd_int) (pd_op mulR mul_s (pd_var 3) (pd_ix (pd_var 1) pd_int))) pn_nil))) (pn_cons (pd_var 1) pn_nil))))))
theorem sc_middle : FnScope ["low", "high"] ["low", "high"] (defScope s_middle) := ⟨rfl, rfl, rfl, by decide +kernel, rfl, by decide +kernel, by decide +kernel⟩
theorem ok_middle {f : Addr} {fd : FuncData} (T : Txt K mg C_FractionError C_BadFraction C_BadNumber C_BadOrder C_BadRoad C_BadText C_NotThere C_TooGreat)  (F : Fun K "middle" "middle" s_middle f fd) (hm : mg "middle" = some (.ref f)) : DefOk P w K mg base 1 "middle" 2 m_middle :=
  def_ok (S := F_middle) F sc_middle hm (F.binds fun _ _ _ _ _ _ us hl => match us, hl with | [_, _], _ => rfl) fun cdv A outer s H E C =>
(ds_one (dd_ret (pd_tup (pn_cons (pd_op addR add_s (pd_ix (pd_var 0) pd_int) (pd_ix (pd_var 1) pd_int)) (pn_cons (pd_op addR add_s (pd_ix (pd_var 0) pd_int) (pd_ix (pd_var 1) pd_int)) pn_nil)))))
theorem sc_is_run : FnScope ["thing"] ["thing"] (defScope s_is_run) := ⟨rfl, rfl, rfl, by decide +kernel, rfl, by decide +kernel, by decide +kernel⟩
theorem ok_is_run {f : Addr} {fd : FuncData} (T : Txt K mg C_FractionError C_BadFraction C_BadNumber C_BadOrder C_BadRoad C_BadText C_NotThere C_TooGreat) (D_is_among : DefOk P w K mg base 1 "is_among" 3 m_is_among) (F : Fun K "is_run" "is_run" s_is_run f fd) (hm : mg "is_run" = some (.ref f)) : DefOk P w K mg base 2 "is_run" 1 m_is_run :=
  def_ok (S := F_is_run) F sc_is_run hm (F.binds fun _ _ _ _ _ _ us hl => match us, hl with | [_], _ => rfl) fun cdv A outer s H E C =>
(ds_cons (dd_if (pq (pq_or (pq_not (pt_v (pd_isi T.b_isinstance T.b_tuple bt_tuple (pd_var 0)))) (pq_or (pt_cmp' (neR C.hu) ne_s (pd_blt lenR len_s T.b_len bt_len (pn_cons (pd_var 0) pn_nil)) pd_int) (pq_or (pq_not (pt_v (pd_isi T.b_isinstance T.b_str bt_str (pd_ix (pd_var 0) pd_int)))) (pq_or1 (pt_cmp' (ninR C.hu5) nin_s (pd_ix (pd_var 0) pd_int) (pd_glob T.g_STEPS)))))))
(ds_one (dd_ret pd_bl))
ds_nil)
(ds_one (dd_ret (pd_call C D_is_among (by decide) (fun _ => runF_len) (pn_cons (pd_ix (pd_var 0) pd_int) (pn_cons pd_int (pn_cons (pd_glob T.g_GREATEST) pn_nil)))))))
theorem sc_is_road : FnScope ["thing", "one", "other"] ["thing"] (defScope s_is_road) := ⟨rfl, rfl, rfl, by decide +kernel, rfl, by decide +kernel, by decide +kernel⟩
theorem ok_is_road {f : Addr} {fd : FuncData} (T : Txt K mg C_FractionError C_BadFraction C_BadNumber C_BadOrder C_BadRoad C_BadText C_NotThere C_TooGreat) (D_is_run : DefOk P w K mg base 2 "is_run" 1 m_is_run) (F : Fun K "is_road" "is_road" s_is_road f fd) (hm : mg "is_road" = some (.ref f)) : DefOk P w K mg base 3 "is_road" 1 m_is_road :=
  def_ok (S := F_is_road) F sc_is_road hm (F.binds fun _ _ _ _ _ _ us hl => match us, hl with | [_], _ => rfl) fun cdv A outer s H E C =>
(ds_cons (dd_if (pq (pq_or (pq_not (pt_v (pd_isi T.b_isinstance T.b_list bt_list (pd_var 0)))) (pq_or1 (pq_not (pt_v (pd_blt (cr_all C.calm) all_s T.b_all bt_all (pn_cons (pd_lc C (pi_L (pd_var 0)) (tg_1 1) (blkOk_by (own := [("one", 1)]) (by show blkC ["thing", "one", "other"] (defScope s_is_road) _ _ = true; decide +kernel)) rfl (fun _ _ _ _ _ => pg_name (i := 1) C.nd rfl (Or.inl rfl)) (fun s H Ca cl fp => pts_y) (fun s H Ca cl fp => (pd_call (C.blk s H _ _ fp) D_is_run (by decide) (fun _ => runF_len) (pn_cons (pd_var 1) pn_nil)))) pn_nil)))))))
(ds_one (dd_ret pd_bl))
ds_nil)
(ds_one (dd_ret (pd_blt (cr_all C.calm) all_s T.b_all bt_all (pn_cons (pd_lc C (pi_Z T.b_zip (pn_cons (pd_var 0) (pn_cons (pd_slice (pd_var 0) (pr_some pd_int) pr_none) pn_nil))) (tg_2 1 2 (by decide)) (blkOk_by (own := [("one", 1), ("other", 2)]) (by show blkC ["thing", "one", "other"] (defScope s_is_road) _ _ = true; decide +kernel)) rfl (fun _ _ _ _ _ => pg_tup C.calm (pgs_cons (pg_name (i := 1) C.nd rfl (Or.inl rfl)) (pgs_cons (pg_name (i := 2) C.nd rfl (Or.inl rfl)) pgs_nil))) (fun s H Ca cl fp => pts_y) (fun s H Ca cl fp => (pd_cmp (neR (C.blk s H _ _ fp).hu) ne_s (pd_ix (pd_var 1) pd_int) (pd_ix (pd_var 2) pd_int)))) pn_nil)))))
theorem sc_up_to : FnScope ["low", "high", "one"] ["low", "high", "one"] (defScope s_up_to) := ⟨rfl, rfl, rfl, by decide +kernel, rfl, by decide +kernel, by decide +kernel⟩
theorem ok_up_to {f : Addr} {fd : FuncData} (T : Txt K mg C_FractionError C_BadFraction C_BadNumber C_BadOrder C_BadRoad C_BadText C_NotThere C_TooGreat)  (F : Fun K "up_to" "up_to" s_up_to f fd) (hm : mg "up_to" = some (.ref f)) : DefOk P w K mg base 1 "up_to" 3 m_up_to :=
  def_ok (S := F_up_to) F sc_up_to hm (F.binds fun _ _ _ _ _ _ us hl => match us, hl with | [_, _, _], _ => rfl) fun cdv A outer s H E C =>
(ds_one (dd_ret (pd_op op_fdivW div_s (pd_op op_sub sub_s (pd_op mulR mul_s (pd_ix (pd_var 2) pd_int) (pd_ix (pd_var 0) pd_int)) (pd_op mulR mul_s (pd_ix (pd_var 0) pd_int) (pd_ix (pd_var 2) pd_int))) (pd_op op_sub sub_s (pd_op mulR mul_s (pd_ix (pd_var 1) pd_int) (pd_ix (pd_var 2) pd_int)) (pd_op mulR mul_s (pd_ix (pd_var 2) pd_int) (pd_ix (pd_var 1) pd_int))))))
theorem sc_down_to : FnScope ["low", "high", "other"] ["low", "high", "other"] (defScope s_down_to) := ⟨rfl, rfl, rfl, by decide +kernel, rfl, by decide +kernel, by decide +kernel⟩
theorem ok_down_to {f : Addr} {fd : FuncData} (T : Txt K mg C_FractionError C_BadFraction C_BadNumber C_BadOrder C_BadRoad C_BadText C_NotThere C_TooGreat)  (F : Fun K "down_to" "down_to" s_down_to f fd) (hm : mg "down_to" = some (.ref f)) : DefOk P w K mg base 1 "down_to" 3 m_down_to :=
  def_ok (S := F_down_to) F sc_down_to hm (F.binds fun _ _ _ _ _ _ us hl => match us, hl with | [_, _, _], _ => rfl) fun cdv A outer s H E C =>
(ds_one (dd_ret (pd_op op_fdivW div_s (pd_op op_sub sub_s (pd_op mulR mul_s (pd_ix (pd_var 1) pd_int) (pd_ix (pd_var 2) pd_int)) (pd_op mulR mul_s (pd_ix (pd_var 2) pd_int) (pd_ix (pd_var 1) pd_int))) (pd_op op_sub sub_s (pd_op mulR mul_s (pd_ix (pd_var 2) pd_int) (pd_ix (pd_var 0) pd_int)) (pd_op mulR mul_s (pd_ix (pd_var 0) pd_int) (pd_ix (pd_var 2) pd_int))))))
theorem sc_simplest : FnScope ["one", "other", "low", "high"] ["one", "other"] (defScope s_simplest) := ⟨rfl, rfl, rfl, by decide +kernel, rfl, by decide +kernel, by decide +kernel⟩
theorem ok_simplest {f : Addr} {fd : FuncData} (T : Txt K mg C_FractionError C_BadFraction C_BadNumber C_BadOrder C_BadRoad C_BadText C_NotThere C_TooGreat) (D_need_bound : DefOk P w K mg base 5 "need_bound" 1 m_need_bound) (D_less : DefOk P w K mg base 1 "less" 2 m_less) (D_middle : DefOk P w K mg base 1 "middle" 2 m_middle) (D_up_to : DefOk P w K mg base 1 "up_to" 3 m_up_to) (D_stepped : DefOk P w K mg base 1 "stepped" 4 m_stepped) (D_down_to : DefOk P w K mg base 1 "down_to" 3 m_down_to) (F : Fun K "simplest" "simplest" s_simplest f fd) (hm : mg "simplest" = some (.ref f)) : DefOk P w K mg base 6 "simplest" 2 m_simplest :=
  def_ok (S := F_simplest) F sc_simplest hm (F.binds fun _ _ _ _ _ _ us hl => match us, hl with | [_, _], _ => rfl) fun cdv A outer s H E C =>
(ds_cons (dd_drop (pd_call C D_need_bound (by decide) (fun _ => runF_len) (pn_cons (pd_var 0) pn_nil)))
(ds_cons (dd_drop (pd_call C D_need_bound (by decide) (fun _ => runF_len) (pn_cons (pd_var 1) pn_nil)))
(ds_cons (dd_if (pq_not (pt_v (pd_call C D_less (by decide) (fun _ => runF_len) (pn_cons (pd_var 0) (pn_cons (pd_var 1) pn_nil)))))
(ds_one (dd_raise C T.r_BadOrder.ok))
ds_nil)
(ds_cons (dd_par C 2 3 (pn_cons (pd_glob T.g_NOUGHT) (pn_cons (pd_glob T.g_NO_END) pn_nil)))
(ds_cons (dd_wh C (pq_not (pq (pq_and (pt_v (pd_call C D_less (by decide) (fun _ => runF_len) (pn_cons (pd_var 0) (pn_cons (pd_call C D_middle (by decide) (fun _ => runF_len) (pn_cons (pd_var 2) (pn_cons (pd_var 3) pn_nil))) pn_nil)))) (pq_and1 (pt_v (pd_call C D_less (by decide) (fun _ => runF_len) (pn_cons (pd_call C D_middle (by decide) (fun _ => runF_len) (pn_cons (pd_var 2) (pn_cons (pd_var 3) pn_nil))) (pn_cons (pd_var 1) pn_nil))))))))
(ds_cons (dd_unp (pd_call C D_stepped (by decide) (fun _ => runF_len) (pn_cons (pd_var 2) (pn_cons (pd_var 3) (pn_cons pd_str (pn_cons (pd_call C D_up_to (by decide) (fun _ => runF_len) (pn_cons (pd_var 2) (pn_cons (pd_var 3) (pn_cons (pd_var 0) pn_nil)))) pn_nil))))) (gd_2 C.nd C.calm 2 3))
(ds_one (dd_unp (pd_call C D_stepped (by decide) (fun _ => runF_len) (pn_cons (pd_var 2) (pn_cons (pd_var 3) (pn_cons pd_str (pn_cons (pd_call C D_down_to (by decide) (fun _ => runF_len) (pn_cons (pd_var 2) (pn_cons (pd_var 3) (pn_cons (pd_var 1) pn_nil)))) pn_nil))))) (gd_2 C.nd C.calm 2 3)))))
(ds_cons (dd_if (pt_cmp' op_gt cmp_s (pd_blt (mxPR C.calm C.hu) mxP_s T.b_max bt_max (pn_cons (pd_call C D_middle (by decide) (fun _ => runF_len) (pn_cons (pd_var 2) (pn_cons (pd_var 3) pn_nil))) pn_nil)) (pd_glob T.g_GREATEST))
(ds_one (dd_raise C T.r_TooGreat.ok))
ds_nil)
(ds_one (dd_ret (pd_call C D_middle (by decide) (fun _ => runF_len) (pn_cons (pd_var 2) (pn_cons (pd_var 3) pn_nil)))))))))))
theorem sc_need_asked : FnScope ["bound", "most"] ["bound", "most"] (defScope s_need_asked) := ⟨rfl, rfl, rfl, by decide +kernel, rfl, by decide +kernel, by decide +kernel⟩
theorem ok_need_asked {f : Addr} {fd : FuncData} (T : Txt K mg C_FractionError C_BadFraction C_BadNumber C_BadOrder C_BadRoad C_BadText C_NotThere C_TooGreat) (D_is_bound : DefOk P w K mg base 4 "is_bound" 1 m_is_bound) (D_is_among : DefOk P w K mg base 1 "is_among" 3 m_is_among) (F : Fun K "need_asked" "need_asked" s_need_asked f fd) (hm : mg "need_asked" = some (.ref f)) : DefOk P w K mg base 5 "need_asked" 2 m_need_asked :=
  def_ok (S := F_need_asked) F sc_need_asked hm (F.binds fun _ _ _ _ _ _ us hl => match us, hl with | [_, _], _ => rfl) fun cdv A outer s H E C =>
(ds_cons (dd_if (pq (pq_or (pq_not (pt_v (pd_call C D_is_bound (by decide) (fun _ => runF_len) (pn_cons (pd_var 0) pn_nil)))) (pq_or1 (pt_cmp' (eqR C.hu) eq_s (pd_var 0) (pd_glob T.g_NO_END)))))
(ds_one (dd_raise C T.r_BadFraction.ok))
ds_nil)
(ds_one (dd_if (pq_not (pt_v (pd_call C D_is_among (by decide) (fun _ => runF_len) (pn_cons (pd_var 1) (pn_cons pd_int (pn_cons (pd_glob T.g_GREATEST) pn_nil))))))
(ds_one (dd_raise C T.r_BadNumber.ok))
ds_nil)))
theorem sc_room_for : FnScope ["bottom", "step", "most"] ["bottom", "step", "most"] (defScope s_room_for) := ⟨rfl, rfl, rfl, by decide +kernel, rfl, by decide +kernel, by decide +kernel⟩
theorem ok_room_for {f : Addr} {fd : FuncData} (T : Txt K mg C_FractionError C_BadFraction C_BadNumber C_BadOrder C_BadRoad C_BadText C_NotThere C_TooGreat)  (F : Fun K "room_for" "room_for" s_room_for f fd) (hm : mg "room_for" = some (.ref f)) : DefOk P w K mg base 1 "room_for" 3 m_room_for :=
  def_ok (S := F_room_for) F sc_room_for hm (F.binds fun _ _ _ _ _ _ us hl => match us, hl with | [_, _, _], _ => rfl) fun cdv A outer s H E C =>
(ds_one (dd_ret (pd_if (pt_cmp' (eqR C.hu) eq_s (pd_var 1) pd_int) pd_non (pd_op op_fdivW div_s (pd_op op_sub sub_s (pd_var 2) (pd_var 0)) (pd_var 1)))))
theorem sc_fewer : FnScope ["many", "room"] ["many", "room"] (defScope s_fewer) := ⟨rfl, rfl, rfl, by decide +kernel, rfl, by decide +kernel, by decide +kernel⟩
theorem ok_fewer {f : Addr} {fd : FuncData} (T : Txt K mg C_FractionError C_BadFraction C_BadNumber C_BadOrder C_BadRoad C_BadText C_NotThere C_TooGreat)  (F : Fun K "fewer" "fewer" s_fewer f fd) (hm : mg "fewer" = some (.ref f)) : DefOk P w K mg base 1 "fewer" 2 m_fewer :=
  def_ok (S := F_fewer) F sc_fewer hm (F.binds fun _ _ _ _ _ _ us hl => match us, hl with | [_, _], _ => rfl) fun cdv A outer s H E C =>
(ds_one (dd_ret (pd_if (pt_isN (pd_var 1)) (pd_var 0) (pd_blt (call_min2 C.calm) mn_s T.b_min bt_min (pn_cons (pd_var 0) (pn_cons (pd_var 1) pn_nil))))))
theorem sc_low_high : FnScope ["bound", "most", "low", "high", "many"] ["bound", "most"] (defScope s_low_high) := ⟨rfl, rfl, rfl, by decide +kernel, rfl, by decide +kernel, by decide +kernel⟩
theorem ok_low_high {f : Addr} {fd : FuncData} (T : Txt K mg C_FractionError C_BadFraction C_BadNumber C_BadOrder C_BadRoad C_BadText C_NotThere C_TooGreat) (D_need_asked : DefOk P w K mg base 5 "need_asked" 2 m_need_asked) (D_up_to : DefOk P w K mg base 1 "up_to" 3 m_up_to) (D_room_for : DefOk P w K mg base 1 "room_for" 3 m_room_for) (D_fewer : DefOk P w K mg base 1 "fewer" 2 m_fewer) (D_stepped : DefOk P w K mg base 1 "stepped" 4 m_stepped) (D_down_to : DefOk P w K mg base 1 "down_to" 3 m_down_to) (F : Fun K "low_high" "low_high" s_low_high f fd) (hm : mg "low_high" = some (.ref f)) : DefOk P w K mg base 6 "low_high" 2 m_low_high :=
  def_ok (S := F_low_high) F sc_low_high hm (F.binds fun _ _ _ _ _ _ us hl => match us, hl with | [_, _], _ => rfl) fun cdv A outer s H E C =>
(ds_cons (dd_drop (pd_call C D_need_asked (by decide) (fun _ => runF_len) (pn_cons (pd_var 0) (pn_cons (pd_var 1) pn_nil))))
(ds_cons (dd_if (pt_cmp' op_le cmp_s (pd_ix (pd_var 0) pd_int) (pd_var 1))
(ds_one (dd_ret (pd_tup (pn_cons (pd_var 0) (pn_cons (pd_var 0) pn_nil)))))
ds_nil)
(ds_cons (dd_par C 2 3 (pn_cons (pd_glob T.g_NOUGHT) (pn_cons (pd_glob T.g_NO_END) pn_nil)))
(ds_cons (dd_wh C (pt_cmp' op_le cmp_s (pd_op addR add_s (pd_ix (pd_var 2) pd_int) (pd_ix (pd_var 3) pd_int)) (pd_var 1))
(ds_cons (dd_set C 4 (pd_call C D_fewer (by decide) (fun _ => runF_len) (pn_cons (pd_call C D_up_to (by decide) (fun _ => runF_len) (pn_cons (pd_var 2) (pn_cons (pd_var 3) (pn_cons (pd_var 0) pn_nil)))) (pn_cons (pd_call C D_room_for (by decide) (fun _ => runF_len) (pn_cons (pd_ix (pd_var 2) pd_int) (pn_cons (pd_ix (pd_var 3) pd_int) (pn_cons (pd_var 1) pn_nil)))) pn_nil))))
(ds_cons (dd_unp (pd_call C D_stepped (by decide) (fun _ => runF_len) (pn_cons (pd_var 2) (pn_cons (pd_var 3) (pn_cons pd_str (pn_cons (pd_var 4) pn_nil))))) (gd_2 C.nd C.calm 2 3))
(ds_cons (dd_set C 4 (pd_call C D_fewer (by decide) (fun _ => runF_len) (pn_cons (pd_call C D_down_to (by decide) (fun _ => runF_len) (pn_cons (pd_var 2) (pn_cons (pd_var 3) (pn_cons (pd_var 0) pn_nil)))) (pn_cons (pd_call C D_room_for (by decide) (fun _ => runF_len) (pn_cons (pd_ix (pd_var 3) pd_int) (pn_cons (pd_ix (pd_var 2) pd_int) (pn_cons (pd_var 1) pn_nil)))) pn_nil))))
(ds_one (dd_unp (pd_call C D_stepped (by decide) (fun _ => runF_len) (pn_cons (pd_var 2) (pn_cons (pd_var 3) (pn_cons pd_str (pn_cons (pd_var 4) pn_nil))))) (gd_2 C.nd C.calm 2 3)))))))
(ds_one (dd_ret (pd_tup (pn_cons (pd_var 2) (pn_cons (pd_var 3) pn_nil)))))))))
theorem sc_nearest : FnScope ["bound", "most", "low", "high", "below", "above"] ["bound", "most"] (defScope s_nearest) := ⟨rfl, rfl, rfl, by decide +kernel, rfl, by decide +kernel, by decide +kernel⟩
theorem ok_nearest {f : Addr} {fd : FuncData} (T : Txt K mg C_FractionError C_BadFraction C_BadNumber C_BadOrder C_BadRoad C_BadText C_NotThere C_TooGreat) (D_low_high : DefOk P w K mg base 6 "low_high" 2 m_low_high) (F : Fun K "nearest" "nearest" s_nearest f fd) (hm : mg "nearest" = some (.ref f)) : DefOk P w K mg base 7 "nearest" 2 m_nearest :=
  def_ok (S := F_nearest) F sc_nearest hm (F.binds fun _ _ _ _ _ _ us hl => match us, hl with | [_, _], _ => rfl) fun cdv A outer s H E C =>
(ds_cons (dd_unp (pd_call C D_low_high (by decide) (fun _ => runF_len) (pn_cons (pd_var 0) (pn_cons (pd_var 1) pn_nil))) (gd_2 C.nd C.calm 2 3))
(ds_cons (dd_set C 4 (pd_op mulR mul_s (pd_op op_sub sub_s (pd_op mulR mul_s (pd_ix (pd_var 0) pd_int) (pd_ix (pd_var 2) pd_int)) (pd_op mulR mul_s (pd_ix (pd_var 2) pd_int) (pd_ix (pd_var 0) pd_int))) (pd_ix (pd_var 3) pd_int)))
(ds_cons (dd_set C 5 (pd_op mulR mul_s (pd_op op_sub sub_s (pd_op mulR mul_s (pd_ix (pd_var 3) pd_int) (pd_ix (pd_var 0) pd_int)) (pd_op mulR mul_s (pd_ix (pd_var 0) pd_int) (pd_ix (pd_var 3) pd_int))) (pd_ix (pd_var 2) pd_int)))
(ds_cons (dd_if (pt_cmp' (eqR C.hu) eq_s (pd_var 4) (pd_var 5))
(ds_one (dd_ret (pd_if (pt_cmp' op_lt cmp_s (pd_ix (pd_var 3) pd_int) (pd_ix (pd_var 2) pd_int)) (pd_var 3) (pd_var 2))))
ds_nil)
(ds_one (dd_ret (pd_if (pt_cmp' op_lt cmp_s (pd_var 4) (pd_var 5)) (pd_var 2) (pd_var 3))))))))
theorem sc_bound_text : FnScope ["bound"] ["bound"] (defScope s_bound_text) := ⟨rfl, rfl, rfl, by decide +kernel, rfl, by decide +kernel, by decide +kernel⟩
theorem ok_bound_text {f : Addr} {fd : FuncData} (T : Txt K mg C_FractionError C_BadFraction C_BadNumber C_BadOrder C_BadRoad C_BadText C_NotThere C_TooGreat) (D_need_bound : DefOk P w K mg base 5 "need_bound" 1 m_need_bound) (F : Fun K "bound_text" "bound_text" s_bound_text f fd) (hm : mg "bound_text" = some (.ref f)) : DefOk P w K mg base 6 "bound_text" 1 m_bound_text :=
  def_ok (S := F_bound_text) F sc_bound_text hm (F.binds fun _ _ _ _ _ _ us hl => match us, hl with | [_], _ => rfl) fun cdv A outer s H E C =>
(ds_cons (dd_drop (pd_call C D_need_bound (by decide) (fun _ => runF_len) (pn_cons (pd_var 0) pn_nil)))
(ds_one (dd_ret (pd_op addR add_s (pd_op addR add_s (pd_bty call_str_int str_s T.b_str bt_str (pn_cons (pd_ix (pd_var 0) pd_int) pn_nil)) pd_str) (pd_bty call_str_int str_s T.b_str bt_str (pn_cons (pd_ix (pd_var 0) pd_int) pn_nil))))))
theorem sc_road_text : FnScope ["road", "step", "times"] ["road"] (defScope s_road_text) := ⟨rfl, rfl, rfl, by decide +kernel, rfl, by decide +kernel, by decide +kernel⟩
theorem ok_road_text {f : Addr} {fd : FuncData} (T : Txt K mg C_FractionError C_BadFraction C_BadNumber C_BadOrder C_BadRoad C_BadText C_NotThere C_TooGreat) (D_is_road : DefOk P w K mg base 3 "is_road" 1 m_is_road) (F : Fun K "road_text" "road_text" s_road_text f fd) (hm : mg "road_text" = some (.ref f)) : DefOk P w K mg base 4 "road_text" 1 m_road_text :=
  def_ok (S := F_road_text) F sc_road_text hm (F.binds fun _ _ _ _ _ _ us hl => match us, hl with | [_], _ => rfl) fun cdv A outer s H E C =>
(ds_cons (dd_if (pq_not (pt_v (pd_call C D_is_road (by decide) (fun _ => runF_len) (pn_cons (pd_var 0) pn_nil))))
(ds_one (dd_raise C T.r_BadRoad.ok))
ds_nil)
(ds_cons (dd_if (pt_cmp' (eqR C.hu) eq_s (pd_var 0) (pd_lst pn_nil))
(ds_one (dd_ret pd_str))
ds_nil)
(ds_one (dd_ret (pd_join pd_str (pd_lc C (pi_L (pd_var 0)) (tg_2 1 2 (by decide)) (blkOk_by (own := [("step", 1), ("times", 2)]) (by show blkC ["road", "step", "times"] (defScope s_road_text) _ _ = true; decide +kernel)) rfl (fun _ _ _ _ _ => pg_tup C.calm (pgs_cons (pg_name (i := 1) C.nd rfl (Or.inl rfl)) (pgs_cons (pg_name (i := 2) C.nd rfl (Or.inl rfl)) pgs_nil))) (fun s H Ca cl fp => pts_y) (fun s H Ca cl fp => (pd_op addR add_s (pd_var 1) (pd_bty call_str_int str_s T.b_str bt_str (pn_cons (pd_var 2) pn_nil))))))))))
theorem sc__law_mixed : FnScope ["_law_cell", "_law_k", "_law_number_here"] ["_law_cell", "_law_k"] (defScope s__law_mixed) := ⟨rfl, rfl, rfl, by decide +kernel, rfl, by decide +kernel, by decide +kernel⟩
theorem ok__law_mixed {f : Addr} {fd : FuncData} (T : Txt K mg C_FractionError C_BadFraction C_BadNumber C_BadOrder C_BadRoad C_BadText C_NotThere C_TooGreat)  (F : Fun K "_law_mixed" "_law_mixed" s__law_mixed f fd) (hm : mg "_law_mixed" = some (.ref f)) : DefOk P w K mg base 1 "_law_mixed" 2 m__law_mixed :=
  def_ok (S := F__law_mixed) F sc__law_mixed hm (F.binds fun _ _ _ _ _ _ us hl => match us, hl with | [_, _], _ => rfl) fun cdv A outer s H E C =>
(ds_cons (dd_set C 2 (pd_op modR mod_s (pd_op mulR mul_s (pd_op addR add_s (pd_op addR add_s (pd_op addR add_s (pd_op modR mod_s (pd_var 0) pd_int) (pd_op mulR mul_s (pd_op mulR mul_s pd_int (pd_var 1)) (pd_var 1))) (pd_op mulR mul_s pd_int (pd_var 1))) pd_int) pd_int) pd_int))
(ds_one (dd_ret (pd_op op_fdivW div_s (pd_op modR mod_s (pd_op mulR mul_s (pd_var 2) (pd_op addR add_s (pd_op modR mod_s (pd_var 2) pd_int) pd_int)) pd_int) pd_int))))
theorem sc__law_number : FnScope ["_law_script", "_law_k", "_law_cell"] ["_law_script", "_law_k"] (defScope s__law_number) := ⟨rfl, rfl, rfl, by decide +kernel, rfl, by decide +kernel, by decide +kernel⟩
theorem ok__law_number {f : Addr} {fd : FuncData} (T : Txt K mg C_FractionError C_BadFraction C_BadNumber C_BadOrder C_BadRoad C_BadText C_NotThere C_TooGreat) (D__law_mixed : DefOk P w K mg base 1 "_law_mixed" 2 m__law_mixed) (F : Fun K "_law_number" "_law_number" s__law_number f fd) (hm : mg "_law_number" = some (.ref f)) : DefOk P w K mg base 2 "_law_number" 2 m__law_number :=
  def_ok (S := F__law_number) F sc__law_number hm (F.binds fun _ _ _ _ _ _ us hl => match us, hl with | [_, _], _ => rfl) fun cdv A outer s H E C =>
(ds_cons (dd_set C 2 pd_int)
(ds_cons (dd_if (pt_cmp' op_gt cmp_s (pd_blt lenR len_s T.b_len bt_len (pn_cons (pd_var 0) pn_nil)) pd_int)
(ds_one (dd_set C 2 (pd_ix (pd_var 0) (pd_op modR mod_s (pd_var 1) (pd_blt lenR len_s T.b_len bt_len (pn_cons (pd_var 0) pn_nil))))))
ds_nil)
(ds_one (dd_ret (pd_call C D__law_mixed (by decide) (fun _ => runF_len) (pn_cons (pd_var 2) (pn_cons (pd_var 1) pn_nil)))))))
theorem sc__law_kind : FnScope ["_law_e", "_law_found"] ["_law_e"] (defScope s__law_kind) := ⟨rfl, rfl, rfl, by decide +kernel, rfl, by decide +kernel, by decide +kernel⟩
theorem ok__law_kind {f : Addr} {fd : FuncData} (T : Txt K mg C_FractionError C_BadFraction C_BadNumber C_BadOrder C_BadRoad C_BadText C_NotThere C_TooGreat)  (F : Fun K "_law_kind" "_law_kind" s__law_kind f fd) (hm : mg "_law_kind" = some (.ref f)) : DefOk P w K mg base 1 "_law_kind" 1 m__law_kind :=
  def_ok (S := F__law_kind) F sc__law_kind hm (F.binds fun _ _ _ _ _ _ us hl => match us, hl with | [_], _ => rfl) fun cdv A outer s H E C =>
(ds_cons (dd_set C 1 (pd_op addR add_s (pd_op mulR mul_s (pd_lst (pn_cons pd_str pn_nil)) (pd_bty intR it_s T.b_int bt_int (pn_cons (pd_isx T.i_BadFraction.ok T.b_isinstance T.n_BadFraction (pd_var 0)) pn_nil))) (pd_op mulR mul_s (pd_lst (pn_cons pd_str pn_nil)) (pd_bty intR it_s T.b_int bt_int (pn_cons (pd_isx T.i_BadNumber.ok T.b_isinstance T.n_BadNumber (pd_var 0)) pn_nil)))))
(ds_cons (dd_set C 1 (pd_op addR add_s (pd_op addR add_s (pd_var 1) (pd_op mulR mul_s (pd_lst (pn_cons pd_str pn_nil)) (pd_bty intR it_s T.b_int bt_int (pn_cons (pd_isx T.i_BadOrder.ok T.b_isinstance T.n_BadOrder (pd_var 0)) pn_nil)))) (pd_op mulR mul_s (pd_lst (pn_cons pd_str pn_nil)) (pd_bty intR it_s T.b_int bt_int (pn_cons (pd_isx T.i_BadRoad.ok T.b_isinstance T.n_BadRoad (pd_var 0)) pn_nil)))))
(ds_cons (dd_set C 1 (pd_op addR add_s (pd_op addR add_s (pd_var 1) (pd_op mulR mul_s (pd_lst (pn_cons pd_str pn_nil)) (pd_bty intR it_s T.b_int bt_int (pn_cons (pd_isx T.i_BadText.ok T.b_isinstance T.n_BadText (pd_var 0)) pn_nil)))) (pd_op mulR mul_s (pd_lst (pn_cons pd_str pn_nil)) (pd_bty intR it_s T.b_int bt_int (pn_cons (pd_isx T.i_NotThere.ok T.b_isinstance T.n_NotThere (pd_var 0)) pn_nil)))))
(ds_cons (dd_set C 1 (pd_op addR add_s (pd_var 1) (pd_op mulR mul_s (pd_lst (pn_cons pd_str pn_nil)) (pd_bty intR it_s T.b_int bt_int (pn_cons (pd_isx T.i_TooGreat.ok T.b_isinstance T.n_TooGreat (pd_var 0)) pn_nil)))))
(ds_one (dd_ret (pd_join pd_str (pd_op addR add_s (pd_var 1) (pd_op mulR mul_s (pd_lst (pn_cons pd_str pn_nil)) (pd_bty intR it_s T.b_int bt_int (pn_cons (pd_not (pd_isv T.i_ValueError.ok T.b_isinstance T.b_ValueError (pd_var 0))) pn_nil)))))))))))
theorem sc__law_called : FnScope ["_law_way", "_law_one", "_law_two"] ["_law_way", "_law_one", "_law_two"] (defScope s__law_called) := ⟨rfl, rfl, rfl, by decide +kernel, rfl, by decide +kernel, by decide +kernel⟩
theorem ok__law_called {f : Addr} {fd : FuncData} (T : Txt K mg C_FractionError C_BadFraction C_BadNumber C_BadOrder C_BadRoad C_BadText C_NotThere C_TooGreat) (D_simplest : DefOk P w K mg base 6 "simplest" 2 m_simplest) (D_low_high : DefOk P w K mg base 6 "low_high" 2 m_low_high) (D_nearest : DefOk P w K mg base 7 "nearest" 2 m_nearest) (D_place_of : DefOk P w K mg base 7 "place_of" 2 m_place_of) (D_next_one : DefOk P w K mg base 7 "next_one" 2 m_next_one) (D_one_ahead : DefOk P w K mg base 7 "one_ahead" 2 m_one_ahead) (D_at_place : DefOk P w K mg base 4 "at_place" 2 m_at_place) (D_row_of : DefOk P w K mg base 3 "row_of" 1 m_row_of) (D_size_of : DefOk P w K mg base 3 "size_of" 1 m_size_of) (D_bound_text : DefOk P w K mg base 6 "bound_text" 1 m_bound_text) (D_road_text : DefOk P w K mg base 4 "road_text" 1 m_road_text) (F : Fun K "_law_called" "_law_called" s__law_called f fd) (hm : mg "_law_called" = some (.ref f)) : DefOk P w K mg base 8 "_law_called" 3 m__law_called :=
  def_ok (S := F__law_called) F sc__law_called hm (F.binds fun _ _ _ _ _ _ us hl => match us, hl with | [_, _, _], _ => rfl) fun cdv A outer s H E C =>
(ds_cons (dd_if (pt_cmp' (eqR C.hu) eq_s (pd_var 0) pd_int)
(ds_one (dd_ret (pd_call C D_simplest (by decide) (fun _ => runF_len) (pn_cons (pd_var 1) (pn_cons (pd_var 2) pn_nil)))))
ds_nil)
(ds_cons (dd_if (pt_cmp' (eqR C.hu) eq_s (pd_var 0) pd_int)
(ds_one (dd_ret (pd_call C D_low_high (by decide) (fun _ => runF_len) (pn_cons (pd_var 1) (pn_cons (pd_var 2) pn_nil)))))
ds_nil)
(ds_cons (dd_if (pt_cmp' (eqR C.hu) eq_s (pd_var 0) pd_int)
(ds_one (dd_ret (pd_call C D_nearest (by decide) (fun _ => runF_len) (pn_cons (pd_var 1) (pn_cons (pd_var 2) pn_nil)))))
ds_nil)
(ds_cons (dd_if (pt_cmp' (eqR C.hu) eq_s (pd_var 0) pd_int)
(ds_one (dd_ret (pd_call C D_place_of (by decide) (fun _ => runF_len) (pn_cons (pd_var 1) (pn_cons (pd_var 2) pn_nil)))))
ds_nil)
(ds_cons (dd_if (pt_cmp' (eqR C.hu) eq_s (pd_var 0) pd_int)
(ds_one (dd_ret (pd_call C D_next_one (by decide) (fun _ => runF_len) (pn_cons (pd_var 1) (pn_cons (pd_var 2) pn_nil)))))
ds_nil)
(ds_cons (dd_if (pt_cmp' (eqR C.hu) eq_s (pd_var 0) pd_int)
(ds_one (dd_ret (pd_call C D_one_ahead (by decide) (fun _ => runF_len) (pn_cons (pd_var 1) (pn_cons (pd_var 2) pn_nil)))))
ds_nil)
(ds_cons (dd_if (pt_cmp' (eqR C.hu) eq_s (pd_var 0) pd_int)
(ds_one (dd_ret (pd_call C D_at_place (by decide) (fun _ => runF_len) (pn_cons (pd_var 1) (pn_cons (pd_var 2) pn_nil)))))
ds_nil)
(ds_cons (dd_if (pt_cmp' (eqR C.hu) eq_s (pd_var 0) pd_int)
(ds_one (dd_ret (pd_call C D_row_of (by decide) (fun _ => runF_len) (pn_cons (pd_var 2) pn_nil))))
ds_nil)
(ds_cons (dd_if (pt_cmp' (eqR C.hu) eq_s (pd_var 0) pd_int)
(ds_one (dd_ret (pd_call C D_size_of (by decide) (fun _ => runF_len) (pn_cons (pd_var 2) pn_nil))))
ds_nil)
(ds_one (dd_ret (pd_if (pt_cmp' (eqR C.hu) eq_s (pd_var 0) pd_int) (pd_call C D_bound_text (by decide) (fun _ => runF_len) (pn_cons (pd_var 1) pn_nil)) (pd_call C D_road_text (by decide) (fun _ => runF_len) (pn_cons (pd_var 1) pn_nil))))))))))))))
theorem sc__law_word : FnScope ["_law_way", "_law_one", "_law_two", "_law_error", "_law_e"] ["_law_way", "_law_one", "_law_two"] (defScope s__law_word) := ⟨rfl, rfl, rfl, by decide +kernel, rfl, by decide +kernel, by decide +kernel⟩
theorem ok__law_word {f : Addr} {fd : FuncData} (T : Txt K mg C_FractionError C_BadFraction C_BadNumber C_BadOrder C_BadRoad C_BadText C_NotThere C_TooGreat) (D__law_called : DefOk P w K mg base 8 "_law_called" 3 m__law_called) (D__law_kind : DefOk P w K mg base 1 "_law_kind" 1 m__law_kind) (F : Fun K "_law_word" "_law_word" s__law_word f fd) (hm : mg "_law_word" = some (.ref f)) : DefOk P w K mg base 9 "_law_word" 3 m__law_word :=
  def_ok (S := F__law_word) F sc__law_word hm (F.binds fun _ _ _ _ _ _ us hl => match us, hl with | [_, _, _], _ => rfl) fun cdv A outer s H E C =>
(ds_cons (dd_set C 3 pd_non)
(ds_cons (dd_try C 4 3 (TryK.ok T.t_FractionError) (fun W2 pn xe Ct =>
(ds_one (dd_drop (pd_call Ct D__law_called (by decide) (fun _ => runF_len) (pn_cons (pd_var 0) (pn_cons (pd_var 1) (pn_cons (pd_var 2) pn_nil))))))))
(ds_one (dd_ret (pd_if (pt_isN (pd_var 3)) pd_str (pd_call C D__law_kind (by decide) (fun _ => runF_len) (pn_cons (pd_var 3) pn_nil)))))))
theorem sc__law_no_bound : FnScope ["_law_cell", "_law_some"] ["_law_cell"] (defScope s__law_no_bound) := ⟨rfl, rfl, rfl, by decide +kernel, rfl, by decide +kernel, by decide +kernel⟩
theorem ok__law_no_bound {f : Addr} {fd : FuncData} (T : Txt K mg C_FractionError C_BadFraction C_BadNumber C_BadOrder C_BadRoad C_BadText C_NotThere C_TooGreat)  (F : Fun K "_law_no_bound" "_law_no_bound" s__law_no_bound f fd) (hm : mg "_law_no_bound" = some (.ref f)) : DefOk P w K mg base 1 "_law_no_bound" 1 m__law_no_bound :=
  def_ok (S := F__law_no_bound) F sc__law_no_bound hm (F.binds fun _ _ _ _ _ _ us hl => match us, hl with | [_], _ => rfl) fun cdv A outer s H E C =>
(ds_cons (dd_set C 1 (pd_lst (pn_cons pd_non (pn_cons pd_int (pn_cons pd_bl (pn_cons pd_str (pn_cons (pd_lst (pn_cons pd_int (pn_cons pd_int pn_nil))) (pn_cons (pd_tup pn_nil) (pn_cons (pd_tup (pn_cons pd_int pn_nil)) (pn_cons (pd_tup (pn_cons pd_int (pn_cons pd_int (pn_cons pd_int pn_nil)))) (pn_cons pd_emp (pn_cons (pd_tup (pn_cons pd_int (pn_cons pd_int pn_nil))) (pn_cons (pd_tup (pn_cons pd_int (pn_cons pd_int pn_nil))) (pn_cons (pd_tup (pn_cons pd_int (pn_cons pd_int pn_nil))) (pn_cons (pd_tup (pn_cons pd_int (pn_cons pd_int pn_nil))) (pn_cons (pd_tup (pn_cons (pd_neg pd_int) (pn_cons pd_int pn_nil))) (pn_cons (pd_tup (pn_cons pd_int (pn_cons (pd_neg pd_int) pn_nil))) pn_nil)))))))))))))))))
(ds_one (dd_ret (pd_ix (pd_op addR add_s (pd_var 1) (pd_lst (pn_cons (pd_tup (pn_cons pd_bl (pn_cons pd_int pn_nil))) (pn_cons (pd_tup (pn_cons pd_int (pn_cons pd_bl pn_nil))) (pn_cons (pd_tup (pn_cons pd_str (pn_cons pd_int pn_nil))) (pn_cons (pd_tup (pn_cons (pd_op addR add_s (pd_op op_pow pow_s pd_int pd_int) pd_int) (pn_cons pd_int pn_nil))) (pn_cons (pd_tup (pn_cons pd_int (pn_cons (pd_op addR add_s (pd_op op_pow pow_s pd_int pd_int) pd_int) pn_nil))) pn_nil))))))) (pd_op modR mod_s (pd_var 0) pd_int)))))
theorem sc__law_bounds_right : FnScope ["_law_odd", "_law_cell", "_law_beside", "_law_way"] ["_law_odd", "_law_cell"] (defScope s__law_bounds_right) := ⟨rfl, rfl, rfl, by decide +kernel, rfl, by decide +kernel, by decide +kernel⟩
theorem ok__law_bounds_right {f : Addr} {fd : FuncData} (T : Txt K mg C_FractionError C_BadFraction C_BadNumber C_BadOrder C_BadRoad C_BadText C_NotThere C_TooGreat) (D__law_word : DefOk P w K mg base 9 "_law_word" 3 m__law_word) (F : Fun K "_law_bounds_right" "_law_bounds_right" s__law_bounds_right f fd) (hm : mg "_law_bounds_right" = some (.ref f)) : DefOk P w K mg base 10 "_law_bounds_right" 2 m__law_bounds_right :=
  def_ok (S := F__law_bounds_right) F sc__law_bounds_right hm (F.binds fun _ _ _ _ _ _ us hl => match us, hl with | [_, _], _ => rfl) fun cdv A outer s H E C =>
(ds_cons (dd_set C 2 (pd_ix (pd_lst (pn_cons (pd_tup (pn_cons pd_int (pn_cons pd_int pn_nil))) (pn_cons pd_non (pn_cons pd_int (pn_cons pd_str pn_nil))))) (pd_op modR mod_s (pd_var 1) pd_int)))
(ds_cons (dd_if (pq (pq_or (pt_cmp' (neR C.hu) ne_s (pd_call C D__law_word (by decide) (fun _ => runF_len) (pn_cons pd_int (pn_cons (pd_var 0) (pn_cons (pd_var 2) pn_nil)))) pd_str) (pq_or1 (pt_cmp' (neR C.hu) ne_s (pd_call C D__law_word (by decide) (fun _ => runF_len) (pn_cons pd_int (pn_cons (pd_tup (pn_cons pd_int (pn_cons pd_int pn_nil))) (pn_cons (pd_var 0) pn_nil)))) pd_str))))
(ds_one (dd_ret pd_bl))
ds_nil)
(ds_cons (dd_for C (pi_T (pd_tup (pn_cons pd_int (pn_cons pd_int (pn_cons pd_int (pn_cons pd_int (pn_cons pd_int pn_nil))))))) (gd_1 C.nd 3)
(ds_one (dd_if (pt_cmp' (neR C.hu) ne_s (pd_call C D__law_word (by decide) (fun _ => runF_len) (pn_cons (pd_var 3) (pn_cons (pd_var 0) (pn_cons (pd_ix (pd_lst (pn_cons pd_int (pn_cons pd_non (pn_cons pd_int (pn_cons pd_str pn_nil))))) (pd_op modR mod_s (pd_var 1) pd_int)) pn_nil)))) pd_str)
(ds_one (dd_ret pd_bl))
ds_nil)))
(ds_one (dd_ret (pd_and (pd_cmp (eqR C.hu) eq_s (pd_call C D__law_word (by decide) (fun _ => runF_len) (pn_cons pd_int (pn_cons (pd_var 0) (pn_cons pd_non pn_nil)))) pd_str) (pd_one (pd_cmp (eqR C.hu) eq_s (pd_call C D__law_word (by decide) (fun _ => runF_len) (pn_cons pd_int (pn_cons (pd_tup (pn_cons pd_int (pn_cons pd_int pn_nil))) (pn_cons pd_non pn_nil)))) pd_str))))))))
theorem sc__law_numbers_right : FnScope ["_law_bad", "_law_cell", "_law_way", "_law_one"] ["_law_bad", "_law_cell"] (defScope s__law_numbers_right) := ⟨rfl, rfl, rfl, by decide +kernel, rfl, by decide +kernel, by decide +kernel⟩
theorem ok__law_numbers_right {f : Addr} {fd : FuncData} (T : Txt K mg C_FractionError C_BadFraction C_BadNumber C_BadOrder C_BadRoad C_BadText C_NotThere C_TooGreat) (D__law_word : DefOk P w K mg base 9 "_law_word" 3 m__law_word) (F : Fun K "_law_numbers_right" "_law_numbers_right" s__law_numbers_right f fd) (hm : mg "_law_numbers_right" = some (.ref f)) : DefOk P w K mg base 10 "_law_numbers_right" 2 m__law_numbers_right :=
  def_ok (S := F__law_numbers_right) F sc__law_numbers_right hm (F.binds fun _ _ _ _ _ _ us hl => match us, hl with | [_, _], _ => rfl) fun cdv A outer s H E C =>
(ds_cons (dd_for C (pi_T (pd_tup (pn_cons pd_int (pn_cons pd_int pn_nil)))) (gd_1 C.nd 2)
(ds_cons (dd_if (pq (pq_or (pt_cmp' (neR C.hu) ne_s (pd_call C D__law_word (by decide) (fun _ => runF_len) (pn_cons (pd_var 2) (pn_cons (pd_tup (pn_cons pd_int (pn_cons pd_int pn_nil))) (pn_cons (pd_var 0) pn_nil)))) pd_str) (pq_or1 (pt_cmp' (neR C.hu) ne_s (pd_call C D__law_word (by decide) (fun _ => runF_len) (pn_cons (pd_var 2) (pn_cons (pd_tup (pn_cons pd_int (pn_cons pd_int pn_nil))) (pn_cons (pd_ix (pd_lst (pn_cons pd_int (pn_cons (pd_var 0) pn_nil))) (pd_op modR mod_s (pd_var 1) pd_int)) pn_nil)))) pd_str))))
(ds_one (dd_ret pd_bl))
ds_nil)
(ds_one (dd_if (pq (pq_or (pt_cmp' (neR C.hu) ne_s (pd_call C D__law_word (by decide) (fun _ => runF_len) (pn_cons (pd_var 2) (pn_cons (pd_tup (pn_cons pd_int (pn_cons pd_int pn_nil))) (pn_cons (pd_op op_pow pow_s pd_int pd_int) pn_nil)))) pd_str) (pq_or1 (pt_cmp' (neR C.hu) ne_s (pd_call C D__law_word (by decide) (fun _ => runF_len) (pn_cons (pd_var 2) (pn_cons (pd_tup (pn_cons pd_int (pn_cons pd_int pn_nil))) (pn_cons (pd_op addR add_s (pd_op addR add_s (pd_op op_pow pow_s pd_int pd_int) pd_int) (pd_var 1)) pn_nil)))) pd_str))))
(ds_one (dd_ret pd_bl))
ds_nil))))
(ds_cons (dd_for C (pi_T (pd_tup (pn_cons pd_int (pn_cons pd_int (pn_cons pd_int (pn_cons pd_int (pn_cons pd_int (pn_cons pd_int pn_nil)))))))) (gd_1 C.nd 2)
(ds_cons (dd_set C 3 (pd_ix (pd_lst (pn_cons (pd_tup (pn_cons pd_int (pn_cons pd_int pn_nil))) (pn_cons pd_int pn_nil))) (pd_bty intR it_s T.b_int bt_int (pn_cons (pd_cmp (eqR C.hu) eq_s (pd_var 2) pd_int) pn_nil))))
(ds_cons (dd_if (pq (pq_or (pt_cmp' (neR C.hu) ne_s (pd_call C D__law_word (by decide) (fun _ => runF_len) (pn_cons (pd_var 2) (pn_cons (pd_var 3) (pn_cons (pd_var 0) pn_nil)))) pd_str) (pq_or1 (pt_cmp' (neR C.hu) ne_s (pd_call C D__law_word (by decide) (fun _ => runF_len) (pn_cons (pd_var 2) (pn_cons (pd_var 3) (pn_cons (pd_op addR add_s pd_int (pd_var 1)) pn_nil)))) pd_str))))
(ds_one (dd_ret pd_bl))
ds_nil)
(ds_one (dd_if (pt_cmp' (neR C.hu) ne_s (pd_call C D__law_word (by decide) (fun _ => runF_len) (pn_cons (pd_var 2) (pn_cons (pd_var 3) (pn_cons pd_int pn_nil)))) pd_str)
(ds_one (dd_ret pd_bl))
ds_nil)))))
(ds_cons (dd_for C (pi_T (pd_tup (pn_cons (pd_tup (pn_cons pd_int (pn_cons pd_int pn_nil))) (pn_cons (pd_tup (pn_cons pd_int (pn_cons pd_int pn_nil))) (pn_cons (pd_tup (pn_cons pd_int (pn_cons pd_int pn_nil))) (pn_cons (pd_tup (pn_cons pd_int (pn_cons pd_int pn_nil))) pn_nil)))))) (gd_1 C.nd 3)
(ds_one (dd_if (pt_cmp' (neR C.hu) ne_s (pd_lc C (pi_T (pd_tup (pn_cons pd_int (pn_cons pd_int (pn_cons pd_int pn_nil))))) (tg_1 2) (blkOk_by (own := [("_law_way", 2)]) (by show blkC ["_law_bad", "_law_cell", "_law_way", "_law_one"] (defScope s__law_numbers_right) _ _ = true; decide +kernel)) rfl (fun _ _ _ _ _ => pg_name (i := 2) C.nd rfl (Or.inl rfl)) (fun s H Ca cl fp => pts_y) (fun s H Ca cl fp => (pd_call (C.blk s H _ _ fp) D__law_word (by decide) (fun _ => runF_len) (pn_cons (pd_var 2) (pn_cons (pd_var 3) (pn_cons (pd_var 0) pn_nil)))))) (pd_op mulR mul_s (pd_lst (pn_cons pd_str pn_nil)) pd_int))
(ds_one (dd_ret pd_bl))
ds_nil)))
(ds_one (dd_ret (pd_cmp (eqR C.hu) eq_s (pd_call C D__law_word (by decide) (fun _ => runF_len) (pn_cons pd_int (pn_cons pd_non (pn_cons (pd_var 0) pn_nil)))) pd_str))))))
theorem sc__law_there_right : FnScope ["_law_number_here", "_law_cell", "_law_out", "_law_way", "_law_most", "_law_place"] ["_law_number_here", "_law_cell"] (defScope s__law_there_right) := ⟨rfl, rfl, rfl, by decide +kernel, rfl, by decide +kernel, by decide +kernel⟩
theorem ok__law_there_right {f : Addr} {fd : FuncData} (T : Txt K mg C_FractionError C_BadFraction C_BadNumber C_BadOrder C_BadRoad C_BadText C_NotThere C_TooGreat) (D__law_word : DefOk P w K mg base 9 "_law_word" 3 m__law_word) (D_size_of : DefOk P w K mg base 3 "size_of" 1 m_size_of) (F : Fun K "_law_there_right" "_law_there_right" s__law_there_right f fd) (hm : mg "_law_there_right" = some (.ref f)) : DefOk P w K mg base 10 "_law_there_right" 2 m__law_there_right :=
  def_ok (S := F__law_there_right) F sc__law_there_right hm (F.binds fun _ _ _ _ _ _ us hl => match us, hl with | [_, _], _ => rfl) fun cdv A outer s H E C =>
(ds_cons (dd_set C 2 (pd_ix (pd_lst (pn_cons (pd_tup (pn_cons pd_int (pn_cons (pd_op addR add_s (pd_op addR add_s (pd_var 0) pd_int) (pd_var 1)) pn_nil))) (pn_cons (pd_tup (pn_cons (pd_op addR add_s (pd_var 0) pd_int) (pn_cons (pd_op addR add_s (pd_var 0) pd_int) pn_nil))) (pn_cons (pd_tup (pn_cons pd_int (pn_cons pd_int pn_nil))) (pn_cons (pd_tup (pn_cons pd_int (pn_cons pd_int pn_nil))) (pn_cons (pd_tup (pn_cons (pd_op addR add_s (pd_var 0) pd_int) (pn_cons (pd_var 0) pn_nil))) pn_nil)))))) (pd_op modR mod_s (pd_var 1) pd_int)))
(ds_cons (dd_for C (pi_T (pd_tup (pn_cons pd_int (pn_cons pd_int (pn_cons pd_int pn_nil))))) (gd_1 C.nd 3)
(ds_one (dd_if (pt_cmp' (neR C.hu) ne_s (pd_call C D__law_word (by decide) (fun _ => runF_len) (pn_cons (pd_var 3) (pn_cons (pd_var 2) (pn_cons (pd_var 0) pn_nil)))) pd_str)
(ds_one (dd_ret pd_bl))
ds_nil)))
(ds_cons (dd_if (pq (pq_or (pt_cmp' (neR C.hu) ne_s (pd_call C D__law_word (by decide) (fun _ => runF_len) (pn_cons pd_int (pn_cons (pd_tup (pn_cons pd_int (pn_cons pd_int pn_nil))) (pn_cons (pd_var 0) pn_nil)))) pd_str) (pq_or1 (pt_cmp' (neR C.hu) ne_s (pd_call C D__law_word (by decide) (fun _ => runF_len) (pn_cons pd_int (pn_cons (pd_tup (pn_cons pd_int (pn_cons pd_int pn_nil))) (pn_cons (pd_var 0) pn_nil)))) pd_str))))
(ds_one (dd_ret pd_bl))
ds_nil)
(ds_cons (dd_set C 4 (pd_call C D_size_of (by decide) (fun _ => runF_len) (pn_cons (pd_var 0) pn_nil)))
(ds_cons (dd_for C (pi_L (pd_lst (pn_cons (pd_op op_sub sub_s (pd_neg pd_int) (pd_var 1)) (pn_cons (pd_var 4) (pn_cons (pd_op addR add_s (pd_var 4) (pd_var 1)) (pn_cons pd_non (pn_cons pd_bl (pn_cons pd_str (pn_cons (pd_lst (pn_cons pd_int pn_nil)) (pn_cons pd_bl pn_nil)))))))))) (gd_1 C.nd 5)
(ds_one (dd_if (pt_cmp' (neR C.hu) ne_s (pd_call C D__law_word (by decide) (fun _ => runF_len) (pn_cons pd_int (pn_cons (pd_var 5) (pn_cons (pd_var 0) pn_nil)))) pd_str)
(ds_one (dd_ret pd_bl))
ds_nil)))
(ds_one (dd_ret (pd_and (pd_cmp (eqR C.hu) eq_s (pd_call C D__law_word (by decide) (fun _ => runF_len) (pn_cons pd_int (pn_cons pd_int (pn_cons (pd_var 0) pn_nil)))) pd_str) (pd_one (pd_cmp (eqR C.hu) eq_s (pd_call C D__law_word (by decide) (fun _ => runF_len) (pn_cons pd_int (pn_cons (pd_op op_sub sub_s (pd_var 4) pd_int) (pn_cons (pd_var 0) pn_nil)))) pd_str))))))))))
theorem sc_law : FnScope ["_law_script", "_law_k", "_law_cell", "_law_bad", "_law_more", "_law_road"] ["_law_script"] (defScope s_law) := ⟨rfl, rfl, rfl, by decide +kernel, rfl, by decide +kernel, by decide +kernel⟩
theorem ok_law {f : Addr} {fd : FuncData} (T : Txt K mg C_FractionError C_BadFraction C_BadNumber C_BadOrder C_BadRoad C_BadText C_NotThere C_TooGreat) (D__law_number : DefOk P w K mg base 2 "_law_number" 2 m__law_number) (D__law_no_bound : DefOk P w K mg base 1 "_law_no_bound" 1 m__law_no_bound) (D__law_bounds_right : DefOk P w K mg base 10 "_law_bounds_right" 2 m__law_bounds_right) (D__law_numbers_right : DefOk P w K mg base 10 "_law_numbers_right" 2 m__law_numbers_right) (D__law_there_right : DefOk P w K mg base 10 "_law_there_right" 2 m__law_there_right) (D__law_word : DefOk P w K mg base 9 "_law_word" 3 m__law_word) (F : Fun K "law" "law" s_law f fd) (hm : mg "law" = some (.ref f)) : DefOk P w K mg base 11 "law" 1 m_law :=
  def_ok (S := F_law) F sc_law hm (F.binds fun _ _ _ _ _ _ us hl => match us, hl with | [_], _ => rfl) fun cdv A outer s H E C =>
(ds_cons (dd_for C (pi_R1 T.b_range (pn_cons (pd_op addR add_s pd_int (pd_blt (call_min2 C.calm) mn_s T.b_min bt_min (pn_cons pd_int (pn_cons (pd_blt lenR len_s T.b_len bt_len (pn_cons (pd_var 0) pn_nil)) pn_nil)))) pn_nil)) (gd_1 C.nd 1)
(ds_cons (dd_set C 2 (pd_call C D__law_number (by decide) (fun _ => runF_len) (pn_cons (pd_var 0) (pn_cons (pd_op mulR mul_s pd_int (pd_var 1)) pn_nil))))
(ds_cons (dd_if (pq_not (pt_v (pd_call C D__law_bounds_right (by decide) (fun _ => runF_len) (pn_cons (pd_call C D__law_no_bound (by decide) (fun _ => runF_len) (pn_cons (pd_op op_fdivW div_s (pd_var 2) pd_int) pn_nil)) (pn_cons (pd_var 2) pn_nil)))))
(ds_one (dd_ret pd_bl))
ds_nil)
(ds_cons (dd_set C 3 (pd_ix (pd_lst (pn_cons pd_int (pn_cons (pd_op op_sub sub_s (pd_neg pd_int) (pd_var 2)) (pn_cons pd_non (pn_cons pd_bl (pn_cons pd_bl (pn_cons pd_str (pn_cons (pd_lst (pn_cons pd_int pn_nil)) (pn_cons (pd_tup (pn_cons pd_int pn_nil)) (pn_cons pd_emp pn_nil)))))))))) (pd_op modR mod_s (pd_op op_fdivW div_s (pd_var 2) pd_int) pd_int)))
(ds_cons (dd_if (pq_not (pt_v (pd_call C D__law_numbers_right (by decide) (fun _ => runF_len) (pn_cons (pd_var 3) (pn_cons (pd_var 2) pn_nil)))))
(ds_one (dd_ret pd_bl))
ds_nil)
(ds_cons (dd_set C 4 (pd_call C D__law_number (by decide) (fun _ => runF_len) (pn_cons (pd_var 0) (pn_cons (pd_op addR add_s (pd_op mulR mul_s pd_int (pd_var 1)) pd_int) pn_nil))))
(ds_cons (dd_if (pq_not (pt_v (pd_call C D__law_there_right (by decide) (fun _ => runF_len) (pn_cons (pd_op addR add_s pd_int (pd_op modR mod_s (pd_op op_fdivW div_s (pd_var 4) pd_int) pd_int)) (pn_cons (pd_op modR mod_s (pd_var 4) pd_int) pn_nil)))))
(ds_one (dd_ret pd_bl))
ds_nil)
(ds_cons (dd_set C 5 (pd_ix (pd_lst (pn_cons pd_non (pn_cons pd_int (pn_cons pd_str (pn_cons (pd_tup (pn_cons pd_str (pn_cons pd_int pn_nil))) (pn_cons (pd_lst (pn_cons (pd_tup (pn_cons pd_str (pn_cons pd_int pn_nil))) pn_nil)) (pn_cons (pd_lst (pn_cons (pd_tup (pn_cons pd_str (pn_cons pd_int pn_nil))) (pn_cons (pd_tup (pn_cons pd_str (pn_cons pd_int pn_nil))) pn_nil))) (pn_cons (pd_lst (pn_cons (pd_tup (pn_cons pd_str (pn_cons pd_int pn_nil))) pn_nil)) (pn_cons pd_emp pn_nil))))))))) (pd_op modR mod_s (pd_op op_fdivW div_s (pd_var 4) pd_int) pd_int)))
(ds_one (dd_if (pq (pq_or (pt_cmp' (neR C.hu) ne_s (pd_call C D__law_word (by decide) (fun _ => runF_len) (pn_cons pd_int (pn_cons (pd_var 5) (pn_cons pd_non pn_nil)))) pd_str) (pq_or1 (pt_cmp' (neR C.hu) ne_s (pd_call C D__law_word (by decide) (fun _ => runF_len) (pn_cons pd_int (pn_cons (pd_lst (pn_cons (pd_tup (pn_cons pd_str (pn_cons pd_int pn_nil))) pn_nil)) (pn_cons pd_non pn_nil)))) pd_str))))
(ds_one (dd_ret pd_bl))
ds_nil))))))))))
(ds_one (dd_ret pd_bl)))
theorem all_mk {h : Heap} (X : K.In h) (G : h.Ns mainGlobals mg)
    (g_GREATEST : GlK K mg "GREATEST" c_GREATEST)
    (g_MOST_NUMBER : GlK K mg "MOST_NUMBER" c_MOST_NUMBER)
    (g_NOUGHT : GlK K mg "NOUGHT" c_NOUGHT)
    (g_NO_END : GlK K mg "NO_END" c_NO_END)
    (g_STEPS : GlK K mg "STEPS" c_STEPS)
    (b_ValueError : PySem.W.nsIn K mainGlobals "ValueError" = some none)
    (b_all : PySem.W.nsIn K mainGlobals "all" = some none)
    (b_bool : PySem.W.nsIn K mainGlobals "bool" = some none)
    (b_int : PySem.W.nsIn K mainGlobals "int" = some none)
    (b_isinstance : PySem.W.nsIn K mainGlobals "isinstance" = some none)
    (b_len : PySem.W.nsIn K mainGlobals "len" = some none)
    (b_list : PySem.W.nsIn K mainGlobals "list" = some none)
    (b_max : PySem.W.nsIn K mainGlobals "max" = some none)
    (b_min : PySem.W.nsIn K mainGlobals "min" = some none)
    (b_range : PySem.W.nsIn K mainGlobals "range" = some none)
    (b_str : PySem.W.nsIn K mainGlobals "str" = some none)
    (b_sum : PySem.W.nsIn K mainGlobals "sum" = some none)
    (b_tuple : PySem.W.nsIn K mainGlobals "tuple" = some none)
    (b_zip : PySem.W.nsIn K mainGlobals "zip" = some none)
    (f_is_among : FK K "is_among" s_is_among)
    (f_divisor : FK K "divisor" s_divisor)
    (f_is_pair : FK K "is_pair" s_is_pair)
    (f_is_fraction : FK K "is_fraction" s_is_fraction)
    (f_is_bound : FK K "is_bound" s_is_bound)
    (f_need_bound : FK K "need_bound" s_need_bound)
    (f_less : FK K "less" s_less)
    (f_need_number : FK K "need_number" s_need_number)
    (f_need_in : FK K "need_in" s_need_in)
    (f_row_of : FK K "row_of" s_row_of)
    (f_counts_below : FK K "counts_below" s_counts_below)
    (f_size_of : FK K "size_of" s_size_of)
    (f_place_of : FK K "place_of" s_place_of)
    (f_next_one : FK K "next_one" s_next_one)
    (f_one_ahead : FK K "one_ahead" s_one_ahead)
    (f_at_place : FK K "at_place" s_at_place)
    (f_stepped : FK K "stepped" s_stepped)
    (f_middle : FK K "middle" s_middle)
    (f_is_run : FK K "is_run" s_is_run)
    (f_is_road : FK K "is_road" s_is_road)
    (f_up_to : FK K "up_to" s_up_to)
    (f_down_to : FK K "down_to" s_down_to)
    (f_simplest : FK K "simplest" s_simplest)
    (f_need_asked : FK K "need_asked" s_need_asked)
    (f_room_for : FK K "room_for" s_room_for)
    (f_fewer : FK K "fewer" s_fewer)
    (f_low_high : FK K "low_high" s_low_high)
    (f_nearest : FK K "nearest" s_nearest)
    (f_bound_text : FK K "bound_text" s_bound_text)
    (f_road_text : FK K "road_text" s_road_text)
    (f__law_mixed : FK K "_law_mixed" s__law_mixed)
    (f__law_number : FK K "_law_number" s__law_number)
    (f__law_kind : FK K "_law_kind" s__law_kind)
    (f__law_called : FK K "_law_called" s__law_called)
    (f__law_word : FK K "_law_word" s__law_word)
    (f__law_no_bound : FK K "_law_no_bound" s__law_no_bound)
    (f__law_bounds_right : FK K "_law_bounds_right" s__law_bounds_right)
    (f__law_numbers_right : FK K "_law_numbers_right" s__law_numbers_right)
    (f__law_there_right : FK K "_law_there_right" s__law_there_right)
    (f_law : FK K "law" s_law)
    (r_BadFraction : RK K "BadFraction" C_BadFraction)
    (r_BadNumber : RK K "BadNumber" C_BadNumber)
    (r_BadOrder : RK K "BadOrder" C_BadOrder)
    (r_BadRoad : RK K "BadRoad" C_BadRoad)
    (r_NotThere : RK K "NotThere" C_NotThere)
    (r_TooGreat : RK K "TooGreat" C_TooGreat)
    (n_FractionError : PySem.W.nsIn K mainGlobals "FractionError" = some (some (.ref C_FractionError)))
    (n_BadFraction : PySem.W.nsIn K mainGlobals "BadFraction" = some (some (.ref C_BadFraction)))
    (n_BadNumber : PySem.W.nsIn K mainGlobals "BadNumber" = some (some (.ref C_BadNumber)))
    (n_BadOrder : PySem.W.nsIn K mainGlobals "BadOrder" = some (some (.ref C_BadOrder)))
    (n_BadRoad : PySem.W.nsIn K mainGlobals "BadRoad" = some (some (.ref C_BadRoad)))
    (n_BadText : PySem.W.nsIn K mainGlobals "BadText" = some (some (.ref C_BadText)))
    (n_NotThere : PySem.W.nsIn K mainGlobals "NotThere" = some (some (.ref C_NotThere)))
    (n_TooGreat : PySem.W.nsIn K mainGlobals "TooGreat" = some (some (.ref C_TooGreat)))
    (fb : PySem.W.subIn K (.ref C_FractionError) (.type "BaseException") = some true)
    (fd : PySem.W.hasDictIn K C_FractionError = true)
    (ft : PySem.W.typeIn K (.ref C_FractionError) = some (.type "type"))
    (f_BadFraction : PySem.W.subIn K (.ref C_BadFraction) (.ref C_FractionError) = some true)
    (f_BadNumber : PySem.W.subIn K (.ref C_BadNumber) (.ref C_FractionError) = some true)
    (f_BadOrder : PySem.W.subIn K (.ref C_BadOrder) (.ref C_FractionError) = some true)
    (f_BadRoad : PySem.W.subIn K (.ref C_BadRoad) (.ref C_FractionError) = some true)
    (f_BadText : PySem.W.subIn K (.ref C_BadText) (.ref C_FractionError) = some true)
    (f_NotThere : PySem.W.subIn K (.ref C_NotThere) (.ref C_FractionError) = some true)
    (f_TooGreat : PySem.W.subIn K (.ref C_TooGreat) (.ref C_FractionError) = some true)
    (x_BadFraction : ExcC K C_BadFraction)
    (x_BadNumber : ExcC K C_BadNumber)
    (x_BadOrder : ExcC K C_BadOrder)
    (x_BadRoad : ExcC K C_BadRoad)
    (x_BadText : ExcC K C_BadText)
    (x_NotThere : ExcC K C_NotThere)
    (x_TooGreat : ExcC K C_TooGreat)
    (y_BadFraction : PySem.W.typeIn K (.ref C_BadFraction) = some (.type "type"))
    (y_BadNumber : PySem.W.typeIn K (.ref C_BadNumber) = some (.type "type"))
    (y_BadOrder : PySem.W.typeIn K (.ref C_BadOrder) = some (.type "type"))
    (y_BadRoad : PySem.W.typeIn K (.ref C_BadRoad) = some (.type "type"))
    (y_BadText : PySem.W.typeIn K (.ref C_BadText) = some (.type "type"))
    (y_NotThere : PySem.W.typeIn K (.ref C_NotThere) = some (.type "type"))
    (y_TooGreat : PySem.W.typeIn K (.ref C_TooGreat) = some (.type "type"))
    (v_BadFraction : PySem.W.subIn K (.ref C_BadFraction) (.type "ValueError") = some true)
    (v_BadNumber : PySem.W.subIn K (.ref C_BadNumber) (.type "ValueError") = some true)
    (v_BadOrder : PySem.W.subIn K (.ref C_BadOrder) (.type "ValueError") = some true)
    (v_BadRoad : PySem.W.subIn K (.ref C_BadRoad) (.type "ValueError") = some true)
    (v_BadText : PySem.W.subIn K (.ref C_BadText) (.type "ValueError") = some true)
    (v_NotThere : PySem.W.subIn K (.ref C_NotThere) (.type "ValueError") = some true)
    (v_TooGreat : PySem.W.subIn K (.ref C_TooGreat) (.type "ValueError") = some true)
    (s_BadFraction_BadFraction : PySem.W.subIn K (.ref C_BadFraction) (.ref C_BadFraction) = some true)
    (s_BadFraction_BadNumber : PySem.W.subIn K (.ref C_BadFraction) (.ref C_BadNumber) = some false)
    (s_BadFraction_BadOrder : PySem.W.subIn K (.ref C_BadFraction) (.ref C_BadOrder) = some false)
    (s_BadFraction_BadRoad : PySem.W.subIn K (.ref C_BadFraction) (.ref C_BadRoad) = some false)
    (s_BadFraction_BadText : PySem.W.subIn K (.ref C_BadFraction) (.ref C_BadText) = some false)
    (s_BadFraction_NotThere : PySem.W.subIn K (.ref C_BadFraction) (.ref C_NotThere) = some false)
    (s_BadFraction_TooGreat : PySem.W.subIn K (.ref C_BadFraction) (.ref C_TooGreat) = some false)
    (s_BadNumber_BadFraction : PySem.W.subIn K (.ref C_BadNumber) (.ref C_BadFraction) = some false)
    (s_BadNumber_BadNumber : PySem.W.subIn K (.ref C_BadNumber) (.ref C_BadNumber) = some true)
    (s_BadNumber_BadOrder : PySem.W.subIn K (.ref C_BadNumber) (.ref C_BadOrder) = some false)
    (s_BadNumber_BadRoad : PySem.W.subIn K (.ref C_BadNumber) (.ref C_BadRoad) = some false)
    (s_BadNumber_BadText : PySem.W.subIn K (.ref C_BadNumber) (.ref C_BadText) = some false)
    (s_BadNumber_NotThere : PySem.W.subIn K (.ref C_BadNumber) (.ref C_NotThere) = some false)
    (s_BadNumber_TooGreat : PySem.W.subIn K (.ref C_BadNumber) (.ref C_TooGreat) = some false)
    (s_BadOrder_BadFraction : PySem.W.subIn K (.ref C_BadOrder) (.ref C_BadFraction) = some false)
    (s_BadOrder_BadNumber : PySem.W.subIn K (.ref C_BadOrder) (.ref C_BadNumber) = some false)
    (s_BadOrder_BadOrder : PySem.W.subIn K (.ref C_BadOrder) (.ref C_BadOrder) = some true)
    (s_BadOrder_BadRoad : PySem.W.subIn K (.ref C_BadOrder) (.ref C_BadRoad) = some false)
    (s_BadOrder_BadText : PySem.W.subIn K (.ref C_BadOrder) (.ref C_BadText) = some false)
    (s_BadOrder_NotThere : PySem.W.subIn K (.ref C_BadOrder) (.ref C_NotThere) = some false)
    (s_BadOrder_TooGreat : PySem.W.subIn K (.ref C_BadOrder) (.ref C_TooGreat) = some false)
    (s_BadRoad_BadFraction : PySem.W.subIn K (.ref C_BadRoad) (.ref C_BadFraction) = some false)
    (s_BadRoad_BadNumber : PySem.W.subIn K (.ref C_BadRoad) (.ref C_BadNumber) = some false)
    (s_BadRoad_BadOrder : PySem.W.subIn K (.ref C_BadRoad) (.ref C_BadOrder) = some false)
    (s_BadRoad_BadRoad : PySem.W.subIn K (.ref C_BadRoad) (.ref C_BadRoad) = some true)
    (s_BadRoad_BadText : PySem.W.subIn K (.ref C_BadRoad) (.ref C_BadText) = some false)
    (s_BadRoad_NotThere : PySem.W.subIn K (.ref C_BadRoad) (.ref C_NotThere) = some false)
    (s_BadRoad_TooGreat : PySem.W.subIn K (.ref C_BadRoad) (.ref C_TooGreat) = some false)
    (s_BadText_BadFraction : PySem.W.subIn K (.ref C_BadText) (.ref C_BadFraction) = some false)
    (s_BadText_BadNumber : PySem.W.subIn K (.ref C_BadText) (.ref C_BadNumber) = some false)
    (s_BadText_BadOrder : PySem.W.subIn K (.ref C_BadText) (.ref C_BadOrder) = some false)
    (s_BadText_BadRoad : PySem.W.subIn K (.ref C_BadText) (.ref C_BadRoad) = some false)
    (s_BadText_BadText : PySem.W.subIn K (.ref C_BadText) (.ref C_BadText) = some true)
    (s_BadText_NotThere : PySem.W.subIn K (.ref C_BadText) (.ref C_NotThere) = some false)
    (s_BadText_TooGreat : PySem.W.subIn K (.ref C_BadText) (.ref C_TooGreat) = some false)
    (s_NotThere_BadFraction : PySem.W.subIn K (.ref C_NotThere) (.ref C_BadFraction) = some false)
    (s_NotThere_BadNumber : PySem.W.subIn K (.ref C_NotThere) (.ref C_BadNumber) = some false)
    (s_NotThere_BadOrder : PySem.W.subIn K (.ref C_NotThere) (.ref C_BadOrder) = some false)
    (s_NotThere_BadRoad : PySem.W.subIn K (.ref C_NotThere) (.ref C_BadRoad) = some false)
    (s_NotThere_BadText : PySem.W.subIn K (.ref C_NotThere) (.ref C_BadText) = some false)
    (s_NotThere_NotThere : PySem.W.subIn K (.ref C_NotThere) (.ref C_NotThere) = some true)
    (s_NotThere_TooGreat : PySem.W.subIn K (.ref C_NotThere) (.ref C_TooGreat) = some false)
    (s_TooGreat_BadFraction : PySem.W.subIn K (.ref C_TooGreat) (.ref C_BadFraction) = some false)
    (s_TooGreat_BadNumber : PySem.W.subIn K (.ref C_TooGreat) (.ref C_BadNumber) = some false)
    (s_TooGreat_BadOrder : PySem.W.subIn K (.ref C_TooGreat) (.ref C_BadOrder) = some false)
    (s_TooGreat_BadRoad : PySem.W.subIn K (.ref C_TooGreat) (.ref C_BadRoad) = some false)
    (s_TooGreat_BadText : PySem.W.subIn K (.ref C_TooGreat) (.ref C_BadText) = some false)
    (s_TooGreat_NotThere : PySem.W.subIn K (.ref C_TooGreat) (.ref C_NotThere) = some false)
    (s_TooGreat_TooGreat : PySem.W.subIn K (.ref C_TooGreat) (.ref C_TooGreat) = some true)
    : DefOk P w K mg base 11 "law" 1 m_law := by
  have hm : ∀ p ∈ ([("BadFraction", C_BadFraction), ("BadNumber", C_BadNumber), ("BadOrder", C_BadOrder), ("BadRoad", C_BadRoad), ("BadText", C_BadText), ("NotThere", C_NotThere), ("TooGreat", C_TooGreat)] : List (Str × Addr)), mg p.1 = some (.ref p.2) := (all_cons (PySem.W.mg_of X G n_BadFraction) (all_cons (PySem.W.mg_of X G n_BadNumber) (all_cons (PySem.W.mg_of X G n_BadOrder) (all_cons (PySem.W.mg_of X G n_BadRoad) (all_cons (PySem.W.mg_of X G n_BadText) (all_cons (PySem.W.mg_of X G n_NotThere) (all_cons (PySem.W.mg_of X G n_TooGreat) all_nil)))))))
  have hc : ∀ p ∈ ([("BadFraction", C_BadFraction), ("BadNumber", C_BadNumber), ("BadOrder", C_BadOrder), ("BadRoad", C_BadRoad), ("BadText", C_BadText), ("NotThere", C_NotThere), ("TooGreat", C_TooGreat)] : List (Str × Addr)), ExcC K p.2 := (all_cons x_BadFraction (all_cons x_BadNumber (all_cons x_BadOrder (all_cons x_BadRoad (all_cons x_BadText (all_cons x_NotThere (all_cons x_TooGreat all_nil)))))))
  have T : Txt K mg C_FractionError C_BadFraction C_BadNumber C_BadOrder C_BadRoad C_BadText C_NotThere C_TooGreat := by
    constructor
    · exact PySem.W.mg_none_of X G b_ValueError
    · exact PySem.W.mg_none_of X G b_all
    · exact PySem.W.mg_none_of X G b_bool
    · exact PySem.W.mg_none_of X G b_int
    · exact PySem.W.mg_none_of X G b_isinstance
    · exact PySem.W.mg_none_of X G b_len
    · exact PySem.W.mg_none_of X G b_list
    · exact PySem.W.mg_none_of X G b_max
    · exact PySem.W.mg_none_of X G b_min
    · exact PySem.W.mg_none_of X G b_range
    · exact PySem.W.mg_none_of X G b_str
    · exact PySem.W.mg_none_of X G b_sum
    · exact PySem.W.mg_none_of X G b_tuple
    · exact PySem.W.mg_none_of X G b_zip
    · exact g_GREATEST
    · exact g_MOST_NUMBER
    · exact g_NOUGHT
    · exact g_NO_END
    · exact g_STEPS
    · trivial
    · exact r_BadFraction.ok X G
    · exact r_BadNumber.ok X G
    · exact r_BadOrder.ok X G
    · exact r_BadRoad.ok X G
    · exact r_NotThere.ok X G
    · exact r_TooGreat.ok X G
    · exact PySem.W.mg_of X G n_FractionError
    · exact PySem.W.mg_of X G n_BadFraction
    · exact PySem.W.mg_of X G n_BadNumber
    · exact PySem.W.mg_of X G n_BadOrder
    · exact PySem.W.mg_of X G n_BadRoad
    · exact PySem.W.mg_of X G n_BadText
    · exact PySem.W.mg_of X G n_NotThere
    · exact PySem.W.mg_of X G n_TooGreat
    · exact exck_mk hm hc (all_cons (by show PySem.W.kitOne K (.ref C_BadFraction) (.ref C_BadFraction) = some (exKin "BadFraction" "BadFraction"); rw [show exKin "BadFraction" "BadFraction" = true by decide +kernel]; exact kit_ref x_BadFraction.hd y_BadFraction s_BadFraction_BadFraction s_BadFraction_BadFraction) (all_cons (by show PySem.W.kitOne K (.ref C_BadNumber) (.ref C_BadFraction) = some (exKin "BadNumber" "BadFraction"); rw [show exKin "BadNumber" "BadFraction" = false by decide +kernel]; exact kit_ref x_BadFraction.hd y_BadFraction s_BadNumber_BadFraction s_BadNumber_BadNumber) (all_cons (by show PySem.W.kitOne K (.ref C_BadOrder) (.ref C_BadFraction) = some (exKin "BadOrder" "BadFraction"); rw [show exKin "BadOrder" "BadFraction" = false by decide +kernel]; exact kit_ref x_BadFraction.hd y_BadFraction s_BadOrder_BadFraction s_BadOrder_BadOrder) (all_cons (by show PySem.W.kitOne K (.ref C_BadRoad) (.ref C_BadFraction) = some (exKin "BadRoad" "BadFraction"); rw [show exKin "BadRoad" "BadFraction" = false by decide +kernel]; exact kit_ref x_BadFraction.hd y_BadFraction s_BadRoad_BadFraction s_BadRoad_BadRoad) (all_cons (by show PySem.W.kitOne K (.ref C_BadText) (.ref C_BadFraction) = some (exKin "BadText" "BadFraction"); rw [show exKin "BadText" "BadFraction" = false by decide +kernel]; exact kit_ref x_BadFraction.hd y_BadFraction s_BadText_BadFraction s_BadText_BadText) (all_cons (by show PySem.W.kitOne K (.ref C_NotThere) (.ref C_BadFraction) = some (exKin "NotThere" "BadFraction"); rw [show exKin "NotThere" "BadFraction" = false by decide +kernel]; exact kit_ref x_BadFraction.hd y_BadFraction s_NotThere_BadFraction s_NotThere_NotThere) (all_cons (by show PySem.W.kitOne K (.ref C_TooGreat) (.ref C_BadFraction) = some (exKin "TooGreat" "BadFraction"); rw [show exKin "TooGreat" "BadFraction" = false by decide +kernel]; exact kit_ref x_BadFraction.hd y_BadFraction s_TooGreat_BadFraction s_TooGreat_TooGreat) all_nil)))))))
    · exact exck_mk hm hc (all_cons (by show PySem.W.kitOne K (.ref C_BadFraction) (.ref C_BadNumber) = some (exKin "BadFraction" "BadNumber"); rw [show exKin "BadFraction" "BadNumber" = false by decide +kernel]; exact kit_ref x_BadNumber.hd y_BadNumber s_BadFraction_BadNumber s_BadFraction_BadFraction) (all_cons (by show PySem.W.kitOne K (.ref C_BadNumber) (.ref C_BadNumber) = some (exKin "BadNumber" "BadNumber"); rw [show exKin "BadNumber" "BadNumber" = true by decide +kernel]; exact kit_ref x_BadNumber.hd y_BadNumber s_BadNumber_BadNumber s_BadNumber_BadNumber) (all_cons (by show PySem.W.kitOne K (.ref C_BadOrder) (.ref C_BadNumber) = some (exKin "BadOrder" "BadNumber"); rw [show exKin "BadOrder" "BadNumber" = false by decide +kernel]; exact kit_ref x_BadNumber.hd y_BadNumber s_BadOrder_BadNumber s_BadOrder_BadOrder) (all_cons (by show PySem.W.kitOne K (.ref C_BadRoad) (.ref C_BadNumber) = some (exKin "BadRoad" "BadNumber"); rw [show exKin "BadRoad" "BadNumber" = false by decide +kernel]; exact kit_ref x_BadNumber.hd y_BadNumber s_BadRoad_BadNumber s_BadRoad_BadRoad) (all_cons (by show PySem.W.kitOne K (.ref C_BadText) (.ref C_BadNumber) = some (exKin "BadText" "BadNumber"); rw [show exKin "BadText" "BadNumber" = false by decide +kernel]; exact kit_ref x_BadNumber.hd y_BadNumber s_BadText_BadNumber s_BadText_BadText) (all_cons (by show PySem.W.kitOne K (.ref C_NotThere) (.ref C_BadNumber) = some (exKin "NotThere" "BadNumber"); rw [show exKin "NotThere" "BadNumber" = false by decide +kernel]; exact kit_ref x_BadNumber.hd y_BadNumber s_NotThere_BadNumber s_NotThere_NotThere) (all_cons (by show PySem.W.kitOne K (.ref C_TooGreat) (.ref C_BadNumber) = some (exKin "TooGreat" "BadNumber"); rw [show exKin "TooGreat" "BadNumber" = false by decide +kernel]; exact kit_ref x_BadNumber.hd y_BadNumber s_TooGreat_BadNumber s_TooGreat_TooGreat) all_nil)))))))
    · exact exck_mk hm hc (all_cons (by show PySem.W.kitOne K (.ref C_BadFraction) (.ref C_BadOrder) = some (exKin "BadFraction" "BadOrder"); rw [show exKin "BadFraction" "BadOrder" = false by decide +kernel]; exact kit_ref x_BadOrder.hd y_BadOrder s_BadFraction_BadOrder s_BadFraction_BadFraction) (all_cons (by show PySem.W.kitOne K (.ref C_BadNumber) (.ref C_BadOrder) = some (exKin "BadNumber" "BadOrder"); rw [show exKin "BadNumber" "BadOrder" = false by decide +kernel]; exact kit_ref x_BadOrder.hd y_BadOrder s_BadNumber_BadOrder s_BadNumber_BadNumber) (all_cons (by show PySem.W.kitOne K (.ref C_BadOrder) (.ref C_BadOrder) = some (exKin "BadOrder" "BadOrder"); rw [show exKin "BadOrder" "BadOrder" = true by decide +kernel]; exact kit_ref x_BadOrder.hd y_BadOrder s_BadOrder_BadOrder s_BadOrder_BadOrder) (all_cons (by show PySem.W.kitOne K (.ref C_BadRoad) (.ref C_BadOrder) = some (exKin "BadRoad" "BadOrder"); rw [show exKin "BadRoad" "BadOrder" = false by decide +kernel]; exact kit_ref x_BadOrder.hd y_BadOrder s_BadRoad_BadOrder s_BadRoad_BadRoad) (all_cons (by show PySem.W.kitOne K (.ref C_BadText) (.ref C_BadOrder) = some (exKin "BadText" "BadOrder"); rw [show exKin "BadText" "BadOrder" = false by decide +kernel]; exact kit_ref x_BadOrder.hd y_BadOrder s_BadText_BadOrder s_BadText_BadText) (all_cons (by show PySem.W.kitOne K (.ref C_NotThere) (.ref C_BadOrder) = some (exKin "NotThere" "BadOrder"); rw [show exKin "NotThere" "BadOrder" = false by decide +kernel]; exact kit_ref x_BadOrder.hd y_BadOrder s_NotThere_BadOrder s_NotThere_NotThere) (all_cons (by show PySem.W.kitOne K (.ref C_TooGreat) (.ref C_BadOrder) = some (exKin "TooGreat" "BadOrder"); rw [show exKin "TooGreat" "BadOrder" = false by decide +kernel]; exact kit_ref x_BadOrder.hd y_BadOrder s_TooGreat_BadOrder s_TooGreat_TooGreat) all_nil)))))))
    · exact exck_mk hm hc (all_cons (by show PySem.W.kitOne K (.ref C_BadFraction) (.ref C_BadRoad) = some (exKin "BadFraction" "BadRoad"); rw [show exKin "BadFraction" "BadRoad" = false by decide +kernel]; exact kit_ref x_BadRoad.hd y_BadRoad s_BadFraction_BadRoad s_BadFraction_BadFraction) (all_cons (by show PySem.W.kitOne K (.ref C_BadNumber) (.ref C_BadRoad) = some (exKin "BadNumber" "BadRoad"); rw [show exKin "BadNumber" "BadRoad" = false by decide +kernel]; exact kit_ref x_BadRoad.hd y_BadRoad s_BadNumber_BadRoad s_BadNumber_BadNumber) (all_cons (by show PySem.W.kitOne K (.ref C_BadOrder) (.ref C_BadRoad) = some (exKin "BadOrder" "BadRoad"); rw [show exKin "BadOrder" "BadRoad" = false by decide +kernel]; exact kit_ref x_BadRoad.hd y_BadRoad s_BadOrder_BadRoad s_BadOrder_BadOrder) (all_cons (by show PySem.W.kitOne K (.ref C_BadRoad) (.ref C_BadRoad) = some (exKin "BadRoad" "BadRoad"); rw [show exKin "BadRoad" "BadRoad" = true by decide +kernel]; exact kit_ref x_BadRoad.hd y_BadRoad s_BadRoad_BadRoad s_BadRoad_BadRoad) (all_cons (by show PySem.W.kitOne K (.ref C_BadText) (.ref C_BadRoad) = some (exKin "BadText" "BadRoad"); rw [show exKin "BadText" "BadRoad" = false by decide +kernel]; exact kit_ref x_BadRoad.hd y_BadRoad s_BadText_BadRoad s_BadText_BadText) (all_cons (by show PySem.W.kitOne K (.ref C_NotThere) (.ref C_BadRoad) = some (exKin "NotThere" "BadRoad"); rw [show exKin "NotThere" "BadRoad" = false by decide +kernel]; exact kit_ref x_BadRoad.hd y_BadRoad s_NotThere_BadRoad s_NotThere_NotThere) (all_cons (by show PySem.W.kitOne K (.ref C_TooGreat) (.ref C_BadRoad) = some (exKin "TooGreat" "BadRoad"); rw [show exKin "TooGreat" "BadRoad" = false by decide +kernel]; exact kit_ref x_BadRoad.hd y_BadRoad s_TooGreat_BadRoad s_TooGreat_TooGreat) all_nil)))))))
    · exact exck_mk hm hc (all_cons (by show PySem.W.kitOne K (.ref C_BadFraction) (.ref C_BadText) = some (exKin "BadFraction" "BadText"); rw [show exKin "BadFraction" "BadText" = false by decide +kernel]; exact kit_ref x_BadText.hd y_BadText s_BadFraction_BadText s_BadFraction_BadFraction) (all_cons (by show PySem.W.kitOne K (.ref C_BadNumber) (.ref C_BadText) = some (exKin "BadNumber" "BadText"); rw [show exKin "BadNumber" "BadText" = false by decide +kernel]; exact kit_ref x_BadText.hd y_BadText s_BadNumber_BadText s_BadNumber_BadNumber) (all_cons (by show PySem.W.kitOne K (.ref C_BadOrder) (.ref C_BadText) = some (exKin "BadOrder" "BadText"); rw [show exKin "BadOrder" "BadText" = false by decide +kernel]; exact kit_ref x_BadText.hd y_BadText s_BadOrder_BadText s_BadOrder_BadOrder) (all_cons (by show PySem.W.kitOne K (.ref C_BadRoad) (.ref C_BadText) = some (exKin "BadRoad" "BadText"); rw [show exKin "BadRoad" "BadText" = false by decide +kernel]; exact kit_ref x_BadText.hd y_BadText s_BadRoad_BadText s_BadRoad_BadRoad) (all_cons (by show PySem.W.kitOne K (.ref C_BadText) (.ref C_BadText) = some (exKin "BadText" "BadText"); rw [show exKin "BadText" "BadText" = true by decide +kernel]; exact kit_ref x_BadText.hd y_BadText s_BadText_BadText s_BadText_BadText) (all_cons (by show PySem.W.kitOne K (.ref C_NotThere) (.ref C_BadText) = some (exKin "NotThere" "BadText"); rw [show exKin "NotThere" "BadText" = false by decide +kernel]; exact kit_ref x_BadText.hd y_BadText s_NotThere_BadText s_NotThere_NotThere) (all_cons (by show PySem.W.kitOne K (.ref C_TooGreat) (.ref C_BadText) = some (exKin "TooGreat" "BadText"); rw [show exKin "TooGreat" "BadText" = false by decide +kernel]; exact kit_ref x_BadText.hd y_BadText s_TooGreat_BadText s_TooGreat_TooGreat) all_nil)))))))
    · exact exck_mk hm hc (all_cons (by show PySem.W.kitOne K (.ref C_BadFraction) (.ref C_NotThere) = some (exKin "BadFraction" "NotThere"); rw [show exKin "BadFraction" "NotThere" = false by decide +kernel]; exact kit_ref x_NotThere.hd y_NotThere s_BadFraction_NotThere s_BadFraction_BadFraction) (all_cons (by show PySem.W.kitOne K (.ref C_BadNumber) (.ref C_NotThere) = some (exKin "BadNumber" "NotThere"); rw [show exKin "BadNumber" "NotThere" = false by decide +kernel]; exact kit_ref x_NotThere.hd y_NotThere s_BadNumber_NotThere s_BadNumber_BadNumber) (all_cons (by show PySem.W.kitOne K (.ref C_BadOrder) (.ref C_NotThere) = some (exKin "BadOrder" "NotThere"); rw [show exKin "BadOrder" "NotThere" = false by decide +kernel]; exact kit_ref x_NotThere.hd y_NotThere s_BadOrder_NotThere s_BadOrder_BadOrder) (all_cons (by show PySem.W.kitOne K (.ref C_BadRoad) (.ref C_NotThere) = some (exKin "BadRoad" "NotThere"); rw [show exKin "BadRoad" "NotThere" = false by decide +kernel]; exact kit_ref x_NotThere.hd y_NotThere s_BadRoad_NotThere s_BadRoad_BadRoad) (all_cons (by show PySem.W.kitOne K (.ref C_BadText) (.ref C_NotThere) = some (exKin "BadText" "NotThere"); rw [show exKin "BadText" "NotThere" = false by decide +kernel]; exact kit_ref x_NotThere.hd y_NotThere s_BadText_NotThere s_BadText_BadText) (all_cons (by show PySem.W.kitOne K (.ref C_NotThere) (.ref C_NotThere) = some (exKin "NotThere" "NotThere"); rw [show exKin "NotThere" "NotThere" = true by decide +kernel]; exact kit_ref x_NotThere.hd y_NotThere s_NotThere_NotThere s_NotThere_NotThere) (all_cons (by show PySem.W.kitOne K (.ref C_TooGreat) (.ref C_NotThere) = some (exKin "TooGreat" "NotThere"); rw [show exKin "TooGreat" "NotThere" = false by decide +kernel]; exact kit_ref x_NotThere.hd y_NotThere s_TooGreat_NotThere s_TooGreat_TooGreat) all_nil)))))))
    · exact exck_mk hm hc (all_cons (by show PySem.W.kitOne K (.ref C_BadFraction) (.ref C_TooGreat) = some (exKin "BadFraction" "TooGreat"); rw [show exKin "BadFraction" "TooGreat" = false by decide +kernel]; exact kit_ref x_TooGreat.hd y_TooGreat s_BadFraction_TooGreat s_BadFraction_BadFraction) (all_cons (by show PySem.W.kitOne K (.ref C_BadNumber) (.ref C_TooGreat) = some (exKin "BadNumber" "TooGreat"); rw [show exKin "BadNumber" "TooGreat" = false by decide +kernel]; exact kit_ref x_TooGreat.hd y_TooGreat s_BadNumber_TooGreat s_BadNumber_BadNumber) (all_cons (by show PySem.W.kitOne K (.ref C_BadOrder) (.ref C_TooGreat) = some (exKin "BadOrder" "TooGreat"); rw [show exKin "BadOrder" "TooGreat" = false by decide +kernel]; exact kit_ref x_TooGreat.hd y_TooGreat s_BadOrder_TooGreat s_BadOrder_BadOrder) (all_cons (by show PySem.W.kitOne K (.ref C_BadRoad) (.ref C_TooGreat) = some (exKin "BadRoad" "TooGreat"); rw [show exKin "BadRoad" "TooGreat" = false by decide +kernel]; exact kit_ref x_TooGreat.hd y_TooGreat s_BadRoad_TooGreat s_BadRoad_BadRoad) (all_cons (by show PySem.W.kitOne K (.ref C_BadText) (.ref C_TooGreat) = some (exKin "BadText" "TooGreat"); rw [show exKin "BadText" "TooGreat" = false by decide +kernel]; exact kit_ref x_TooGreat.hd y_TooGreat s_BadText_TooGreat s_BadText_BadText) (all_cons (by show PySem.W.kitOne K (.ref C_NotThere) (.ref C_TooGreat) = some (exKin "NotThere" "TooGreat"); rw [show exKin "NotThere" "TooGreat" = false by decide +kernel]; exact kit_ref x_TooGreat.hd y_TooGreat s_NotThere_TooGreat s_NotThere_NotThere) (all_cons (by show PySem.W.kitOne K (.ref C_TooGreat) (.ref C_TooGreat) = some (exKin "TooGreat" "TooGreat"); rw [show exKin "TooGreat" "TooGreat" = true by decide +kernel]; exact kit_ref x_TooGreat.hd y_TooGreat s_TooGreat_TooGreat s_TooGreat_TooGreat) all_nil)))))))
    · exact exck_mk hm hc (all_cons (by show PySem.W.kitOne K (.ref C_BadFraction) (.type "ValueError") = some (exKin "BadFraction" "ValueError"); rw [show exKin "BadFraction" "ValueError" = true by decide +kernel]; exact kit_ve v_BadFraction) (all_cons (by show PySem.W.kitOne K (.ref C_BadNumber) (.type "ValueError") = some (exKin "BadNumber" "ValueError"); rw [show exKin "BadNumber" "ValueError" = true by decide +kernel]; exact kit_ve v_BadNumber) (all_cons (by show PySem.W.kitOne K (.ref C_BadOrder) (.type "ValueError") = some (exKin "BadOrder" "ValueError"); rw [show exKin "BadOrder" "ValueError" = true by decide +kernel]; exact kit_ve v_BadOrder) (all_cons (by show PySem.W.kitOne K (.ref C_BadRoad) (.type "ValueError") = some (exKin "BadRoad" "ValueError"); rw [show exKin "BadRoad" "ValueError" = true by decide +kernel]; exact kit_ve v_BadRoad) (all_cons (by show PySem.W.kitOne K (.ref C_BadText) (.type "ValueError") = some (exKin "BadText" "ValueError"); rw [show exKin "BadText" "ValueError" = true by decide +kernel]; exact kit_ve v_BadText) (all_cons (by show PySem.W.kitOne K (.ref C_NotThere) (.type "ValueError") = some (exKin "NotThere" "ValueError"); rw [show exKin "NotThere" "ValueError" = true by decide +kernel]; exact kit_ve v_NotThere) (all_cons (by show PySem.W.kitOne K (.ref C_TooGreat) (.type "ValueError") = some (exKin "TooGreat" "ValueError"); rw [show exKin "TooGreat" "ValueError" = true by decide +kernel]; exact kit_ve v_TooGreat) all_nil)))))))
    · exact tryk_mk hm (PySem.W.mg_of X G n_FractionError) fb fd ft (all_cons (f_BadFraction) (all_cons (f_BadNumber) (all_cons (f_BadOrder) (all_cons (f_BadRoad) (all_cons (f_BadText) (all_cons (f_NotThere) (all_cons (f_TooGreat) all_nil)))))))
  obtain ⟨_, _, a_is_among, F_is_among⟩ := f_is_among
  have D_is_among := ok_is_among (P := P) (w := w) (base := base) T  F_is_among (PySem.W.mg_of X G a_is_among)
  obtain ⟨_, _, a_divisor, F_divisor⟩ := f_divisor
  have D_divisor := ok_divisor (P := P) (w := w) (base := base) T  F_divisor (PySem.W.mg_of X G a_divisor)
  obtain ⟨_, _, a_is_pair, F_is_pair⟩ := f_is_pair
  have D_is_pair := ok_is_pair (P := P) (w := w) (base := base) T D_is_among F_is_pair (PySem.W.mg_of X G a_is_pair)
  obtain ⟨_, _, a_is_fraction, F_is_fraction⟩ := f_is_fraction
  have D_is_fraction := ok_is_fraction (P := P) (w := w) (base := base) T D_is_pair D_divisor F_is_fraction (PySem.W.mg_of X G a_is_fraction)
  obtain ⟨_, _, a_is_bound, F_is_bound⟩ := f_is_bound
  have D_is_bound := ok_is_bound (P := P) (w := w) (base := base) T D_is_fraction D_is_pair F_is_bound (PySem.W.mg_of X G a_is_bound)
  obtain ⟨_, _, a_need_bound, F_need_bound⟩ := f_need_bound
  have D_need_bound := ok_need_bound (P := P) (w := w) (base := base) T D_is_bound F_need_bound (PySem.W.mg_of X G a_need_bound)
  obtain ⟨_, _, a_less, F_less⟩ := f_less
  have D_less := ok_less (P := P) (w := w) (base := base) T  F_less (PySem.W.mg_of X G a_less)
  obtain ⟨_, _, a_need_number, F_need_number⟩ := f_need_number
  have D_need_number := ok_need_number (P := P) (w := w) (base := base) T D_is_among F_need_number (PySem.W.mg_of X G a_need_number)
  obtain ⟨_, _, a_need_in, F_need_in⟩ := f_need_in
  have D_need_in := ok_need_in (P := P) (w := w) (base := base) T D_need_bound D_need_number F_need_in (PySem.W.mg_of X G a_need_in)
  obtain ⟨_, _, a_row_of, F_row_of⟩ := f_row_of
  have D_row_of := ok_row_of (P := P) (w := w) (base := base) T D_need_number F_row_of (PySem.W.mg_of X G a_row_of)
  obtain ⟨_, _, a_counts_below, F_counts_below⟩ := f_counts_below
  have D_counts_below := ok_counts_below (P := P) (w := w) (base := base) T  F_counts_below (PySem.W.mg_of X G a_counts_below)
  obtain ⟨_, _, a_size_of, F_size_of⟩ := f_size_of
  have D_size_of := ok_size_of (P := P) (w := w) (base := base) T D_need_number D_counts_below F_size_of (PySem.W.mg_of X G a_size_of)
  obtain ⟨_, _, a_place_of, F_place_of⟩ := f_place_of
  have D_place_of := ok_place_of (P := P) (w := w) (base := base) T D_need_in D_counts_below F_place_of (PySem.W.mg_of X G a_place_of)
  obtain ⟨_, _, a_next_one, F_next_one⟩ := f_next_one
  have D_next_one := ok_next_one (P := P) (w := w) (base := base) T D_need_in F_next_one (PySem.W.mg_of X G a_next_one)
  obtain ⟨_, _, a_one_ahead, F_one_ahead⟩ := f_one_ahead
  have D_one_ahead := ok_one_ahead (P := P) (w := w) (base := base) T D_need_in F_one_ahead (PySem.W.mg_of X G a_one_ahead)
  obtain ⟨_, _, a_at_place, F_at_place⟩ := f_at_place
  have D_at_place := ok_at_place (P := P) (w := w) (base := base) T D_row_of D_is_among F_at_place (PySem.W.mg_of X G a_at_place)
  obtain ⟨_, _, a_stepped, F_stepped⟩ := f_stepped
  have D_stepped := ok_stepped (P := P) (w := w) (base := base) T  F_stepped (PySem.W.mg_of X G a_stepped)
  obtain ⟨_, _, a_middle, F_middle⟩ := f_middle
  have D_middle := ok_middle (P := P) (w := w) (base := base) T  F_middle (PySem.W.mg_of X G a_middle)
  obtain ⟨_, _, a_is_run, F_is_run⟩ := f_is_run
  have D_is_run := ok_is_run (P := P) (w := w) (base := base) T D_is_among F_is_run (PySem.W.mg_of X G a_is_run)
  obtain ⟨_, _, a_is_road, F_is_road⟩ := f_is_road
  have D_is_road := ok_is_road (P := P) (w := w) (base := base) T D_is_run F_is_road (PySem.W.mg_of X G a_is_road)
  obtain ⟨_, _, a_up_to, F_up_to⟩ := f_up_to
  have D_up_to := ok_up_to (P := P) (w := w) (base := base) T  F_up_to (PySem.W.mg_of X G a_up_to)
  obtain ⟨_, _, a_down_to, F_down_to⟩ := f_down_to
  have D_down_to := ok_down_to (P := P) (w := w) (base := base) T  F_down_to (PySem.W.mg_of X G a_down_to)
  obtain ⟨_, _, a_simplest, F_simplest⟩ := f_simplest
  have D_simplest := ok_simplest (P := P) (w := w) (base := base) T D_need_bound D_less D_middle D_up_to D_stepped D_down_to F_simplest (PySem.W.mg_of X G a_simplest)
  obtain ⟨_, _, a_need_asked, F_need_asked⟩ := f_need_asked
  have D_need_asked := ok_need_asked (P := P) (w := w) (base := base) T D_is_bound D_is_among F_need_asked (PySem.W.mg_of X G a_need_asked)
  obtain ⟨_, _, a_room_for, F_room_for⟩ := f_room_for
  have D_room_for := ok_room_for (P := P) (w := w) (base := base) T  F_room_for (PySem.W.mg_of X G a_room_for)
  obtain ⟨_, _, a_fewer, F_fewer⟩ := f_fewer
  have D_fewer := ok_fewer (P := P) (w := w) (base := base) T  F_fewer (PySem.W.mg_of X G a_fewer)
  obtain ⟨_, _, a_low_high, F_low_high⟩ := f_low_high
  have D_low_high := ok_low_high (P := P) (w := w) (base := base) T D_need_asked D_up_to D_room_for D_fewer D_stepped D_down_to F_low_high (PySem.W.mg_of X G a_low_high)
  obtain ⟨_, _, a_nearest, F_nearest⟩ := f_nearest
  have D_nearest := ok_nearest (P := P) (w := w) (base := base) T D_low_high F_nearest (PySem.W.mg_of X G a_nearest)
  obtain ⟨_, _, a_bound_text, F_bound_text⟩ := f_bound_text
  have D_bound_text := ok_bound_text (P := P) (w := w) (base := base) T D_need_bound F_bound_text (PySem.W.mg_of X G a_bound_text)
  obtain ⟨_, _, a_road_text, F_road_text⟩ := f_road_text
  have D_road_text := ok_road_text (P := P) (w := w) (base := base) T D_is_road F_road_text (PySem.W.mg_of X G a_road_text)
  obtain ⟨_, _, a__law_mixed, F__law_mixed⟩ := f__law_mixed
  have D__law_mixed := ok__law_mixed (P := P) (w := w) (base := base) T  F__law_mixed (PySem.W.mg_of X G a__law_mixed)
  obtain ⟨_, _, a__law_number, F__law_number⟩ := f__law_number
  have D__law_number := ok__law_number (P := P) (w := w) (base := base) T D__law_mixed F__law_number (PySem.W.mg_of X G a__law_number)
  obtain ⟨_, _, a__law_kind, F__law_kind⟩ := f__law_kind
  have D__law_kind := ok__law_kind (P := P) (w := w) (base := base) T  F__law_kind (PySem.W.mg_of X G a__law_kind)
  obtain ⟨_, _, a__law_called, F__law_called⟩ := f__law_called
  have D__law_called := ok__law_called (P := P) (w := w) (base := base) T D_simplest D_low_high D_nearest D_place_of D_next_one D_one_ahead D_at_place D_row_of D_size_of D_bound_text D_road_text F__law_called (PySem.W.mg_of X G a__law_called)
  obtain ⟨_, _, a__law_word, F__law_word⟩ := f__law_word
  have D__law_word := ok__law_word (P := P) (w := w) (base := base) T D__law_called D__law_kind F__law_word (PySem.W.mg_of X G a__law_word)
  obtain ⟨_, _, a__law_no_bound, F__law_no_bound⟩ := f__law_no_bound
  have D__law_no_bound := ok__law_no_bound (P := P) (w := w) (base := base) T  F__law_no_bound (PySem.W.mg_of X G a__law_no_bound)
  obtain ⟨_, _, a__law_bounds_right, F__law_bounds_right⟩ := f__law_bounds_right
  have D__law_bounds_right := ok__law_bounds_right (P := P) (w := w) (base := base) T D__law_word F__law_bounds_right (PySem.W.mg_of X G a__law_bounds_right)
  obtain ⟨_, _, a__law_numbers_right, F__law_numbers_right⟩ := f__law_numbers_right
  have D__law_numbers_right := ok__law_numbers_right (P := P) (w := w) (base := base) T D__law_word F__law_numbers_right (PySem.W.mg_of X G a__law_numbers_right)
  obtain ⟨_, _, a__law_there_right, F__law_there_right⟩ := f__law_there_right
  have D__law_there_right := ok__law_there_right (P := P) (w := w) (base := base) T D__law_word D_size_of F__law_there_right (PySem.W.mg_of X G a__law_there_right)
  obtain ⟨_, _, a_law, F_law⟩ := f_law
  have D_law := ok_law (P := P) (w := w) (base := base) T D__law_number D__law_no_bound D__law_bounds_right D__law_numbers_right D__law_there_right D__law_word F_law (PySem.W.mg_of X G a_law)
  exact D_law
end
end Lw
set_option Elab.async false
set_option linter.all false
set_option maxRecDepth 100000
set_option maxHeartbeats 4000000
namespace Lw
open PySem L2 Sb
noncomputable def wayM (w : Int) (x y : Dt) : Rs Sl :=
  if w = 0 then m_simplest [x, y] else if w = 1 then m_low_high [x, y] else if w = 2 then m_nearest [x, y] else if w = 3 then m_place_of [x, y] else if w = 4 then m_next_one [x, y] else if w = 5 then m_one_ahead [x, y]
  else if w = 6 then m_at_place [x, y] else if w = 7 then m_row_of [y] else if w = 8 then m_size_of [y] else if w = 9 then m_bound_text [x] else m_road_text [x]
theorem called_ex {w : Int} {x y : Dt} {c : Str} (hw : 0 ≤ w ∧ w ≤ 10) (h : wayM w x y = .exc c) : m__law_called [.int w, x, y] = .exc c := by
  have k : w = 0 ∨ w = 1 ∨ w = 2 ∨ w = 3 ∨ w = 4 ∨ w = 5 ∨ w = 6 ∨ w = 7 ∨ w = 8 ∨ w = 9 ∨ w = 10 := by omega
  unfold wayM at h
  unfold m__law_called F__law_called
  rcases k with k | k | k | k | k | k | k | k | k | k | k <;> subst k <;> simp at h <;> simp [h]
theorem called_ok {w : Int} {x y : Dt} {v : Sl} {d : Dt} (hw : 0 ≤ w ∧ w ≤ 10) (h : wayM w x y = .ok v) (hv : unO v = .ok d) : m__law_called [.int w, x, y] = .ok (.d d) := by
  have k : w = 0 ∨ w = 1 ∨ w = 2 ∨ w = 3 ∨ w = 4 ∨ w = 5 ∨ w = 6 ∨ w = 7 ∨ w = 8 ∨ w = 9 ∨ w = 10 := by omega
  unfold wayM at h
  unfold m__law_called F__law_called
  rcases k with k | k | k | k | k | k | k | k | k | k | k <;> subst k <;> simp at h <;> simp [h, hv]
theorem word_ex {w : Int} {x y v : Dt} {c : Str} (hw : 0 ≤ w ∧ w ≤ 10) (h : wayM w x y = .exc c) (hc : c ∈ exCs) (k : m__law_kind [exn c] = .ok (.d v)) : m__law_word [.int w, x, y] = .ok (.d v) := by
  have e := called_ex hw h
  unfold m__law_word F__law_word
  simp [-List.mem_cons, e, hc, k]
theorem word_ok {w : Int} {x y : Dt} {v : Sl} {d : Dt} (hw : 0 ≤ w ∧ w ≤ 10) (h : wayM w x y = .ok v) (hv : unO v = .ok d) : m__law_word [.int w, x, y] = .ok (.d (.str "")) := by
  have e := called_ok hw h hv
  unfold m__law_word F__law_word
  simp [e]
theorem word_frac {w : Int} {x y : Dt} (hw : 0 ≤ w ∧ w ≤ 10) (h : wayM w x y = .exc "BadFraction") : m__law_word [.int w, x, y] = .ok (.d (.str "fraction")) := word_ex hw h ex_in_BadFraction kind_BadFraction
theorem word_num {w : Int} {x y : Dt} (hw : 0 ≤ w ∧ w ≤ 10) (h : wayM w x y = .exc "BadNumber") : m__law_word [.int w, x, y] = .ok (.d (.str "number")) := word_ex hw h ex_in_BadNumber kind_BadNumber
theorem word_there {w : Int} {x y : Dt} (hw : 0 ≤ w ∧ w ≤ 10) (h : wayM w x y = .exc "NotThere") : m__law_word [.int w, x, y] = .ok (.d (.str "there")) := word_ex hw h ex_in_NotThere kind_NotThere
theorem word_road {w : Int} {x y : Dt} (hw : 0 ≤ w ∧ w ≤ 10) (h : wayM w x y = .exc "BadRoad") : m__law_word [.int w, x, y] = .ok (.d (.str "road")) := word_ex hw h ex_in_BadRoad kind_BadRoad
/-! ### no bounds -/
theorem asked_odd {x y : Dt} (O : Odd x) : m_need_asked [x, y] = .exc "BadFraction" := by
  unfold m_need_asked F_need_asked
  simp [O.b]
theorem in_odd {x y : Dt} (O : Odd x) : m_need_in [x, y] = .exc "BadFraction" := by
  unfold m_need_in F_need_in
  simp [need_odd O.b]
theorem way_odd {w : Int} {x y : Dt} (hw : (0 ≤ w ∧ w ≤ 5) ∨ w = 9) (O : Odd x) : wayM w x y = .exc "BadFraction" := by
  have k : w = 0 ∨ w = 1 ∨ w = 2 ∨ w = 3 ∨ w = 4 ∨ w = 5 ∨ w = 9 := by omega
  have a := asked_odd (y := y) O
  have b := in_odd (y := y) O
  have lh : m_low_high [x, y] = .exc "BadFraction" := by
    unfold m_low_high F_low_high
    simp [a]
  unfold wayM
  rcases k with k | k | k | k | k | k | k <;> subst k
  · rw [if_pos rfl]
    unfold m_simplest F_simplest
    simp [need_odd O.b]
  · rw [if_neg (by decide), if_pos rfl]
    exact lh
  · rw [if_neg (by decide), if_neg (by decide), if_pos rfl]
    unfold m_nearest F_nearest
    simp [lh]
  · simp only [Int.reduceEq, if_false, if_true]
    unfold m_place_of F_place_of
    simp [b]
  · simp only [Int.reduceEq, if_false, if_true]
    unfold m_next_one F_next_one
    simp [b]
  · simp only [Int.reduceEq, if_false, if_true]
    unfold m_one_ahead F_one_ahead
    simp [b]
  · simp only [Int.reduceEq, if_false, if_true]
    unfold m_bound_text F_bound_text
    simp [need_odd O.b]
theorem isB_12 : IsB 1 2 := ⟨by decide, by decide, by decide, by decide, by decide⟩
theorem isB_37 : IsB 3 7 := ⟨by decide, by decide, by decide, by decide, by decide⟩
theorem isB_21 : IsB 2 1 := ⟨by decide, by decide, by decide, by decide, by decide⟩
theorem isB_11 : IsB 1 1 := ⟨by decide, by decide, by decide, by decide, by decide⟩
theorem text_01 : ∃ v, m_bound_text [fr 0 1] = .ok (.d v) := by
  have n := isB_01.need
  have e0 : strD (.int 0) = .ok (.str (Str.ofString (toString (0 : Int)))) := str_is (by decide)
  have e1 : strD (.int 1) = .ok (.str (Str.ofString (toString (1 : Int)))) := str_is (by decide)
  have l0 : (Str.ofString (toString (0 : Int))).length = 1 := by decide +kernel
  have l1 : (Str.ofString (toString (1 : Int))).length = 1 := by decide +kernel
  generalize Str.ofString (toString (0 : Int)) = z0 at *
  generalize Str.ofString (toString (1 : Int)) = z1 at *
  have a1 : addD (.str z0) (.str "/") = .ok (.str (z0 ++ "/")) := if_pos (by rw [l0]; decide +kernel)
  have l2 : (z0 ++ ("/" : Str)).length = 2 := by
    rw [strLen_append, l0]
    decide +kernel
  have a2 : addD (.str (z0 ++ "/")) (.str z1) = .ok (.str (z0 ++ "/" ++ z1)) := if_pos (by rw [l2, l1]; decide)
  refine ⟨.str (z0 ++ "/" ++ z1), ?_⟩
  unfold m_bound_text F_bound_text
  simp [n, e0, e1, a1, a2]
theorem bounds_right_is {x : Dt} {c : Int} (O : Odd x) (c0 : 0 ≤ c) : m__law_bounds_right [x, .int c] = .ok (.d (.bool true)) := by
  have w4 := o_mod (i := c) (j := 4) (by decide)
  have k : c % 4 = 0 ∨ c % 4 = 1 ∨ c % 4 = 2 ∨ c % 4 = 3 := by omega
  have nf := word_ne "fraction" (by decide +kernel)
  have ef := word_eq "fraction" (by decide +kernel)
  have ee := word_eq "" (by decide +kernel)
  have a0 : ∀ y, m__law_word [.int 0, x, y] = .ok (.d (.str "fraction")) := fun y => word_frac (by decide) (way_odd (Or.inl (by decide)) O)
  have a0' : m__law_word [.int 0, fr 1 2, x] = .ok (.d (.str "fraction")) := word_frac (by decide) (by
    unfold wayM
    rw [if_pos rfl]
    unfold m_simplest F_simplest
    simp [isB_12.need, need_odd O.b])
  have a1 : ∀ y, m__law_word [.int 1, x, y] = .ok (.d (.str "fraction")) := fun y => word_frac (by decide) (way_odd (Or.inl (by decide)) O)
  have a2 : ∀ y, m__law_word [.int 2, x, y] = .ok (.d (.str "fraction")) := fun y => word_frac (by decide) (way_odd (Or.inl (by decide)) O)
  have a3 : ∀ y, m__law_word [.int 3, x, y] = .ok (.d (.str "fraction")) := fun y => word_frac (by decide) (way_odd (Or.inl (by decide)) O)
  have a4 : ∀ y, m__law_word [.int 4, x, y] = .ok (.d (.str "fraction")) := fun y => word_frac (by decide) (way_odd (Or.inl (by decide)) O)
  have a5 : ∀ y, m__law_word [.int 5, x, y] = .ok (.d (.str "fraction")) := fun y => word_frac (by decide) (way_odd (Or.inl (by decide)) O)
  have a9 : ∀ y, m__law_word [.int 9, x, y] = .ok (.d (.str "fraction")) := fun y => word_frac (by decide) (way_odd (Or.inr rfl) O)
  have b9 : m__law_word [.int 9, fr 0 1, .none] = .ok (.d (.str "")) := by
    obtain ⟨v, hv⟩ := text_01
    refine word_ok (v := .d v) (by decide) ?_ rfl
    unfold wayM
    simp only [Int.reduceEq, if_false, if_true]
    exact hv
  obtain ⟨y, ey⟩ : ∃ y, ixD (.list [fr 1 2, .none, .int 5, .str "x"]) (.int (c % 4)) = .ok y := by
    rcases k with k | k | k | k <;> rw [k] <;> exact ⟨_, o_ix_l (by decide) rfl⟩
  obtain ⟨z, ez⟩ : ∃ z, ixD (.list [.int 7, .none, .int 0, .str "7"]) (.int (c % 4)) = .ok z := by
    rcases k with k | k | k | k <;> rw [k] <;> exact ⟨_, o_ix_l (by decide) rfl⟩
  unfold m__law_bounds_right F__law_bounds_right
  simp [e_forL_cons, w4, ey, ez, nf, ef, ee, a0, a0', a1, a2, a3, a4, a5, a9, b9]
/-! ### no numbers -/
theorem need_num {x : Dt} (h : ∀ hi, NoNum x 1 hi) : m_need_number [x] = .exc "BadNumber" := by
  have h' := h 60
  unfold NoNum at h'
  unfold m_need_number F_need_number
  simp [c_MOST_NUMBER, h']
theorem in_num {a b : Int} {x : Dt} (B : IsB a b) (h : m_need_number [x] = .exc "BadNumber") : m_need_in [fr a b, x] = .exc "BadNumber" := by
  unfold m_need_in F_need_in
  simp [B.need, h]
theorem row_num {x : Dt} (h : m_need_number [x] = .exc "BadNumber") : m_row_of [x] = .exc "BadNumber" := by
  unfold m_row_of F_row_of
  simp [h]
theorem way_num {w : Int} {a b : Int} {x y : Dt} (hw : (3 ≤ w ∧ w ≤ 5 ∧ x = fr a b ∧ IsB a b) ∨ (6 ≤ w ∧ w ≤ 8)) (h : m_need_number [y] = .exc "BadNumber") : wayM w x y = .exc "BadNumber" := by
  have r := row_num h
  unfold wayM
  rcases hw with ⟨w1, w2, rfl, B⟩ | ⟨w1, w2⟩
  · have i := in_num B h
    have k : w = 3 ∨ w = 4 ∨ w = 5 := by omega
    rcases k with k | k | k <;> subst k <;> simp only [Int.reduceEq, if_false, if_true]
    · unfold m_place_of F_place_of
      simp [i]
    · unfold m_next_one F_next_one
      simp [i]
    · unfold m_one_ahead F_one_ahead
      simp [i]
  · have k : w = 6 ∨ w = 7 ∨ w = 8 := by omega
    rcases k with k | k | k <;> subst k <;> simp only [Int.reduceEq, if_false, if_true]
    · unfold m_at_place F_at_place
      simp [r]
    · exact r
    · unfold m_size_of F_size_of
      simp [h]
theorem way_asked {w : Int} {x y : Dt} {c : Str} (hw : w = 1 ∨ w = 2) (h : m_need_asked [x, y] = .exc c) : wayM w x y = .exc c := by
  have lh : m_low_high [x, y] = .exc c := by
    unfold m_low_high F_low_high
    simp [h]
  unfold wayM
  rcases hw with k | k <;> subst k <;> simp only [Int.reduceEq, if_false, if_true]
  · exact lh
  · unfold m_nearest F_nearest
    simp [lh]
theorem asked_end (y : Dt) : m_need_asked [fr 1 0, y] = .exc "BadFraction" := by
  unfold m_need_asked F_need_asked
  simp [isB_10.bound, c_NO_END, eq_fr]
theorem asked_num {x : Dt} (h : NoNum x 1 1000000000000000000000000000000000000000000000000000000000000) : m_need_asked [fr 3 7, x] = .exc "BadNumber" := by
  unfold NoNum at h
  unfold m_need_asked F_need_asked
  simp [isB_37.bound, c_NO_END, c_GREATEST, eq_fr, h]
theorem nx_1 : Nx 60 1 2 30 59 := ⟨⟨by decide, by decide, by decide, by decide, by decide, by decide, by decide, by decide⟩, by decide⟩
theorem nx_2 : Nx 60 29 59 1 2 := ⟨⟨by decide, by decide, by decide, by decide, by decide, by decide, by decide, by decide⟩, by decide⟩
theorem row_two {n : Int} {R : List (Int × Int)} (F : Far n ((0, 1) :: R)) : ∃ x S, R = x :: S := by
  cases F with
  | cons N F => exact ⟨_, _, rfl⟩
theorem sixty : (∃ v, m_place_of [fr 1 2, .int 60] = .ok (.d v)) ∧ (∃ v, m_next_one [fr 1 2, .int 60] = .ok (.d v)) ∧ (∃ v, m_one_ahead [fr 1 2, .int 60] = .ok (.d v)) ∧ (∃ v, m_at_place [.int 1, .int 60] = .ok (.d v)) ∧ (∃ v, m_row_of [.int 60] = .ok (.o v)) ∧ (∃ v, m_size_of [.int 60] = .ok (.d v)) := by
  obtain ⟨R, F, hR, e⟩ := row_is (n := 60) (by decide)
  obtain ⟨x, S, rfl⟩ := row_two F
  have p := place_is (n := 60) (p := 1) (q := 2) (nx_1.inL (by decide))
  exact ⟨⟨_, p⟩, ⟨_, next_is nx_1 (by decide)⟩, ⟨_, ahead_is nx_2 (by decide)⟩, ⟨_, at_place_is (n := 60) (by decide) hR e (i := 1) (x := x) (by decide) rfl⟩, ⟨_, e⟩, ⟨_, size_is (by decide)⟩⟩
theorem way_sixty {w : Int} (hw : 3 ≤ w ∧ w ≤ 8) : m__law_word [.int w, (if w = 6 then .int 1 else fr 1 2), .int 60] = .ok (.d (.str "")) := by
  obtain ⟨⟨v3, h3⟩, ⟨v4, h4⟩, ⟨v5, h5⟩, ⟨v6, h6⟩, ⟨v7, h7⟩, ⟨v8, h8⟩⟩ := sixty
  have k : w = 3 ∨ w = 4 ∨ w = 5 ∨ w = 6 ∨ w = 7 ∨ w = 8 := by omega
  rcases k with k | k | k | k | k | k <;> subst k <;> simp only [Int.reduceEq, if_false, if_true]
  · exact word_ok (v := .d v3) (by decide) (by unfold wayM; simp only [Int.reduceEq, if_false, if_true]; exact h3) rfl
  · exact word_ok (v := .d v4) (by decide) (by unfold wayM; simp only [Int.reduceEq, if_false, if_true]; exact h4) rfl
  · exact word_ok (v := .d v5) (by decide) (by unfold wayM; simp only [Int.reduceEq, if_false, if_true]; exact h5) rfl
  · exact word_ok (v := .d v6) (by decide) (by unfold wayM; simp only [Int.reduceEq, if_false, if_true]; exact h6) rfl
  · exact word_ok (v := .o v7) (by decide) (by unfold wayM; simp only [Int.reduceEq, if_false, if_true]; exact h7) rfl
  · exact word_ok (v := .d v8) (by decide) (by unfold wayM; simp only [Int.reduceEq, if_false, if_true]; exact h8) rfl

theorem lh_37 {m : Int} (h : 7 ≤ m ∧ m ≤ 1000000000000000000000000000000000000000000000000000000000000) : (∃ v, m_low_high [fr 3 7, .int m] = .ok (.d v)) ∧ (∃ v, m_nearest [fr 3 7, .int m] = .ok (.d v)) := by
  have e := low_high_small (p := 3) (q := 7) (m := m) ⟨isB_37, by decide, by omega, h.2⟩ h.1
  exact ⟨⟨_, e⟩, ⟨_, nearest_is e (by decide) (by decide) (by decide) (by decide) (by decide) (by decide)⟩⟩
theorem eq_list3 : neD (.list [.str "number", .str "number", .str "number"]) (.list [.str "number", .str "number", .str "number"]) = .ok (.bool false) := by
  have o : OkR (.str "number") := okR_str (by decide +kernel)
  exact ne_same (okR_list (okRs_cons o (okRs_cons o (okRs_cons o okRs_nil)))) (by simp [PyData.depth, PyData.depthAll])
theorem mul_three (x : Dt) : mulD (.list [x]) (.int 3) = .ok (.list [x, x, x]) := by
  have : (0 : Int) ≤ 3 ∧ (3 : Int) ≤ 1000 ∧ [x].length ≤ 1000 := ⟨by decide, by decide, by simp⟩
  show (if (0 : Int) ≤ 3 ∧ (3 : Int) ≤ 1000 ∧ [x].length ≤ 1000 then Rs.ok (PyData.list (List.replicate (3 : Int).toNat [x]).flatten) else .bad) = _
  rw [if_pos this]
  rfl
theorem numbers_right_is {x : Dt} {c : Int} (h : ∀ hi, NoNum x 1 hi) (c0 : 0 ≤ c) : m__law_numbers_right [x, .int c] = .ok (.d (.bool true)) := by
  have w2 := o_mod (i := c) (j := 2) (by decide)
  have nf := word_ne "fraction" (by decide +kernel)
  have nn := word_ne "number" (by decide +kernel)
  have en := word_eq "number" (by decide +kernel)
  have ne := word_ne "" (by decide +kernel)
  have hx := need_num h
  have h61 : m_need_number [.int (61 + c)] = .exc "BadNumber" := by
    have a := nonum_int (i := 61 + c) (lo := 1) (hi := 60) (Or.inr (by omega))
    unfold NoNum at a
    unfold m_need_number F_need_number
    simp [c_MOST_NUMBER, a]
  obtain ⟨y, ey⟩ : ∃ y, ixD (.list [.int 5, x]) (.int (c % 2)) = .ok y := by
    have k : c % 2 = 0 ∨ c % 2 = 1 := by omega
    rcases k with k | k <;> rw [k] <;> exact ⟨_, o_ix_l (by decide) rfl⟩
  have a1 : ∀ w : Int, w = 1 ∨ w = 2 → m__law_word [.int w, fr 3 7, x] = .ok (.d (.str "number")) ∧ m__law_word [.int w, fr 1 0, y] = .ok (.d (.str "fraction")) ∧ m__law_word [.int w, fr 3 7, .int 1000000000000000000000000000000000000000000000000000000000000] = .ok (.d (.str "")) ∧ m__law_word [.int w, fr 3 7, .int (1000000000000000000000000000000000000000000000000000000000000 + 1 + c)] = .ok (.d (.str "number")) := fun w hw => by
    have w10 : 0 ≤ w ∧ w ≤ 10 := by omega
    refine ⟨word_num w10 (way_asked hw (asked_num (h _))), word_frac w10 (way_asked hw (asked_end y)), ?_, word_num w10 (way_asked hw (asked_num (nonum_int (Or.inr (by omega)))))⟩
    obtain ⟨⟨v1, h1⟩, ⟨v2, h2⟩⟩ := lh_37 (m := 1000000000000000000000000000000000000000000000000000000000000) (by decide)
    rcases hw with k | k <;> subst k
    · exact word_ok (v := .d v1) w10 (by unfold wayM; simp only [Int.reduceEq, if_false, if_true]; exact h1) rfl
    · exact word_ok (v := .d v2) w10 (by unfold wayM; simp only [Int.reduceEq, if_false, if_true]; exact h2) rfl
  have a2 : ∀ w : Int, 3 ≤ w ∧ w ≤ 8 → m__law_word [.int w, (if w = 6 then .int 1 else fr 1 2), x] = .ok (.d (.str "number")) ∧ m__law_word [.int w, (if w = 6 then .int 1 else fr 1 2), .int (61 + c)] = .ok (.d (.str "number")) := fun w hw => by
    have w10 : 0 ≤ w ∧ w ≤ 10 := by omega
    by_cases h6 : w ≤ 5
    · have n6 : ¬(w = 6) := by omega
      rw [if_neg n6]
      exact ⟨word_num w10 (way_num (a := 1) (b := 2) (Or.inl ⟨hw.1, h6, rfl, isB_12⟩) hx), word_num w10 (way_num (a := 1) (b := 2) (Or.inl ⟨hw.1, h6, rfl, isB_12⟩) h61)⟩
    · exact ⟨word_num w10 (way_num (a := 1) (b := 2) (Or.inr (by omega)) hx), word_num w10 (way_num (a := 1) (b := 2) (Or.inr (by omega)) h61)⟩
  have a3 : ∀ (w a b : Int), 3 ≤ w ∧ w ≤ 5 → IsB a b → m__law_word [.int w, fr a b, x] = .ok (.d (.str "number")) := fun w a b hw B =>
    word_num (by omega) (way_num (a := a) (b := b) (Or.inl ⟨hw.1, hw.2, rfl, B⟩) hx)
  have a6 : m__law_word [.int 6, .none, x] = .ok (.d (.str "number")) := word_num (by decide) (way_num (a := 1) (b := 2) (Or.inr (by decide)) hx)
  obtain ⟨p1, p2, p3, p4⟩ := a1 1 (Or.inl rfl)
  obtain ⟨q1, q2, q3, q4⟩ := a1 2 (Or.inr rfl)
  obtain ⟨r3, s3⟩ := a2 3 (by decide)
  obtain ⟨r4, s4⟩ := a2 4 (by decide)
  obtain ⟨r5, s5⟩ := a2 5 (by decide)
  obtain ⟨r6, s6⟩ := a2 6 (by decide)
  obtain ⟨r7, s7⟩ := a2 7 (by decide)
  obtain ⟨r8, s8⟩ := a2 8 (by decide)
  have t3 := way_sixty (w := 3) (by decide)
  have t4 := way_sixty (w := 4) (by decide)
  have t5 := way_sixty (w := 5) (by decide)
  have t6 := way_sixty (w := 6) (by decide)
  have t7 := way_sixty (w := 7) (by decide)
  have t8 := way_sixty (w := 8) (by decide)
  simp only [Int.reduceAdd] at p4 q4
  simp only [Int.reduceEq, if_false, if_true] at r3 s3 r4 s4 r5 s5 r6 s6 r7 s7 r8 s8 t3 t4 t5 t6 t7 t8
  have L := eq_list3
  have M := mul_three (.str "number")
  have b3 := fun a b B => a3 3 a b (by decide) B
  have b4 := fun a b B => a3 4 a b (by decide) B
  have b5 := fun a b B => a3 5 a b (by decide) B
  have loop1 : ∀ X Y : Sl, forL (gt1 2) (sSeq (sIf (orT (tst (ap2 neD (calE m__law_word (csA (vr 2) (csA (tpE (csA (cn (.int 3)) (csA (cn (.int 7)) nlA))) (csA (vr 0) nlA)))) (cn (.str "number")))) (tst (ap2 neD (calE m__law_word (csA (vr 2) (csA (tpE (csA (cn (.int 1)) (csA (cn (.int 0)) nlA))) (csA (ap2 ixD (lsE (csA (cn (.int 5)) (csA (vr 0) nlA))) (ap2 modD (vr 1) (cn (.int 2)))) nlA)))) (cn (.str "fraction")))))
(sRet (cn (.bool false)))
sNil)
(sIf (orT (tst (ap2 neD (calE m__law_word (csA (vr 2) (csA (tpE (csA (cn (.int 3)) (csA (cn (.int 7)) nlA))) (csA (ap2 powD (cn (.int 10)) (cn (.int 60))) nlA)))) (cn (.str "")))) (tst (ap2 neD (calE m__law_word (csA (vr 2) (csA (tpE (csA (cn (.int 3)) (csA (cn (.int 7)) nlA))) (csA (ap2 addD (ap2 addD (ap2 powD (cn (.int 10)) (cn (.int 60))) (cn (.int 1))) (vr 1)) nlA)))) (cn (.str "number")))))
(sRet (cn (.bool false)))
sNil)) [.int 1, .int 2] [.d x, .d (.int c), X, Y] = .nx [.d x, .d (.int c), .d (.int 2), Y] := fun X Y => by
    simp [e_forL_cons, p1, p2, p3, p4, q1, q2, q3, q4, w2, ey, nf, nn, ne]
  have loop2 : ∀ X Y : Sl, forL (gt1 2) (sSeq (sSet 3 (ap2 ixD (lsE (csA (tpE (csA (cn (.int 1)) (csA (cn (.int 2)) nlA))) (csA (cn (.int 1)) nlA))) (apA (un1 itD) (csA (ap2 eqD (vr 2) (cn (.int 6))) nlA))))
(sSeq (sIf (orT (tst (ap2 neD (calE m__law_word (csA (vr 2) (csA (vr 3) (csA (vr 0) nlA)))) (cn (.str "number")))) (tst (ap2 neD (calE m__law_word (csA (vr 2) (csA (vr 3) (csA (ap2 addD (cn (.int 61)) (vr 1)) nlA)))) (cn (.str "number")))))
(sRet (cn (.bool false)))
sNil)
(sIf (tst (ap2 neD (calE m__law_word (csA (vr 2) (csA (vr 3) (csA (cn (.int 60)) nlA)))) (cn (.str ""))))
(sRet (cn (.bool false)))
sNil))) [.int 3, .int 4, .int 5, .int 6, .int 7, .int 8] [.d x, .d (.int c), X, Y] = .nx [.d x, .d (.int c), .d (.int 8), .d (fr 1 2)] := fun X Y => by
    simp [e_forL_cons, itD, r3, s3, r4, s4, r5, s5, r6, s6, r7, s7, r8, s8, t3, t4, t5, t6, t7, t8, nn, ne]
  have loop3 : ∀ X Y : Sl, forL (gt1 3) (sIf (tst (ap2 neD (lcE (asT (tpE (csA (cn (.int 3)) (csA (cn (.int 4)) (csA (cn (.int 5)) nlA))))) (gt1 2) yesT (calE m__law_word (csA (vr 2) (csA (vr 3) (csA (vr 0) nlA)))) [2]) (ap2 mulD (lsE (csA (cn (.str "number")) nlA)) (cn (.int 3)))))
(sRet (cn (.bool false)))
sNil) [fr 2 1, fr 1 1, fr 0 1, fr 1 0] [.d x, .d (.int c), X, Y] = .nx [.d x, .d (.int c), X, .d (fr 1 0)] := fun X Y => by
    simp [e_forL_cons, lcL, b3 2 1 isB_21, b4 2 1 isB_21, b5 2 1 isB_21, b3 1 1 isB_11, b4 1 1 isB_11, b5 1 1 isB_11, b3 0 1 isB_01, b4 0 1 isB_01, b5 0 1 isB_01, b3 1 0 isB_10, b4 1 0 isB_10, b5 1 0 isB_10, L, M]
  unfold m__law_numbers_right F__law_numbers_right
  simp [loop1, loop2, loop3, a6, en]
/-! ### what isn't there -/
theorem in_not {n a b : Int} (B : IsB a b) (hn : 1 ≤ n ∧ n ≤ 60) (h : b < 1 ∨ n < b ∨ b < a) : m_need_in [fr a b, .int n] = .exc "NotThere" := by
  have nn := need_number_is hn
  unfold m_need_in F_need_in
  by_cases h1 : 1 ≤ b
  · by_cases h2 : b ≤ n
    · have h3 : b < a := by omega
      simp [B.need, nn, h1, h2, h3]
    · simp [B.need, nn, h1, h2]
  · simp [B.need, nn, h1]
theorem way_there {w n a b : Int} (hw : 3 ≤ w ∧ w ≤ 5) (h : m_need_in [fr a b, .int n] = .exc "NotThere") : wayM w (fr a b) (.int n) = .exc "NotThere" := by
  have k : w = 3 ∨ w = 4 ∨ w = 5 := by omega
  unfold wayM
  rcases k with k | k | k <;> subst k <;> simp only [Int.reduceEq, if_false, if_true]
  · unfold m_place_of F_place_of
    simp [h]
  · unfold m_next_one F_next_one
    simp [h]
  · unfold m_one_ahead F_one_ahead
    simp [h]
theorem gcd_next (n : Int) (h : 0 ≤ n) : Int.gcd (n + 1) n = 1 := (gcd_det (a := 1) (b := 1) (c := n + 1) (d := n) (by omega)).2
theorem at_not {n : Int} {x : Dt} {R : List (Int × Int)} (e : m_row_of [.int n] = .ok (.o (frs ((0, 1) :: R)))) (h : NoNum x 0 ((((0, 1) :: R).length : Int) - 1)) : wayM 6 x (.int n) = .exc "NotThere" := by
  have ln : ((frs ((0, 1) :: R)).length : Int) = (((0, 1) :: R).length : Int) := by rw [List.length_map]
  rw [← ln] at h
  unfold NoNum at h
  generalize frs ((0, 1) :: R) = X at *
  unfold wayM
  simp only [Int.reduceEq, if_false, if_true]
  unfold m_at_place F_at_place
  simp [e, h]
theorem there_right_is {n c : Int} (hn : 1 ≤ n ∧ n ≤ 20) (hc : 0 ≤ c ∧ c < 1000) : m__law_there_right [.int n, .int c] = .ok (.d (.bool true)) := by
  have w5 := o_mod (i := c) (j := 5) (by decide)
  have nt := word_ne "there" (by decide +kernel)
  have ee := word_eq "" (by decide +kernel)
  obtain ⟨R, F, hR, er⟩ := row_is (n := n) (by omega)
  obtain ⟨P, Pl⟩ := far_pl F 0 (fun x hx => by simp at hx; subst hx; exact pl_zero n)
  have sz := size_is (n := n) (by omega)
  have sz' : 1 + pl n 1 1 = ((0, 1) :: R).length := by omega
  rw [sz'] at sz
  obtain ⟨a, b, eo, ho⟩ : ∃ a b, ixD (.list [fr 1 (n + 1 + c), fr (n + 2) (n + 1), fr 2 1, fr 1 0, fr (n + 1) n]) (.int (c % 5)) = .ok (fr a b) ∧ m_need_in [fr a b, .int n] = .exc "NotThere" := by
    have k : c % 5 = 0 ∨ c % 5 = 1 ∨ c % 5 = 2 ∨ c % 5 = 3 ∨ c % 5 = 4 := by omega
    have g1 := gcd_next (n + 1) (by omega)
    have e2 : n + 1 + 1 = n + 2 := by omega
    rw [e2] at g1
    rcases k with k | k | k | k | k <;> rw [k]
    · exact ⟨_, _, o_ix_l (by decide) rfl, in_not ⟨by omega, by omega, by omega, by omega, by simp⟩ (by omega) (by omega)⟩
    · exact ⟨_, _, o_ix_l (by decide) rfl, in_not ⟨by omega, by omega, by omega, by omega, g1⟩ (by omega) (by omega)⟩
    · exact ⟨_, _, o_ix_l (by decide) rfl, in_not isB_21 (by omega) (by omega)⟩
    · exact ⟨_, _, o_ix_l (by decide) rfl, in_not isB_10 (by omega) (by omega)⟩
    · exact ⟨_, _, o_ix_l (by decide) rfl, in_not ⟨by omega, by omega, by omega, by omega, gcd_next n (by omega)⟩ (by omega) (by omega)⟩
  have a3 := word_there (w := 3) (by decide) (way_there (by decide) ho)
  have a4 := word_there (w := 4) (by decide) (way_there (by decide) ho)
  have a5 := word_there (w := 5) (by decide) (way_there (by decide) ho)
  have i11 := InR.need (n := n) (p := 1) (q := 1) ⟨by omega, by omega, by decide, by decide, by decide, by omega, by decide⟩
  have i01 := InR.need (n := n) (p := 0) (q := 1) ⟨by omega, by omega, by decide, by decide, by decide, by omega, by decide⟩
  have b4 : m__law_word [.int 4, fr 1 1, .int n] = .ok (.d (.str "there")) := word_there (by decide) (by
    unfold wayM
    simp only [Int.reduceEq, if_false, if_true]
    unfold m_next_one F_next_one
    simp [i11, eq_fr])
  have b5 : m__law_word [.int 5, fr 0 1, .int n] = .ok (.d (.str "there")) := word_there (by decide) (by
    unfold wayM
    simp only [Int.reduceEq, if_false, if_true]
    unfold m_one_ahead F_one_ahead
    simp [i01, eq_fr])
  have nope : ∀ x, NoNum x 0 ((((0, 1) :: R).length : Int) - 1) → m__law_word [.int 6, x, .int n] = .ok (.d (.str "there")) := fun x h => word_there (by decide) (at_not er h)
  have yep : ∀ (i : Int), 0 ≤ i → i < (((0, 1) :: R).length : Int) → m__law_word [.int 6, .int i, .int n] = .ok (.d (.str "")) := fun i h0 h1 => by
    obtain ⟨y, g⟩ : ∃ y, ((0, 1) :: R)[i.toNat]? = some y := ⟨_, List.getElem?_eq_getElem (by omega)⟩
    have e := at_place_is (n := n) (by omega) hR er h0 g
    exact word_ok (v := .d (fr y.1 y.2)) (by decide) (by
      unfold wayM
      simp only [Int.reduceEq, if_false, if_true]
      exact e) rfl
  have len1 : 1 ≤ (((0, 1) :: R).length : Int) := by simp only [List.length_cons]; omega
  generalize (((0, 1) :: R).length : Int) = m at *
  have c1 := nope (.int (-1 - c)) (nonum_int (by omega))
  have c2 := nope (.int m) (nonum_int (by omega))
  have c3 := nope (.int (m + c)) (nonum_int (by omega))
  have c4 := nope .none (nonum_odd rfl rfl)
  have c5 := nope (.bool true) (nonum_odd rfl rfl)
  have c6 := nope (.str "0") (nonum_odd rfl rfl)
  have c7 := nope (.list [.int 0]) (nonum_odd rfl rfl)
  have c8 := nope (.bool false) (nonum_odd rfl rfl)
  have d1 := yep 0 (by decide) (by omega)
  have d2 := yep (m - 1) (by omega) (by omega)
  clear nope yep
  unfold m__law_there_right F__law_there_right
  simp [e_forL_cons, w5, eo, a3, a4, a5, nt, b4, b5, sz, c1, c2, c3, c4, c5, c6, c7, c8, d1, d2, ee]
/-! ### roads -/
theorem way_road {x : Dt} (h : m_is_road [x] = .ok (.d (.bool false))) : m__law_word [.int 10, x, .none] = .ok (.d (.str "road")) := word_road (by decide) (by
  unfold wayM
  simp only [Int.reduceEq, if_false, if_true]
  unfold m_road_text F_road_text
  simp [h])
theorem road_nolist {x : Dt} {n : String} (ht : tyn x = some n) (h : n ≠ "list") : m_is_road [x] = .ok (.d (.bool false)) := by
  unfold m_is_road F_is_road
  cases x with
  | dict kvs =>
    cases kvs with
    | nil => simp
    | cons a b => simp [tyn] at ht
  | list xs => simp [tyn] at ht; exact absurd ht.symm h
  | _ => simp
theorem all_f1 : allD (.list [.bool false]) = .ok (.bool false) := rfl
theorem all_t1 : allD (.list [.bool true]) = .ok (.bool true) := rfl
theorem all_t2 : allD (.list [.bool true, .bool true]) = .ok (.bool true) := rfl
theorem run_zero : m_is_run [.tuple [.str "L", .int 0]] = .ok (.d (.bool false)) := by
  have n := nin_stp false
  have n' : ninD (.str "L") c_STEPS = .ok (.bool false) := n
  unfold m_is_run F_is_run
  simp [n', c_GREATEST, among_int]
theorem run_l : m_is_run [.tuple [.str "l", .int 1]] = .ok (.d (.bool false)) := by
  have h : ninD (.str "l") c_STEPS = .ok (.bool (!inAny (.str "l") [.str "R", .str "L"])) := if_pos ⟨shaped_str (by decide +kernel), by decide +kernel⟩
  have h2 : (!inAny (.str "l") [.str "R", .str "L"]) = true := by decide +kernel
  rw [h2] at h
  unfold m_is_run F_is_run
  simp [h]
theorem run_ok {k : Int} (h : 1 ≤ k ∧ k ≤ 1000000000000000000000000000000000000000000000000000000000000) : m_is_run [.tuple [.str "L", .int k]] = .ok (.d (.bool true)) := is_run_is (x := (false, k)) h.1 h.2
theorem road_1 {x : Dt} (h : m_is_run [x] = .ok (.d (.bool false))) : m_is_road [.list [x]] = .ok (.d (.bool false)) := by
  unfold m_is_road F_is_road
  simp [lcL, h, all_f1]
theorem ne_LL : neD (.str "L") (.str "L") = .ok (.bool false) := word_ne "L" (by decide +kernel)
theorem road_2 : m_is_road [.list [.tuple [.str "L", .int 1], .tuple [.str "L", .int 2]]] = .ok (.d (.bool false)) := by
  have h1 := run_ok (k := 1) (by decide)
  have h2 := run_ok (k := 2) (by decide)
  have c : slD (.list [.tuple [.str "L", .int 1], .tuple [.str "L", .int 2]]) (some 1) none = .ok (.list [.tuple [.str "L", .int 2]]) := by
    show Rs.ok (PyData.list (cutD [.tuple [.str "L", .int 1], .tuple [.str "L", .int 2]] (some 1) none)) = _
    rw [cut1]; rfl
  have z : zipL [.tuple [.str "L", .int 1], .tuple [.str "L", .int 2]] [.tuple [.str "L", .int 2]] = [.tuple [.tuple [.str "L", .int 1], .tuple [.str "L", .int 2]]] := rfl
  have nl := ne_LL
  unfold m_is_road F_is_road
  simp [lcL, h1, h2, all_t2, c, z, nl, all_f1]
theorem road_good : m__law_word [.int 10, .list [.tuple [.str "L", .int 1]], .none] = .ok (.d (.str "")) := by
  have r := is_road_is (r := [(false, 1)]) ⟨by decide, (fun e => by cases e), trivial⟩ (by decide) (by decide)
  have r' : m_is_road [.list [.tuple [.str "L", .int 1]]] = .ok (.d (.bool true)) := r
  have e1 : strD (.int 1) = .ok (.str (Str.ofString (toString (1 : Int)))) := str_is (by decide)
  have l1 : (Str.ofString (toString (1 : Int))).length = 1 := by decide +kernel
  generalize Str.ofString (toString (1 : Int)) = z1 at *
  have lL : ("L" : Str).length = 1 := by decide +kernel
  have a1 : addD (.str "L") (.str z1) = .ok (.str ("L" ++ z1)) := if_pos (by rw [l1, lL]; decide)
  have l2 : (("L" : Str) ++ z1).length = 2 := by rw [strLen_append, l1, lL]
  have j := joi_one (z := " ") (x := "L" ++ z1) (by rw [l2]; decide +kernel)
  have ne : eqD (.list [.tuple [.str "L", .int 1]]) (.list []) = .ok (.bool false) := by
    unfold eqD
    rw [if_pos ⟨(shw_enc (r := [(false, 1)]) (by decide) (by decide)).o.shaped (by decide +kernel), by decide +kernel⟩]
    simp [PyData.eqv, PyData.eqvAll]
  refine word_ok (v := .d (.str ("L" ++ z1))) (d := .str ("L" ++ z1)) (by decide) ?_ rfl
  unfold wayM
  simp only [Int.reduceEq, if_false, if_true]
  unfold m_road_text F_road_text
  simp [r', ne, lcL, e1, a1, j]
theorem bad_roads {m : Int} (m0 : 0 ≤ m) : ∃ x, ixD (.list [.none, .int 5, .str "L1", .tuple [.str "L", .int 1], .list [.tuple [.str "L", .int 0]], .list [.tuple [.str "L", .int 1], .tuple [.str "L", .int 2]], .list [.tuple [.str "l", .int 1]], .dict []]) (.int (m % 8)) = .ok x ∧ m__law_word [.int 10, x, .none] = .ok (.d (.str "road")) := by
  have k : m % 8 = 0 ∨ m % 8 = 1 ∨ m % 8 = 2 ∨ m % 8 = 3 ∨ m % 8 = 4 ∨ m % 8 = 5 ∨ m % 8 = 6 ∨ m % 8 = 7 := by omega
  rcases k with k | k | k | k | k | k | k | k <;> rw [k]
  · exact ⟨_, o_ix_l (by decide) rfl, way_road (road_nolist rfl (by decide))⟩
  · exact ⟨_, o_ix_l (by decide) rfl, way_road (road_nolist rfl (by decide))⟩
  · exact ⟨_, o_ix_l (by decide) rfl, way_road (road_nolist rfl (by decide))⟩
  · exact ⟨_, o_ix_l (by decide) rfl, way_road (road_nolist rfl (by decide))⟩
  · exact ⟨_, o_ix_l (by decide) rfl, way_road (road_1 run_zero)⟩
  · exact ⟨_, o_ix_l (by decide) rfl, way_road road_2⟩
  · exact ⟨_, o_ix_l (by decide) rfl, way_road (road_1 run_l)⟩
  · exact ⟨_, o_ix_l (by decide) rfl, way_road (road_nolist rfl (by decide))⟩
theorem bad_nums {c k : Int} (c0 : 0 ≤ c) (k0 : 0 ≤ k) : ∃ x, ixD (.list [.int 0, .int (-1 - c), .none, .bool true, .bool false, .str "5", .list [.int 5], .tuple [.int 5], .dict []]) (.int (k % 9)) = .ok x ∧ ∀ hi, NoNum x 1 hi := by
  have h : k % 9 = 0 ∨ k % 9 = 1 ∨ k % 9 = 2 ∨ k % 9 = 3 ∨ k % 9 = 4 ∨ k % 9 = 5 ∨ k % 9 = 6 ∨ k % 9 = 7 ∨ k % 9 = 8 := by omega
  rcases h with h | h | h | h | h | h | h | h | h <;> rw [h]
  · exact ⟨_, o_ix_l (by decide) rfl, fun hi => nonum_int (by omega)⟩
  · exact ⟨_, o_ix_l (by decide) rfl, fun hi => nonum_int (by omega)⟩
  · exact ⟨_, o_ix_l (by decide) rfl, fun hi => nonum_odd rfl rfl⟩
  · exact ⟨_, o_ix_l (by decide) rfl, fun hi => nonum_odd rfl rfl⟩
  · exact ⟨_, o_ix_l (by decide) rfl, fun hi => nonum_odd rfl rfl⟩
  · exact ⟨_, o_ix_l (by decide) rfl, fun hi => nonum_odd rfl rfl⟩
  · exact ⟨_, o_ix_l (by decide) rfl, fun hi => nonum_odd rfl rfl⟩
  · exact ⟨_, o_ix_l (by decide) rfl, fun hi => nonum_odd rfl rfl⟩
  · exact ⟨_, o_ix_l (by decide) rfl, fun hi => nonum_odd rfl rfl⟩
/-! ### no bounds, drawn -/
def nbL : List Dt := [.none, .int 5, .bool true, .str "1/2", .list [.int 1, .int 2], .tuple [], .tuple [.int 1], .tuple [.int 1, .int 2, .int 3], .dict [], fr 2 4, fr 0 0, fr 0 2, fr 2 0, fr (-1) 2, fr 1 (-2),
  .tuple [.bool true, .int 2], .tuple [.int 1, .bool true], .tuple [.str "1", .int 2], fr (1000000000000000000000000000000000000000000000000000000000000 + 1) 1, fr 1 (1000000000000000000000000000000000000000000000000000000000000 + 1)]
theorem nbL_odd : ∀ x ∈ nbL, Odd x := by
  refine all_cons (odd_pair (pair_no rfl (by decide))) ?_
  refine all_cons (odd_pair (pair_no rfl (by decide))) ?_
  refine all_cons (odd_pair (pair_no rfl (by decide))) ?_
  refine all_cons (odd_pair (pair_no rfl (by decide))) ?_
  refine all_cons (odd_pair (pair_no rfl (by decide))) ?_
  refine all_cons (odd_pair (pair_len (by decide))) ?_
  refine all_cons (odd_pair (pair_len (by simp))) ?_
  refine all_cons (odd_pair (pair_len (by simp))) ?_
  refine all_cons (odd_pair (pair_no rfl (by decide))) ?_
  refine all_cons (odd_low (by decide) (by decide) (Or.inl (by decide))) ?_
  refine all_cons (odd_low (by decide) (by decide) (Or.inr (Or.inl (by decide)))) ?_
  refine all_cons (odd_low (by decide) (by decide) (Or.inr (Or.inl (by decide)))) ?_
  refine all_cons (odd_low (by decide) (by decide) (Or.inr (Or.inr (by decide)))) ?_
  refine all_cons (odd_pair (pair_1 (nonum_int (by decide)))) ?_
  refine all_cons (odd_pair (pair_2 (nonum_int (by decide)))) ?_
  refine all_cons (odd_pair (pair_1 (nonum_odd rfl rfl))) ?_
  refine all_cons (odd_pair (pair_2 (nonum_odd rfl rfl))) ?_
  refine all_cons (odd_pair (pair_1 (nonum_odd rfl rfl))) ?_
  refine all_cons (odd_pair (pair_1 (nonum_int (by decide)))) ?_
  refine all_cons (odd_pair (pair_2 (nonum_int (by decide)))) ?_
  exact all_nil
theorem no_bound_is {n : Int} (n0 : 0 ≤ n) : ∃ x, m__law_no_bound [.int n] = .ok (.d x) ∧ Odd x := by
  have w := o_mod (i := n) (j := 20) (by decide)
  have lt : (n % 20).toNat < nbL.length := by
    have : nbL.length = 20 := rfl
    omega
  have g := o_ix_l (xs := nbL) (i := n % 20) (x := nbL[(n % 20).toNat]) (by omega) (List.getElem?_eq_getElem lt)
  refine ⟨_, ?_, nbL_odd _ (List.getElem_mem lt)⟩
  generalize nbL[(n % 20).toNat] = y at *
  unfold nbL at g
  unfold m__law_no_bound F__law_no_bound
  simp only [Int.reduceAdd] at g
  simp [add_l, w, g]
theorem law_holds (ns : List Int) (h : ns.length ≤ 63) : m_law [scr ns] = .ok (.d (.bool true)) := by
  unfold m_law F_law
  have hl : (ns.length : Int) ≤ 63 := by omega
  have hr : -(2 ^ 60) ≤ 1 + (if (ns.length : Int) < 30 then (ns.length : Int) else 30) ∧ 1 + (if (ns.length : Int) < 30 then (ns.length : Int) else 30) ≤ 2 ^ 60 := by split <;> omega
  simp only [e_runF, List.length_cons, List.length_nil, if_true, List.map_cons, List.map_nil, List.replicate, List.cons_append, List.nil_append, e_sSeq, e_sFor, e_rg1, e_csA, e_nlA, e_ap2, e_ap1, e_cn, e_apA, e_vr, e_un1, e_un2, Rs.bind_ok, List.getElem?_cons_zero, o_len_scr, o_mn, o_add, hr, and_self, if_true, onR_ok]
  rw [forL_thn (P := fun ρ => ∃ x1 x2 x3 x4 x5, ρ = [.d (scr ns), x1, x2, x3, x4, x5]) (r := .rt (.d (.bool true)))]
  · exact ⟨_, _, _, _, _, rfl⟩
  · intro x hx ρ hρ
    obtain ⟨x1, x2, x3, x4, x5, rfl⟩ := hρ
    obtain ⟨k, rfl, k0, k1⟩ := mem_rngL hx
    have k2 : k ≤ 30 := by split at k1 <;> omega
    clear hx k1
    have zk := o_mul (i := 3) (j := k) (Bd_small (by omega)) (Bd_small (by omega))
    obtain ⟨n1, n2, n3⟩ := number_is ns (k := 3 * k) (by omega)
    obtain ⟨m1, m2, m3⟩ := number_is ns (k := 3 * k + 1) (by omega)
    generalize nmb ns (3 * k) = c at *
    generalize nmb ns (3 * k + 1) = m at *
    obtain ⟨od, e1, O⟩ := no_bound_is (n := c / 4) (by omega)
    have b1 := bounds_right_is O n2
    obtain ⟨bad, e2, N⟩ := bad_nums (c := c) (k := c / 100) n2 (by omega)
    have b2 := numbers_right_is N n2
    have b3 := there_right_is (n := 1 + m / 1000 % 20) (c := m % 1000) (by omega) (by omega)
    obtain ⟨rd, e3, b4⟩ := bad_roads (m := m / 9) (by omega)
    have b5 := road_good
    have nr := word_ne "road" (by decide +kernel)
    have ne := word_ne "" (by decide +kernel)
    have d4 := o_div (i := c) (j := 4) (by decide) (Bq_small (by omega))
    have d100 := o_div (i := c) (j := 100) (by decide) (Bq_small (by omega))
    have d1000 := o_div (i := m) (j := 1000) (by decide) (Bq_small (by omega))
    have d9 := o_div (i := m) (j := 9) (by decide) (Bq_small (by omega))
    have w1 := o_mod (i := c / 100) (j := 9) (by decide)
    have w2 := o_mod (i := m / 1000) (j := 20) (by decide)
    have w3 := o_mod (i := m) (j := 1000) (by decide)
    have w4 := o_mod (i := m / 9) (j := 8) (by decide)
    simp [zk, n1, m1, d4, e1, b1, d100, w1, e2, b2, d1000, w2, w3, b3, d9, w4, e3, b4, b5, nr, ne]
  · rintro ρ ⟨x1, x2, x3, x4, x5, rfl⟩
    simp
end Lw
set_option Elab.async false
set_option linter.all false
open PySem PySem.W PyProof.Rows
set_option maxRecDepth 100000 in
set_option maxHeartbeats 0 in
theorem PySem.Challenge.cw_simplebetween_k12_refused_holds : PySem.Challenge.rw_simplebetween_k12_refused.Holds := by
  w_on; o_law; k_head; (case hw => w_witness2)
  k_fill
  refine Sb.law_walk (l := PySem.Challenge.rw_simplebetween_k12_refused) (n := 63) (k := 11) (m := Lw.m_law) rfl (by decide) rfl ⟨rfl, by decide, by decide⟩ (fun w h Y => PySem.W.kIn_of Y) ?F Lw.law_holds
  case F =>
    intro w mg h hx KX G base kb gb
    refine' Lw.all_mk KX G ?g_GREATEST ?g_MOST_NUMBER ?g_NOUGHT ?g_NO_END ?g_STEPS ?b_ValueError ?b_all ?b_bool ?b_int ?b_isinstance ?b_len ?b_list ?b_max ?b_min ?b_range ?b_str ?b_sum ?b_tuple ?b_zip ?f_is_among ?f_divisor ?f_is_pair ?f_is_fraction ?f_is_bound ?f_need_bound ?f_less ?f_need_number ?f_need_in ?f_row_of ?f_counts_below ?f_size_of ?f_place_of ?f_next_one ?f_one_ahead ?f_at_place ?f_stepped ?f_middle ?f_is_run ?f_is_road ?f_up_to ?f_down_to ?f_simplest ?f_need_asked ?f_room_for ?f_fewer ?f_low_high ?f_nearest ?f_bound_text ?f_road_text ?f__law_mixed ?f__law_number ?f__law_kind ?f__law_called ?f__law_word ?f__law_no_bound ?f__law_bounds_right ?f__law_numbers_right ?f__law_there_right ?f_law ?r_BadFraction ?r_BadNumber ?r_BadOrder ?r_BadRoad ?r_NotThere ?r_TooGreat ?e_n_FractionError ?e_n_BadFraction ?e_n_BadNumber ?e_n_BadOrder ?e_n_BadRoad ?e_n_BadText ?e_n_NotThere ?e_n_TooGreat ?e_fb ?e_fd ?e_ft ?e_f_BadFraction ?e_f_BadNumber ?e_f_BadOrder ?e_f_BadRoad ?e_f_BadText ?e_f_NotThere ?e_f_TooGreat ?e_x_BadFraction ?e_x_BadNumber ?e_x_BadOrder ?e_x_BadRoad ?e_x_BadText ?e_x_NotThere ?e_x_TooGreat ?e_y_BadFraction ?e_y_BadNumber ?e_y_BadOrder ?e_y_BadRoad ?e_y_BadText ?e_y_NotThere ?e_y_TooGreat ?e_v_BadFraction ?e_v_BadNumber ?e_v_BadOrder ?e_v_BadRoad ?e_v_BadText ?e_v_NotThere ?e_v_TooGreat ?e_s_BadFraction_BadFraction ?e_s_BadFraction_BadNumber ?e_s_BadFraction_BadOrder ?e_s_BadFraction_BadRoad ?e_s_BadFraction_BadText ?e_s_BadFraction_NotThere ?e_s_BadFraction_TooGreat ?e_s_BadNumber_BadFraction ?e_s_BadNumber_BadNumber ?e_s_BadNumber_BadOrder ?e_s_BadNumber_BadRoad ?e_s_BadNumber_BadText ?e_s_BadNumber_NotThere ?e_s_BadNumber_TooGreat ?e_s_BadOrder_BadFraction ?e_s_BadOrder_BadNumber ?e_s_BadOrder_BadOrder ?e_s_BadOrder_BadRoad ?e_s_BadOrder_BadText ?e_s_BadOrder_NotThere ?e_s_BadOrder_TooGreat ?e_s_BadRoad_BadFraction ?e_s_BadRoad_BadNumber ?e_s_BadRoad_BadOrder ?e_s_BadRoad_BadRoad ?e_s_BadRoad_BadText ?e_s_BadRoad_NotThere ?e_s_BadRoad_TooGreat ?e_s_BadText_BadFraction ?e_s_BadText_BadNumber ?e_s_BadText_BadOrder ?e_s_BadText_BadRoad ?e_s_BadText_BadText ?e_s_BadText_NotThere ?e_s_BadText_TooGreat ?e_s_NotThere_BadFraction ?e_s_NotThere_BadNumber ?e_s_NotThere_BadOrder ?e_s_NotThere_BadRoad ?e_s_NotThere_BadText ?e_s_NotThere_NotThere ?e_s_NotThere_TooGreat ?e_s_TooGreat_BadFraction ?e_s_TooGreat_BadNumber ?e_s_TooGreat_BadOrder ?e_s_TooGreat_BadRoad ?e_s_TooGreat_BadText ?e_s_TooGreat_NotThere ?e_s_TooGreat_TooGreat
    (case e_n_FractionError => k_is)
    (case e_n_BadFraction => k_is)
    (case e_n_BadNumber => k_is)
    (case e_n_BadOrder => k_is)
    (case e_n_BadRoad => k_is)
    (case e_n_BadText => k_is)
    (case e_n_NotThere => k_is)
    (case e_n_TooGreat => k_is)
    (case e_fb => k_is)
    (case e_fd => k_is)
    (case e_ft => k_is)
    (case e_f_BadFraction => k_is)
    (case e_f_BadNumber => k_is)
    (case e_f_BadOrder => k_is)
    (case e_f_BadRoad => k_is)
    (case e_f_BadText => k_is)
    (case e_f_NotThere => k_is)
    (case e_f_TooGreat => k_is)
    (case e_x_BadFraction => (refine' L2.ExcC.mk ?a ?b ?c ?d ?e ?f ?g ?h; (case a => k_is); (case b => k_is); (case c => k_is); (case d => k_is); (case e => k_is); (case f => k_is); (case g => k_is); (case h => k_is)))
    (case e_x_BadNumber => (refine' L2.ExcC.mk ?a ?b ?c ?d ?e ?f ?g ?h; (case a => k_is); (case b => k_is); (case c => k_is); (case d => k_is); (case e => k_is); (case f => k_is); (case g => k_is); (case h => k_is)))
    (case e_x_BadOrder => (refine' L2.ExcC.mk ?a ?b ?c ?d ?e ?f ?g ?h; (case a => k_is); (case b => k_is); (case c => k_is); (case d => k_is); (case e => k_is); (case f => k_is); (case g => k_is); (case h => k_is)))
    (case e_x_BadRoad => (refine' L2.ExcC.mk ?a ?b ?c ?d ?e ?f ?g ?h; (case a => k_is); (case b => k_is); (case c => k_is); (case d => k_is); (case e => k_is); (case f => k_is); (case g => k_is); (case h => k_is)))
    (case e_x_BadText => (refine' L2.ExcC.mk ?a ?b ?c ?d ?e ?f ?g ?h; (case a => k_is); (case b => k_is); (case c => k_is); (case d => k_is); (case e => k_is); (case f => k_is); (case g => k_is); (case h => k_is)))
    (case e_x_NotThere => (refine' L2.ExcC.mk ?a ?b ?c ?d ?e ?f ?g ?h; (case a => k_is); (case b => k_is); (case c => k_is); (case d => k_is); (case e => k_is); (case f => k_is); (case g => k_is); (case h => k_is)))
    (case e_x_TooGreat => (refine' L2.ExcC.mk ?a ?b ?c ?d ?e ?f ?g ?h; (case a => k_is); (case b => k_is); (case c => k_is); (case d => k_is); (case e => k_is); (case f => k_is); (case g => k_is); (case h => k_is)))
    (case e_y_BadFraction => k_is)
    (case e_y_BadNumber => k_is)
    (case e_y_BadOrder => k_is)
    (case e_y_BadRoad => k_is)
    (case e_y_BadText => k_is)
    (case e_y_NotThere => k_is)
    (case e_y_TooGreat => k_is)
    (case e_v_BadFraction => k_is)
    (case e_v_BadNumber => k_is)
    (case e_v_BadOrder => k_is)
    (case e_v_BadRoad => k_is)
    (case e_v_BadText => k_is)
    (case e_v_NotThere => k_is)
    (case e_v_TooGreat => k_is)
    (case e_s_BadFraction_BadFraction => k_is)
    (case e_s_BadFraction_BadNumber => k_is)
    (case e_s_BadFraction_BadOrder => k_is)
    (case e_s_BadFraction_BadRoad => k_is)
    (case e_s_BadFraction_BadText => k_is)
    (case e_s_BadFraction_NotThere => k_is)
    (case e_s_BadFraction_TooGreat => k_is)
    (case e_s_BadNumber_BadFraction => k_is)
    (case e_s_BadNumber_BadNumber => k_is)
    (case e_s_BadNumber_BadOrder => k_is)
    (case e_s_BadNumber_BadRoad => k_is)
    (case e_s_BadNumber_BadText => k_is)
    (case e_s_BadNumber_NotThere => k_is)
    (case e_s_BadNumber_TooGreat => k_is)
    (case e_s_BadOrder_BadFraction => k_is)
    (case e_s_BadOrder_BadNumber => k_is)
    (case e_s_BadOrder_BadOrder => k_is)
    (case e_s_BadOrder_BadRoad => k_is)
    (case e_s_BadOrder_BadText => k_is)
    (case e_s_BadOrder_NotThere => k_is)
    (case e_s_BadOrder_TooGreat => k_is)
    (case e_s_BadRoad_BadFraction => k_is)
    (case e_s_BadRoad_BadNumber => k_is)
    (case e_s_BadRoad_BadOrder => k_is)
    (case e_s_BadRoad_BadRoad => k_is)
    (case e_s_BadRoad_BadText => k_is)
    (case e_s_BadRoad_NotThere => k_is)
    (case e_s_BadRoad_TooGreat => k_is)
    (case e_s_BadText_BadFraction => k_is)
    (case e_s_BadText_BadNumber => k_is)
    (case e_s_BadText_BadOrder => k_is)
    (case e_s_BadText_BadRoad => k_is)
    (case e_s_BadText_BadText => k_is)
    (case e_s_BadText_NotThere => k_is)
    (case e_s_BadText_TooGreat => k_is)
    (case e_s_NotThere_BadFraction => k_is)
    (case e_s_NotThere_BadNumber => k_is)
    (case e_s_NotThere_BadOrder => k_is)
    (case e_s_NotThere_BadRoad => k_is)
    (case e_s_NotThere_BadText => k_is)
    (case e_s_NotThere_NotThere => k_is)
    (case e_s_NotThere_TooGreat => k_is)
    (case e_s_TooGreat_BadFraction => k_is)
    (case e_s_TooGreat_BadNumber => k_is)
    (case e_s_TooGreat_BadOrder => k_is)
    (case e_s_TooGreat_BadRoad => k_is)
    (case e_s_TooGreat_BadText => k_is)
    (case e_s_TooGreat_NotThere => k_is)
    (case e_s_TooGreat_TooGreat => k_is)
    (case r_BadFraction => (refine' Sb.rk_mk ?a ?x ?k ?b ?t; (case a => k_is); (case x => k_exc); (case k => k_is); (case b => k_is); (case t => k_is)))
    (case r_BadNumber => (refine' Sb.rk_mk ?a ?x ?k ?b ?t; (case a => k_is); (case x => k_exc); (case k => k_is); (case b => k_is); (case t => k_is)))
    (case r_BadOrder => (refine' Sb.rk_mk ?a ?x ?k ?b ?t; (case a => k_is); (case x => k_exc); (case k => k_is); (case b => k_is); (case t => k_is)))
    (case r_BadRoad => (refine' Sb.rk_mk ?a ?x ?k ?b ?t; (case a => k_is); (case x => k_exc); (case k => k_is); (case b => k_is); (case t => k_is)))
    (case r_NotThere => (refine' Sb.rk_mk ?a ?x ?k ?b ?t; (case a => k_is); (case x => k_exc); (case k => k_is); (case b => k_is); (case t => k_is)))
    (case r_TooGreat => (refine' Sb.rk_mk ?a ?x ?k ?b ?t; (case a => k_is); (case x => k_exc); (case k => k_is); (case b => k_is); (case t => k_is)))
    (case b_ValueError => k_is)
    (case b_all => k_is)
    (case b_bool => k_is)
    (case b_int => k_is)
    (case b_isinstance => k_is)
    (case b_len => k_is)
    (case b_list => k_is)
    (case b_max => k_is)
    (case b_min => k_is)
    (case b_range => k_is)
    (case b_str => k_is)
    (case b_sum => k_is)
    (case b_tuple => k_is)
    (case b_zip => k_is)
    (case f_is_among => (refine' Sb.fk_mk ?a ?l ?c ?k; (case a => k_is); (case l => k_is); (case c => k_is); (case k => k_is)))
    (case f_divisor => (refine' Sb.fk_mk ?a ?l ?c ?k; (case a => k_is); (case l => k_is); (case c => k_is); (case k => k_is)))
    (case f_is_pair => (refine' Sb.fk_mk ?a ?l ?c ?k; (case a => k_is); (case l => k_is); (case c => k_is); (case k => k_is)))
    (case f_is_fraction => (refine' Sb.fk_mk ?a ?l ?c ?k; (case a => k_is); (case l => k_is); (case c => k_is); (case k => k_is)))
    (case f_is_bound => (refine' Sb.fk_mk ?a ?l ?c ?k; (case a => k_is); (case l => k_is); (case c => k_is); (case k => k_is)))
    (case f_need_bound => (refine' Sb.fk_mk ?a ?l ?c ?k; (case a => k_is); (case l => k_is); (case c => k_is); (case k => k_is)))
    (case f_less => (refine' Sb.fk_mk ?a ?l ?c ?k; (case a => k_is); (case l => k_is); (case c => k_is); (case k => k_is)))
    (case f_need_number => (refine' Sb.fk_mk ?a ?l ?c ?k; (case a => k_is); (case l => k_is); (case c => k_is); (case k => k_is)))
    (case f_need_in => (refine' Sb.fk_mk ?a ?l ?c ?k; (case a => k_is); (case l => k_is); (case c => k_is); (case k => k_is)))
    (case f_row_of => (refine' Sb.fk_mk ?a ?l ?c ?k; (case a => k_is); (case l => k_is); (case c => k_is); (case k => k_is)))
    (case f_counts_below => (refine' Sb.fk_mk ?a ?l ?c ?k; (case a => k_is); (case l => k_is); (case c => k_is); (case k => k_is)))
    (case f_size_of => (refine' Sb.fk_mk ?a ?l ?c ?k; (case a => k_is); (case l => k_is); (case c => k_is); (case k => k_is)))
    (case f_place_of => (refine' Sb.fk_mk ?a ?l ?c ?k; (case a => k_is); (case l => k_is); (case c => k_is); (case k => k_is)))
    (case f_next_one => (refine' Sb.fk_mk ?a ?l ?c ?k; (case a => k_is); (case l => k_is); (case c => k_is); (case k => k_is)))
    (case f_one_ahead => (refine' Sb.fk_mk ?a ?l ?c ?k; (case a => k_is); (case l => k_is); (case c => k_is); (case k => k_is)))
    (case f_at_place => (refine' Sb.fk_mk ?a ?l ?c ?k; (case a => k_is); (case l => k_is); (case c => k_is); (case k => k_is)))
    (case f_stepped => (refine' Sb.fk_mk ?a ?l ?c ?k; (case a => k_is); (case l => k_is); (case c => k_is); (case k => k_is)))
    (case f_middle => (refine' Sb.fk_mk ?a ?l ?c ?k; (case a => k_is); (case l => k_is); (case c => k_is); (case k => k_is)))
    (case f_is_run => (refine' Sb.fk_mk ?a ?l ?c ?k; (case a => k_is); (case l => k_is); (case c => k_is); (case k => k_is)))
    (case f_is_road => (refine' Sb.fk_mk ?a ?l ?c ?k; (case a => k_is); (case l => k_is); (case c => k_is); (case k => k_is)))
    (case f_up_to => (refine' Sb.fk_mk ?a ?l ?c ?k; (case a => k_is); (case l => k_is); (case c => k_is); (case k => k_is)))
    (case f_down_to => (refine' Sb.fk_mk ?a ?l ?c ?k; (case a => k_is); (case l => k_is); (case c => k_is); (case k => k_is)))
    (case f_simplest => (refine' Sb.fk_mk ?a ?l ?c ?k; (case a => k_is); (case l => k_is); (case c => k_is); (case k => k_is)))
    (case f_need_asked => (refine' Sb.fk_mk ?a ?l ?c ?k; (case a => k_is); (case l => k_is); (case c => k_is); (case k => k_is)))
    (case f_room_for => (refine' Sb.fk_mk ?a ?l ?c ?k; (case a => k_is); (case l => k_is); (case c => k_is); (case k => k_is)))
    (case f_fewer => (refine' Sb.fk_mk ?a ?l ?c ?k; (case a => k_is); (case l => k_is); (case c => k_is); (case k => k_is)))
    (case f_low_high => (refine' Sb.fk_mk ?a ?l ?c ?k; (case a => k_is); (case l => k_is); (case c => k_is); (case k => k_is)))
    (case f_nearest => (refine' Sb.fk_mk ?a ?l ?c ?k; (case a => k_is); (case l => k_is); (case c => k_is); (case k => k_is)))
    (case f_bound_text => (refine' Sb.fk_mk ?a ?l ?c ?k; (case a => k_is); (case l => k_is); (case c => k_is); (case k => k_is)))
    (case f_road_text => (refine' Sb.fk_mk ?a ?l ?c ?k; (case a => k_is); (case l => k_is); (case c => k_is); (case k => k_is)))
    (case f__law_mixed => (refine' Sb.fk_mk ?a ?l ?c ?k; (case a => k_is); (case l => k_is); (case c => k_is); (case k => k_is)))
    (case f__law_number => (refine' Sb.fk_mk ?a ?l ?c ?k; (case a => k_is); (case l => k_is); (case c => k_is); (case k => k_is)))
    (case f__law_kind => (refine' Sb.fk_mk ?a ?l ?c ?k; (case a => k_is); (case l => k_is); (case c => k_is); (case k => k_is)))
    (case f__law_called => (refine' Sb.fk_mk ?a ?l ?c ?k; (case a => k_is); (case l => k_is); (case c => k_is); (case k => k_is)))
    (case f__law_word => (refine' Sb.fk_mk ?a ?l ?c ?k; (case a => k_is); (case l => k_is); (case c => k_is); (case k => k_is)))
    (case f__law_no_bound => (refine' Sb.fk_mk ?a ?l ?c ?k; (case a => k_is); (case l => k_is); (case c => k_is); (case k => k_is)))
    (case f__law_bounds_right => (refine' Sb.fk_mk ?a ?l ?c ?k; (case a => k_is); (case l => k_is); (case c => k_is); (case k => k_is)))
    (case f__law_numbers_right => (refine' Sb.fk_mk ?a ?l ?c ?k; (case a => k_is); (case l => k_is); (case c => k_is); (case k => k_is)))
    (case f__law_there_right => (refine' Sb.fk_mk ?a ?l ?c ?k; (case a => k_is); (case l => k_is); (case c => k_is); (case k => k_is)))
    (case f_law => (refine' Sb.fk_mk ?a ?l ?c ?k; (case a => k_is); (case l => k_is); (case c => k_is); (case k => k_is)))
    (case g_GREATEST => exact Sb.glk_loose hx)
    (case g_MOST_NUMBER => (refine' Sb.glk_intK KX G ?a; (case a => k_is)))
    (case g_NOUGHT => (refine' Sb.glk_pairI KX G ?a ?l; (case a => k_is); (case l => k_is)))
    (case g_NO_END => (refine' Sb.glk_pairI KX G ?a ?l; (case a => k_is); (case l => k_is)))
    (case g_STEPS => (refine' Sb.glk_pairS KX G ?a ?l; (case a => k_is); (case l => k_is)))
