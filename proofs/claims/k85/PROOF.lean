import PyProof.Rows.All
import Wide.All
import OpenK.AllK
import Wide.FinOn
import HandS.ForMost
import HandS.Defaults
import HandS.TupAny
import HandS.Rev
import HandS.Style
import HandS.Wide
import KE.KDictDisplayH
import HandS.Flow
import PySem.Challenge.RW_wirelooker_k85_whole_costs_of_rows
set_option Elab.async false
set_option linter.all false
set_option maxRecDepth 100000
set_option maxHeartbeats 4000000
/-! data, owned things, what a reading evaluates to -/
namespace DL
open PySem L2
abbrev Fg := PySem.W.Frag
/-- data: what values stand for -/
inductive D where
  | non | bl (b : Bool) | int (i : Int) | str (x : Str)
  | tup (ds : List D) | ctp (ds : List D) | lst (ds : List D) | frl (ds : List D)
  | obj (C : Addr) (ns : List Str) (ds : List D)
  | dT (ks : List (List Key)) (ds : List D) | dK (ks : List Key) (ds : List D)
  deriving Inhabited

mutual
/-- the value stands for the data, over the settled heap B -/
def Rp (K : Fg) (B : Hp) : D → V → Prop
  | .non, v => v = .non
  | .bl b, v => v = .bl b
  | .int i, v => v = .int i
  | .str x, v => v = .str x
  | .tup ds, v => ∃ p xs, v = .ref p ∧ B p = some (.tup xs) ∧ RpL K B ds xs
  | .ctp ds, v => ∃ p xs, v = .ref p ∧ SqT K B p xs ∧ RpL K B ds xs
  | .lst ds, v => ∃ p xs, v = .ref p ∧ B p = some (.lst xs) ∧ RpL K B ds xs
  | .frl ds, v => ∃ p xs, v = .ref p ∧ SqL K B p xs ∧ RpL K B ds xs
  | .obj C ns ds, v => ∃ p dx xs, v = .ref p ∧ B p = some (.ins C dx (ns.zip xs)) ∧ ns.length = xs.length ∧ RpL K B ds xs
  | .dT ks ds, v => ∃ p xs, v = .ref p ∧ B p = some (.dT (ks.zip xs)) ∧ ks.length = xs.length ∧ RpL K B ds xs
  | .dK ks ds, v => ∃ p xs, v = .ref p ∧ B p = some (.dK (ks.zip xs)) ∧ ks.length = xs.length ∧ RpL K B ds xs
def RpL (K : Fg) (B : Hp) : List D → List V → Prop
  | [], xs => xs = []
  | d :: ds, xs => ∃ x r, xs = x :: r ∧ Rp K B d x ∧ RpL K B ds r
end

theorem Same.sqt {K : Fg} {H H' : Hp} {a : Addr} {xs : List V} (e : Same H H') (h : SqT K H a xs) : SqT K H' a xs := by
  rcases h with (h | ⟨o, h⟩) | h
  · exact .inl (.inl (e _ _ h))
  · exact .inl (.inr ⟨o, e _ _ h⟩)
  · exact .inr h
theorem Same.sql {K : Fg} {H H' : Hp} {a : Addr} {xs : List V} (e : Same H H') (h : SqL K H a xs) : SqL K H' a xs := L2.Same.seq e h

section
variable {K : Fg} {B B' : Hp}
mutual
theorem Rp.mono (e : Same B B') : ∀ {d : D} {v : V}, Rp K B d v → Rp K B' d v
  | .non, _, h => by simpa only [Rp] using h
  | .bl _, _, h => by simpa only [Rp] using h
  | .int _, _, h => by simpa only [Rp] using h
  | .str _, _, h => by simpa only [Rp] using h
  | .tup ds, _, h => by
    simp only [Rp] at h ⊢
    obtain ⟨p, xs, h1, h2, h3⟩ := h
    exact ⟨p, xs, h1, e _ _ h2, RpL.mono e h3⟩
  | .ctp ds, _, h => by
    simp only [Rp] at h ⊢
    obtain ⟨p, xs, h1, h2, h3⟩ := h
    exact ⟨p, xs, h1, Same.sqt e h2, RpL.mono e h3⟩
  | .lst ds, _, h => by
    simp only [Rp] at h ⊢
    obtain ⟨p, xs, h1, h2, h3⟩ := h
    exact ⟨p, xs, h1, e _ _ h2, RpL.mono e h3⟩
  | .frl ds, _, h => by
    simp only [Rp] at h ⊢
    obtain ⟨p, xs, h1, h2, h3⟩ := h
    exact ⟨p, xs, h1, Same.sql e h2, RpL.mono e h3⟩
  | .obj C ns ds, _, h => by
    simp only [Rp] at h ⊢
    obtain ⟨p, dx, xs, h1, h2, h3, h4⟩ := h
    exact ⟨p, dx, xs, h1, e _ _ h2, h3, RpL.mono e h4⟩
  | .dT ks ds, _, h => by
    simp only [Rp] at h ⊢
    obtain ⟨p, xs, h1, h2, h3, h4⟩ := h
    exact ⟨p, xs, h1, e _ _ h2, h3, RpL.mono e h4⟩
  | .dK ks ds, _, h => by
    simp only [Rp] at h ⊢
    obtain ⟨p, xs, h1, h2, h3, h4⟩ := h
    exact ⟨p, xs, h1, e _ _ h2, h3, RpL.mono e h4⟩
theorem RpL.mono (e : Same B B') : ∀ {ds : List D} {xs : List V}, RpL K B ds xs → RpL K B' ds xs
  | [], _, h => by simpa only [RpL] using h
  | d :: ds, _, h => by
    simp only [RpL] at h ⊢
    obtain ⟨x, r, h1, h2, h3⟩ := h
    exact ⟨x, r, h1, Rp.mono e h2, RpL.mono e h3⟩
end

theorem rp_non {v : V} : Rp K B .non v ↔ v = .non := by simp only [Rp]
theorem rp_bl {b : Bool} {v : V} : Rp K B (.bl b) v ↔ v = .bl b := by simp only [Rp]
theorem rp_int {i : Int} {v : V} : Rp K B (.int i) v ↔ v = .int i := by simp only [Rp]
theorem rp_str {x : Str} {v : V} : Rp K B (.str x) v ↔ v = .str x := by simp only [Rp]
theorem rp_tup {ds : List D} {v : V} : Rp K B (.tup ds) v ↔ ∃ p xs, v = .ref p ∧ B p = some (.tup xs) ∧ RpL K B ds xs := by simp only [Rp]
theorem rp_ctp {ds : List D} {v : V} : Rp K B (.ctp ds) v ↔ ∃ p xs, v = .ref p ∧ SqT K B p xs ∧ RpL K B ds xs := by simp only [Rp]
theorem rp_lst {ds : List D} {v : V} : Rp K B (.lst ds) v ↔ ∃ p xs, v = .ref p ∧ B p = some (.lst xs) ∧ RpL K B ds xs := by simp only [Rp]
theorem rp_frl {ds : List D} {v : V} : Rp K B (.frl ds) v ↔ ∃ p xs, v = .ref p ∧ SqL K B p xs ∧ RpL K B ds xs := by simp only [Rp]
theorem rp_obj {C : Addr} {ns : List Str} {ds : List D} {v : V} : Rp K B (.obj C ns ds) v ↔ ∃ p dx xs, v = .ref p ∧ B p = some (.ins C dx (ns.zip xs)) ∧ ns.length = xs.length ∧ RpL K B ds xs := by simp only [Rp]
theorem rp_dT {ks : List (List Key)} {ds : List D} {v : V} : Rp K B (.dT ks ds) v ↔ ∃ p xs, v = .ref p ∧ B p = some (.dT (ks.zip xs)) ∧ ks.length = xs.length ∧ RpL K B ds xs := by simp only [Rp]
theorem rp_dK {ks : List Key} {ds : List D} {v : V} : Rp K B (.dK ks ds) v ↔ ∃ p xs, v = .ref p ∧ B p = some (.dK (ks.zip xs)) ∧ ks.length = xs.length ∧ RpL K B ds xs := by simp only [Rp]
theorem rpl_nil {xs : List V} : RpL K B [] xs ↔ xs = [] := by simp only [RpL]
theorem rpl_cons {d : D} {ds : List D} {xs : List V} : RpL K B (d :: ds) xs ↔ ∃ x r, xs = x :: r ∧ Rp K B d x ∧ RpL K B ds r := by simp only [RpL]
theorem RpL.nil : RpL K B [] [] := rpl_nil.mpr rfl
theorem RpL.cons {d : D} {ds : List D} {x : V} {r : List V} (h : Rp K B d x) (t : RpL K B ds r) : RpL K B (d :: ds) (x :: r) := rpl_cons.mpr ⟨x, r, rfl, h, t⟩
theorem RpL.len : ∀ {ds : List D} {xs : List V}, RpL K B ds xs → ds.length = xs.length
  | [], _, h => by rw [rpl_nil.mp h] <;> rfl
  | d :: ds, _, h => by
    obtain ⟨x, r, rfl, _, t⟩ := rpl_cons.mp h
    rw [List.length_cons, List.length_cons, RpL.len t]
theorem RpL.get : ∀ {ds : List D} {xs : List V} {i : Nat} {d : D}, RpL K B ds xs → ds[i]? = some d → ∃ x, xs[i]? = some x ∧ Rp K B d x
  | [], _, i, _, _, e => by simp at e
  | d :: ds, _, 0, _, h, e => by
    obtain ⟨x, r, rfl, q, t⟩ := rpl_cons.mp h
    have e' : d = _ := Option.some.inj (by simpa using e)
    subst e'
    exact ⟨x, rfl, q⟩
  | d :: ds, _, i + 1, d', h, e => by
    obtain ⟨x, r, rfl, q, t⟩ := rpl_cons.mp h
    obtain ⟨y, h1, h2⟩ := RpL.get (i := i) (d := d') t (by simpa using e)
    exact ⟨y, by simpa using h1, h2⟩
theorem RpL.back {ds : List D} {xs : List V} {i : Nat} {x : V} (h : RpL K B ds xs) (e : xs[i]? = some x) : ∃ d, ds[i]? = some d ∧ Rp K B d x := by
  have hl := h.len
  have hi : i < ds.length := by
    have := (List.getElem?_eq_some_iff.mp e).1
    omega
  obtain ⟨y, h1, h2⟩ := h.get (d := ds[i]) (List.getElem?_eq_getElem hi)
  rw [e] at h1
  cases h1
  exact ⟨ds[i], List.getElem?_eq_getElem hi, h2⟩
theorem RpL.append : ∀ {ds es : List D} {xs ys : List V}, RpL K B ds xs → RpL K B es ys → RpL K B (ds ++ es) (xs ++ ys)
  | [], _, _, _, h, q => by rw [rpl_nil.mp h]; exact q
  | d :: ds, _, _, _, h, q => by
    obtain ⟨x, r, rfl, h1, t⟩ := rpl_cons.mp h
    exact RpL.cons h1 (RpL.append t q)
theorem RpL.set : ∀ {ds : List D} {xs : List V} {d : D} {x : V} (i : Nat), RpL K B ds xs → Rp K B d x → RpL K B (ds.set i d) (xs.set i x)
  | [], _, _, _, _, h, _ => by rw [rpl_nil.mp h]; exact RpL.nil
  | e :: ds, _, _, _, 0, h, q => by
    obtain ⟨y, r, rfl, h1, t⟩ := rpl_cons.mp h
    exact RpL.cons q t
  | e :: ds, _, _, _, i + 1, h, q => by
    obtain ⟨y, r, rfl, h1, t⟩ := rpl_cons.mp h
    exact RpL.cons h1 (RpL.set i t q)
theorem RpL.drop : ∀ {ds : List D} {xs : List V} (n : Nat), RpL K B ds xs → RpL K B (ds.drop n) (xs.drop n)
  | _, _, 0, h => h
  | [], _, n + 1, h => by rw [rpl_nil.mp h]; exact RpL.nil
  | d :: ds, _, n + 1, h => by
    obtain ⟨x, r, rfl, _, t⟩ := rpl_cons.mp h
    exact RpL.drop n t
theorem RpL.take : ∀ {ds : List D} {xs : List V} (n : Nat), RpL K B ds xs → RpL K B (ds.take n) (xs.take n)
  | _, _, 0, _ => RpL.nil
  | [], _, n + 1, h => by rw [rpl_nil.mp h]; exact RpL.nil
  | d :: ds, _, n + 1, h => by
    obtain ⟨x, r, rfl, q, t⟩ := rpl_cons.mp h
    exact RpL.cons q (RpL.take n t)
theorem RpL.reverse : ∀ {ds : List D} {xs : List V}, RpL K B ds xs → RpL K B ds.reverse xs.reverse
  | [], _, h => by rw [rpl_nil.mp h]; exact RpL.nil
  | d :: ds, _, h => by
    obtain ⟨x, r, rfl, q, t⟩ := rpl_cons.mp h
    rw [List.reverse_cons, List.reverse_cons]
    exact (RpL.reverse t).append (.cons q .nil)
theorem RpL.one {d : D} {xs : List V} (h : RpL K B [d] xs) : ∃ x, xs = [x] ∧ Rp K B d x := by
  obtain ⟨x, r, rfl, q, t⟩ := rpl_cons.mp h
  rw [rpl_nil.mp t]
  exact ⟨x, rfl, q⟩
theorem RpL.two {d e : D} {xs : List V} (h : RpL K B [d, e] xs) : ∃ x y, xs = [x, y] ∧ Rp K B d x ∧ Rp K B e y := by
  obtain ⟨x, r, rfl, q, t⟩ := rpl_cons.mp h
  obtain ⟨y, rfl, q2⟩ := t.one
  exact ⟨x, y, rfl, q, q2⟩
theorem RpL.ints {ns : List Int} {xs : List V} : RpL K B (ns.map D.int) xs ↔ xs = ns.map V.int := by
  induction ns generalizing xs with
  | nil => exact rpl_nil
  | cons n ns ih =>
    rw [List.map_cons, rpl_cons]
    constructor
    · rintro ⟨x, r, rfl, q, t⟩
      rw [rp_int.mp q, ih.mp t]
      rfl
    · rintro rfl
      exact ⟨_, _, rfl, rp_int.mpr rfl, ih.mpr rfl⟩
theorem RpL.bls {ns : List Bool} {xs : List V} : RpL K B (ns.map D.bl) xs ↔ xs = ns.map V.bl := by
  induction ns generalizing xs with
  | nil => exact rpl_nil
  | cons n ns ih =>
    rw [List.map_cons, rpl_cons]
    constructor
    · rintro ⟨x, r, rfl, q, t⟩
      rw [rp_bl.mp q, ih.mp t]
      rfl
    · rintro rfl
      exact ⟨_, _, rfl, rp_bl.mpr rfl, ih.mpr rfl⟩
end

/-! ### what stands at an owned address -/
def HoR (K : Fg) (B : Hp) : D → HO → Prop
  | .lst ds, o => ∃ xs, o = .lst xs ∧ RpL K B ds xs
  | .obj C ns ds, o => ∃ dx xs, o = .ins C dx (ns.zip xs) ∧ ns.length = xs.length ∧ RpL K B ds xs
  | .dT ks ds, o => ∃ xs, o = .dT (ks.zip xs) ∧ ks.length = xs.length ∧ RpL K B ds xs
  | .dK ks ds, o => ∃ xs, o = .dK (ks.zip xs) ∧ ks.length = xs.length ∧ RpL K B ds xs
  | _, _ => False
theorem HoR.mono {K : Fg} {B B' : Hp} (e : Same B B') {d : D} {o : HO} (h : HoR K B d o) : HoR K B' d o := by
  cases d <;> simp only [HoR] at h ⊢
  · obtain ⟨xs, h1, h2⟩ := h; exact ⟨xs, h1, h2.mono e⟩
  · obtain ⟨dx, xs, h1, h2, h3⟩ := h; exact ⟨dx, xs, h1, h2, h3.mono e⟩
  · obtain ⟨xs, h1, h2, h3⟩ := h; exact ⟨xs, h1, h2, h3.mono e⟩
  · obtain ⟨xs, h1, h2, h3⟩ := h; exact ⟨xs, h1, h2, h3.mono e⟩
theorem HoR.rp {K : Fg} {B : Hp} {d : D} {o : HO} {p : Addr} (h : HoR K B d o) (e : B p = some o) : Rp K B d (.ref p) := by
  cases d <;> simp only [HoR] at h
  · obtain ⟨xs, rfl, h2⟩ := h; exact rp_lst.mpr ⟨p, xs, rfl, e, h2⟩
  · obtain ⟨dx, xs, rfl, h2, h3⟩ := h; exact rp_obj.mpr ⟨p, dx, xs, rfl, e, h2, h3⟩
  · obtain ⟨xs, rfl, h2, h3⟩ := h; exact rp_dT.mpr ⟨p, xs, rfl, e, h2, h3⟩
  · obtain ⟨xs, rfl, h2, h3⟩ := h; exact rp_dK.mpr ⟨p, xs, rfl, e, h2, h3⟩

/-! ### what the slots hold -/
inductive SV where
  | dat (d : D) | own (w : Bool) (d : D)
abbrev Env := List (Option SV)
/-- what the frame has to leave as it is; where the owned arguments stand, by their slots -/
structure Fr where
  F : Hp
  z : Nat → Option Addr

/-- F: what the frame has to leave as it is; B0: the settled heap at the entry; B: the settled heap now -/
structure St (K : Fg) (F : Fr) (B0 B : Hp) (σ : L2.St) (H : Hp) (ρ : Env) : Prop where
  fr : Same F.F H
  b0 : Same B0 B
  bh : Same B H
  new : ∀ a, B a ≠ none → B0 a ≠ none ∨ F.F a = none
  dat : ∀ (i : Nat) d, ρ[i]? = some (some (.dat d)) → ∃ v, σ[i]? = some (some v) ∧ Rp K B d v
  own : ∀ (i : Nat) w d, ρ[i]? = some (some (.own w d)) → ∃ p o, σ[i]? = some (some (.ref p)) ∧ H p = some o ∧ HoR K B d o ∧ B p = none ∧ F.F p = none ∧ (w = true → F.z i = some p)
  dist : ∀ (i j : Nat) w w' d e p, ρ[i]? = some (some (.own w d)) → ρ[j]? = some (some (.own w' e)) → σ[i]? = some (some (.ref p)) → σ[j]? = some (some (.ref p)) → i = j
  len : ρ.length = σ.length

/-- the heaps grow: what is new in B is new in H -/
structure Grow (B H B' H' : Hp) : Prop where
  hh : Same H H'
  bb : Same B B'
  bh : Same B' H'
  new : ∀ a, B' a ≠ none → B a ≠ none ∨ H a = none
section
variable {K : Fg} {F : Fr} {B0 B B' H H' : Hp} {σ : L2.St} {ρ ρ' : Env}
theorem Grow.refl (h : Same B H) : Grow B H B H := ⟨Same.refl _, Same.refl _, h, fun _ q => .inl q⟩
theorem Grow.trans {B2 H2 : Hp} (a : Grow B H B' H') (b : Grow B' H' B2 H2) : Grow B H B2 H2 :=
  ⟨a.hh.trans b.hh, a.bb.trans b.bb, b.bh, fun x q => by
    rcases b.new x q with r | r
    · exact a.new x r
    · exact .inr (a.hh.free r)⟩
theorem same_upd {p : Addr} {o : HO} (h : H p = none) : Same H (upd H p o) := fun b x e => by
  rw [upd_ne (ne_of_none e h)]
  exact e
theorem none_of_same (e : Same B H) {p : Addr} (h : H p = none) : B p = none := e.free h
/-- a new settled object -/
theorem Grow.put {p : Addr} {o : HO} (h : Same B H) (hp : H p = none) : Grow B H (upd B p o) (upd H p o) := by
  have hb := none_of_same h hp
  refine ⟨same_upd hp, same_upd hb, fun b x e => ?_, fun a q => ?_⟩
  · by_cases hbp : b = p
    · subst hbp; rw [upd_same] at e ⊢; exact e
    · rw [upd_ne hbp] at e ⊢; exact h _ _ e
  · by_cases ha : a = p
    · subst ha; exact .inr hp
    · rw [upd_ne ha] at q; exact .inl q
/-- a new object that isn't settled -/
theorem Grow.loose {p : Addr} {o : HO} (h : Same B H) (hp : H p = none) : Grow B H B (upd H p o) :=
  ⟨same_upd hp, Same.refl _, h.trans (same_upd hp), fun _ q => .inl q⟩
theorem St.grow (S : St K F B0 B σ H ρ) (g : Grow B H B' H') : St K F B0 B' σ H' ρ := by
  refine ⟨S.fr.trans g.hh, S.b0.trans g.bb, g.bh, fun a q => ?_, fun i d e => ?_, fun i w d e => ?_, S.dist, S.len⟩
  · rcases g.new a q with r | r
    · exact S.new a r
    · exact .inr (S.fr.free r)
  · obtain ⟨v, h1, h2⟩ := S.dat i d e
    exact ⟨v, h1, h2.mono g.bb⟩
  · obtain ⟨p, o, h1, h2, h3, h4, h5⟩ := S.own i w d e
    refine ⟨p, o, h1, g.hh _ _ h2, h3.mono g.bb, ?_, h5⟩
    cases q : B' p with
    | none => rfl
    | some u =>
      rcases g.new p (by rw [q]; intro z; cases z) with r | r
      · exact absurd h4 r
      · rw [h2] at r; cases r

/-! ### forgetting, settling -/
inductive Wk : Env → Env → Prop
  | nil : Wk [] []
  | skip {a : Option SV} {ρ ρ' : Env} : Wk ρ ρ' → Wk (a :: ρ) (none :: ρ')
  | keep {a : Option SV} {ρ ρ' : Env} : Wk ρ ρ' → Wk (a :: ρ) (a :: ρ')
  | set {w : Bool} {d : D} {ρ ρ' : Env} : Wk ρ ρ' → Wk (some (.own w d) :: ρ) (some (.dat d) :: ρ')
theorem Wk.refl : ∀ ρ : Env, Wk ρ ρ
  | [] => .nil
  | _ :: r => .keep (Wk.refl r)
theorem Wk.len : ∀ {ρ ρ' : Env}, Wk ρ ρ' → ρ.length = ρ'.length
  | _, _, .nil => rfl
  | _, _, .skip h => congrArg Nat.succ h.len
  | _, _, .keep h => congrArg Nat.succ h.len
  | _, _, .set h => congrArg Nat.succ h.len
theorem Wk.at : ∀ {ρ ρ' : Env}, Wk ρ ρ' → ∀ (i : Nat) (x : SV), ρ'[i]? = some (some x) → ρ[i]? = some (some x) ∨ ∃ w d, ρ[i]? = some (some (.own w d)) ∧ x = .dat d
  | _, _, .nil, i, x, e => by simp at e
  | _, _, .skip h, 0, x, e => by simp at e
  | _, _, .skip h, i + 1, x, e => by simpa using h.at i x (by simpa using e)
  | _, _, .keep h, 0, x, e => .inl (by simpa using e)
  | _, _, .keep h, i + 1, x, e => by simpa using h.at i x (by simpa using e)
  | _, _, .set (w := w) (d := d) h, 0, x, e => .inr ⟨w, d, rfl, by simpa using e.symm⟩
  | _, _, .set h, i + 1, x, e => by simpa using h.at i x (by simpa using e)

open Classical in
theorem St.weak (S : St K F B0 B σ H ρ) (wk : Wk ρ ρ') : ∃ B', Same B B' ∧ St K F B0 B' σ H ρ' := by
  let T : Addr → Prop := fun a => ∃ (i : Nat) (w : Bool) (d : D), ρ[i]? = some (some (.own w d)) ∧ ρ'[i]? = some (some (.dat d)) ∧ σ[i]? = some (some (.ref a))
  have tB : ∀ a, T a → B a = none ∧ F.F a = none := by
    rintro a ⟨i, w, d, h1, _, h3⟩
    obtain ⟨p, o, e1, e2, e3, e4, e5, _⟩ := S.own i w d h1
    rw [h3] at e1; cases e1
    exact ⟨e4, e5⟩
  let B' : Hp := fun a => if T a then H a else B a
  have hT : ∀ {a}, T a → B' a = H a := fun h => if_pos h
  have hN : ∀ {a}, ¬ T a → B' a = B a := fun h => if_neg h
  have bb : Same B B' := fun a o e => by
    by_cases t : T a
    · rw [(tB a t).1] at e; cases e
    · rw [hN t]; exact e
  refine ⟨B', bb, S.fr, S.b0.trans bb, fun a o e => ?_, fun a q => ?_, fun i d e => ?_, fun i w d e => ?_, fun i j w w' d e p h1 h2 h3 h4 => ?_, ?_⟩
  · by_cases t : T a
    · rw [hT t] at e; exact e
    · rw [hN t] at e; exact S.bh _ _ e
  · by_cases t : T a
    · exact .inr (tB a t).2
    · rw [hN t] at q; exact S.new a q
  · rcases wk.at i _ e with h | ⟨w', d', h, z⟩
    · obtain ⟨v, h1, h2⟩ := S.dat i d h
      exact ⟨v, h1, h2.mono bb⟩
    · cases z
      obtain ⟨p, o, h1, h2, h3, h4, h5⟩ := S.own i w' d h
      exact ⟨_, h1, (h3.mono bb).rp (by rw [hT ⟨i, w', d, h, e, h1⟩]; exact h2)⟩
  · rcases wk.at i _ e with h | ⟨w', d', h, z⟩
    · obtain ⟨p, o, h1, h2, h3, h4, h5⟩ := S.own i w d h
      refine ⟨p, o, h1, h2, h3.mono bb, ?_, h5⟩
      have nt : ¬ T p := by
        rintro ⟨j, w2, d', q1, q2, q3⟩
        have := S.dist i j _ _ _ _ p h q1 h1 q3
        subst this
        rw [e] at q2; cases q2
      rw [hN nt]; exact h4
    · cases z
  · rcases wk.at i _ h1 with q1 | ⟨_, _, _, z⟩
    · rcases wk.at j _ h2 with q2 | ⟨_, _, _, z⟩
      · exact S.dist i j w w' d e p q1 q2 h3 h4
      · cases z
    · cases z
  · rw [← wk.len]; exact S.len
end
end DL

namespace DL
open PySem L2
def nonD : D → Bool
  | .non => true
  | _ => false
/-! ### judgements -/
def Ev (K : Fg) (te : TE) (ρ : Env) (d : D) (ρ' : Env) : Prop := ∀ F B0 B σ H, St K F B0 B σ H ρ → ∀ Q : VK, (∀ v B' H', Same B B' → St K F B0 B' σ H' ρ' → Rp K B' d v → Q v H') → te σ H Q
def EvT (K : Fg) (t : TT) (ρ : Env) (b : Bool) (ρ' : Env) : Prop := ∀ F B0 B σ H, St K F B0 B σ H ρ → ∀ Q : Bool → Hp → Prop, (∀ B' H', Same B B' → St K F B0 B' σ H' ρ' → Q b H') → t σ H Q
def EvA (K : Fg) (ta : TA) (ρ : Env) (ds : List D) (ρ' : Env) : Prop := ∀ F B0 B σ H, St K F B0 B σ H ρ → ∀ Q : List V → Hp → Prop, (∀ vs B' H', Same B B' → St K F B0 B' σ H' ρ' → RpL K B' ds vs → Q vs H') → ta σ H Q
/-- nobody holds the thing at p but who asked -/
structure Free (K : Fg) (F : Fr) (B : Hp) (σ : L2.St) (H : Hp) (ρ : Env) (d : D) (p : Addr) : Prop where
  at_ : ∃ o, H p = some o ∧ HoR K B d o
  nb : B p = none
  nf : F.F p = none
  un : ∀ (i : Nat) w e, ρ[i]? = some (some (.own w e)) → σ[i]? ≠ some (some (.ref p))
/-- a new thing, owned by nobody yet -/
def EvN (K : Fg) (te : TE) (ρ : Env) (d : D) (ρ' : Env) : Prop := ∀ F B0 B σ H, St K F B0 B σ H ρ → ∀ Q : VK, (∀ p B' H', Same B B' → St K F B0 B' σ H' ρ' → Free K F B' σ H' ρ' d p → Q (.ref p) H') → te σ H Q
def OpD (K : Fg) (r : R2) (a b c : D) : Prop := ∀ B H x y, Same B H → Rp K B a x → Rp K B b y → ∀ Q : VK, (∀ v B' H', Grow B H B' H' → Rp K B' c v → Q v H') → r x y H Q
def OpN (K : Fg) (r : R2) (a b c : D) : Prop := ∀ B H x y, Same B H → Rp K B a x → Rp K B b y → ∀ Q : VK, (∀ p o B' H', Grow B H B' H' → H p = none → H' p = some o → B' p = none → HoR K B' c o → Q (.ref p) H') → r x y H Q
def UnD (K : Fg) (r : V → Hp → VK → Prop) (a c : D) : Prop := ∀ B H x, Same B H → Rp K B a x → ∀ Q : VK, (∀ v B' H', Grow B H B' H' → Rp K B' c v → Q v H') → r x H Q
def CaD (K : Fg) (r : List V → Hp → VK → Prop) (as : List D) (c : D) : Prop := ∀ B H xs, Same B H → RpL K B as xs → ∀ Q : VK, (∀ v B' H', Grow B H B' H' → Rp K B' c v → Q v H') → r xs H Q
def CaN (K : Fg) (r : List V → Hp → VK → Prop) (as : List D) (c : D) : Prop := ∀ B H xs, Same B H → RpL K B as xs → ∀ Q : VK, (∀ p o B' H', Grow B H B' H' → H p = none → H' p = some o → B' p = none → HoR K B' c o → Q (.ref p) H') → r xs H Q

section
variable {K : Fg} {F : Fr} {B0 B B' H H' : Hp} {σ : L2.St} {ρ ρ1 ρ2 ρ3 : Env} {te ta tb tc : TE} {t u : TT} {a b c d e : D} {r : R2} {i j k : Int} {n m : Nat} {ds es : List D}

theorem Free.settle (S : St K F B0 B σ H ρ) {p : Addr} (f : Free K F B σ H ρ d p) : ∃ B', Same B B' ∧ St K F B0 B' σ H ρ ∧ Rp K B' d (.ref p) := by
  obtain ⟨o, ho, hr⟩ := f.at_
  have bb : Same B (upd B p o) := same_upd f.nb
  refine ⟨upd B p o, bb, ⟨S.fr, S.b0.trans bb, fun q x e => ?_, fun q z => ?_, fun i d e => ?_, fun i w d e => ?_, S.dist, S.len⟩, (hr.mono bb).rp upd_same⟩
  · by_cases hq : q = p
    · subst hq; rw [upd_same] at e; rw [ho]; exact e
    · rw [upd_ne hq] at e; exact S.bh _ _ e
  · by_cases hq : q = p
    · subst hq; exact .inr f.nf
    · rw [upd_ne hq] at z; exact S.new q z
  · obtain ⟨v, h1, h2⟩ := S.dat i d e
    exact ⟨v, h1, h2.mono bb⟩
  · obtain ⟨q, x, h1, h2, h3, h4, h5⟩ := S.own i w d e
    have hq : q ≠ p := fun z => by subst z; exact f.un i w d e h1
    exact ⟨q, x, h1, h2, h3.mono bb, by rw [upd_ne hq]; exact h4, h5⟩
/-- a new owned thing goes to a slot -/
theorem Free.take (S : St K F B0 B σ H ρ) {p : Addr} (f : Free K F B σ H ρ d p) (hn : n < ρ.length) : St K F B0 B (σ.set n (some (.ref p))) H (ρ.set n (some (.own false d))) := by
  obtain ⟨o, ho, hr⟩ := f.at_
  have hs : n < σ.length := by rw [← S.len]; exact hn
  refine ⟨S.fr, S.b0, S.bh, S.new, fun i d' e => ?_, fun i w d' e => ?_, fun i j w1 w2 d1 d2 q h1 h2 h3 h4 => ?_, by simp [S.len]⟩
  · by_cases hi : n = i
    · subst hi; rw [List.getElem?_set_self hn] at e; cases e
    · rw [List.getElem?_set_ne hi] at e ⊢; exact S.dat i d' e
  · by_cases hi : n = i
    · subst hi
      rw [List.getElem?_set_self hn] at e
      cases e
      exact ⟨p, o, List.getElem?_set_self hs, ho, hr, f.nb, f.nf, fun z => nomatch z⟩
    · rw [List.getElem?_set_ne hi] at e ⊢; exact S.own i w d' e
  · by_cases hi : n = i
    · subst hi
      by_cases hj : n = j
      · exact hj
      · rw [List.getElem?_set_self hs] at h3
        rw [List.getElem?_set_ne hj] at h2 h4
        cases h3
        exact absurd h4 (f.un j w2 d2 h2)
    · rw [List.getElem?_set_ne hi] at h1 h3
      by_cases hj : n = j
      · subst hj
        rw [List.getElem?_set_self hs] at h4
        cases h4
        exact absurd h3 (f.un i w1 d1 h1)
      · rw [List.getElem?_set_ne hj] at h2 h4
        exact S.dist i j w1 w2 d1 d2 q h1 h2 h3 h4
/-- data goes to a slot -/
theorem St.put (S : St K F B0 B σ H ρ) {v : V} (hv : Rp K B d v) (hn : n < ρ.length) : St K F B0 B (σ.set n (some v)) H (ρ.set n (some (.dat d))) := by
  have hs : n < σ.length := by rw [← S.len]; exact hn
  refine ⟨S.fr, S.b0, S.bh, S.new, fun i d' e => ?_, fun i w d' e => ?_, fun i j w1 w2 d1 d2 q h1 h2 h3 h4 => ?_, by simp [S.len]⟩
  · by_cases hi : n = i
    · subst hi
      rw [List.getElem?_set_self hn] at e
      cases e
      exact ⟨v, List.getElem?_set_self hs, hv⟩
    · rw [List.getElem?_set_ne hi] at e ⊢; exact S.dat i d' e
  · by_cases hi : n = i
    · subst hi; rw [List.getElem?_set_self hn] at e; cases e
    · rw [List.getElem?_set_ne hi] at e ⊢; exact S.own i w d' e
  · by_cases hi : n = i
    · subst hi; rw [List.getElem?_set_self hn] at h1; cases h1
    · by_cases hj : n = j
      · subst hj; rw [List.getElem?_set_self hn] at h2; cases h2
      · rw [List.getElem?_set_ne hi] at h1 h3
        rw [List.getElem?_set_ne hj] at h2 h4
        exact S.dist i j w1 w2 d1 d2 q h1 h2 h3 h4
/-- the owned thing of a slot has changed -/
theorem St.mutate (S : St K F B0 B σ H ρ) {p : Addr} {o : HO} {w : Bool} (hρ : ρ[n]? = some (some (.own w d))) (hσ : σ[n]? = some (some (.ref p))) (hr : HoR K B e o) : St K F B0 B σ (upd H p o) (ρ.set n (some (.own w e))) := by
  have hn : n < ρ.length := (List.getElem?_eq_some_iff.mp hρ).1
  obtain ⟨p', o', h1, h2, h3, h4, h5, h6⟩ := S.own n w d hρ
  rw [hσ] at h1; cases h1
  refine ⟨fun q x z => ?_, S.b0, fun q x z => ?_, S.new, fun i d' z => ?_, fun i w' d' z => ?_, fun i j w1 w2 d1 d2 q h1 h2 h3 h4 => ?_, by simp [S.len]⟩
  · rw [upd_ne (ne_of_none z h5)]; exact S.fr _ _ z
  · rw [upd_ne (ne_of_none z h4)]; exact S.bh _ _ z
  · by_cases hi : n = i
    · subst hi; rw [List.getElem?_set_self hn] at z; cases z
    · rw [List.getElem?_set_ne hi] at z; exact S.dat i d' z
  · by_cases hi : n = i
    · subst hi
      rw [List.getElem?_set_self hn] at z
      cases z
      exact ⟨p, o, hσ, upd_same, hr, h4, h5, h6⟩
    · rw [List.getElem?_set_ne hi] at z
      obtain ⟨q, x, e1, e2, e3, e4, e5, e6⟩ := S.own i w' d' z
      have hq : q ≠ p := fun y => by
        subst y
        exact hi (S.dist n i _ _ _ _ q hρ z hσ e1)
      exact ⟨q, x, e1, by rw [upd_ne hq]; exact e2, e3, e4, e5, e6⟩
  · have g : ∀ (i : Nat) w1 d1, (ρ.set n (some (.own w e)))[i]? = some (some (.own w1 d1)) → ∃ w' d', ρ[i]? = some (some (.own w' d')) := fun i w1 d1 z => by
      by_cases hi : n = i
      · subst hi; exact ⟨w, d, hρ⟩
      · rw [List.getElem?_set_ne hi] at z; exact ⟨w1, d1, z⟩
    obtain ⟨w1', d1', g1⟩ := g i w1 d1 h1
    obtain ⟨w2', d2', g2⟩ := g j w2 d2 h2
    exact S.dist i j _ _ _ _ q g1 g2 h3 h4

/-! ### from one judgement to another -/
theorem EvN.ev (h : EvN K te ρ d ρ1) : Ev K te ρ d ρ1 := fun F B0 B σ H S Q q =>
  h F B0 B σ H S Q fun p B1 H1 b1 S1 f => by
    obtain ⟨B2, b2, S2, r⟩ := f.settle S1
    exact q _ B2 H1 (b1.trans b2) S2 r
theorem Ev.cast (h : Ev K te ρ d ρ1) (e : d = c) : Ev K te ρ c ρ1 := e ▸ h
theorem EvT.cast {x y : Bool} (h : EvT K t ρ x ρ1) (e : x = y) : EvT K t ρ y ρ1 := e ▸ h
theorem EvA.cast (h : EvA K ta' ρ ds ρ1) (e : ds = es) : EvA K ta' ρ es ρ1 := e ▸ h
theorem EvN.cast (h : EvN K te ρ d ρ1) (e : d = c) : EvN K te ρ c ρ1 := e ▸ h
/-- weaker slots behind -/
theorem Ev.weak (h : Ev K te ρ d ρ1) (w : Wk ρ1 ρ2) : Ev K te ρ d ρ2 := fun F B0 B σ H S Q q =>
  h F B0 B σ H S Q fun v B1 H1 b1 S1 r => by
    obtain ⟨B2, b2, S2⟩ := S1.weak w
    exact q v B2 H1 (b1.trans b2) S2 (r.mono b2)

/-! ### names, constants -/
theorem ev_var (h : ρ[n]? = some (some (.dat d))) : Ev K (tVar n) ρ d ρ := fun F B0 B σ H S Q q => by
  obtain ⟨v, h1, h2⟩ := S.dat n d h
  exact ⟨v, h1, q v B H (Same.refl _) S h2⟩
theorem ev_non : Ev K (tC .non) ρ .non ρ := fun F B0 B σ H S Q q => q _ B H (Same.refl _) S (rp_non.mpr rfl)
theorem ev_int : Ev K (tC (.int i)) ρ (.int i) ρ := fun F B0 B σ H S Q q => q _ B H (Same.refl _) S (rp_int.mpr rfl)
theorem ev_bl {x : Bool} : Ev K (tC (.bl x)) ρ (.bl x) ρ := fun F B0 B σ H S Q q => q _ B H (Same.refl _) S (rp_bl.mpr rfl)
theorem ev_str {x : Str} : Ev K (tC (.str x)) ρ (.str x) ρ := fun F B0 B σ H S Q q => q _ B H (Same.refl _) S (rp_str.mpr rfl)

/-! ### operators -/
theorem ev_op (ha : Ev K ta ρ a ρ1) (hb : Ev K tb ρ1 b ρ2) (hr : OpD K r a b c) : Ev K (tOp r ta tb) ρ c ρ2 := fun F B0 B σ H S Q q =>
  ha F B0 B σ H S _ fun x B1 H1 b1 S1 r1 => hb F B0 B1 σ H1 S1 _ fun y B2 H2 b2 S2 r2 => hr B2 H2 x y S2.bh (r1.mono b2) r2 Q fun v B3 H3 g r3 => q v B3 H3 ((b1.trans b2).trans g.bb) (S2.grow g) r3
theorem Free.grow (S : St K F B0 B σ H ρ) (g : Grow B H B' H') {p : Addr} {o : HO} (h0 : H p = none) (h1 : H' p = some o) (h2 : B' p = none) (h3 : HoR K B' d o) : Free K F B' σ H' ρ d p :=
  ⟨⟨o, h1, h3⟩, h2, S.fr.free h0, fun i w e z y => by
    obtain ⟨q, x, e1, e2, _⟩ := S.own i w e z
    rw [y] at e1; cases e1
    rw [h0] at e2; cases e2⟩
theorem en_op (ha : Ev K ta ρ a ρ1) (hb : Ev K tb ρ1 b ρ2) (hr : OpN K r a b c) : EvN K (tOp r ta tb) ρ c ρ2 := fun F B0 B σ H S Q q =>
  ha F B0 B σ H S _ fun x B1 H1 b1 S1 r1 => hb F B0 B1 σ H1 S1 _ fun y B2 H2 b2 S2 r2 => hr B2 H2 x y S2.bh (r1.mono b2) r2 Q fun p o B3 H3 g h0 h1 h2 h3 => q p B3 H3 ((b1.trans b2).trans g.bb) (S2.grow g) (Free.grow S2 g h0 h1 h2 h3)
theorem ev_un {r : V → Hp → VK → Prop} (ha : Ev K ta ρ a ρ1) (hr : UnD K r a c) : Ev K (tUn r ta) ρ c ρ1 := fun F B0 B σ H S Q q =>
  ha F B0 B σ H S _ fun x B1 H1 b1 S1 r1 => hr B1 H1 x S1.bh r1 Q fun v B3 H3 g r3 => q v B3 H3 (b1.trans g.bb) (S1.grow g) r3
/-! ### arguments, calls of built-ins -/
theorem ea_nil : EvA K tNil ρ [] ρ := fun F B0 B σ H S Q q => q [] B H (Same.refl _) S .nil
theorem ea_cons {tr : TA} (ha : Ev K ta ρ a ρ1) (hr : EvA K tr ρ1 ds ρ2) : EvA K (tCons ta tr) ρ (a :: ds) ρ2 := fun F B0 B σ H S Q q =>
  ha F B0 B σ H S _ fun x B1 H1 b1 S1 r1 => hr F B0 B1 σ H1 S1 _ fun xs B2 H2 b2 S2 r2 => q (x :: xs) B2 H2 (b1.trans b2) S2 (.cons (r1.mono b2) r2)
theorem ev_cb {tr : TA} {r : List V → Hp → VK → Prop} (ha : EvA K tr ρ ds ρ1) (hr : CaD K r ds c) : Ev K (tCB r tr) ρ c ρ1 := fun F B0 B σ H S Q q =>
  ha F B0 B σ H S _ fun xs B1 H1 b1 S1 r1 => hr B1 H1 xs S1.bh r1 Q fun v B3 H3 g r3 => q v B3 H3 (b1.trans g.bb) (S1.grow g) r3
theorem en_cb {tr : TA} {r : List V → Hp → VK → Prop} (ha : EvA K tr ρ ds ρ1) (hr : CaN K r ds c) : EvN K (tCB r tr) ρ c ρ1 := fun F B0 B σ H S Q q =>
  ha F B0 B σ H S _ fun xs B1 H1 b1 S1 r1 => hr B1 H1 xs S1.bh r1 Q fun p o B3 H3 g h0 h1 h2 h3 => q p B3 H3 (b1.trans g.bb) (S1.grow g) (Free.grow S1 g h0 h1 h2 h3)
theorem ev_tup {tr : TA} (ha : EvA K tr ρ ds ρ1) (hl : ds.length ≤ sizeLine) : Ev K (tTup tr) ρ (.tup ds) ρ1 := fun F B0 B σ H S Q q =>
  ha F B0 B σ H S _ fun xs B1 H1 b1 S1 r1 => ⟨by rw [← r1.len]; exact hl, fun p hp => by
    have g : Grow B1 H1 (upd B1 p (.tup xs)) (upd H1 p (.tup xs)) := Grow.put S1.bh hp
    exact q _ _ _ (b1.trans g.bb) (S1.grow g) (rp_tup.mpr ⟨p, xs, rfl, upd_same, r1.mono g.bb⟩)⟩
theorem en_lst {tr : TA} (ha : EvA K tr ρ ds ρ1) (hl : ds.length ≤ sizeLine) : EvN K (tLst tr) ρ (.lst ds) ρ1 := fun F B0 B σ H S Q q =>
  ha F B0 B σ H S _ fun xs B1 H1 b1 S1 r1 => ⟨by rw [← r1.len]; exact hl, fun p hp => by
    have g : Grow B1 H1 B1 (upd H1 p (.lst xs)) := Grow.loose S1.bh hp
    exact q p _ _ b1 (S1.grow g) (Free.grow S1 g hp upd_same (none_of_same S1.bh hp) ⟨xs, rfl, r1⟩)⟩
/-! ### tests -/
theorem et_B {x : Bool} (h : Ev K te ρ (.bl x) ρ1) : EvT K (tB te) ρ x ρ1 := fun F B0 B σ H S Q q =>
  h F B0 B σ H S _ fun v B1 H1 b1 S1 r1 => ⟨x, rp_bl.mp r1, q B1 H1 b1 S1⟩
theorem et_test {x : Bool} (h : Ev K te ρ (.bl x) ρ1) : EvT K (tTest te) ρ x ρ1 := fun F B0 B σ H S Q q =>
  h F B0 B σ H S _ fun v B1 H1 b1 S1 r1 => ⟨x, rp_bl.mp r1, q B1 H1 b1 S1⟩
theorem et_not {x : Bool} (h : EvT K t ρ x ρ1) : EvT K (tNot t) ρ (!x) ρ1 := fun F B0 B σ H S Q q => h F B0 B σ H S _ q
/-- tests that leave the slots as they are -/
theorem et_and {x y : Bool} (h : EvT K t ρ x ρ) (g : x = true → EvT K u ρ y ρ) : EvT K (tAnd t u) ρ (x && y) ρ := fun F B0 B σ H S Q q =>
  h F B0 B σ H S _ fun B1 H1 b1 S1 => by
    cases x with
    | true => exact g rfl F B0 B1 σ H1 S1 Q fun B2 H2 b2 S2 => q B2 H2 (b1.trans b2) S2
    | false => exact q B1 H1 b1 S1
theorem et_or {x y : Bool} (h : EvT K t ρ x ρ) (g : x = false → EvT K u ρ y ρ) : EvT K (tOr t u) ρ (x || y) ρ := fun F B0 B σ H S Q q =>
  h F B0 B σ H S _ fun B1 H1 b1 S1 => by
    cases x with
    | false => exact g rfl F B0 B1 σ H1 S1 Q fun B2 H2 b2 S2 => q B2 H2 (b1.trans b2) S2
    | true => exact q B1 H1 b1 S1
theorem ev_andV {x y : Bool} (h : Ev K ta ρ (.bl x) ρ1) (g : x = true → Ev K tb ρ1 (.bl y) ρ2) (w : x = false → ρ1 = ρ2) : Ev K (tAndV ta tb) ρ (.bl (x && y)) ρ2 := fun F B0 B σ H S Q q =>
  h F B0 B σ H S _ fun v B1 H1 b1 S1 r1 => ⟨x, rp_bl.mp r1, by
    cases x with
    | true => exact g rfl F B0 B1 σ H1 S1 Q fun v B2 H2 b2 S2 r => q v B2 H2 (b1.trans b2) S2 r
    | false => exact q _ B1 H1 b1 (w rfl ▸ S1) (rp_bl.mpr rfl)⟩
theorem ev_orV {x y : Bool} (h : Ev K ta ρ (.bl x) ρ1) (g : x = false → Ev K tb ρ1 (.bl y) ρ2) (w : x = true → ρ1 = ρ2) : Ev K (tOrV ta tb) ρ (.bl (x || y)) ρ2 := fun F B0 B σ H S Q q =>
  h F B0 B σ H S _ fun v B1 H1 b1 S1 r1 => ⟨x, rp_bl.mp r1, by
    cases x with
    | false => exact g rfl F B0 B1 σ H1 S1 Q fun v B2 H2 b2 S2 r => q v B2 H2 (b1.trans b2) S2 r
    | true => exact q _ B1 H1 b1 (w rfl ▸ S1) (rp_bl.mpr rfl)⟩
theorem ev_notV {x : Bool} (h : Ev K ta ρ (.bl x) ρ1) : Ev K (tNotV ta) ρ (.bl (!x)) ρ1 := fun F B0 B σ H S Q q =>
  h F B0 B σ H S _ fun v B1 H1 b1 S1 r1 => ⟨x, rp_bl.mp r1, q _ B1 H1 b1 S1 (rp_bl.mpr rfl)⟩
theorem ev_if {x : Bool} (h : EvT K t ρ x ρ1) (h1 : x = true → Ev K ta ρ1 d ρ2) (h2 : x = false → Ev K tb ρ1 d ρ2) : Ev K (tIf t ta tb) ρ d ρ2 := fun F B0 B σ H S Q q =>
  h F B0 B σ H S _ fun B1 H1 b1 S1 => by
    cases x with
    | true => exact h1 rfl F B0 B1 σ H1 S1 Q fun v B2 H2 b2 S2 r => q v B2 H2 (b1.trans b2) S2 r
    | false => exact h2 rfl F B0 B1 σ H1 S1 Q fun v B2 H2 b2 S2 r => q v B2 H2 (b1.trans b2) S2 r
theorem ev_isN {x : D} (h : Ev K ta ρ x ρ1) : Ev K (tIsN ta) ρ (.bl (nonD x)) ρ1 := fun F B0 B σ H S Q q =>
  h F B0 B σ H S _ fun v B1 H1 b1 S1 r1 => q _ B1 H1 b1 S1 (rp_bl.mpr (by
    congr 1
    cases x <;> simp only [Rp] at r1
    · subst r1; rfl
    · subst r1; rfl
    · subst r1; rfl
    · subst r1; rfl
    · obtain ⟨p, _, rfl, _⟩ := r1; rfl
    · obtain ⟨p, _, rfl, _⟩ := r1; rfl
    · obtain ⟨p, _, rfl, _⟩ := r1; rfl
    · obtain ⟨p, _, rfl, _⟩ := r1; rfl
    · obtain ⟨p, _, _, rfl, _⟩ := r1; rfl
    · obtain ⟨p, _, rfl, _⟩ := r1; rfl
    · obtain ⟨p, _, rfl, _⟩ := r1; rfl))
theorem ev_notN {x : D} (h : Ev K ta ρ x ρ1) : Ev K (tNotN ta) ρ (.bl (!nonD x)) ρ1 := fun F B0 B σ H S Q q =>
  h F B0 B σ H S _ fun v B1 H1 b1 S1 r1 => q _ B1 H1 b1 S1 (rp_bl.mpr (by
    congr 1
    cases x <;> simp only [Rp] at r1
    · subst r1; rfl
    · subst r1; rfl
    · subst r1; rfl
    · subst r1; rfl
    · obtain ⟨p, _, rfl, _⟩ := r1; rfl
    · obtain ⟨p, _, rfl, _⟩ := r1; rfl
    · obtain ⟨p, _, rfl, _⟩ := r1; rfl
    · obtain ⟨p, _, rfl, _⟩ := r1; rfl
    · obtain ⟨p, _, _, rfl, _⟩ := r1; rfl
    · obtain ⟨p, _, rfl, _⟩ := r1; rfl
    · obtain ⟨p, _, rfl, _⟩ := r1; rfl))
end
end DL

namespace DL
open PySem L2
section
variable {K : Fg} {F : Fr} {B0 B B' H H' : Hp} {σ : L2.St} {ρ ρ1 ρ2 ρ3 : Env} {te ta tb tc : TE} {t u : TT} {a b c d e : D} {r : R2} {i j k : Int} {n m : Nat} {ds es : List D}
/-! ### lending what is owned -/
def fz1 : Option SV → Option SV
  | some (.own _ d) => some (.dat d)
  | x => x
def fz (ρ : Env) : Env := ρ.map fz1
theorem wk_fz : ∀ ρ : Env, Wk ρ (fz ρ)
  | [] => .nil
  | none :: r => .keep (wk_fz r)
  | some (.dat _) :: r => .keep (wk_fz r)
  | some (.own _ _) :: r => .set (wk_fz r)
theorem fz_own {w : Bool} (h : (fz ρ)[n]? = some (some (.own w d))) : False := by
  unfold fz at h
  rw [List.getElem?_map] at h
  cases e : ρ[n]? with
  | none => rw [e] at h; cases h
  | some x =>
    rw [e] at h
    cases x with
    | none => cases h
    | some y =>
      cases y <;> cases h
/-- all settled for a while; what stood stands behind -/
theorem St.lend (S : St K F B0 B σ H ρ) : ∃ B1, Same B B1 ∧ St K ⟨H, fun _ => none⟩ B1 B1 σ H (fz ρ) := by
  obtain ⟨B1, b1, S1⟩ := S.weak (wk_fz ρ)
  exact ⟨B1, b1, Same.refl _, Same.refl _, S1.bh, fun a q => .inl q, S1.dat, fun i w d e => (fz_own e).elim, fun i j w w' d e p h1 _ _ _ => (fz_own h1).elim, S1.len⟩
theorem St.back {B1 B2 : Hp} {ρ' : Env} (S : St K F B0 B σ H ρ) (S2 : St K ⟨H, fun _ => none⟩ B1 B2 σ H' ρ') : St K F B0 B σ H' ρ :=
  ⟨S.fr.trans S2.fr, S.b0, S.bh.trans S2.fr, S.new, S.dat, fun i w d e => by
    obtain ⟨p, o, h1, h2, h3, h4, h5, h6⟩ := S.own i w d e
    exact ⟨p, o, h1, S2.fr _ _ h2, h3, h4, h5, h6⟩, S.dist, S.len⟩
theorem et_lend {x : Bool} (h : EvT K t (fz ρ) x (fz ρ)) : EvT K t ρ x ρ := fun F B0 B σ H S Q q => by
  obtain ⟨B1, b1, S1⟩ := S.lend
  exact h _ _ _ σ H S1 Q fun B2 H2 b2 S2 => q B H2 (Same.refl _) (S.back S2)
def scalD : D → Bool
  | .non | .bl _ | .int _ | .str _ => true
  | _ => false
theorem Rp.scal {v : V} (h : Rp K B d v) (s : scalD d = true) : Rp K B' d v := by
  cases d <;> simp only [scalD] at s
  · exact rp_non.mpr (rp_non.mp h)
  · exact rp_bl.mpr (rp_bl.mp h)
  · exact rp_int.mpr (rp_int.mp h)
  · exact rp_str.mpr (rp_str.mp h)
  all_goals exact absurd s (by decide)
theorem ev_lend (h : Ev K te (fz ρ) d (fz ρ)) (s : scalD d = true) : Ev K te ρ d ρ := fun F B0 B σ H S Q q => by
  obtain ⟨B1, b1, S1⟩ := S.lend
  exact h _ _ _ σ H S1 Q fun v B2 H2 b2 S2 r => q v B H2 (Same.refl _) (S.back S2) (r.scal s)

/-! ### whole numbers -/
theorem opd_I0 {g : Int → Int → V} (hg : ∀ B, Rp K B c (g i j)) : OpD K (rI0 g) (.int i) (.int j) c := fun B H x y h ra rb Q q =>
  ⟨i, j, rp_int.mp ra, rp_int.mp rb, q _ B H (Grow.refl h) (hg B)⟩
theorem opd_I {C : Int → Int → Prop} {g : Int → Int → V} (hc : C i j) (hg : ∀ B, Rp K B c (g i j)) : OpD K (rI C g) (.int i) (.int j) c := fun B H x y h ra rb Q q =>
  ⟨i, j, rp_int.mp ra, rp_int.mp rb, hc, q _ B H (Grow.refl h) (hg B)⟩
theorem ev_sub (ha : Ev K ta ρ (.int i) ρ1) (hb : Ev K tb ρ1 (.int j) ρ2) : Ev K (tOp (rI0 fun i j => .int (i - j)) ta tb) ρ (.int (i - j)) ρ2 := ev_op ha hb (opd_I0 fun _ => rp_int.mpr rfl)
theorem ev_mod (ha : Ev K ta ρ (.int i) ρ1) (hb : Ev K tb ρ1 (.int j) ρ2) (h : 0 < j) : Ev K (tOp (rI (fun _ j => 0 < j) fun i j => .int (i % j)) ta tb) ρ (.int (i % j)) ρ2 := ev_op ha hb (opd_I h fun _ => rp_int.mpr rfl)
theorem ev_fdiv (ha : Ev K ta ρ (.int i) ρ1) (hb : Ev K tb ρ1 (.int j) ρ2) (h : 0 < j) (h2 : j < 2 ^ 64) : Ev K (tOp (rI CDivW fun i j => .int (i / j)) ta tb) ρ (.int (i / j)) ρ2 :=
  ev_op ha hb (opd_I (wide_div (b := 64) h (by omega) (by decide) (by decide)) fun _ => rp_int.mpr rfl)
theorem ev_pow (ha : Ev K ta ρ (.int i) ρ1) (hb : Ev K tb ρ1 (.int j) ρ2) (h : CPow i j) : Ev K (tOp (rI CPow fun i j => .int (i ^ j.toNat)) ta tb) ρ (.int (i ^ j.toNat)) ρ2 := ev_op ha hb (opd_I h fun _ => rp_int.mpr rfl)
theorem ev_mul (ha : Ev K ta ρ (.int i) ρ1) (hb : Ev K tb ρ1 (.int j) ρ2) (h : CMul i j) : Ev K (tOp (rI CMul fun i j => .int (i * j)) ta tb) ρ (.int (i * j)) ρ2 := ev_op ha hb (opd_I h fun _ => rp_int.mpr rfl)
theorem ev_neg (ha : Ev K ta ρ (.int i) ρ1) : Ev K (tUn (rU fun i => .int (-i)) ta) ρ (.int (-i)) ρ1 := ev_un ha fun B H x h ra Q q => ⟨i, rp_int.mp ra, q _ B H (Grow.refl h) (rp_int.mpr rfl)⟩
theorem ev_lt (ha : Ev K ta ρ (.int i) ρ1) (hb : Ev K tb ρ1 (.int j) ρ2) : Ev K (tOp (rI0 fun i j => .bl (decide (i < j))) ta tb) ρ (.bl (decide (i < j))) ρ2 := ev_op ha hb (opd_I0 fun _ => rp_bl.mpr rfl)
theorem ev_le (ha : Ev K ta ρ (.int i) ρ1) (hb : Ev K tb ρ1 (.int j) ρ2) : Ev K (tOp (rI0 fun i j => .bl (decide (i ≤ j))) ta tb) ρ (.bl (decide (i ≤ j))) ρ2 := ev_op ha hb (opd_I0 fun _ => rp_bl.mpr rfl)
theorem ev_gt (ha : Ev K ta ρ (.int i) ρ1) (hb : Ev K tb ρ1 (.int j) ρ2) : Ev K (tOp (rI0 fun i j => .bl (decide (j < i))) ta tb) ρ (.bl (decide (j < i))) ρ2 := ev_op ha hb (opd_I0 fun _ => rp_bl.mpr rfl)
theorem ev_ge (ha : Ev K ta ρ (.int i) ρ1) (hb : Ev K tb ρ1 (.int j) ρ2) : Ev K (tOp (rI0 fun i j => .bl (decide (j ≤ i))) ta tb) ρ (.bl (decide (j ≤ i))) ρ2 := ev_op ha hb (opd_I0 fun _ => rp_bl.mpr rfl)

/-! ### + of anything -/
def rCatS : R2 := fun x y H Q => ∃ i j, x = .str i ∧ y = .str j ∧ i.length + j.length ≤ sizeLine ∧ Q (.str (i ++ j)) H
def rAddU (K : Fg) : R2 := fun x y H Q => rI0 (fun i j => .int (i + j)) x y H Q ∨ rCat x y H Q ∨ rCatA K x y H Q ∨ rCatS x y H Q
theorem op_addU {X : Cx} : OpR X (binaryOp .Add) (rAddU X.K) := op_add.or (op_cat.or (op_catA.or op_add_str))
theorem ev_add (ha : Ev K ta ρ (.int i) ρ1) (hb : Ev K tb ρ1 (.int j) ρ2) : Ev K (tOp (rAddU K) ta tb) ρ (.int (i + j)) ρ2 :=
  ev_op ha hb fun B H x y h ra rb Q q => .inl ((opd_I0 (K := K) (c := .int (i + j)) fun _ => rp_int.mpr rfl) B H x y h ra rb Q q)
theorem en_addL (ha : Ev K ta ρ (.lst ds) ρ1) (hb : Ev K tb ρ1 (.lst es) ρ2) (hl : ds.length + es.length ≤ sizeLine) : EvN K (tOp (rAddU K) ta tb) ρ (.lst (ds ++ es)) ρ2 :=
  en_op ha hb fun B H x y h ra rb Q q => by
    obtain ⟨p, xs, rfl, h1, h2⟩ := rp_lst.mp ra
    obtain ⟨p', ys, rfl, h1', h2'⟩ := rp_lst.mp rb
    exact .inr (.inl ⟨p, p', xs, ys, rfl, rfl, h _ _ h1, h _ _ h1', by rw [← h2.len, ← h2'.len]; exact hl, fun s hs =>
      q s _ B _ (Grow.loose h hs) hs upd_same (none_of_same h hs) ⟨_, rfl, h2.append h2'⟩⟩)
theorem ev_addT (ha : Ev K ta ρ (.tup ds) ρ1) (hb : Ev K tb ρ1 (.tup es) ρ2) (hl : ds.length + es.length ≤ sizeLine) : Ev K (tOp (rAddU K) ta tb) ρ (.tup (ds ++ es)) ρ2 :=
  ev_op ha hb fun B H x y h ra rb Q q => by
    obtain ⟨p, xs, rfl, h1, h2⟩ := rp_tup.mp ra
    obtain ⟨p', ys, rfl, h1', h2'⟩ := rp_tup.mp rb
    refine .inr (.inr (.inl ⟨p, p', xs, ys, rfl, rfl, SqT.of (h _ _ h1), SqT.of (h _ _ h1'), by rw [← h2.len, ← h2'.len]; exact hl, fun z => ?_, fun _ z => ?_, fun _ _ s hs => ?_⟩))
    · subst z
      have e : ds = [] := List.length_eq_zero_iff.mp h2.len
      subst e
      exact q _ B H (Grow.refl h) rb
    · subst z
      have e : es = [] := List.length_eq_zero_iff.mp h2'.len
      subst e
      rw [List.append_nil] at q
      exact q _ B H (Grow.refl h) ra
    · have g : Grow B H _ _ := Grow.put (o := .tup (xs ++ ys)) h hs
      exact q _ _ _ g (rp_tup.mpr ⟨s, _, rfl, upd_same, (h2.append h2').mono g.bb⟩)
theorem ev_addS {x y : Str} (ha : Ev K ta ρ (.str x) ρ1) (hb : Ev K tb ρ1 (.str y) ρ2) (hl : x.length + y.length ≤ sizeLine) : Ev K (tOp (rAddU K) ta tb) ρ (.str (x ++ y)) ρ2 :=
  ev_op ha hb fun B H v w h ra rb Q q => .inr (.inr (.inr ⟨x, y, rp_str.mp ra, rp_str.mp rb, hl, q _ B H (Grow.refl h) (rp_str.mpr rfl)⟩))

/-! ### == -/
def rEqU (K : Fg) : R2 := fun x y H Q => rEq x y H Q ∨ rEqD K x y H Q
def rNeU (K : Fg) : R2 := fun x y H Q => rNe x y H Q ∨ rNeD K x y H Q
theorem op_eqU {X : Cx} (hu : X.A.units + 64 < cLine) : OpR X (compareOp .Eq) (rEqU X.K) := op_eq.or (op_eqD hu)
theorem op_neU {X : Cx} (hu : X.A.units + 64 < cLine) : OpR X (compareOp .NotEq) (rNeU X.K) := op_ne.or (op_neD hu)
mutual
def toPy : D → Option PyData
  | .non => some .none
  | .bl b => some (.bool b)
  | .int i => some (.int i)
  | .str x => some (.str x)
  | .tup ds => (toPyL ds).map PyData.tuple
  | .ctp ds => (toPyL ds).map PyData.tuple
  | .lst ds => (toPyL ds).map PyData.list
  | .frl _ => none
  | .obj _ _ _ => none
  | .dT _ _ => none
  | .dK _ _ => none
def toPyL : List D → Option (List PyData)
  | [] => some []
  | d :: ds => match toPy d, toPyL ds with
    | some x, some xs => some (x :: xs)
    | _, _ => none
end
mutual
theorem dp_of (h : Same B H) : ∀ {d : D} {v : V} {x : PyData}, Rp K B d v → toPy d = some x → Dp K H v x
  | .non, _, _, r, e => by rw [rp_non.mp r]; simp only [toPy] at e; cases e; exact .non
  | .bl _, _, _, r, e => by rw [rp_bl.mp r]; simp only [toPy] at e; cases e; exact .bl _
  | .int _, _, _, r, e => by rw [rp_int.mp r]; simp only [toPy] at e; cases e; exact .int _
  | .str _, _, _, r, e => by rw [rp_str.mp r]; simp only [toPy] at e; cases e; exact .str _
  | .tup ds, _, _, r, e => by
    obtain ⟨p, xs, rfl, h1, h2⟩ := rp_tup.mp r
    simp only [toPy, Option.map_eq_some_iff] at e
    obtain ⟨ps, e1, rfl⟩ := e
    exact .tup (SqT.of (h _ _ h1)) (dpAll_of h h2 e1)
  | .ctp ds, _, _, r, e => by
    obtain ⟨p, xs, rfl, h1, h2⟩ := rp_ctp.mp r
    simp only [toPy, Option.map_eq_some_iff] at e
    obtain ⟨ps, e1, rfl⟩ := e
    exact .tup (Same.sqt h h1) (dpAll_of h h2 e1)
  | .lst ds, _, _, r, e => by
    obtain ⟨p, xs, rfl, h1, h2⟩ := rp_lst.mp r
    simp only [toPy, Option.map_eq_some_iff] at e
    obtain ⟨ps, e1, rfl⟩ := e
    exact .lst (SqL.of (h _ _ h1)) (dpAll_of h h2 e1)
  | .frl _, _, _, _, e => by simp only [toPy] at e; cases e
  | .obj _ _ _, _, _, _, e => by simp only [toPy] at e; cases e
  | .dT _ _, _, _, _, e => by simp only [toPy] at e; cases e
  | .dK _ _, _, _, _, e => by simp only [toPy] at e; cases e
theorem dpAll_of (h : Same B H) : ∀ {ds : List D} {vs : List V} {xs : List PyData}, RpL K B ds vs → toPyL ds = some xs → DpAll K H vs xs
  | [], _, _, r, e => by rw [rpl_nil.mp r]; simp only [toPyL] at e; cases e; exact .nil
  | d :: ds, _, _, r, e => by
    obtain ⟨x, rr, rfl, h1, h2⟩ := rpl_cons.mp r
    simp only [toPyL] at e
    cases e1 : toPy d with
    | none => rw [e1] at e; cases e
    | some y =>
      cases e2 : toPyL ds with
      | none => rw [e1, e2] at e; cases e
      | some ys =>
        rw [e1, e2] at e
        cases e
        exact .cons (dp_of h h1 e1) (dpAll_of h h2 e2)
end
/-- == of data: the answer x -/
def EqD (a b : D) (x : Bool) : Prop := (∃ v w : V, (∀ (K : Fg) B y, Rp K B a y → y = v) ∧ (∀ (K : Fg) B y, Rp K B b y → y = w) ∧ scal v w = true ∧ decide (v = w) = x) ∨
  ∃ p q, toPy a = some p ∧ toPy b = some q ∧ SeqAt.shaped p = true ∧ SeqAt.shaped q = true ∧ PyData.eqv p q = x
theorem ev_eq {x : Bool} (ha : Ev K ta ρ a ρ1) (hb : Ev K tb ρ1 b ρ2) (h : EqD a b x) : Ev K (tOp (rEqU K) ta tb) ρ (.bl x) ρ2 :=
  ev_op ha hb fun B H v w hs ra rb Q q => by
    rcases h with ⟨v', w', e1, e2, e3, rfl⟩ | ⟨p, p', e1, e2, e3, e4, rfl⟩
    · obtain rfl := e1 K B v ra
      obtain rfl := e2 K B w rb
      exact .inl ⟨e3, q _ B H (Grow.refl hs) (rp_bl.mpr rfl)⟩
    · exact .inr ⟨p, p', dp_of hs ra e1, dp_of hs rb e2, e3, e4, q _ B H (Grow.refl hs) (rp_bl.mpr rfl)⟩
theorem ev_ne {x : Bool} (ha : Ev K ta ρ a ρ1) (hb : Ev K tb ρ1 b ρ2) (h : EqD a b x) : Ev K (tOp (rNeU K) ta tb) ρ (.bl (!x)) ρ2 :=
  ev_op ha hb fun B H v w hs ra rb Q q => by
    rcases h with ⟨v', w', e1, e2, e3, rfl⟩ | ⟨p, p', e1, e2, e3, e4, rfl⟩
    · obtain rfl := e1 K B v ra
      obtain rfl := e2 K B w rb
      exact .inl ⟨e3, q _ B H (Grow.refl hs) (rp_bl.mpr rfl)⟩
    · exact .inr ⟨p, p', dp_of hs ra e1, dp_of hs rb e2, e3, e4, q _ B H (Grow.refl hs) (rp_bl.mpr rfl)⟩
theorem eqd_int : EqD (.int i) (.int j) (decide (i = j)) := .inl ⟨.int i, .int j, fun _ _ _ r => rp_int.mp r, fun _ _ _ r => rp_int.mp r, rfl, by simp⟩
theorem eqd_str {x y : Str} : EqD (.str x) (.str y) (decide (x = y)) := .inl ⟨.str x, .str y, fun _ _ _ r => rp_str.mp r, fun _ _ _ r => rp_str.mp r, rfl, by simp⟩
theorem eqd_bl {x y : Bool} : EqD (.bl x) (.bl y) (decide (x = y)) := .inl ⟨.bl x, .bl y, fun _ _ _ r => rp_bl.mp r, fun _ _ _ r => rp_bl.mp r, rfl, by simp⟩
theorem eqd_non_int : EqD .non (.int j) false := .inr ⟨.none, .int j, rfl, rfl, rfl, rfl, rfl⟩
/-! ### items -/
theorem RpL.atI {xs : List V} (h : RpL K B ds xs) (e : L2.atI ds i = some d) : ∃ v, L2.atI xs i = some v ∧ Rp K B d v := by
  unfold L2.atI at e ⊢
  rw [← h.len]
  cases q : ixN ds.length i with
  | none => rw [q] at e; cases e
  | some j =>
    rw [q] at e
    exact h.get e
theorem ev_ixT (ha : Ev K ta ρ (.tup ds) ρ1) (hb : Ev K tb ρ1 (.int i) ρ2) (h : L2.atI ds i = some d) : Ev K (tOp (rIx K) ta tb) ρ d ρ2 :=
  ev_op ha hb fun B H v w hs ra rb Q q => by
    obtain ⟨p, xs, rfl, h1, h2⟩ := rp_tup.mp ra
    obtain ⟨x, e1, e2⟩ := h2.atI h
    exact .inr (.inl ⟨p, xs, i, x, rfl, rp_int.mp rb, SqT.of (hs _ _ h1), e1, q _ B H (Grow.refl hs) e2⟩)
theorem ev_ixL (ha : Ev K ta ρ (.lst ds) ρ1) (hb : Ev K tb ρ1 (.int i) ρ2) (h : L2.atI ds i = some d) : Ev K (tOp (rIx K) ta tb) ρ d ρ2 :=
  ev_op ha hb fun B H v w hs ra rb Q q => by
    obtain ⟨p, xs, rfl, h1, h2⟩ := rp_lst.mp ra
    obtain ⟨x, e1, e2⟩ := h2.atI h
    exact .inl ⟨p, xs, i, x, rfl, rp_int.mp rb, SqL.of (hs _ _ h1), e1, q _ B H (Grow.refl hs) e2⟩
theorem ev_ixF (ha : Ev K ta ρ (.frl ds) ρ1) (hb : Ev K tb ρ1 (.int i) ρ2) (h : L2.atI ds i = some d) : Ev K (tOp (rIx K) ta tb) ρ d ρ2 :=
  ev_op ha hb fun B H v w hs ra rb Q q => by
    obtain ⟨p, xs, rfl, h1, h2⟩ := rp_frl.mp ra
    obtain ⟨x, e1, e2⟩ := h2.atI h
    exact .inl ⟨p, xs, i, x, rfl, rp_int.mp rb, Same.sql hs h1, e1, q _ B H (Grow.refl hs) e2⟩
/-- an item of an owned list -/
theorem ev_ixO {w w' : Bool} {d0 : D} (h0 : ρ[n]? = some (some (.own w d0))) (hb : Ev K tb ρ (.int i) ρ1) (h1 : ρ1[n]? = some (some (.own w' (.lst ds)))) (h : L2.atI ds i = some d) : Ev K (tOp (rIx K) (tVar n) tb) ρ d ρ1 := fun F B0 B σ H S Q q => by
  obtain ⟨p, o, e1, e2, e3, _⟩ := S.own n w d0 h0
  refine ⟨_, e1, ?_⟩
  refine hb F B0 B σ H S _ fun y B1 H1 b1 S1 r1 => ?_
  obtain ⟨p', o', f1, f2, f3, _⟩ := S1.own n w' _ h1
  rw [e1] at f1
  cases f1
  obtain ⟨xs, rfl, hx⟩ := f3
  obtain ⟨x, g1, g2⟩ := hx.atI h
  exact .inl ⟨p, xs, i, x, rfl, rp_int.mp r1, SqL.of f2, g1, q _ B1 H1 b1 S1 g2⟩
/-! ### len and its like -/
abbrev rLenU (K : Fg) : List V → Hp → VK → Prop := fun xs H Q => ∃ x n, xs = [x] ∧ LenV K x H n ∧ Q (.int n) H
theorem ev_lenT {tr : TA} (ha : EvA K tr ρ [.tup ds] ρ1) : Ev K (tCB (rLenU K) tr) ρ (.int ds.length) ρ1 :=
  ev_cb ha fun B H xs hs ra Q q => by
    obtain ⟨x, rfl, r⟩ := ra.one
    obtain ⟨p, ys, rfl, h1, h2⟩ := rp_tup.mp r
    exact ⟨_, _, rfl, .inr ⟨ys, SqT.of (hs _ _ h1), h2.len⟩, q _ B H (Grow.refl hs) (rp_int.mpr rfl)⟩
theorem ev_lenL {tr : TA} (ha : EvA K tr ρ [.lst ds] ρ1) : Ev K (tCB (rLenU K) tr) ρ (.int ds.length) ρ1 :=
  ev_cb ha fun B H xs hs ra Q q => by
    obtain ⟨x, rfl, r⟩ := ra.one
    obtain ⟨p, ys, rfl, h1, h2⟩ := rp_lst.mp r
    exact ⟨_, _, rfl, .inl ⟨ys, SqL.of (hs _ _ h1), h2.len⟩, q _ B H (Grow.refl hs) (rp_int.mpr rfl)⟩
theorem ev_lenF {tr : TA} (ha : EvA K tr ρ [.frl ds] ρ1) : Ev K (tCB (rLenU K) tr) ρ (.int ds.length) ρ1 :=
  ev_cb ha fun B H xs hs ra Q q => by
    obtain ⟨x, rfl, r⟩ := ra.one
    obtain ⟨p, ys, rfl, h1, h2⟩ := rp_frl.mp r
    exact ⟨_, _, rfl, .inl ⟨ys, Same.sql hs h1, h2.len⟩, q _ B H (Grow.refl hs) (rp_int.mpr rfl)⟩
theorem ev_lenS {tr : TA} {x : Str} (ha : EvA K tr ρ [.str x] ρ1) (hl : x.length ≤ sizeLine) : Ev K (tCB (rLenU K) tr) ρ (.int x.length) ρ1 :=
  ev_cb ha fun B H xs hs ra Q q => by
    obtain ⟨v, rfl, r⟩ := ra.one
    rw [rp_str.mp r]
    exact ⟨_, _, rfl, ⟨hl, rfl⟩, q _ B H (Grow.refl hs) (rp_int.mpr rfl)⟩
abbrev rInt1 : List V → Hp → VK → Prop := fun xs H Q => (∃ i, xs = [.int i] ∧ Q (.int i) H) ∨ ∃ k, xs = [.bl k] ∧ Q (.int (if k then 1 else 0)) H
theorem ev_intI {tr : TA} (ha : EvA K tr ρ [.int i] ρ1) : Ev K (tCB rInt1 tr) ρ (.int i) ρ1 :=
  ev_cb ha fun B H xs hs ra Q q => by
    obtain ⟨x, rfl, r⟩ := ra.one
    rw [rp_int.mp r]
    exact .inl ⟨i, rfl, q _ B H (Grow.refl hs) (rp_int.mpr rfl)⟩
theorem ev_intB {tr : TA} {x : Bool} (ha : EvA K tr ρ [.bl x] ρ1) : Ev K (tCB rInt1 tr) ρ (.int (if x then 1 else 0)) ρ1 :=
  ev_cb ha fun B H xs hs ra Q q => by
    obtain ⟨v, rfl, r⟩ := ra.one
    rw [rp_bl.mp r]
    exact .inr ⟨x, rfl, q _ B H (Grow.refl hs) (rp_int.mpr rfl)⟩
abbrev rMax2 : List V → Hp → VK → Prop := fun xs H Q => ∃ i j, xs = [.int i, .int j] ∧ Q (.int (if j > i then j else i)) H
abbrev rMin2 : List V → Hp → VK → Prop := fun xs H Q => ∃ i j, xs = [.int i, .int j] ∧ Q (.int (if j < i then j else i)) H
theorem ev_max2 {tr : TA} (ha : EvA K tr ρ [.int i, .int j] ρ1) : Ev K (tCB rMax2 tr) ρ (.int (max i j)) ρ1 :=
  ev_cb ha fun B H xs hs ra Q q => by
    obtain ⟨x, y, rfl, r1, r2⟩ := ra.two
    rw [rp_int.mp r1, rp_int.mp r2]
    exact ⟨i, j, rfl, q _ B H (Grow.refl hs) (rp_int.mpr (by congr 1; split <;> omega))⟩
theorem ev_min2 {tr : TA} (ha : EvA K tr ρ [.int i, .int j] ρ1) : Ev K (tCB rMin2 tr) ρ (.int (min i j)) ρ1 :=
  ev_cb ha fun B H xs hs ra Q q => by
    obtain ⟨x, y, rfl, r1, r2⟩ := ra.two
    rw [rp_int.mp r1, rp_int.mp r2]
    exact ⟨i, j, rfl, q _ B H (Grow.refl hs) (rp_int.mpr (by congr 1; split <;> omega))⟩
theorem ev_abs {tr : TA} (ha : EvA K tr ρ [.int i] ρ1) : Ev K (tCB (fun xs H Q => ∃ i, xs = [.int i] ∧ Q (.int (if i < 0 then -i else i)) H) tr) ρ (.int (if i < 0 then -i else i)) ρ1 :=
  ev_cb ha fun B H xs hs ra Q q => by
    obtain ⟨x, rfl, r⟩ := ra.one
    rw [rp_int.mp r]
    exact ⟨i, rfl, q _ B H (Grow.refl hs) (rp_int.mpr rfl)⟩
theorem ev_sum {tr : TA} {ns : List Int} (ha : EvA K tr ρ [.lst (ns.map D.int)] ρ1) : Ev K (tCB (rSum K) tr) ρ (.int ns.sum) ρ1 :=
  ev_cb ha fun B H xs hs ra Q q => by
    obtain ⟨x, rfl, r⟩ := ra.one
    obtain ⟨p, ys, rfl, h1, h2⟩ := rp_lst.mp r
    rw [RpL.ints.mp h2] at h1
    exact ⟨p, ns, rfl, SqL.of (hs _ _ h1), q _ B H (Grow.refl hs) (rp_int.mpr rfl)⟩
theorem ev_any {tr : TA} {bs : List Bool} (ha : EvA K tr ρ [.lst (bs.map D.bl)] ρ1) : Ev K (tCB (rAny K) tr) ρ (.bl (bs.any id)) ρ1 :=
  ev_cb ha fun B H xs hs ra Q q => by
    obtain ⟨x, rfl, r⟩ := ra.one
    obtain ⟨p, ys, rfl, h1, h2⟩ := rp_lst.mp r
    rw [RpL.bls.mp h2] at h1
    exact ⟨p, bs, rfl, SqL.of (hs _ _ h1), q _ B H (Grow.refl hs) (rp_bl.mpr rfl)⟩
theorem ev_all {tr : TA} {bs : List Bool} (ha : EvA K tr ρ [.lst (bs.map D.bl)] ρ1) : Ev K (tCB (rAll K) tr) ρ (.bl (bs.all id)) ρ1 :=
  ev_cb ha fun B H xs hs ra Q q => by
    obtain ⟨x, rfl, r⟩ := ra.one
    obtain ⟨p, ys, rfl, h1, h2⟩ := rp_lst.mp r
    rw [RpL.bls.mp h2] at h1
    exact ⟨p, bs, rfl, SqL.of (hs _ _ h1), q _ B H (Grow.refl hs) (rp_bl.mpr rfl)⟩
abbrev rTupOf (K : Fg) : List V → Hp → VK → Prop := fun xs H Q => ∃ p ys, xs = [.ref p] ∧ ((SqL K H p ys ∧ ∀ l, H l = none → Q (.ref l) (upd H l (.tup ys))) ∨ (SqT K H p ys ∧ Q (.ref p) H))
theorem ev_tupL {tr : TA} (ha : EvA K tr ρ [.lst ds] ρ1) : Ev K (tCB (rTupOf K) tr) ρ (.tup ds) ρ1 :=
  ev_cb ha fun B H xs hs ra Q q => by
    obtain ⟨x, rfl, r⟩ := ra.one
    obtain ⟨p, ys, rfl, h1, h2⟩ := rp_lst.mp r
    refine ⟨p, ys, rfl, .inl ⟨SqL.of (hs _ _ h1), fun l hl => ?_⟩⟩
    have g : Grow B H _ _ := Grow.put (o := .tup ys) hs hl
    exact q _ _ _ g (rp_tup.mpr ⟨l, ys, rfl, upd_same, h2.mono g.bb⟩)
theorem ev_tupT {tr : TA} (ha : EvA K tr ρ [.tup ds] ρ1) : Ev K (tCB (rTupOf K) tr) ρ (.tup ds) ρ1 :=
  ev_cb ha fun B H xs hs ra Q q => by
    obtain ⟨x, rfl, r⟩ := ra.one
    obtain ⟨p, ys, rfl, h1, h2⟩ := rp_tup.mp r
    exact ⟨p, ys, rfl, .inr ⟨SqT.of (hs _ _ h1), q _ B H (Grow.refl hs) (rp_tup.mpr ⟨p, ys, rfl, h1, h2⟩)⟩⟩
abbrev rListOf (K : Fg) : List V → Hp → VK → Prop := fun xs H Q => ∃ p ys, xs = [.ref p] ∧ (SqL K H p ys ∨ SqT K H p ys) ∧ ∀ l, H l = none → Q (.ref l) (upd H l (.lst ys))
theorem en_listT {tr : TA} (ha : EvA K tr ρ [.tup ds] ρ1) : EvN K (tCB (rListOf K) tr) ρ (.lst ds) ρ1 :=
  en_cb ha fun B H xs hs ra Q q => by
    obtain ⟨x, rfl, r⟩ := ra.one
    obtain ⟨p, ys, rfl, h1, h2⟩ := rp_tup.mp r
    exact ⟨p, ys, rfl, .inr (SqT.of (hs _ _ h1)), fun l hl => q l _ B _ (Grow.loose hs hl) hl upd_same (none_of_same hs hl) ⟨_, rfl, h2⟩⟩
theorem en_listL {tr : TA} (ha : EvA K tr ρ [.lst ds] ρ1) : EvN K (tCB (rListOf K) tr) ρ (.lst ds) ρ1 :=
  en_cb ha fun B H xs hs ra Q q => by
    obtain ⟨x, rfl, r⟩ := ra.one
    obtain ⟨p, ys, rfl, h1, h2⟩ := rp_lst.mp r
    exact ⟨p, ys, rfl, .inl (SqL.of (hs _ _ h1)), fun l hl => q l _ B _ (Grow.loose hs hl) hl upd_same (none_of_same hs hl) ⟨_, rfl, h2⟩⟩
/-! ### slices -/
def EvO (K : Fg) (to : TO) (ρ : Env) (o : Option Int) (ρ' : Env) : Prop := ∀ F B0 B σ H, St K F B0 B σ H ρ → ∀ Q : Option Int → Hp → Prop, (∀ B' H', Same B B' → St K F B0 B' σ H' ρ' → Q o H') → to σ H Q
theorem eo_none : EvO K tNoPart ρ none ρ := fun F B0 B σ H S Q q => q B H (Same.refl _) S
theorem eo_some (h : Ev K te ρ (.int i) ρ1) : EvO K (tPart te) ρ (some i) ρ1 := fun F B0 B σ H S Q q =>
  h F B0 B σ H S _ fun v B1 H1 b1 S1 r => ⟨i, rp_int.mp r, q B1 H1 b1 S1⟩
def cutD (xs : List D) (lo hi : Option Int) : List D := (xs.drop (HT.sIx xs.length 0 lo)).take (HT.sIx xs.length xs.length hi - HT.sIx xs.length 0 lo)
theorem RpL.cut {xs : List V} (h : RpL K B ds xs) (lo hi : Option Int) : RpL K B (cutD ds lo hi) (cutV xs lo hi) := by
  unfold cutD cutV
  rw [← h.len]
  exact (h.drop _).take _
def rSlU (K : Fg) : V → Option Int → Option Int → Hp → VK → Prop := fun x lo hi H Q => rSlL K x lo hi H Q ∨ rSlA K x lo hi H Q
theorem sl_U {X : Cx} : SlR X (rSlU X.K) := sl_list.or sl_tupA
variable {tl th : TO} {lo hi : Option Int}
theorem en_sliceL (ha : Ev K ta ρ (.lst ds) ρ1) (hl : EvO K tl ρ1 lo ρ2) (hh : EvO K th ρ2 hi ρ3) : EvN K (tSl (rSlU K) ta tl th) ρ (.lst (cutD ds lo hi)) ρ3 := fun F B0 B σ H S Q q =>
  ha F B0 B σ H S _ fun v B1 H1 b1 S1 r => hl F B0 B1 σ H1 S1 _ fun B2 H2 b2 S2 => hh F B0 B2 σ H2 S2 _ fun B3 H3 b3 S3 => by
    obtain ⟨p, ys, rfl, h1, h2⟩ := rp_lst.mp ((r.mono b2).mono b3)
    refine .inl ⟨p, ys, rfl, SqL.of (S3.bh _ _ h1), fun s hs => ?_⟩
    have g : Grow B3 H3 B3 _ := Grow.loose (o := .lst (cutV ys lo hi)) S3.bh hs
    exact q s _ _ ((b1.trans b2).trans b3) (S3.grow g) (Free.grow S3 g hs upd_same (none_of_same S3.bh hs) ⟨_, rfl, h2.cut lo hi⟩)
theorem ev_sliceT (ha : Ev K ta ρ (.tup ds) ρ1) (hl : EvO K tl ρ1 lo ρ2) (hh : EvO K th ρ2 hi ρ3) : Ev K (tSl (rSlU K) ta tl th) ρ (.tup (cutD ds lo hi)) ρ3 := fun F B0 B σ H S Q q =>
  ha F B0 B σ H S _ fun v B1 H1 b1 S1 r => hl F B0 B1 σ H1 S1 _ fun B2 H2 b2 S2 => hh F B0 B2 σ H2 S2 _ fun B3 H3 b3 S3 => by
    have r3 := (r.mono b2).mono b3
    obtain ⟨p, ys, rfl, h1, h2⟩ := rp_tup.mp r3
    refine .inr ⟨p, ys, rfl, SqT.of (S3.bh _ _ h1), fun z => ?_, fun _ s hs => ?_⟩
    · have e : cutD ds lo hi = ds := by
        unfold cutD
        rw [h2.len, z.1, z.2, List.drop_zero, Nat.sub_zero, ← h2.len, List.take_length]
      rw [e] at q
      exact q _ B3 H3 ((b1.trans b2).trans b3) S3 r3
    · have g : Grow B3 H3 _ _ := Grow.put (o := .tup (cutV ys lo hi)) S3.bh hs
      exact q _ _ _ (((b1.trans b2).trans b3).trans g.bb) (S3.grow g) (rp_tup.mpr ⟨s, _, rfl, upd_same, (h2.cut lo hi).mono g.bb⟩)
theorem en_revL (ha : Ev K ta ρ (.lst ds) ρ1) : EvN K (tRevL K ta) ρ (.lst ds.reverse) ρ1 := fun F B0 B σ H S Q q =>
  ha F B0 B σ H S _ fun v B1 H1 b1 S1 r => by
    obtain ⟨p, ys, rfl, h1, h2⟩ := rp_lst.mp r
    refine ⟨p, ys, rfl, SqL.of (S1.bh _ _ h1), fun s hs => ?_⟩
    have g : Grow B1 H1 B1 _ := Grow.loose (o := .lst ys.reverse) S1.bh hs
    exact q s _ _ b1 (S1.grow g) (Free.grow S1 g hs upd_same (none_of_same S1.bh hs) ⟨_, rfl, h2.reverse⟩)
theorem ev_tupRev (ha : Ev K ta ρ (.lst ds) ρ1) : Ev K (RT.tTupRev K ta) ρ (.tup ds.reverse) ρ1 := fun F B0 B σ H S Q q =>
  ha F B0 B σ H S _ fun v B1 H1 b1 S1 r => by
    obtain ⟨p, ys, rfl, h1, h2⟩ := rp_lst.mp r
    refine ⟨p, ys, rfl, SqL.of (S1.bh _ _ h1), fun s hs => ?_⟩
    have g : Grow B1 H1 _ _ := Grow.put (o := .tup ys.reverse) S1.bh hs
    exact q _ _ _ (b1.trans g.bb) (S1.grow g) (rp_tup.mpr ⟨s, _, rfl, upd_same, h2.reverse.mono g.bb⟩)
/-! ### fields -/
theorem zip_lookup : ∀ {ns : List Str} {ds : List D} {xs : List V} {f : Str}, RpL K B ds xs → (ns.zip ds).lookup f = some d → ∃ v, (ns.zip xs).lookup f = some v ∧ Rp K B d v
  | [], _, _, _, _, e => by simp at e
  | n :: ns, [], _, _, _, e => by simp at e
  | n :: ns, d' :: ds, _, f, h, e => by
    obtain ⟨x, r, rfl, h1, h2⟩ := rpl_cons.mp h
    rw [List.zip_cons_cons, List.lookup_cons] at e ⊢
    cases q : f == n with
    | true =>
      rw [q] at e
      cases e
      exact ⟨x, rfl, h1⟩
    | false =>
      rw [q] at e
      exact zip_lookup h2 e
theorem ev_fld {C : Addr} {ns : List Str} {f : Str} (ha : Ev K ta ρ (.obj C ns ds) ρ1) (hc : Cls K C) (hn : NoAttr K C f) (hf : (ns.zip ds).lookup f = some d) : Ev K (tFld K ta f) ρ d ρ1 := fun F B0 B σ H S Q q =>
  ha F B0 B σ H S _ fun v B1 H1 b1 S1 r => by
    obtain ⟨p, dx, xs, rfl, h1, h2, h3⟩ := rp_obj.mp r
    obtain ⟨x, e1, e2⟩ := zip_lookup h3 hf
    exact ⟨p, C, dx, _, x, rfl, S1.bh _ _ h1, hc, hn, e1, q _ B1 H1 b1 S1 e2⟩
/-! ### dicts by tuple keys -/
def kD : Key → D
  | .inl i => .int i
  | .inr x => .str x
theorem RpL.keys {ks : List Key} {xs : List V} : RpL K B (ks.map kD) xs ↔ xs = ks.map kV := by
  induction ks generalizing xs with
  | nil => exact rpl_nil
  | cons n ns ih =>
    rw [List.map_cons, rpl_cons]
    constructor
    · rintro ⟨x, r, rfl, q, t⟩
      rw [ih.mp t]
      cases n with
      | inl i => rw [rp_int.mp q]; rfl
      | inr i => rw [rp_str.mp q]; rfl
    · rintro rfl
      refine ⟨_, _, rfl, ?_, ih.mpr rfl⟩
      cases n with
      | inl i => exact rp_int.mpr rfl
      | inr i => exact rp_str.mpr rfl
/-! a dict as pairs -/
section
variable {κ : Type} [DecidableEq κ] {α β : Type} {d : α}
def getD (kvs : List (κ × α)) (k : κ) : Option α := (kvs.find? fun kv => decide (kv.1 = k)).map (·.2)
def putD (kvs : List (κ × α)) (k : κ) (d : α) : List (κ × α) := if kvs.any (fun kv => decide (kv.1 = k)) then kvs.map (fun kv => if kv.1 = k then (kv.1, d) else kv) else kvs ++ [(k, d)]
theorem getD_nil {k : κ} : getD ([] : List (κ × α)) k = none := rfl
theorem getD_cons {k : κ} {p : κ × α} {r : List (κ × α)} : getD (p :: r) k = if p.1 = k then some p.2 else getD r k := by
  unfold getD
  rw [List.find?_cons]
  by_cases h : p.1 = k
  · rw [if_pos h]; simp [h]
  · rw [if_neg h]; simp [h]
theorem getD_any {k : κ} : ∀ kvs : List (κ × α), kvs.any (fun kv => decide (kv.1 = k)) = (getD kvs k).isSome
  | [] => rfl
  | p :: r => by
    rw [List.any_cons, getD_cons]
    by_cases h : p.1 = k
    · simp [h]
    · rw [if_neg h, getD_any r]; simp [h]
theorem getD_map {k j : κ} : ∀ kvs : List (κ × α), getD (kvs.map fun kv => if kv.1 = k then (kv.1, d) else kv) j = if j = k then (getD kvs j).map (fun _ => d) else getD kvs j
  | [] => by simp [getD_nil]
  | p :: r => by
    rw [List.map_cons, getD_cons, getD_cons, getD_map r]
    by_cases h : p.1 = k
    · simp only [if_pos h]
      by_cases hj : p.1 = j
      · have : j = k := hj.symm.trans h
        simp [hj, this]
      · have : ¬ j = k := fun e => hj (h.trans e.symm)
        simp [hj, this]
    · simp only [if_neg h]
      by_cases hj : p.1 = j
      · have : ¬ j = k := fun e => h (hj.trans e)
        simp [hj, this]
      · simp [hj]
theorem getD_app {k j : κ} : ∀ kvs : List (κ × α), getD (kvs ++ [(k, d)]) j = match getD kvs j with | some x => some x | none => if k = j then some d else none
  | [] => by simp [getD_cons, getD_nil]
  | p :: r => by
    rw [List.cons_append, getD_cons, getD_cons, getD_app r]
    by_cases h : p.1 = j
    · simp [h]
    · simp [h]
theorem getD_put {kvs : List (κ × α)} {k j : κ} : getD (putD kvs k d) j = if j = k then some d else getD kvs j := by
  unfold putD
  rw [getD_any]
  by_cases h : (getD kvs k).isSome = true
  · rw [if_pos h, getD_map]
    by_cases e : j = k
    · subst e
      rw [if_pos rfl, if_pos rfl]
      obtain ⟨x, hx⟩ := Option.isSome_iff_exists.mp h
      rw [hx]; rfl
    · rw [if_neg e, if_neg e]
  · rw [if_neg h, getD_app]
    have hn : getD kvs k = none := by simpa using h
    by_cases e : j = k
    · subst e
      rw [hn, if_pos rfl]
    · rw [if_neg e]
      cases getD kvs j with
      | some x => rfl
      | none => rw [if_neg (Ne.symm e)]
theorem putD_len {kvs : List (κ × α)} {k : κ} : (putD kvs k d).length ≤ kvs.length + 1 := by
  unfold putD
  split
  · rw [List.length_map]; omega
  · rw [List.length_append]; exact Nat.le_refl _
/-- the same by other keys and values -/
theorem getD_mapKV {κ' : Type} [DecidableEq κ'] {f : κ → κ'} {g : α → β} (hf : ∀ a b, f a = f b → a = b) {k : κ} : ∀ kvs : List (κ × α), getD (kvs.map fun p => (f p.1, g p.2)) (f k) = (getD kvs k).map g
  | [] => rfl
  | p :: r => by
    rw [List.map_cons, getD_cons, getD_cons, getD_mapKV hf r]
    by_cases h : p.1 = k
    · rw [if_pos h, if_pos (congrArg f h)]; rfl
    · rw [if_neg h, if_neg fun z => h (hf _ _ z)]
theorem putD_mapKV {κ' : Type} [DecidableEq κ'] {f : κ → κ'} {g : α → β} (hf : ∀ a b, f a = f b → a = b) {k : κ} {kvs : List (κ × α)} : putD (kvs.map fun p => (f p.1, g p.2)) (f k) (g d) = (putD kvs k d).map fun p => (f p.1, g p.2) := by
  unfold putD
  rw [getD_any, getD_any, getD_mapKV hf, Option.isSome_map]
  split
  · rw [List.map_map, List.map_map]
    apply List.map_congr_left
    intro p _
    show (if f p.1 = f k then (f p.1, g d) else (f p.1, g p.2)) = _
    by_cases h : p.1 = k
    · rw [if_pos (congrArg f h)]; simp [h]
    · rw [if_neg fun z => h (hf _ _ z)]; simp [h]
  · rw [List.map_append]; rfl
end
section
variable {κ : Type} [DecidableEq κ]
/-- the pairs of values stand for the pairs -/
def RpK (K : Fg) (B : Hp) (kvs : List (κ × D)) (ks : List (κ × V)) : Prop := ∃ xs, ks = (kvs.map (·.1)).zip xs ∧ (kvs.map (·.1)).length = xs.length ∧ RpL K B (kvs.map (·.2)) xs
theorem RpK.cons_iff {p : κ × D} {r : List (κ × D)} {ks : List (κ × V)} : RpK K B (p :: r) ks ↔ ∃ v t, ks = (p.1, v) :: t ∧ Rp K B p.2 v ∧ RpK K B r t := by
  constructor
  · rintro ⟨xs, rfl, hl, h⟩
    obtain ⟨x, t, rfl, h1, h2⟩ := rpl_cons.mp h
    exact ⟨x, _, rfl, h1, t, rfl, by simpa using hl, h2⟩
  · rintro ⟨v, t, rfl, h1, xs, rfl, hl, h2⟩
    exact ⟨v :: xs, rfl, by simpa using hl, .cons h1 h2⟩
theorem RpK.nil_iff {ks : List (κ × V)} : RpK K B ([] : List (κ × D)) ks ↔ ks = [] := by
  constructor
  · rintro ⟨xs, rfl, hl, h⟩
    rfl
  · rintro rfl
    exact ⟨[], rfl, rfl, .nil⟩
theorem RpK.get {k : κ} : ∀ {kvs : List (κ × D)} {ks : List (κ × V)}, RpK K B kvs ks → (getD kvs k = none ∧ valV ks k = none) ∨ ∃ d v, getD kvs k = some d ∧ valV ks k = some v ∧ Rp K B d v
  | [], _, h => by
    rw [RpK.nil_iff.mp h]
    exact .inl ⟨rfl, rfl⟩
  | p :: r, _, h => by
    obtain ⟨v, t, rfl, h1, h2⟩ := RpK.cons_iff.mp h
    rw [getD_cons]
    by_cases e : p.1 = k
    · rw [if_pos e, valV_pos e]
      exact .inr ⟨p.2, v, rfl, rfl, h1⟩
    · rw [if_neg e, valV_neg e]
      exact RpK.get h2
theorem RpK.any {k : κ} {kvs : List (κ × D)} {ks : List (κ × V)} (h : RpK K B kvs ks) : (ks.any fun kv => decide (kv.1 = k)) = kvs.any fun kv => decide (kv.1 = k) := by
  rw [getD_any kvs, valV_any]
  rcases h.get (k := k) with ⟨h1, h2⟩ | ⟨d, v, h1, h2, _⟩ <;> rw [h1, h2] <;> rfl
theorem RpK.repl {k : κ} {d : D} {v : V} (hv : Rp K B d v) : ∀ {kvs : List (κ × D)} {ks : List (κ × V)}, RpK K B kvs ks → RpK K B (kvs.map fun kv => if kv.1 = k then (kv.1, d) else kv) (ks.map fun kv => if kv.1 = k then (kv.1, v) else kv)
  | [], _, h => by
    rw [RpK.nil_iff.mp h]
    exact RpK.nil_iff.mpr rfl
  | p :: r, _, h => by
    obtain ⟨w, t, rfl, h1, h2⟩ := RpK.cons_iff.mp h
    rw [List.map_cons, List.map_cons]
    by_cases e : p.1 = k
    · simp only [if_pos e]
      exact RpK.cons_iff.mpr ⟨v, _, rfl, hv, RpK.repl hv h2⟩
    · simp only [if_neg e]
      exact RpK.cons_iff.mpr ⟨w, _, rfl, h1, RpK.repl hv h2⟩
theorem RpK.snoc {k : κ} {d : D} {v : V} (hv : Rp K B d v) : ∀ {kvs : List (κ × D)} {ks : List (κ × V)}, RpK K B kvs ks → RpK K B (kvs ++ [(k, d)]) (ks ++ [(k, v)])
  | [], _, h => by
    rw [RpK.nil_iff.mp h]
    exact RpK.cons_iff.mpr ⟨v, _, rfl, hv, RpK.nil_iff.mpr rfl⟩
  | p :: r, _, h => by
    obtain ⟨w, t, rfl, h1, h2⟩ := RpK.cons_iff.mp h
    exact RpK.cons_iff.mpr ⟨w, _, rfl, h1, RpK.snoc hv h2⟩
theorem RpK.put {k : κ} {d : D} {v : V} (hv : Rp K B d v) {kvs : List (κ × D)} {ks : List (κ × V)} (h : RpK K B kvs ks) : RpK K B (putD kvs k d) (putK ks k v) := by
  unfold putD putK
  rw [h.any]
  split
  · exact h.repl hv
  · exact h.snoc hv
theorem RpK.len {kvs : List (κ × D)} {ks : List (κ × V)} (h : RpK K B kvs ks) : ks.length = kvs.length := by
  obtain ⟨xs, rfl, hl, _⟩ := h
  rw [List.length_zip, ← hl, List.length_map, Nat.min_self]
end
abbrev dT' (kvs : List (List Key × D)) : D := .dT (kvs.map (·.1)) (kvs.map (·.2))
abbrev dK' (kvs : List (Key × D)) : D := .dK (kvs.map (·.1)) (kvs.map (·.2))
theorem rp_dT' {kvs : List (List Key × D)} {v : V} : Rp K B (dT' kvs) v ↔ ∃ p ks, v = .ref p ∧ B p = some (.dT ks) ∧ RpK K B kvs ks := by
  rw [rp_dT]
  exact ⟨fun ⟨p, xs, h1, h2, h3, h4⟩ => ⟨p, _, h1, h2, xs, rfl, h3, h4⟩, fun ⟨p, ks, h1, h2, xs, e, h3, h4⟩ => ⟨p, xs, h1, e ▸ h2, h3, h4⟩⟩
theorem rp_dK' {kvs : List (Key × D)} {v : V} : Rp K B (dK' kvs) v ↔ ∃ p ks, v = .ref p ∧ B p = some (.dK ks) ∧ RpK K B kvs ks := by
  rw [rp_dK]
  exact ⟨fun ⟨p, xs, h1, h2, h3, h4⟩ => ⟨p, _, h1, h2, xs, rfl, h3, h4⟩, fun ⟨p, ks, h1, h2, xs, e, h3, h4⟩ => ⟨p, xs, h1, e ▸ h2, h3, h4⟩⟩
theorem ho_dT' {kvs : List (List Key × D)} {o : HO} : HoR K B (dT' kvs) o ↔ ∃ ks, o = .dT ks ∧ RpK K B kvs ks := by
  simp only [dT', HoR]
  exact ⟨fun ⟨xs, h2, h3, h4⟩ => ⟨_, h2, xs, rfl, h3, h4⟩, fun ⟨ks, h2, xs, e, h3, h4⟩ => ⟨xs, e ▸ h2, h3, h4⟩⟩
theorem ho_dK' {kvs : List (Key × D)} {o : HO} : HoR K B (dK' kvs) o ↔ ∃ ks, o = .dK ks ∧ RpK K B kvs ks := by
  simp only [dK', HoR]
  exact ⟨fun ⟨xs, h2, h3, h4⟩ => ⟨_, h2, xs, rfl, h3, h4⟩, fun ⟨ks, h2, xs, e, h3, h4⟩ => ⟨xs, e ▸ h2, h3, h4⟩⟩
theorem DGet.tD {kvs : List (List Key × D)} {k : List Key} {v w : V} (hs : Same B H) (r : Rp K B (dT' kvs) v) (r2 : Rp K B (.tup (k.map kD)) w) : ∃ a, v = .ref a ∧ ((getD kvs k = none ∧ DGet H a w none) ∨ ∃ d x, getD kvs k = some d ∧ DGet H a w (some x) ∧ Rp K B d x) := by
  obtain ⟨p, ks, rfl, h1, h2⟩ := rp_dT'.mp r
  obtain ⟨s, ys, rfl, g1, g2⟩ := rp_tup.mp r2
  rw [RpL.keys.mp g2] at g1
  have g := DGet.t (hs _ _ h1) (hs _ _ g1)
  refine ⟨p, rfl, ?_⟩
  rcases h2.get (k := k) with ⟨z1, z2⟩ | ⟨d', w', z1, z2, z3⟩
  · rw [z2] at g
    exact .inl ⟨z1, g⟩
  · rw [z2] at g
    exact .inr ⟨d', w', z1, g, z3⟩
theorem ev_dgetT {kvs : List (List Key × D)} {k : List Key} (ha : Ev K ta ρ (dT' kvs) ρ1) (hb : Ev K tb ρ1 (.tup (k.map kD)) ρ2) (h : getD kvs k = some d) : Ev K (tDGet ta tb) ρ d ρ2 := fun F B0 B σ H S Q q =>
  ha F B0 B σ H S _ fun v B1 H1 b1 S1 r => hb F B0 B1 σ H1 S1 _ fun y B2 H2 b2 S2 r2 => by
    obtain ⟨a, rfl, ⟨z, _⟩ | ⟨d', x, z1, z2, z3⟩⟩ := DGet.tD S2.bh (r.mono b2) r2
    · rw [h] at z; cases z
    · rw [h] at z1; cases z1
      exact ⟨a, x, rfl, z2, q _ B2 H2 (b1.trans b2) S2 z3⟩
theorem ev_dinT {kvs : List (List Key × D)} {k : List Key} (hb : Ev K tb ρ (.tup (k.map kD)) ρ1) (ha : Ev K ta ρ1 (dT' kvs) ρ2) : Ev K (tDIn tb ta) ρ (.bl (getD kvs k).isSome) ρ2 := fun F B0 B σ H S Q q =>
  hb F B0 B σ H S _ fun y B1 H1 b1 S1 r2 => ha F B0 B1 σ H1 S1 _ fun v B2 H2 b2 S2 r => by
    obtain ⟨a, rfl, ⟨z, g⟩ | ⟨d', x, z1, g, z3⟩⟩ := DGet.tD S2.bh r (r2.mono b2)
    · exact ⟨a, _, rfl, g, q _ B2 H2 (b1.trans b2) S2 (rp_bl.mpr (by rw [z]; rfl))⟩
    · exact ⟨a, _, rfl, g, q _ B2 H2 (b1.trans b2) S2 (rp_bl.mpr (by rw [z1]; rfl))⟩
theorem ev_dnotinT {kvs : List (List Key × D)} {k : List Key} (hb : Ev K tb ρ (.tup (k.map kD)) ρ1) (ha : Ev K ta ρ1 (dT' kvs) ρ2) : Ev K (tDNotIn tb ta) ρ (.bl (!(getD kvs k).isSome)) ρ2 := fun F B0 B σ H S Q q =>
  hb F B0 B σ H S _ fun y B1 H1 b1 S1 r2 => ha F B0 B1 σ H1 S1 _ fun v B2 H2 b2 S2 r => by
    obtain ⟨a, rfl, ⟨z, g⟩ | ⟨d', x, z1, g, z3⟩⟩ := DGet.tD S2.bh r (r2.mono b2)
    · exact ⟨a, _, rfl, g, q _ B2 H2 (b1.trans b2) S2 (rp_bl.mpr (by rw [z]; rfl))⟩
    · exact ⟨a, _, rfl, g, q _ B2 H2 (b1.trans b2) S2 (rp_bl.mpr (by rw [z1]; rfl))⟩
theorem ev_dgetK {kvs : List (Key × D)} {k : Key} (ha : Ev K ta ρ (dK' kvs) ρ1) (hb : Ev K tb ρ1 (kD k) ρ2) (h : getD kvs k = some d) : Ev K (tDGet ta tb) ρ d ρ2 := fun F B0 B σ H S Q q =>
  ha F B0 B σ H S _ fun v B1 H1 b1 S1 r => hb F B0 B1 σ H1 S1 _ fun y B2 H2 b2 S2 r2 => by
    obtain ⟨p, ks, rfl, h1, h2⟩ := rp_dK'.mp (r.mono b2)
    have ey : y = kV k := by
      cases k with
      | inl i => exact rp_int.mp r2
      | inr i => exact rp_str.mp r2
    subst ey
    have g := DGet.k (k := k) (S2.bh _ _ h1)
    rcases h2.get (k := k) with ⟨z1, z2⟩ | ⟨d', w', z1, z2, z3⟩
    · rw [h] at z1; cases z1
    · rw [h] at z1; cases z1
      rw [z2] at g
      exact ⟨p, w', rfl, g, q _ B2 H2 (b1.trans b2) S2 z3⟩
end
end DL

namespace DL
open PySem L2
/-- what is wanted behind a statement -/
structure Post where
  nx : Env → Prop
  rt : D → Env → Prop
  bk : Env → Prop := fun _ => False
  ct : Env → Prop := fun _ => False
  /-- a new thing is handed back, or one that a slot owned -/
  rn : D → Env → Prop := fun _ _ => False
def Sx (K : Fg) (t : TS) (ρ : Env) (P : Post) : Prop := ∀ F B0 B σ H, St K F B0 B σ H ρ → ∀ E : Ends,
  (∀ ρ' B' σ' H', St K F B0 B' σ' H' ρ' → P.nx ρ' → E.nx σ' H') → (∀ d v ρ' B' σ' H', St K F B0 B' σ' H' ρ' → Rp K B' d v → P.rt d ρ' → E.rt v H') →
  (∀ ρ' B' σ' H', St K F B0 B' σ' H' ρ' → P.bk ρ' → E.bk σ' H') → (∀ ρ' B' σ' H', St K F B0 B' σ' H' ρ' → P.ct ρ' → E.ct σ' H') → (∀ d p ρ' B' σ' H', St K F B0 B' σ' H' ρ' → Free K F B' σ' H' ρ' d p → P.rn d ρ' → E.rt (.ref p) H') → t E σ H
/-- a target: js the slots that it sets -/
def Gx (K : Fg) (g : TG) (js : List Nat) (d : D) (ρ : Env) (N : Env → Prop) : Prop := ∀ F B0 B σ H, St K F B0 B σ H ρ → ∀ v, Rp K B d v → ∀ Q : L2.St → Hp → Prop,
  (∀ ρ' σ', St K F B0 B σ' H ρ' → N ρ' → (∀ vs, (∀ j ∈ js, j ∈ vs) → wipe σ' vs = wipe σ vs) → Q σ' H) → g v σ H Q
def Gxs (K : Fg) (g : TGs) (js : List Nat) (ds : List D) (ρ : Env) (N : Env → Prop) : Prop := ∀ F B0 B σ H, St K F B0 B σ H ρ → ∀ vs, RpL K B ds vs → ∀ Q : L2.St → Hp → Prop,
  (∀ ρ' σ', St K F B0 B σ' H ρ' → N ρ' → (∀ vs, (∀ j ∈ js, j ∈ vs) → wipe σ' vs = wipe σ vs) → Q σ' H) → g vs σ H Q

theorem wipe_get {σ : L2.St} : ∀ {vs : List Nat} {j : Nat}, (wipe σ vs)[j]? = if j ∈ vs ∧ j < σ.length then some none else σ[j]?
  | [], j => by simp [wipe]
  | v :: vs, j => by
    unfold wipe
    by_cases h : v = j
    · subst h
      by_cases hl : v < σ.length
      · rw [List.getElem?_set_self (by rw [wipe_length]; exact hl), if_pos ⟨by simp, hl⟩]
      · rw [if_neg (fun z => hl z.2), List.getElem?_eq_none (by simpa [wipe_length] using hl), List.getElem?_eq_none (by simpa using hl)]
    · rw [List.getElem?_set_ne h, wipe_get]
      have e : (j ∈ v :: vs ∧ j < σ.length) ↔ (j ∈ vs ∧ j < σ.length) := by
        constructor
        · rintro ⟨a, b⟩
          rcases List.mem_cons.mp a with z | z
          · exact absurd z.symm h
          · exact ⟨z, b⟩
        · rintro ⟨a, b⟩
          exact ⟨List.mem_cons_of_mem _ a, b⟩
      by_cases q : j ∈ vs ∧ j < σ.length
      · rw [if_pos q, if_pos (e.mpr q)]
      · rw [if_neg q, if_neg (fun z => q (e.mp z))]
theorem wipe_set {σ : L2.St} {vs : List Nat} {j : Nat} {x : Option V} (h : j ∈ vs) : wipe (σ.set j x) vs = wipe σ vs := by
  apply List.ext_getElem?
  intro i
  rw [wipe_get, wipe_get, List.length_set]
  by_cases q : i ∈ vs ∧ i < σ.length
  · rw [if_pos q, if_pos q]
  · rw [if_neg q, if_neg q]
    by_cases e : j = i
    · subst e
      have hl : ¬ j < σ.length := fun z => q ⟨h, z⟩
      rw [List.getElem?_eq_none (by simpa using hl), List.getElem?_eq_none (by simpa using hl)]
    · rw [List.getElem?_set_ne e]

section
variable {K : Fg} {F : Fr} {B0 B B' H H' : Hp} {σ : L2.St} {ρ ρ1 ρ2 ρ3 : Env} {te ta tb tc : TE} {t u tw : TS} {tt : TT} {a b c d e : D} {i j k : Int} {n m : Nat} {ds es : List D} {P P' : Post} {g : TG} {gs : TGs} {js js' : List Nat} {N N' : Env → Prop}

theorem ho_lst {xs : List V} (h : RpL K B ds xs) : HoR K B (.lst ds) (.lst xs) := ⟨xs, rfl, h⟩
theorem ho_obj {C dx : Addr} {ns : List Str} {xs : List V} (hl : ns.length = xs.length) (h : RpL K B ds xs) : HoR K B (.obj C ns ds) (.ins C dx (ns.zip xs)) := ⟨dx, xs, rfl, hl, h⟩
theorem Sx.weak (w : Wk ρ ρ1) (h : Sx K t ρ1 P) : Sx K t ρ P := fun F B0 B σ H S E => by
  obtain ⟨B1, _, S1⟩ := S.weak w
  exact h F B0 B1 σ H S1 E
theorem Sx.mono (h : Sx K t ρ P) (h1 : ∀ ρ, P.nx ρ → P'.nx ρ) (h2 : ∀ d ρ, P.rt d ρ → P'.rt d ρ) (h3 : ∀ ρ, P.bk ρ → P'.bk ρ) (h4 : ∀ ρ, P.ct ρ → P'.ct ρ) (h5 : ∀ d ρ, P.rn d ρ → P'.rn d ρ) : Sx K t ρ P' := fun F B0 B σ H S E q1 q2 q3 q4 q5 =>
  h F B0 B σ H S E (fun a b c d s p => q1 a b c d s (h1 _ p)) (fun a b c d e f s r p => q2 a b c d e f s r (h2 _ _ p)) (fun a b c d s p => q3 a b c d s (h3 _ p)) (fun a b c d s p => q4 a b c d s (h4 _ p)) (fun a b c d e f s r p => q5 a b c d e f s r (h5 _ _ p))
theorem sx_seq (h : Sx K t ρ { P with nx := fun ρ' => Sx K u ρ' P }) : Sx K (tSeq t u) ρ P := fun F B0 B σ H S E q1 q2 q3 q4 q5 =>
  h F B0 B σ H S { E with nx := u E } (fun ρ' B' σ' H' S' p => p F B0 B' σ' H' S' E q1 q2 q3 q4 q5) q2 q3 q4 q5
/-- with a word between -/
theorem sx_cut (M : Env → Prop) (h : Sx K t ρ { P with nx := M }) (k : ∀ ρ', M ρ' → Sx K u ρ' P) : Sx K (tSeq t u) ρ P := sx_seq (h.mono k (fun _ _ z => z) (fun _ z => z) (fun _ z => z) fun _ _ z => z)
theorem sx_next (h : P.nx ρ) : Sx K tNext ρ P := fun F B0 B σ H S E q1 _ _ _ _ => q1 _ _ _ _ S h
theorem sx_brk (h : P.bk ρ) : Sx K tBreak ρ P := fun F B0 B σ H S E _ _ q3 _ _ => q3 _ _ _ _ S h
theorem sx_cont (h : P.ct ρ) : Sx K tCont ρ P := fun F B0 B σ H S E _ _ _ q4 _ => q4 _ _ _ _ S h
theorem sx_ret (h : Ev K te ρ d ρ1) (p : P.rt d ρ1) : Sx K (tRet te) ρ P := fun F B0 B σ H S E _ q2 _ _ _ =>
  h F B0 B σ H S _ fun v B1 H1 _ S1 r => q2 d v ρ1 B1 σ H1 S1 r p
theorem sx_retF (h : EvN K te ρ d ρ1) (p : P.rn d ρ1) : Sx K (tRet te) ρ P := fun F B0 B σ H S E _ _ _ _ q5 =>
  h F B0 B σ H S _ fun s B1 H1 _ S1 f => q5 d s ρ1 B1 σ H1 S1 f p
theorem sx_retO {w : Bool} (h0 : ρ[n]? = some (some (.own w d))) (p : P.rn d (ρ.set n none)) : Sx K (tRet (tVar n)) ρ P := fun F B0 B σ H S E _ _ _ _ q5 => by
  obtain ⟨s, o, e1, e2, e3, e4, e5, _⟩ := S.own n w d h0
  have at_ : ∀ (i : Nat) x, (ρ.set n none)[i]? = some (some x) → n ≠ i ∧ ρ[i]? = some (some x) := fun i x z => by
    by_cases hi : n = i
    · subst hi
      have hn : n < ρ.length := (List.getElem?_eq_some_iff.mp h0).1
      rw [List.getElem?_set_self hn] at z; cases z
    · rw [List.getElem?_set_ne hi] at z; exact ⟨hi, z⟩
  refine ⟨_, e1, q5 d s _ B σ H ⟨S.fr, S.b0, S.bh, S.new, fun i d z => S.dat i d (at_ i _ z).2, fun i w d z => S.own i w d (at_ i _ z).2, fun i j w w' d e q h1 h2 h3 h4 => S.dist i j w w' d e q (at_ i _ h1).2 (at_ j _ h2).2 h3 h4, by simp [S.len]⟩
    ⟨⟨o, e2, e3⟩, e4, e5, fun i w e z y => (at_ i _ z).1 (S.dist n i _ _ _ _ s h0 (at_ i _ z).2 e1 y)⟩ p⟩
theorem sx_retN (p : P.rt .non ρ) : Sx K tRetN ρ P := fun F B0 B σ H S E _ q2 _ _ _ => q2 .non _ ρ B σ H S (rp_non.mpr rfl) p
theorem sx_drop (h : Ev K te ρ d ρ1) (p : P.nx ρ1) : Sx K (tDrop te) ρ P := fun F B0 B σ H S E q1 _ _ _ _ =>
  h F B0 B σ H S _ fun v B1 H1 _ S1 r => q1 ρ1 B1 σ H1 S1 p
theorem sx_if {x : Bool} (h : EvT K tt ρ x ρ1) (h1 : x = true → Sx K t ρ1 P) (h2 : x = false → Sx K u ρ1 P) : Sx K (tIfS tt t u) ρ P := fun F B0 B σ H S E q1 q2 q3 q4 q5 =>
  h F B0 B σ H S _ fun B1 H1 _ S1 => by
    cases x with
    | true => exact h1 rfl F B0 B1 σ H1 S1 E q1 q2 q3 q4 q5
    | false => exact h2 rfl F B0 B1 σ H1 S1 E q1 q2 q3 q4 q5
theorem sx_never (h : False) : Sx K t ρ P := h.elim
/-! ### targets -/
theorem gx_name (hn : n < ρ.length) (p : N (ρ.set n (some (.dat d)))) : Gx K (gName n) [n] d ρ N := fun F B0 B σ H S v r Q q =>
  q _ _ (S.put r hn) p fun vs hv => wipe_set (hv n (by simp))
theorem gxs_nil (p : N ρ) : Gxs K gNil [] [] ρ N := fun F B0 B σ H S vs r Q q => ⟨rpl_nil.mp r, q _ _ S p fun _ _ => rfl⟩
theorem gxs_cons (h : Gx K g js d ρ fun ρ1 => Gxs K gs js' ds ρ1 N) : Gxs K (gCons g gs) (js ++ js') (d :: ds) ρ N := fun F B0 B σ H S vs r Q q => by
  obtain ⟨x, xs, rfl, h1, h2⟩ := rpl_cons.mp r
  refine ⟨x, xs, rfl, h F B0 B σ H S x h1 _ fun ρ1 σ1 S1 p w1 => p F B0 B σ1 H S1 xs h2 _ fun ρ2 σ2 S2 p2 w2 => q _ _ S2 p2 fun vs hv => ?_⟩
  rw [w2 vs fun j hj => hv j (List.mem_append_right _ hj), w1 vs fun j hj => hv j (List.mem_append_left _ hj)]
theorem gx_tup (hn : ds.length = n) (h : Gxs K gs js ds ρ N) : Gx K (gTup K n gs) js (.tup ds) ρ N := fun F B0 B σ H S v r Q q => by
  obtain ⟨p, xs, rfl, h1, h2⟩ := rp_tup.mp r
  exact ⟨p, xs, rfl, SqT.of (S.bh _ _ h1), by rw [← h2.len]; exact hn, h F B0 B σ H S xs h2 Q q⟩
theorem sx_asg (h : Ev K te ρ d ρ1) (hg : Gx K g js d ρ1 P.nx) : Sx K (tAsg te g) ρ P := fun F B0 B σ H S E q1 _ _ _ _ =>
  h F B0 B σ H S _ fun v B1 H1 _ S1 r => hg F B0 B1 σ H1 S1 v r _ fun ρ' σ' S' p _ => q1 ρ' B1 σ' H1 S' p
theorem sx_set (h : Ev K te ρ d ρ1) (hn : n < ρ1.length) (p : P.nx (ρ1.set n (some (.dat d)))) : Sx K (tAsg te (gName n)) ρ P := sx_asg h (gx_name hn p)
/-- a new thing, owned by the name -/
theorem sx_own (h : EvN K te ρ d ρ1) (hn : n < ρ1.length) (p : P.nx (ρ1.set n (some (.own false d)))) : Sx K (tAsg te (gName n)) ρ P := fun F B0 B σ H S E q1 _ _ _ _ =>
  h F B0 B σ H S _ fun s B1 H1 _ S1 f => q1 _ B1 _ H1 (f.take S1 hn) p
theorem sx_par {tr : TA} (h : EvA K tr ρ [d, e] ρ1) (hn : n < ρ1.length) (hm : m < ρ1.length) (p : P.nx ((ρ1.set n (some (.dat d))).set m (some (.dat e)))) : Sx K (tPar n m tr) ρ P := fun F B0 B σ H S E q1 _ _ _ _ =>
  h F B0 B σ H S _ fun vs B1 H1 _ S1 r => by
    obtain ⟨x, y, rfl, r1, r2⟩ := r.two
    exact ⟨x, y, rfl, q1 _ B1 _ H1 ((S1.put r1 hn).put r2 (by simpa using hm)) p⟩
theorem sx_aug {f : Int → Int → Int} (h0 : ρ[n]? = some (some (.dat (.int i)))) (h : Ev K te ρ (.int j) ρ1) (p : P.nx (ρ1.set n (some (.dat (.int (f i j)))))) (hn : n < ρ1.length) : Sx K (tAug n te (ipI f)) ρ P := fun F B0 B σ H S E q1 _ _ _ _ => by
  obtain ⟨v, e1, e2⟩ := S.dat n _ h0
  refine ⟨v, e1, h F B0 B σ H S _ fun y B1 H1 _ S1 r => ?_⟩
  exact ⟨i, j, rp_int.mp e2, rp_int.mp r, q1 _ B1 _ H1 (S1.put (rp_int.mpr rfl) hn) p⟩
/-! ### owned lists -/
theorem tyV_list {p : Addr} {xs : List V} (h : H p = some (.lst xs)) : tyV K "list" (.ref p) H := .inl ⟨rfl, _, SqL.of h⟩
theorem sx_app {w w' : Bool} (h0 : ρ[n]? = some (some (.own w (.lst es)))) (h : Ev K te ρ d ρ1) (h1 : ρ1[n]? = some (some (.own w' (.lst ds)))) (hl : ds.length < sizeLine) (p : P.nx (ρ1.set n (some (.own w' (.lst (ds ++ [d])))))) :
    Sx K (tDrop (tBM K "list" rAppend (tVar n) (tCons te tNil))) ρ P := fun F B0 B σ H S E q1 _ _ _ _ => by
  obtain ⟨s, o, e1, e2, ⟨xs0, rfl, _⟩, _⟩ := S.own n w _ h0
  refine ⟨_, e1, tyV_list e2, h F B0 B σ H S _ fun y B1 H1 _ S1 r => ?_⟩
  obtain ⟨s', o', f1, f2, ⟨xs, rfl, f3⟩, _⟩ := S1.own n w' _ h1
  rw [e1] at f1; cases f1
  exact ⟨s, xs, y, rfl, rfl, f2, by rw [← f3.len]; exact hl, q1 _ B1 σ _ (S1.mutate h1 e1 (ho_lst (f3.append (.cons r .nil)))) p⟩
/-- xs[i] = e -/
theorem sx_setL {w w' : Bool} {x : Nat} (h : Ev K te ρ d ρ1) (h0 : ρ1[n]? = some (some (.own w (.lst es)))) (hi : Ev K tb ρ1 (.int i) ρ2) (h1 : ρ2[n]? = some (some (.own w' (.lst ds)))) (hx : ixN ds.length i = some x)
    (p : P.nx (ρ2.set n (some (.own w' (.lst (ds.set x d)))))) : Sx K (tAsg te (gSub (tVar n) tb rSetL)) ρ P := fun F B0 B σ H S E q1 _ _ _ _ =>
  h F B0 B σ H S _ fun y B1 H1 _ S1 r => by
    obtain ⟨s, o, e1, e2, _⟩ := S1.own n w _ h0
    refine ⟨_, e1, hi F B0 B1 σ H1 S1 _ fun z B2 H2 b2 S2 r2 => ?_⟩
    obtain ⟨s', o', f1, f2, ⟨xs, rfl, f3⟩, _⟩ := S2.own n w' _ h1
    rw [e1] at f1; cases f1
    exact ⟨s, xs, i, x, rfl, rp_int.mp r2, f2, by rw [← f3.len]; exact hx, q1 _ B2 σ _ (S2.mutate h1 e1 (ho_lst (f3.set x (r.mono b2)))) p⟩
/-- x = xs.pop() and the like -/
theorem ev_pop {w : Bool} (h0 : ρ[n]? = some (some (.own w (.lst ds)))) (hl : ds[ds.length - 1]? = some d) : Ev K (tBM0 K "list" rPop (tVar n)) ρ d (ρ.set n (some (.own w (.lst ds.dropLast)))) := fun F B0 B σ H S Q q => by
  obtain ⟨s, o, e1, e2, ⟨xs, rfl, e3⟩, _⟩ := S.own n w _ h0
  obtain ⟨y, g1, g2⟩ := e3.get hl
  refine ⟨_, e1, tyV_list e2, s, xs, y, rfl, rfl, e2, by rw [← e3.len]; exact g1, q _ B _ (Same.refl _) (S.mutate h0 e1 ⟨_, rfl, ?_⟩) g2⟩
  rw [List.dropLast_eq_take, List.dropLast_eq_take, ← e3.len]
  exact e3.take _
/-! ### owned dicts -/
theorem sx_dputT {w w' : Bool} {kvs kvs0 : List (List Key × D)} {k : List Key} (h : Ev K te ρ d ρ1) (h0 : ρ1[n]? = some (some (.own w (dT' kvs0)))) (hi : Ev K tb ρ1 (.tup (k.map kD)) ρ2) (h1 : ρ2[n]? = some (some (.own w' (dT' kvs)))) (hl : kvs.length < sizeLine)
    (p : P.nx (ρ2.set n (some (.own w' (dT' (putD kvs k d)))))) : Sx K (sDPut (tVar n) tb te) ρ P := fun F B0 B σ H S E q1 _ _ _ _ =>
  h F B0 B σ H S _ fun y B1 H1 _ S1 r => by
    obtain ⟨s, o, e1, e2, _⟩ := S1.own n w _ h0
    refine ⟨_, e1, hi F B0 B1 σ H1 S1 _ fun z B2 H2 b2 S2 r2 => ?_⟩
    obtain ⟨s', o', f1, f2, f3, _⟩ := S2.own n w' _ h1
    rw [e1] at f1; cases f1
    obtain ⟨ks, rfl, f4⟩ := ho_dT'.mp f3
    obtain ⟨q, ys, rfl, g1, g2⟩ := rp_tup.mp r2
    rw [RpL.keys.mp g2] at g1
    refine ⟨s, _, rfl, DPut.t f2 (S2.bh _ _ g1) (by rw [f4.len]; exact hl), q1 _ B2 σ _ (S2.mutate h1 e1 (ho_dT'.mpr ⟨_, rfl, f4.put (r.mono b2)⟩)) p⟩
theorem en_dnewT : EvN K tDNewT ρ (dT' []) ρ := fun F B0 B σ H S Q q p hp =>
  q p B _ (Same.refl _) (S.grow (Grow.loose S.bh hp)) (Free.grow S (Grow.loose S.bh hp) hp upd_same (none_of_same S.bh hp) (ho_dT'.mpr ⟨[], rfl, RpK.nil_iff.mpr rfl⟩))
/-! ### fields of an owned object -/
def putN (f : Str) (d : D) : List Str → List D → List Str × List D
  | [], _ => ([f], [d])
  | n :: ns, [] => ([f], [d])
  | n :: ns, x :: ds => if n = f then (n :: ns, d :: ds) else ((n :: (putN f d ns ds).1), x :: (putN f d ns ds).2)
theorem putN_rel {f : Str} {v : V} (hv : Rp K B d v) : ∀ {ns : List Str} {ds : List D} {xs : List V}, ns.length = xs.length → RpL K B ds xs → ∃ ys, putF f v (ns.zip xs) = (putN f d ns ds).1.zip ys ∧ (putN f d ns ds).1.length = ys.length ∧ RpL K B (putN f d ns ds).2 ys
  | [], ds, xs, hl, h => by
    have e : xs = [] := List.length_eq_zero_iff.mp hl.symm
    subst e
    exact ⟨[v], rfl, rfl, .cons hv .nil⟩
  | n :: ns, [], xs, hl, h => by
    rw [rpl_nil.mp h] at hl
    cases hl
  | n :: ns, x :: ds, _, hl, h => by
    obtain ⟨y, r, rfl, h1, h2⟩ := rpl_cons.mp h
    rw [List.zip_cons_cons]
    show ∃ ys, (if n = f then (n, v) :: ns.zip r else (n, y) :: putF f v (ns.zip r)) = _ ∧ _
    by_cases e : n = f
    · simp only [putN, if_pos e]
      exact ⟨v :: r, rfl, by simpa using hl, .cons hv h2⟩
    · simp only [putN, if_neg e]
      obtain ⟨ys, g1, g2, g3⟩ := putN_rel (f := f) hv (ns := ns) (by simpa using hl) h2
      exact ⟨y :: ys, by rw [g1, List.zip_cons_cons], by simpa using g2, .cons h1 g3⟩
theorem sx_fld {w : Bool} {C : Addr} {ns : List Str} {f : Str} (h : Ev K te ρ d ρ1) (h1 : ρ1[n]? = some (some (.own w (.obj C ns ds)))) (hc : Cls K C) (hn : NoAttr K C f) (hl : ns.length < 1000)
    (p : P.nx (ρ1.set n (some (.own w (.obj C (putN f d ns ds).1 (putN f d ns ds).2))))) : Sx K (sFld K (tVar n) te f) ρ P := fun F B0 B σ H S E q1 _ _ _ _ =>
  h F B0 B σ H S _ fun y B1 H1 _ S1 r => by
    obtain ⟨s, o, e1, e2, ⟨dx, xs, rfl, e4, e5⟩, _⟩ := S1.own n w _ h1
    obtain ⟨ys, g1, g2, g3⟩ := putN_rel (f := f) r e4 e5
    refine ⟨_, e1, s, C, dx, _, rfl, e2, hc, hn, by rw [List.length_zip, ← e4, Nat.min_self]; exact hl, q1 _ B1 σ _ (S1.mutate h1 e1 (g1 ▸ ho_obj g2 g3)) p⟩
/-- a field read of an owned object, itself settled -/
theorem ev_fldO {w : Bool} {C : Addr} {ns : List Str} {f : Str} (h1 : ρ[n]? = some (some (.own w (.obj C ns ds)))) (hc : Cls K C) (hn : NoAttr K C f) (hf : (ns.zip ds).lookup f = some d) : Ev K (tFld K (tVar n) f) ρ d ρ := fun F B0 B σ H S Q q => by
  obtain ⟨s, o, e1, e2, ⟨dx, xs, rfl, e4, e5⟩, _⟩ := S.own n w _ h1
  obtain ⟨x, g1, g2⟩ := zip_lookup e5 hf
  exact ⟨_, e1, s, C, dx, _, x, rfl, e2, hc, hn, g1, q _ B H (Same.refl _) S g2⟩
/-! ### what is walked -/
structure Walk (K : Fg) (J : It) (B : Hp) (ds : List D) : Prop where
  go : ∀ i H, Same B H → i < ds.length → J.go i H
  stop : ∀ H, Same B H → J.stop ds.length H
  yld : ∀ i H x H' B1, Same B B1 → Same B1 H → i < ds.length → J.yld i H x H' → ∃ B2 d, Grow B1 H B2 H' ∧ ds[i]? = some d ∧ Rp K B2 d x
def EvI (K : Fg) (wi : TI) (ρ : Env) (ds : List D) (ρ' : Env) : Prop := ∀ F B0 B σ H, St K F B0 B σ H ρ → ∀ R : It → Hp → Prop, (∀ J B' H', Same B B' → St K F B0 B' σ H' ρ' → Walk K J B' ds → R J H') → wi σ H R
theorem walk_list {p : Addr} {xs : List V} (h : B p = some (.lst xs)) (r : RpL K B ds xs) : Walk K (Itl K p) B ds where
  go := fun i H s hi => by
    have hx : i < xs.length := by rw [← r.len]; exact hi
    exact ⟨xs, xs[i], SqL.of (s _ _ h), List.getElem?_eq_getElem hx⟩
  stop := fun H s => ⟨xs, SqL.of (s _ _ h), by rw [r.len]; exact Nat.le_refl _⟩
  yld := fun i H x H' B1 b1 s hi y => by
    obtain ⟨rfl, y⟩ := y
    have e := y xs (SqL.of (s _ _ (b1 _ _ h)))
    obtain ⟨d, h1, h2⟩ := r.back e
    exact ⟨B1, d, Grow.refl s, h1, h2.mono b1⟩
theorem walk_frl {p : Addr} {xs : List V} (h : SqL K B p xs) (r : RpL K B ds xs) : Walk K (Itl K p) B ds where
  go := fun i H s hi => by
    have hx : i < xs.length := by rw [← r.len]; exact hi
    exact ⟨xs, xs[i], Same.sql s h, List.getElem?_eq_getElem hx⟩
  stop := fun H s => ⟨xs, Same.sql s h, by rw [r.len]; exact Nat.le_refl _⟩
  yld := fun i H x H' B1 b1 s hi y => by
    obtain ⟨rfl, y⟩ := y
    have e := y xs (Same.sql s (Same.sql b1 h))
    obtain ⟨d, h1, h2⟩ := r.back e
    exact ⟨B1, d, Grow.refl s, h1, h2.mono b1⟩
theorem walk_tup {p : Addr} {xs : List V} (h : SqT K B p xs) (r : RpL K B ds xs) : Walk K (Itt K p) B ds where
  go := fun i H s hi => by
    have hx : i < xs.length := by rw [← r.len]; exact hi
    exact ⟨xs, xs[i], Same.sqt s h, List.getElem?_eq_getElem hx⟩
  stop := fun H s => ⟨xs, Same.sqt s h, by rw [r.len]; exact Nat.le_refl _⟩
  yld := fun i H x H' B1 b1 s hi y => by
    obtain ⟨rfl, y⟩ := y
    have e := y xs (Same.sqt s (Same.sqt b1 h))
    obtain ⟨d, h1, h2⟩ := r.back e
    exact ⟨B1, d, Grow.refl s, h1, h2.mono b1⟩
def rgD (lo : Int) (n : Nat) : List D := (List.range n).map fun i => D.int (lo + (i : Nat))
theorem rgD_len {lo : Int} : (rgD lo n).length = n := by unfold rgD; rw [List.length_map, List.length_range]
theorem walk_rng {lo : Int} : Walk K (Itr lo n) B (rgD lo n) where
  go := fun i H s hi => by rw [rgD_len] at hi; exact hi
  stop := fun H s => by rw [rgD_len]; exact Nat.le_refl _
  yld := fun i H x H' B1 b1 s hi y => by
    obtain ⟨rfl, rfl⟩ := y
    rw [rgD_len] at hi
    exact ⟨B1, .int (lo + (i : Nat)), Grow.refl s, by unfold rgD; rw [List.getElem?_map, List.getElem?_range hi]; rfl, rp_int.mpr rfl⟩
/-- a list or a tuple, whichever it is -/
def iSeq (K : Fg) (tl : TE) : TI := fun σ H R => tl σ H fun x H1 => (∃ a, x = .ref a ∧ (∃ xs, SqL K H1 a xs) ∧ R (Itl K a) H1) ∨ (∃ a, x = .ref a ∧ (∃ xs, SqT K H1 a xs) ∧ R (Itt K a) H1)
theorem ei_list (h : Ev K te ρ (.lst ds) ρ1) : EvI K (iSeq K te) ρ ds ρ1 := fun F B0 B σ H S R q =>
  h F B0 B σ H S _ fun v B1 H1 b1 S1 r => by
    obtain ⟨p, xs, rfl, h1, h2⟩ := rp_lst.mp r
    exact .inl ⟨p, rfl, ⟨xs, SqL.of (S1.bh _ _ h1)⟩, q _ B1 H1 b1 S1 (walk_list h1 h2)⟩
theorem ei_frl (h : Ev K te ρ (.frl ds) ρ1) : EvI K (iSeq K te) ρ ds ρ1 := fun F B0 B σ H S R q =>
  h F B0 B σ H S _ fun v B1 H1 b1 S1 r => by
    obtain ⟨p, xs, rfl, h1, h2⟩ := rp_frl.mp r
    exact .inl ⟨p, rfl, ⟨xs, Same.sql S1.bh h1⟩, q _ B1 H1 b1 S1 (walk_frl h1 h2)⟩
theorem ei_tup (h : Ev K te ρ (.tup ds) ρ1) : EvI K (iSeq K te) ρ ds ρ1 := fun F B0 B σ H S R q =>
  h F B0 B σ H S _ fun v B1 H1 b1 S1 r => by
    obtain ⟨p, xs, rfl, h1, h2⟩ := rp_tup.mp r
    exact .inr ⟨p, rfl, ⟨xs, SqT.of (S1.bh _ _ h1)⟩, q _ B1 H1 b1 S1 (walk_tup (SqT.of h1) h2)⟩
theorem ei_rng1 {tr : TA} (h : EvA K tr ρ [.int j] ρ1) (h1 : -(2 ^ 62) ≤ j) (h2 : j < 2 ^ 62) : EvI K (iRng1 tr) ρ (rgD 0 j.toNat) ρ1 := fun F B0 B σ H S R q =>
  h F B0 B σ H S _ fun v B1 H1 b1 S1 r => by
    obtain ⟨x, rfl, r1⟩ := r.one
    rw [rp_int.mp r1]
    exact ⟨j, rfl, h1, h2, q _ B1 H1 b1 S1 walk_rng⟩
theorem ei_rng2 {tr : TA} (h : EvA K tr ρ [.int i, .int j] ρ1) (hb : -(2 ^ 62) ≤ i ∧ i < 2 ^ 62 ∧ -(2 ^ 62) ≤ j ∧ j < 2 ^ 62) : EvI K (iRng2 tr) ρ (rgD i (j - i).toNat) ρ1 := fun F B0 B σ H S R q =>
  h F B0 B σ H S _ fun v B1 H1 b1 S1 r => by
    obtain ⟨x, y, rfl, r1, r2⟩ := r.two
    rw [rp_int.mp r1, rp_int.mp r2]
    exact ⟨i, j, rfl, hb, q _ B1 H1 b1 S1 walk_rng⟩
/-! ### for -/
theorem St.rebase {B1 B2 : Hp} {σ' : L2.St} {ρ' : Env} (S : St K F B0 B σ H ρ) (S2 : St K F B B2 σ' H' ρ') : St K F B0 B2 σ' H' ρ' :=
  ⟨S2.fr, S.b0.trans S2.b0, S2.bh, fun a q => by
    rcases S2.new a q with r | r
    · exact S.new a r
    · exact .inr r, S2.dat, S2.own, S2.dist, S2.len⟩
theorem St.base (S : St K F B0 B σ H ρ) : St K F B B σ H ρ := ⟨S.fr, Same.refl _, S.bh, fun _ q => .inl q, S.dat, S.own, S.dist, S.len⟩
theorem sx_for {wi : TI} {tb : TS} (hi : EvI K wi ρ ds ρ1) (Pv : Nat → Env → Prop) (h0 : Pv 0 ρ1)
    (hs : ∀ i d ρ', ds[i]? = some d → Pv i ρ' → Gx K g js d ρ' fun ρ2 => Sx K tb ρ2 { nx := Pv (i + 1), rt := P.rt, bk := P.nx, ct := Pv (i + 1), rn := P.rn }) (hd : ∀ ρ', Pv ds.length ρ' → P.nx ρ') : Sx K (tFor wi g tb) ρ P := fun F B0 B σ H S E q1 q2 q3 q4 q5 =>
  hi F B0 B σ H S _ fun J B1 H1 b1 S1 W => by
    refine ⟨fun i m σ H => m = ds.length - i ∧ i ≤ ds.length ∧ ∃ ρ' B', St K F B1 B' σ H ρ' ∧ Pv i ρ', ⟨_, rfl, Nat.zero_le _, ρ1, B1, S1.base, h0⟩, ?_⟩
    rintro i m σ' H2 ⟨rfl, hi, ρ', B2, S2, p⟩
    have sH : Same B1 H2 := S2.b0.trans S2.bh
    by_cases hlt : i < ds.length
    · refine .inr ⟨W.go i H2 sH hlt, fun σ H => i + 1 ≤ ds.length ∧ ∃ ρ' B', St K F B1 B' σ H ρ' ∧ Pv (i + 1) ρ', fun σ3 H3 z => ⟨ds.length - (i + 1), by omega, rfl, z⟩, fun x H3 y => ?_⟩
      obtain ⟨B3, d, gr, e1, e2⟩ := W.yld i H2 x H3 B2 S2.b0 S2.bh hlt y
      have S3 := S2.grow gr
      refine hs i d ρ' e1 p F B1 B3 σ' H3 S3 x e2 _ fun ρ4 σ4 S4 p4 _ => ?_
      exact p4 F B1 B3 σ4 H3 S4 _ (fun ρ5 B5 σ5 H5 S5 p5 => ⟨hlt, ρ5, B5, S5, p5⟩) (fun d v ρ5 B5 σ5 H5 S5 r p5 => q2 d v ρ5 B5 σ5 H5 (S1.rebase (B1 := B1) S5) r p5)
        (fun ρ5 B5 σ5 H5 S5 p5 => q1 ρ5 B5 σ5 H5 (S1.rebase (B1 := B1) S5) p5) (fun ρ5 B5 σ5 H5 S5 p5 => ⟨hlt, ρ5, B5, S5, p5⟩) (fun d s ρ5 B5 σ5 H5 S5 f5 p5 => q5 d s ρ5 B5 σ5 H5 (S1.rebase (B1 := B1) S5) f5 p5)
    · have e : i = ds.length := by omega
      subst e
      exact .inl ⟨W.stop H2 sH, q1 ρ' B2 σ' H2 (S1.rebase (B1 := B1) S2) (hd ρ' p)⟩
/-- the slots by the turn -/
theorem sx_forW {wi : TI} {tb : TS} (hi : EvI K wi ρ ds ρ1) (ρs : Nat → Env) (h0 : Wk ρ1 (ρs 0))
    (hs : ∀ i d, ds[i]? = some d → Gx K g js d (ρs i) fun ρ2 => Sx K tb ρ2 { nx := fun ρ' => Wk ρ' (ρs (i + 1)), rt := P.rt, bk := P.nx, ct := fun ρ' => Wk ρ' (ρs (i + 1)), rn := P.rn }) (hd : Sx K tNext (ρs ds.length) P) : Sx K (tFor wi g tb) ρ P := by
  refine fun F B0 B σ H S E q1 q2 q3 q4 q5 => hi F B0 B σ H S _ fun J B1 H1 b1 S1 W => ?_
  obtain ⟨B1', b1', S1'⟩ := S1.weak h0
  refine ⟨fun i m σ H => m = ds.length - i ∧ i ≤ ds.length ∧ ∃ B', Same B1 B' ∧ St K F B0 B' σ H (ρs i), ⟨_, rfl, Nat.zero_le _, B1', b1', S1'⟩, ?_⟩
  rintro i m σ' H2 ⟨rfl, hi, B2, b2, S2⟩
  have sH : Same B1 H2 := b2.trans S2.bh
  by_cases hlt : i < ds.length
  · refine .inr ⟨W.go i H2 sH hlt, fun σ H => i + 1 ≤ ds.length ∧ ∃ B', Same B1 B' ∧ St K F B0 B' σ H (ρs (i + 1)), fun σ3 H3 z => ⟨ds.length - (i + 1), by omega, rfl, z⟩, fun x H3 y => ?_⟩
    obtain ⟨B3, d, gr, e1, e2⟩ := W.yld i H2 x H3 B2 b2 S2.bh hlt y
    have S3 := (S2.grow gr).base
    refine hs i d e1 F B3 B3 σ' H3 S3 x e2 _ fun ρ4 σ4 S4 p4 _ => ?_
    have out : ∀ {ρ5 B5 σ5 H5}, St K F B3 B5 σ5 H5 ρ5 → Wk ρ5 (ρs (i + 1)) → i + 1 ≤ ds.length ∧ ∃ B', Same B1 B' ∧ St K F B0 B' σ5 H5 (ρs (i + 1)) := fun {ρ5 B5 σ5 H5} S5 w5 => by
      obtain ⟨B6, b6, S6⟩ := ((S2.grow gr).rebase (B1 := B1) S5).weak w5
      exact ⟨hlt, B6, ((b2.trans gr.bb).trans S5.b0).trans b6, S6⟩
    exact p4 F B3 B3 σ4 H3 S4 _ (fun ρ5 B5 σ5 H5 S5 p5 => out S5 p5) (fun d v ρ5 B5 σ5 H5 S5 r p5 => q2 d v ρ5 B5 σ5 H5 ((S2.grow gr).rebase (B1 := B1) S5) r p5)
      (fun ρ5 B5 σ5 H5 S5 p5 => q1 ρ5 B5 σ5 H5 ((S2.grow gr).rebase (B1 := B1) S5) p5) (fun ρ5 B5 σ5 H5 S5 p5 => out S5 p5) (fun d s ρ5 B5 σ5 H5 S5 f5 p5 => q5 d s ρ5 B5 σ5 H5 ((S2.grow gr).rebase (B1 := B1) S5) f5 p5)
  · have e : i = ds.length := by omega
    subst e
    exact .inl ⟨W.stop H2 sH, hd F B0 B2 σ' H2 S2 E q1 q2 q3 q4 q5⟩
/-! ### while -/
theorem sx_while {tb : TS} (I : Nat → Env → Prop) (m0 : Nat) (h0 : I m0 ρ)
    (hs : ∀ m ρ', I m ρ' → ∃ x ρ1, EvT K tt ρ' x ρ1 ∧ (x = true → Sx K tb ρ1 { nx := fun ρ2 => ∃ m', m' < m ∧ I m' ρ2, rt := P.rt, bk := P.nx, ct := fun ρ2 => ∃ m', m' < m ∧ I m' ρ2, rn := P.rn }) ∧ (x = false → P.nx ρ1)) : Sx K (tWhile tt tb) ρ P := fun F B0 B σ H S E q1 q2 q3 q4 q5 => by
  refine ⟨fun m σ H => ∃ ρ' B', St K F B0 B' σ H ρ' ∧ I m ρ', ⟨m0, ρ, B, S, h0⟩, ?_⟩
  rintro m σ1 H1 ⟨ρ1, B1, S1, i1⟩
  obtain ⟨x, ρ2, ht, h1, h2⟩ := hs m ρ1 i1
  refine ht F B0 B1 σ1 H1 S1 _ fun B2 H2 b2 S2 => ?_
  cases x with
  | true =>
    show ∃ N, _
    refine ⟨fun σ H => ∃ m', m' < m ∧ ∃ ρ' B', St K F B0 B' σ H ρ' ∧ I m' ρ', fun σ' H' z => z, ?_⟩
    exact h1 rfl F B0 B2 σ1 H2 S2 _ (fun ρ3 B3 σ3 H3 S3 ⟨m', hm, i3⟩ => ⟨m', hm, ρ3, B3, S3, i3⟩) q2 (fun ρ3 B3 σ3 H3 S3 p => q1 ρ3 B3 σ3 H3 S3 p) (fun ρ3 B3 σ3 H3 S3 ⟨m', hm, i3⟩ => ⟨m', hm, ρ3, B3, S3, i3⟩) q5
  | false => exact q1 ρ2 B2 σ1 H2 S2 (h2 rfl)
end
end DL

namespace DL
open PySem L2
section
variable {K : Fg} {F : Fr} {B0 B B' H H' : Hp} {σ σ' : L2.St} {ρ ρ' ρ1 ρ2 ρ3 : Env} {te ta tb tc : TE} {t u tw : TS} {tt : TT} {a b c d e : D} {i j k : Int} {n m : Nat} {ds es : List D} {P P' : Post} {g g1 : TG} {gs : TGs} {js js' js1 : List Nat} {N N' : Env → Prop}
/-! ### comprehensions -/
theorem wipe_wipe {vs : List Nat} : wipe (wipe σ vs) vs = wipe σ vs := by
  apply List.ext_getElem?
  intro j
  rw [wipe_get, wipe_get, wipe_length]
  by_cases q : j ∈ vs ∧ j < σ.length
  · rw [if_pos q, if_pos q]
  · rw [if_neg q, if_neg q]
def Clr (ρ : Env) (vs : List Nat) : Prop := ∀ j ∈ vs, ∀ x, ρ[j]? ≠ some (some x)
def clrB (ρ : Env) (vs : List Nat) : Bool := vs.all fun j => match ρ[j]? with | some (some _) => false | _ => true
theorem clr_of {vs : List Nat} (h : clrB ρ vs = true) : Clr ρ vs := fun j hj x e => by
  have := List.all_eq_true.mp h j hj
  rw [e] at this
  cases this
theorem wipe_at {vs : List Nat} {j : Nat} (h : j ∉ vs) : (wipe σ vs)[j]? = σ[j]? := by
  rw [wipe_get, if_neg fun z => h z.1]
theorem St.side {p : Addr} {o : HO} (S : St K F B0 B σ H ρ) (h1 : B p = none) (h2 : F.F p = none) (h3 : ∀ (i : Nat) w e, ρ[i]? = some (some (.own w e)) → σ[i]? ≠ some (some (.ref p))) : St K F B0 B σ (upd H p o) ρ := by
  refine ⟨fun q x z => ?_, S.b0, fun q x z => ?_, S.new, S.dat, fun i w d e => ?_, S.dist, S.len⟩
  · rw [upd_ne (ne_of_none z h2)]; exact S.fr _ _ z
  · rw [upd_ne (ne_of_none z h1)]; exact S.bh _ _ z
  · obtain ⟨q, x, e1, e2, e3, e4, e5, e6⟩ := S.own i w d e
    have hq : q ≠ p := fun y => by subst y; exact h3 i w d e e1
    exact ⟨q, x, e1, by rw [upd_ne hq]; exact e2, e3, e4, e5, e6⟩
/-- into a block: the thing at p is kept from it -/
theorem St.block {p : Addr} {o : HO} {vs : List Nat} (S : St K F B0 B σ H ρ) (hc : Clr ρ vs) (hp : H p = some o) (h3 : ∀ (i : Nat) w e, ρ[i]? = some (some (.own w e)) → σ[i]? ≠ some (some (.ref p))) : St K ⟨upd F.F p o, F.z⟩ B B (wipe σ vs) H ρ := by
  have at_ : ∀ (i : Nat) (x : SV), ρ[i]? = some (some x) → (wipe σ vs)[i]? = σ[i]? := fun i x e => wipe_at fun z => hc i z x e
  refine ⟨fun q x z => ?_, Same.refl _, S.bh, fun q z => .inl z, fun i d e => ?_, fun i w d e => ?_, fun i j w w' d e q h1 h2 h3 h4 => ?_, by rw [wipe_length]; exact S.len⟩
  · have z : upd F.F p o q = some x := z
    by_cases hq : q = p
    · subst hq; rw [upd_same] at z; rw [hp]; exact z
    · rw [upd_ne hq] at z; exact S.fr _ _ z
  · rw [at_ i _ e]; exact S.dat i d e
  · rw [at_ i _ e]
    obtain ⟨q, x, e1, e2, e3, e4, e5, e6⟩ := S.own i w d e
    have hq : q ≠ p := fun y => by subst y; exact h3 i w d e e1
    exact ⟨q, x, e1, e2, e3, e4, by show upd F.F p o q = none; rw [upd_ne hq]; exact e5, e6⟩
  · rw [at_ i _ h1] at h3
    rw [at_ j _ h2] at h4
    exact S.dist i j w w' d e q h1 h2 h3 h4
/-- out of it -/
theorem St.unblock {p : Addr} {o : HO} {vs : List Nat} {H2 B2 : Hp} (S : St K F B0 B σ H ρ) (hF : F.F p = none) (hB : B p = none) (hw : wipe σ' vs = wipe σ vs) (hc : Clr ρ' vs) (S2 : St K ⟨upd F.F p o, F.z⟩ B B2 σ' H2 ρ') :
    St K F B0 B2 σ H2 ρ' ∧ B2 p = none ∧ H2 p = some o ∧ ∀ (i : Nat) w e, ρ'[i]? = some (some (.own w e)) → σ[i]? ≠ some (some (.ref p)) := by
  have ff : Same F.F (upd F.F p o) := same_upd hF
  have at_ : ∀ (i : Nat) (x : SV), ρ'[i]? = some (some x) → σ'[i]? = σ[i]? := fun i x e => by
    have hi : i ∉ vs := fun z => hc i z x e
    rw [← wipe_at (σ := σ') hi, hw, wipe_at hi]
  refine ⟨⟨ff.trans S2.fr, S.b0.trans S2.b0, S2.bh, fun a q => ?_, fun i d e => ?_, fun i w d e => ?_, fun i j w w' d e q h1 h2 h3 h4 => ?_, ?_⟩, ?_, S2.fr _ _ upd_same, fun i w e z y => ?_⟩
  · rcases S2.new a q with r | r
    · exact S.new a r
    · exact .inr (ff.free r)
  · rw [← at_ i _ e]; exact S2.dat i d e
  · rw [← at_ i _ e]
    obtain ⟨q, x, e1, e2, e3, e4, e5, e6⟩ := S2.own i w d e
    exact ⟨q, x, e1, e2, e3, e4, ff.free e5, e6⟩
  · rw [← at_ i _ h1] at h3
    rw [← at_ j _ h2] at h4
    exact S2.dist i j w w' d e q h1 h2 h3 h4
  · have := S2.len
    rw [this, ← wipe_length σ' vs, hw, wipe_length]
  · cases q : B2 p with
    | none => rfl
    | some x =>
      rcases S2.new p (by rw [q]; intro z; cases z) with r | r
      · exact absurd hB r
      · have r : upd F.F p o p = none := r
        rw [upd_same] at r; cases r
  · rw [← at_ i _ z] at y
    obtain ⟨q, x, e1, _, _, _, e5, _⟩ := S2.own i w e z
    rw [y] at e1; cases e1
    have e5 : upd F.F p o p = none := e5
    rw [upd_same] at e5; cases e5

/-- what is known between two turns: the new list stands at p -/
def LcI (K : Fg) (F : Fr) (B0 B1 : Hp) (σ : L2.St) (p : Addr) (ρ : Env) (acc : List D) (H : Hp) : Prop :=
  ∃ B xs, Same B1 B ∧ St K F B0 B σ H ρ ∧ H p = some (.lst xs) ∧ RpL K B acc xs ∧ B p = none ∧ ∀ (i : Nat) w e, ρ[i]? = some (some (.own w e)) → σ[i]? ≠ some (some (.ref p))
/-- the turn's end -/
theorem LcI.turn {B1 B3 B6 H3 H6 : Hp} {p : Addr} {vs : List Nat} {xs : List V} (S3 : St K F B0 B3 σ H3 ρ) (b3 : Same B1 B3) (hF : F.F p = none) (hB : B3 p = none) (hw : wipe σ' vs = wipe σ vs) (w : Wk ρ2 ρ') (hc : Clr ρ' vs)
    (S6 : St K ⟨upd F.F p (.lst xs), F.z⟩ B3 B6 σ' H6 ρ2) : ∃ B7, Same B1 B7 ∧ Same B6 B7 ∧ St K F B0 B7 σ H6 ρ' ∧ B7 p = none ∧ H6 p = some (.lst xs) ∧ ∀ (i : Nat) w e, ρ'[i]? = some (some (.own w e)) → σ[i]? ≠ some (some (.ref p)) := by
  obtain ⟨B7, b7, S7⟩ := S6.weak w
  obtain ⟨S8, h1, h2, h3⟩ := S3.unblock hF hB hw hc S7
  exact ⟨B7, b3.trans S7.b0, b7, S8, h1, h2, h3⟩
theorem en_lc {wi : TI} {vs : List Nat} (ρs : Nat → Env) (ac : Nat → List D) (hi : EvI K wi ρ ds ρ1) (h0 : Wk ρ1 (ρs 0)) (a0 : ac 0 = []) (hc : ∀ i, Clr (ρs i) vs) (hjs : ∀ j ∈ js, j ∈ vs) (hz : ds.length ≤ sizeLine)
    (hs : ∀ i d, ds[i]? = some d → Gx K g js d (ρs i) fun ρ2 => ∃ b ρ3, EvT K tt ρ2 b ρ3 ∧ (b = true → ∃ y ρ4, Ev K te ρ3 y ρ4 ∧ Wk ρ4 (ρs (i + 1)) ∧ ac (i + 1) = ac i ++ [y]) ∧ (b = false → Wk ρ3 (ρs (i + 1)) ∧ ac (i + 1) = ac i)) :
    EvN K (tLc wi g tt te vs) ρ (.lst (ac ds.length)) (ρs ds.length) := fun F B0 B σ H S Q q =>
  hi F B0 B σ H S _ fun J B1 H1 b1 S1 W p hp => by
    have hF : F.F p = none := S1.fr.free hp
    obtain ⟨B1', b1', S1'⟩ := S1.weak h0
    have un0 : ∀ (i : Nat) w e, (ρs 0)[i]? = some (some (.own w e)) → σ[i]? ≠ some (some (.ref p)) := fun i w e z y => by
      obtain ⟨r, x, e1, e2, _⟩ := S1'.own i w e z
      rw [y] at e1; cases e1
      rw [hp] at e2; cases e2
    have hB1 : B1' p = none := none_of_same S1'.bh hp
    refine ⟨fun i m H => m = ds.length - i ∧ i ≤ ds.length ∧ (ac i).length ≤ i ∧ LcI K F B0 B1 σ p (ρs i) (ac i) H, ⟨_, rfl, Nat.zero_le _, by rw [a0]; exact Nat.le_refl _, B1', [], b1', S1'.side hB1 hF un0, upd_same, by rw [a0]; exact .nil, hB1, un0⟩, ?_⟩
    rintro i m H2 ⟨rfl, hi, al, B2, xs, b2, S2, hx, hr, hB2, un2⟩
    have sH : Same B1 H2 := b2.trans S2.bh
    by_cases hlt : i < ds.length
    · refine .inr ⟨W.go i H2 sH hlt, fun H => i + 1 ≤ ds.length ∧ (ac (i + 1)).length ≤ i + 1 ∧ LcI K F B0 B1 σ p (ρs (i + 1)) (ac (i + 1)) H, fun H3 z => ⟨ds.length - (i + 1), by omega, rfl, z⟩, fun x H3 y => ?_⟩
      obtain ⟨B3, d, gr, e1, e2⟩ := W.yld i H2 x H3 B2 b2 S2.bh hlt y
      have S3 := S2.grow gr
      have hx3 := gr.hh _ _ hx
      have hB3 : B3 p = none := by
        cases z : B3 p with
        | none => rfl
        | some u =>
          rcases gr.new p (by rw [z]; intro r; cases r) with r | r
          · exact absurd hB2 r
          · rw [hx] at r; cases r
      have S3w := S3.block (hc i) hx3 un2
      refine hs i d e1 _ _ _ _ H3 S3w x e2 _ fun ρ4 σ4 S4 ⟨b, ρ5, ht, hT, hN⟩ hw => ?_
      have hw4 : wipe σ4 vs = wipe σ vs := by rw [hw vs hjs, wipe_wipe]
      refine ⟨hw4, ht _ _ _ _ H3 S4 _ fun B5 H5 b5 S5 => ?_⟩
      cases b with
      | true =>
        obtain ⟨yd, ρ6, he, wk, ea⟩ := hT rfl
        refine he _ _ _ _ H5 S5 _ fun v B6 H6 b6 S6 r6 => ?_
        obtain ⟨B7, c1, c2, S7, c3, c4, c5⟩ := LcI.turn S3 (b2.trans gr.bb) hF hB3 hw4 wk (hc (i + 1)) S6
        refine ⟨xs, c4, Nat.lt_of_lt_of_le (by rw [← hr.len]; omega) hz, hlt, by rw [ea, List.length_append, List.length_singleton]; omega, B7, xs ++ [v], c1, S7.side c3 hF c5, upd_same, ?_, c3, c5⟩
        rw [ea]
        exact (((hr.mono gr.bb).mono S6.b0).mono c2).append (.cons (r6.mono c2) .nil)
      | false =>
        obtain ⟨wk, ea⟩ := hN rfl
        obtain ⟨B7, c1, c2, S7, c3, c4, c5⟩ := LcI.turn S3 (b2.trans gr.bb) hF hB3 hw4 wk (hc (i + 1)) S5
        refine ⟨hlt, by rw [ea]; omega, B7, xs, c1, S7, c4, ?_, c3, c5⟩
        rw [ea]
        exact ((hr.mono gr.bb).mono S5.b0).mono c2
    · have e : i = ds.length := by omega
      subst e
      exact .inl ⟨W.stop H2 sH, q p B2 H2 (b1.trans b2) S2 ⟨⟨_, hx, ho_lst hr⟩, hB2, hF, un2⟩⟩
/-- the slots stay; each item gives one -/
theorem en_map {wi : TI} {vs : List Nat} (f : D → D) (hi : EvI K wi ρ ds ρ1) (hc : clrB ρ1 vs = true) (hjs : ∀ j ∈ js, j ∈ vs) (hz : ds.length ≤ sizeLine)
    (hs : ∀ d, d ∈ ds → Gx K g js d ρ1 fun ρ2 => ∃ ρ4, Ev K te ρ2 (f d) ρ4 ∧ Wk ρ4 ρ1) : EvN K (tLc wi g tYes te vs) ρ (.lst (ds.map f)) ρ1 := by
  have h := en_lc (K := K) (g := g) (tt := tYes) (te := te) (vs := vs) (fun _ => ρ1) (fun i => (ds.take i).map f) hi (Wk.refl _) rfl (fun _ => clr_of hc) hjs hz (fun i d e => by
    have hd : d ∈ ds := List.mem_of_getElem? e
    intro F B0 B σ H S v r Q q
    refine hs d hd F B0 B σ H S v r Q fun ρ2 σ2 S2 ⟨ρ4, h1, h2⟩ hw => q ρ2 σ2 S2 ⟨true, ρ2, fun F B0 B σ H S Q q => q B H (Same.refl _) S, fun _ => ⟨f d, ρ4, h1, h2, ?_⟩, fun z => nomatch z⟩ hw
    rw [List.take_add_one, e, List.map_append]
    rfl)
  rw [List.take_length] at h
  exact h
/-- .. each item that a test lets by gives one -/
theorem en_filter {wi : TI} {vs : List Nat} (f : D → D) (p : D → Bool) (hi : EvI K wi ρ ds ρ1) (hc : clrB ρ1 vs = true) (hjs : ∀ j ∈ js, j ∈ vs) (hz : ds.length ≤ sizeLine)
    (hs : ∀ d, d ∈ ds → Gx K g js d ρ1 fun ρ2 => EvT K tt ρ2 (p d) ρ2 ∧ Wk ρ2 ρ1 ∧ (p d = true → ∃ ρ4, Ev K te ρ2 (f d) ρ4 ∧ Wk ρ4 ρ1)) : EvN K (tLc wi g tt te vs) ρ (.lst ((ds.filter p).map f)) ρ1 := by
  have h := en_lc (K := K) (g := g) (tt := tt) (te := te) (vs := vs) (fun _ => ρ1) (fun i => ((ds.take i).filter p).map f) hi (Wk.refl _) rfl (fun _ => clr_of hc) hjs hz (fun i d e => by
    have hd : d ∈ ds := List.mem_of_getElem? e
    intro F B0 B σ H S v r Q q
    refine hs d hd F B0 B σ H S v r Q fun ρ2 σ2 S2 ⟨h1, h2, h3⟩ hw => q ρ2 σ2 S2 ⟨p d, ρ2, h1, fun z => ?_, fun z => ⟨h2, ?_⟩⟩ hw
    · obtain ⟨ρ4, h4, h5⟩ := h3 z
      refine ⟨f d, ρ4, h4, h5, ?_⟩
      rw [List.take_add_one, e, List.filter_append, List.map_append]
      simp [z]
    · rw [List.take_add_one, e, List.filter_append, List.map_append]
      simp [z])
  rw [List.take_length] at h
  exact h
end
end DL

namespace DL
open PySem L2
section
variable {K : Fg} {F : Fr} {B0 B B' H H' : Hp} {σ σ' : L2.St} {ρ ρ' ρ1 ρ2 ρ3 : Env} {te ta tb tc : TE} {t u tw : TS} {tt : TT} {a b c d e : D} {i j k : Int} {n m : Nat} {ds es : List D} {P P' : Post} {g g1 : TG} {gs : TGs} {js js' js1 : List Nat} {N N' : Env → Prop}
/-! ### two fors -/
theorem St.dropF {p : Addr} {o : HO} {H2 B2 : Hp} (hF : F.F p = none) (hB : B p = none) (S2 : St K ⟨upd F.F p o, F.z⟩ B B2 σ' H2 ρ') :
    St K F B B2 σ' H2 ρ' ∧ B2 p = none ∧ H2 p = some o ∧ ∀ (i : Nat) w e, ρ'[i]? = some (some (.own w e)) → σ'[i]? ≠ some (some (.ref p)) := by
  have ff : Same F.F (upd F.F p o) := same_upd hF
  refine ⟨⟨ff.trans S2.fr, S2.b0, S2.bh, fun a q => ?_, S2.dat, fun i w d e => ?_, S2.dist, S2.len⟩, ?_, S2.fr _ _ upd_same, fun i w e z y => ?_⟩
  · rcases S2.new a q with r | r
    · exact .inl r
    · exact .inr (ff.free r)
  · obtain ⟨q, x, e1, e2, e3, e4, e5, e6⟩ := S2.own i w d e
    exact ⟨q, x, e1, e2, e3, e4, ff.free e5, e6⟩
  · cases q : B2 p with
    | none => rfl
    | some x =>
      rcases S2.new p (by rw [q]; intro z; cases z) with r | r
      · exact absurd hB r
      · have r : upd F.F p o p = none := r
        rw [upd_same] at r; cases r
  · obtain ⟨q, x, e1, _, _, _, e5, _⟩ := S2.own i w e z
    rw [y] at e1; cases e1
    have e5 : upd F.F p o p = none := e5
    rw [upd_same] at e5; cases e5
theorem St.unwipe {vs : List Nat} {H2 B2 : Hp} (S : St K F B0 B σ H ρ) (hw : wipe σ' vs = wipe σ vs) (hc : Clr ρ' vs) (S2 : St K F B B2 σ' H2 ρ') :
    St K F B0 B2 σ H2 ρ' ∧ ∀ (p : Addr), (∀ (i : Nat) w e, ρ'[i]? = some (some (.own w e)) → σ'[i]? ≠ some (some (.ref p))) → ∀ (i : Nat) w e, ρ'[i]? = some (some (.own w e)) → σ[i]? ≠ some (some (.ref p)) := by
  have at_ : ∀ (i : Nat) (x : SV), ρ'[i]? = some (some x) → σ'[i]? = σ[i]? := fun i x e => by
    have hi : i ∉ vs := fun z => hc i z x e
    rw [← wipe_at (σ := σ') hi, hw, wipe_at hi]
  refine ⟨⟨S2.fr, S.b0.trans S2.b0, S2.bh, fun a q => ?_, fun i d e => ?_, fun i w d e => ?_, fun i j w w' d e q h1 h2 h3 h4 => ?_, ?_⟩, fun p h i w e z => ?_⟩
  · rcases S2.new a q with r | r
    · exact S.new a r
    · exact .inr r
  · rw [← at_ i _ e]; exact S2.dat i d e
  · rw [← at_ i _ e]; exact S2.own i w d e
  · rw [← at_ i _ h1] at h3
    rw [← at_ j _ h2] at h4
    exact S2.dist i j w w' d e q h1 h2 h3 h4
  · have := S2.len
    rw [this, ← wipe_length σ' vs, hw, wipe_length]
  · rw [← at_ i _ z]; exact h i w e z
theorem ett_yes : EvT K tYes ρ true ρ := fun F B0 B σ H S Q q => q B H (Same.refl _) S
theorem flatMap_take {α β : Type} {f : α → List β} {l : List α} {i : Nat} {x : α} (e : l[i]? = some x) : (l.take (i + 1)).flatMap f = (l.take i).flatMap f ++ f x := by
  rw [List.take_add_one, e, List.flatMap_append]
  simp
theorem en_flat {wi wi1 : TI} {vs vs1 : List Nat} (es : D → List D) (f : D → D → D) (hi : EvI K wi ρ ds ρ1) (hc : clrB ρ1 vs = true) (hjs : ∀ j ∈ js, j ∈ vs) (hjs1 : ∀ j ∈ js1, j ∈ vs1) (hz : (ds.flatMap fun d => (es d).map (f d)).length ≤ sizeLine)
    (hs : ∀ d, d ∈ ds → Gx K g js d ρ1 fun ρ2 => ∃ ρ3, EvI K wi1 ρ2 (es d) ρ3 ∧ Clr ρ3 vs1 ∧ Wk ρ3 ρ1 ∧ ∀ e, e ∈ es d → Gx K g1 js1 e ρ3 fun ρ4 => ∃ ρ5, Ev K te ρ4 (f d e) ρ5 ∧ Wk ρ5 ρ3) :
    EvN K (tLc2 wi g tYes wi1 g1 tYes te vs vs1) ρ (.lst (ds.flatMap fun d => (es d).map (f d))) ρ1 := fun F B0 B σ H S Q q =>
  hi F B0 B σ H S _ fun J B1 H1 b1 S1 W p hp => by
    have hcl := clr_of hc
    have hF : F.F p = none := S1.fr.free hp
    have un0 : ∀ (i : Nat) w e, ρ1[i]? = some (some (.own w e)) → σ[i]? ≠ some (some (.ref p)) := fun i w e z y => by
      obtain ⟨r, x, e1, e2, _⟩ := S1.own i w e z
      rw [y] at e1; cases e1
      rw [hp] at e2; cases e2
    have hB1 : B1 p = none := none_of_same S1.bh hp
    have bnd : ∀ (A : List D) (C : List D), ds.flatMap (fun d => (es d).map (f d)) = A ++ C → A.length ≤ sizeLine := fun A C e => by
      rw [e, List.length_append] at hz; omega
    refine ⟨fun i m H => m = ds.length - i ∧ i ≤ ds.length ∧ LcI K F B0 B1 σ p ρ1 ((ds.take i).flatMap fun d => (es d).map (f d)) H, ⟨_, rfl, Nat.zero_le _, B1, [], Same.refl _, S1.side hB1 hF un0, upd_same, .nil, hB1, un0⟩, ?_⟩
    rintro i m H2 ⟨rfl, hi, B2, xs, b2, S2, hx, hr, hB2, un2⟩
    have sH : Same B1 H2 := b2.trans S2.bh
    by_cases hlt : i < ds.length
    · refine .inr ⟨W.go i H2 sH hlt, fun H => i + 1 ≤ ds.length ∧ LcI K F B0 B1 σ p ρ1 ((ds.take (i + 1)).flatMap fun d => (es d).map (f d)) H, fun H3 z => ⟨ds.length - (i + 1), by omega, rfl, z⟩, fun x H3 y => ?_⟩
      obtain ⟨B3, d, gr, e1, e2⟩ := W.yld i H2 x H3 B2 b2 S2.bh hlt y
      have S3 := S2.grow gr
      have hx3 := gr.hh _ _ hx
      have hB3 : B3 p = none := by
        cases z : B3 p with
        | none => rfl
        | some u =>
          rcases gr.new p (by rw [z]; intro r; cases r) with r | r
          · exact absurd hB2 r
          · rw [hx] at r; cases r
      have S3w := S3.block hcl hx3 un2
      have hd : d ∈ ds := List.mem_of_getElem? e1
      refine hs d hd _ _ _ _ H3 S3w x e2 _ fun ρ4 σ4 S4 ⟨ρ5, hin, hc1, hwk, hel⟩ hw => ?_
      have hw4 : wipe σ4 vs = wipe σ vs := by rw [hw vs hjs, wipe_wipe]
      refine ⟨hw4, ?_⟩
      show wi1 σ4 H3 _
      refine hin _ _ _ _ H3 S4 _ fun J1 B5 H5 b5 S5 W1 => ?_
      obtain ⟨S5', hB5, hx5, un5⟩ := St.dropF hF hB3 S5
      -- the inner loop
      refine ⟨fun j m H => m = (es d).length - j ∧ j ≤ (es d).length ∧ LcI K F B3 B5 σ4 p ρ5 (((ds.take i).flatMap fun d => (es d).map (f d)) ++ ((es d).take j).map (f d)) H,
        ⟨_, rfl, Nat.zero_le _, B5, xs, Same.refl _, S5', hx5, by rw [List.take_zero, List.map_nil, List.append_nil]; exact (hr.mono gr.bb).mono S5'.b0, hB5, un5⟩, ?_⟩
      rintro j m H6 ⟨rfl, hj, B6, xs6, b6, S6, hx6, hr6, hB6, un6⟩
      have sH6 : Same B5 H6 := b6.trans S6.bh
      by_cases hlj : j < (es d).length
      · refine .inr ⟨W1.go j H6 sH6 hlj, fun H => j + 1 ≤ (es d).length ∧ LcI K F B3 B5 σ4 p ρ5 (((ds.take i).flatMap fun d => (es d).map (f d)) ++ ((es d).take (j + 1)).map (f d)) H, fun H7 z => ⟨(es d).length - (j + 1), by omega, rfl, z⟩, fun y H7 yy => ?_⟩
        obtain ⟨B7, e', gr7, g1', g2'⟩ := W1.yld j H6 y H7 B6 b6 S6.bh hlj yy
        have S7 := S6.grow gr7
        have hx7 := gr7.hh _ _ hx6
        have hB7 : B7 p = none := by
          cases z : B7 p with
          | none => rfl
          | some u =>
            rcases gr7.new p (by rw [z]; intro r; cases r) with r | r
            · exact absurd hB6 r
            · rw [hx6] at r; cases r
        have S7w := S7.block hc1 hx7 un6
        have he' : e' ∈ es d := List.mem_of_getElem? g1'
        refine hel e' he' _ _ _ _ H7 S7w y g2' _ fun ρ8 σ8 S8 ⟨ρ9, hev, hwk9⟩ hw8 => ?_
        have hw8' : wipe σ8 vs1 = wipe σ4 vs1 := by rw [hw8 vs1 hjs1, wipe_wipe]
        refine ⟨hw8', ?_⟩
        show te σ8 H7 _
        refine hev _ _ _ _ H7 S8 _ fun v B9 H9 b9 S9 r9 => ?_
        obtain ⟨B10, c1, c2, S10, c3, c4, c5⟩ := LcI.turn S7 (b6.trans gr7.bb) hF hB7 hw8' hwk9 hc1 S9
        have eacc : ((ds.take i).flatMap fun d => (es d).map (f d)) ++ ((es d).take (j + 1)).map (f d) = (((ds.take i).flatMap fun d => (es d).map (f d)) ++ ((es d).take j).map (f d)) ++ [f d e'] := by
          rw [List.take_add_one, g1', List.map_append, List.append_assoc]; rfl
        refine ⟨xs6, c4, ?_, hlj, B10, xs6 ++ [v], c1, S10.side c3 hF c5, upd_same, ?_, c3, c5⟩
        · rw [← hr6.len]
          have := bnd (((ds.take i).flatMap fun d => (es d).map (f d)) ++ ((es d).take (j + 1)).map (f d)) (((es d).drop (j + 1)).map (f d) ++ (ds.drop (i + 1)).flatMap fun d => (es d).map (f d)) (by
            rw [← List.append_assoc, List.append_assoc ((ds.take i).flatMap _), ← List.map_append, List.take_append_drop, ← flatMap_take e1, ← List.flatMap_append, List.take_append_drop])
          rw [eacc, List.length_append, List.length_singleton] at this
          exact this
        · rw [eacc]
          exact (((hr6.mono gr7.bb).mono S9.b0).mono c2).append (.cons (r9.mono c2) .nil)
      · have ej : j = (es d).length := by omega
        subst ej
        refine .inl ⟨W1.stop H6 sH6, hlt, ?_⟩
        have S6w : St K ⟨upd F.F p (.lst xs6), F.z⟩ B6 B6 σ4 H6 ρ5 := S6.block (vs := []) (fun j hj => nomatch hj) hx6 un6
        obtain ⟨B7, b7, S7w⟩ := S6w.weak hwk
        obtain ⟨S7', hB7, _, un7⟩ := St.dropF hF hB6 S7w
        obtain ⟨S8, u8⟩ := S3.unwipe hw4 hcl (S6.rebase (B1 := B6) S7')
        refine ⟨B7, xs6, (((b2.trans gr.bb).trans S6.b0).trans b7), S8, hx6, ?_, hB7, u8 p un7⟩
        rw [flatMap_take e1]
        rw [List.take_length] at hr6
        exact hr6.mono b7
    · have e : i = ds.length := by omega
      subst e
      rw [List.take_length] at hr
      exact .inl ⟨W.stop H2 sH, q p B2 H2 (b1.trans b2) S2 ⟨⟨_, hx, ho_lst hr⟩, hB2, hF, un2⟩⟩
end
end DL

namespace DL
open PySem L2
/-! ### promises -/
def spG (K : Fg) (pre : List SV → D → List SV → Prop) : Sp := fun vs H Q _ => ∃ F B svs d svs', pre svs d svs' ∧ St K F B B (vs.map some) H (svs.map some) ∧ (∀ (i : Nat) w e, svs[i]? = some (.own w e) → w = true) ∧
  ∀ v B' H', St K F B B' (vs.map some) H' (svs'.map some) → Rp K B' d v → Q v H'
/-- a new thing is handed back -/
def spGN (K : Fg) (pre : List SV → D → List SV → Prop) : Sp := fun vs H Q _ => ∃ F B svs d svs', pre svs d svs' ∧ St K F B B (vs.map some) H (svs.map some) ∧ (∀ (i : Nat) w e, svs[i]? = some (.own w e) → w = true) ∧
  ∀ p B' H', St K F B B' (vs.map some) H' (svs'.map some) → Free K F B' (vs.map some) H' (svs'.map some) d p → Q (.ref p) H'
def Keeps (svs svs' : List SV) (ρ' : Env) : Prop := svs'.length = svs.length ∧ ∀ (i : Nat) x, svs'[i]? = some x → match x with
  | .dat e => svs[i]? = some (.dat e)
  | .own w e => w = true ∧ ρ'[i]? = some (some (.own true e)) ∧ ∃ e0, svs[i]? = some (.own true e0)
/-- data in, data out -/
def spP (K : Fg) (pre : List D → D → Prop) : Sp := spG K fun svs d svs' => ∃ ds, svs = ds.map .dat ∧ svs' = svs ∧ pre ds d
/-- data in, a new thing out -/
def spN (K : Fg) (pre : List D → D → Prop) : Sp := spGN K fun svs d svs' => ∃ ds, svs = ds.map .dat ∧ svs' = svs ∧ pre ds d
/-- the first argument is changed, a new thing handed back -/
def spON (K : Fg) (pre : D → List D → D → D → Prop) : Sp := spGN K fun svs d svs' => ∃ o ds o', svs = .own true o :: ds.map .dat ∧ svs' = .own true o' :: ds.map .dat ∧ pre o ds d o'
/-- the first argument is changed -/
def spO (K : Fg) (pre : D → List D → D → D → Prop) : Sp := spG K fun svs d svs' => ∃ o ds o', svs = .own true o :: ds.map .dat ∧ svs' = .own true o' :: ds.map .dat ∧ pre o ds d o'
abbrev tail (N ps : List Str) : Env := List.replicate (N.length - ps.length) none
section
variable {K : Fg} {F : Fr} {B0 B B' H H' : Hp} {σ σ' : L2.St} {ρ ρ' ρ1 ρ2 ρ3 : Env} {te ta tb tc : TE} {t u tw : TS} {tt : TT} {a b c d e : D} {i j k : Int} {n m : Nat} {ds es dds : List D} {P P' : Post} {g g1 : TG} {gs : TGs} {js js' js1 : List Nat} {N N' : Env → Prop} {dvs : List V} {E : XK} {tr tk : TA}
theorem St.pad {m : Nat} (S : St K F B0 B σ H ρ) : St K F B0 B (σ ++ List.replicate m none) H (ρ ++ List.replicate m none) := by
  have at_ : ∀ (i : Nat) (x : SV), (ρ ++ List.replicate m none)[i]? = some (some x) → ρ[i]? = some (some x) ∧ (σ ++ List.replicate m none)[i]? = σ[i]? := fun i x e => by
    by_cases hi : i < ρ.length
    · rw [List.getElem?_append_left hi] at e
      exact ⟨e, List.getElem?_append_left (by rw [← S.len]; exact hi)⟩
    · rw [List.getElem?_append_right (by omega), List.getElem?_replicate] at e
      split at e <;> cases e
  refine ⟨S.fr, S.b0, S.bh, S.new, fun i d e => ?_, fun i w d e => ?_, fun i j w w' d e p h1 h2 h3 h4 => ?_, by simp [S.len]⟩
  · obtain ⟨e1, e2⟩ := at_ i _ e
    rw [e2]; exact S.dat i d e1
  · obtain ⟨e1, e2⟩ := at_ i _ e
    rw [e2]; exact S.own i w d e1
  · obtain ⟨e1, e2⟩ := at_ i _ h1
    obtain ⟨e3, e4⟩ := at_ j _ h2
    rw [e2] at h3
    rw [e4] at h4
    exact S.dist i j w w' d e p e1 e3 h3 h4
theorem map_at {α β : Type} {f : α → β} {l : List α} {i : Nat} {y : β} (h : (l.map f)[i]? = some y) : ∃ x, l[i]? = some x ∧ f x = y := by
  rw [List.getElem?_map] at h
  cases e : l[i]? with
  | none => rw [e] at h; cases h
  | some x => rw [e] at h; exact ⟨x, rfl, Option.some.inj h⟩
/-- behind a body: the arguments as they stand -/
theorem St.ret {vs : List V} {svs svs' : List SV} (S : St K F B B (vs.map some) H (svs.map some)) (S' : St K F B B' σ' H' ρ') (k : Keeps svs svs' ρ') : St K F B B' (vs.map some) H' (svs'.map some) := by
  obtain ⟨kl, k⟩ := k
  have own_ : ∀ (i : Nat) w e, (svs'.map some)[i]? = some (some (.own w e)) → w = true ∧ ρ'[i]? = some (some (.own true e)) ∧ ∃ e0, (svs.map some)[i]? = some (some (.own true e0)) := fun i w e h => by
    obtain ⟨x, h1, h2⟩ := map_at h
    cases h2
    obtain ⟨q1, q2, e0, q3⟩ := k i _ h1
    exact ⟨q1, q2, e0, by rw [List.getElem?_map, q3]; rfl⟩
  refine ⟨S'.fr, S'.b0, S'.bh, S'.new, fun i d e => ?_, fun i w d e => ?_, fun i j w w' d e p h1 h2 h3 h4 => ?_, ?_⟩
  · obtain ⟨x, h1, h2⟩ := map_at e
    cases h2
    have q : svs[i]? = some (.dat d) := k i _ h1
    obtain ⟨v, r1, r2⟩ := S.dat i d (by rw [List.getElem?_map, q]; rfl)
    exact ⟨v, r1, r2.mono S'.b0⟩
  · obtain ⟨rfl, q, e0, q0⟩ := own_ i w d e
    obtain ⟨p, o, e1, e2, e3, e4, e5, e6⟩ := S'.own i _ _ q
    obtain ⟨p0, o0, f1, _, _, _, _, f6⟩ := S.own i _ _ q0
    have ep : p = p0 := Option.some.inj ((e6 rfl).symm.trans (f6 rfl))
    subst ep
    exact ⟨p, o, f1, e2, e3, e4, e5, e6⟩
  · obtain ⟨_, _, e0, q0⟩ := own_ i w d h1
    obtain ⟨_, _, e0', q0'⟩ := own_ j w' e h2
    exact S.dist i j _ _ _ _ p q0 q0' h3 h4
  · have := S.len
    simp only [List.length_map] at this ⊢
    omega

theorem Free.ret {vs : List V} {svs svs' : List SV} {p : Addr} (S : St K F B B (vs.map some) H (svs.map some)) (S' : St K F B B' σ' H' ρ') (k : Keeps svs svs' ρ') (f : Free K F B' σ' H' ρ' d p) : Free K F B' (vs.map some) H' (svs'.map some) d p := by
  refine ⟨f.at_, f.nb, f.nf, fun i w e h y => ?_⟩
  obtain ⟨x, h1, h2⟩ := map_at h
  cases h2
  obtain ⟨q1, q2, e0, q3⟩ := k.2 i _ h1
  obtain ⟨p', o, e1, _, _, _, _, e6⟩ := S'.own i _ _ q2
  obtain ⟨p0, o0, f1, _, _, _, _, f6⟩ := S.own i true e0 (by rw [List.getElem?_map, q3]; rfl)
  rw [y] at f1
  cases f1
  have ep : p' = p := Option.some.inj ((e6 rfl).symm.trans (f6 rfl))
  subst ep
  exact f.un i _ _ q2 e1

section
variable {Pr : Program} {w : World} {mg : Str → Option Value} {base : Heap}
/-- THE RULE for a def: its body as a term of rules, and what it makes of the slots -/
theorem fn_ok {x qual : Str} {st : Stmt} {f : Addr} {fd : FuncData} {N ps : List Str} {k : Nat} {pre : List SV → D → List SV → Prop} (F : Fun K x qual st f fd) (S : FnScope N ps (defScope st)) (hlen : ∀ svs d svs', pre svs d svs' → svs.length = ps.length)
    (hbody : ∀ (cdv : Value) (A : Around) (outer : List PySem.Env) (s : Shared) (H : Hp) (E : XK), Room k (A.deeper (PyProof.Rows.envOfC qual (defScope st) s.heap.objs.size f cdv)) → ∀ svs d svs', pre svs d svs' →
      ∃ t, PSs (cxOf CX0 Pr w K mg base N qual (defScope st) f cdv A outer s H E).nox (defBody st) t ∧
        Sx K t (svs.map some ++ tail N ps) { nx := fun ρ' => d = .non ∧ Keeps svs svs' ρ', rt := fun d' ρ' => d' = d ∧ Keeps svs svs' ρ' }) : FnOk Pr w K mg base CX0 (k + 1) f fd ps (spG K pre) := by
  have vl : ∀ {vs H Q E}, spG K pre vs H Q E → vs.length = ps.length := by
    rintro vs H Q E ⟨F, B, svs, d, svs', hp, S, _, _⟩
    have := S.len
    simp only [List.length_map] at this
    rw [← this]; exact hlen _ _ _ hp
  refine F.ok S (fun vs H Q E h => vl h) (fun cdv A outer s H vs Q E hr h => ?_)
  have hv := vl h
  obtain ⟨F, B, svs, d, svs', hp, S0, hw, q⟩ := h
  obtain ⟨t, h1, h2⟩ := hbody cdv A outer s H E hr svs d svs' hp
  refine ⟨t, h1, ?_⟩
  unfold L2.start
  rw [hv]
  refine h2 F B B _ H S0.pad _ (fun ρ' B' σ' H' S' z => ?_) (fun d' v ρ' B' σ' H' S' r z => ?_) (fun _ _ _ _ _ z => z.elim) (fun _ _ _ _ _ z => z.elim) (fun _ _ _ _ _ _ _ _ z => z.elim)
  · obtain ⟨rfl, z⟩ := z
    exact q _ B' H' (S0.ret S' z) (rp_non.mpr rfl)
  · obtain ⟨rfl, z⟩ := z
    exact q _ B' H' (S0.ret S' z) r
theorem fn_okD {x qual : Str} {params : Arguments} {body : List Stmt} {scope : Scope} {dvs : List V} {kws : List (Str × V)} {f : Addr} {fd : FuncData} {N ps : List Str} {k : Nat} {pre : List SV → D → List SV → Prop} (F : FunD K x qual params body scope dvs kws f fd) (S : FnScope N ps scope) (hlen : ∀ svs d svs', pre svs d svs' → svs.length = ps.length)
    (hbody : ∀ (cdv : Value) (A : Around) (outer : List PySem.Env) (s : Shared) (H : Hp) (E : XK), Room k (A.deeper (PyProof.Rows.envOfC qual scope s.heap.objs.size f cdv)) → ∀ svs d svs', pre svs d svs' →
      ∃ t, PSs (cxOf CX0 Pr w K mg base N qual scope f cdv A outer s H E).nox body t ∧
        Sx K t (svs.map some ++ tail N ps) { nx := fun ρ' => d = .non ∧ Keeps svs svs' ρ', rt := fun d' ρ' => d' = d ∧ Keeps svs svs' ρ' }) : FnOk Pr w K mg base CX0 (k + 1) f fd ps (spG K pre) := by
  have vl : ∀ {vs H Q E}, spG K pre vs H Q E → vs.length = ps.length := by
    rintro vs H Q E ⟨F, B, svs, d, svs', hp, S, _, _⟩
    have := S.len
    simp only [List.length_map] at this
    rw [← this]; exact hlen _ _ _ hp
  refine F.ok S (fun vs H Q E h => vl h) (fun cdv A outer s H vs Q E hr h => ?_)
  have hv := vl h
  obtain ⟨F, B, svs, d, svs', hp, S0, hw, q⟩ := h
  obtain ⟨t, h1, h2⟩ := hbody cdv A outer s H E hr svs d svs' hp
  refine ⟨t, h1.nox, ?_⟩
  unfold L2.start
  rw [hv]
  refine h2 F B B _ H S0.pad _ (fun ρ' B' σ' H' S' z => ?_) (fun d' v ρ' B' σ' H' S' r z => ?_) (fun _ _ _ _ _ z => z.elim) (fun _ _ _ _ _ z => z.elim) (fun _ _ _ _ _ _ _ _ z => z.elim)
  · obtain ⟨rfl, z⟩ := z
    exact q _ B' H' (S0.ret S' z) (rp_non.mpr rfl)
  · obtain ⟨rfl, z⟩ := z
    exact q _ B' H' (S0.ret S' z) r
end
section
variable {Pr : Program} {w : World} {mg : Str → Option Value} {base : Heap}
theorem fn_okN {x qual : Str} {st : Stmt} {f : Addr} {fd : FuncData} {N ps : List Str} {k : Nat} {pre : List SV → D → List SV → Prop} (F : Fun K x qual st f fd) (S : FnScope N ps (defScope st)) (hlen : ∀ svs d svs', pre svs d svs' → svs.length = ps.length)
    (hbody : ∀ (cdv : Value) (A : Around) (outer : List PySem.Env) (s : Shared) (H : Hp) (E : XK), Room k (A.deeper (PyProof.Rows.envOfC qual (defScope st) s.heap.objs.size f cdv)) → ∀ svs d svs', pre svs d svs' →
      ∃ t, PSs (cxOf CX0 Pr w K mg base N qual (defScope st) f cdv A outer s H E).nox (defBody st) t ∧
        Sx K t (svs.map some ++ tail N ps) { nx := fun _ => False, rt := fun _ _ => False, rn := fun d' ρ' => d' = d ∧ Keeps svs svs' ρ' }) : FnOk Pr w K mg base CX0 (k + 1) f fd ps (spGN K pre) := by
  have vl : ∀ {vs H Q E}, spGN K pre vs H Q E → vs.length = ps.length := by
    rintro vs H Q E ⟨F, B, svs, d, svs', hp, S, _, _⟩
    have := S.len
    simp only [List.length_map] at this
    rw [← this]; exact hlen _ _ _ hp
  refine F.ok S (fun vs H Q E h => vl h) (fun cdv A outer s H vs Q E hr h => ?_)
  have hv := vl h
  obtain ⟨F, B, svs, d, svs', hp, S0, hw, q⟩ := h
  obtain ⟨t, h1, h2⟩ := hbody cdv A outer s H E hr svs d svs' hp
  refine ⟨t, h1, ?_⟩
  unfold L2.start
  rw [hv]
  refine h2 F B B _ H S0.pad _ (fun _ _ _ _ _ z => z.elim) (fun _ _ _ _ _ _ _ _ z => z.elim) (fun _ _ _ _ _ z => z.elim) (fun _ _ _ _ _ z => z.elim) (fun d' p ρ' B' σ' H' S' f z => ?_)
  obtain ⟨rfl, z⟩ := z
  exact q p B' H' (S0.ret S' z) (Free.ret S0 S' z f)
end
/-! ### what is kept -/
theorem keeps_dat {ρ' : Env} : Keeps (ds.map .dat) (ds.map .dat) ρ' := ⟨rfl, fun i x h => by
  obtain ⟨y, h1, rfl⟩ := map_at h
  exact h⟩
theorem keeps_own {o o' : D} {ρ' : Env} (h : ρ'[0]? = some (some (.own true o'))) : Keeps (.own true o :: ds.map .dat) (.own true o' :: ds.map .dat) ρ' := ⟨rfl, fun i x q => by
  cases i with
  | zero => cases q; exact ⟨rfl, h, o, rfl⟩
  | succ i =>
    have q' : (ds.map SV.dat)[i]? = some x := q
    obtain ⟨y, h1, rfl⟩ := map_at q'
    exact q⟩
/-! ### calls -/
theorem St.args {z : Nat → Option Addr} {vs : List V} (h : Same B H) (r : RpL K B ds vs) : St K ⟨H, z⟩ B B (vs.map some) H ((ds.map SV.dat).map some) := by
  refine ⟨Same.refl _, Same.refl _, h, fun a q => .inl q, fun i d e => ?_, fun i w d e => ?_, fun i j w w' d e p h1 _ _ _ => ?_, ?_⟩
  · obtain ⟨x, h1, h2⟩ := map_at e
    obtain ⟨y, h3, h4⟩ := map_at h1
    cases h2; cases h4
    obtain ⟨v, g1, g2⟩ := r.get h3
    exact ⟨v, by rw [List.getElem?_map, g1]; rfl, g2⟩
  · obtain ⟨x, h1, h2⟩ := map_at e
    obtain ⟨y, h3, h4⟩ := map_at h1
    cases h2; cases h4
  · obtain ⟨x, h1, h2⟩ := map_at h1
    obtain ⟨y, h3, h4⟩ := map_at h1
    cases h2; cases h4
  · simp only [List.length_map]; exact r.len
theorem spP_of {pre : List D → D → Prop} {vs : List V} {Q : VK} (h : Same B H) (r : RpL K B ds vs) (hp : pre ds d) (q : ∀ v B' H', Grow B H B' H' → Rp K B' d v → Q v H') : spP K pre vs H Q E :=
  ⟨⟨H, fun _ => none⟩, B, ds.map .dat, d, ds.map .dat, ⟨ds, rfl, rfl, hp⟩, St.args h r, (fun i w e z => by
    obtain ⟨y, _, z⟩ := map_at z
    cases z), fun v B' H' S rv => q v B' H' ⟨S.fr, S.b0, S.bh, S.new⟩ rv⟩
theorem ev_call {pre : List D → D → Prop} (ha : EvA K tr ρ ds ρ1) (hd : ∀ B, RpL K B dds dvs) (h : pre (ds ++ dds) d) : Ev K (tCall (spP K pre) dvs E tr) ρ d ρ1 := fun F B0 B σ H S Q q =>
  ha F B0 B σ H S _ fun vs B1 H1 b1 S1 r1 => spP_of S1.bh (r1.append (hd B1)) h fun v B2 H2 g r2 => q v B2 H2 (b1.trans g.bb) (S1.grow g) r2
theorem ev_callN {pre : List D → D → Prop} {gV : List V → List V → List V} {as : List D} {n m : Nat} (ha : EvA K tr ρ ds ρ1) (hk : EvA K tk ρ1 es ρ2) (hn : ds.length = n) (hm : es.length = m)
    (hg : ∀ B vs zs, RpL K B ds vs → RpL K B es zs → RpL K B as (gV vs zs)) (h : pre as d) : Ev K (tCallN n m (spP K pre) gV E tr tk) ρ d ρ2 := fun F B0 B σ H S Q q =>
  ha F B0 B σ H S _ fun vs B1 H1 b1 S1 r1 => hk F B0 B1 σ H1 S1 _ fun zs B2 H2 b2 S2 r2 => ⟨by rw [← r1.len]; exact hn, by rw [← r2.len]; exact hm,
    spP_of S2.bh (hg B2 _ _ (r1.mono b2) r2) h fun v B3 H3 g r3 => q v B3 H3 ((b1.trans b2).trans g.bb) (S2.grow g) r3⟩
theorem lookup_no {ns : List Str} {m : Str} : ∀ {xs : List V}, m ∉ ns → (ns.zip xs).lookup m = none := by
  induction ns with
  | nil => intro xs _; rfl
  | cons n ns ih =>
    intro xs h
    cases xs with
    | nil => rfl
    | cons x xs =>
      rw [List.zip_cons_cons, List.lookup_cons]
      have : (m == n) = false := beq_eq_false_iff_ne.mpr fun z => h (by rw [z]; exact List.mem_cons_self)
      rw [this]
      exact ih fun z => h (List.mem_cons_of_mem _ z)
theorem ev_meth {pre : List D → D → Prop} {C : Addr} {m : Str} {ns : List Str} {fs : List D} (ho : Ev K ta ρ (.obj C ns fs) ρ1) (hm : m ∉ ns) (ha : EvA K tr ρ1 ds ρ2) (hd : ∀ B, RpL K B dds dvs) (h : pre (.obj C ns fs :: (ds ++ dds)) d) : Ev K (tMeth C m (spP K pre) dvs E ta tr) ρ d ρ2 := fun F B0 B σ H S Q q =>
  ho F B0 B σ H S _ fun x B1 H1 b1 S1 r1 => by
    obtain ⟨p, dx, xs, rfl, h1, h2, h3⟩ := rp_obj.mp r1
    refine ⟨p, dx, _, rfl, S1.bh _ _ h1, lookup_no hm, ha F B0 B1 σ H1 S1 _ fun vs B2 H2 b2 S2 r2 => ?_⟩
    exact spP_of S2.bh (.cons (r1.mono b2) (r2.append (hd B2))) h fun v B3 H3 g r3 => q v B3 H3 ((b1.trans b2).trans g.bb) (S2.grow g) r3
/-- a thing lent to be changed -/
def cutF (H : Hp) (p : Addr) : Fr := ⟨fun a => if a = p then none else H a, fun i => if i = 0 then some p else none⟩
theorem cutF_same {p : Addr} : (cutF H p).F p = none := if_pos rfl
theorem cutF_ne {p q : Addr} (h : q ≠ p) : (cutF H p).F q = H q := if_neg h
theorem St.argsO {p : Addr} {o : HO} {vs : List V} (h : Same B H) (r : RpL K B ds vs) (hB : B p = none) (hp : H p = some o) (hr : HoR K B d o) : St K (cutF H p) B B ((V.ref p :: vs).map some) H ((SV.own true d :: ds.map SV.dat).map some) := by
  have S := St.args (z := fun _ => none) h r
  refine ⟨fun a x e => ?_, Same.refl _, h, fun a q => .inl q, fun i d e => ?_, fun i w d e => ?_, fun i j w w' d e q h1 h2 _ _ => ?_, ?_⟩
  · by_cases ha : a = p
    · subst ha; rw [cutF_same] at e; cases e
    · rw [cutF_ne ha] at e; exact e
  · cases i with
    | zero => cases e
    | succ i => exact S.dat i d e
  · cases i with
    | zero => cases e; exact ⟨p, o, rfl, hp, hr, hB, cutF_same, fun _ => rfl⟩
    | succ i =>
      obtain ⟨_, _, _⟩ := S.own i w d e
      obtain ⟨x, h1, h2⟩ := map_at (show ((ds.map SV.dat).map some)[i]? = _ from e)
      obtain ⟨y, h3, h4⟩ := map_at h1
      cases h2; cases h4
  · have no : ∀ (i : Nat) w d, ((ds.map SV.dat).map some)[i]? = some (some (SV.own w d)) → False := fun i w d e => by
      obtain ⟨x, h1, h2⟩ := map_at e
      obtain ⟨y, h3, h4⟩ := map_at h1
      cases h2; cases h4
    cases i with
    | zero =>
      cases j with
      | zero => rfl
      | succ j => exact (no j _ _ h2).elim
    | succ i => exact (no i _ _ h1).elim
  · simp only [List.length_map, List.length_cons]
    rw [r.len]
/-- behind such a call -/
theorem St.lent {p : Addr} {o : HO} {vs : List V} {w : Bool} (S : St K F B0 B σ H ρ) (hρ : ρ[n]? = some (some (.own w d))) (hσ : σ[n]? = some (some (.ref p)))
    (S' : St K (cutF H p) B B' ((V.ref p :: vs).map some) H' ((SV.own true e :: ds.map SV.dat).map some)) : St K F B0 B' σ H' (ρ.set n (some (.own w e))) := by
  obtain ⟨p0, o0, f1, f2, f3, f4, f5, f6⟩ := S.own n w d hρ
  rw [hσ] at f1; cases f1
  obtain ⟨p', o', e1, e2, e3, e4, _, _⟩ := S'.own 0 true e rfl
  cases e1
  have hn : n < ρ.length := (List.getElem?_eq_some_iff.mp hρ).1
  have bn : ∀ a, B' a ≠ none → B a ≠ none ∨ (a ≠ p ∧ H a = none) := fun a q => by
    have ha : a ≠ p := fun z => by subst z; exact q e4
    rcases S'.new a q with r | r
    · exact .inl r
    · rw [cutF_ne ha] at r; exact .inr ⟨ha, r⟩
  have hh : ∀ a x, a ≠ p → H a = some x → H' a = some x := fun a x ha z => S'.fr a x (by rw [cutF_ne ha]; exact z)
  refine ⟨fun a x z => hh a x (ne_of_none z f5) (S.fr _ _ z), S.b0.trans S'.b0, S'.bh, fun a q => ?_, fun i d' z => ?_, fun i w' d' z => ?_, fun i j w1 w2 d1 d2 q h1 h2 h3 h4 => ?_, by simp [S.len]⟩
  · rcases bn a q with r | ⟨_, r⟩
    · exact S.new a r
    · exact .inr (S.fr.free r)
  · by_cases hi : n = i
    · subst hi; rw [List.getElem?_set_self hn] at z; cases z
    · rw [List.getElem?_set_ne hi] at z
      obtain ⟨v, g1, g2⟩ := S.dat i d' z
      exact ⟨v, g1, g2.mono S'.b0⟩
  · by_cases hi : n = i
    · subst hi
      rw [List.getElem?_set_self hn] at z
      cases z
      exact ⟨p, o', hσ, e2, e3, e4, f5, f6⟩
    · rw [List.getElem?_set_ne hi] at z
      obtain ⟨q, x, g1, g2, g3, g4, g5, g6⟩ := S.own i w' d' z
      have hq : q ≠ p := fun y => by
        subst y
        exact hi (S.dist n i _ _ _ _ q hρ z hσ g1)
      refine ⟨q, x, g1, hh q x hq g2, g3.mono S'.b0, ?_, g5, g6⟩
      cases y : B' q with
      | none => rfl
      | some u =>
        rcases bn q (by rw [y]; intro r; cases r) with r | ⟨_, r⟩
        · exact absurd g4 r
        · rw [g2] at r; cases r
  · have gg : ∀ (i : Nat) w1 d1, (ρ.set n (some (.own w e)))[i]? = some (some (.own w1 d1)) → ∃ w' d', ρ[i]? = some (some (.own w' d')) := fun i w1 d1 z => by
      by_cases hi : n = i
      · subst hi; exact ⟨w, d, hρ⟩
      · rw [List.getElem?_set_ne hi] at z; exact ⟨w1, d1, z⟩
    obtain ⟨w1', d1', g1⟩ := gg i w1 d1 h1
    obtain ⟨w2', d2', g2⟩ := gg j w2 d2 h2
    exact S.dist i j _ _ _ _ q g1 g2 h3 h4
theorem spO_of {pre : D → List D → D → D → Prop} {vs : List V} {Q : VK} {p : Addr} {o : HO} {o' : D} (h : Same B H) (r : RpL K B ds vs) (hB : B p = none) (hp : H p = some o) (hr : HoR K B d o) (hpre : pre d ds e o')
    (q : ∀ v B' H', St K (cutF H p) B B' ((V.ref p :: vs).map some) H' ((SV.own true o' :: ds.map SV.dat).map some) → Rp K B' e v → Q v H') : spO K pre (.ref p :: vs) H Q E :=
  ⟨cutF H p, B, .own true d :: ds.map .dat, e, .own true o' :: ds.map .dat, ⟨d, ds, o', rfl, rfl, hpre⟩, St.argsO (o := o) h r hB hp hr, (fun i w x z => by
    cases i with
    | zero => cases z; rfl
    | succ i =>
      obtain ⟨y, _, z⟩ := map_at (show (ds.map SV.dat)[i]? = _ from z)
      cases z), q⟩
theorem ev_callO {pre : D → List D → D → D → Prop} {w w0 : Bool} {o o0 o' : D} (h0 : ρ[n]? = some (some (.own w0 o0))) (ha : EvA K tr ρ ds ρ1) (h1 : ρ1[n]? = some (some (.own w o))) (hd : ∀ B, RpL K B dds dvs) (h : pre o (ds ++ dds) d o') :
    Ev K (tCall (spO K pre) dvs E (tCons (tVar n) tr)) ρ d (ρ1.set n (some (.own w o'))) := fun F B0 B σ H S Q q => by
  obtain ⟨p, x, e1, _⟩ := S.own n w0 o0 h0
  refine ⟨_, e1, ha F B0 B σ H S _ fun vs B1 H1 b1 S1 r1 => ?_⟩
  obtain ⟨p', x', f1, f2, f3, f4, f5, f6⟩ := S1.own n w o h1
  rw [e1] at f1; cases f1
  exact spO_of S1.bh (r1.append (hd B1)) f4 f2 f3 h fun v B2 H2 S2 r2 => q v B2 H2 (b1.trans S2.b0) (S1.lent (o := x') h1 e1 S2) r2
/-- calls that hand back a new thing -/
theorem en_call {pre : List D → D → Prop} (ha : EvA K tr ρ ds ρ1) (hd : ∀ B, RpL K B dds dvs) (h : pre (ds ++ dds) d) : EvN K (tCall (spN K pre) dvs E tr) ρ d ρ1 := fun F B0 B σ H S Q q =>
  ha F B0 B σ H S _ fun vs B1 H1 b1 S1 r1 => ⟨⟨H1, fun _ => none⟩, B1, (ds ++ dds).map .dat, d, (ds ++ dds).map .dat, ⟨_, rfl, rfl, h⟩, St.args S1.bh (r1.append (hd B1)), (fun i w e z => by
    obtain ⟨y, _, z⟩ := map_at z
    cases z), fun p B2 H2 S2 f => by
    have g : Grow B1 H1 B2 H2 := ⟨S2.fr, S2.b0, S2.bh, S2.new⟩
    obtain ⟨o, ho, hr⟩ := f.at_
    exact q p B2 H2 (b1.trans g.bb) (S1.grow g) (Free.grow S1 g f.nf ho f.nb hr)⟩
theorem en_callO {pre : D → List D → D → D → Prop} {w w0 : Bool} {o o0 o' : D} (h0 : ρ[n]? = some (some (.own w0 o0))) (ha : EvA K tr ρ ds ρ1) (h1 : ρ1[n]? = some (some (.own w o))) (hd : ∀ B, RpL K B dds dvs) (h : pre o (ds ++ dds) d o') :
    EvN K (tCall (spON K pre) dvs E (tCons (tVar n) tr)) ρ d (ρ1.set n (some (.own w o'))) := fun F B0 B σ H S Q q => by
  obtain ⟨p, x, e1, _⟩ := S.own n w0 o0 h0
  refine ⟨_, e1, ha F B0 B σ H S _ fun vs B1 H1 b1 S1 r1 => ?_⟩
  obtain ⟨p', x', f1, f2, f3, f4, f5, f6⟩ := S1.own n w o h1
  rw [e1] at f1; cases f1
  refine ⟨cutF H1 p, B1, .own true o :: (ds ++ dds).map .dat, d, .own true o' :: (ds ++ dds).map .dat, ⟨o, _, o', rfl, rfl, h⟩, St.argsO (o := x') S1.bh (r1.append (hd B1)) f4 f2 f3, (fun i w x z => by
    cases i with
    | zero => cases z; rfl
    | succ i =>
      obtain ⟨y, _, z⟩ := map_at (show ((ds ++ dds).map SV.dat)[i]? = _ from z)
      cases z), fun s B2 H2 S2 f => ?_⟩
  have S3 := S1.lent (o := x') h1 e1 S2
  have hsp : s ≠ p := fun z => by
    subst z
    exact f.un 0 true o' rfl rfl
  have hs1 : H1 s = none := by
    have := f.nf
    rw [cutF_ne hsp] at this
    exact this
  refine q s B2 H2 (b1.trans S2.b0) S3 ⟨f.at_, f.nb, S1.fr.free hs1, fun i w' e z y => ?_⟩
  have hn : n < ρ1.length := (List.getElem?_eq_some_iff.mp h1).1
  by_cases hi : n = i
  · subst hi
    rw [e1] at y
    cases y
    exact hsp rfl
  · rw [List.getElem?_set_ne hi] at z
    obtain ⟨q', x2, g1, g2, _⟩ := S1.own i w' e z
    rw [y] at g1; cases g1
    rw [hs1] at g2; cases g2
/-- a method that changes its object -/
theorem ev_methO {pre : D → List D → D → D → Prop} {C : Addr} {m : Str} {w w0 : Bool} {ns0 ns ns' : List Str} {fs0 fs fs' : List D} (h0 : ρ[n]? = some (some (.own w0 (.obj C ns0 fs0)))) (hm : m ∉ ns0) (ha : EvA K tr ρ ds ρ1) (h1 : ρ1[n]? = some (some (.own w (.obj C ns fs)))) (hd : ∀ B, RpL K B dds dvs)
    (h : pre (.obj C ns fs) (ds ++ dds) d (.obj C ns' fs')) : Ev K (tMeth C m (spO K pre) dvs E (tVar n) tr) ρ d (ρ1.set n (some (.own w (.obj C ns' fs')))) := fun F B0 B σ H S Q q => by
  obtain ⟨p, x, e1, e2, ⟨dx, xs, rfl, e4, e5⟩, _⟩ := S.own n w0 _ h0
  refine ⟨_, e1, p, dx, _, rfl, e2, lookup_no hm, ha F B0 B σ H S _ fun vs B1 H1 b1 S1 r1 => ?_⟩
  obtain ⟨p', x', f1, f2, f3, f4, f5, f6⟩ := S1.own n w _ h1
  rw [e1] at f1; cases f1
  exact spO_of S1.bh (r1.append (hd B1)) f4 f2 f3 h fun v B2 H2 S2 r2 => q v B2 H2 (b1.trans S2.b0) (S1.lent (o := x') h1 e1 S2) r2
/-- a new object -/
theorem en_make {pre : D → List D → D → D → Prop} {C : Addr} {ns : List Str} {fs : List D} (ha : EvA K tr ρ ds ρ1) (hd : ∀ B, RpL K B dds dvs) (h : pre (.obj C [] []) (ds ++ dds) .non (.obj C ns fs)) : EvN K (tMake C (spO K pre) dvs E tr) ρ (.obj C ns fs) ρ1 := fun F B0 B σ H S Q q =>
  ha F B0 B σ H S _ fun vs B1 H1 b1 S1 r1 x dx hx hdx hne => by
    have hh : Same H1 (upd (upd H1 dx (.own x)) x (.ins C dx [])) := (same_upd hdx).trans (same_upd (by rw [upd_ne (Ne.symm hne)]; exact hx))
    have hB : B1 x = none := none_of_same S1.bh hx
    refine spO_of (o := .ins C dx []) (S1.bh.trans hh) (r1.append (hd B1)) hB upd_same (ho_obj (ns := []) (xs := []) rfl .nil) h fun v B2 H2 S2 r2 => ⟨rp_non.mp r2, ?_⟩
    obtain ⟨p', o', e1, e2, e3, e4, _, _⟩ := S2.own 0 true _ rfl
    cases e1
    have up : ∀ a, a ≠ x → (upd (upd H1 dx (.own x)) x (.ins C dx [])) a = none → H1 a = none := fun a ha z => hh.free z
    have g : Grow B1 H1 B2 H2 := ⟨fun a u z => S2.fr a u (by rw [cutF_ne (ne_of_none z hx)]; exact hh _ _ z), S2.b0, S2.bh, fun a z => by
      have ha : a ≠ x := fun y => by subst y; exact z e4
      rcases S2.new a z with r | r
      · exact .inl r
      · rw [cutF_ne ha] at r; exact .inr (up a ha r)⟩
    exact q x B2 H2 (b1.trans g.bb) (S1.grow g) (Free.grow S1 g hx e2 e4 e3)
end
/-! ### a list or a tuple is walked -/
section
variable {X : Cx} {tg : Expr}
theorem pi_seq {l : Expr} {tl : TE} (hl : PE X l tl) : PI X tg l (iSeq X.K tl) := by
  refine ⟨fun pins s σ H R I h => ?_⟩
  refine thn (hl.run pins s σ H _ I h) fun v s1 ⟨x, H1, I1, r1, q1⟩ => ?_
  rcases q1 with ⟨a, e, ⟨xs, hq⟩, q⟩ | ⟨a, e, ⟨xs, hq⟩, q⟩
  · subst e
    cases r1
    obtain ⟨its, rv, p, hz⟩ := I1.list hq
    refine wpAny_pyIter_list p.isList ?_
    refine ⟨s1.heap.objs.size, [s1.heap.objs.size], _, _, H1, rfl, I1.kept (t' := s1.toks) fun b o e => Heap.get?_push_of_some _ e, turn_list a _, ⟨_, Heap.get?_push_size _ rfl, rfl, rfl⟩, fun b hb => ?_, q⟩
    have e : b = s1.heap.objs.size := by simpa using hb
    subst e
    exact I1.fpOk (Nat.le_refl _) (I1.hok.fresh (Nat.le_refl _))
  · subst e
    cases r1
    obtain ⟨its, rv, p, hz⟩ := I1.tuple hq
    refine wpAny_pyIter_tuple (show s1.heap.IsTuple a its.toArray from p) ?_
    refine ⟨s1.heap.objs.size, [s1.heap.objs.size], _, _, H1, rfl, I1.kept (t' := s1.toks) fun b o e => Heap.get?_push_of_some _ e, turn_tuple a _, ⟨_, Heap.get?_push_size _ rfl, rfl, rfl⟩, fun b hb => ?_, q⟩
    have e : b = s1.heap.objs.size := by simpa using hb
    subst e
    exact I1.fpOk (Nat.le_refl _) (I1.hok.fresh (Nat.le_refl _))
end
end DL

namespace DL
open PySem L2 PySem.Spec PyProof.Rows
theorem lz {n : Nat} (h : Nat.ble n 100 = true) : n ≤ sizeLine := Nat.le_trans (Nat.le_of_ble_eq_true h) (by decide)
theorem bl {n m : Nat} (h : Nat.blt n m = true) : n < m := by simpa [Nat.blt_eq] using h
/-! ### t[::-1] -/
section
variable {prog : Program} {w : World} {A : Around} {E : Value → Shared → Prop} {s : Shared}
theorem places_rev (n : Nat) : Builtin.Slice.slicePlaces ((n : Int) - 1) (-1) (-1) = n := by
  unfold Builtin.Slice.slicePlaces
  have h1 : ¬ ((-1 : Int) > 0) := by decide
  simp only [h1, if_false]
  split
  · rw [show (-(-1) : Int) = 1 by decide, Int.ediv_one]
    omega
  · omega
theorem sliceApplied_rev {sl : Addr} {vs : Value} {n : Nat} {Q : Int × Int × Nat → Shared → Prop} (hs : s.heap.IsSliceOf sl .none .none vs) (ps : IsPart vs (some (-1)))
    (h : Q ((n : Int) - 1, -1, n) s) : wpAny (model prog w) A (Builtin.Slice.sliceApplied (.ref sl) (pure (n : Int))) Q E s := by
  obtain ⟨os, hos, hcs, hds⟩ := id hs
  unfold Builtin.Slice.sliceApplied Builtin.Slice.sliceFields
  refine wpAny_bind (wpAny_bind (wpAny_field hos hds (x := .none) rfl (wpAny_bind (wpAny_field hos hds (x := .none) rfl (wpAny_bind (wpAny_field hos hds (x := vs) rfl (wpAny_pure ?_)))))))
  refine wpAny_bind (HT.slicePart_ ps ?_)
  show wpAny _ _ (if ((-1 : Int) == 0) = true then _ else _) _ _ s
  rw [if_neg (by decide)]
  refine wpAny_bind (slicePart_none (wpAny_bind (slicePart_none (wpAny_bind (wpAny_pure ?_)))))
  show wpAny _ _ (pure ((n : Int) - 1, (-1 : Int), Builtin.Slice.slicePlaces ((n : Int) - 1) (-1) (-1))) _ _ s
  rw [places_rev]
  exact wpAny_pure h
theorem fm_congr {α β : Type} {f g : α → Option β} : ∀ {l : List α}, (∀ x ∈ l, f x = g x) → l.filterMap f = l.filterMap g
  | [], _ => rfl
  | x :: l, h => by
    rw [List.filterMap_cons, List.filterMap_cons, h x List.mem_cons_self, fm_congr fun y hy => h y (List.mem_cons_of_mem _ hy)]
theorem pick_rev (xs : Array Value) : ((List.range xs.size).filterMap fun (m : Nat) => xs[((xs.size : Int) - 1 + (m : Int) * (-1)).toNat]?).toArray = xs.toList.reverse.toArray := by
  congr 1
  have e : ((List.range xs.size).filterMap fun (m : Nat) => xs[((xs.size : Int) - 1 + (m : Int) * (-1)).toNat]?) = (((List.range xs.size).map fun k => xs.size - 1 - k).filterMap (xs[·]?)) := by
    rw [List.filterMap_map]
    apply fm_congr
    intro m hm
    have := List.mem_range.mp hm
    show xs[((xs.size : Int) - 1 + (m : Int) * (-1)).toNat]? = xs[xs.size - 1 - m]?
    congr 1
    omega
  rw [e, PySem.W.krv_range, List.filterMap_reverse, PySem.W.krv_all]
theorem getItem_tuple_rev {t sl : Addr} {items : Array Value} {vs : Value} {Q : Value → Shared → Prop} (ht : IsTup s.heap t items) (hs : s.heap.IsSliceOf sl .none .none vs) (ps : IsPart vs (some (-1)))
    (h : Q (.ref s.heap.objs.size) { s with heap := s.heap.push { cls := .type "tuple", data := .seq items.toList.reverse.toArray } })
    (hsz : items.size ≤ sizeLine) : wpAny (model prog w) A (getItem (.ref t) (.ref sl)) Q E s := by
  have htake : sizeOk (.seq items.toList.reverse.toArray) := by
    show items.toList.reverse.toArray.size ≤ sizeLine
    rw [List.size_toArray, List.length_reverse, Array.length_toList]
    exact hsz
  obtain ⟨os, hos, hcs, hds⟩ := id hs
  have hTs : s.TypeIs (.ref sl) "slice" := ⟨os, hos, hcs⟩
  unfold getItem
  try with_reducible refine wpAny_holding ?_
  first | refine wpAny_bind (wpAny_pure ?_) | skip
  refine wpAny_bind (wpAny_sequenceKey ht.typeIs (by decide) ?_)
  refine wpAny_bind (wpAny_callSpecial?_slot (name := Str.ofString "__getitem__") ht.typeIs PyProof.Rows.slot_tuple_getitem
    (wpAny_call_entry PyProof.Rows.slot_tuple_getitem ht.typeIs entry_tuple_getitem ?_ (args_tuple_getitem _ _)))
  show wpAny _ _ (Builtin.Tuple.tupleItemsOf (.ref t) >>= _) _ _ s
  refine wpAny_bind (tupleItemsOf_ ht ?_)
  refine wpAny_bind (wpAny_typeOf hTs ?_)
  rw [if_pos (by decide)]
  refine wpAny_bind (sliceApplied_rev hs ps ?_)
  have hno : ¬ ((((items.size : Int) - 1) == 0 && (-1 : Int) == 1 && items.size == items.size) = true) := by
    intro q
    rw [Bool.and_eq_true, Bool.and_eq_true] at q
    exact absurd q.1.2 (by decide)
  show wpAny _ _ (if (((items.size : Int) - 1) == 0 && (-1 : Int) == 1 && items.size == items.size) = true then _ else _) _ _ s
  rw [if_neg hno, pick_rev]
  first
    | exact wpAny_bind (m := Builtin.Tuple.tupleExact _) (wpAny_newObj_type (wpAny_pure ⟨_, rfl, wpAny_pure h⟩) htake)
    | exact wpAny_bind (m := Builtin.Tuple.tupleExact _) (wpAny_newObj_type (wpAny_bind (wpAny_pure (wpAny_pure ⟨_, rfl, wpAny_pure h⟩))) htake)
    | exact wpAny_bind (wpAny_bind (m := Builtin.Tuple.tupleExact _) (wpAny_newObj_type (wpAny_pure (wpAny_pure ⟨_, rfl, wpAny_pure h⟩)) htake))
    | exact wpAny_bind (wpAny_bind (m := Builtin.Tuple.tupleExact _) (wpAny_newObj_type (wpAny_pure ⟨_, rfl, wpAny_pure h⟩) htake))
end
section
variable {X : Cx}
def tRevT (K : Fg) (te : TE) : TE := fun σ H Q => te σ H fun x H1 => ∃ a xs, x = .ref a ∧ SqT K H1 a xs ∧ ∀ p, H1 p = none → Q (.ref p) (upd H1 p (.tup xs.reverse))
theorem pe_revT {e : Expr} {te : TE} {k : Nat} {p1 p2 p3 pos : Pos} (he : PE X e te) : PE X (.Subscript e (.Slice none none (some (.UnaryOp .USub (.Constant (.int 1) k p1) p2)) p3) pos) (tRevT X.K te) := by
  refine ⟨fun pins s σ H Q I h => ?_⟩
  refine Subscript_ (thn (he.run pins s σ H _ I h) fun v s1 ⟨x, H1, I1, r1, q1⟩ => ?_)
  obtain ⟨a, xs, ex, hx, q⟩ := q1
  subst ex
  cases r1
  have hst : PO X (some (.UnaryOp .USub (.Constant (.int 1) k p1) p2)) (tPart (tUn (rU fun i => .int (-i)) (tC (.int 1)))) := po_some (pe_un un_neg pe_int)
  refine wpAny_Slice (thn (po_none.run pins s1 σ H1 (fun o H2 => o = none ∧ H2 = H1) I1 ⟨rfl, rfl⟩) fun vl s2 ⟨l, H2, I2, pl, el, e2⟩ => ?_)
  subst el e2
  refine thn (po_none.run pins s2 σ H2 (fun o H3 => o = none ∧ H3 = H2) I2 ⟨rfl, rfl⟩) fun vu s3 ⟨u, H3, I3, pu, eu, e3⟩ => ?_
  subst eu e3
  refine thn (hst.run pins s3 σ H3 (fun o H4 => o = some (-1) ∧ H4 = H3) I3 ⟨1, rfl, -1, rfl, rfl, rfl⟩) fun vs s4 ⟨o, H4, I4, ps, eo, e4⟩ => ?_
  subst eo e4
  have I5 : Inv X pins σ H4 { s4 with heap := s4.heap.push { cls := .type "slice", data := .fields #[vl, vu, vs] } } := I4.kept (t' := s4.toks) fun b ob q => Heap.get?_push_of_some _ q
  obtain ⟨its, r, ht, hz⟩ := I5.tuple hx
  have hlen := r.length
  cases pl
  cases pu
  show wpAny (model X.prog X.w) X.A (subscriptTail e (.Slice none none (some (.UnaryOp .USub (.Constant (.int 1) k p1) p2)) p3) (.ref a) (.ref s4.heap.objs.size)) (EP X pins σ Q) X.xe { s4 with heap := s4.heap.push { cls := .type "slice", data := .fields #[.none, .none, vs] } }
  refine tail_any (ops := [.ref a, .ref s4.heap.objs.size]) ht.typeIs (PyProof.Rows.slot_tuple_getitem.lookup) ?_ (by with_unfolding_all rfl)
  refine getItem_tuple_rev ht (Heap.IsSliceOf.new _ .none .none vs) ps ?_ (by rw [List.size_toArray]; omega)
  refine ⟨.ref _, _, I5.laid (t' := s4.toks) (o := .tup xs.reverse) (fun b ob q => Heap.get?_push_of_some _ q) (Nat.le_refl _) ?_, rfl, q _ (I5.hok.fresh (Nat.le_refl _))⟩
  exact ⟨by rw [List.length_reverse]; exact hz, _, r.reverse, IsTup.new _ _⟩
theorem ev_revT {K : Fg} {te : TE} {ρ ρ1 : DL.Env} {ds : List D} (ha : Ev K te ρ (.tup ds) ρ1) : Ev K (tRevT K te) ρ (.tup ds.reverse) ρ1 := fun F B0 B σ H S Q q =>
  ha F B0 B σ H S _ fun v B1 H1 b1 S1 r => by
    obtain ⟨p, ys, rfl, h1, h2⟩ := rp_tup.mp r
    refine ⟨p, ys, rfl, SqT.of (S1.bh _ _ h1), fun s hs => ?_⟩
    have g : Grow B1 H1 _ _ := Grow.put (o := .tup ys.reverse) S1.bh hs
    exact q _ _ _ (b1.trans g.bb) (S1.grow g) (rp_tup.mpr ⟨s, _, rfl, upd_same, h2.reverse.mono g.bb⟩)
end
/-! ### displays of dicts -/
section
variable {X : Cx}
def mergeT (kvs more : List (List Key × V)) : List (List Key × V) := more.foldl (fun acc kv => putK acc kv.1 kv.2) kvs
/-- one pair alone, its key a tuple: {(a, b): v} -/
def tDisp1T (tk tv : TE) : TE := fun σ H Q => ∀ p, H p = none → tk σ (upd H p (.dT [])) fun x H1 => tv σ H1 fun y H2 => H2 p = some (.dT []) ∧ ∃ (b : Addr) (k : List Key), x = .ref b ∧ H2 b = some (.tup (k.map kV)) ∧ Q (.ref p) (upd H2 p (.dT [(k, y)]))
theorem pe_disp1T {pos : Pos} {k v : Expr} {tk tv : TE} (hu : X.A.units + 1 < cLine) (hk : PE X k tk) (hv : PE X v tv) : PE X (.Dict [some k] [v] pos) (tDisp1T tk tv) := by
  refine ⟨fun pins s σ H Q I q => ?_⟩
  have hn := I.hok.fresh (Nat.le_refl s.heap.objs.size)
  have I1 := I.laid (a := s.heap.objs.size) (o := .dT []) (h' := s.heap.push { cls := .type "dict", data := .dict #[] }) (t' := s.toks) (fun _ _ q => Heap.get?_push_of_some _ q) (Nat.le_refl _) (dt_empty s.heap I.big)
  let pairs : List (Sem Value × Sem Value) := [(eval k X.env, do let x ← eval v X.env; standAt pos; pure x)]
  have hshape : (evalEachOpt [some k] X.env).zip ((evalEach [v] X.env).map fun v => do let x ← v; standAt pos; pure x) = pairs.map fun p => (some p.1, p.2) := rfl
  rw [arm_eval_Dict, hshape, dictDisplay_pairs pairs (by simp [pairs]) (by simp [pairs])]
  refine wpAny_bind (wpAny_standAt (wpAny_bind (wpAny_subDictH (knd := tupleKind (mixKind X.prog X.w)) (Q := fun d s' => wpAny (model X.prog X.w) X.A (pure (Value.ref d)) (EP X pins σ Q) X.xe s') (show X.A.units < cLine by omega) (by simp [pairs]) ?_)))
  refine evalPairs_cons (thn (hk.run pins _ σ _ _ I1 (q _ hn)) fun kv s2 ⟨x, H2, I2, rx, q2⟩ => wpAny_bind (thn (hv.run pins s2 σ H2 _ I2 q2) fun vv s3 ⟨y, H3, I3, ry, e, b, kk, ex, eb, q3⟩ => wpAny_bind (wpAny_standAt (wpAny_pure (evalPairs_nil ?_)))))
  subst ex
  cases (show kv = Value.ref b from rx)
  obtain ⟨z, hd, xs0, rel, dd⟩ := dt_of I3.hok e
  cases rel
  refine ⟨[(kk, b, vv)], ⟨rfl, rfl, key_of I3.hok eb, trivial⟩, dd, fun h' tk dd' hs => wpAny_pure ⟨.ref s.heap.objs.size, _, ?_, rfl, q3⟩⟩
  obtain ⟨o, es, ep, hq, h2, h3, h4, _, h5⟩ := dd'
  refine d_write I3 (by rw [e]; exact True.intro) hs ⟨o, hq⟩ ⟨by show 1 ≤ sizeLine; decide, hd, [(kk, b, vv)], .cons ⟨rfl, ?_, ry⟩ .nil, o, es, ep, hq, h2, h3, h4, h5⟩
  rw [upd_ne (ne_of eb e (fun z => nomatch z))]
  exact eb
theorem en_disp1T {K : Fg} {tk tv : TE} {ρ ρ1 ρ2 : DL.Env} {k : List Key} {d : D} (ha : Ev K tk ρ (.tup (k.map kD)) ρ1) (hb : Ev K tv ρ1 d ρ2) : EvN K (tDisp1T tk tv) ρ (dT' [(k, d)]) ρ2 := fun F B0 B σ H S Q q p hp => by
  have hB := none_of_same S.bh hp
  have hF := S.fr.free hp
  have un0 : ∀ (i : Nat) w e, ρ[i]? = some (some (.own w e)) → σ[i]? ≠ some (some (.ref p)) := fun i w e z y => by
    obtain ⟨r, x, e1, e2, _⟩ := S.own i w e z
    rw [y] at e1; cases e1
    rw [hp] at e2; cases e2
  have S1 : St K F B0 B σ (upd H p (.dT [])) ρ := S.side hB hF un0
  have S1w : St K ⟨upd F.F p (.dT []), F.z⟩ B B σ (upd H p (.dT [])) ρ := S1.block (vs := []) (fun j hj => nomatch hj) upd_same un0
  refine ha _ _ _ _ _ S1w _ fun x B2 H2 b2 S2 r2 => hb _ _ _ _ H2 S2 _ fun y B3 H3 b3 S3 r3 => ?_
  obtain ⟨S3', hB3, hx3, un3⟩ := St.dropF hF hB S3
  obtain ⟨b, xs, rfl, g1, g2⟩ := rp_tup.mp (r2.mono b3)
  rw [RpL.keys.mp g2] at g1
  refine ⟨hx3, b, k, rfl, S3.bh _ _ g1, q p B3 _ (b2.trans b3) ((S.rebase (B1 := B) S3').side hB3 hF un3) ⟨⟨_, upd_same, ho_dT'.mpr ⟨_, rfl, RpK.cons_iff.mpr ⟨y, [], rfl, r3, RpK.nil_iff.mpr rfl⟩⟩⟩, hB3, hF, un3⟩⟩
/-- {'a': x, ..}: keys texts or ints -/
def EvPs (K : Fg) (trs : List (TE × TE)) (ρ : DL.Env) (kvs : List (Key × D)) (ρ' : DL.Env) : Prop := ∀ F B0 B σ H, St K F B0 B σ H ρ → ∀ Q : List (V × V) → Hp → Prop,
  (∀ ks B' H', Same B B' → St K F B0 B' σ H' ρ' → RpK K B' kvs ks → Q (ks.map fun kv => (kV kv.1, kv.2)) H') → tPairs trs σ H Q
theorem ep_nil {K : Fg} {ρ : DL.Env} : EvPs K [] ρ [] ρ := fun F B0 B σ H S Q q => q [] B H (Same.refl _) S (RpK.nil_iff.mpr rfl)
theorem RpK.mono {K : Fg} {B B' : Hp} {κ : Type} {kvs : List (κ × D)} {ks : List (κ × V)} (e : Same B B') (h : RpK K B kvs ks) : RpK K B' kvs ks := by
  obtain ⟨xs, h1, h2, h3⟩ := h
  exact ⟨xs, h1, h2, h3.mono e⟩
theorem ep_cons {K : Fg} {ρ ρ1 ρ2 ρ3 : DL.Env} {tk tv : TE} {trs : List (TE × TE)} {k : Key} {d : D} {kvs : List (Key × D)} (ha : Ev K tk ρ (kD k) ρ1) (hb : Ev K tv ρ1 d ρ2) (hr : EvPs K trs ρ2 kvs ρ3) : EvPs K ((tk, tv) :: trs) ρ ((k, d) :: kvs) ρ3 := fun F B0 B σ H S Q q =>
  ha F B0 B σ H S _ fun x B1 H1 b1 S1 r1 => hb F B0 B1 σ H1 S1 _ fun y B2 H2 b2 S2 r2 => hr F B0 B2 σ H2 S2 _ fun ks B3 H3 b3 S3 r3 => by
    have ex : x = kV k := by
      cases k with
      | inl i => exact rp_int.mp r1
      | inr i => exact rp_str.mp r1
    subst ex
    exact q ((k, y) :: ks) B3 H3 ((b1.trans b2).trans b3) S3 (RpK.cons_iff.mpr ⟨y, ks, rfl, r2.mono b3, r3⟩)
def mergeD (kvs more : List (Key × D)) : List (Key × D) := more.foldl (fun acc kv => putD acc kv.1 kv.2) kvs
theorem RpK.merge {K : Fg} {B : Hp} : ∀ {more : List (Key × D)} {ms : List (Key × V)} {kvs : List (Key × D)} {ks : List (Key × V)}, RpK K B more ms → RpK K B kvs ks → RpK K B (mergeD kvs more) (mergeK ks ms)
  | [], _, _, _, h, q => by rw [RpK.nil_iff.mp h]; exact q
  | p :: r, _, kvs, ks, h, q => by
    obtain ⟨v, t, rfl, h1, h2⟩ := RpK.cons_iff.mp h
    show RpK K B (mergeD (putD kvs p.1 p.2) r) (mergeK (putK ks p.1 v) t)
    exact RpK.merge h2 (q.put h1)
theorem en_disp {K : Fg} {trs : List (TE × TE)} {ρ ρ1 : DL.Env} {kvs : List (Key × D)} (h : EvPs K trs ρ kvs ρ1) (hl : kvs.length ≤ 15) : EvN K (tDisp trs) ρ (dK' (mergeD [] kvs)) ρ1 := fun F B0 B σ H S Q q p hp => by
  have hB := none_of_same S.bh hp
  have hF := S.fr.free hp
  have un0 : ∀ (i : Nat) w e, ρ[i]? = some (some (.own w e)) → σ[i]? ≠ some (some (.ref p)) := fun i w e z y => by
    obtain ⟨r, x, e1, e2, _⟩ := S.own i w e z
    rw [y] at e1; cases e1
    rw [hp] at e2; cases e2
  have S1 : St K F B0 B σ (upd H p (.dK [])) ρ := S.side hB hF un0
  have S1w : St K ⟨upd F.F p (.dK []), F.z⟩ B B σ (upd H p (.dK [])) ρ := S1.block (vs := []) (fun j hj => nomatch hj) upd_same un0
  refine h _ _ _ _ _ S1w _ fun ks B3 H3 b3 S3 r3 => ?_
  obtain ⟨S3', hB3, hx3, un3⟩ := St.dropF hF hB S3
  exact ⟨hx3, ks, rfl, by rw [r3.len]; exact hl, q p B3 _ b3 ((S.rebase (B1 := B) S3').side hB3 hF un3) ⟨⟨_, upd_same, ho_dK'.mpr ⟨_, rfl, r3.merge (RpK.nil_iff.mpr rfl)⟩⟩, hB3, hF, un3⟩⟩
end
end DL

namespace DL
open PySem L2
/-! ### the rules, the written part named -/
section
variable {X : Cx} {ta tb te : TE} {pos : Pos} {e : Expr}
theorem op_addK (K : Fg) (hK : X.K = K := by rfl) : OpR X (binaryOp .Add) (rAddU K) := hK ▸ op_addU
theorem op_eqK (K : Fg) (hu : X.A.units + 64 < cLine) (hK : X.K = K := by rfl) : OpR X (compareOp .Eq) (rEqU K) := hK ▸ op_eqU hu
theorem op_neK (K : Fg) (hu : X.A.units + 64 < cLine) (hK : X.K = K := by rfl) : OpR X (compareOp .NotEq) (rNeU K) := hK ▸ op_neU hu
theorem op_inK (K : Fg) (hK : X.K = K := by rfl) : OpR X (compareOp .In) (rIn K false) := hK ▸ op_in_seq
theorem op_notInK (K : Fg) (hK : X.K = K := by rfl) : OpR X (compareOp .NotIn) (rIn K true) := hK ▸ op_notIn_seq
theorem ix_K (K : Fg) (hK : X.K = K := by rfl) : IxR X (rIx K) := hK ▸ ix_seq
theorem sl_K (K : Fg) (hK : X.K = K := by rfl) : SlR X (rSlU K) := hK ▸ sl_U
theorem call_lenK (K : Fg) (hK : X.K = K := by rfl) : CallR X (.builtin "len") (rLenU K) := hK ▸ call_len
theorem call_tupleK (K : Fg) (hK : X.K = K := by rfl) : CallR X (.type "tuple") (rTupOf K) := hK ▸ call_tuple_of
theorem call_listK (K : Fg) (hK : X.K = K := by rfl) : CallR X (.type "list") (rListOf K) := hK ▸ call_list_of
theorem cr_sumK (K : Fg) (hc : X.calm = true := by rfl) (hK : X.K = K := by rfl) : CallR X (.builtin "sum") (rSum K) := hK ▸ cr_sum hc
theorem cr_anyK (K : Fg) (hc : X.calm = true := by rfl) (hK : X.K = K := by rfl) : CallR X (.builtin "any") (rAny K) := hK ▸ cr_any hc
theorem cr_allK (K : Fg) (hc : X.calm = true := by rfl) (hK : X.K = K := by rfl) : CallR X (.builtin "all") (rAll K) := hK ▸ cr_all hc
theorem cr_maxK (K : Fg) (hc : X.calm = true := by rfl) (hK : X.K = K := by rfl) : CallR X (.builtin "max") (rMax K) := hK ▸ cr_max hc
theorem cr_minK (K : Fg) (hc : X.calm = true := by rfl) (hK : X.K = K := by rfl) : CallR X (.builtin "min") (rMin K) := hK ▸ cr_min hc
theorem pe_fldK (K : Fg) {f : Str} (he : PE X e ta) (hb : attributeBase e f X.env (eval e X.env) = eval e X.env) (hK : X.K = K := by rfl) : PE X (.Attribute e f pos) (tFld K ta f) := hK ▸ pe_fld he hb
theorem ps_fldK (K : Fg) {o value : Expr} {tv : TE} {f : Str} {pos' : Pos} (ha : PE X o ta) (hv : PE X value tv) (hs : swapsWith value (some (.Attribute o f pos')) pos.line X.env = pure false) (hK : X.K = K := by rfl) : PS X (.Assign [.Attribute o f pos'] value pos) (sFld K ta tv f) := hK ▸ ps_fld ha hv hs
theorem pg_tupK (K : Fg) {es : List Expr} {k n : Nat} {t : TGs} (hc : X.calm = true) (h : PGs X es t) (hn : (assignEach es X.env).length = n := by rfl) (hst : (assignEach es X.env).findIdx? (·.1) = none := by rfl) (hK : X.K = K := by rfl) : PG X (.Tuple es k pos) (gTup K n t) := hK ▸ pg_tup hc h hn hst
theorem pi_seqK (K : Fg) {tg l : Expr} {tl : TE} (hl : PE X l tl) (hK : X.K = K := by rfl) : PI X tg l (iSeq K tl) := hK ▸ pi_seq hl
theorem pe_revTK (K : Fg) {k : Nat} {p1 p2 p3 : Pos} (he : PE X e te) (hK : X.K = K := by rfl) : PE X (.Subscript e (.Slice none none (some (.UnaryOp .USub (.Constant (.int 1) k p1) p2)) p3) pos) (tRevT K te) := hK ▸ pe_revT he
theorem pe_revLK (K : Fg) {k : Nat} {p1 p2 p3 : Pos} (he : PE X e te) (hK : X.K = K := by rfl) : PE X (.Subscript e (.Slice none none (some (.UnaryOp .USub (.Constant (.int 1) k p1) p2)) p3) pos) (tRevL K te) := hK ▸ pe_revL he
theorem pe_tupRevK (K : Fg) {p p2 pos2 : Pos} (hc : X.calm = true) (hg : Gl X "tuple") (hm : X.mg "tuple" = none) (hg2 : Gl X "reversed") (hm2 : X.mg "reversed" = none) (he : PE X e te)
    (hs : starEach [e] X.env = (false, eval e X.env) :: starEach [] X.env := by rfl)
    (hs2 : starEach [.Call (.Name "reversed" p2) [e] [] pos2] X.env = (false, eval (.Call (.Name "reversed" p2) [e] [] pos2) X.env) :: starEach [] X.env := by rfl) (hK : X.K = K := by rfl) :
    PE X (.Call (.Name "tuple" p) [.Call (.Name "reversed" p2) [e] [] pos2] [] pos) (RT.tTupRev K te) := hK ▸ RT.pe_tupRev hc hg hm hg2 hm2 he hs hs2
theorem pe_appK (K : Fg) {o e : Expr} {to te : TE} {apos cpos : Pos} (ho : PE X o to) (he : PE X e te)
    (hbase : attributeBase o "append" X.env (eval o X.env) = eval o X.env := by rfl)
    (hfew : ((backTo cpos (starEach [e] X.env)).all (fun x => !x.1) && (backToKw cpos (keywordEach [] X.env)).all (fun x => x.1.isSome)
      && decide ([e].length + ([] : List Keyword).length + (if ([] : List Keyword).isEmpty then 0 else 1) < 30)) = true := by rfl)
    (hline : (apos.endLine == cpos.line) = true := by rfl) (hs : starEach [e] X.env = (false, eval e X.env) :: starEach [] X.env := by rfl) (hplain : (backTo cpos (starEach [] X.env)).any (·.1) = false := by rfl) (hK : X.K = K := by rfl) :
    PE X (.Call (.Attribute o "append" apos) [e] [] cpos) (tBM K "list" rAppend to (tCons te tNil)) :=
  hK ▸ pe_bm PySem.F.plainAttrs_list PySem.F.slot_list_append PySem.F.type_list_append mt_append ho (pa_cons he pa_nil hs) hbase hfew hline hs hplain
theorem pe_popK (K : Fg) {o : Expr} {to : TE} {apos cpos : Pos} (ho : PE X o to) (hbase : attributeBase o "pop" X.env (eval o X.env) = eval o X.env := by rfl) (hline : (apos.endLine == cpos.line) = true := by rfl) (hK : X.K = K := by rfl) :
    PE X (.Call (.Attribute o "pop" apos) [] [] cpos) (tBM0 K "list" rPop to) := hK ▸ pe_bm0 PySem.F.plainAttrs_list PySem.F.slot_list_pop PySem.F.type_list_pop mt_pop ho hbase hline
end
section
variable {K : Fg} {ρ ρ1 ρ2 ρ3 : DL.Env} {te ta tb : TE} {tt : TT} {g : TG} {js : List Nat} {d : D} {P : Post}
theorem EvT.weak {t : TT} {x : Bool} (w : Wk ρ ρ1) (h : EvT K t ρ1 x ρ2) : EvT K t ρ x ρ2 := fun F B0 B σ H S Q q => by
  obtain ⟨B1, b1, S1⟩ := S.weak w
  exact h F B0 B1 σ H S1 Q fun B2 H2 b2 S2 => q B2 H2 (b1.trans b2) S2
theorem Ev.pre (w : Wk ρ ρ1) (h : Ev K te ρ1 d ρ2) : Ev K te ρ d ρ2 := fun F B0 B σ H S Q q => by
  obtain ⟨B1, b1, S1⟩ := S.weak w
  exact h F B0 B1 σ H S1 Q fun v B2 H2 b2 S2 r => q v B2 H2 (b1.trans b2) S2 r
theorem ev_ifE {x : Bool} {d1 d2 : D} (h : EvT K tt ρ x ρ1) (h1 : x = true → Ev K ta ρ1 d1 ρ2) (h2 : x = false → Ev K tb ρ1 d2 ρ2) : Ev K (tIf tt ta tb) ρ (if x = true then d1 else d2) ρ2 := by
  refine ev_if h (fun e => ?_) fun e => ?_
  · rw [if_pos e]; exact h1 e
  · rw [if_neg (by rw [e]; exact Bool.false_ne_true)]; exact h2 e
theorem en_filterM {α : Type} {wi : TI} {vs : List Nat} (enc : α → D) (xs : List α) (f : α → D) (p : α → Bool) (hi : EvI K wi ρ (xs.map enc) ρ1) (hc : clrB ρ1 vs = true) (hjs : ∀ j ∈ js, j ∈ vs) (hz : xs.length ≤ sizeLine)
    (hs : ∀ x, x ∈ xs → Gx K g js (enc x) ρ1 fun ρ2 => EvT K tt ρ2 (p x) ρ2 ∧ Wk ρ2 ρ1 ∧ (p x = true → ∃ ρ4, Ev K te ρ2 (f x) ρ4 ∧ Wk ρ4 ρ1)) : EvN K (tLc wi g tt te vs) ρ (.lst ((xs.filter p).map f)) ρ1 := by
  have h := en_lc (K := K) (g := g) (tt := tt) (te := te) (vs := vs) (fun _ => ρ1) (fun i => ((xs.take i).filter p).map f) hi (Wk.refl _) rfl (fun _ => clr_of hc) hjs (by rw [List.length_map]; exact hz) (fun i d e => by
    obtain ⟨x, e1, rfl⟩ := map_at e
    have hd : x ∈ xs := List.mem_of_getElem? e1
    intro F B0 B σ H S v r Q q
    refine hs x hd F B0 B σ H S v r Q fun ρ2 σ2 S2 ⟨h1, h2, h3⟩ hw => q ρ2 σ2 S2 ⟨p x, ρ2, h1, fun z => ?_, fun z => ⟨h2, ?_⟩⟩ hw
    · obtain ⟨ρ4, h4, h5⟩ := h3 z
      refine ⟨f x, ρ4, h4, h5, ?_⟩
      rw [List.take_add_one, e1, List.filter_append, List.map_append]
      simp [z]
    · rw [List.take_add_one, e1, List.filter_append, List.map_append]
      simp [z])
  rw [List.length_map, List.take_length] at h
  exact h
theorem en_mapM {α : Type} {wi : TI} {vs : List Nat} (enc : α → D) (xs : List α) (f : α → D) (hi : EvI K wi ρ (xs.map enc) ρ1) (hc : clrB ρ1 vs = true) (hjs : ∀ j ∈ js, j ∈ vs) (hz : xs.length ≤ sizeLine)
    (hs : ∀ x, x ∈ xs → Gx K g js (enc x) ρ1 fun ρ2 => ∃ ρ4, Ev K te ρ2 (f x) ρ4 ∧ Wk ρ4 ρ1) : EvN K (tLc wi g tYes te vs) ρ (.lst (xs.map f)) ρ1 := by
  have h := en_lc (K := K) (g := g) (tt := tYes) (te := te) (vs := vs) (fun _ => ρ1) (fun i => (xs.take i).map f) hi (Wk.refl _) rfl (fun _ => clr_of hc) hjs (by rw [List.length_map]; exact hz) (fun i d e => by
    obtain ⟨x, e1, rfl⟩ := map_at e
    have hd : x ∈ xs := List.mem_of_getElem? e1
    intro F B0 B σ H S v r Q q
    refine hs x hd F B0 B σ H S v r Q fun ρ2 σ2 S2 ⟨ρ4, h1, h2⟩ hw => q ρ2 σ2 S2 ⟨true, ρ2, ett_yes, fun _ => ⟨f x, ρ4, h1, h2, ?_⟩, fun z => nomatch z⟩ hw
    rw [List.take_add_one, e1, List.map_append]
    rfl)
  rw [List.length_map, List.take_length] at h
  exact h
theorem sx_asg3 {n1 n2 n3 : Nat} (h : Ev K te ρ d ρ1) (h1 : n1 < ρ1.length) (h2 : n2 < ρ1.length) (h3 : n3 < ρ1.length) (p : P.nx (((ρ1.set n1 (some (.dat d))).set n2 (some (.dat d))).set n3 (some (.dat d)))) : Sx K (tAsg3 te (gName n1) (gName n2) (gName n3)) ρ P := fun F B0 B σ H S E q1 _ _ _ _ =>
  h F B0 B σ H S _ fun v B1 H1 _ S1 r => q1 _ B1 _ H1 (((S1.put r h1).put r (by simpa using h2)).put r (by simpa using h3)) p
theorem sx_parO {n m : Nat} {e : D} (h : Ev K ta ρ d ρ1) (h2 : EvN K tb ρ1 e ρ2) (hn : n < ρ2.length) (hm : m < ρ2.length) (p : P.nx ((ρ2.set n (some (.dat d))).set m (some (.own false e)))) (hne : n ≠ m := by decide) : Sx K (tPar n m (tCons ta (tCons tb tNil))) ρ P := fun F B0 B σ H S E q1 _ _ _ _ =>
  h F B0 B σ H S _ fun x B1 H1 b1 S1 r1 => h2 F B0 B1 σ H1 S1 _ fun s B2 H2 b2 S2 f => by
    refine ⟨x, .ref s, rfl, ?_⟩
    have S3 := f.take S2 hm
    have S4 := S3.put (r1.mono b2) (n := n) (by simpa using hn)
    rw [List.set_comm _ _ (Ne.symm hne), List.set_comm _ _ (Ne.symm hne)] at S4
    exact q1 _ B2 _ H2 S4 p
theorem ev_isB {x y : Bool} (ha : Ev K ta ρ (.bl x) ρ1) (hb : Ev K tb ρ1 (.bl y) ρ2) : Ev K (tOp rIsB ta tb) ρ (.bl (decide (x = y))) ρ2 := ev_op ha hb fun B H v w hs ra rb Q q => ⟨x, y, rp_bl.mp ra, rp_bl.mp rb, q _ B H (Grow.refl hs) (rp_bl.mpr rfl)⟩
theorem ev_isnotB {x y : Bool} (ha : Ev K ta ρ (.bl x) ρ1) (hb : Ev K tb ρ1 (.bl y) ρ2) : Ev K (tOp rNotB ta tb) ρ (.bl (!decide (x = y))) ρ2 := ev_op ha hb fun B H v w hs ra rb Q q => ⟨x, y, rp_bl.mp ra, rp_bl.mp rb, q _ B H (Grow.refl hs) (rp_bl.mpr rfl)⟩
theorem at_intsI {xs : List Int} {r : Int} (h0 : 0 ≤ r) (h1 : r < xs.length) : L2.atI (xs.map D.int) r = some (.int (xs.getD r.toNat 0)) := by
  obtain ⟨k, rfl⟩ : ∃ k : Nat, r = k := ⟨r.toNat, by omega⟩
  have hk : k < xs.length := by omega
  refine L2.atI_nat ?_
  rw [List.getElem?_map, List.getElem?_eq_getElem hk, List.getD_eq_getElem?_getD, Int.toNat_natCast, List.getElem?_eq_getElem hk]
  rfl
theorem EvI.cast {wi : TI} {ds es : List D} (h : EvI K wi ρ ds ρ1) (e : ds = es) : EvI K wi ρ es ρ1 := e ▸ h
theorem rgD_map {n : Nat} : rgD 0 n = (List.range n).map fun (i : Nat) => D.int (i : Int) := by
  unfold rgD
  apply List.map_congr_left
  intro i _
  rw [Int.zero_add]
end
end DL

namespace K85
open PySem L2 DL
def topS (i : Nat) : Stmt := PySem.Challenge.pw_wirelooker_k85_whole_costs_of_rows.main.body.getD i (.Pass ⟨0, 0, 0, 0⟩)
abbrev s_Costs__init : Stmt := (inClass (topS 4) 0)
abbrev N_Costs__init : List Str := ["self", "one", "other", "unlike", "lack", "more"]
abbrev p_Costs__init : List Str := ["self", "one", "other", "unlike", "lack", "more"]
theorem sc_Costs__init : FnScope N_Costs__init p_Costs__init (defScope s_Costs__init) := ⟨rfl, rfl, rfl, by decide +kernel, rfl, by decide +kernel, by decide +kernel⟩

abbrev s_Costs_steps_from : Stmt := (inClass (topS 4) 1)
abbrev N_Costs_steps_from : List Str := ["self", "i", "j", "found", "alike"]
abbrev p_Costs_steps_from : List Str := ["self", "i", "j"]
theorem sc_Costs_steps_from : FnScope N_Costs_steps_from p_Costs_steps_from (defScope s_Costs_steps_from) := ⟨rfl, rfl, rfl, by decide +kernel, rfl, by decide +kernel, by decide +kernel⟩

abbrev s_Costs_places : Stmt := (inClass (topS 4) 2)
abbrev N_Costs_places : List Str := ["self", "i", "j"]
abbrev p_Costs_places : List Str := ["self"]
theorem sc_Costs_places : FnScope N_Costs_places p_Costs_places (defScope s_Costs_places) := ⟨rfl, rfl, rfl, by decide +kernel, rfl, by decide +kernel, by decide +kernel⟩

abbrev s_Costs_best : Stmt := (inClass (topS 4) 3)
abbrev N_Costs_best : List Str := ["self", "found", "here", "i", "j", "step", "cost", "whole"]
abbrev p_Costs_best : List Str := ["self"]
theorem sc_Costs_best : FnScope N_Costs_best p_Costs_best (defScope s_Costs_best) := ⟨rfl, rfl, rfl, by decide +kernel, rfl, by decide +kernel, by decide +kernel⟩

abbrev s_held : Stmt := (topS 5)
abbrev N_held : List Str := ["one", "other", "unlike", "lack", "more", "costs", "best", "cost", "step", "here", "steps", "whole", "rows", "i", "j"]
abbrev p_held : List Str := ["one", "other", "unlike", "lack", "more"]
theorem sc_held : FnScope N_held p_held (defScope s_held) := ⟨rfl, rfl, rfl, by decide +kernel, rfl, by decide +kernel, by decide +kernel⟩

abbrev s_cost_of : Stmt := (topS 6)
abbrev N_cost_of : List Str := ["costs", "steps", "i", "j", "whole", "step", "ways", "cost", "a", "b", "own"]
abbrev p_cost_of : List Str := ["costs", "steps"]
theorem sc_cost_of : FnScope N_cost_of p_cost_of (defScope s_cost_of) := ⟨rfl, rfl, rfl, by decide +kernel, rfl, by decide +kernel, by decide +kernel⟩

abbrev s_is_table : Stmt := (topS 7)
abbrev N_is_table : List Str := ["costs", "rows", "cost", "i", "j", "row", "a", "b", "step", "price"]
abbrev p_is_table : List Str := ["costs", "rows", "cost"]
theorem sc_is_table : FnScope N_is_table p_is_table (defScope s_is_table) := ⟨rfl, rfl, rfl, by decide +kernel, rfl, by decide +kernel, by decide +kernel⟩

abbrev s_held_right : Stmt := (topS 8)
abbrev N_held_right : List Str := ["one", "other", "some", "unlike", "lack", "more", "costs", "cost", "steps", "rows"]
abbrev p_held_right : List Str := ["one", "other", "some", "unlike", "lack", "more"]
theorem sc_held_right : FnScope N_held_right p_held_right (defScope s_held_right) := ⟨rfl, rfl, rfl, by decide +kernel, rfl, by decide +kernel, by decide +kernel⟩

abbrev s_law_box : Stmt := (topS 10)
abbrev N_law_box : List Str := ["_law_script", "_law_k", "_law_cell", "_law_seed"]
abbrev p_law_box : List Str := ["_law_script", "_law_k"]
theorem sc_law_box : FnScope N_law_box p_law_box (defScope s_law_box) := ⟨rfl, rfl, rfl, by decide +kernel, rfl, by decide +kernel, by decide +kernel⟩

abbrev s_law_take : Stmt := (topS 11)
abbrev N_law_take : List Str := ["_law_box_here", "_law_many", "_law_digit", "_law_one"]
abbrev p_law_take : List Str := ["_law_box_here", "_law_many"]
theorem sc_law_take : FnScope N_law_take p_law_take (defScope s_law_take) := ⟨rfl, rfl, rfl, by decide +kernel, rfl, by decide +kernel, by decide +kernel⟩

abbrev s_law_next_row : Stmt := (topS 12)
abbrev N_law_next_row : List Str := ["_law_box_here", "_law_one", "_law_span", "_law_found", "_law_number", "_law_form"]
abbrev p_law_next_row : List Str := ["_law_box_here", "_law_one", "_law_span"]
theorem sc_law_next_row : FnScope N_law_next_row p_law_next_row (defScope s_law_next_row) := ⟨rfl, rfl, rfl, by decide +kernel, rfl, by decide +kernel, by decide +kernel⟩

abbrev s_law_cost : Stmt := (topS 13)
abbrev N_law_cost : List Str := ["_law_one", "_law_other", "_law_costs"]
abbrev p_law_cost : List Str := ["_law_one", "_law_other", "_law_costs"]
theorem sc_law_cost : FnScope N_law_cost p_law_cost (defScope s_law_cost) := ⟨rfl, rfl, rfl, by decide +kernel, rfl, by decide +kernel, by decide +kernel⟩

abbrev s_law_turned_right : Stmt := (topS 14)
abbrev N_law_turned_right : List Str := ["_law_one", "_law_other", "_law_costs", "_law_told", "_law_wide", "_law_rows", "_law_table", "_law_words", "_law_steps", "_law_step", "_law_swapped", "_law_j", "_law_row"]
abbrev p_law_turned_right : List Str := ["_law_one", "_law_other", "_law_costs"]
theorem sc_law_turned_right : FnScope N_law_turned_right p_law_turned_right (defScope s_law_turned_right) := ⟨rfl, rfl, rfl, by decide +kernel, rfl, by decide +kernel, by decide +kernel⟩

abbrev s_law_right : Stmt := (topS 15)
abbrev N_law_right : List Str := ["_law_one", "_law_other", "_law_third", "_law_costs", "_law_whole", "_law_k", "_law_less"]
abbrev p_law_right : List Str := ["_law_one", "_law_other", "_law_third", "_law_costs"]
theorem sc_law_right : FnScope N_law_right p_law_right (defScope s_law_right) := ⟨rfl, rfl, rfl, by decide +kernel, rfl, by decide +kernel, by decide +kernel⟩

abbrev s_law : Stmt := (topS 16)
abbrev N_law : List Str := ["_law_script", "_law_k", "_law_box_here", "_law_span", "_law_many", "_law_one", "_law_other", "_law_third", "_law_dear", "_law_costs", "_law_way", "_law_turn"]
abbrev p_law : List Str := ["_law_script"]
theorem sc_law : FnScope N_law p_law (defScope s_law) := ⟨rfl, rfl, rfl, by decide +kernel, rfl, by decide +kernel, by decide +kernel⟩

structure Tx (K : Fg) (mg : Str → Option Value) where
  f_Costs__init : Addr
  fd_Costs__init : FuncData
  f_Costs_steps_from : Addr
  fd_Costs_steps_from : FuncData
  f_Costs_places : Addr
  fd_Costs_places : FuncData
  f_Costs_best : Addr
  fd_Costs_best : FuncData
  f_held : Addr
  fd_held : FuncData
  f_cost_of : Addr
  fd_cost_of : FuncData
  f_is_table : Addr
  fd_is_table : FuncData
  f_held_right : Addr
  fd_held_right : FuncData
  f_law_box : Addr
  fd_law_box : FuncData
  f_law_take : Addr
  fd_law_take : FuncData
  f_law_next_row : Addr
  fd_law_next_row : FuncData
  f_law_cost : Addr
  fd_law_cost : FuncData
  f_law_turned_right : Addr
  fd_law_turned_right : FuncData
  f_law_right : Addr
  fd_law_right : FuncData
  f_law : Addr
  fd_law : FuncData
  C_Costs : Addr
  n_all : mg "all" = none
  n_any : mg "any" = none
  n_int : mg "int" = none
  n_len : mg "len" = none
  n_max : mg "max" = none
  n_min : mg "min" = none
  n_range : mg "range" = none
  n_reversed : mg "reversed" = none
  n_tuple : mg "tuple" = none
  F_Costs__init : Fun K "__init__" "Costs.__init__" s_Costs__init f_Costs__init fd_Costs__init
  b_Costs__init : Binds K fd_Costs__init p_Costs__init []
  F_Costs_steps_from : Fun K "steps_from" "Costs.steps_from" s_Costs_steps_from f_Costs_steps_from fd_Costs_steps_from
  b_Costs_steps_from : Binds K fd_Costs_steps_from p_Costs_steps_from []
  F_Costs_places : Fun K "places" "Costs.places" s_Costs_places f_Costs_places fd_Costs_places
  b_Costs_places : Binds K fd_Costs_places p_Costs_places []
  F_Costs_best : Fun K "best" "Costs.best" s_Costs_best f_Costs_best fd_Costs_best
  b_Costs_best : Binds K fd_Costs_best p_Costs_best []
  g_held : mg "held" = some (.ref f_held)
  F_held : FunD K "held" "held" (defArgs s_held) (defBody s_held) (defScope s_held) [] [("unlike", .int 1), ("lack", .int 1), ("more", .int 1)] f_held fd_held
  g_cost_of : mg "cost_of" = some (.ref f_cost_of)
  F_cost_of : Fun K "cost_of" "cost_of" s_cost_of f_cost_of fd_cost_of
  b_cost_of : Binds K fd_cost_of p_cost_of []
  g_is_table : mg "is_table" = some (.ref f_is_table)
  F_is_table : Fun K "is_table" "is_table" s_is_table f_is_table fd_is_table
  b_is_table : Binds K fd_is_table p_is_table []
  g_held_right : mg "held_right" = some (.ref f_held_right)
  F_held_right : FunD K "held_right" "held_right" (defArgs s_held_right) (defBody s_held_right) (defScope s_held_right) [] [("unlike", .int 1), ("lack", .int 1), ("more", .int 1)] f_held_right fd_held_right
  g__law_box : mg "_law_box" = some (.ref f_law_box)
  F_law_box : Fun K "_law_box" "_law_box" s_law_box f_law_box fd_law_box
  b_law_box : Binds K fd_law_box p_law_box []
  g__law_take : mg "_law_take" = some (.ref f_law_take)
  F_law_take : Fun K "_law_take" "_law_take" s_law_take f_law_take fd_law_take
  b_law_take : Binds K fd_law_take p_law_take []
  g__law_next_row : mg "_law_next_row" = some (.ref f_law_next_row)
  F_law_next_row : Fun K "_law_next_row" "_law_next_row" s_law_next_row f_law_next_row fd_law_next_row
  b_law_next_row : Binds K fd_law_next_row p_law_next_row []
  g__law_cost : mg "_law_cost" = some (.ref f_law_cost)
  F_law_cost : Fun K "_law_cost" "_law_cost" s_law_cost f_law_cost fd_law_cost
  b_law_cost : Binds K fd_law_cost p_law_cost []
  g__law_turned_right : mg "_law_turned_right" = some (.ref f_law_turned_right)
  F_law_turned_right : Fun K "_law_turned_right" "_law_turned_right" s_law_turned_right f_law_turned_right fd_law_turned_right
  b_law_turned_right : Binds K fd_law_turned_right p_law_turned_right []
  g__law_right : mg "_law_right" = some (.ref f_law_right)
  F_law_right : Fun K "_law_right" "_law_right" s_law_right f_law_right fd_law_right
  b_law_right : Binds K fd_law_right p_law_right []
  g_law : mg "law" = some (.ref f_law)
  F_law : Fun K "law" "law" s_law f_law fd_law
  b_law : Binds K fd_law p_law []
  k_held_2_unlike_lack_more : KBn K fd_held p_held 2 ["unlike", "lack", "more"] (fun us ws => us ++ ws) (fun vs zs => vs ++ zs)
  k_held_right_3_unlike_lack_more : KBn K fd_held_right p_held_right 3 ["unlike", "lack", "more"] (fun us ws => us ++ ws) (fun vs zs => vs ++ zs)
  g_Costs : mg "Costs" = some (.ref C_Costs)
  c_Costs : Cls K C_Costs
  M_Costs : Mk K C_Costs f_Costs__init
  m_Costs_steps_from : Meth K C_Costs "steps_from" f_Costs_steps_from
  m_Costs_places : Meth K C_Costs "places" f_Costs_places
  m_Costs_best : Meth K C_Costs "best" f_Costs_best
  a_Costs_one : NoAttr K C_Costs "one"
  a_Costs_other : NoAttr K C_Costs "other"
  a_Costs_unlike : NoAttr K C_Costs "unlike"
  a_Costs_lack : NoAttr K C_Costs "lack"
  a_Costs_more : NoAttr K C_Costs "more"
end K85

namespace K85
open PySem L2 DL
section
variable {Pr : Program} {w : World} {K : Fg} {mg : Str → Option Value} {base : Heap}
abbrev Box := Int × Int × Int
abbrev boxD (b : Box) : D := .lst [.int b.1, .int b.2.1, .int b.2.2]
def takeF (b : Box) (m : Int) : Int × Box :=
  if 0 < b.1 then (b.1 % m, (b.1 / m, b.2.1, b.2.2)) else
    let one := (b.2.1 + 104729 * (b.2.2 + 1)) * 69623 % 2147483647
    let b1 := (one * 48271 + 30103) % 2147483629 + 1
    ((one * 2147483647 + b1) / 8191 % m, (b.1, b1, b.2.2 + 1))
theorem takeF_range (b : Box) {m : Int} (h : 0 < m) : 0 ≤ (takeF b m).1 ∧ (takeF b m).1 < m := by
  unfold takeF
  split
  · exact ⟨Int.emod_nonneg _ (by omega), Int.emod_lt_of_pos _ h⟩
  · exact ⟨Int.emod_nonneg _ (by omega), Int.emod_lt_of_pos _ h⟩
def preTake (o : D) (ds : List D) (d o' : D) : Prop := ∃ b m, 0 < m ∧ m < 2 ^ 64 ∧ o = boxD b ∧ ds = [.int m] ∧ d = .int (takeF b m).1 ∧ o' = boxD (takeF b m).2
theorem cm {i j : Int} (h : -(2 ^ 64) < j ∧ j < 2 ^ 64) : CMul i j := .inr h
theorem ok_law_take (T : Tx K mg) : FnOk Pr w K mg base CX0 1 T.f_law_take T.fd_law_take p_law_take (spO K preTake) := by
  refine fn_ok T.F_law_take sc_law_take ?len fun cdv A outer s H E hr svs d svs' hp => ?body
  case len =>
    rintro svs d svs' ⟨o, ds, o', rfl, _, b, m, _, _, _, rfl, _⟩
    rfl
  case body =>
    obtain ⟨o, ds, o', rfl, rfl, b, m, h0, h1, rfl, rfl, rfl, rfl⟩ := hp
    refine ⟨_, (pss_cons (ps_if (pt_cmpR op_gt (pe_ix (ix_K K) (pv 0) pe_int (fun _ _ => rfl)) pe_int (nomark _))
    (pss_cons (ps_set (i := 2) sc_law_take.nd rfl (Or.inl rfl) (pe_op op_mod (pe_callTy call_int1 (by rfl) T.n_int (by decide +kernel) (pa_cons (pe_ix (ix_K K) (pv 0) pe_int (fun _ _ => rfl)) pa_nil)) (pv 1)))
    (pss_cons (ps_asg (pe_op op_fdivW (pe_ix (ix_K K) (pv 0) pe_int (fun _ _ => rfl)) (pv 1)) (pg_sub (pv 0) pe_int set_list))
    (pss_one (ps_ret (pv 2)))))
    pss_nil)
    (pss_cons (ps_asg (pe_op (op_addK K) (pe_ix (ix_K K) (pv 0) pe_int (fun _ _ => rfl)) pe_int) (pg_sub (pv 0) pe_int set_list))
    (pss_cons (ps_set (i := 3) sc_law_take.nd rfl (Or.inl rfl) (pe_op op_mod (pe_callTy call_int1 (by rfl) T.n_int (by decide +kernel) (pa_cons (pe_op op_mul (pe_op (op_addK K) (pe_ix (ix_K K) (pv 0) pe_int (fun _ _ => rfl)) (pe_op op_mul pe_int (pe_ix (ix_K K) (pv 0) pe_int (fun _ _ => rfl)))) pe_int) pa_nil)) pe_int))
    (pss_cons (ps_asg (pe_op (op_addK K) (pe_op op_mod (pe_op (op_addK K) (pe_op op_mul (pv 3) pe_int) pe_int) pe_int) pe_int) (pg_sub (pv 0) pe_int set_list))
    (pss_one (ps_ret (pe_op op_mod (pe_op op_fdivW (pe_op (op_addK K) (pe_op op_mul (pv 3) pe_int) (pe_ix (ix_K K) (pv 0) pe_int (fun _ _ => rfl))) pe_int) (pv 1)))))))), ?_⟩
    refine sx_seq (sx_if (et_test (ev_gt (ev_ixO rfl ev_int rfl rfl) ev_int)) (fun hc => ?_) fun hc => ?_)
    · have hb : 0 < b.1 := of_decide_eq_true hc
      refine sx_seq (sx_set (ev_mod (ev_intI (ea_cons (ev_ixO rfl ev_int rfl rfl) ea_nil)) (ev_var rfl) h0) (bl rfl) ?_)
      refine sx_seq (sx_setL (ev_fdiv (ev_ixO rfl ev_int rfl rfl) (ev_var rfl) h0 h1) rfl ev_int rfl rfl ?_)
      refine sx_ret (ev_var rfl) ⟨?_, keeps_own (o := boxD b) ?_⟩
      · unfold takeF; rw [if_pos hb]
      · unfold takeF; rw [if_pos hb]; rfl
    · have hb : ¬ 0 < b.1 := of_decide_eq_false hc
      refine sx_next ?_
      refine sx_seq (sx_setL (ev_add (ev_ixO rfl ev_int rfl rfl) ev_int) rfl ev_int rfl rfl ?_)
      refine sx_seq (sx_set (ev_mod (ev_intI (ea_cons (ev_mul (ev_add (ev_ixO rfl ev_int rfl rfl) (ev_mul ev_int (ev_ixO rfl ev_int rfl rfl) (.inl ⟨by decide, by decide⟩))) ev_int (cm ⟨by decide, by decide⟩)) ea_nil)) ev_int (by decide)) (bl rfl) ?_)
      refine sx_seq (sx_setL (ev_add (ev_mod (ev_add (ev_mul (ev_var rfl) ev_int (cm ⟨by decide, by decide⟩)) ev_int) ev_int (by decide)) ev_int) rfl ev_int rfl rfl ?_)
      refine sx_ret (ev_mod (ev_fdiv (ev_add (ev_mul (ev_var rfl) ev_int (cm ⟨by decide, by decide⟩)) (ev_ixO rfl ev_int rfl rfl)) ev_int (by decide) (by decide)) (ev_var rfl) h0) ⟨?_, keeps_own (o := boxD b) ?_⟩
      · unfold takeF; rw [if_neg hb]
      · unfold takeF; rw [if_neg hb]; rfl
end
end K85

namespace K85
open DL
/-! ### rows and costs -/
structure Cst where
  one : List Int
  other : List Int
  u : Int
  l : Int
  m : Int
inductive Stp where
  | same (i j : Nat) | unlike (i j : Nat) | lack (i : Nat) | more (j : Nat)
  deriving DecidableEq
abbrev Mv := Nat × Nat × Stp × Int
section
variable (c : Cst)
def al (i j : Nat) : Bool := decide (c.one.getD i 0 = c.other.getD j 0)
def sub (i j : Nat) : Int := if al c i j = true then 0 else c.u
def st (i j : Nat) : Stp := if al c i j = true then .same i j else .unlike i j
def p1 (i j : Nat) : List Mv := if i < c.one.length ∧ j < c.other.length then [(i + 1, j + 1, st c i j, sub c i j)] else []
def p2 (i j : Nat) : List Mv := if i < c.one.length then [(i + 1, j, .lack i, c.l)] else []
def p3 (i j : Nat) : List Mv := if j < c.other.length then [(i, j + 1, .more j, c.m)] else []
def stepsFrom (i j : Nat) : List Mv := p1 c i j ++ p2 c i j ++ p3 c i j
theorem mem_steps {c : Cst} {i j : Nat} {x : Mv} : x ∈ stepsFrom c i j ↔ (i < c.one.length ∧ j < c.other.length ∧ x = (i + 1, j + 1, st c i j, sub c i j)) ∨ (i < c.one.length ∧ x = (i + 1, j, .lack i, c.l)) ∨ (j < c.other.length ∧ x = (i, j + 1, .more j, c.m)) := by
  unfold stepsFrom p1 p2 p3
  by_cases h1 : i < c.one.length <;> by_cases h2 : j < c.other.length <;> simp [h1, h2]
def dp : Nat → Nat → Int
  | 0, 0 => 0
  | i + 1, 0 => dp i 0 + c.l
  | 0, j + 1 => dp 0 j + c.m
  | i + 1, j + 1 => min (dp i j + sub c i j) (min (dp i (j + 1) + c.l) (dp (i + 1) j + c.m))
theorem dp_succ {c : Cst} {i j : Nat} {x : Mv} (h : x ∈ stepsFrom c i j) : dp c x.1 x.2.1 ≤ dp c i j + x.2.2.2 := by
  rcases mem_steps.mp h with ⟨_, _, rfl⟩ | ⟨_, rfl⟩ | ⟨_, rfl⟩
  · simp only [dp]; omega
  · cases j with
    | zero => simp only [dp]; omega
    | succ j => simp only [dp]; omega
  · cases i with
    | zero => simp only [dp]; omega
    | succ i => simp only [dp]; omega
theorem dp_pred {c : Cst} {i j : Nat} (hi : i ≤ c.one.length) (hj : j ≤ c.other.length) (h : ¬ (i = 0 ∧ j = 0)) : ∃ a b s k, (i, j, s, k) ∈ stepsFrom c a b ∧ dp c i j = dp c a b + k := by
  cases i with
  | zero =>
    cases j with
    | zero => exact absurd ⟨rfl, rfl⟩ h
    | succ j => exact ⟨0, j, .more j, c.m, mem_steps.mpr (.inr (.inr ⟨hj, rfl⟩)), by simp only [dp]⟩
  | succ i =>
    cases j with
    | zero => exact ⟨i, 0, .lack i, c.l, mem_steps.mpr (.inr (.inl ⟨hi, rfl⟩)), by simp only [dp]⟩
    | succ j =>
      by_cases h1 : dp c i j + sub c i j ≤ min (dp c i (j + 1) + c.l) (dp c (i + 1) j + c.m)
      · exact ⟨i, j, st c i j, sub c i j, mem_steps.mpr (.inl ⟨hi, hj, rfl⟩), by simp only [dp]; omega⟩
      · by_cases h2 : dp c i (j + 1) + c.l ≤ dp c (i + 1) j + c.m
        · exact ⟨i, j + 1, .lack i, c.l, mem_steps.mpr (.inr (.inl ⟨hi, rfl⟩)), by simp only [dp]; omega⟩
        · exact ⟨i + 1, j, .more j, c.m, mem_steps.mpr (.inr (.inr ⟨hj, rfl⟩)), by simp only [dp]; omega⟩
end

/-! ### the table that best fills -/
abbrev Ent := Int × Option (Stp × Nat × Nat)
abbrev Tab := List ((Nat × Nat) × Ent)
def costAt (k : Tab) (h : Nat × Nat) : Int := ((getD k h).getD (0, none)).1
def relaxOk (h : Nat × Nat) (k : Tab) (x : Mv) : Bool := !(getD k (x.1, x.2.1)).isSome || decide (costAt k h + x.2.2.2 < costAt k (x.1, x.2.1))
def relax (h : Nat × Nat) (k : Tab) (x : Mv) : Tab := if relaxOk h k x = true then putD k (x.1, x.2.1) (costAt k h + x.2.2.2, some (x.2.2.1, h.1, h.2)) else k
def placesL (n m : Nat) : List (Nat × Nat) := (List.range (n + 1)).flatMap fun i => (List.range (m + 1)).map fun j => (i, j)
def turnB (c : Cst) (k : Tab) (h : Nat × Nat) : Tab := (stepsFrom c h.1 h.2).foldl (relax h) k
def tab0 : Tab := [((0, 0), (0, none))]
def bestAt (c : Cst) (t : Nat) : Tab := ((placesL c.one.length c.other.length).take t).foldl (turnB c) tab0
def best (c : Cst) : Tab := (placesL c.one.length c.other.length).foldl (turnB c) tab0

/-- where (i, j) stands in the row of places -/
def ixP (m i j : Nat) : Nat := i * (m + 1) + j
theorem placesL_len (n m : Nat) : (placesL n m).length = (n + 1) * (m + 1) := by
  unfold placesL
  rw [List.length_flatMap]
  simp [List.map_const', List.sum_replicate_nat]
theorem placesL_succ (n m : Nat) : placesL (n + 1) m = placesL n m ++ (List.range (m + 1)).map fun j => (n + 1, j) := by
  unfold placesL
  rw [List.range_succ (n := n + 1), List.flatMap_append]
  simp
theorem placesL_at {m : Nat} : ∀ {n t i j : Nat}, (placesL n m)[t]? = some (i, j) → i ≤ n ∧ j ≤ m ∧ t = ixP m i j
  | 0, t, i, j, h => by
    unfold placesL at h
    simp only [Nat.zero_add, List.range_one, List.flatMap_cons, List.flatMap_nil, List.append_nil] at h
    rw [List.getElem?_map] at h
    by_cases ht : t < m + 1
    · rw [List.getElem?_range ht] at h
      cases h
      exact ⟨Nat.le_refl _, by omega, by unfold ixP; omega⟩
    · rw [List.getElem?_eq_none (by simpa using ht)] at h
      cases h
  | n + 1, t, i, j, h => by
    rw [placesL_succ] at h
    by_cases ht : t < (placesL n m).length
    · rw [List.getElem?_append_left ht] at h
      obtain ⟨h1, h2, h3⟩ := placesL_at h
      exact ⟨by omega, h2, h3⟩
    · rw [List.getElem?_append_right (by omega), placesL_len, List.getElem?_map] at h
      rw [placesL_len] at ht
      by_cases hs : t - (n + 1) * (m + 1) < m + 1
      · rw [List.getElem?_range hs] at h
        cases h
        exact ⟨Nat.le_refl _, by omega, by unfold ixP; omega⟩
      · rw [List.getElem?_eq_none (by simpa using hs)] at h
        cases h
theorem placesL_ix {n m i j : Nat} (hi : i ≤ n) (hj : j ≤ m) : (placesL n m)[ixP m i j]? = some (i, j) := by
  induction n with
  | zero =>
    have e : i = 0 := by omega
    subst e
    unfold placesL ixP
    simp only [Nat.zero_add, List.range_one, List.flatMap_cons, List.flatMap_nil, List.append_nil, Nat.zero_mul]
    rw [List.getElem?_map, List.getElem?_range (by omega)]
    rfl
  | succ n ih =>
    rw [placesL_succ]
    by_cases h : i ≤ n
    · rw [List.getElem?_append_left ?_]
      · exact ih h
      · rw [placesL_len]
        unfold ixP
        have : i * (m + 1) ≤ n * (m + 1) := Nat.mul_le_mul_right _ h
        rw [Nat.succ_mul]
        omega
    · have e : i = n + 1 := by omega
      subst e
      rw [List.getElem?_append_right (by rw [placesL_len]; unfold ixP; omega), placesL_len, List.getElem?_map]
      have : ixP m (n + 1) j - (n + 1) * (m + 1) = j := by unfold ixP; omega
      rw [this, List.getElem?_range (by omega)]
      rfl
theorem ixP_lt {m i j a b : Nat} (hj : j ≤ m) (h : i < a ∨ (i = a ∧ j < b)) : ixP m i j < ixP m a b := by
  unfold ixP
  rcases h with h | ⟨rfl, h⟩
  · have : (i + 1) * (m + 1) ≤ a * (m + 1) := Nat.mul_le_mul_right _ h
    rw [Nat.succ_mul] at this
    omega
  · omega

/-- the table behind t places -/
structure BInv (c : Cst) (t : Nat) (k : Tab) : Prop where
  val : ∀ i j e, getD k (i, j) = some e → (e = (0, none) ∧ i = 0 ∧ j = 0) ∨ ∃ a b s q, e = (dp c a b + q, some (s, a, b)) ∧ (i, j, s, q) ∈ stepsFrom c a b ∧ a ≤ c.one.length ∧ b ≤ c.other.length ∧ ixP c.other.length a b < t
  suc : ∀ a b x, a ≤ c.one.length → b ≤ c.other.length → ixP c.other.length a b < t → x ∈ stepsFrom c a b → ∃ e, getD k (x.1, x.2.1) = some e ∧ e.1 ≤ dp c a b + x.2.2.2
  done : ∀ a b, a ≤ c.one.length → b ≤ c.other.length → ixP c.other.length a b < t → ∃ e, getD k (a, b) = some e ∧ e.1 = dp c a b
  zero : ∃ e, getD k (0, 0) = some e ∧ e.1 ≤ 0
theorem step_ix {c : Cst} {a b : Nat} {x : Mv} (h : x ∈ stepsFrom c a b) (hb : b ≤ c.other.length) : x.1 ≤ c.one.length ∨ a = x.1 := by
  rcases mem_steps.mp h with ⟨h1, _, rfl⟩ | ⟨h1, rfl⟩ | ⟨_, rfl⟩
  · exact .inl h1
  · exact .inl h1
  · exact .inr rfl
theorem step_in {c : Cst} {a b : Nat} {x : Mv} (h : x ∈ stepsFrom c a b) (ha : a ≤ c.one.length) (hb : b ≤ c.other.length) : x.1 ≤ c.one.length ∧ x.2.1 ≤ c.other.length ∧ ixP c.other.length a b < ixP c.other.length x.1 x.2.1 ∧ a + b < x.1 + x.2.1 := by
  rcases mem_steps.mp h with ⟨h1, h2, rfl⟩ | ⟨h1, rfl⟩ | ⟨h1, rfl⟩
  · exact ⟨h1, h2, ixP_lt hb (.inl (Nat.lt_succ_self _)), by show a + b < a + 1 + (b + 1); omega⟩
  · exact ⟨h1, hb, ixP_lt hb (.inl (Nat.lt_succ_self _)), by show a + b < a + 1 + b; omega⟩
  · exact ⟨ha, h1, ixP_lt hb (.inr ⟨rfl, Nat.lt_succ_self _⟩), by show a + b < a + (b + 1); omega⟩
/-- what the place to come next has -/
theorem BInv.next {c : Cst} {t : Nat} {k : Tab} (I : BInv c t k) {i j : Nat} (hi : i ≤ c.one.length) (hj : j ≤ c.other.length) (ht : t = ixP c.other.length i j) : ∃ e, getD k (i, j) = some e ∧ e.1 = dp c i j := by
  by_cases h0 : i = 0 ∧ j = 0
  · obtain ⟨rfl, rfl⟩ := h0
    obtain ⟨e, h1, h2⟩ := I.zero
    refine ⟨e, h1, ?_⟩
    rcases I.val 0 0 e h1 with ⟨rfl, _⟩ | ⟨a, b, s, q, _, h, _⟩
    · simp only [dp]
    · rcases mem_steps.mp h with ⟨_, _, z⟩ | ⟨_, z⟩ | ⟨_, z⟩ <;> injection z with z1 z2 <;> first | omega | (injection z2 with z2 z3; omega)
  · obtain ⟨a, b, s, q, h1, h2⟩ := dp_pred hi hj h0
    have hab : a ≤ c.one.length ∧ b ≤ c.other.length ∧ ixP c.other.length a b < t := by
      rcases mem_steps.mp h1 with ⟨g1, g2, g⟩ | ⟨g1, g⟩ | ⟨g1, g⟩
      · injection g with g3 g4; injection g4 with g4 g5
        exact ⟨by omega, by omega, by rw [ht]; exact ixP_lt (by omega) (.inl (by omega))⟩
      · injection g with g3 g4; injection g4 with g4 g5
        exact ⟨by omega, by omega, by rw [ht]; exact ixP_lt (by omega) (.inl (by omega))⟩
      · injection g with g3 g4; injection g4 with g4 g5
        exact ⟨by omega, by omega, by rw [ht]; exact ixP_lt (by omega) (.inr ⟨by omega, by omega⟩)⟩
    obtain ⟨e, e1, e2⟩ := I.suc a b _ hab.1 hab.2.1 hab.2.2 h1
    refine ⟨e, e1, ?_⟩
    have le : e.1 ≤ dp c i j := by rw [h2]; exact e2
    rcases I.val i j e e1 with ⟨rfl, rfl, rfl⟩ | ⟨a', b', s', q', rfl, h', _⟩
    · exact absurd ⟨rfl, rfl⟩ h0
    · have := dp_succ h'
      simp only at this le ⊢
      omega
/-- within the turn at (i, j): the moves of done have been made -/
structure TInv (c : Cst) (t i j : Nat) (done : List Mv) (k : Tab) : Prop where
  val : ∀ a' b' e, getD k (a', b') = some e → (e = (0, none) ∧ a' = 0 ∧ b' = 0) ∨ ∃ a b s q, e = (dp c a b + q, some (s, a, b)) ∧ (a', b', s, q) ∈ stepsFrom c a b ∧ a ≤ c.one.length ∧ b ≤ c.other.length ∧ ixP c.other.length a b < t + 1
  suc : ∀ a b x, a ≤ c.one.length → b ≤ c.other.length → ixP c.other.length a b < t → x ∈ stepsFrom c a b → ∃ e, getD k (x.1, x.2.1) = some e ∧ e.1 ≤ dp c a b + x.2.2.2
  suc' : ∀ x ∈ done, ∃ e, getD k (x.1, x.2.1) = some e ∧ e.1 ≤ dp c i j + x.2.2.2
  done : ∀ a b, a ≤ c.one.length → b ≤ c.other.length → ixP c.other.length a b < t + 1 → ∃ e, getD k (a, b) = some e ∧ e.1 = dp c a b
  zero : ∃ e, getD k (0, 0) = some e ∧ e.1 ≤ 0
theorem TInv.rlx {c : Cst} {t i j : Nat} {done : List Mv} {k : Tab} (I : TInv c t i j done k) (hi : i ≤ c.one.length) (hj : j ≤ c.other.length) (ht : t = ixP c.other.length i j) {x : Mv} (hx : x ∈ stepsFrom c i j) : TInv c t i j (done ++ [x]) (relax (i, j) k x) := by
  obtain ⟨e0, g1, g2⟩ := I.done i j hi hj (by omega)
  have hc : costAt k (i, j) = dp c i j := by unfold costAt; rw [g1]; exact g2
  obtain ⟨s1, s2, s3, _⟩ := step_in hx hi hj
  have ne : ∀ a b, a ≤ c.one.length → b ≤ c.other.length → ixP c.other.length a b < t + 1 → ¬ (a, b) = (x.1, x.2.1) := fun a b _ _ h z => by
    injection z with z1 z2
    rw [z1, z2] at h
    omega
  -- entries only fall
  have fall : ∀ p e, getD k p = some e → ∃ e', getD (relax (i, j) k x) p = some e' ∧ e'.1 ≤ e.1 := fun p e h => by
    unfold K85.relax
    split
    · rename_i hr
      rw [getD_put]
      by_cases hp : p = (x.1, x.2.1)
      · rw [if_pos hp]
        refine ⟨_, rfl, ?_⟩
        rw [hp] at h
        unfold relaxOk at hr
        rw [h] at hr
        simp only [Option.isSome_some, Bool.not_true, Bool.false_or, decide_eq_true_eq] at hr
        have : costAt k (x.1, x.2.1) = e.1 := by unfold costAt; rw [h]; rfl
        rw [this] at hr
        exact Int.le_of_lt hr
      · rw [if_neg hp]; exact ⟨e, h, Int.le_refl _⟩
    · exact ⟨e, h, Int.le_refl _⟩
  have new : ∃ e, getD (relax (i, j) k x) (x.1, x.2.1) = some e ∧ e.1 ≤ dp c i j + x.2.2.2 := by
    unfold K85.relax
    split
    · rw [getD_put, if_pos rfl]
      exact ⟨_, rfl, by rw [hc]; exact Int.le_refl _⟩
    · rename_i hr
      unfold relaxOk at hr
      cases h : getD k (x.1, x.2.1) with
      | none => rw [h] at hr; simp at hr
      | some e =>
        rw [h] at hr
        simp only [Option.isSome_some, Bool.not_true, Bool.false_or, decide_eq_true_eq] at hr
        have : costAt k (x.1, x.2.1) = e.1 := by unfold costAt; rw [h]; rfl
        rw [this, hc] at hr
        exact ⟨e, rfl, by omega⟩
  refine ⟨fun a' b' e h => ?_, fun a b y h1 h2 h3 h4 => ?_, fun y hy => ?_, fun a b h1 h2 h3 => ?_, ?_⟩
  · unfold K85.relax at h
    split at h
    · rw [getD_put] at h
      by_cases hp : (a', b') = (x.1, x.2.1)
      · rw [if_pos hp] at h
        injection h with h
        injection hp with hp1 hp2
        refine .inr ⟨i, j, x.2.2.1, x.2.2.2, by rw [← h, hc], ?_, hi, hj, by omega⟩
        rw [hp1, hp2]
        exact hx
      · rw [if_neg hp] at h; exact I.val a' b' e h
    · exact I.val a' b' e h
  · obtain ⟨e, e1, e2⟩ := I.suc a b y h1 h2 h3 h4
    obtain ⟨e', f1, f2⟩ := fall _ _ e1
    exact ⟨e', f1, by omega⟩
  · rcases List.mem_append.mp hy with hy | hy
    · obtain ⟨e, e1, e2⟩ := I.suc' y hy
      obtain ⟨e', f1, f2⟩ := fall _ _ e1
      exact ⟨e', f1, by omega⟩
    · rw [List.mem_singleton.mp hy]; exact new
  · obtain ⟨e, e1, e2⟩ := I.done a b h1 h2 h3
    refine ⟨e, ?_, e2⟩
    unfold K85.relax
    split
    · rw [getD_put, if_neg (ne a b h1 h2 h3)]; exact e1
    · exact e1
  · obtain ⟨e, e1, e2⟩ := I.zero
    obtain ⟨e', f1, f2⟩ := fall _ _ e1
    exact ⟨e', f1, by omega⟩
theorem TInv.all {c : Cst} {t i j : Nat} (hi : i ≤ c.one.length) (hj : j ≤ c.other.length) (ht : t = ixP c.other.length i j) : ∀ (xs done : List Mv) (k : Tab), (∀ x ∈ xs, x ∈ stepsFrom c i j) → TInv c t i j done k → TInv c t i j (done ++ xs) (xs.foldl (relax (i, j)) k)
  | [], done, k, _, I => by rw [List.append_nil]; exact I
  | x :: xs, done, k, h, I => by
    have := TInv.all hi hj ht xs (done ++ [x]) _ (fun y hy => h y (List.mem_cons_of_mem _ hy)) (I.rlx hi hj ht (h x List.mem_cons_self))
    rw [List.append_assoc] at this
    exact this
theorem ixP_inj {m i j a b : Nat} (hj : j ≤ m) (hb : b ≤ m) (h : ixP m i j = ixP m a b) : i = a ∧ j = b := by
  rcases Nat.lt_trichotomy i a with g | g | g
  · exact absurd h (Nat.ne_of_lt (ixP_lt hj (.inl g)))
  · subst g
    exact ⟨rfl, by unfold ixP at h; omega⟩
  · exact absurd h.symm (Nat.ne_of_lt (ixP_lt hb (.inl g)))
theorem BInv.turn {c : Cst} {t i j : Nat} {k : Tab} (I : BInv c t k) (hi : i ≤ c.one.length) (hj : j ≤ c.other.length) (ht : t = ixP c.other.length i j) : TInv c t i j [] k := by
  refine ⟨fun a' b' e h => ?_, I.suc, (fun x hx => nomatch hx), fun a b h1 h2 h3 => ?_, I.zero⟩
  · rcases I.val a' b' e h with z | ⟨a, b, s, q, z1, z2, z3, z4, z5⟩
    · exact .inl z
    · exact .inr ⟨a, b, s, q, z1, z2, z3, z4, by omega⟩
  · by_cases h : ixP c.other.length a b < t
    · exact I.done a b h1 h2 h
    · obtain ⟨rfl, rfl⟩ := ixP_inj (m := c.other.length) h2 hj (show ixP c.other.length a b = ixP c.other.length i j by omega)
      exact I.next hi hj ht
theorem BInv.step {c : Cst} {t i j : Nat} {k : Tab} (I : BInv c t k) (hi : i ≤ c.one.length) (hj : j ≤ c.other.length) (ht : t = ixP c.other.length i j) : BInv c (t + 1) (turnB c k (i, j)) := by
  have J := TInv.all hi hj ht (stepsFrom c i j) [] k (fun x hx => hx) (I.turn hi hj ht)
  rw [List.nil_append] at J
  refine ⟨J.val, fun a b x h1 h2 h3 h4 => ?_, J.done, J.zero⟩
  by_cases h : ixP c.other.length a b < t
  · exact J.suc a b x h1 h2 h h4
  · obtain ⟨rfl, rfl⟩ := ixP_inj (m := c.other.length) h2 hj (show ixP c.other.length a b = ixP c.other.length i j by omega)
    exact J.suc' x h4
theorem BInv.zeroth (c : Cst) : BInv c 0 tab0 := by
  refine ⟨fun i j e h => ?_, fun a b x _ _ h => absurd h (Nat.not_lt_zero _), fun a b _ _ h => absurd h (Nat.not_lt_zero _), ⟨(0, none), rfl, Int.le_refl _⟩⟩
  unfold tab0 at h
  rw [getD_cons] at h
  by_cases e0 : ((0 : Nat), (0 : Nat)) = (i, j)
  · rw [if_pos e0] at h
    injection e0 with e1 e2
    exact .inl ⟨(Option.some.inj h).symm, e1.symm, e2.symm⟩
  · rw [if_neg e0] at h; cases h
theorem bestAt_succ {c : Cst} {t : Nat} {h : Nat × Nat} (e : (placesL c.one.length c.other.length)[t]? = some h) : bestAt c (t + 1) = turnB c (bestAt c t) h := by
  unfold bestAt
  rw [List.take_add_one, e, List.foldl_append]
  rfl
theorem bestAt_inv (c : Cst) : ∀ t, t ≤ (placesL c.one.length c.other.length).length → BInv c t (bestAt c t)
  | 0, _ => BInv.zeroth c
  | t + 1, ht => by
    have I := bestAt_inv c t (Nat.le_of_succ_le ht)
    obtain ⟨h, e⟩ : ∃ h, (placesL c.one.length c.other.length)[t]? = some h := ⟨_, List.getElem?_eq_getElem ht⟩
    obtain ⟨i, j⟩ := h
    obtain ⟨h1, h2, h3⟩ := placesL_at e
    rw [bestAt_succ e]
    exact I.step h1 h2 h3
theorem best_eq (c : Cst) : best c = bestAt c (placesL c.one.length c.other.length).length := by
  unfold best bestAt
  rw [List.take_length]
/-- what stands at each place in the end -/
theorem best_at {c : Cst} {i j : Nat} (hi : i ≤ c.one.length) (hj : j ≤ c.other.length) :
    (getD (best c) (i, j) = some (dp c i j, none) ∧ i = 0 ∧ j = 0) ∨ ∃ a b s q, getD (best c) (i, j) = some (dp c i j, some (s, a, b)) ∧ dp c i j = dp c a b + q ∧ (i, j, s, q) ∈ stepsFrom c a b ∧ a ≤ c.one.length ∧ b ≤ c.other.length ∧ a + b < i + j := by
  have I := bestAt_inv c _ (Nat.le_refl _)
  rw [← best_eq] at I
  have lt : ixP c.other.length i j < (placesL c.one.length c.other.length).length := (List.getElem?_eq_some_iff.mp (placesL_ix hi hj)).1
  obtain ⟨e, h1, h2⟩ := I.done i j hi hj lt
  rcases I.val i j e h1 with ⟨rfl, rfl, rfl⟩ | ⟨a, b, s, q, rfl, h3, h4, h5, _⟩
  · exact .inl ⟨by rw [h1, ← h2], rfl, rfl⟩
  · have h2 : dp c a b + q = dp c i j := h2
    exact .inr ⟨a, b, s, q, by rw [h1, h2], h2.symm, h3, h4, h5, (step_in h3 h4 h5).2.2.2⟩
theorem relax_len {h : Nat × Nat} {k : Tab} {x : Mv} : (relax h k x).length ≤ k.length + 1 := by
  unfold relax
  split
  · exact putD_len
  · omega
theorem fold_len {h : Nat × Nat} : ∀ (xs : List Mv) (k : Tab), (xs.foldl (relax h) k).length ≤ k.length + xs.length
  | [], k => Nat.le_refl _
  | x :: xs, k => by
    have h1 := fold_len (h := h) xs (relax h k x)
    have h2 := relax_len (h := h) (k := k) (x := x)
    rw [List.foldl_cons, List.length_cons]
    omega
theorem steps_len (c : Cst) (i j : Nat) : (stepsFrom c i j).length ≤ 3 := by
  unfold stepsFrom p1 p2 p3
  split <;> split <;> split <;> simp
theorem bestAt_len (c : Cst) : ∀ t, (bestAt c t).length ≤ 1 + 3 * t
  | 0 => by unfold bestAt; simp [tab0]
  | t + 1 => by
    have ih := bestAt_len c t
    cases e : (placesL c.one.length c.other.length)[t]? with
    | none =>
      have : bestAt c (t + 1) = bestAt c t := by
        unfold bestAt
        rw [List.take_add_one, e]
        simp
      rw [this]; omega
    | some h =>
      rw [bestAt_succ e]
      have h1 := fold_len (h := h) (stepsFrom c h.1 h.2) (bestAt c t)
      have h2 := steps_len c h.1 h.2
      unfold turnB
      omega
end K85

namespace K85
open DL
/-! ### two rows held against one another -/
inductive Al (u l m : Int) : List Int → List Int → Int → Prop
  | nil : Al u l m [] [] 0
  | sub {x y k} (a b : Int) : Al u l m x y k → Al u l m (a :: x) (b :: y) (k + if a = b then 0 else u)
  | lack {x y k} (a : Int) : Al u l m x y k → Al u l m (a :: x) y (k + l)
  | more {x y k} (b : Int) : Al u l m x y k → Al u l m x (b :: y) (k + m)
section
variable {u l m u' l' m' : Int} {x y z x' y' : List Int} {k k' k1 k2 : Int}
theorem Al.swap (h : Al u l m x y k) : Al u m l y x k := by
  induction h with
  | nil => exact .nil
  | sub a b _ ih =>
    have := Al.sub b a ih
    by_cases e : a = b
    · subst e; exact this
    · rw [if_neg (Ne.symm e)] at this; rw [if_neg e]; exact this
  | lack a _ ih => exact .more a ih
  | more b _ ih => exact .lack b ih
theorem Al.nonneg (hu : 0 ≤ u) (hl : 0 ≤ l) (hm : 0 ≤ m) (h : Al u l m x y k) : 0 ≤ k := by
  induction h with
  | nil => exact Int.le_refl _
  | sub a b _ ih => split <;> omega
  | lack a _ ih => omega
  | more b _ ih => omega
theorem al_self : ∀ x : List Int, Al u l m x x 0
  | [] => .nil
  | a :: x => by
    have := Al.sub a a (al_self x)
    rw [if_pos rfl] at this
    exact this
theorem al_more : ∀ y : List Int, Al u l m [] y ((y.length : Int) * m)
  | [] => by simpa using (Al.nil : Al u l m [] [] 0)
  | b :: y => by
    have := Al.more b (al_more y)
    rw [List.length_cons]
    have e : ((y.length + 1 : Nat) : Int) * m = (y.length : Int) * m + m := by rw [Int.natCast_add, Int.add_mul]; simp
    rw [e]; exact this
theorem al_all : ∀ x y : List Int, Al u l m x y ((x.length : Int) * l + (y.length : Int) * m)
  | [], y => by simpa using (al_more y : Al u l m [] y _)
  | a :: x, y => by
    have := Al.lack a (al_all x y)
    rw [List.length_cons]
    have e : ((x.length + 1 : Nat) : Int) * l + (y.length : Int) * m = (x.length : Int) * l + (y.length : Int) * m + l := by rw [Int.natCast_add, Int.add_mul]; simp; omega
    rw [e]; exact this
theorem Al.append (h : Al u l m x y k) (g : Al u l m x' y' k') : Al u l m (x ++ x') (y ++ y') (k + k') := by
  induction h with
  | nil => rw [Int.zero_add]; exact g
  | @sub x y k a b _ ih =>
    have := Al.sub a b ih
    have e : k + (if a = b then 0 else u) + k' = k + k' + (if a = b then 0 else u) := by omega
    rw [e]; exact this
  | @lack x y k a _ ih =>
    have := Al.lack a ih
    have e : k + l + k' = k + k' + l := by omega
    rw [e]; exact this
  | @more x y k b _ ih =>
    have := Al.more b ih
    have e : k + m + k' = k + k' + m := by omega
    rw [e]; exact this
theorem Al.less (hu : u' ≤ u) (hl : l' ≤ l) (hm : m' ≤ m) (h : Al u l m x y k) : ∃ k', k' ≤ k ∧ Al u' l' m' x y k' := by
  induction h with
  | nil => exact ⟨0, Int.le_refl _, .nil⟩
  | sub a b _ ih =>
    obtain ⟨k', h1, h2⟩ := ih
    exact ⟨_, by split <;> omega, .sub a b h2⟩
  | lack a _ ih =>
    obtain ⟨k', h1, h2⟩ := ih
    exact ⟨_, by omega, .lack a h2⟩
  | more b _ ih =>
    obtain ⟨k', h1, h2⟩ := ih
    exact ⟨_, by omega, .more b h2⟩
theorem Al.trans (hu : 0 ≤ u) (hl : 0 ≤ l) (hm : 0 ≤ m) (h : Al u l m x y k1) : ∀ {z k2}, Al u l m y z k2 → ∃ k, k ≤ k1 + k2 ∧ Al u l m x z k := by
  induction h with
  | nil => intro z k2 g; exact ⟨k2, by omega, g⟩
  | lack a _ ih =>
    intro z k2 g
    obtain ⟨k, h1, h2⟩ := ih g
    exact ⟨_, by omega, .lack a h2⟩
  | @sub x y k1 a b h0 ih =>
    intro z k2 g
    generalize hw : b :: y = w at g
    induction g with
    | nil => cases hw
    | @sub y' z' k2 b' c' g' _ =>
      injection hw with e1 e2
      subst e1; subst e2
      obtain ⟨k, h1, h2⟩ := ih g'
      refine ⟨_, ?_, .sub a c' h2⟩
      by_cases e1 : a = b
      · subst e1
        split <;> simp <;> omega
      · rw [if_neg e1]
        split <;> split <;> omega
    | @lack y' z' k2 b' g' _ =>
      injection hw with e1 e2
      subst e1; subst e2
      obtain ⟨k, h1, h2⟩ := ih g'
      exact ⟨_, by split <;> omega, .lack a h2⟩
    | @more y' z' k2 c' g' ihg =>
      obtain ⟨k, h1, h2⟩ := ihg hw
      exact ⟨_, by omega, .more c' h2⟩
  | @more x y k1 b h0 ih =>
    intro z k2 g
    generalize hw : b :: y = w at g
    induction g with
    | nil => cases hw
    | @sub y' z' k2 b' c' g' _ =>
      injection hw with e1 e2
      subst e1; subst e2
      obtain ⟨k, h1, h2⟩ := ih g'
      exact ⟨_, by split <;> omega, .more c' h2⟩
    | @lack y' z' k2 b' g' _ =>
      injection hw with e1 e2
      subst e1; subst e2
      obtain ⟨k, h1, h2⟩ := ih g'
      exact ⟨k, by omega, h2⟩
    | @more y' z' k2 c' g' ihg =>
      obtain ⟨k, h1, h2⟩ := ihg hw
      exact ⟨_, by omega, .more c' h2⟩
end
/-! ### the least cost is dp -/
theorem take_rev {xs : List Int} {i : Nat} (h : i < xs.length) : (xs.take (i + 1)).reverse = xs.getD i 0 :: (xs.take i).reverse := by
  rw [List.take_add_one, List.getElem?_eq_getElem h, List.reverse_append]
  have : xs.getD i 0 = xs[i] := by rw [List.getD_eq_getElem?_getD, List.getElem?_eq_getElem h]; rfl
  rw [this]
  rfl
theorem sub_eq (c : Cst) (i j : Nat) : sub c i j = if c.one.getD i 0 = c.other.getD j 0 then 0 else c.u := by
  unfold sub al
  by_cases h : c.one.getD i 0 = c.other.getD j 0
  · rw [if_pos (decide_eq_true h), if_pos h]
  · rw [if_neg (by rw [decide_eq_false h]; exact Bool.false_ne_true), if_neg h]
theorem dp_al (c : Cst) : ∀ i j, i ≤ c.one.length → j ≤ c.other.length → Al c.u c.l c.m (c.one.take i).reverse (c.other.take j).reverse (dp c i j)
  | 0, 0, _, _ => by simpa [dp] using (Al.nil : Al c.u c.l c.m [] [] 0)
  | i + 1, 0, hi, hj => by
    rw [take_rev hi]
    simp only [dp]
    exact .lack _ (dp_al c i 0 (by omega) hj)
  | 0, j + 1, hi, hj => by
    rw [take_rev hj]
    simp only [dp]
    exact .more _ (dp_al c 0 j hi (by omega))
  | i + 1, j + 1, hi, hj => by
    have h1 := dp_al c i j (by omega) (by omega)
    have h2 := dp_al c i (j + 1) (by omega) hj
    have h3 := dp_al c (i + 1) j hi (by omega)
    simp only [dp]
    by_cases a : dp c i j + sub c i j ≤ min (dp c i (j + 1) + c.l) (dp c (i + 1) j + c.m)
    · rw [Int.min_eq_left a, take_rev hi, take_rev hj, sub_eq]
      exact .sub _ _ h1
    · rw [Int.min_eq_right (by omega)]
      by_cases b : dp c i (j + 1) + c.l ≤ dp c (i + 1) j + c.m
      · rw [Int.min_eq_left b, take_rev hi]
        exact .lack _ h2
      · rw [Int.min_eq_right (by omega), take_rev hj]
        exact .more _ h3
theorem dp_le {c : Cst} {x y : List Int} {k : Int} (h : Al c.u c.l c.m x y k) : ∀ i j, i ≤ c.one.length → j ≤ c.other.length → x = (c.one.take i).reverse → y = (c.other.take j).reverse → dp c i j ≤ k := by
  have lx : ∀ {xs : List Int} {i : Nat}, i ≤ xs.length → (xs.take i).reverse.length = i := fun h => by rw [List.length_reverse, List.length_take]; omega
  induction h with
  | nil =>
    intro i j hi hj ex ey
    have e1 := congrArg List.length ex
    have e2 := congrArg List.length ey
    rw [lx hi] at e1
    rw [lx hj] at e2
    have e1 : i = 0 := e1.symm
    have e2 : j = 0 := e2.symm
    subst e1; subst e2
    simp only [dp]; exact Int.le_refl _
  | @sub x y k a b _ ih =>
    intro i j hi hj ex ey
    have e1 := congrArg List.length ex
    have e2 := congrArg List.length ey
    rw [lx hi, List.length_cons] at e1
    rw [lx hj, List.length_cons] at e2
    obtain ⟨i, rfl⟩ : ∃ i', i = i' + 1 := ⟨i - 1, by omega⟩
    obtain ⟨j, rfl⟩ : ∃ j', j = j' + 1 := ⟨j - 1, by omega⟩
    rw [take_rev hi] at ex
    rw [take_rev hj] at ey
    injection ex with ea ex
    injection ey with eb ey
    have := ih i j (by omega) (by omega) ex ey
    simp only [dp]
    have es := sub_eq c i j
    rw [← ea, ← eb] at es
    omega
  | @lack x y k a _ ih =>
    intro i j hi hj ex ey
    have e1 := congrArg List.length ex
    rw [lx hi, List.length_cons] at e1
    obtain ⟨i, rfl⟩ : ∃ i', i = i' + 1 := ⟨i - 1, by omega⟩
    rw [take_rev hi] at ex
    injection ex with ea ex
    have := ih i j (by omega) hj ex ey
    cases j with
    | zero => simp only [dp]; omega
    | succ j => simp only [dp]; omega
  | @more x y k b _ ih =>
    intro i j hi hj ex ey
    have e2 := congrArg List.length ey
    rw [lx hj, List.length_cons] at e2
    obtain ⟨j, rfl⟩ : ∃ j', j = j' + 1 := ⟨j - 1, by omega⟩
    rw [take_rev hj] at ey
    injection ey with eb ey
    have := ih i j hi (by omega) ex ey
    cases i with
    | zero => simp only [dp]; omega
    | succ i => simp only [dp]; omega
def cost (c : Cst) : Int := dp c c.one.length c.other.length
theorem cost_al (c : Cst) : Al c.u c.l c.m c.one.reverse c.other.reverse (cost c) := by
  have := dp_al c _ _ (Nat.le_refl c.one.length) (Nat.le_refl c.other.length)
  rw [List.take_length, List.take_length] at this
  exact this
theorem cost_le {c : Cst} {k : Int} (h : Al c.u c.l c.m c.one.reverse c.other.reverse k) : cost c ≤ k :=
  dp_le h _ _ (Nat.le_refl _) (Nat.le_refl _) (by rw [List.take_length]) (by rw [List.take_length])
/-- the other way about -/
def Cst.turn (c : Cst) : Cst := ⟨c.other, c.one, c.u, c.m, c.l⟩
theorem dp_turn (c : Cst) : ∀ i j, dp c.turn j i = dp c i j
  | 0, 0 => by simp only [dp]
  | i + 1, 0 => by simp only [dp]; rw [dp_turn c i 0]; rfl
  | 0, j + 1 => by simp only [dp]; rw [dp_turn c 0 j]; rfl
  | i + 1, j + 1 => by
    simp only [dp]
    rw [dp_turn c i j, dp_turn c i (j + 1), dp_turn c (i + 1) j]
    have e : sub c.turn j i = sub c i j := by
      rw [sub_eq, sub_eq]
      show (if c.other.getD j 0 = c.one.getD i 0 then 0 else c.u) = _
      by_cases h : c.one.getD i 0 = c.other.getD j 0
      · rw [if_pos h, if_pos h.symm]
      · rw [if_neg h, if_neg (Ne.symm h)]
    rw [e]
    show min _ (min (dp c (i + 1) j + c.m) (dp c i (j + 1) + c.l)) = _
    omega
theorem cost_turn (c : Cst) : cost c.turn = cost c := dp_turn c _ _
/-! ### the law's words -/
section
variable {one other third : List Int} {u l m u' l' m' : Int}
theorem law_self (hu : 0 ≤ u) (hl : 0 ≤ l) (hm : 0 ≤ m) : cost ⟨one, one, u, l, m⟩ = 0 := by
  have h1 := cost_le (c := ⟨one, one, u, l, m⟩) (al_self _)
  have h2 := (cost_al ⟨one, one, u, l, m⟩).nonneg hu hl hm
  omega
theorem law_most : cost ⟨one, other, u, l, m⟩ ≤ (one.length : Int) * l + (other.length : Int) * m := by
  have := cost_le (c := ⟨one, other, u, l, m⟩) (al_all _ _)
  simp only [List.length_reverse] at this
  exact this
theorem law_front : cost ⟨[7] ++ one, [7] ++ other, u, l, m⟩ ≤ cost ⟨one, other, u, l, m⟩ := by
  refine cost_le (c := ⟨[7] ++ one, [7] ++ other, u, l, m⟩) ?_
  have := (cost_al ⟨one, other, u, l, m⟩).append (al_self (u := u) (l := l) (m := m) [7])
  rw [Int.add_zero] at this
  simpa using this
theorem law_behind (t : List Int) : cost ⟨one ++ t, other ++ t, u, l, m⟩ ≤ cost ⟨one, other, u, l, m⟩ := by
  refine cost_le (c := ⟨one ++ t, other ++ t, u, l, m⟩) ?_
  have := (al_self (u := u) (l := l) (m := m) t.reverse).append (cost_al ⟨one, other, u, l, m⟩)
  rw [Int.zero_add] at this
  simpa using this
theorem law_less (hu : u' ≤ u) (hl : l' ≤ l) (hm : m' ≤ m) : cost ⟨one, other, u', l', m'⟩ ≤ cost ⟨one, other, u, l, m⟩ := by
  obtain ⟨k, h1, h2⟩ := (cost_al ⟨one, other, u, l, m⟩).less hu hl hm
  exact Int.le_trans (cost_le (c := ⟨one, other, u', l', m'⟩) h2) h1
theorem law_way (hu : 0 ≤ u) (hl : 0 ≤ l) (hm : 0 ≤ m) : cost ⟨one, third, u, l, m⟩ ≤ cost ⟨one, other, u, l, m⟩ + cost ⟨other, third, u, l, m⟩ := by
  obtain ⟨k, h1, h2⟩ := (cost_al ⟨one, other, u, l, m⟩).trans hu hl hm (cost_al ⟨other, third, u, l, m⟩)
  exact Int.le_trans (cost_le (c := ⟨one, third, u, l, m⟩) h2) h1
end
/-! ### the steps told -/
def nxt (c : Cst) (i j : Nat) : Option (Stp × Nat × Nat) := ((getD (best c) (i, j)).getD (0, none)).2
def tr (c : Cst) : Nat → Nat → Nat → List Stp
  | 0, _, _ => []
  | f + 1, i, j => match nxt c i j with
    | none => []
    | some (s, a, b) => s :: tr c f a b
def told (c : Cst) (i j : Nat) : List Stp := tr c (i + j + 1) i j
theorem nxt_at {c : Cst} {i j : Nat} (hi : i ≤ c.one.length) (hj : j ≤ c.other.length) :
    (nxt c i j = none ∧ i = 0 ∧ j = 0) ∨ ∃ a b s q, nxt c i j = some (s, a, b) ∧ dp c i j = dp c a b + q ∧ (i, j, s, q) ∈ stepsFrom c a b ∧ a ≤ c.one.length ∧ b ≤ c.other.length ∧ a + b < i + j := by
  unfold nxt
  rcases best_at hi hj with ⟨h, h1, h2⟩ | ⟨a, b, s, q, h, r⟩
  · rw [h]; exact .inl ⟨rfl, h1, h2⟩
  · rw [h]; exact .inr ⟨a, b, s, q, rfl, r⟩
theorem tr_fuel {c : Cst} : ∀ {f f' i j : Nat}, i ≤ c.one.length → j ≤ c.other.length → i + j < f → i + j < f' → tr c f i j = tr c f' i j
  | 0, _, _, _, _, _, h, _ => absurd h (Nat.not_lt_zero _)
  | _ + 1, 0, _, _, _, _, _, h => absurd h (Nat.not_lt_zero _)
  | f + 1, f' + 1, i, j, hi, hj, h, h' => by
    unfold tr
    rcases nxt_at hi hj with ⟨e, _⟩ | ⟨a, b, s, q, e, _, _, ha, hb, hl⟩
    · rw [e]
    · rw [e]
      show s :: tr c f a b = s :: tr c f' a b
      exact congrArg (s :: ·) (tr_fuel ha hb (by omega) (by omega))
theorem told_some {c : Cst} {i j a b : Nat} {s : Stp} (h : nxt c i j = some (s, a, b)) (ha : a ≤ c.one.length) (hb : b ≤ c.other.length) (hl : a + b < i + j) : told c i j = s :: told c a b := by
  show (match nxt c i j with | none => [] | some (s, a, b) => s :: tr c (i + j) a b) = s :: told c a b
  rw [h]
  show s :: tr c (i + j) a b = s :: told c a b
  unfold told
  rw [tr_fuel ha hb hl (Nat.lt_succ_self _)]
theorem told_none {c : Cst} {i j : Nat} (h : nxt c i j = none) : told c i j = [] := by
  show (match nxt c i j with | none => [] | some (s, a, b) => s :: tr c (i + j) a b) = []
  rw [h]
def Stp.swap : Stp → Stp
  | .same i j => .same j i
  | .unlike i j => .unlike j i
  | .lack i => .more i
  | .more j => .lack j
theorem steps_turn {c : Cst} {a b i j : Nat} {s : Stp} {q : Int} (h : (i, j, s, q) ∈ stepsFrom c a b) : (j, i, s.swap, q) ∈ stepsFrom c.turn b a := by
  rcases mem_steps.mp h with ⟨h1, h2, e⟩ | ⟨h1, e⟩ | ⟨h1, e⟩
  · injection e with e1 e; injection e with e2 e; injection e with e3 e4
    refine mem_steps.mpr (.inl ⟨h2, h1, ?_⟩)
    have hs : sub c.turn b a = sub c a b := by
      rw [sub_eq, sub_eq]
      show (if c.other.getD b 0 = c.one.getD a 0 then 0 else c.u) = _
      by_cases h : c.one.getD a 0 = c.other.getD b 0
      · rw [if_pos h, if_pos h.symm]
      · rw [if_neg h, if_neg (Ne.symm h)]
    have ht : K85.st c.turn b a = (K85.st c a b).swap := by
      unfold K85.st al
      show (if decide (c.other.getD b 0 = c.one.getD a 0) = true then Stp.same b a else Stp.unlike b a) = _
      by_cases h : c.one.getD a 0 = c.other.getD b 0
      · rw [if_pos (decide_eq_true h.symm), if_pos (decide_eq_true h)]; rfl
      · rw [if_neg (by rw [decide_eq_false (Ne.symm h)]; exact Bool.false_ne_true), if_neg (by rw [decide_eq_false h]; exact Bool.false_ne_true)]; rfl
    rw [e1, e2, e3, e4, hs, ht]
  · injection e with e1 e; injection e with e2 e; injection e with e3 e4
    rw [e1, e2, e3, e4]
    exact mem_steps.mpr (.inr (.inr ⟨h1, rfl⟩))
  · injection e with e1 e; injection e with e2 e; injection e with e3 e4
    rw [e1, e2, e3, e4]
    exact mem_steps.mpr (.inr (.inl ⟨h1, rfl⟩))
/-- the ways that a step stands for -/
def ways (c : Cst) (i j : Nat) (s : Stp) : List Mv := (stepsFrom c i j).filter fun x => decide (x.2.2.1 = s)
theorem ways_one {c : Cst} {a b i j : Nat} {s : Stp} {q : Int} (h : (i, j, s, q) ∈ stepsFrom c a b) : ways c a b s = [(i, j, s, q)] := by
  have st_cases : st c a b = .same a b ∨ st c a b = .unlike a b := by unfold st; split <;> simp
  unfold ways stepsFrom p1 p2 p3
  rcases mem_steps.mp h with ⟨h1, h2, e⟩ | ⟨h1, e⟩ | ⟨h1, e⟩
  · injection e with e1 e; injection e with e2 e; injection e with e3 e4
    rw [e1, e2, e3, e4, if_pos ⟨h1, h2⟩, if_pos h1, if_pos h2]
    rcases st_cases with z | z <;> rw [z] <;> simp
  · injection e with e1 e; injection e with e2 e; injection e with e3 e4
    rw [e1, e2, e3, e4, if_pos h1]
    by_cases h2 : b < c.other.length
    · rw [if_pos ⟨h1, h2⟩, if_pos h2]
      rcases st_cases with z | z <;> rw [z] <;> simp
    · rw [if_neg fun z => h2 z.2, if_neg h2]
      simp
  · injection e with e1 e; injection e with e2 e; injection e with e3 e4
    rw [e1, e2, e3, e4, if_pos h1]
    by_cases h2 : a < c.one.length
    · rw [if_pos ⟨h2, h1⟩, if_pos h2]
      rcases st_cases with z | z <;> rw [z] <;> simp
    · rw [if_neg fun z => h2 z.1, if_neg h2]
      simp
/-- steps lead from a place with a cost to another -/
inductive Run (c : Cst) : List Stp → Nat → Nat → Int → Prop
  | nil : Run c [] 0 0 0
  | snoc {xs a b k i j s q} : Run c xs a b k → (i, j, s, q) ∈ stepsFrom c a b → Run c (xs ++ [s]) i j (k + q)
theorem run_told {c : Cst} : ∀ (t i j : Nat), i + j = t → i ≤ c.one.length → j ≤ c.other.length → Run c.turn ((told c i j).reverse.map Stp.swap) j i (dp c i j) := by
  intro t
  induction t using Nat.strongRecOn with
  | _ t ih =>
    intro i j ht hi hj
    rcases nxt_at hi hj with ⟨e, rfl, rfl⟩ | ⟨a, b, s, q, e, h1, h2, ha, hb, hl⟩
    · rw [told_none e]
      simp only [dp]
      exact .nil
    · rw [told_some e ha hb hl, List.reverse_cons, List.map_append, h1]
      exact .snoc (ih (a + b) (by omega) a b rfl ha hb) (steps_turn h2)
end K85

namespace DL
open PySem L2
theorem putN_new {f : Str} {d : D} : ∀ {ns : List Str} {ds : List D}, f ∉ ns → ns.length = ds.length → putN f d ns ds = (ns ++ [f], ds ++ [d])
  | [], [], _, _ => rfl
  | n :: ns, x :: ds, h, hl => by
    have h1 : ¬ n = f := fun z => h (by rw [z]; exact List.mem_cons_self)
    have ih := putN_new (f := f) (d := d) (ns := ns) (ds := ds) (fun z => h (List.mem_cons_of_mem _ z)) (by simpa using hl)
    simp only [putN, if_neg h1, ih]
    rfl
section
variable {K : Fg} {ρ ρ1 : DL.Env} {te : TE} {d : D} {ds : List D} {n : Nat} {P : Post}
theorem sx_fldNew {w : Bool} {C : Addr} {ns : List Str} {f : Str} (h : Ev K te ρ d ρ1) (h1 : ρ1[n]? = some (some (.own w (.obj C ns ds)))) (hc : Cls K C) (hn : NoAttr K C f) (hf : f ∉ ns) (hl : ns.length = ds.length) (hz : ns.length < 1000)
    (p : P.nx (ρ1.set n (some (.own w (.obj C (ns ++ [f]) (ds ++ [d])))))) : Sx K (sFld K (tVar n) te f) ρ P := sx_fld h h1 hc hn hz (by rw [putN_new hf hl]; exact p)
theorem sx_cutW {t u : TS} (ρm : DL.Env) (h : Sx K t ρ { P with nx := fun ρ' => Wk ρ' ρm }) (k : Sx K u ρm P) : Sx K (tSeq t u) ρ P := sx_cut (fun ρ' => Wk ρ' ρm) h fun ρ' w => k.weak w
end
theorem at_ints {xs : List Int} {i : Nat} (h : i < xs.length) : L2.atI (xs.map D.int) (i : Int) = some (.int (xs.getD i 0)) := by
  refine L2.atI_nat ?_
  rw [List.getElem?_map, List.getElem?_eq_getElem h, List.getD_eq_getElem?_getD, List.getElem?_eq_getElem h]
  rfl
end DL
namespace K85
open PySem L2 DL
section
variable {Pr : Program} {w : World} {K : Fg} {mg : Str → Option Value} {base : Heap}
abbrev iD (n : Nat) : D := .int (n : Int)
abbrev rowD (xs : List Int) : D := .lst (xs.map D.int)
abbrev cN : List Str := ["one", "other", "unlike", "lack", "more"]
abbrev cstD (C : Addr) (c : Cst) : D := .obj C cN [rowD c.one, rowD c.other, .int c.u, .int c.l, .int c.m]
def stpD : Stp → D
  | .same i j => .tup [.str "same", iD i, iD j]
  | .unlike i j => .tup [.str "unlike", iD i, iD j]
  | .lack i => .tup [.str "lack", iD i]
  | .more j => .tup [.str "more", iD j]
abbrev mvD (x : Mv) : D := .tup [iD x.1, iD x.2.1, stpD x.2.2.1, .int x.2.2.2]
abbrev plD (x : Nat × Nat) : D := .tup [iD x.1, iD x.2]
theorem n12 : ("other" : Str) ∉ (["one"] : List Str) := by decide +kernel
theorem n13 : ("unlike" : Str) ∉ (["one", "other"] : List Str) := by decide +kernel
theorem n14 : ("lack" : Str) ∉ (["one", "other", "unlike"] : List Str) := by decide +kernel
theorem n15 : ("more" : Str) ∉ (["one", "other", "unlike", "lack"] : List Str) := by decide +kernel
def preInit (C : Addr) (o : D) (ds : List D) (d o' : D) : Prop := o = .obj C [] [] ∧ ds.length = 5 ∧ d = .non ∧ o' = .obj C cN ds
theorem ok_Costs__init (T : Tx K mg) : FnOk Pr w K mg base CX0 1 T.f_Costs__init T.fd_Costs__init p_Costs__init (spO K (preInit T.C_Costs)) := by
  refine fn_ok T.F_Costs__init sc_Costs__init ?len fun cdv A outer s H E hr svs d svs' hp => ?body
  case len =>
    rintro svs d svs' ⟨o, ds, o', rfl, _, _, h, _⟩
    show (ds.map SV.dat).length + 1 = 6
    rw [List.length_map, h]
  case body =>
    obtain ⟨o, ds, o', rfl, rfl, rfl, h, rfl, rfl⟩ := hp
    match ds, h with
    | [a1, a2, a3, a4, a5], _ =>
    refine ⟨_, (pss_cons (ps_fldK K (pv 0) (pv 1) rfl)
    (pss_cons (ps_fldK K (pv 0) (pv 2) rfl)
    (pss_cons (ps_fldK K (pv 0) (pv 3) rfl)
    (pss_cons (ps_fldK K (pv 0) (pv 4) rfl)
    (pss_one (ps_fldK K (pv 0) (pv 5) rfl)))))), ?_⟩
    refine sx_seq (sx_fldNew (ev_var rfl) rfl T.c_Costs T.a_Costs_one (by simp) rfl (by decide) ?_)
    refine sx_seq (sx_fldNew (ev_var rfl) rfl T.c_Costs T.a_Costs_other n12 rfl (by decide) ?_)
    refine sx_seq (sx_fldNew (ev_var rfl) rfl T.c_Costs T.a_Costs_unlike n13 rfl (by decide) ?_)
    refine sx_seq (sx_fldNew (ev_var rfl) rfl T.c_Costs T.a_Costs_lack n14 rfl (by decide) ?_)
    refine sx_fldNew (ev_var rfl) rfl T.c_Costs T.a_Costs_more n15 rfl (by decide) ?_
    exact ⟨rfl, keeps_own (o := .obj T.C_Costs [] []) rfl⟩
theorem lk1 {a b c d e : D} : (cN.zip [a, b, c, d, e]).lookup ("one" : Str) = some a := by
  have : (("one" : Str) == "one") = true := by decide +kernel
  simp only [cN, List.zip_cons_cons, List.lookup_cons, this]
theorem lk2 {a b c d e : D} : (cN.zip [a, b, c, d, e]).lookup ("other" : Str) = some b := by
  have h1 : (("other" : Str) == "one") = false := by decide +kernel
  have h2 : (("other" : Str) == "other") = true := by decide +kernel
  simp only [cN, List.zip_cons_cons, List.lookup_cons, h1, h2]
theorem lk3 {a b c d e : D} : (cN.zip [a, b, c, d, e]).lookup ("unlike" : Str) = some c := by
  have h1 : (("unlike" : Str) == "one") = false := by decide +kernel
  have h2 : (("unlike" : Str) == "other") = false := by decide +kernel
  have h3 : (("unlike" : Str) == "unlike") = true := by decide +kernel
  simp only [cN, List.zip_cons_cons, List.lookup_cons, h1, h2, h3]
theorem lk4 {a b c d e : D} : (cN.zip [a, b, c, d, e]).lookup ("lack" : Str) = some d := by
  have h1 : (("lack" : Str) == "one") = false := by decide +kernel
  have h2 : (("lack" : Str) == "other") = false := by decide +kernel
  have h3 : (("lack" : Str) == "unlike") = false := by decide +kernel
  have h4 : (("lack" : Str) == "lack") = true := by decide +kernel
  simp only [cN, List.zip_cons_cons, List.lookup_cons, h1, h2, h3, h4]
theorem lk5 {a b c d e : D} : (cN.zip [a, b, c, d, e]).lookup ("more" : Str) = some e := by
  have h1 : (("more" : Str) == "one") = false := by decide +kernel
  have h2 : (("more" : Str) == "other") = false := by decide +kernel
  have h3 : (("more" : Str) == "unlike") = false := by decide +kernel
  have h4 : (("more" : Str) == "lack") = false := by decide +kernel
  have h5 : (("more" : Str) == "more") = true := by decide +kernel
  simp only [cN, List.zip_cons_cons, List.lookup_cons, h1, h2, h3, h4, h5]
section
variable {ρ ρ1 : DL.Env} {te : TE} {c : Cst}
theorem ev_one (T : Tx K mg) (h : Ev K te ρ (cstD T.C_Costs c) ρ1) : Ev K (tFld K te "one") ρ (rowD c.one) ρ1 := ev_fld h T.c_Costs T.a_Costs_one lk1
theorem ev_other (T : Tx K mg) (h : Ev K te ρ (cstD T.C_Costs c) ρ1) : Ev K (tFld K te "other") ρ (rowD c.other) ρ1 := ev_fld h T.c_Costs T.a_Costs_other lk2
theorem ev_unlike (T : Tx K mg) (h : Ev K te ρ (cstD T.C_Costs c) ρ1) : Ev K (tFld K te "unlike") ρ (.int c.u) ρ1 := ev_fld h T.c_Costs T.a_Costs_unlike lk3
theorem ev_lack (T : Tx K mg) (h : Ev K te ρ (cstD T.C_Costs c) ρ1) : Ev K (tFld K te "lack") ρ (.int c.l) ρ1 := ev_fld h T.c_Costs T.a_Costs_lack lk4
theorem ev_more (T : Tx K mg) (h : Ev K te ρ (cstD T.C_Costs c) ρ1) : Ev K (tFld K te "more") ρ (.int c.m) ρ1 := ev_fld h T.c_Costs T.a_Costs_more lk5
theorem ev_lenOne (T : Tx K mg) (h : Ev K te ρ (cstD T.C_Costs c) ρ1) : Ev K (tCB (rLenU K) (tCons (tFld K te "one") tNil)) ρ (iD c.one.length) ρ1 :=
  (ev_lenL (ea_cons (ev_one T h) ea_nil)).cast (by rw [List.length_map])
theorem ev_lenOther (T : Tx K mg) (h : Ev K te ρ (cstD T.C_Costs c) ρ1) : Ev K (tCB (rLenU K) (tCons (tFld K te "other") tNil)) ρ (iD c.other.length) ρ1 :=
  (ev_lenL (ea_cons (ev_other T h) ea_nil)).cast (by rw [List.length_map])
end
def preSteps (C : Addr) (ds : List D) (d : D) : Prop := ∃ c i j, ds = [cstD C c, iD i, iD j] ∧ d = .lst ((stepsFrom c i j).map mvD)
theorem dlt {a b : Nat} : decide ((a : Int) < (b : Int)) = decide (a < b) := by
  by_cases h : a < b
  · rw [decide_eq_true h, decide_eq_true (by omega)]
  · rw [decide_eq_false h, decide_eq_false (by omega)]
theorem ok_Costs_steps_from (T : Tx K mg) : FnOk Pr w K mg base CX0 1 T.f_Costs_steps_from T.fd_Costs_steps_from p_Costs_steps_from (spP K (preSteps T.C_Costs)) := by
  refine fn_ok T.F_Costs_steps_from sc_Costs_steps_from ?len fun cdv A outer s H E hr svs d svs' hp => ?body
  case len =>
    rintro svs d svs' ⟨ds, rfl, _, c, i, j, rfl, _⟩
    rfl
  case body =>
    obtain ⟨ds, rfl, rfl, c, i, j, rfl, rfl⟩ := hp
    refine ⟨_, (pss_cons (ps_set (i := 3) sc_Costs_steps_from.nd rfl (Or.inl rfl) (pe_lst pa_nil))
    (pss_cons (ps_if (pw_and (pt_cmpR op_lt (pv 1) (pe_callB (call_lenK K) (by rfl) T.n_len (by decide +kernel) (pa_cons (pe_fldK K (pv 0) rfl) pa_nil)) (nomark _)) (pw_and1 (pt_cmpR op_lt (pv 2) (pe_callB (call_lenK K) (by rfl) T.n_len (by decide +kernel) (pa_cons (pe_fldK K (pv 0) rfl) pa_nil)) (nomark _)))).pt
    (pss_cons (ps_set (i := 4) sc_Costs_steps_from.nd rfl (Or.inl rfl) (pe_cmpR (op_eqK K hr.units) (pe_ix (ix_K K) (pe_fldK K (pv 0) rfl) (pv 1) (fun _ _ => rfl)) (pe_ix (ix_K K) (pe_fldK K (pv 0) rfl) (pv 2) (fun _ _ => rfl)) (nomark _)))
    (pss_one (ps_expr (pe_appK K (pv 3) (pe_tup (pa_cons (pe_op (op_addK K) (pv 1) pe_int) (pa_cons (pe_op (op_addK K) (pv 2) pe_int) (pa_cons (pe_tup (pa_cons (pe_ifExp (pt_val (pv 4)) pe_str pe_str) (pa_cons (pv 1) (pa_cons (pv 2) pa_nil)))) (pa_cons (pe_ifExp (pt_val (pv 4)) pe_int (pe_fldK K (pv 0) rfl)) pa_nil)))))))))
    pss_nil)
    (pss_cons (ps_if (pt_cmpR op_lt (pv 1) (pe_callB (call_lenK K) (by rfl) T.n_len (by decide +kernel) (pa_cons (pe_fldK K (pv 0) rfl) pa_nil)) (nomark _))
    (pss_one (ps_expr (pe_appK K (pv 3) (pe_tup (pa_cons (pe_op (op_addK K) (pv 1) pe_int) (pa_cons (pv 2) (pa_cons (pe_tup (pa_cons pe_str (pa_cons (pv 1) pa_nil))) (pa_cons (pe_fldK K (pv 0) rfl) pa_nil))))))))
    pss_nil)
    (pss_cons (ps_if (pt_cmpR op_lt (pv 2) (pe_callB (call_lenK K) (by rfl) T.n_len (by decide +kernel) (pa_cons (pe_fldK K (pv 0) rfl) pa_nil)) (nomark _))
    (pss_one (ps_expr (pe_appK K (pv 3) (pe_tup (pa_cons (pv 1) (pa_cons (pe_op (op_addK K) (pv 2) pe_int) (pa_cons (pe_tup (pa_cons pe_str (pa_cons (pv 2) pa_nil))) (pa_cons (pe_fldK K (pv 0) rfl) pa_nil))))))))
    pss_nil)
    (pss_one (ps_ret (pv 3))))))), ?_⟩
    let R : List Mv → DL.Env := fun L => [some (.dat (cstD T.C_Costs c)), some (.dat (iD i)), some (.dat (iD j)), some (.own false (.lst (L.map mvD))), none]
    refine sx_seq (sx_own (en_lst ea_nil (Nat.zero_le _)) (bl rfl) ?_)
    refine sx_cutW (R (p1 c i j)) (sx_if (et_lend (et_and (et_test ((ev_lt (ev_var rfl) (ev_lenOne T (ev_var rfl))).cast (by rw [dlt]))) fun _ => et_test ((ev_lt (ev_var rfl) (ev_lenOther T (ev_var rfl))).cast (by rw [dlt])))) (fun h => ?_) fun h => ?_) ?_
    · rw [Bool.and_eq_true, decide_eq_true_eq, decide_eq_true_eq] at h
      have e1 : p1 c i j = [(i + 1, j + 1, K85.st c i j, K85.sub c i j)] := if_pos h
      refine sx_seq (sx_set (ev_lend (ev_eq (ev_ixL (ev_one T (ev_var rfl)) (ev_var rfl) (at_ints h.1)) (ev_ixL (ev_other T (ev_var rfl)) (ev_var rfl) (at_ints h.2)) eqd_int) rfl) (bl rfl) ?_)
      by_cases ha : c.one.getD i 0 = c.other.getD j 0
      · have ea : al c i j = true := decide_eq_true ha
        have e2 : K85.st c i j = .same i j := by unfold K85.st; rw [ea]; rfl
        have e3 : K85.sub c i j = 0 := by unfold K85.sub; rw [ea]; rfl
        refine sx_app rfl (ev_tup (ea_cons (ev_add (ev_var rfl) ev_int) (ea_cons (ev_add (ev_var rfl) ev_int) (ea_cons (ev_tup (ea_cons (ev_if (et_B (ev_var rfl)) (d := .str "same") (fun _ => ev_str) fun z => ?_) (ea_cons (ev_var rfl) (ea_cons (ev_var rfl) ea_nil))) (lz rfl)) (ea_cons (ev_if (et_B (ev_var rfl)) (d := .int 0) (fun _ => ev_int) fun z => ?_) ea_nil)))) (lz rfl)) rfl (by decide) ?_
        · rw [decide_eq_true ha] at z; cases z
        · rw [decide_eq_true ha] at z; cases z
        · show Wk _ (R (p1 c i j))
          rw [e1, e2, e3]
          exact .keep (.keep (.keep (.keep (.skip .nil))))
      · have ea : al c i j = false := decide_eq_false ha
        have e2 : K85.st c i j = .unlike i j := by unfold K85.st; rw [ea]; rfl
        have e3 : K85.sub c i j = c.u := by unfold K85.sub; rw [ea]; rfl
        refine sx_app rfl (ev_tup (ea_cons (ev_add (ev_var rfl) ev_int) (ea_cons (ev_add (ev_var rfl) ev_int) (ea_cons (ev_tup (ea_cons (ev_if (et_B (ev_var rfl)) (d := .str "unlike") (fun z => ?_) fun _ => ev_str) (ea_cons (ev_var rfl) (ea_cons (ev_var rfl) ea_nil))) (lz rfl)) (ea_cons (ev_if (et_B (ev_var rfl)) (d := .int c.u) (fun z => ?_) fun _ => ev_unlike T (ev_var rfl)) ea_nil)))) (lz rfl)) rfl (by decide) ?_
        · rw [decide_eq_false ha] at z; cases z
        · rw [decide_eq_false ha] at z; cases z
        · show Wk _ (R (p1 c i j))
          rw [e1, e2, e3]
          exact .keep (.keep (.keep (.keep (.skip .nil))))
    · have e1 : p1 c i j = [] := if_neg fun z => by rw [decide_eq_true z.1, decide_eq_true z.2] at h; cases h
      refine sx_next ?_
      show Wk _ (R (p1 c i j))
      rw [e1]
      exact .keep (.keep (.keep (.keep (.skip .nil))))
    refine sx_cutW (R (p1 c i j ++ p2 c i j)) (sx_if (et_lend (et_test ((ev_lt (ev_var rfl) (ev_lenOne T (ev_var rfl))).cast (by rw [dlt])))) (fun h => ?_) fun h => ?_) ?_
    · have e2 : p2 c i j = [(i + 1, j, .lack i, c.l)] := if_pos (of_decide_eq_true h)
      refine sx_app rfl (ev_tup (ea_cons (ev_add (ev_var rfl) ev_int) (ea_cons (ev_var rfl) (ea_cons (ev_tup (ea_cons ev_str (ea_cons (ev_var rfl) ea_nil)) (lz rfl)) (ea_cons (ev_lack T (ev_var rfl)) ea_nil)))) (lz rfl)) rfl ?_ ?_
      · rw [List.length_map]
        have : (p1 c i j).length ≤ 1 := by unfold p1; split <;> simp
        exact Nat.lt_of_le_of_lt this (by decide)
      · show Wk _ (R (p1 c i j ++ p2 c i j))
        rw [e2]
        show Wk _ [_, _, _, some (.own false (.lst ((p1 c i j ++ [(i + 1, j, Stp.lack i, c.l)]).map mvD))), none]
        rw [List.map_append]
        exact .keep (.keep (.keep (.keep (.skip .nil))))
    · have e2 : p2 c i j = [] := if_neg (of_decide_eq_false h)
      refine sx_next ?_
      show Wk _ (R (p1 c i j ++ p2 c i j))
      rw [e2, List.append_nil]
      exact .keep (.keep (.keep (.keep (.skip .nil))))
    refine sx_cutW (R (stepsFrom c i j)) (sx_if (et_lend (et_test ((ev_lt (ev_var rfl) (ev_lenOther T (ev_var rfl))).cast (by rw [dlt])))) (fun h => ?_) fun h => ?_) ?_
    · have e2 : p3 c i j = [(i, j + 1, .more j, c.m)] := if_pos (of_decide_eq_true h)
      refine sx_app rfl (ev_tup (ea_cons (ev_var rfl) (ea_cons (ev_add (ev_var rfl) ev_int) (ea_cons (ev_tup (ea_cons ev_str (ea_cons (ev_var rfl) ea_nil)) (lz rfl)) (ea_cons (ev_more T (ev_var rfl)) ea_nil)))) (lz rfl)) rfl ?_ ?_
      · rw [List.length_map, List.length_append]
        have : (p1 c i j).length ≤ 1 := by unfold p1; split <;> simp
        have : (p2 c i j).length ≤ 1 := by unfold p2; split <;> simp
        exact Nat.lt_of_le_of_lt (show _ ≤ 2 by omega) (by decide)
      · show Wk _ (R (p1 c i j ++ p2 c i j ++ p3 c i j))
        rw [e2]
        show Wk (([some (.dat (cstD T.C_Costs c)), some (.dat (iD i)), some (.dat (iD j)), some (.own false (.lst ((p1 c i j ++ p2 c i j).map mvD ++ [mvD (i, j + 1, Stp.more j, c.m)]))), none] : DL.Env)) [_, _, _, some (.own false (.lst ((p1 c i j ++ p2 c i j ++ [(i, j + 1, Stp.more j, c.m)]).map mvD))), none]
        rw [List.map_append (l₁ := p1 c i j ++ p2 c i j)]
        exact .keep (.keep (.keep (.keep (.skip .nil))))
    · have e2 : p3 c i j = [] := if_neg (of_decide_eq_false h)
      refine sx_next ?_
      show Wk _ (R (p1 c i j ++ p2 c i j ++ p3 c i j))
      rw [e2, List.append_nil]
      exact .keep (.keep (.keep (.keep (.skip .nil))))
    refine Sx.weak (ρ1 := [some (.dat (cstD T.C_Costs c)), some (.dat (iD i)), some (.dat (iD j)), some (.dat (.lst ((stepsFrom c i j).map mvD))), none]) (.keep (.keep (.keep (.set (.keep .nil))))) ?_
    exact sx_ret (ev_var rfl) ⟨rfl, keeps_dat⟩
end
end K85

namespace K85
open PySem L2 DL
section
variable {Pr : Program} {w : World} {K : Fg} {mg : Str → Option Value} {base : Heap}
theorem rg_nat {n : Nat} : ((n : Int) + 1).toNat = n + 1 := by omega
theorem rg_flat {n m : Nat} : (rgD 0 ((n : Int) + 1).toNat).flatMap (fun d => (rgD 0 ((m : Int) + 1).toNat).map fun e => D.tup [d, e]) = (placesL n m).map plD := by
  rw [rg_nat, rg_nat]
  unfold rgD placesL
  simp only [List.flatMap_map, List.map_flatMap, List.map_map, Int.zero_add]
  rfl
def Bnd (c : Cst) : Prop := c.one.length ≤ 100 ∧ c.other.length ≤ 100
theorem pl_le {n m : Nat} (hn : n ≤ 100) (hm : m ≤ 100) : (placesL n m).length ≤ 10201 := by
  rw [placesL_len]
  exact Nat.mul_le_mul (show n + 1 ≤ 101 by omega) (show m + 1 ≤ 101 by omega)
theorem sz {n : Nat} (h : n ≤ 100000) : n < sizeLine := Nat.lt_of_le_of_lt h (by decide)
def prePlaces (C : Addr) (ds : List D) (d : D) : Prop := ∃ c, Bnd c ∧ ds = [cstD C c] ∧ d = .lst ((placesL c.one.length c.other.length).map plD)
theorem ok_Costs_places (T : Tx K mg) : FnOk Pr w K mg base CX0 1 T.f_Costs_places T.fd_Costs_places p_Costs_places (spP K (prePlaces T.C_Costs)) := by
  refine fn_ok T.F_Costs_places sc_Costs_places ?len fun cdv A outer s H E hr svs d svs' hp => ?body
  case len =>
    rintro svs d svs' ⟨ds, rfl, _, c, _, rfl, _⟩
    rfl
  case body =>
    obtain ⟨ds, rfl, rfl, c, hb, rfl, rfl⟩ := hp
    have hb1 := hb.1
    have hb2 := hb.2
    refine ⟨_, (pss_one (ps_ret (pe_lc2 (own := [("i", 1), ("j", 2)]) (vs1 := [2]) rfl sc_Costs_places.nd (pi_range1 (by rfl) T.n_range (pa_cons (pe_op (op_addK K) (pe_callB (call_lenK K) (by rfl) T.n_len (by decide +kernel) (pa_cons (pe_fldK K (pv 0) rfl) pa_nil)) pe_int) pa_nil)) (blkOk_by (own := [("i", 1), ("j", 2)]) (N := N_Costs_places) (by first | decide +kernel | rfl)) (by decide) (fun _ _ _ _ _ => (pg_name (i := 1) sc_Costs_places.nd rfl (Or.inl rfl))) (fun _ _ _ _ _ => pts_nil) (fun _ _ _ _ _ => (pi_range1 (by rfl) T.n_range (pa_cons (pe_op (op_addK K) (pe_callB (call_lenK K) (by rfl) T.n_len (by decide +kernel) (pa_cons (pe_fldK K (pv 0) rfl) pa_nil)) pe_int) pa_nil))) (fun _ _ _ _ _ => (pg_name (i := 2) sc_Costs_places.nd rfl (Or.inl rfl))) (fun _ _ _ _ _ => pts_nil) (fun _ _ _ _ _ => (pe_tup (pa_cons (pv 1) (pa_cons (pv 2) pa_nil))))))), ?_⟩
    refine sx_ret ((en_flat (es := fun _ => rgD 0 ((c.other.length : Int) + 1).toNat) (f := fun d e => D.tup [d, e]) (js := [1]) (js1 := [2]) (ei_rng1 (ea_cons (ev_add (ev_lenOne T (ev_var rfl)) ev_int) ea_nil) (by omega) (by omega)) rfl (by decide) (by decide) ?_ fun d hd => gx_name (bl rfl) ?_).ev.cast ?_) ⟨rfl, keeps_dat⟩
    · rw [rg_flat, List.length_map]
      exact Nat.le_of_lt (sz (Nat.le_trans (pl_le hb1 hb2) (by decide)))
    · refine ⟨_, ei_rng1 (ea_cons (ev_add (ev_lenOther T (ev_var rfl)) ev_int) ea_nil) (by omega) (by omega), clr_of rfl, .keep (.skip (.keep .nil)), fun e he => gx_name (bl rfl) ⟨_, ev_tup (ea_cons (ev_var rfl) (ea_cons (ev_var rfl) ea_nil)) (lz rfl), .keep (.keep (.skip .nil))⟩⟩
    · rw [rg_flat]
/-! ### best -/
def keyP (p : Nat × Nat) : List Key := [.inl (p.1 : Int), .inl (p.2 : Int)]
theorem keyP_inj (a b : Nat × Nat) (h : keyP a = keyP b) : a = b := by
  obtain ⟨a1, a2⟩ := a
  obtain ⟨b1, b2⟩ := b
  unfold keyP at h
  injection h with h1 h2
  injection h2 with h2 _
  injection h1 with h1
  injection h2 with h2
  have e1 : a1 = b1 := Int.ofNat.inj h1
  have e2 : a2 = b2 := Int.ofNat.inj h2
  rw [e1, e2]
def entS (e : Ent) : D := match e.2 with | none => .non | some x => stpD x.1
def entH (e : Ent) : D := match e.2 with | none => .non | some x => plD (x.2.1, x.2.2)
def entD (e : Ent) : D := .tup [.int e.1, entS e, entH e]
def tabD (k : Tab) : List (List Key × D) := k.map fun p => (keyP p.1, entD p.2)
theorem tabD_get {k : Tab} {p : Nat × Nat} : getD (tabD k) (keyP p) = (getD k p).map entD := getD_mapKV keyP_inj k
theorem tabD_put {k : Tab} {p : Nat × Nat} {e : Ent} : putD (tabD k) (keyP p) (entD e) = tabD (putD k p e) := putD_mapKV keyP_inj
theorem costAt_of {k : Tab} {p : Nat × Nat} {e : Ent} (h : getD k p = some e) : costAt k p = e.1 := by unfold costAt; rw [h]; rfl
def preBest (C : Addr) (ds : List D) (d : D) : Prop := ∃ c, Bnd c ∧ ds = [cstD C c] ∧ d = dT' (tabD (best c))
theorem nPl : ("places" : Str) ∉ cN := by decide +kernel
theorem nSt : ("steps_from" : Str) ∉ cN := by decide +kernel
theorem nBe : ("best" : Str) ∉ cN := by decide +kernel
theorem ok_Costs_best (T : Tx K mg) : FnOk Pr w K mg base CX0 2 T.f_Costs_best T.fd_Costs_best p_Costs_best (spP K (preBest T.C_Costs)) := by
  have G_Costs_places := ok_Costs_places (Pr := Pr) (w := w) (base := base) T
  have G_Costs_steps_from := ok_Costs_steps_from (Pr := Pr) (w := w) (base := base) T
  refine fn_ok T.F_Costs_best sc_Costs_best ?len fun cdv A outer s H E hr svs d svs' hp => ?body
  case len =>
    rintro svs d svs' ⟨ds, rfl, _, c, _, rfl, _⟩
    rfl
  case body =>
    obtain ⟨ds, rfl, rfl, c, hb, rfl, rfl⟩ := hp
    refine ⟨_, (pss_cons (ps_set (i := 1) sc_Costs_best.nd rfl (Or.inl rfl) (pe_disp1T (hu_of hr) (pe_tup (pa_cons pe_int (pa_cons pe_int pa_nil))) (pe_tup (pa_cons pe_int (pa_cons pe_non (pa_cons pe_non pa_nil))))))
    (pss_cons (ps_for PassesOwn.never rfl (pi_seqK K (pe_meth0 (pv 0) T.c_Costs T.m_Costs_places G_Costs_places (hr.mono (by decide)) T.b_Costs_places .nil pass0)) (pg_name (i := 2) sc_Costs_best.nd rfl (Or.inl rfl))
    (pss_one (ps_for PassesOwn.never rfl (pi_seqK K (pe_meth (pv 0) T.c_Costs T.m_Costs_steps_from G_Costs_steps_from (hr.mono (by decide)) T.b_Costs_steps_from .nil pass0 (pa_cons (pe_ix (ix_K K) (pv 2) pe_int (fun _ _ => rfl)) (pa_cons (pe_ix (ix_K K) (pv 2) pe_int (fun _ _ => rfl)) pa_nil)))) (pg_tupK K (n := 4) rfl (pgs_cons (pg_name (i := 3) sc_Costs_best.nd rfl (Or.inl rfl)) (pgs_cons (pg_name (i := 4) sc_Costs_best.nd rfl (Or.inl rfl)) (pgs_cons (pg_name (i := 5) sc_Costs_best.nd rfl (Or.inl rfl)) (pgs_cons (pg_name (i := 6) sc_Costs_best.nd rfl (Or.inl rfl)) pgs_nil)))))
    (pss_cons (ps_set (i := 7) sc_Costs_best.nd rfl (Or.inl rfl) (pe_op (op_addK K) (pe_ix (ix_K K) (pe_dget (hu_of hr) (pv 1) (pv 2) (fun _ _ => rfl)) pe_int (fun _ _ => rfl)) (pv 6)))
    (pss_one (ps_if (pw_or (pt_cmp (pc_dnotin (hu_of hr) (pe_tup (pa_cons (pv 3) (pa_cons (pv 4) pa_nil))) (pv 1))) (pw_or1 (pt_cmpR op_lt (pv 7) (pe_ix (ix_K K) (pe_dget (hu_of hr) (pv 1) (pe_tup (pa_cons (pv 3) (pa_cons (pv 4) pa_nil))) (fun _ _ => rfl)) pe_int (fun _ _ => rfl)) (nomark _)))).pt
    (pss_one (ps_dput (hu_of hr) (pv 1) (pe_tup (pa_cons (pv 3) (pa_cons (pv 4) pa_nil))) (pe_tup (pa_cons (pv 7) (pa_cons (pv 5) (pa_cons (pv 2) pa_nil)))) rfl))
    pss_nil))))))
    (pss_one (ps_ret (pv 1))))), ?_⟩
    refine sx_seq (sx_own (en_disp1T (k := keyP (0, 0)) (ev_tup (ea_cons ev_int (ea_cons ev_int ea_nil)) (lz rfl)) (ev_tup (ea_cons ev_int (ea_cons ev_non (ea_cons ev_non ea_nil))) (lz rfl))) (bl rfl) ?_)
    let R : Tab → Option SV → DL.Env := fun k h => [some (.dat (cstD T.C_Costs c)), some (.own false (dT' (tabD k))), h, none, none, none, none, none]
    refine sx_seq (sx_forW (js := [2]) (ei_list (ev_meth (ds := []) (dds := []) (ev_var rfl) nPl ea_nil (fun _ => .nil) ⟨c, hb, rfl, rfl⟩)) (fun t => R (bestAt c t) none) (Wk.refl _) (fun t d e => ?_) ?_)
    · obtain ⟨⟨i, j⟩, e1, rfl⟩ := map_at e
      obtain ⟨hi, hj, ht⟩ := placesL_at e1
      have tl : t < (placesL c.one.length c.other.length).length := (List.getElem?_eq_some_iff.mp e1).1
      have tl2 := pl_le hb.1 hb.2
      have I0 := (bestAt_inv c t (Nat.le_of_lt tl)).turn hi hj ht
      let kq : Nat → Tab := fun q => ((stepsFrom c i j).take q).foldl (relax (i, j)) (bestAt c t)
      have Iq : ∀ q, TInv c t i j ((stepsFrom c i j).take q) (kq q) := fun q => by
        have := TInv.all hi hj ht ((stepsFrom c i j).take q) [] _ (fun x hx => List.mem_of_mem_take hx) I0
        rwa [List.nil_append] at this
      refine gx_name (bl rfl) ?_
      refine sx_forW (js := [3] ++ ([4] ++ ([5] ++ ([6] ++ [])))) (ei_list (ev_meth (ds := [iD i, iD j]) (dds := []) (ev_var rfl) nSt (ea_cons (ev_ixT (ev_var rfl) ev_int rfl) (ea_cons (ev_ixT (ev_var rfl) ev_int rfl) ea_nil)) (fun _ => .nil) ⟨c, i, j, rfl, rfl⟩)) (fun q => R (kq q) (some (.dat (plD (i, j))))) (Wk.refl _) (fun q d e => ?_) ?_
      · obtain ⟨x, e2, rfl⟩ := map_at e
        have hx : x ∈ stepsFrom c i j := List.mem_of_getElem? e2
        have ql : q < (stepsFrom c i j).length := (List.getElem?_eq_some_iff.mp e2).1
        have kl : (kq q).length < sizeLine := by
          have h1 := fold_len (h := (i, j)) ((stepsFrom c i j).take q) (bestAt c t)
          have h2 := bestAt_len c t
          have h3 := steps_len c i j
          rw [List.length_take] at h1
          refine sz ?_
          show (((stepsFrom c i j).take q).foldl (relax (i, j)) (bestAt c t)).length ≤ 100000
          omega
        have kn : kq (q + 1) = relax (i, j) (kq q) x := by
          show ((stepsFrom c i j).take (q + 1)).foldl _ _ = _
          rw [List.take_add_one, e2, List.foldl_append]
          rfl
        obtain ⟨e0, g1, g2⟩ := (Iq q).done i j hi hj (by omega)
        have hc : costAt (kq q) (i, j) = e0.1 := costAt_of g1
        have hget : getD (tabD (kq q)) (keyP (i, j)) = some (entD e0) := by rw [tabD_get, g1]; rfl
        refine gx_tup rfl (gxs_cons (gx_name (bl rfl) (gxs_cons (gx_name (bl rfl) (gxs_cons (gx_name (bl rfl) (gxs_cons (gx_name (bl rfl) (gxs_nil ?_)))))))))
        refine sx_seq (sx_set (ev_lend (ev_add (ev_ixT (ev_dgetT (k := keyP (i, j)) (ev_var rfl) (ev_var rfl) hget) ev_int rfl) (ev_var rfl)) rfl) (bl rfl) ?_)
        have key : Ev K (tTup (tCons (tVar 3) (tCons (tVar 4) tNil))) [some (.dat (cstD T.C_Costs c)), some (.own false (dT' (tabD (kq q)))), some (.dat (plD (i, j))), some (.dat (iD x.1)), some (.dat (iD x.2.1)), some (.dat (stpD x.2.2.1)), some (.dat (.int x.2.2.2)), some (.dat (.int (e0.1 + x.2.2.2)))] (.tup ((keyP (x.1, x.2.1)).map kD)) [some (.dat (cstD T.C_Costs c)), some (.own false (dT' (tabD (kq q)))), some (.dat (plD (i, j))), some (.dat (iD x.1)), some (.dat (iD x.2.1)), some (.dat (stpD x.2.2.1)), some (.dat (.int x.2.2.2)), some (.dat (.int (e0.1 + x.2.2.2)))] :=
          ev_tup (ea_cons (ev_var rfl) (ea_cons (ev_var rfl) ea_nil)) (lz rfl)
        have key' : Ev K (tTup (tCons (tVar 3) (tCons (tVar 4) tNil))) [some (.dat (cstD T.C_Costs c)), some (.dat (dT' (tabD (kq q)))), some (.dat (plD (i, j))), some (.dat (iD x.1)), some (.dat (iD x.2.1)), some (.dat (stpD x.2.2.1)), some (.dat (.int x.2.2.2)), some (.dat (.int (e0.1 + x.2.2.2)))] (.tup ((keyP (x.1, x.2.1)).map kD)) [some (.dat (cstD T.C_Costs c)), some (.dat (dT' (tabD (kq q)))), some (.dat (plD (i, j))), some (.dat (iD x.1)), some (.dat (iD x.2.1)), some (.dat (stpD x.2.2.1)), some (.dat (.int x.2.2.2)), some (.dat (.int (e0.1 + x.2.2.2)))] :=
          ev_tup (ea_cons (ev_var rfl) (ea_cons (ev_var rfl) ea_nil)) (lz rfl)
        refine sx_if (EvT.cast (et_lend (et_or (et_B (ev_dnotinT key' (ev_var rfl))) (y := decide (e0.1 + x.2.2.2 < costAt (kq q) (x.1, x.2.1))) fun h => ?_)) (y := relaxOk (i, j) (kq q) x) ?_) (fun h => ?_) fun h => ?_
        · rw [tabD_get, Option.isSome_map] at h
          cases h1 : getD (kq q) (x.1, x.2.1) with
          | none => rw [h1] at h; cases h
          | some e1 =>
            rw [costAt_of h1]
            exact et_test (ev_lt (ev_var rfl) (ev_ixT (ev_dgetT (ev_var rfl) key' (by rw [tabD_get, h1]; rfl)) ev_int rfl))
        · rw [tabD_get, Option.isSome_map]
          unfold relaxOk
          rw [hc]
        · refine sx_dputT (d := entD (e0.1 + x.2.2.2, some (x.2.2.1, i, j))) (ev_tup (ea_cons (ev_var rfl) (ea_cons (ev_var rfl) (ea_cons (ev_var rfl) ea_nil))) (lz rfl)) rfl key rfl (by unfold tabD; rw [List.length_map]; exact kl) ?_
          have e3 : putD (tabD (kq q)) (keyP (x.1, x.2.1)) (entD (e0.1 + x.2.2.2, some (x.2.2.1, i, j))) = tabD (kq (q + 1)) := by
            rw [tabD_put, kn]
            unfold relax
            rw [if_pos h, hc]
          show Wk _ (R (kq (q + 1)) _)
          rw [e3]
          exact .keep (.keep (.keep (.skip (.skip (.skip (.skip (.skip .nil)))))))
        · have e3 : kq (q + 1) = kq q := by
            rw [kn]
            unfold relax
            rw [if_neg (by rw [h]; exact Bool.false_ne_true)]
          refine sx_next ?_
          show Wk _ (R (kq (q + 1)) _)
          rw [e3]
          exact .keep (.keep (.keep (.skip (.skip (.skip (.skip (.skip .nil)))))))
      · refine sx_next ?_
        show Wk (R (kq ((stepsFrom c i j).map mvD).length) _) (R (bestAt c (t + 1)) none)
        have e3 : kq ((stepsFrom c i j).map mvD).length = bestAt c (t + 1) := by
          rw [bestAt_succ e1, List.length_map]
          show ((stepsFrom c i j).take _).foldl _ _ = _
          rw [List.take_length]
          rfl
        rw [e3]
        exact .keep (.keep (.skip (.keep (.keep (.keep (.keep (.keep .nil)))))))
    · refine sx_next ?_
      have e3 : bestAt c ((placesL c.one.length c.other.length).map plD).length = best c := by rw [List.length_map, ← best_eq]
      show Sx K _ (R (bestAt c _) none) _
      rw [e3]
      refine Sx.weak (ρ1 := [some (.dat (cstD T.C_Costs c)), some (.dat (dT' (tabD (best c)))), none, none, none, none, none, none]) (.keep (.set (.keep (.keep (.keep (.keep (.keep (.keep .nil)))))))) ?_
      exact sx_ret (ev_var rfl) ⟨rfl, keeps_dat⟩
end
end K85

namespace K85
open PySem L2 DL
section
variable {Pr : Program} {w : World} {K : Fg} {mg : Str → Option Value} {base : Heap}
/-! ### held -/
def entAt (c : Cst) (i j : Nat) : Ent := (getD (best c) (i, j)).getD (0, none)
theorem entAt_get {c : Cst} {i j : Nat} (hi : i ≤ c.one.length) (hj : j ≤ c.other.length) : getD (best c) (i, j) = some (entAt c i j) ∧ (entAt c i j).1 = dp c i j ∧ (entAt c i j).2 = nxt c i j := by
  have hn : (entAt c i j).2 = nxt c i j := rfl
  rcases best_at hi hj with ⟨h, _⟩ | ⟨a, b, s, q, h, _⟩
  · have : entAt c i j = (dp c i j, none) := by unfold entAt; rw [h]; rfl
    exact ⟨by rw [h, this], by rw [this], hn⟩
  · have : entAt c i j = (dp c i j, some (s, a, b)) := by unfold entAt; rw [h]; rfl
    exact ⟨by rw [h, this], by rw [this], hn⟩
theorem tab_at {c : Cst} {i j : Nat} (hi : i ≤ c.one.length) (hj : j ≤ c.other.length) : getD (tabD (best c)) (keyP (i, j)) = some (.tup [.int (dp c i j), entS (entAt c i j), entH (entAt c i j)]) := by
  obtain ⟨h1, h2, h3⟩ := entAt_get hi hj
  rw [tabD_get, h1, ← h2]
  rfl
def rowT (c : Cst) (i : Nat) : D := .tup ((List.range (c.other.length + 1)).map fun j => .int (dp c i j))
def rowsL (c : Cst) : List D := (List.range (c.one.length + 1)).map (rowT c)
def heldD (c : Cst) : D := .tup [.int (cost c), .tup ((told c c.one.length c.other.length).reverse.map stpD), .tup (rowsL c)]
def argsD (c : Cst) : List D := [rowD c.one, rowD c.other, .int c.u, .int c.l, .int c.m]
def preHeld (ds : List D) (d : D) : Prop := ∃ c, Bnd c ∧ ds = argsD c ∧ d = heldD c
theorem entS_none {c : Cst} {i j : Nat} (h : nxt c i j = none) : entS (entAt c i j) = .non := by
  have : (entAt c i j).2 = none := h
  unfold entS; rw [this]
theorem entS_some {c : Cst} {i j a b : Nat} {s : Stp} (h : nxt c i j = some (s, a, b)) : entS (entAt c i j) = stpD s ∧ entH (entAt c i j) = plD (a, b) := by
  have : (entAt c i j).2 = some (s, a, b) := h
  unfold entS entH; rw [this]
  exact ⟨rfl, rfl⟩
theorem stp_tup (s : Stp) : ∃ l, stpD s = .tup l := by cases s <;> exact ⟨_, rfl⟩
theorem told_len {c : Cst} : ∀ (t i j : Nat), i + j = t → i ≤ c.one.length → j ≤ c.other.length → (told c i j).length ≤ t := by
  intro t
  induction t using Nat.strongRecOn with
  | _ t ih =>
    intro i j ht hi hj
    rcases nxt_at hi hj with ⟨e, rfl, rfl⟩ | ⟨a, b, s, q, e, h1, h2, ha, hb, hl⟩
    · rw [told_none e]; exact Nat.zero_le _
    · rw [told_some e ha hb hl, List.length_cons]
      have := ih (a + b) (by omega) a b rfl ha hb
      omega
theorem ok_held (T : Tx K mg) : FnOk Pr w K mg base CX0 3 T.f_held T.fd_held p_held (spP K preHeld) := by
  have G_Costs__init := ok_Costs__init (Pr := Pr) (w := w) (base := base) T
  have G_Costs_best := ok_Costs_best (Pr := Pr) (w := w) (base := base) T
  refine fn_okD T.F_held sc_held ?len fun cdv A outer s H E hr svs d svs' hp => ?body
  case len =>
    rintro svs d svs' ⟨ds, rfl, _, c, _, rfl, _⟩
    rfl
  case body =>
    obtain ⟨ds, rfl, rfl, c, hb, rfl, rfl⟩ := hp
    have hb1 := hb.1
    have hb2 := hb.2
    refine ⟨_, (pss_cons (ps_set (i := 5) sc_held.nd rfl (Or.inl rfl) (pe_make T.M_Costs G_Costs__init (hr.mono (by decide)) (by rfl) T.g_Costs T.b_Costs__init .nil pass0 (pa_cons (pv 0) (pa_cons (pv 1) (pa_cons (pv 2) (pa_cons (pv 3) (pa_cons (pv 4) pa_nil)))))))
    (pss_cons (ps_set (i := 6) sc_held.nd rfl (Or.inr rfl) (pe_meth0 (pv 5) T.c_Costs T.m_Costs_best G_Costs_best (hr.mono (by decide)) T.b_Costs_best .nil pass0))
    (pss_cons (ps_asg (pe_dget (hu_of hr) (pv 6) (pe_tup (pa_cons (pe_callB (call_lenK K) (by rfl) T.n_len (by decide +kernel) (pa_cons (pv 0) pa_nil)) (pa_cons (pe_callB (call_lenK K) (by rfl) T.n_len (by decide +kernel) (pa_cons (pv 1) pa_nil)) pa_nil))) (fun _ _ => rfl)) (pg_tupK K (n := 3) rfl (pgs_cons (pg_name (i := 7) sc_held.nd rfl (Or.inl rfl)) (pgs_cons (pg_name (i := 8) sc_held.nd rfl (Or.inl rfl)) (pgs_cons (pg_name (i := 9) sc_held.nd rfl (Or.inl rfl)) pgs_nil)))))
    (pss_cons (ps_set (i := 10) sc_held.nd rfl (Or.inl rfl) (pe_lst pa_nil))
    (pss_cons (ps_while PassesOwn.never (pt_cmp (pc_notN (pv 8)))
    (pss_cons (ps_expr (pe_appK K (pv 10) (pv 8)))
    (pss_one (ps_asg (pe_dget (hu_of hr) (pv 6) (pv 9) (fun _ _ => rfl)) (pg_tupK K (n := 3) rfl (pgs_cons (pg_name (i := 11) sc_held.nd rfl (Or.inl rfl)) (pgs_cons (pg_name (i := 8) sc_held.nd rfl (Or.inl rfl)) (pgs_cons (pg_name (i := 9) sc_held.nd rfl (Or.inl rfl)) pgs_nil))))))))
    (pss_cons (ps_setLc (own := [("i", 13)]) (i := 12) rfl sc_held.nd rfl rfl (sw_true rfl rfl rfl (by decide +kernel)) (pi_range1 (by rfl) T.n_range (pa_cons (pe_op (op_addK K) (pe_callB (call_lenK K) (by rfl) T.n_len (by decide +kernel) (pa_cons (pv 0) pa_nil)) pe_int) pa_nil)) (blkOk_by (own := [("i", 13)]) (N := N_held) (by first | decide +kernel | rfl)) (fun _ _ _ _ _ => (pg_name (i := 13) sc_held.nd rfl (Or.inr rfl))) (fun _ _ _ _ _ => pts_nil) (fun _ _ _ _ _ => (pe_callTy (call_tupleK K) (by rfl) T.n_tuple (by decide +kernel) (pa_cons (pe_lc (own := [("j", 14)]) rfl sc_held.nd (pi_range1 (by rfl) T.n_range (pa_cons (pe_op (op_addK K) (pe_callB (call_lenK K) (by rfl) T.n_len (by decide +kernel) (pa_cons (pv 1) pa_nil)) pe_int) pa_nil)) (blkOk_by (own := [("j", 14)]) (N := N_held) (by first | decide +kernel | rfl)) (fun _ _ _ _ _ => (pg_name (i := 14) sc_held.nd rfl (Or.inl rfl))) (fun _ _ _ _ _ => pts_nil) (fun _ _ _ _ _ => (pe_ix (ix_K K) (pe_dget (hu_of hr) (pv 6) (pe_tup (pa_cons (pv 13) (pa_cons (pv 14) pa_nil))) (fun _ _ => rfl)) pe_int (fun _ _ => rfl)))) pa_nil))))
    (pss_one (ps_ret (pe_tup (pa_cons (pv 7) (pa_cons (pe_tupRevK K rfl (by rfl) T.n_tuple (by rfl) T.n_reversed (pv 10)) (pa_cons (pe_callTy (call_tupleK K) (by rfl) T.n_tuple (by decide +kernel) (pa_cons (pv 12) pa_nil)) pa_nil)))))))))))), ?_⟩
    refine sx_seq (sx_set (en_make (C := T.C_Costs) (ds := argsD c) (dds := []) (ea_cons (ev_var rfl) (ea_cons (ev_var rfl) (ea_cons (ev_var rfl) (ea_cons (ev_var rfl) (ea_cons (ev_var rfl) ea_nil))))) (fun _ => .nil) ⟨rfl, rfl, rfl, rfl⟩).ev (bl rfl) ?_)
    refine sx_seq (sx_set (ev_meth (C := T.C_Costs) (ds := []) (dds := []) (ev_var rfl) nBe ea_nil (fun _ => .nil) ⟨c, hb, rfl, rfl⟩) (bl rfl) ?_)
    let n := c.one.length
    let m := c.other.length
    refine sx_seq (sx_asg (js := [7] ++ ([8] ++ ([9] ++ []))) (ev_dgetT (k := keyP (n, m)) (ev_var rfl) (ev_tup (ea_cons ((ev_lenL (ea_cons (ev_var rfl) ea_nil)).cast (c := iD n) (by rw [List.length_map])) (ea_cons ((ev_lenL (ea_cons (ev_var rfl) ea_nil)).cast (c := iD m) (by rw [List.length_map])) ea_nil)) (lz rfl)) (tab_at (Nat.le_refl _) (Nat.le_refl _)))
      (gx_tup rfl (gxs_cons (gx_name (bl rfl) (gxs_cons (gx_name (bl rfl) (gxs_cons (gx_name (bl rfl) (gxs_nil ?_)))))))))
    refine sx_seq (sx_own (en_lst ea_nil (Nat.zero_le _)) (bl rfl) ?_)
    let R : Nat → Nat → List Stp → DL.Env := fun i j acc => [some (.dat (rowD c.one)), some (.dat (rowD c.other)), some (.dat (.int c.u)), some (.dat (.int c.l)), some (.dat (.int c.m)), none, some (.dat (dT' (tabD (best c)))), some (.dat (.int (cost c))),
      some (.dat (entS (entAt c i j))), some (.dat (entH (entAt c i j))), some (.own false (.lst (acc.map stpD))), none, none, none, none]
    refine sx_seq (sx_while (fun q ρ' => ∃ i j acc, i ≤ n ∧ j ≤ m ∧ q = i + j ∧ acc ++ told c i j = told c n m ∧ Wk ρ' (R i j acc)) (n + m) ⟨n, m, [], Nat.le_refl _, Nat.le_refl _, rfl, rfl, ?_⟩ ?_)
    · exact .keep (.keep (.keep (.keep (.keep (.skip (.keep (.keep (.keep (.keep (.keep (.keep (.keep (.keep (.keep .nil))))))))))))))
    · rintro q ρ' ⟨i, j, acc, hi, hj, rfl, ha, wk⟩
      refine ⟨!nonD (entS (entAt c i j)), R i j acc, (et_B (ev_notN (ev_var rfl))).weak wk, fun hx => ?_, fun hx => ?_⟩
      · rcases nxt_at hi hj with ⟨e, _⟩ | ⟨a, b, s, q, e, h1, h2, h3, h4, h5⟩
        · rw [entS_none e] at hx; cases hx
        · obtain ⟨e1, e2⟩ := entS_some e
          have ht := told_some e h3 h4 h5
          rw [ht] at ha
          have hl : acc.length ≤ 200 := by
            have e3 := congrArg List.length ha
            have e4 := told_len (c := c) _ n m rfl (Nat.le_refl _) (Nat.le_refl _)
            have e5 : n ≤ 100 := hb1
            have e6 : m ≤ 100 := hb2
            rw [List.length_append] at e3
            omega
          refine sx_seq (sx_app rfl (ev_var rfl) rfl (by rw [List.length_map]; exact sz (by omega)) ?_)
          refine sx_asg (js := [11] ++ ([8] ++ ([9] ++ []))) (ev_dgetT (k := keyP (a, b)) (ev_var rfl) (show Ev K (tVar 9) _ (.tup ((keyP (a, b)).map kD)) _ from (ev_var (d := entH (entAt c i j)) rfl).cast e2) (tab_at h3 h4))
            (gx_tup rfl (gxs_cons (gx_name (bl rfl) (gxs_cons (gx_name (bl rfl) (gxs_cons (gx_name (bl rfl) (gxs_nil ?_))))))))
          refine ⟨a + b, h5, a, b, acc ++ [s], h3, h4, rfl, by rw [List.append_assoc]; exact ha, ?_⟩
          show Wk [_, _, _, _, _, none, _, _, some (.dat (entS (entAt c a b))), some (.dat (entH (entAt c a b))), some (.own false (.lst (acc.map stpD ++ [entS (entAt c i j)]))), _, none, none, none] (R a b (acc ++ [s]))
          rw [e1]
          show Wk _ [_, _, _, _, _, none, _, _, _, _, some (.own false (.lst ((acc ++ [s]).map stpD))), none, none, none, none]
          rw [List.map_append]
          exact .keep (.keep (.keep (.keep (.keep (.keep (.keep (.keep (.keep (.keep (.keep (.skip (.keep (.keep (.keep .nil))))))))))))))
      · rcases nxt_at hi hj with ⟨e, rfl, rfl⟩ | ⟨a, b, s, q, e, h1, h2, h3, h4, h5⟩
        · rw [told_none e, List.append_nil] at ha
          subst ha
          refine Sx.weak (ρ1 := [some (.dat (rowD c.one)), some (.dat (rowD c.other)), none, none, none, none, some (.dat (dT' (tabD (best c)))), some (.dat (.int (cost c))), none, none, some (.dat (.lst ((told c n m).map stpD))), none, none, none, none])
            (.keep (.keep (.skip (.skip (.skip (.skip (.keep (.keep (.skip (.skip (.set (.keep (.keep (.keep (.keep .nil))))))))))))))) ?_
          refine sx_seq (sx_set (EvN.cast (en_mapM (js := [13]) (fun (i : Nat) => D.int (i : Int)) (List.range (n + 1)) (rowT c) (EvI.cast (ei_rng1 (ea_cons (ev_add ((ev_lenL (ea_cons (ev_var rfl) ea_nil)).cast (c := iD n) (by rw [List.length_map])) ev_int) ea_nil) (by show -(2^62) ≤ (c.one.length : Int) + 1; omega) (by show (c.one.length : Int) + 1 < 2^62; omega)) (by rw [rg_nat, rgD_map])) rfl (by decide) (by rw [List.length_range]; exact Nat.le_of_lt (sz (show c.one.length + 1 ≤ _ by omega))) fun i hi => gx_name (bl rfl) ?_) rfl).ev (bl rfl) ?_)
          · have hi : i < n + 1 := List.mem_range.mp hi
            refine ⟨_, ev_tupL (ea_cons (EvN.ev (en_mapM (js := [14]) (fun (i : Nat) => D.int (i : Int)) (List.range (m + 1)) (fun j => .int (dp c i j)) (EvI.cast (ei_rng1 (ea_cons (ev_add ((ev_lenL (ea_cons (ev_var rfl) ea_nil)).cast (c := iD m) (by rw [List.length_map])) ev_int) ea_nil) (by show -(2^62) ≤ (c.other.length : Int) + 1; omega) (by show (c.other.length : Int) + 1 < 2^62; omega)) (by rw [rg_nat, rgD_map])) rfl (by decide) (by rw [List.length_range]; exact Nat.le_of_lt (sz (show c.other.length + 1 ≤ _ by omega))) fun j hj => gx_name (bl rfl) ?_)) ea_nil), ?_⟩
            · have hj : j < m + 1 := List.mem_range.mp hj
              refine ⟨_, ev_ixT (ev_dgetT (k := keyP (i, j)) (ev_var rfl) (ev_tup (ea_cons (ev_var rfl) (ea_cons (ev_var rfl) ea_nil)) (lz rfl)) (tab_at (Nat.le_of_lt_succ hi) (Nat.le_of_lt_succ hj))) ev_int rfl, ?_⟩
              exact .keep (.keep (.keep (.keep (.keep (.keep (.keep (.keep (.keep (.keep (.keep (.keep (.keep (.keep (.skip .nil))))))))))))))
            · exact .keep (.keep (.keep (.keep (.keep (.keep (.keep (.keep (.keep (.keep (.keep (.keep (.keep (.skip (.keep .nil))))))))))))))
          · refine sx_ret (ev_tup (ea_cons (ev_var rfl) (ea_cons (ev_tupRev (ev_var rfl)) (ea_cons (ev_tupL (ea_cons (ev_var rfl) ea_nil)) ea_nil))) (lz rfl)) ⟨?_, keeps_dat⟩
            show D.tup [_, .tup ((told c n m).map stpD).reverse, _] = _
            rw [← List.map_reverse]
            rfl
        · obtain ⟨l, e3⟩ := stp_tup s
          rw [(entS_some e).1, e3] at hx
          cases hx
end
end K85

namespace K85
open PySem L2 DL
section
variable {Pr : Program} {w : World} {K : Fg} {mg : Str → Option Value} {base : Heap}
/-! ### held_right -/
theorem Run.fn {c : Cst} {xs : List Stp} {a b : Nat} {k : Int} (h : Run c xs a b k) : ∃ f : Nat → Nat × Nat × Int, f 0 = (0, 0, 0) ∧ f xs.length = (a, b, k) ∧
    ∀ t s, xs[t]? = some s → ∃ q, ((f (t + 1)).1, (f (t + 1)).2.1, s, q) ∈ stepsFrom c (f t).1 (f t).2.1 ∧ (f (t + 1)).2.2 = (f t).2.2 + q := by
  induction h with
  | nil => exact ⟨fun _ => (0, 0, 0), rfl, rfl, fun t s e => by simp at e⟩
  | @snoc xs a b k i j s q _ hm ih =>
    obtain ⟨f, h0, h1, h2⟩ := ih
    refine ⟨fun t => if t ≤ xs.length then f t else (i, j, k + q), ?_, ?_, fun t s' e => ?_⟩
    · simp only [Nat.zero_le, if_true]; exact h0
    · rw [List.length_append, List.length_singleton]
      show (if xs.length + 1 ≤ xs.length then f (xs.length + 1) else (i, j, k + q)) = _
      rw [if_neg (by omega)]
    · by_cases ht : t < xs.length
      · rw [List.getElem?_append_left ht] at e
        obtain ⟨q', g1, g2⟩ := h2 t s' e
        simp only [if_pos (show t ≤ xs.length by omega), if_pos (show t + 1 ≤ xs.length by omega)]
        exact ⟨q', g1, g2⟩
      · have ht2 : t = xs.length := by
          have := (List.getElem?_eq_some_iff.mp e).1
          rw [List.length_append, List.length_singleton] at this
          omega
        subst ht2
        rw [List.getElem?_append_right (Nat.le_refl _), Nat.sub_self] at e
        have es : s = s' := Option.some.inj e
        subst es
        simp only [if_pos (Nat.le_refl _), if_neg (show ¬ xs.length + 1 ≤ xs.length by omega), h1]
        exact ⟨q, hm, rfl⟩
theorem shaped3 {x : Str} {i j : Int} (h : PyData.strOk x = true) : SeqAt.shaped (.tuple [.str x, .int i, .int j]) = true := by
  simp [SeqAt.shaped, PyData.canLay0, PyData.canLayAll0, PyData.depth, PyData.depthAll, h]
theorem shaped2 {x : Str} {i : Int} (h : PyData.strOk x = true) : SeqAt.shaped (.tuple [.str x, .int i]) = true := by
  simp [SeqAt.shaped, PyData.canLay0, PyData.canLayAll0, PyData.depth, PyData.depthAll, h]
theorem ok1 : PyData.strOk "same" = true := by decide +kernel
theorem ok2 : PyData.strOk "unlike" = true := by decide +kernel
theorem ok3 : PyData.strOk "lack" = true := by decide +kernel
theorem ok4 : PyData.strOk "more" = true := by decide +kernel
theorem q12 : (("same" : Str) == "unlike") = false := by decide +kernel
theorem q21 : (("unlike" : Str) == "same") = false := by decide +kernel
theorem q34 : (("lack" : Str) == "more") = false := by decide +kernel
theorem q43 : (("more" : Str) == "lack") = false := by decide +kernel
theorem eqd_stp (a b : Stp) : EqD (stpD a) (stpD b) (decide (a = b)) := by
  refine .inr ?_
  cases a <;> cases b
  all_goals
    refine ⟨_, _, rfl, rfl, ?_, ?_, ?_⟩
    · first | exact shaped3 ok1 | exact shaped3 ok2 | exact shaped2 ok3 | exact shaped2 ok4
    · first | exact shaped3 ok1 | exact shaped3 ok2 | exact shaped2 ok3 | exact shaped2 ok4
    · simp only [PyData.eqv, PyData.eqvAll, q12, q21, q34, q43, beq_self_eq_true, Bool.true_and, Bool.false_and, Bool.and_true, Bool.and_false]
      first
      | rfl
      | (rw [Bool.eq_iff_iff]; simp; done)
      | (rw [Bool.eq_iff_iff]; simp; omega)
def wayD (x : Mv) : D := .tup [iD x.1, iD x.2.1, .int x.2.2.2]
def preCostOf (C : Addr) (ds : List D) (d : D) : Prop := ∃ c xs k, Run c xs c.one.length c.other.length k ∧ ds = [cstD C c, .tup (xs.map stpD)] ∧ d = .int k
theorem ok_cost_of (T : Tx K mg) : FnOk Pr w K mg base CX0 2 T.f_cost_of T.fd_cost_of p_cost_of (spP K (preCostOf T.C_Costs)) := by
  have G_Costs_steps_from := ok_Costs_steps_from (Pr := Pr) (w := w) (base := base) T
  refine fn_ok T.F_cost_of sc_cost_of ?len fun cdv A outer s H E hr svs d svs' hp => ?body
  case len =>
    rintro svs d svs' ⟨ds, rfl, _, c, xs, k, _, rfl, _⟩
    rfl
  case body =>
    obtain ⟨ds, rfl, rfl, c, xs, k, hrun, rfl, rfl⟩ := hp
    obtain ⟨f, f0, fl, fs⟩ := hrun.fn
    refine ⟨_, (pss_cons (ps_asg3 pe_int (pg_name (i := 2) sc_cost_of.nd rfl (Or.inl rfl)) (pg_name (i := 3) sc_cost_of.nd rfl (Or.inl rfl)) (pg_name (i := 4) sc_cost_of.nd rfl (Or.inl rfl)))
    (pss_cons (ps_for PassesOwn.never rfl (pi_seqK K (pv 1)) (pg_name (i := 5) sc_cost_of.nd rfl (Or.inr rfl))
    (pss_cons (ps_setLc (own := [("a", 8), ("b", 9), ("own", 10), ("cost", 7)]) (i := 6) rfl sc_cost_of.nd rfl rfl (sw_true rfl rfl rfl (by decide +kernel)) (pi_seqK K (pe_meth (pv 0) T.c_Costs T.m_Costs_steps_from G_Costs_steps_from (hr.mono (by decide)) T.b_Costs_steps_from .nil pass0 (pa_cons (pv 2) (pa_cons (pv 3) pa_nil)))) (blkOk_by (own := [("a", 8), ("b", 9), ("own", 10), ("cost", 7)]) (N := N_cost_of) (by first | decide +kernel | rfl)) (fun _ _ _ _ _ => (pg_tupK K (n := 4) rfl (pgs_cons (pg_name (i := 8) sc_cost_of.nd rfl (Or.inl rfl)) (pgs_cons (pg_name (i := 9) sc_cost_of.nd rfl (Or.inl rfl)) (pgs_cons (pg_name (i := 10) sc_cost_of.nd rfl (Or.inl rfl)) (pgs_cons (pg_name (i := 7) sc_cost_of.nd rfl (Or.inl rfl)) pgs_nil)))))) (fun _ _ _ _ _ => (pts_one (pt_cmpR (op_eqK K hr.units) (pv 10) (pv 5) (nomark _)))) (fun _ _ _ _ _ => (pe_tup (pa_cons (pv 8) (pa_cons (pv 9) (pa_cons (pv 7) pa_nil))))))
    (pss_cons (ps_if (pt_cmpR (op_eqK K hr.units) (pe_callB (call_lenK K) (by rfl) T.n_len (by decide +kernel) (pa_cons (pv 6) pa_nil)) pe_int (nomark _))
    (pss_one (ps_ret pe_non))
    pss_nil)
    (pss_cons (ps_asg (pe_ix (ix_K K) (pv 6) pe_int (fun _ _ => rfl)) (pg_tupK K (n := 3) rfl (pgs_cons (pg_name (i := 2) sc_cost_of.nd rfl (Or.inl rfl)) (pgs_cons (pg_name (i := 3) sc_cost_of.nd rfl (Or.inl rfl)) (pgs_cons (pg_name (i := 7) sc_cost_of.nd rfl (Or.inl rfl)) pgs_nil)))))
    (pss_one (ps_aug (i := 4) sc_cost_of.nd rfl (Or.inl rfl) (pv 7) ip_add))))))
    (pss_cons (ps_if (pw_or (pt_cmpR op_lt (pv 2) (pe_callB (call_lenK K) (by rfl) T.n_len (by decide +kernel) (pa_cons (pe_fldK K (pv 0) rfl) pa_nil)) (nomark _)) (pw_or1 (pt_cmpR op_lt (pv 3) (pe_callB (call_lenK K) (by rfl) T.n_len (by decide +kernel) (pa_cons (pe_fldK K (pv 0) rfl) pa_nil)) (nomark _)))).pt
    (pss_one (ps_ret pe_non))
    pss_nil)
    (pss_one (ps_ret (pv 4)))))), ?_⟩
    refine sx_seq (sx_asg3 ev_int (bl rfl) (bl rfl) (bl rfl) ?_)
    let R : Nat → DL.Env := fun t => [some (.dat (cstD T.C_Costs c)), some (.dat (.tup (xs.map stpD))), some (.dat (iD (f t).1)), some (.dat (iD (f t).2.1)), some (.dat (.int (f t).2.2)), none, none, none, none, none, none]
    refine sx_seq (sx_forW (js := [5]) (ei_tup (ev_var rfl)) R ?_ (fun t d e => ?_) ?_)
    · show Wk _ [_, _, some (.dat (iD (f 0).1)), some (.dat (iD (f 0).2.1)), some (.dat (.int (f 0).2.2)), none, none, none, none, none, none]
      rw [f0]
      exact Wk.refl _
    · obtain ⟨s, e1, rfl⟩ := map_at e
      obtain ⟨q, g1, g2⟩ := fs t s e1
      refine gx_name (bl rfl) ?_
      refine sx_seq (sx_set (EvN.cast (en_filterM (js := [8] ++ ([9] ++ ([10] ++ ([7] ++ [])))) mvD (stepsFrom c (f t).1 (f t).2.1) wayD (fun x => decide (x.2.2.1 = s)) (ei_list (ev_meth (C := T.C_Costs) (ds := [iD (f t).1, iD (f t).2.1]) (dds := []) (ev_var rfl) nSt (ea_cons (ev_var rfl) (ea_cons (ev_var rfl) ea_nil)) (fun _ => .nil) ⟨c, _, _, rfl, rfl⟩)) rfl (by decide) (Nat.le_of_lt (sz (Nat.le_trans (steps_len _ _ _) (by decide)))) fun x hx => ?_) (congrArg (fun l => D.lst (l.map wayD)) (ways_one g1))).ev (bl rfl) ?_)
      · refine gx_tup rfl (gxs_cons (gx_name (bl rfl) (gxs_cons (gx_name (bl rfl) (gxs_cons (gx_name (bl rfl) (gxs_cons (gx_name (bl rfl) (gxs_nil ?_)))))))))
        refine ⟨et_test (ev_eq (ev_var rfl) (ev_var rfl) (eqd_stp _ _)), ?_, fun _ => ⟨_, ev_tup (ea_cons (ev_var rfl) (ea_cons (ev_var rfl) (ea_cons (ev_var rfl) ea_nil))) (lz rfl), ?_⟩⟩
        · exact .keep (.keep (.keep (.keep (.keep (.keep (.keep (.skip (.skip (.skip (.skip .nil))))))))))
        · exact .keep (.keep (.keep (.keep (.keep (.keep (.keep (.skip (.skip (.skip (.skip .nil))))))))))
      · refine sx_seq (sx_if (et_test (ev_eq (ev_lenL (ea_cons (ev_var rfl) ea_nil)) ev_int eqd_int)) (fun h => by cases h) fun _ => ?_)
        refine sx_next ?_
        refine sx_seq (sx_asg (js := [2] ++ ([3] ++ ([7] ++ []))) (ev_ixL (ev_var rfl) ev_int rfl) (gx_tup rfl (gxs_cons (gx_name (bl rfl) (gxs_cons (gx_name (bl rfl) (gxs_cons (gx_name (bl rfl) (gxs_nil ?_)))))))))
        refine sx_aug rfl (ev_var rfl) ?_ (bl rfl)
        show Wk _ [_, _, some (.dat (iD (f (t + 1)).1)), some (.dat (iD (f (t + 1)).2.1)), some (.dat (.int (f (t + 1)).2.2)), none, none, none, none, none, none]
        rw [g2]
        exact .keep (.keep (.keep (.keep (.keep (.skip (.skip (.skip (.skip (.skip (.skip .nil))))))))))
    · refine sx_next ?_
      show Sx K _ [_, _, some (.dat (iD (f (xs.map stpD).length).1)), some (.dat (iD (f (xs.map stpD).length).2.1)), some (.dat (.int (f (xs.map stpD).length).2.2)), none, none, none, none, none, none] _
      rw [List.length_map, fl]
      refine sx_seq (sx_if (et_or (et_test (ev_lt (ev_var rfl) (ev_lenOne T (ev_var rfl)))) fun _ => et_test (ev_lt (ev_var rfl) (ev_lenOther T (ev_var rfl)))) (fun h => ?_) fun _ => ?_)
      · simp at h
      · exact sx_next (sx_ret (ev_var rfl) ⟨rfl, keeps_dat⟩)
theorem rowsL_len (c : Cst) : (rowsL c).length = c.one.length + 1 := by unfold rowsL; rw [List.length_map, List.length_range]
theorem rowsL_at {c : Cst} {i : Nat} (h : i ≤ c.one.length) : (rowsL c)[i]? = some (rowT c i) := by
  unfold rowsL
  rw [List.getElem?_map, List.getElem?_range (by omega)]
  rfl
theorem row_at {c : Cst} {i j : Nat} (h : j ≤ c.other.length) : ((List.range (c.other.length + 1)).map fun j => D.int (dp c i j))[j]? = some (.int (dp c i j)) := by
  rw [List.getElem?_map, List.getElem?_range (by omega)]
  rfl
theorem atI_end {xs : List D} {n : Nat} {d : D} (hl : xs.length = n + 1) (h : xs[n]? = some d) : L2.atI xs (-1) = some d := by
  unfold L2.atI ixN
  rw [if_neg (by decide), if_pos (by omega)]
  have : (-1 + (xs.length : Int)).toNat = n := by omega
  show xs[(-1 + (xs.length : Int)).toNat]? = some d
  rw [this]; exact h
def preTable (C : Addr) (ds : List D) (d : D) : Prop := ∃ c, Bnd c ∧ ds = [cstD C c, .tup (rowsL c), .int (cost c)] ∧ d = .bl true
theorem ok_is_table (T : Tx K mg) : FnOk Pr w K mg base CX0 2 T.f_is_table T.fd_is_table p_is_table (spP K (preTable T.C_Costs)) := by
  have G_Costs_places := ok_Costs_places (Pr := Pr) (w := w) (base := base) T
  have G_Costs_steps_from := ok_Costs_steps_from (Pr := Pr) (w := w) (base := base) T
  refine fn_ok T.F_is_table sc_is_table ?len fun cdv A outer s H E hr svs d svs' hp => ?body
  case len =>
    rintro svs d svs' ⟨ds, rfl, _, c, _, rfl, _⟩
    rfl
  case body =>
    obtain ⟨ds, rfl, rfl, c, hb, rfl, rfl⟩ := hp
    have hb1 := hb.1
    have hb2 := hb.2
    refine ⟨_, (pss_cons (ps_if (pw_or (pt_cmpR (op_neK K hr.units) (pe_callB (call_lenK K) (by rfl) T.n_len (by decide +kernel) (pa_cons (pv 1) pa_nil)) (pe_op (op_addK K) (pe_callB (call_lenK K) (by rfl) T.n_len (by decide +kernel) (pa_cons (pe_fldK K (pv 0) rfl) pa_nil)) pe_int) (nomark _)) (pw_or1 (pt_not (pt_val (pe_callB (cr_allK K) (by rfl) T.n_all (by decide +kernel) (pa_cons (pe_lc (own := [("row", 5)]) rfl sc_is_table.nd (pi_seqK K (pv 1)) (blkOk_by (own := [("row", 5)]) (N := N_is_table) (by first | decide +kernel | rfl)) (fun _ _ _ _ _ => (pg_name (i := 5) sc_is_table.nd rfl (Or.inl rfl))) (fun _ _ _ _ _ => pts_nil) (fun _ _ _ _ _ => (pe_cmpR (op_eqK K hr.units) (pe_callB (call_lenK K) (by rfl) T.n_len (by decide +kernel) (pa_cons (pv 5) pa_nil)) (pe_op (op_addK K) (pe_callB (call_lenK K) (by rfl) T.n_len (by decide +kernel) (pa_cons (pe_fldK K (pv 0) rfl) pa_nil)) pe_int) (nomark _)))) pa_nil)))))).pt
    (pss_one (ps_ret pe_bl))
    pss_nil)
    (pss_cons (ps_if (pw_or (pt_cmpR (op_neK K hr.units) (pe_ix (ix_K K) (pe_ix (ix_K K) (pv 1) pe_int (fun _ _ => rfl)) pe_int (fun _ _ => rfl)) pe_int (nomark _)) (pw_or1 (pt_cmpR (op_neK K hr.units) (pe_ix (ix_K K) (pe_ix (ix_K K) (pv 1) (pe_un un_neg pe_int) (fun _ _ => rfl)) (pe_un un_neg pe_int) (fun _ _ => rfl)) (pv 2) (nomark _)))).pt
    (pss_one (ps_ret pe_bl))
    pss_nil)
    (pss_cons (ps_for PassesOwn.never rfl (pi_seqK K (pe_meth0 (pv 0) T.c_Costs T.m_Costs_places G_Costs_places (hr.mono (by decide)) T.b_Costs_places .nil pass0)) (pg_tupK K (n := 2) rfl (pgs_cons (pg_name (i := 3) sc_is_table.nd rfl (Or.inr rfl)) (pgs_cons (pg_name (i := 4) sc_is_table.nd rfl (Or.inr rfl)) pgs_nil)))
    (pss_one (ps_if (pt_val (pe_callB (cr_anyK K) (by rfl) T.n_any (by decide +kernel) (pa_cons (pe_lc (own := [("a", 6), ("b", 7), ("step", 8), ("price", 9)]) rfl sc_is_table.nd (pi_seqK K (pe_meth (pv 0) T.c_Costs T.m_Costs_steps_from G_Costs_steps_from (hr.mono (by decide)) T.b_Costs_steps_from .nil pass0 (pa_cons (pv 3) (pa_cons (pv 4) pa_nil)))) (blkOk_by (own := [("a", 6), ("b", 7), ("step", 8), ("price", 9)]) (N := N_is_table) (by first | decide +kernel | rfl)) (fun _ _ _ _ _ => (pg_tupK K (n := 4) rfl (pgs_cons (pg_name (i := 6) sc_is_table.nd rfl (Or.inl rfl)) (pgs_cons (pg_name (i := 7) sc_is_table.nd rfl (Or.inl rfl)) (pgs_cons (pg_name (i := 8) sc_is_table.nd rfl (Or.inl rfl)) (pgs_cons (pg_name (i := 9) sc_is_table.nd rfl (Or.inl rfl)) pgs_nil)))))) (fun _ _ _ _ _ => pts_nil) (fun _ _ _ _ _ => (pe_cmpR op_gt (pe_ix (ix_K K) (pe_ix (ix_K K) (pv 1) (pv 6) (fun _ _ => rfl)) (pv 7) (fun _ _ => rfl)) (pe_op (op_addK K) (pe_ix (ix_K K) (pe_ix (ix_K K) (pv 1) (pv 3) (fun _ _ => rfl)) (pv 4) (fun _ _ => rfl)) (pv 9)) (nomark _)))) pa_nil)))
    (pss_one (ps_ret pe_bl))
    pss_nil)))
    (pss_one (ps_ret pe_bl))))), ?_⟩
    let R : DL.Env := [some (.dat (cstD T.C_Costs c)), some (.dat (.tup (rowsL c))), some (.dat (.int (cost c))), none, none, none, none, none, none, none]
    show Sx K _ R _
    have cell : ∀ {ρ : DL.Env} {ti tj : TE} {i j : Nat}, ρ[1]? = some (some (.dat (.tup (rowsL c)))) → Ev K ti ρ (iD i) ρ → Ev K tj ρ (iD j) ρ → i ≤ c.one.length → j ≤ c.other.length → Ev K (tOp (rIx K) (tOp (rIx K) (tVar 1) ti) tj) ρ (.int (dp c i j)) ρ := fun h h1 h2 hi hj =>
      ev_ixT (ev_ixT (ev_var h) h1 (L2.atI_nat (rowsL_at hi))) h2 (L2.atI_nat (row_at hj))
    refine sx_seq (sx_if (x := false) (EvT.cast (et_or (et_test (ev_ne (ev_lenT (ea_cons (ev_var rfl) ea_nil)) (ev_add (ev_lenOne T (ev_var rfl)) ev_int) eqd_int)) (y := false) fun _ => EvT.cast (et_not (et_B (ev_all (bs := (List.range (c.one.length + 1)).map fun _ => true) (ea_cons (EvN.cast (en_mapM (js := [5]) (rowT c) (List.range (c.one.length + 1)) (fun _ => .bl true) (ei_tup (ev_var rfl)) rfl (by decide) (by rw [List.length_range]; exact Nat.le_of_lt (sz (by omega))) fun i hi => gx_name (bl rfl) ⟨_, (ev_eq (ev_lenT (ea_cons (ev_var rfl) ea_nil)) (ev_add (ev_lenOther T (ev_var rfl)) ev_int) eqd_int).cast ?_, ?_⟩) ?_).ev ea_nil)))) ?_) ?_) (fun h => by cases h) fun _ => ?_)
    · rw [List.length_map, List.length_range]; simp
    · exact .keep (.keep (.keep (.keep (.keep (.skip (.keep (.keep (.keep (.keep .nil)))))))))
    · rw [List.map_map]; rfl
    · simp
    · rw [rowsL_len]; simp
    refine sx_next ?_
    refine sx_seq (sx_if (x := false) (EvT.cast (et_or (et_test (ev_ne (cell (i := 0) (j := 0) rfl ev_int ev_int (Nat.zero_le _) (Nat.zero_le _)) ev_int eqd_int)) (y := false) fun _ => EvT.cast (et_test (ev_ne (ev_ixT (ev_ixT (ev_var rfl) (ev_neg ev_int) (atI_end (rowsL_len c) (rowsL_at (Nat.le_refl _)))) (ev_neg ev_int) (atI_end (n := c.other.length) (by rw [List.length_map, List.length_range]) (row_at (Nat.le_refl _)))) (ev_var rfl) eqd_int)) ?_) ?_) (fun h => by cases h) fun _ => ?_)
    · show (!decide (dp c c.one.length c.other.length = cost c)) = false
      unfold cost; simp
    · simp [dp]
    refine sx_next ?_
    refine sx_seq (sx_forW (js := [3] ++ ([4] ++ [])) (ei_list (ev_meth (C := T.C_Costs) (ds := []) (dds := []) (ev_var rfl) nPl ea_nil (fun _ => .nil) ⟨c, hb, rfl, rfl⟩)) (fun _ => R) (Wk.refl _) (fun t d e => ?_) ?_)
    · obtain ⟨⟨i, j⟩, e1, rfl⟩ := map_at e
      obtain ⟨hi, hj, ht⟩ := placesL_at e1
      refine gx_tup rfl (gxs_cons (gx_name (bl rfl) (gxs_cons (gx_name (bl rfl) (gxs_nil ?_)))))
      refine sx_if (x := false) (EvT.cast (et_B (ev_any (bs := (stepsFrom c i j).map fun x => decide (dp c i j + x.2.2.2 < dp c x.1 x.2.1)) (ea_cons (EvN.cast (en_mapM (js := [6] ++ ([7] ++ ([8] ++ ([9] ++ [])))) mvD (stepsFrom c i j) (fun x => .bl (decide (dp c i j + x.2.2.2 < dp c x.1 x.2.1))) (ei_list (ev_meth (C := T.C_Costs) (ds := [iD i, iD j]) (dds := []) (ev_var rfl) nSt (ea_cons (ev_var rfl) (ea_cons (ev_var rfl) ea_nil)) (fun _ => .nil) ⟨c, _, _, rfl, rfl⟩)) rfl (by decide) (Nat.le_of_lt (sz (Nat.le_trans (steps_len _ _ _) (by decide)))) fun x hx => ?_) ?_).ev ea_nil))) ?_) (fun h => by cases h) fun _ => ?_
      · obtain ⟨s1, s2, _⟩ := step_in hx hi hj
        refine gx_tup rfl (gxs_cons (gx_name (bl rfl) (gxs_cons (gx_name (bl rfl) (gxs_cons (gx_name (bl rfl) (gxs_cons (gx_name (bl rfl) (gxs_nil ?_)))))))))
        refine ⟨_, ev_gt (cell rfl (ev_var rfl) (ev_var rfl) s1 s2) (ev_add (cell rfl (ev_var rfl) (ev_var rfl) hi hj) (ev_var rfl)), ?_⟩
        exact .keep (.keep (.keep (.keep (.keep (.keep (.skip (.skip (.skip (.skip .nil)))))))))
      · rw [List.map_map]; rfl
      · rw [List.any_map, List.any_eq_false]
        intro x hx
        have := dp_succ hx
        simp only [Function.comp, id, decide_eq_true_eq]
        omega
      · exact sx_next (.keep (.keep (.keep (.skip (.skip (.keep (.keep (.keep (.keep (.keep .nil))))))))))
    · exact sx_next (sx_ret ev_bl ⟨rfl, keeps_dat⟩)
def preRight (ds : List D) (d : D) : Prop := ∃ c xs, Bnd c ∧ Run c xs c.one.length c.other.length (cost c) ∧ ds = [rowD c.one, rowD c.other, .tup [.int (cost c), .tup (xs.map stpD), .tup (rowsL c)], .int c.u, .int c.l, .int c.m] ∧ d = .bl true
theorem ok_held_right (T : Tx K mg) : FnOk Pr w K mg base CX0 3 T.f_held_right T.fd_held_right p_held_right (spP K preRight) := by
  have G_cost_of := ok_cost_of (Pr := Pr) (w := w) (base := base) T
  have G_is_table := ok_is_table (Pr := Pr) (w := w) (base := base) T
  have G_Costs__init := ok_Costs__init (Pr := Pr) (w := w) (base := base) T
  refine fn_okD T.F_held_right sc_held_right ?len fun cdv A outer s H E hr svs d svs' hp => ?body
  case len =>
    rintro svs d svs' ⟨ds, rfl, _, c, xs, _, _, rfl, _⟩
    rfl
  case body =>
    obtain ⟨ds, rfl, rfl, c, xs, hb, hrun, rfl, rfl⟩ := hp
    refine ⟨_, (pss_cons (ps_set (i := 6) sc_held_right.nd rfl (Or.inl rfl) (pe_make T.M_Costs G_Costs__init (hr.mono (by decide)) (by rfl) T.g_Costs T.b_Costs__init .nil pass0 (pa_cons (pv 0) (pa_cons (pv 1) (pa_cons (pv 3) (pa_cons (pv 4) (pa_cons (pv 5) pa_nil)))))))
    (pss_cons (ps_asg (pv 2) (pg_tupK K (n := 3) rfl (pgs_cons (pg_name (i := 7) sc_held_right.nd rfl (Or.inl rfl)) (pgs_cons (pg_name (i := 8) sc_held_right.nd rfl (Or.inl rfl)) (pgs_cons (pg_name (i := 9) sc_held_right.nd rfl (Or.inl rfl)) pgs_nil)))))
    (pss_one (ps_ret (pe_and (pe_cmpR (op_eqK K hr.units) (pe_call G_cost_of (hr.mono (by decide)) (by rfl) T.g_cost_of T.F_cost_of.kp T.b_cost_of .nil pass0 (pa_cons (pv 6) (pa_cons (pv 8) pa_nil))) (pv 7) (nomark _)) (pe_one (pe_call G_is_table (hr.mono (by decide)) (by rfl) T.g_is_table T.F_is_table.kp T.b_is_table .nil pass0 (pa_cons (pv 6) (pa_cons (pv 9) (pa_cons (pv 7) pa_nil)))))))))), ?_⟩
    refine sx_seq (sx_set (en_make (C := T.C_Costs) (ds := argsD c) (dds := []) (ea_cons (ev_var rfl) (ea_cons (ev_var rfl) (ea_cons (ev_var rfl) (ea_cons (ev_var rfl) (ea_cons (ev_var rfl) ea_nil))))) (fun _ => .nil) ⟨rfl, rfl, rfl, rfl⟩).ev (bl rfl) ?_)
    refine sx_seq (sx_asg (js := [7] ++ ([8] ++ ([9] ++ []))) (ev_var rfl) (gx_tup rfl (gxs_cons (gx_name (bl rfl) (gxs_cons (gx_name (bl rfl) (gxs_cons (gx_name (bl rfl) (gxs_nil ?_)))))))))
    refine sx_ret (Ev.cast (ev_andV (x := true) (y := true) (Ev.cast (ev_eq (ev_call (ds := [cstD T.C_Costs c, .tup (xs.map stpD)]) (dds := []) (ea_cons (ev_var rfl) (ea_cons (ev_var rfl) ea_nil)) (fun _ => .nil) ⟨c, xs, cost c, hrun, rfl, rfl⟩) (ev_var rfl) eqd_int) (by simp))
      (fun _ => ev_call (ds := [cstD T.C_Costs c, .tup (rowsL c), .int (cost c)]) (dds := []) (ea_cons (ev_var rfl) (ea_cons (ev_var rfl) (ea_cons (ev_var rfl) ea_nil))) (fun _ => .nil) ⟨c, hb, rfl, rfl⟩) fun h => by cases h) rfl) ⟨rfl, keeps_dat⟩
end
end K85

namespace K85
open PySem L2 DL
section
variable {Pr : Program} {w : World} {K : Fg} {mg : Str → Option Value} {base : Heap}
/-! ### the law's own defs -/
def cellF (ns : List Int) (k : Nat) : Int :=
  if k < ns.length then ns.getD k 0 else if 0 < ns.length then 5717 * (k : Int) + 23 + ns.getD ((k : Int) % (ns.length : Int)).toNat 0 % 2147483629 * 69623 else 5717 * (k : Int) + 23
def boxF (ns : List Int) (k : Nat) : Box := (if cellF ns k ≥ 10 ^ 18 then cellF ns k else 0, (cellF ns k % 2147483629 * 48271 + 40692 * (k : Int)) % 2147483629 + 1, 0)
def preBox (ds : List D) (d : D) : Prop := ∃ ns k, ds = [.frl (ns.map .int), iD k] ∧ d = boxD (boxF ns k)
theorem ok_law_box (T : Tx K mg) : FnOk Pr w K mg base CX0 1 T.f_law_box T.fd_law_box p_law_box (spN K preBox) := by
  refine fn_okN T.F_law_box sc_law_box ?len fun cdv A outer s H E hr svs d svs' hp => ?body
  case len =>
    rintro svs d svs' ⟨ds, rfl, _, ns, k, rfl, _⟩
    rfl
  case body =>
    obtain ⟨ds, rfl, rfl, ns, k, rfl, rfl⟩ := hp
    refine ⟨_, (pss_cons (ps_set (i := 2) sc_law_box.nd rfl (Or.inl rfl) (pe_op (op_addK K) (pe_op op_mul pe_int (pv 1)) pe_int))
    (pss_cons (ps_if (pt_cmpR op_lt (pv 1) (pe_callB (call_lenK K) (by rfl) T.n_len (by decide +kernel) (pa_cons (pv 0) pa_nil)) (nomark _))
    (pss_one (ps_set (i := 2) sc_law_box.nd rfl (Or.inl rfl) (pe_ix (ix_K K) (pv 0) (pv 1) (fun _ _ => rfl))))
    (pss_one (ps_if (pt_cmpR op_gt (pe_callB (call_lenK K) (by rfl) T.n_len (by decide +kernel) (pa_cons (pv 0) pa_nil)) pe_int (nomark _))
    (pss_one (ps_set (i := 2) sc_law_box.nd rfl (Or.inl rfl) (pe_op (op_addK K) (pv 2) (pe_op op_mul (pe_op op_mod (pe_callTy call_int1 (by rfl) T.n_int (by decide +kernel) (pa_cons (pe_ix (ix_K K) (pv 0) (pe_op op_mod (pe_callTy call_int1 (by rfl) T.n_int (by decide +kernel) (pa_cons (pv 1) pa_nil)) (pe_callB (call_lenK K) (by rfl) T.n_len (by decide +kernel) (pa_cons (pv 0) pa_nil))) (fun _ _ => rfl)) pa_nil)) pe_int) pe_int))))
    pss_nil)))
    (pss_cons (ps_set (i := 3) sc_law_box.nd rfl (Or.inl rfl) (pe_op (op_addK K) (pe_op op_mod (pe_op (op_addK K) (pe_op op_mul (pe_op op_mod (pe_callTy call_int1 (by rfl) T.n_int (by decide +kernel) (pa_cons (pv 2) pa_nil)) pe_int) pe_int) (pe_op op_mul pe_int (pv 1))) pe_int) pe_int))
    (pss_one (ps_ret (pe_lst (pa_cons (pe_ix (ix_K K) (pe_lst (pa_cons pe_int (pa_cons (pv 2) pa_nil))) (pe_callTy call_int1 (by rfl) T.n_int (by decide +kernel) (pa_cons (pe_cmpR op_ge (pv 2) (pe_op op_pow pe_int pe_int) (nomark _)) pa_nil)) (fun _ _ => rfl)) (pa_cons (pv 3) (pa_cons pe_int pa_nil))))))))), ?_⟩
    refine sx_seq (sx_set (ev_add (ev_mul ev_int (ev_var rfl) (.inl ⟨by decide, by decide⟩)) ev_int) (bl rfl) ?_)
    refine sx_cutW [some (.dat (.frl (ns.map .int))), some (.dat (iD k)), some (.dat (.int (cellF ns k))), none] (sx_if (EvT.cast (et_test (ev_lt (ev_var rfl) ((ev_lenF (ea_cons (ev_var rfl) ea_nil)).cast (c := iD ns.length) (by rw [List.length_map])))) dlt) (fun h => ?_) fun h => ?_) ?_
    · have h := of_decide_eq_true h
      refine sx_set (ev_ixF (ev_var rfl) (ev_var rfl) (at_ints h)) (bl rfl) ?_
      show Wk _ [_, _, some (.dat (.int (cellF ns k))), none]
      unfold cellF
      rw [if_pos h]
      exact Wk.refl _
    · have h := of_decide_eq_false h
      refine sx_if (EvT.cast (et_test (ev_gt ((ev_lenF (ea_cons (ev_var rfl) ea_nil)).cast (c := iD ns.length) (by rw [List.length_map])) ev_int)) (y := decide (0 < ns.length)) ?_) (fun h2 => ?_) fun h2 => ?_
      · by_cases z : 0 < ns.length
        · rw [decide_eq_true z]; exact decide_eq_true (by omega)
        · rw [decide_eq_false z]; exact decide_eq_false (by omega)
      · have h2 := of_decide_eq_true h2
        have hp : 0 < (ns.length : Int) := by omega
        refine sx_set (ev_add (ev_var rfl) (ev_mul (ev_mod (ev_intI (ea_cons (ev_ixF (ev_var rfl) (ev_mod (ev_intI (ea_cons (ev_var rfl) ea_nil)) ((ev_lenF (ea_cons (ev_var rfl) ea_nil)).cast (c := iD ns.length) (by rw [List.length_map])) hp) (at_intsI (Int.emod_nonneg _ (by omega)) (Int.emod_lt_of_pos _ hp))) ea_nil)) ev_int (by decide)) ev_int (.inr ⟨by decide, by decide⟩))) (bl rfl) ?_
        show Wk _ [_, _, some (.dat (.int (cellF ns k))), none]
        unfold cellF
        rw [if_neg h, if_pos h2]
        exact Wk.refl _
      · have h2 := of_decide_eq_false h2
        refine sx_next ?_
        show Wk _ [_, _, some (.dat (.int (cellF ns k))), none]
        unfold cellF
        rw [if_neg h, if_neg h2]
        exact Wk.refl _
    refine sx_seq (sx_set (ev_add (ev_mod (ev_add (ev_mul (ev_mod (ev_intI (ea_cons (ev_var rfl) ea_nil)) ev_int (by decide)) ev_int (.inr ⟨by decide, by decide⟩)) (ev_mul ev_int (ev_var rfl) (.inl ⟨by decide, by decide⟩))) ev_int (by decide)) ev_int) (bl rfl) ?_)
    refine sx_retF (en_lst (ea_cons (ev_ixL (d := .int (boxF ns k).1) (en_lst (ea_cons ev_int (ea_cons (ev_var rfl) ea_nil)) (lz rfl)).ev (ev_intB (ea_cons (ev_ge (ev_var rfl) (ev_pow ev_int ev_int ⟨by decide, by decide, by decide⟩)) ea_nil)) ?_) (ea_cons (ev_var rfl) (ea_cons ev_int ea_nil))) (lz rfl)) ⟨rfl, keeps_dat⟩
    unfold boxF
    by_cases z : (10 : Int) ^ (18 : Int).toNat ≤ cellF ns k
    · have z' : cellF ns k ≥ 10 ^ 18 := z
      rw [decide_eq_true z, if_pos z']
      rfl
    · have z' : ¬ cellF ns k ≥ 10 ^ 18 := z
      rw [decide_eq_false z, if_neg z']
      rfl
def nxStep (span : Int) (s : Box × List Int) (x : Int) : Box × List Int :=
  let f := takeF s.1 7
  let s1 := if 0 < f.1 then ((takeF f.2 span).2, s.2 ++ [if f.1 = 1 then (takeF f.2 span).1 else x]) else (f.2, s.2)
  if f.1 = 2 then ((takeF s1.1 span).2, s1.2 ++ [(takeF s1.1 span).1]) else s1
def nxAll (b : Box) (one : List Int) (span : Int) : Box × List Int := one.foldl (nxStep span) (b, [])
theorem nxStep_len (span : Int) (s : Box × List Int) (x : Int) : (nxStep span s x).2.length ≤ s.2.length + 2 := by
  unfold nxStep
  simp only
  split <;> split <;> simp
theorem nx_len (span : Int) : ∀ (xs : List Int) (s : Box × List Int), (xs.foldl (nxStep span) s).2.length ≤ s.2.length + 2 * xs.length
  | [], s => Nat.le_refl _
  | x :: xs, s => by
    have h1 := nx_len span xs (nxStep span s x)
    have h2 := nxStep_len span s x
    rw [List.foldl_cons, List.length_cons]
    omega
def preNext (o : D) (ds : List D) (d o' : D) : Prop := ∃ b one span, 0 < span ∧ span < 2 ^ 64 ∧ one.length ≤ 1000 ∧ o = boxD b ∧ ds = [rowD one, .int span] ∧ d = rowD ((nxAll b one span).2.take 60) ∧ o' = boxD (nxAll b one span).1
theorem cut60 (xs : List D) : cutD xs none (some 60) = xs.take 60 := by
  unfold cutD
  show (xs.drop 0).take (min (Int.toNat 60) xs.length - 0) = _
  rw [List.drop_zero, Nat.sub_zero]
  show xs.take (min 60 xs.length) = _
  rw [← List.take_eq_take_min]
theorem cutN (xs : List D) (n : Nat) : cutD xs none (some (n : Int)) = xs.take n := by
  unfold cutD
  rw [HT.sIx_nat]
  show (xs.drop 0).take (min n xs.length - 0) = _
  rw [List.drop_zero, Nat.sub_zero, ← List.take_eq_take_min]
theorem ok_law_next_row (T : Tx K mg) : FnOk Pr w K mg base CX0 2 T.f_law_next_row T.fd_law_next_row p_law_next_row (spO K preNext) := by
  have G_law_take := ok_law_take (Pr := Pr) (w := w) (base := base) T
  refine fn_ok T.F_law_next_row sc_law_next_row ?len fun cdv A outer s H E hr svs d svs' hp => ?body
  case len =>
    rintro svs d svs' ⟨o, ds, o', rfl, _, b, one, span, _, _, _, _, rfl, _⟩
    rfl
  case body =>
    obtain ⟨o, ds, o', rfl, rfl, b, one, span, hs1, hs2, hl, rfl, rfl, rfl, rfl⟩ := hp
    refine ⟨_, (pss_cons (ps_set (i := 3) sc_law_next_row.nd rfl (Or.inl rfl) (pe_lst pa_nil))
    (pss_cons (ps_for PassesOwn.never rfl (pi_seqK K (pv 1)) (pg_name (i := 4) sc_law_next_row.nd rfl (Or.inl rfl))
    (pss_cons (ps_set (i := 5) sc_law_next_row.nd rfl (Or.inl rfl) (pe_call G_law_take (hr.mono (by decide)) (by rfl) T.g__law_take T.F_law_take.kp T.b_law_take .nil pass0 (pa_cons (pv 0) (pa_cons pe_int pa_nil))))
    (pss_cons (ps_if (pt_cmpR op_gt (pv 5) pe_int (nomark _))
    (pss_one (ps_expr (pe_appK K (pv 3) (pe_ix (ix_K K) (pe_lst (pa_cons (pv 4) (pa_cons (pe_call G_law_take (hr.mono (by decide)) (by rfl) T.g__law_take T.F_law_take.kp T.b_law_take .nil pass0 (pa_cons (pv 0) (pa_cons (pv 2) pa_nil))) pa_nil))) (pe_callTy call_int1 (by rfl) T.n_int (by decide +kernel) (pa_cons (pe_cmpR (op_eqK K hr.units) (pv 5) pe_int (nomark _)) pa_nil)) (fun _ _ => rfl)))))
    pss_nil)
    (pss_one (ps_if (pt_cmpR (op_eqK K hr.units) (pv 5) pe_int (nomark _))
    (pss_one (ps_expr (pe_appK K (pv 3) (pe_call G_law_take (hr.mono (by decide)) (by rfl) T.g__law_take T.F_law_take.kp T.b_law_take .nil pass0 (pa_cons (pv 0) (pa_cons (pv 2) pa_nil))))))
    pss_nil)))))
    (pss_one (ps_ret (pe_slice (sl_K K) (pv 3) po_none (po_some pe_int)))))), ?_⟩
    refine sx_seq (sx_own (en_lst ea_nil (Nat.zero_le _)) (bl rfl) ?_)
    let S : Nat → Box × List Int := fun t => (one.take t).foldl (nxStep span) (b, [])
    let R : Box × List Int → Option SV → Option SV → DL.Env := fun s x y => [some (.own true (boxD s.1)), some (.dat (rowD one)), some (.dat (.int span)), some (.own false (rowD s.2)), x, y]
    refine sx_seq (sx_forW (js := [4]) (ei_list (ev_var rfl)) (fun t => R (S t) none none) (Wk.refl _) (fun t d e => ?_) ?_)
    · obtain ⟨x, e1, rfl⟩ := map_at e
      have tl : t < one.length := (List.getElem?_eq_some_iff.mp e1).1
      have es : S (t + 1) = nxStep span (S t) x := by
        show (one.take (t + 1)).foldl _ _ = _
        rw [List.take_add_one, e1, List.foldl_append]
        rfl
      have sl : (S t).2.length ≤ 2000 := by
        have := nx_len span (one.take t) (b, [])
        rw [List.length_take] at this
        have e0 : (([] : List Int)).length = 0 := rfl
        show ((one.take t).foldl (nxStep span) (b, [])).2.length ≤ 2000
        simp only [e0] at this
        omega
      refine gx_name (bl rfl) ?_
      refine sx_seq (sx_set (ev_callO rfl (ea_cons ev_int ea_nil) rfl (fun _ => .nil) ⟨(S t).1, 7, by decide, by decide, rfl, rfl, rfl, rfl⟩) (bl rfl) ?_)
      let f := takeF (S t).1 7
      let s1 : Box × List Int := if 0 < f.1 then ((takeF f.2 span).2, (S t).2 ++ [if f.1 = 1 then (takeF f.2 span).1 else x]) else (f.2, (S t).2)
      have s1l : s1.2.length ≤ 2001 := by
        show (if 0 < f.1 then ((takeF f.2 span).2, (S t).2 ++ [if f.1 = 1 then (takeF f.2 span).1 else x]) else (f.2, (S t).2)).2.length ≤ 2001
        split <;> simp <;> omega
      refine sx_cutW (R s1 (some (.dat (.int x))) (some (.dat (.int f.1)))) (sx_if (et_test (ev_gt (ev_var rfl) ev_int)) (fun h => ?_) fun h => ?_) ?_
      · have h : 0 < f.1 := of_decide_eq_true h
        have e2 : s1 = ((takeF f.2 span).2, (S t).2 ++ [if f.1 = 1 then (takeF f.2 span).1 else x]) := if_pos h
        refine sx_app rfl (ev_ixL (d := .int (if f.1 = 1 then (takeF f.2 span).1 else x)) (en_lst (ea_cons (ev_var rfl) (ea_cons (ev_callO rfl (ea_cons (ev_var rfl) ea_nil) rfl (fun _ => .nil) ⟨f.2, span, hs1, hs2, rfl, rfl, rfl, rfl⟩) ea_nil)) (lz rfl)).ev (ev_intB (ea_cons (ev_eq (ev_var rfl) ev_int eqd_int) ea_nil)) ?_) rfl (by rw [List.length_map]; exact sz (by omega)) ?_
        · by_cases z : f.1 = 1
          · rw [decide_eq_true z, if_pos z]; rfl
          · rw [decide_eq_false z, if_neg z]; rfl
        · show Wk _ (R s1 _ _)
          rw [e2]
          show Wk _ [_, _, _, some (.own false (.lst (((S t).2 ++ [if f.1 = 1 then (takeF f.2 span).1 else x]).map D.int))), _, _]
          rw [List.map_append]
          exact Wk.refl _
      · have h : ¬ 0 < f.1 := of_decide_eq_false h
        have e2 : s1 = (f.2, (S t).2) := if_neg h
        refine sx_next ?_
        show Wk _ (R s1 _ _)
        rw [e2]
        exact Wk.refl _
      refine sx_if (et_test (ev_eq (ev_var rfl) ev_int eqd_int)) (fun h => ?_) fun h => ?_
      · have h : f.1 = 2 := of_decide_eq_true h
        have e3 : nxStep span (S t) x = ((takeF s1.1 span).2, s1.2 ++ [(takeF s1.1 span).1]) := if_pos h
        refine sx_app rfl (ev_callO rfl (ea_cons (ev_var rfl) ea_nil) rfl (fun _ => .nil) ⟨s1.1, span, hs1, hs2, rfl, rfl, rfl, rfl⟩) rfl (by rw [List.length_map]; exact sz (by omega)) ?_
        show Wk _ (R (S (t + 1)) none none)
        rw [es, e3]
        show Wk _ [_, _, _, some (.own false (.lst ((s1.2 ++ [(takeF s1.1 span).1]).map D.int))), _, _]
        rw [List.map_append]
        exact .keep (.keep (.keep (.keep (.skip (.skip .nil)))))
      · have h : ¬ f.1 = 2 := of_decide_eq_false h
        have e3 : nxStep span (S t) x = s1 := if_neg h
        refine sx_next ?_
        show Wk _ (R (S (t + 1)) none none)
        rw [es, e3]
        exact .keep (.keep (.keep (.keep (.skip (.skip .nil)))))
    · refine sx_next ?_
      have e4 : S (one.map D.int).length = nxAll b one span := by
        rw [List.length_map]
        show (one.take one.length).foldl _ _ = _
        rw [List.take_length]
        rfl
      show Sx K _ (R (S (one.map D.int).length) none none) _
      rw [e4]
      refine Sx.weak (ρ1 := [some (.own true (boxD (nxAll b one span).1)), some (.dat (rowD one)), some (.dat (.int span)), some (.dat (rowD (nxAll b one span).2)), none, none]) (.keep (.keep (.keep (.set (.keep (.keep .nil)))))) ?_
      refine sx_ret (en_sliceL (ev_var rfl) eo_none (eo_some ev_int)).ev ⟨?_, keeps_own (o := boxD b) rfl⟩
      rw [cut60]
      show _ = D.lst (((nxAll b one span).2.take 60).map D.int)
      rw [List.map_take]
abbrev costsD (u l m : Int) : D := .tup [.int u, .int l, .int m]
def preCost (ds : List D) (d : D) : Prop := ∃ c, Bnd c ∧ ds = [rowD c.one, rowD c.other, costsD c.u c.l c.m] ∧ d = .int (cost c)
theorem ok_law_cost (T : Tx K mg) : FnOk Pr w K mg base CX0 4 T.f_law_cost T.fd_law_cost p_law_cost (spP K preCost) := by
  have G_held := ok_held (Pr := Pr) (w := w) (base := base) T
  refine fn_ok T.F_law_cost sc_law_cost ?len fun cdv A outer s H E hr svs d svs' hp => ?body
  case len =>
    rintro svs d svs' ⟨ds, rfl, _, c, _, rfl, _⟩
    rfl
  case body =>
    obtain ⟨ds, rfl, rfl, c, hb, rfl, rfl⟩ := hp
    refine ⟨_, (pss_one (ps_ret (pe_ix (ix_K K) (pe_callN G_held (hr.mono (by decide)) (by rfl) T.g_held T.F_held.kp T.k_held_2_unlike_lack_more pass0 (pa_cons (pv 0) (pa_cons (pv 1) pa_nil)) (pk_cons (pe_ix (ix_K K) (pv 2) pe_int (fun _ _ => rfl)) (pk_cons (pe_ix (ix_K K) (pv 2) pe_int (fun _ _ => rfl)) (pk_cons (pe_ix (ix_K K) (pv 2) pe_int (fun _ _ => rfl)) pk_nil)))) pe_int (fun _ _ => rfl)))), ?_⟩
    exact sx_ret (ev_ixT (ev_callN (ds := [rowD c.one, rowD c.other]) (es := [.int c.u, .int c.l, .int c.m]) (as := argsD c) (ea_cons (ev_var rfl) (ea_cons (ev_var rfl) ea_nil)) (ea_cons (ev_ixT (ev_var rfl) ev_int rfl) (ea_cons (ev_ixT (ev_var rfl) ev_int rfl) (ea_cons (ev_ixT (ev_var rfl) ev_int rfl) ea_nil))) rfl rfl (fun B vs zs h1 h2 => h1.append h2) ⟨c, hb, rfl, rfl⟩) ev_int rfl) ⟨rfl, keeps_dat⟩
end
end K85

namespace K85
open PySem L2 DL
section
variable {Pr : Program} {w : World} {K : Fg} {mg : Str → Option Value} {base : Heap}
def wordsL : List (Key × D) := [(.inr "same", .str "same"), (.inr "unlike", .str "unlike"), (.inr "lack", .str "more"), (.inr "more", .str "lack")]
theorem kne {a b : Str} (h : (decide (a = b)) = false) : ¬ (Sum.inr a : Key) = Sum.inr b := fun z => by
  injection z with z
  rw [decide_eq_true z] at h
  cases h
theorem words_get {k : Key} : getD (mergeD [] wordsL) k = if k = .inr "more" then some (.str "lack") else if k = .inr "lack" then some (.str "more") else if k = .inr "unlike" then some (.str "unlike") else if k = .inr "same" then some (.str "same") else none := by
  unfold mergeD wordsL
  simp only [List.foldl, getD_put, getD_nil]
theorem w1 : getD (mergeD [] wordsL) (.inr "same") = some (.str "same") := by
  rw [words_get, if_neg (kne (by decide +kernel)), if_neg (kne (by decide +kernel)), if_neg (kne (by decide +kernel)), if_pos rfl]
theorem w2 : getD (mergeD [] wordsL) (.inr "unlike") = some (.str "unlike") := by
  rw [words_get, if_neg (kne (by decide +kernel)), if_neg (kne (by decide +kernel)), if_pos rfl]
theorem w3 : getD (mergeD [] wordsL) (.inr "lack") = some (.str "more") := by
  rw [words_get, if_neg (kne (by decide +kernel)), if_pos rfl]
theorem w4 : getD (mergeD [] wordsL) (.inr "more") = some (.str "lack") := by
  rw [words_get, if_pos rfl]
theorem turn_rows {c : Cst} {j : Nat} (hj : j ≤ c.other.length) : rowT c.turn j = .tup ((rowsL c).map fun r => match r with | .tup xs => xs.getD j .non | _ => .non) := by
  unfold rowT rowsL
  rw [List.map_map]
  show D.tup ((List.range (c.one.length + 1)).map _) = D.tup ((List.range (c.one.length + 1)).map _)
  congr 1
  apply List.map_congr_left
  intro i _
  show D.int (dp c.turn j i) = ((List.range (c.other.length + 1)).map fun j => D.int (dp c i j)).getD j .non
  rw [dp_turn, List.getD_eq_getElem?_getD, row_at hj]
  rfl
theorem bnd_turn {c : Cst} (h : Bnd c) : Bnd c.turn := ⟨h.2, h.1⟩
def preTurned (ds : List D) (d : D) : Prop := ∃ c, Bnd c ∧ ds = [rowD c.one, rowD c.other, costsD c.u c.l c.m] ∧ d = .bl true
theorem ok_law_turned_right (T : Tx K mg) : FnOk Pr w K mg base CX0 5 T.f_law_turned_right T.fd_law_turned_right p_law_turned_right (spP K preTurned) := by
  have G_law_cost := ok_law_cost (Pr := Pr) (w := w) (base := base) T
  have G_held := ok_held (Pr := Pr) (w := w) (base := base) T
  have G_held_right := ok_held_right (Pr := Pr) (w := w) (base := base) T
  refine fn_ok T.F_law_turned_right sc_law_turned_right ?len fun cdv A outer s H E hr svs d svs' hp => ?body
  case len =>
    rintro svs d svs' ⟨ds, rfl, _, c, _, rfl, _⟩
    rfl
  case body =>
    obtain ⟨ds, rfl, rfl, c, hb, rfl, rfl⟩ := hp
    have hb1 := hb.1
    have hb2 := hb.2
    refine ⟨_, (pss_cons (ps_set (i := 3) sc_law_turned_right.nd rfl (Or.inl rfl) (pe_callN G_held (hr.mono (by decide)) (by rfl) T.g_held T.F_held.kp T.k_held_2_unlike_lack_more pass0 (pa_cons (pv 0) (pa_cons (pv 1) pa_nil)) (pk_cons (pe_ix (ix_K K) (pv 2) pe_int (fun _ _ => rfl)) (pk_cons (pe_ix (ix_K K) (pv 2) pe_int (fun _ _ => rfl)) (pk_cons (pe_ix (ix_K K) (pv 2) pe_int (fun _ _ => rfl)) pk_nil)))))
    (pss_cons (ps_asg (pe_tup (pa_cons (pe_op (op_addK K) (pe_callB (call_lenK K) (by rfl) T.n_len (by decide +kernel) (pa_cons (pv 1) pa_nil)) pe_int) (pa_cons (pe_ix (ix_K K) (pv 3) pe_int (fun _ _ => rfl)) pa_nil))) (pg_tupK K (n := 2) rfl (pgs_cons (pg_name (i := 4) sc_law_turned_right.nd rfl (Or.inl rfl)) (pgs_cons (pg_name (i := 5) sc_law_turned_right.nd rfl (Or.inr rfl)) pgs_nil))))
    (pss_cons (ps_set (i := 6) sc_law_turned_right.nd rfl (Or.inl rfl) (pe_callTy (call_tupleK K) (by rfl) T.n_tuple (by decide +kernel) (pa_cons (pe_lc (own := [("_law_j", 11)]) rfl sc_law_turned_right.nd (pi_range1 (by rfl) T.n_range (pa_cons (pv 4) pa_nil)) (blkOk_by (own := [("_law_j", 11)]) (N := N_law_turned_right) (by first | decide +kernel | rfl)) (fun _ _ _ _ _ => (pg_name (i := 11) sc_law_turned_right.nd rfl (Or.inr rfl))) (fun _ _ _ _ _ => pts_nil) (fun _ _ _ _ _ => (pe_callTy (call_tupleK K) (by rfl) T.n_tuple (by decide +kernel) (pa_cons (pe_lc (own := [("_law_row", 12)]) rfl sc_law_turned_right.nd (pi_seqK K (pv 5)) (blkOk_by (own := [("_law_row", 12)]) (N := N_law_turned_right) (by first | decide +kernel | rfl)) (fun _ _ _ _ _ => (pg_name (i := 12) sc_law_turned_right.nd rfl (Or.inl rfl))) (fun _ _ _ _ _ => pts_nil) (fun _ _ _ _ _ => (pe_ix (ix_K K) (pv 12) (pv 11) (fun _ _ => rfl)))) pa_nil)))) pa_nil)))
    (pss_cons (ps_par (i := 7) (j := 8) rfl sc_law_turned_right.nd rfl rfl (by decide) rfl rfl (pa_cons (pe_disp (pps_cons pe_str pe_str (pps_cons pe_str pe_str (pps_cons pe_str pe_str (pps_cons pe_str pe_str pps_nil)))) (by rfl) (by rfl) (fun z => by cases z) (by decide)) (pa_cons (pe_lst pa_nil) pa_nil)) (by rfl))
    (pss_cons (ps_for PassesOwn.never rfl (pi_seqK K (pe_ix (ix_K K) (pv 3) pe_int (fun _ _ => rfl))) (pg_name (i := 9) sc_law_turned_right.nd rfl (Or.inl rfl))
    (pss_one (ps_expr (pe_appK K (pv 8) (pe_op (op_addK K) (pe_tup (pa_cons (pe_dget (hu_of hr) (pv 7) (pe_ix (ix_K K) (pv 9) pe_int (fun _ _ => rfl)) (fun _ _ => rfl)) pa_nil)) (pe_revTK K (pe_slice (sl_K K) (pv 9) (po_some pe_int) po_none)))))))
    (pss_cons (ps_set (i := 10) sc_law_turned_right.nd rfl (Or.inl rfl) (pe_tup (pa_cons (pe_ix (ix_K K) (pv 3) pe_int (fun _ _ => rfl)) (pa_cons (pe_callTy (call_tupleK K) (by rfl) T.n_tuple (by decide +kernel) (pa_cons (pv 8) pa_nil)) (pa_cons (pv 6) pa_nil)))))
    (pss_cons (ps_if (pt_cmpR op_notBl (pe_callN G_held_right (hr.mono (by decide)) (by rfl) T.g_held_right T.F_held_right.kp T.k_held_right_3_unlike_lack_more pass0 (pa_cons (pv 1) (pa_cons (pv 0) (pa_cons (pv 10) pa_nil))) (pk_cons (pe_ix (ix_K K) (pv 2) pe_int (fun _ _ => rfl)) (pk_cons (pe_ix (ix_K K) (pv 2) pe_int (fun _ _ => rfl)) (pk_cons (pe_ix (ix_K K) (pv 2) pe_int (fun _ _ => rfl)) pk_nil)))) pe_bl (nomark _))
    (pss_one (ps_ret pe_bl))
    pss_nil)
    (pss_one (ps_ret (pe_cmpR (op_eqK K hr.units) (pe_call G_law_cost (hr.mono (by decide)) (by rfl) T.g__law_cost T.F_law_cost.kp T.b_law_cost .nil pass0 (pa_cons (pv 1) (pa_cons (pv 0) (pa_cons (pe_tup (pa_cons (pe_ix (ix_K K) (pv 2) pe_int (fun _ _ => rfl)) (pa_cons (pe_ix (ix_K K) (pv 2) pe_int (fun _ _ => rfl)) (pa_cons (pe_ix (ix_K K) (pv 2) pe_int (fun _ _ => rfl)) pa_nil)))) pa_nil)))) (pe_ix (ix_K K) (pv 3) pe_int (fun _ _ => rfl)) (nomark _))))))))))), ?_⟩
    refine sx_seq (sx_set (ev_callN (ds := [rowD c.one, rowD c.other]) (es := [.int c.u, .int c.l, .int c.m]) (as := argsD c) (ea_cons (ev_var rfl) (ea_cons (ev_var rfl) ea_nil)) (ea_cons (ev_ixT (ev_var rfl) ev_int rfl) (ea_cons (ev_ixT (ev_var rfl) ev_int rfl) (ea_cons (ev_ixT (ev_var rfl) ev_int rfl) ea_nil))) rfl rfl (fun B vs zs h1 h2 => h1.append h2) ⟨c, hb, rfl, rfl⟩) (bl rfl) ?_)
    refine sx_seq (sx_asg (js := [4] ++ ([5] ++ [])) (ev_tup (ea_cons (ev_add ((ev_lenL (ds := c.other.map D.int) (ea_cons (ev_var rfl) ea_nil)).cast (c := iD c.other.length) (by rw [List.length_map])) ev_int) (ea_cons (ev_ixT (ev_var rfl) ev_int rfl) ea_nil)) (lz rfl)) (gx_tup rfl (gxs_cons (gx_name (bl rfl) (gxs_cons (gx_name (bl rfl) (gxs_nil ?_)))))))
    refine sx_seq (sx_set (d := .tup (rowsL c.turn)) (ev_tupL (ea_cons (EvN.ev (EvN.cast (en_mapM (js := [11]) (fun (i : Nat) => D.int (i : Int)) (List.range (c.other.length + 1)) (rowT c.turn) (EvI.cast (ei_rng1 (ea_cons (ev_var rfl) ea_nil) (by omega) (by omega)) (by rw [rg_nat, rgD_map])) rfl (by decide) (by rw [List.length_range]; exact Nat.le_of_lt (sz (by omega))) fun j hj => gx_name (bl rfl) ?_) rfl)) ea_nil)) (bl rfl) ?_)
    · have hj : j ≤ c.other.length := Nat.le_of_lt_succ (List.mem_range.mp hj)
      rw [turn_rows hj]
      refine ⟨_, ev_tupL (ea_cons (EvN.ev (en_map (js := [12]) (fun r => match r with | .tup xs => xs.getD j .non | _ => .non) (ei_tup (ev_var rfl)) rfl (by decide) (by rw [rowsL_len]; exact Nat.le_of_lt (sz (by omega))) fun r hr' => gx_name (bl rfl) ?_)) ea_nil), ?_⟩
      · unfold rowsL at hr'
        obtain ⟨i, _, rfl⟩ := List.mem_map.mp hr'
        refine ⟨_, (ev_ixT (ev_var rfl) (ev_var rfl) (L2.atI_nat (row_at hj))).cast ?_, ?_⟩
        · show _ = ((List.range (c.other.length + 1)).map fun j => D.int (dp c i j)).getD j .non
          rw [List.getD_eq_getElem?_getD, row_at hj]
          rfl
        · exact .keep (.keep (.keep (.keep (.keep (.keep (.keep (.keep (.keep (.keep (.keep (.keep (.skip .nil))))))))))))
      · exact .keep (.keep (.keep (.keep (.keep (.keep (.keep (.keep (.keep (.keep (.keep (.skip (.keep .nil))))))))))))
    refine sx_seq (sx_parO (d := dK' (mergeD [] wordsL)) (EvN.ev (en_disp (kvs := wordsL) (ep_cons (k := .inr "same") ev_str ev_str (ep_cons (k := .inr "unlike") ev_str ev_str (ep_cons (k := .inr "lack") ev_str ev_str (ep_cons (k := .inr "more") ev_str ev_str ep_nil)))) (by decide))) (en_lst ea_nil (Nat.zero_le _)) (bl rfl) (bl rfl) ?_)
    let xs := (told c c.one.length c.other.length).reverse
    let R : Nat → DL.Env := fun t => [some (.dat (rowD c.one)), some (.dat (rowD c.other)), some (.dat (costsD c.u c.l c.m)), some (.dat (heldD c)), none, none, some (.dat (.tup (rowsL c.turn))), some (.dat (dK' (mergeD [] wordsL))), some (.own false (.lst ((xs.take t).map fun s => stpD s.swap))), none, none, none, none]
    have xl : xs.length ≤ 200 := by
      have := told_len (c := c) _ c.one.length c.other.length rfl (Nat.le_refl _) (Nat.le_refl _)
      show (told c c.one.length c.other.length).reverse.length ≤ 200
      rw [List.length_reverse]
      omega
    refine sx_seq (sx_forW (js := [9]) (ei_tup (ev_ixT (ev_var rfl) ev_int rfl)) R ?_ (fun t d e => ?_) ?_)
    · exact .keep (.keep (.keep (.keep (.skip (.skip (.keep (.keep (.keep (.keep (.keep (.keep (.keep .nil))))))))))))
    · obtain ⟨s, e1, rfl⟩ := map_at e
      refine gx_name (bl rfl) ?_
      have fin : ∀ {d' : D}, d' = stpD s.swap → Wk ([some (.dat (rowD c.one)), some (.dat (rowD c.other)), some (.dat (costsD c.u c.l c.m)), some (.dat (heldD c)), none, none, some (.dat (.tup (rowsL c.turn))), some (.dat (dK' (mergeD [] wordsL))), some (.own false (.lst (((xs.take t).map fun s => stpD s.swap) ++ [d']))), some (.dat (stpD s)), none, none, none] : DL.Env) (R (t + 1)) := fun {d'} ed => by
        subst ed
        have : (xs.take (t + 1)).map (fun s => stpD s.swap) = ((xs.take t).map fun s => stpD s.swap) ++ [stpD s.swap] := by
          rw [List.take_add_one, e1, List.map_append]
          rfl
        show Wk _ [_, _, _, _, _, _, _, _, some (.own false (.lst ((xs.take (t + 1)).map fun s => stpD s.swap))), _, _, _, _]
        rw [this]
        exact .keep (.keep (.keep (.keep (.keep (.keep (.keep (.keep (.keep (.skip (.keep (.keep (.keep .nil))))))))))))
      have hz : ((xs.take t).map fun s => stpD s.swap).length < sizeLine := by
        rw [List.length_map, List.length_take]
        exact sz (by omega)
      cases s with
      | same i j => exact sx_app rfl (ev_addT (ev_tup (ea_cons (ev_dgetK (k := .inr "same") (ev_var rfl) (ev_ixT (ev_var rfl) ev_int rfl) w1) ea_nil) (lz rfl)) (ev_revT (ev_sliceT (ev_var rfl) (eo_some ev_int) eo_none)) (lz rfl)) rfl hz (fin rfl)
      | unlike i j => exact sx_app rfl (ev_addT (ev_tup (ea_cons (ev_dgetK (k := .inr "unlike") (ev_var rfl) (ev_ixT (ev_var rfl) ev_int rfl) w2) ea_nil) (lz rfl)) (ev_revT (ev_sliceT (ev_var rfl) (eo_some ev_int) eo_none)) (lz rfl)) rfl hz (fin rfl)
      | lack i => exact sx_app rfl (ev_addT (ev_tup (ea_cons (ev_dgetK (k := .inr "lack") (ev_var rfl) (ev_ixT (ev_var rfl) ev_int rfl) w3) ea_nil) (lz rfl)) (ev_revT (ev_sliceT (ev_var rfl) (eo_some ev_int) eo_none)) (lz rfl)) rfl hz (fin rfl)
      | more j => exact sx_app rfl (ev_addT (ev_tup (ea_cons (ev_dgetK (k := .inr "more") (ev_var rfl) (ev_ixT (ev_var rfl) ev_int rfl) w4) ea_nil) (lz rfl)) (ev_revT (ev_sliceT (ev_var rfl) (eo_some ev_int) eo_none)) (lz rfl)) rfl hz (fin rfl)
    · refine sx_next ?_
      have e5 : (xs.take (xs.map stpD).length).map (fun s => stpD s.swap) = ((xs.map Stp.swap).map stpD) := by
        rw [List.length_map, List.take_length, List.map_map]
        rfl
      refine Sx.weak (ρ1 := [some (.dat (rowD c.one)), some (.dat (rowD c.other)), some (.dat (costsD c.u c.l c.m)), some (.dat (heldD c)), none, none, some (.dat (.tup (rowsL c.turn))), none, some (.dat (.lst ((xs.map Stp.swap).map stpD))), none, none, none, none]) ?_ ?_
      · show Wk [_, _, _, _, _, _, _, _, some (.own false (.lst ((xs.take (xs.map stpD).length).map fun s => stpD s.swap))), _, _, _, _] _
        rw [e5]
        exact .keep (.keep (.keep (.keep (.keep (.keep (.keep (.skip (.set (.keep (.keep (.keep (.keep .nil))))))))))))
      refine sx_seq (sx_set (ev_tup (ea_cons (ev_ixT (ev_var rfl) ev_int rfl) (ea_cons (ev_tupL (ea_cons (ev_var rfl) ea_nil)) (ea_cons (ev_var rfl) ea_nil))) (lz rfl)) (bl rfl) ?_)
      have hrun : Run c.turn (xs.map Stp.swap) c.turn.one.length c.turn.other.length (cost c.turn) := by
        rw [cost_turn]
        exact run_told _ c.one.length c.other.length rfl (Nat.le_refl _) (Nat.le_refl _)
      refine sx_seq (sx_if (x := false) (EvT.cast (et_test (ev_isnotB (ev_callN (ds := [rowD c.other, rowD c.one, .tup [.int (cost c), .tup ((xs.map Stp.swap).map stpD), .tup (rowsL c.turn)]]) (es := [.int c.u, .int c.m, .int c.l]) (as := [rowD c.other, rowD c.one, .tup [.int (cost c), .tup ((xs.map Stp.swap).map stpD), .tup (rowsL c.turn)], .int c.u, .int c.m, .int c.l]) (ea_cons (ev_var rfl) (ea_cons (ev_var rfl) (ea_cons (ev_var rfl) ea_nil))) (ea_cons (ev_ixT (ev_var rfl) ev_int rfl) (ea_cons (ev_ixT (ev_var rfl) ev_int rfl) (ea_cons (ev_ixT (ev_var rfl) ev_int rfl) ea_nil))) rfl rfl (fun B vs zs h1 h2 => h1.append h2) ⟨c.turn, xs.map Stp.swap, bnd_turn hb, hrun, by rw [cost_turn]; rfl, rfl⟩) ev_bl)) rfl) (fun h => by cases h) fun _ => ?_)
      refine sx_next ?_
      refine sx_ret (Ev.cast (ev_eq (ev_call (ds := [rowD c.other, rowD c.one, costsD c.u c.m c.l]) (dds := []) (d := .int (cost c.turn)) (ea_cons (ev_var rfl) (ea_cons (ev_var rfl) (ea_cons (ev_tup (ea_cons (ev_ixT (ev_var rfl) ev_int rfl) (ea_cons (ev_ixT (ev_var rfl) ev_int rfl) (ea_cons (ev_ixT (ev_var rfl) ev_int rfl) ea_nil))) (lz rfl)) ea_nil))) (fun _ => .nil) ⟨c.turn, bnd_turn hb, rfl, rfl⟩) (ev_ixT (ev_var rfl) ev_int rfl) eqd_int) ?_) ⟨rfl, keeps_dat⟩
      rw [cost_turn, decide_eq_true rfl]
end
end K85

namespace K85
open PySem L2 DL
section
variable {Pr : Program} {w : World} {K : Fg} {mg : Str → Option Value} {base : Heap}
theorem rgD_at {lo : Int} {n t : Nat} {d : D} (e : (rgD lo n)[t]? = some d) : t < n ∧ d = .int (lo + (t : Nat)) := by
  have h : t < n := by
    have := (List.getElem?_eq_some_iff.mp e).1
    rwa [rgD_len] at this
  unfold rgD at e
  rw [List.getElem?_map, List.getElem?_range h] at e
  exact ⟨h, (Option.some.inj e).symm⟩
def preRightL (ds : List D) (d : D) : Prop := ∃ one other third u l m, one.length ≤ 30 ∧ other.length ≤ 29 ∧ third.length ≤ 28 ∧ 0 ≤ u ∧ 0 ≤ l ∧ 0 ≤ m ∧ ds = [rowD one, rowD other, rowD third, costsD u l m] ∧ d = .bl true
theorem ok_law_right (T : Tx K mg) : FnOk Pr w K mg base CX0 6 T.f_law_right T.fd_law_right p_law_right (spP K preRightL) := by
  have G_law_cost := ok_law_cost (Pr := Pr) (w := w) (base := base) T
  have G_law_turned_right := ok_law_turned_right (Pr := Pr) (w := w) (base := base) T
  refine fn_ok T.F_law_right sc_law_right ?len fun cdv A outer s H E hr svs d svs' hp => ?body
  case len =>
    rintro svs d svs' ⟨ds, rfl, _, one, other, third, u, l, m, _, _, _, _, _, _, rfl, _⟩
    rfl
  case body =>
    obtain ⟨ds, rfl, rfl, one, other, third, u, l, m, h1, h2, h3, hu, hl, hm, rfl, rfl⟩ := hp
    have cst : ∀ (x y : List Int) (u l m : Int), x.length ≤ 100 → y.length ≤ 100 → preCost [rowD x, rowD y, costsD u l m] (.int (cost ⟨x, y, u, l, m⟩)) := fun x y u l m a b => ⟨⟨x, y, u, l, m⟩, ⟨a, b⟩, rfl, rfl⟩
    refine ⟨_, (pss_cons (ps_set (i := 4) sc_law_right.nd rfl (Or.inl rfl) (pe_call G_law_cost (hr.mono (by decide)) (by rfl) T.g__law_cost T.F_law_cost.kp T.b_law_cost .nil pass0 (pa_cons (pv 0) (pa_cons (pv 1) (pa_cons (pv 3) pa_nil)))))
    (pss_cons (ps_if (pw_or (pt_not (pt_val (pe_call G_law_turned_right (hr.mono (by decide)) (by rfl) T.g__law_turned_right T.F_law_turned_right.kp T.b_law_turned_right .nil pass0 (pa_cons (pv 0) (pa_cons (pv 1) (pa_cons (pv 3) pa_nil)))))) (pw_or1 (pt_cmpR (op_neK K hr.units) (pe_call G_law_cost (hr.mono (by decide)) (by rfl) T.g__law_cost T.F_law_cost.kp T.b_law_cost .nil pass0 (pa_cons (pv 0) (pa_cons (pv 0) (pa_cons (pv 3) pa_nil)))) pe_int (nomark _)))).pt
    (pss_one (ps_ret pe_bl))
    pss_nil)
    (pss_cons (ps_if (pt_cmpR op_gt (pv 4) (pe_op (op_addK K) (pe_op op_mul (pe_callB (call_lenK K) (by rfl) T.n_len (by decide +kernel) (pa_cons (pv 0) pa_nil)) (pe_ix (ix_K K) (pv 3) pe_int (fun _ _ => rfl))) (pe_op op_mul (pe_callB (call_lenK K) (by rfl) T.n_len (by decide +kernel) (pa_cons (pv 1) pa_nil)) (pe_ix (ix_K K) (pv 3) pe_int (fun _ _ => rfl)))) (nomark _))
    (pss_one (ps_ret pe_bl))
    pss_nil)
    (pss_cons (ps_if (pw_or (pt_cmpR op_gt (pe_call G_law_cost (hr.mono (by decide)) (by rfl) T.g__law_cost T.F_law_cost.kp T.b_law_cost .nil pass0 (pa_cons (pe_op (op_addK K) (pe_lst (pa_cons pe_int pa_nil)) (pv 0)) (pa_cons (pe_op (op_addK K) (pe_lst (pa_cons pe_int pa_nil)) (pv 1)) (pa_cons (pv 3) pa_nil)))) (pv 4) (nomark _)) (pw_or1 (pt_cmpR op_gt (pe_call G_law_cost (hr.mono (by decide)) (by rfl) T.g__law_cost T.F_law_cost.kp T.b_law_cost .nil pass0 (pa_cons (pe_op (op_addK K) (pv 0) (pe_lst (pa_cons pe_int pa_nil))) (pa_cons (pe_op (op_addK K) (pv 1) (pe_lst (pa_cons pe_int pa_nil))) (pa_cons (pv 3) pa_nil)))) (pv 4) (nomark _)))).pt
    (pss_one (ps_ret pe_bl))
    pss_nil)
    (pss_cons (ps_for PassesOwn.never rfl (pi_range1 (by rfl) T.n_range (pa_cons pe_int pa_nil)) (pg_name (i := 5) sc_law_right.nd rfl (Or.inl rfl))
    (pss_cons (ps_set (i := 6) sc_law_right.nd rfl (Or.inl rfl) (pe_op (op_addK K) (pe_op (op_addK K) (pe_slice (sl_K K) (pv 3) po_none (po_some (pv 5))) (pe_tup (pa_cons (pe_op op_fdivW (pe_ix (ix_K K) (pv 3) (pv 5) (fun _ _ => rfl)) pe_int) pa_nil))) (pe_slice (sl_K K) (pv 3) (po_some (pe_op (op_addK K) (pv 5) pe_int)) po_none)))
    (pss_one (ps_if (pt_cmpR op_gt (pe_call G_law_cost (hr.mono (by decide)) (by rfl) T.g__law_cost T.F_law_cost.kp T.b_law_cost .nil pass0 (pa_cons (pv 0) (pa_cons (pv 1) (pa_cons (pv 6) pa_nil)))) (pv 4) (nomark _))
    (pss_one (ps_ret pe_bl))
    pss_nil))))
    (pss_one (ps_ret (pe_cmpR op_le (pe_call G_law_cost (hr.mono (by decide)) (by rfl) T.g__law_cost T.F_law_cost.kp T.b_law_cost .nil pass0 (pa_cons (pe_op (op_addK K) (pv 0) (pv 2)) (pa_cons (pe_op (op_addK K) (pv 1) (pv 2)) (pa_cons (pv 3) pa_nil)))) (pv 4) (nomark _))))))))), ?_⟩
    refine sx_seq (sx_set (ev_call (ds := [rowD one, rowD other, costsD u l m]) (dds := []) (ea_cons (ev_var rfl) (ea_cons (ev_var rfl) (ea_cons (ev_var rfl) ea_nil))) (fun _ => .nil) (cst one other u l m (by omega) (by omega))) (bl rfl) ?_)
    refine sx_seq (sx_if (x := false) (EvT.cast (et_or (x := false) (EvT.cast (et_not (et_B (ev_call (ds := [rowD one, rowD other, costsD u l m]) (dds := []) (d := .bl true) (ea_cons (ev_var rfl) (ea_cons (ev_var rfl) (ea_cons (ev_var rfl) ea_nil))) (fun _ => .nil) ⟨⟨one, other, u, l, m⟩, ⟨show one.length ≤ 100 by omega, show other.length ≤ 100 by omega⟩, rfl, rfl⟩))) rfl) (y := false) fun _ => EvT.cast (et_test (ev_ne (ev_call (ds := [rowD one, rowD one, costsD u l m]) (dds := []) (ea_cons (ev_var rfl) (ea_cons (ev_var rfl) (ea_cons (ev_var rfl) ea_nil))) (fun _ => .nil) (cst one one u l m (by omega) (by omega))) ev_int eqd_int)) ?_) rfl) (fun h => by cases h) fun _ => ?_)
    · rw [law_self hu hl hm]; rfl
    refine sx_next ?_
    refine sx_seq (sx_if (x := false) (EvT.cast (et_test (ev_gt (ev_var rfl) (ev_add (ev_mul ((ev_lenL (ds := one.map D.int) (ea_cons (ev_var rfl) ea_nil)).cast (c := iD one.length) (by rw [List.length_map])) (ev_ixT (ev_var rfl) ev_int rfl) (.inl ⟨by omega, by omega⟩)) (ev_mul ((ev_lenL (ds := other.map D.int) (ea_cons (ev_var rfl) ea_nil)).cast (c := iD other.length) (by rw [List.length_map])) (ev_ixT (ev_var rfl) ev_int rfl) (.inl ⟨by omega, by omega⟩))))) ?_) (fun h => by cases h) fun _ => ?_)
    · exact decide_eq_false (by have := law_most (one := one) (other := other) (u := u) (l := l) (m := m); omega)
    refine sx_next ?_
    refine sx_seq (sx_if (x := false) (EvT.cast (et_or (x := false) (EvT.cast (et_test (ev_gt (ev_call (ds := [rowD ([7] ++ one), rowD ([7] ++ other), costsD u l m]) (dds := []) (ea_cons (en_addL (en_lst (ea_cons ev_int ea_nil) (lz rfl)).ev (ev_var rfl) ?_).ev (ea_cons (en_addL (en_lst (ea_cons ev_int ea_nil) (lz rfl)).ev (ev_var rfl) ?_).ev (ea_cons (ev_var rfl) ea_nil))) (fun _ => .nil) (cst _ _ u l m ?_ ?_)) (ev_var rfl))) ?_) (y := false) fun _ => EvT.cast (et_test (ev_gt (ev_call (ds := [rowD (one ++ [7]), rowD (other ++ [7]), costsD u l m]) (dds := []) (ea_cons ((en_addL (ev_var (d := rowD one) rfl) (en_lst (ea_cons ev_int ea_nil) (lz rfl)).ev ?_).cast ?_).ev (ea_cons ((en_addL (ev_var (d := rowD other) rfl) (en_lst (ea_cons ev_int ea_nil) (lz rfl)).ev ?_).cast ?_).ev (ea_cons (ev_var rfl) ea_nil))) (fun _ => .nil) (cst _ _ u l m ?_ ?_)) (ev_var rfl))) ?_) rfl) (fun h => by cases h) fun _ => ?_)
    · exact Nat.le_of_lt (sz (show 1 + (one.map D.int).length ≤ 100000 by rw [List.length_map]; omega))
    · exact Nat.le_of_lt (sz (show 1 + (other.map D.int).length ≤ 100000 by rw [List.length_map]; omega))
    · rw [List.length_append]; show 1 + _ ≤ _; omega
    · rw [List.length_append]; show 1 + _ ≤ _; omega
    · exact decide_eq_false (by have := law_front (one := one) (other := other) (u := u) (l := l) (m := m); omega)
    · exact Nat.le_of_lt (sz (by simp only [List.length_map, List.length_cons, List.length_nil]; omega))
    · show _ = D.lst _; rw [List.map_append]; rfl
    · exact Nat.le_of_lt (sz (by simp only [List.length_map, List.length_cons, List.length_nil]; omega))
    · show _ = D.lst _; rw [List.map_append]; rfl
    · rw [List.length_append]; show _ + 1 ≤ _; omega
    · rw [List.length_append]; show _ + 1 ≤ _; omega
    · exact decide_eq_false (by have := law_behind (one := one) (other := other) (u := u) (l := l) (m := m) [7]; omega)
    refine sx_next ?_
    let R : DL.Env := [some (.dat (rowD one)), some (.dat (rowD other)), some (.dat (rowD third)), some (.dat (costsD u l m)), some (.dat (.int (cost ⟨one, other, u, l, m⟩))), none, none]
    refine sx_seq (sx_forW (js := [5]) (ei_rng1 (ea_cons ev_int ea_nil) (by decide) (by decide)) (fun _ => R) (Wk.refl _) (fun t d e => ?_) ?_)
    · obtain ⟨ht, rfl⟩ := rgD_at e
      have ht : t < 3 := ht
      refine gx_name (bl rfl) ?_
      have fin : ∀ {u' l' m' : Int}, u' ≤ u → l' ≤ l → m' ≤ m → decide (cost ⟨one, other, u, l, m⟩ < cost ⟨one, other, u', l', m'⟩) = false := fun a b c => decide_eq_false (by have := law_less (one := one) (other := other) a b c; omega)
      have half : ∀ {x : Int}, 0 ≤ x → x / 2 ≤ x := fun h => by omega
      match t, ht with
      | 0, _ =>
        refine sx_seq (sx_set (ev_addT (ev_addT (ev_sliceT (ev_var rfl) eo_none (eo_some (ev_var rfl))) (ev_tup (ea_cons (ev_fdiv (ev_ixT (d := .int u) (ev_var rfl) (ev_var rfl) rfl) ev_int (by decide) (by decide)) ea_nil) (lz rfl)) (lz rfl)) (ev_sliceT (ev_var rfl) (eo_some (ev_add (ev_var rfl) ev_int)) eo_none) (lz rfl)) (bl rfl) ?_)
        refine sx_if (x := false) (EvT.cast (et_test (ev_gt (ev_call (ds := [rowD one, rowD other, costsD (u / 2) l m]) (dds := []) (ea_cons (ev_var rfl) (ea_cons (ev_var rfl) (ea_cons (ev_var rfl) ea_nil))) (fun _ => .nil) (cst one other (u / 2) l m (by omega) (by omega))) (ev_var rfl))) (fin (half hu) (Int.le_refl _) (Int.le_refl _))) (fun h => by cases h) fun _ => sx_next ?_
        exact .keep (.keep (.keep (.keep (.keep (.skip (.skip .nil))))))
      | 1, _ =>
        refine sx_seq (sx_set (ev_addT (ev_addT (ev_sliceT (ev_var rfl) eo_none (eo_some (ev_var rfl))) (ev_tup (ea_cons (ev_fdiv (ev_ixT (d := .int l) (ev_var rfl) (ev_var rfl) rfl) ev_int (by decide) (by decide)) ea_nil) (lz rfl)) (lz rfl)) (ev_sliceT (ev_var rfl) (eo_some (ev_add (ev_var rfl) ev_int)) eo_none) (lz rfl)) (bl rfl) ?_)
        refine sx_if (x := false) (EvT.cast (et_test (ev_gt (ev_call (ds := [rowD one, rowD other, costsD u (l / 2) m]) (dds := []) (ea_cons (ev_var rfl) (ea_cons (ev_var rfl) (ea_cons (ev_var rfl) ea_nil))) (fun _ => .nil) (cst one other u (l / 2) m (by omega) (by omega))) (ev_var rfl))) (fin (Int.le_refl _) (half hl) (Int.le_refl _))) (fun h => by cases h) fun _ => sx_next ?_
        exact .keep (.keep (.keep (.keep (.keep (.skip (.skip .nil))))))
      | 2, _ =>
        refine sx_seq (sx_set (ev_addT (ev_addT (ev_sliceT (ev_var rfl) eo_none (eo_some (ev_var rfl))) (ev_tup (ea_cons (ev_fdiv (ev_ixT (d := .int m) (ev_var rfl) (ev_var rfl) rfl) ev_int (by decide) (by decide)) ea_nil) (lz rfl)) (lz rfl)) (ev_sliceT (ev_var rfl) (eo_some (ev_add (ev_var rfl) ev_int)) eo_none) (lz rfl)) (bl rfl) ?_)
        refine sx_if (x := false) (EvT.cast (et_test (ev_gt (ev_call (ds := [rowD one, rowD other, costsD u l (m / 2)]) (dds := []) (ea_cons (ev_var rfl) (ea_cons (ev_var rfl) (ea_cons (ev_var rfl) ea_nil))) (fun _ => .nil) (cst one other u l (m / 2) (by omega) (by omega))) (ev_var rfl))) (fin (Int.le_refl _) (Int.le_refl _) (half hm))) (fun h => by cases h) fun _ => sx_next ?_
        exact .keep (.keep (.keep (.keep (.keep (.skip (.skip .nil))))))
    · refine sx_next ?_
      refine sx_ret (Ev.cast (ev_le (ev_call (ds := [rowD (one ++ third), rowD (other ++ third), costsD u l m]) (dds := []) (ea_cons ((en_addL (ev_var (d := rowD one) rfl) (ev_var (d := rowD third) rfl) ?_).cast ?_).ev (ea_cons ((en_addL (ev_var (d := rowD other) rfl) (ev_var (d := rowD third) rfl) ?_).cast ?_).ev (ea_cons (ev_var rfl) ea_nil))) (fun _ => .nil) (cst _ _ u l m ?_ ?_)) (ev_var rfl)) ?_) ⟨rfl, keeps_dat⟩
      · rw [List.length_map, List.length_map]; exact Nat.le_of_lt (sz (by omega))
      · show _ = D.lst _; rw [List.map_append]
      · rw [List.length_map, List.length_map]; exact Nat.le_of_lt (sz (by omega))
      · show _ = D.lst _; rw [List.map_append]
      · rw [List.length_append]; omega
      · rw [List.length_append]; omega
      · rw [decide_eq_true (law_behind (one := one) (other := other) (u := u) (l := l) (m := m) third)]
end
end K85

namespace DL
open PySem L2
theorem en_mapS {K : Fg} {ρ ρ1 : DL.Env} {ds : List D} {g : TG} {te : TE} {js : List Nat} {wi : TI} {vs : List Nat} (ρs : Nat → DL.Env) (ac : Nat → List D) (hi : EvI K wi ρ ds ρ1) (h0 : Wk ρ1 (ρs 0)) (a0 : ac 0 = []) (hc : ∀ i, clrB (ρs i) vs = true) (hjs : ∀ j ∈ js, j ∈ vs) (hz : ds.length ≤ sizeLine) {n : Nat} (hn : ds.length = n)
    (hs : ∀ i d, ds[i]? = some d → Gx K g js d (ρs i) fun ρ2 => ∃ y ρ4, Ev K te ρ2 y ρ4 ∧ Wk ρ4 (ρs (i + 1)) ∧ ac (i + 1) = ac i ++ [y]) :
    EvN K (tLc wi g tYes te vs) ρ (.lst (ac n)) (ρs n) := hn ▸
  en_lc ρs ac hi h0 a0 (fun i => clr_of (hc i)) hjs hz fun i d e F B0 B σ H S v r Q q => hs i d e F B0 B σ H S v r Q fun ρ' σ' S' p w => q ρ' σ' S' ⟨true, _, fun F B0 B σ H S Q q => q B H (Same.refl _) S, fun _ => p, fun h => by cases h⟩ w
end DL
namespace K85
open PySem L2 DL
section
variable {Pr : Program} {w : World} {K : Fg} {mg : Str → Option Value} {base : Heap}
def takes (b : Box) (m : Int) : Nat → Box × List Int
  | 0 => (b, [])
  | t + 1 => ((takeF (takes b m t).1 m).2, (takes b m t).2 ++ [(takeF (takes b m t).1 m).1])
theorem takes_len (b : Box) (m : Int) : ∀ t, (takes b m t).2.length = t
  | 0 => rfl
  | t + 1 => by
    show ((takes b m t).2 ++ [_]).length = _
    rw [List.length_append, takes_len b m t]
    rfl
def spans : List Int := [2, 4, 65536, 10 ^ Int.toNat 9 + 1]
def dears : List Int := [10, 10, 10 ^ Int.toNat 9 + 1]
theorem span_ok {r : Int} (h0 : 0 ≤ r) (h1 : r < 4) : 0 < spans.getD r.toNat 0 ∧ spans.getD r.toNat 0 < 2 ^ 64 := by
  have : r = 0 ∨ r = 1 ∨ r = 2 ∨ r = 3 := by omega
  rcases this with rfl | rfl | rfl | rfl <;> decide +kernel
theorem dear_ok {r : Int} (h0 : 0 ≤ r) (h1 : r < 3) : 0 < dears.getD r.toNat 0 ∧ dears.getD r.toNat 0 < 2 ^ 64 := by
  have : r = 0 ∨ r = 1 ∨ r = 2 := by omega
  rcases this with rfl | rfl | rfl <;> decide +kernel
theorem rowD_cut (xs : List Int) (n : Nat) : D.lst (cutD (xs.map D.int) none (some (n : Int))) = rowD (xs.take n) := by
  rw [cutN]; show _ = D.lst _; rw [List.map_take]
def preLaw (ds : List D) (d : D) : Prop := ∃ ns : List Int, ns.length ≤ 63 ∧ ds = [.frl (ns.map .int)] ∧ d = .bl true
theorem ok_law (T : Tx K mg) : FnOk Pr w K mg base CX0 7 T.f_law T.fd_law p_law (spP K preLaw) := by
  have G_law_box := ok_law_box (Pr := Pr) (w := w) (base := base) T
  have G_law_cost := ok_law_cost (Pr := Pr) (w := w) (base := base) T
  have G_law_next_row := ok_law_next_row (Pr := Pr) (w := w) (base := base) T
  have G_law_right := ok_law_right (Pr := Pr) (w := w) (base := base) T
  have G_law_take := ok_law_take (Pr := Pr) (w := w) (base := base) T
  refine fn_ok T.F_law sc_law ?len fun cdv A outer s H E hr svs d svs' hp => ?body
  case len =>
    rintro svs d svs' ⟨ds, rfl, _, ns, _, rfl, _⟩
    rfl
  case body =>
    obtain ⟨ds, rfl, rfl, ns, hn, rfl, rfl⟩ := hp
    have cst : ∀ (x y : List Int) (u l m : Int), x.length ≤ 100 → y.length ≤ 100 → preCost [rowD x, rowD y, costsD u l m] (.int (cost ⟨x, y, u, l, m⟩)) := fun x y u l m a b => ⟨⟨x, y, u, l, m⟩, ⟨a, b⟩, rfl, rfl⟩
    refine ⟨_, (pss_cons (ps_for PassesOwn.never rfl (pi_range1 (by rfl) T.n_range (pa_cons (pe_callB (call_max2 rfl) (by rfl) T.n_max (by decide +kernel) (pa_cons pe_int (pa_cons (pe_callB (call_min2 rfl) (by rfl) T.n_min (by decide +kernel) (pa_cons pe_int (pa_cons (pe_callB (call_lenK K) (by rfl) T.n_len (by decide +kernel) (pa_cons (pv 0) pa_nil)) pa_nil))) pa_nil))) pa_nil)) (pg_name (i := 1) sc_law.nd rfl (Or.inl rfl))
    (pss_cons (ps_set (i := 2) sc_law.nd rfl (Or.inr rfl) (pe_call G_law_box (hr.mono (by decide)) (by rfl) T.g__law_box T.F_law_box.kp T.b_law_box .nil pass0 (pa_cons (pv 0) (pa_cons (pv 1) pa_nil))))
    (pss_cons (ps_asg (pe_tup (pa_cons (pe_ix (ix_K K) (pe_lst (pa_cons pe_int (pa_cons pe_int (pa_cons pe_int (pa_cons (pe_op (op_addK K) (pe_op op_pow pe_int pe_int) pe_int) pa_nil))))) (pe_call G_law_take (hr.mono (by decide)) (by rfl) T.g__law_take T.F_law_take.kp T.b_law_take .nil pass0 (pa_cons (pv 2) (pa_cons pe_int pa_nil))) (fun _ _ => rfl)) (pa_cons (pe_ix (ix_K K) (pe_lst (pa_cons pe_int (pa_cons pe_int pa_nil))) (pe_callTy call_int1 (by rfl) T.n_int (by decide +kernel) (pa_cons (pe_and (pe_cmpR (op_eqK K hr.units) (pv 1) pe_int (nomark _)) (pe_one (pe_cmpR (op_eqK K hr.units) (pe_call G_law_take (hr.mono (by decide)) (by rfl) T.g__law_take T.F_law_take.kp T.b_law_take .nil pass0 (pa_cons (pv 2) (pa_cons pe_int pa_nil))) pe_int (nomark _)))) pa_nil)) (fun _ _ => rfl)) pa_nil))) (pg_tupK K (n := 2) rfl (pgs_cons (pg_name (i := 3) sc_law.nd rfl (Or.inr rfl)) (pgs_cons (pg_name (i := 4) sc_law.nd rfl (Or.inl rfl)) pgs_nil))))
    (pss_cons (ps_setLc (own := [("_law_turn", 11)]) (i := 5) rfl sc_law.nd rfl rfl (sw_true rfl rfl rfl (by decide +kernel)) (pi_range1 (by rfl) T.n_range (pa_cons (pe_call G_law_take (hr.mono (by decide)) (by rfl) T.g__law_take T.F_law_take.kp T.b_law_take .nil pass0 (pa_cons (pv 2) (pa_cons (pe_op (op_addK K) (pv 4) pe_int) pa_nil))) pa_nil)) (blkOk_by (own := [("_law_turn", 11)]) (N := N_law) (by first | decide +kernel | rfl)) (fun _ _ _ _ _ => (pg_name (i := 11) sc_law.nd rfl (Or.inl rfl))) (fun _ _ _ _ _ => pts_nil) (fun _ _ _ _ _ => (pe_call G_law_take (hr.mono (by decide)) (by rfl) T.g__law_take T.F_law_take.kp T.b_law_take .nil pass0 (pa_cons (pv 2) (pa_cons (pv 3) pa_nil)))))
    (pss_cons (ps_set (i := 6) sc_law.nd rfl (Or.inl rfl) (pe_call G_law_next_row (hr.mono (by decide)) (by rfl) T.g__law_next_row T.F_law_next_row.kp T.b_law_next_row .nil pass0 (pa_cons (pv 2) (pa_cons (pv 5) (pa_cons (pv 3) pa_nil)))))
    (pss_cons (ps_set (i := 7) sc_law.nd rfl (Or.inl rfl) (pe_call G_law_next_row (hr.mono (by decide)) (by rfl) T.g__law_next_row T.F_law_next_row.kp T.b_law_next_row .nil pass0 (pa_cons (pv 2) (pa_cons (pv 6) (pa_cons (pv 3) pa_nil)))))
    (pss_cons (ps_set (i := 8) sc_law.nd rfl (Or.inr rfl) (pe_ix (ix_K K) (pe_lst (pa_cons pe_int (pa_cons pe_int (pa_cons (pe_op (op_addK K) (pe_op op_pow pe_int pe_int) pe_int) pa_nil)))) (pe_call G_law_take (hr.mono (by decide)) (by rfl) T.g__law_take T.F_law_take.kp T.b_law_take .nil pass0 (pa_cons (pv 2) (pa_cons pe_int pa_nil))) (fun _ _ => rfl)))
    (pss_cons (ps_set (i := 9) sc_law.nd rfl (Or.inl rfl) (pe_callTy (call_tupleK K) (by rfl) T.n_tuple (by decide +kernel) (pa_cons (pe_lc (own := [("_law_turn", 11)]) rfl sc_law.nd (pi_range1 (by rfl) T.n_range (pa_cons pe_int pa_nil)) (blkOk_by (own := [("_law_turn", 11)]) (N := N_law) (by first | decide +kernel | rfl)) (fun _ _ _ _ _ => (pg_name (i := 11) sc_law.nd rfl (Or.inl rfl))) (fun _ _ _ _ _ => pts_nil) (fun _ _ _ _ _ => (pe_call G_law_take (hr.mono (by decide)) (by rfl) T.g__law_take T.F_law_take.kp T.b_law_take .nil pass0 (pa_cons (pv 2) (pa_cons (pv 8) pa_nil))))) pa_nil)))
    (pss_cons (ps_if (pt_not (pt_val (pe_call G_law_right (hr.mono (by decide)) (by rfl) T.g__law_right T.F_law_right.kp T.b_law_right .nil pass0 (pa_cons (pe_slice (sl_K K) (pv 5) po_none (po_some pe_int)) (pa_cons (pe_slice (sl_K K) (pv 6) po_none (po_some pe_int)) (pa_cons (pe_slice (sl_K K) (pv 7) po_none (po_some pe_int)) (pa_cons (pv 9) pa_nil)))))))
    (pss_one (ps_ret pe_bl))
    pss_nil)
    (pss_cons (ps_set (i := 10) sc_law.nd rfl (Or.inl rfl) (pe_op (op_addK K) (pe_call G_law_cost (hr.mono (by decide)) (by rfl) T.g__law_cost T.F_law_cost.kp T.b_law_cost .nil pass0 (pa_cons (pv 5) (pa_cons (pv 6) (pa_cons (pv 9) pa_nil)))) (pe_call G_law_cost (hr.mono (by decide)) (by rfl) T.g__law_cost T.F_law_cost.kp T.b_law_cost .nil pass0 (pa_cons (pv 6) (pa_cons (pv 7) (pa_cons (pv 9) pa_nil))))))
    (pss_one (ps_if (pt_cmpR op_gt (pe_call G_law_cost (hr.mono (by decide)) (by rfl) T.g__law_cost T.F_law_cost.kp T.b_law_cost .nil pass0 (pa_cons (pv 5) (pa_cons (pv 7) (pa_cons (pv 9) pa_nil)))) (pv 10) (nomark _))
    (pss_one (ps_ret pe_bl))
    pss_nil))))))))))))
    (pss_one (ps_ret pe_bl))), ?_⟩
    let R : DL.Env := [some (.dat (.frl (ns.map .int))), none, none, none, none, none, none, none, none, none, none, none]
    refine sx_seq (sx_forW (js := [1]) (EvI.cast (ei_rng1 (ea_cons (ev_max2 (ea_cons ev_int (ea_cons (ev_min2 (ea_cons ev_int (ea_cons ((ev_lenF (ds := ns.map D.int) (ea_cons (ev_var rfl) ea_nil)).cast (c := iD ns.length) (by rw [List.length_map])) ea_nil))) ea_nil))) ea_nil) (by omega) (by omega)) rgD_map) (fun _ => R) (Wk.refl _) (fun t d e => ?_) ?_)
    · obtain ⟨k, e1, rfl⟩ := map_at e
      refine gx_name (bl rfl) ?_
      refine sx_seq (sx_own (en_call (ds := [.frl (ns.map .int), iD k]) (dds := []) (ea_cons (ev_var rfl) (ea_cons (ev_var rfl) ea_nil)) (fun _ => .nil) ⟨ns, k, rfl, rfl⟩) (bl rfl) ?_)
      -- span, many
      let b0 := boxF ns k
      let f1 := takeF b0 4
      let b2 : Box := if k = 0 then (takeF f1.2 4).2 else f1.2
      let z : Bool := decide ((k : Int) = 0) && decide ((takeF f1.2 4).1 = 0)
      let span := spans.getD f1.1.toNat 0
      let many : Int := if z = true then 60 else 20
      have r1 := takeF_range b0 (m := 4) (by decide)
      have hspan := span_ok r1.1 r1.2
      have hmany : 20 ≤ many ∧ many ≤ 60 := by
        show 20 ≤ (if z = true then (60 : Int) else 20) ∧ (if z = true then (60 : Int) else 20) ≤ 60
        split <;> decide
      let R2 : Box → Int → Option SV → Option SV → Option SV → Option SV → Option SV → DL.Env := fun b s x y z u v => [some (.dat (.frl (ns.map .int))), some (.dat (iD k)), some (.own false (boxD b)), some (.dat (.int s)), some (.dat (.int many)), x, y, z, u, v, none, none]
      refine sx_seq (sx_asg (js := [3] ++ ([4] ++ [])) (ev_tup (ea_cons (ev_ixL (d := .int span) (en_lst (ea_cons ev_int (ea_cons ev_int (ea_cons ev_int (ea_cons (ev_add (ev_pow ev_int ev_int ⟨by decide, by decide, by decide⟩) ev_int) ea_nil)))) (lz rfl)).ev (ev_callO rfl (ea_cons ev_int ea_nil) rfl (fun _ => .nil) ⟨b0, 4, by decide, by decide, rfl, rfl, rfl, rfl⟩) (at_intsI (xs := spans) r1.1 r1.2)) (ea_cons (ev_ixL (d := .int many) (en_lst (ea_cons ev_int (ea_cons ev_int ea_nil)) (lz rfl)).ev (ev_intB (ea_cons (ev_andV (ρ1 := [some (.dat (.frl (ns.map .int))), some (.dat (iD k)), some (.own false (boxD f1.2)), none, none, none, none, none, none, none, none, none]) (ρ2 := [some (.dat (.frl (ns.map .int))), some (.dat (iD k)), some (.own false (boxD b2)), none, none, none, none, none, none, none, none, none]) (ev_eq (ev_var rfl) ev_int eqd_int) (fun h => by
          have hk : k = 0 := by have := of_decide_eq_true h; omega
          have e2 : b2 = (takeF f1.2 4).2 := if_pos hk
          rw [e2]
          exact ev_eq (ev_callO rfl (ea_cons ev_int ea_nil) rfl (fun _ => .nil) ⟨f1.2, 4, by decide, by decide, rfl, rfl, rfl, rfl⟩) ev_int eqd_int) (fun h => by
          have hk : ¬ k = 0 := by have := of_decide_eq_false h; omega
          have e2 : b2 = f1.2 := if_neg hk
          rw [e2])) ea_nil)) ?_) ea_nil)) (lz rfl)) (gx_tup rfl (gxs_cons (gx_name (bl rfl) (gxs_cons (gx_name (bl rfl) (gxs_nil ?_)))))))
      · show L2.atI [D.int 20, D.int 60] (if z = true then 1 else 0) = some (.int (if z = true then 60 else 20))
        cases z <;> rfl
      -- one
      show Sx K _ (R2 b2 span none none none none none) _
      let n := (takeF b2 (many + 1)).1
      let b3 := (takeF b2 (many + 1)).2
      have rn := takeF_range b2 (m := many + 1) (by omega)
      let one := (takes b3 span n.toNat).2
      have ol : one.length ≤ 60 := by
        show (takes b3 span n.toNat).2.length ≤ 60
        rw [takes_len]
        have : n < many + 1 := rn.2
        omega
      have hn1 : n < 61 := by have : n < many + 1 := rn.2; omega
      have hn0 : 0 ≤ n := rn.1
      refine sx_seq (sx_set (d := rowD one) (ρ1 := R2 (takes b3 span n.toNat).1 span none none none none none) (EvN.ev ?_) (bl rfl) ?_)
      · exact en_mapS (K := K) (js := [11]) (vs := [11]) (ρ := R2 b2 span none none none none none) (fun t => R2 (takes b3 span t).1 span none none none none none) (fun t => (takes b3 span t).2.map D.int) (ei_rng1 (ea_cons (ev_callO rfl (ea_cons (ev_add (ev_var rfl) ev_int) ea_nil) rfl (fun _ => .nil) ⟨b2, many + 1, by omega, by omega, rfl, rfl, rfl, rfl⟩) ea_nil) (by show -(2 ^ 62) ≤ n; omega) (by show n < 2 ^ 62; omega)) (Wk.refl _) rfl (fun _ => rfl) (by decide) (by rw [rgD_len]; exact Nat.le_of_lt (sz (show n.toNat ≤ 100000 by omega))) rgD_len (fun t d e => gx_name (bl rfl) ⟨_, _, ev_callO rfl (ea_cons (ev_var rfl) ea_nil) rfl (fun _ => .nil) ⟨(takes b3 span t).1, span, hspan.1, hspan.2, rfl, rfl, rfl, rfl⟩, .keep (.keep (.keep (.keep (.keep (.keep (.keep (.keep (.keep (.keep (.keep (.skip .nil))))))))))), by
          show ((takes b3 span t).2 ++ [_]).map D.int = _
          rw [List.map_append]
          rfl⟩)
      let b4 := (takes b3 span n.toNat).1
      let other := (nxAll b4 one span).2.take 60
      let b5 := (nxAll b4 one span).1
      have tl : other.length ≤ 60 := by
        show ((nxAll b4 one span).2.take 60).length ≤ 60
        rw [List.length_take]; omega
      refine sx_seq (sx_set (ev_callO rfl (ea_cons (ev_var rfl) (ea_cons (ev_var rfl) ea_nil)) rfl (fun _ => .nil) ⟨b4, one, span, hspan.1, hspan.2, by omega, rfl, rfl, rfl, rfl⟩) (bl rfl) ?_)
      let third := (nxAll b5 other span).2.take 60
      let b6 := (nxAll b5 other span).1
      have hl3 : third.length ≤ 60 := by
        show ((nxAll b5 other span).2.take 60).length ≤ 60
        rw [List.length_take]; omega
      refine sx_seq (sx_set (ev_callO rfl (ea_cons (ev_var (d := rowD other) rfl) (ea_cons (ev_var rfl) ea_nil)) rfl (fun _ => .nil) ⟨b5, other, span, hspan.1, hspan.2, by omega, rfl, rfl, rfl, rfl⟩) (bl rfl) ?_)
      have r3 := takeF_range b6 (m := 3) (by decide)
      let b7 := (takeF b6 3).2
      let dear := dears.getD (takeF b6 3).1.toNat 0
      have hdear := dear_ok r3.1 r3.2
      refine sx_seq (sx_set (ev_ixL (d := .int dear) (en_lst (ea_cons ev_int (ea_cons ev_int (ea_cons (ev_add (ev_pow ev_int ev_int ⟨by decide, by decide, by decide⟩) ev_int) ea_nil))) (lz rfl)).ev (ev_callO rfl (ea_cons ev_int ea_nil) rfl (fun _ => .nil) ⟨b6, 3, by decide, by decide, rfl, rfl, rfl, rfl⟩) (at_intsI (xs := dears) r3.1 r3.2)) (bl rfl) ?_)
      let u := (takeF b7 dear).1
      let l := (takeF (takes b7 dear 1).1 dear).1
      let m := (takeF (takes b7 dear 2).1 dear).1
      have hu : 0 ≤ u := (takeF_range _ hdear.1).1
      have hl : 0 ≤ l := (takeF_range _ hdear.1).1
      have hm : 0 ≤ m := (takeF_range _ hdear.1).1
      let R3 : Box → Option SV → Option SV → DL.Env := fun b x y => [some (.dat (.frl (ns.map .int))), some (.dat (iD k)), some (.own false (boxD b)), some (.dat (.int span)), some (.dat (.int many)), some (.dat (rowD one)), some (.dat (rowD other)), some (.dat (rowD third)), some (.dat (.int dear)), x, y, none]
      show Sx K _ (R3 b7 none none) _
      refine sx_seq (sx_set (d := costsD u l m) (ρ1 := R3 (takes b7 dear 3).1 none none) (ev_tupL (ea_cons (EvN.ev ?_) ea_nil)) (bl rfl) ?_)
      · exact en_mapS (K := K) (js := [11]) (vs := [11]) (ρ := R3 b7 none none) (fun t => R3 (takes b7 dear t).1 none none) (fun t => (takes b7 dear t).2.map D.int) (ei_rng1 (ea_cons ev_int ea_nil) (by decide) (by decide)) (Wk.refl _) rfl (fun _ => rfl) (by decide) (lz rfl) rgD_len (fun t d e => gx_name (bl rfl) ⟨_, _, ev_callO rfl (ea_cons (ev_var rfl) ea_nil) rfl (fun _ => .nil) ⟨(takes b7 dear t).1, dear, hdear.1, hdear.2, rfl, rfl, rfl, rfl⟩, .keep (.keep (.keep (.keep (.keep (.keep (.keep (.keep (.keep (.keep (.keep (.skip .nil))))))))))), by
          show ((takes b7 dear t).2 ++ [_]).map D.int = _
          rw [List.map_append]
          rfl⟩)
      refine sx_seq (sx_if (x := false) (EvT.cast (et_not (et_B (ev_call (ds := [rowD (one.take 30), rowD (other.take 29), rowD (third.take 28), costsD u l m]) (dds := []) (d := .bl true) (ea_cons ((en_sliceL (ev_var (d := rowD one) rfl) eo_none (eo_some ev_int)).cast ?_).ev (ea_cons ((en_sliceL (ev_var (d := rowD other) rfl) eo_none (eo_some ev_int)).cast ?_).ev (ea_cons ((en_sliceL (ev_var (d := rowD third) rfl) eo_none (eo_some ev_int)).cast ?_).ev (ea_cons (ev_var rfl) ea_nil)))) (fun _ => .nil) ⟨_, _, _, u, l, m, ?_, ?_, ?_, hu, hl, hm, rfl, rfl⟩))) rfl) (fun h => by cases h) fun _ => ?_)
      · exact rowD_cut one 30
      · exact rowD_cut other 29
      · exact rowD_cut third 28
      · rw [List.length_take]; omega
      · rw [List.length_take]; omega
      · rw [List.length_take]; omega
      refine sx_next ?_
      refine sx_seq (sx_set (ev_add (ev_call (ds := [rowD one, rowD other, costsD u l m]) (dds := []) (ea_cons (ev_var rfl) (ea_cons (ev_var rfl) (ea_cons (ev_var rfl) ea_nil))) (fun _ => .nil) (cst one other u l m (by omega) (by omega))) (ev_call (ds := [rowD other, rowD third, costsD u l m]) (dds := []) (ea_cons (ev_var rfl) (ea_cons (ev_var rfl) (ea_cons (ev_var rfl) ea_nil))) (fun _ => .nil) (cst other third u l m (by omega) (by omega)))) (bl rfl) ?_)
      refine sx_if (x := false) (EvT.cast (et_test (ev_gt (ev_call (ds := [rowD one, rowD third, costsD u l m]) (dds := []) (ea_cons (ev_var rfl) (ea_cons (ev_var rfl) (ea_cons (ev_var rfl) ea_nil))) (fun _ => .nil) (cst one third u l m (by omega) (by omega))) (ev_var rfl))) ?_) (fun h => by cases h) fun _ => sx_next ?_
      · exact decide_eq_false (by have := law_way (one := one) (other := other) (third := third) hu hl hm; omega)
      · exact .keep (.skip (.skip (.skip (.skip (.skip (.skip (.skip (.skip (.skip (.skip (.skip .nil)))))))))))
    · refine sx_next ?_
      exact sx_ret ev_bl ⟨rfl, keeps_dat⟩
end
end K85

namespace K85
open PySem L2 DL
theorem rpl_ints {K : Fg} {B : Hp} : ∀ ns : List Int, RpL K B (ns.map D.int) (ns.map V.int)
  | [] => .nil
  | n :: ns => .cons (rp_int.mpr rfl) (rpl_ints ns)
theorem pre_law (ns : List Int) (h : ns.length ≤ 63) : preLaw [.frl (ns.map .int)] (.bl true) := ⟨ns, h, rfl, rfl⟩
theorem all_mk {l : PySem.W.OpenLaw} {w : World} {K : PySem.W.Frag} {h : Heap} {mg : Str → Option Value} {fa : Addr} (X : K.In h) (G : h.Ns mainGlobals mg) (hfa : mg "law" = some (.ref fa))
    {C_Costs : Addr} {f_Costs__init : Addr} {od_Costs__init an_Costs__init : Option Addr} {sl_Costs__init : Array (Option Value)} {oc_Costs__init kV_Costs__init dc_Costs__init pm_Costs__init cd_Costs__init ct_Costs__init : Value} {f_Costs_steps_from : Addr} {od_Costs_steps_from an_Costs_steps_from : Option Addr} {sl_Costs_steps_from : Array (Option Value)} {oc_Costs_steps_from kV_Costs_steps_from dc_Costs_steps_from pm_Costs_steps_from cd_Costs_steps_from ct_Costs_steps_from : Value} {f_Costs_places : Addr} {od_Costs_places an_Costs_places : Option Addr} {sl_Costs_places : Array (Option Value)} {oc_Costs_places kV_Costs_places dc_Costs_places pm_Costs_places cd_Costs_places ct_Costs_places : Value} {f_Costs_best : Addr} {od_Costs_best an_Costs_best : Option Addr} {sl_Costs_best : Array (Option Value)} {oc_Costs_best kV_Costs_best dc_Costs_best pm_Costs_best cd_Costs_best ct_Costs_best : Value} {f_held : Addr} {od_held an_held : Option Addr} {sl_held : Array (Option Value)} {oc_held dc_held pm_held cd_held ct_held : Value} {D_held : Addr} {tk_held_0 : Tok} {tk_held_1 : Tok} {tk_held_2 : Tok} {f_cost_of : Addr} {od_cost_of an_cost_of : Option Addr} {sl_cost_of : Array (Option Value)} {oc_cost_of kV_cost_of dc_cost_of pm_cost_of cd_cost_of ct_cost_of : Value} {f_is_table : Addr} {od_is_table an_is_table : Option Addr} {sl_is_table : Array (Option Value)} {oc_is_table kV_is_table dc_is_table pm_is_table cd_is_table ct_is_table : Value} {f_held_right : Addr} {od_held_right an_held_right : Option Addr} {sl_held_right : Array (Option Value)} {oc_held_right dc_held_right pm_held_right cd_held_right ct_held_right : Value} {D_held_right : Addr} {tk_held_right_0 : Tok} {tk_held_right_1 : Tok} {tk_held_right_2 : Tok} {f_law_box : Addr} {od_law_box an_law_box : Option Addr} {sl_law_box : Array (Option Value)} {oc_law_box kV_law_box dc_law_box pm_law_box cd_law_box ct_law_box : Value} {f_law_take : Addr} {od_law_take an_law_take : Option Addr} {sl_law_take : Array (Option Value)} {oc_law_take kV_law_take dc_law_take pm_law_take cd_law_take ct_law_take : Value} {f_law_next_row : Addr} {od_law_next_row an_law_next_row : Option Addr} {sl_law_next_row : Array (Option Value)} {oc_law_next_row kV_law_next_row dc_law_next_row pm_law_next_row cd_law_next_row ct_law_next_row : Value} {f_law_cost : Addr} {od_law_cost an_law_cost : Option Addr} {sl_law_cost : Array (Option Value)} {oc_law_cost kV_law_cost dc_law_cost pm_law_cost cd_law_cost ct_law_cost : Value} {f_law_turned_right : Addr} {od_law_turned_right an_law_turned_right : Option Addr} {sl_law_turned_right : Array (Option Value)} {oc_law_turned_right kV_law_turned_right dc_law_turned_right pm_law_turned_right cd_law_turned_right ct_law_turned_right : Value} {f_law_right : Addr} {od_law_right an_law_right : Option Addr} {sl_law_right : Array (Option Value)} {oc_law_right kV_law_right dc_law_right pm_law_right cd_law_right ct_law_right : Value} {f_law : Addr} {od_law an_law : Option Addr} {sl_law : Array (Option Value)} {oc_law kV_law dc_law pm_law cd_law ct_law : Value}
    (aC_Costs : PySem.W.nsIn K mainGlobals "Costs" = some (some (.ref C_Costs)))
    (a_Costs__init : PySem.W.findIn K (.ref C_Costs) "__init__" = some (some (.ref f_Costs__init)))
    (i_Costs__init : PySem.W.isFn K (.ref f_Costs__init) = true)
    (l_Costs__init : K.lookup f_Costs__init = some ⟨oc_Costs__init, od_Costs__init, .func (PySem.W.fnOf "__init__" "Costs.__init__" (defArgs s_Costs__init) (defBody s_Costs__init) (defScope s_Costs__init) .none kV_Costs__init dc_Costs__init pm_Costs__init an_Costs__init cd_Costs__init ct_Costs__init), sl_Costs__init⟩)
    (c_Costs__init : PySem.W.codeIn K cd_Costs__init "Costs.__init__" = true)
    (k_Costs__init : PySem.W.keepIn K (.ref f_Costs__init) = true)
    (a_Costs_steps_from : PySem.W.findIn K (.ref C_Costs) "steps_from" = some (some (.ref f_Costs_steps_from)))
    (i_Costs_steps_from : PySem.W.isFn K (.ref f_Costs_steps_from) = true)
    (l_Costs_steps_from : K.lookup f_Costs_steps_from = some ⟨oc_Costs_steps_from, od_Costs_steps_from, .func (PySem.W.fnOf "steps_from" "Costs.steps_from" (defArgs s_Costs_steps_from) (defBody s_Costs_steps_from) (defScope s_Costs_steps_from) .none kV_Costs_steps_from dc_Costs_steps_from pm_Costs_steps_from an_Costs_steps_from cd_Costs_steps_from ct_Costs_steps_from), sl_Costs_steps_from⟩)
    (c_Costs_steps_from : PySem.W.codeIn K cd_Costs_steps_from "Costs.steps_from" = true)
    (k_Costs_steps_from : PySem.W.keepIn K (.ref f_Costs_steps_from) = true)
    (a_Costs_places : PySem.W.findIn K (.ref C_Costs) "places" = some (some (.ref f_Costs_places)))
    (i_Costs_places : PySem.W.isFn K (.ref f_Costs_places) = true)
    (l_Costs_places : K.lookup f_Costs_places = some ⟨oc_Costs_places, od_Costs_places, .func (PySem.W.fnOf "places" "Costs.places" (defArgs s_Costs_places) (defBody s_Costs_places) (defScope s_Costs_places) .none kV_Costs_places dc_Costs_places pm_Costs_places an_Costs_places cd_Costs_places ct_Costs_places), sl_Costs_places⟩)
    (c_Costs_places : PySem.W.codeIn K cd_Costs_places "Costs.places" = true)
    (k_Costs_places : PySem.W.keepIn K (.ref f_Costs_places) = true)
    (a_Costs_best : PySem.W.findIn K (.ref C_Costs) "best" = some (some (.ref f_Costs_best)))
    (i_Costs_best : PySem.W.isFn K (.ref f_Costs_best) = true)
    (l_Costs_best : K.lookup f_Costs_best = some ⟨oc_Costs_best, od_Costs_best, .func (PySem.W.fnOf "best" "Costs.best" (defArgs s_Costs_best) (defBody s_Costs_best) (defScope s_Costs_best) .none kV_Costs_best dc_Costs_best pm_Costs_best an_Costs_best cd_Costs_best ct_Costs_best), sl_Costs_best⟩)
    (c_Costs_best : PySem.W.codeIn K cd_Costs_best "Costs.best" = true)
    (k_Costs_best : PySem.W.keepIn K (.ref f_Costs_best) = true)
    (a_held : PySem.W.nsIn K mainGlobals "held" = some (some (.ref f_held)))
    (l_held : K.lookup f_held = some ⟨oc_held, od_held, .func (PySem.W.fnOf "held" "held" (defArgs s_held) (defBody s_held) (defScope s_held) .none (.ref D_held) dc_held pm_held an_held cd_held ct_held), sl_held⟩)
    (c_held : PySem.W.codeIn K cd_held "held" = true)
    (k_held : PySem.W.keepIn K (.ref f_held) = true)
    (z_held_0 : PySem.W.nsIn K D_held "unlike" = some (some (.int 1 tk_held_0)))
    (z_held_1 : PySem.W.nsIn K D_held "lack" = some (some (.int 1 tk_held_1)))
    (z_held_2 : PySem.W.nsIn K D_held "more" = some (some (.int 1 tk_held_2)))
    (a_cost_of : PySem.W.nsIn K mainGlobals "cost_of" = some (some (.ref f_cost_of)))
    (l_cost_of : K.lookup f_cost_of = some ⟨oc_cost_of, od_cost_of, .func (PySem.W.fnOf "cost_of" "cost_of" (defArgs s_cost_of) (defBody s_cost_of) (defScope s_cost_of) .none kV_cost_of dc_cost_of pm_cost_of an_cost_of cd_cost_of ct_cost_of), sl_cost_of⟩)
    (c_cost_of : PySem.W.codeIn K cd_cost_of "cost_of" = true)
    (k_cost_of : PySem.W.keepIn K (.ref f_cost_of) = true)
    (a_is_table : PySem.W.nsIn K mainGlobals "is_table" = some (some (.ref f_is_table)))
    (l_is_table : K.lookup f_is_table = some ⟨oc_is_table, od_is_table, .func (PySem.W.fnOf "is_table" "is_table" (defArgs s_is_table) (defBody s_is_table) (defScope s_is_table) .none kV_is_table dc_is_table pm_is_table an_is_table cd_is_table ct_is_table), sl_is_table⟩)
    (c_is_table : PySem.W.codeIn K cd_is_table "is_table" = true)
    (k_is_table : PySem.W.keepIn K (.ref f_is_table) = true)
    (a_held_right : PySem.W.nsIn K mainGlobals "held_right" = some (some (.ref f_held_right)))
    (l_held_right : K.lookup f_held_right = some ⟨oc_held_right, od_held_right, .func (PySem.W.fnOf "held_right" "held_right" (defArgs s_held_right) (defBody s_held_right) (defScope s_held_right) .none (.ref D_held_right) dc_held_right pm_held_right an_held_right cd_held_right ct_held_right), sl_held_right⟩)
    (c_held_right : PySem.W.codeIn K cd_held_right "held_right" = true)
    (k_held_right : PySem.W.keepIn K (.ref f_held_right) = true)
    (z_held_right_0 : PySem.W.nsIn K D_held_right "unlike" = some (some (.int 1 tk_held_right_0)))
    (z_held_right_1 : PySem.W.nsIn K D_held_right "lack" = some (some (.int 1 tk_held_right_1)))
    (z_held_right_2 : PySem.W.nsIn K D_held_right "more" = some (some (.int 1 tk_held_right_2)))
    (a_law_box : PySem.W.nsIn K mainGlobals "_law_box" = some (some (.ref f_law_box)))
    (l_law_box : K.lookup f_law_box = some ⟨oc_law_box, od_law_box, .func (PySem.W.fnOf "_law_box" "_law_box" (defArgs s_law_box) (defBody s_law_box) (defScope s_law_box) .none kV_law_box dc_law_box pm_law_box an_law_box cd_law_box ct_law_box), sl_law_box⟩)
    (c_law_box : PySem.W.codeIn K cd_law_box "_law_box" = true)
    (k_law_box : PySem.W.keepIn K (.ref f_law_box) = true)
    (a_law_take : PySem.W.nsIn K mainGlobals "_law_take" = some (some (.ref f_law_take)))
    (l_law_take : K.lookup f_law_take = some ⟨oc_law_take, od_law_take, .func (PySem.W.fnOf "_law_take" "_law_take" (defArgs s_law_take) (defBody s_law_take) (defScope s_law_take) .none kV_law_take dc_law_take pm_law_take an_law_take cd_law_take ct_law_take), sl_law_take⟩)
    (c_law_take : PySem.W.codeIn K cd_law_take "_law_take" = true)
    (k_law_take : PySem.W.keepIn K (.ref f_law_take) = true)
    (a_law_next_row : PySem.W.nsIn K mainGlobals "_law_next_row" = some (some (.ref f_law_next_row)))
    (l_law_next_row : K.lookup f_law_next_row = some ⟨oc_law_next_row, od_law_next_row, .func (PySem.W.fnOf "_law_next_row" "_law_next_row" (defArgs s_law_next_row) (defBody s_law_next_row) (defScope s_law_next_row) .none kV_law_next_row dc_law_next_row pm_law_next_row an_law_next_row cd_law_next_row ct_law_next_row), sl_law_next_row⟩)
    (c_law_next_row : PySem.W.codeIn K cd_law_next_row "_law_next_row" = true)
    (k_law_next_row : PySem.W.keepIn K (.ref f_law_next_row) = true)
    (a_law_cost : PySem.W.nsIn K mainGlobals "_law_cost" = some (some (.ref f_law_cost)))
    (l_law_cost : K.lookup f_law_cost = some ⟨oc_law_cost, od_law_cost, .func (PySem.W.fnOf "_law_cost" "_law_cost" (defArgs s_law_cost) (defBody s_law_cost) (defScope s_law_cost) .none kV_law_cost dc_law_cost pm_law_cost an_law_cost cd_law_cost ct_law_cost), sl_law_cost⟩)
    (c_law_cost : PySem.W.codeIn K cd_law_cost "_law_cost" = true)
    (k_law_cost : PySem.W.keepIn K (.ref f_law_cost) = true)
    (a_law_turned_right : PySem.W.nsIn K mainGlobals "_law_turned_right" = some (some (.ref f_law_turned_right)))
    (l_law_turned_right : K.lookup f_law_turned_right = some ⟨oc_law_turned_right, od_law_turned_right, .func (PySem.W.fnOf "_law_turned_right" "_law_turned_right" (defArgs s_law_turned_right) (defBody s_law_turned_right) (defScope s_law_turned_right) .none kV_law_turned_right dc_law_turned_right pm_law_turned_right an_law_turned_right cd_law_turned_right ct_law_turned_right), sl_law_turned_right⟩)
    (c_law_turned_right : PySem.W.codeIn K cd_law_turned_right "_law_turned_right" = true)
    (k_law_turned_right : PySem.W.keepIn K (.ref f_law_turned_right) = true)
    (a_law_right : PySem.W.nsIn K mainGlobals "_law_right" = some (some (.ref f_law_right)))
    (l_law_right : K.lookup f_law_right = some ⟨oc_law_right, od_law_right, .func (PySem.W.fnOf "_law_right" "_law_right" (defArgs s_law_right) (defBody s_law_right) (defScope s_law_right) .none kV_law_right dc_law_right pm_law_right an_law_right cd_law_right ct_law_right), sl_law_right⟩)
    (c_law_right : PySem.W.codeIn K cd_law_right "_law_right" = true)
    (k_law_right : PySem.W.keepIn K (.ref f_law_right) = true)
    (a_law : PySem.W.nsIn K mainGlobals "law" = some (some (.ref f_law)))
    (l_law : K.lookup f_law = some ⟨oc_law, od_law, .func (PySem.W.fnOf "law" "law" (defArgs s_law) (defBody s_law) (defScope s_law) .none kV_law dc_law pm_law an_law cd_law ct_law), sl_law⟩)
    (c_law : PySem.W.codeIn K cd_law "law" = true)
    (k_law : PySem.W.keepIn K (.ref f_law) = true)
    (pg_Costs : PySem.W.plainGet K C_Costs Str.empty = true)
    (hd_Costs : PySem.W.hasDictIn K C_Costs = true)
    (po_Costs : PySem.W.plainOver K C_Costs = true)
    (sa_Costs : PySem.W.findIn K (.ref C_Costs) "__setattr__" = some (some (.builtin "object.__setattr__")))
    (mk_Costs : PySem.W.makesIn K C_Costs = true)
    (kc_Costs : PySem.W.keepIn K (.ref C_Costs) = true)
    (n_Costs_one : PySem.W.findIn K (.ref C_Costs) "one" = some none)
    (n_Costs_other : PySem.W.findIn K (.ref C_Costs) "other" = some none)
    (n_Costs_unlike : PySem.W.findIn K (.ref C_Costs) "unlike" = some none)
    (n_Costs_lack : PySem.W.findIn K (.ref C_Costs) "lack" = some none)
    (n_Costs_more : PySem.W.findIn K (.ref C_Costs) "more" = some none)
    (zz_all : PySem.W.nsIn K mainGlobals "all" = some none)
    (zz_any : PySem.W.nsIn K mainGlobals "any" = some none)
    (zz_int : PySem.W.nsIn K mainGlobals "int" = some none)
    (zz_len : PySem.W.nsIn K mainGlobals "len" = some none)
    (zz_max : PySem.W.nsIn K mainGlobals "max" = some none)
    (zz_min : PySem.W.nsIn K mainGlobals "min" = some none)
    (zz_range : PySem.W.nsIn K mainGlobals "range" = some none)
    (zz_reversed : PySem.W.nsIn K mainGlobals "reversed" = some none)
    (zz_tuple : PySem.W.nsIn K mainGlobals "tuple" = some none)
    : ∃ fd : FuncData, (∀ (s : Shared) (v : Value), BindsTo s fd ⟨[v], []⟩ [("_law_script", v)]) ∧ ∀ base : Heap, K.In base → base.Ns mainGlobals mg → FnOk l.prog w K mg base CX0 7 fa fd ["_law_script"] (spP K preLaw) := by
  have e := hfa.symm.trans (PySem.W.mg_of X G a_law)
  cases e
  refine ⟨_, fun s v => .of_eq rfl, fun base _ _ => ok_law {
    C_Costs := C_Costs
    g_Costs := PySem.W.mg_of X G aC_Costs
    f_Costs__init := f_Costs__init
    fd_Costs__init := PySem.W.fnOf "__init__" "Costs.__init__" (defArgs s_Costs__init) (defBody s_Costs__init) (defScope s_Costs__init) .none kV_Costs__init dc_Costs__init pm_Costs__init an_Costs__init cd_Costs__init ct_Costs__init
    F_Costs__init := fun_mk (st := s_Costs__init) l_Costs__init c_Costs__init k_Costs__init
    b_Costs__init := (fun_mk (st := s_Costs__init) l_Costs__init c_Costs__init k_Costs__init).binds (ps := p_Costs__init) fun _ _ _ _ _ _ us hl => match us, hl with | [_, _, _, _, _, _], _ => rfl
    f_Costs_steps_from := f_Costs_steps_from
    fd_Costs_steps_from := PySem.W.fnOf "steps_from" "Costs.steps_from" (defArgs s_Costs_steps_from) (defBody s_Costs_steps_from) (defScope s_Costs_steps_from) .none kV_Costs_steps_from dc_Costs_steps_from pm_Costs_steps_from an_Costs_steps_from cd_Costs_steps_from ct_Costs_steps_from
    F_Costs_steps_from := fun_mk (st := s_Costs_steps_from) l_Costs_steps_from c_Costs_steps_from k_Costs_steps_from
    b_Costs_steps_from := (fun_mk (st := s_Costs_steps_from) l_Costs_steps_from c_Costs_steps_from k_Costs_steps_from).binds (ps := p_Costs_steps_from) fun _ _ _ _ _ _ us hl => match us, hl with | [_, _, _], _ => rfl
    f_Costs_places := f_Costs_places
    fd_Costs_places := PySem.W.fnOf "places" "Costs.places" (defArgs s_Costs_places) (defBody s_Costs_places) (defScope s_Costs_places) .none kV_Costs_places dc_Costs_places pm_Costs_places an_Costs_places cd_Costs_places ct_Costs_places
    F_Costs_places := fun_mk (st := s_Costs_places) l_Costs_places c_Costs_places k_Costs_places
    b_Costs_places := (fun_mk (st := s_Costs_places) l_Costs_places c_Costs_places k_Costs_places).binds (ps := p_Costs_places) fun _ _ _ _ _ _ us hl => match us, hl with | [_], _ => rfl
    f_Costs_best := f_Costs_best
    fd_Costs_best := PySem.W.fnOf "best" "Costs.best" (defArgs s_Costs_best) (defBody s_Costs_best) (defScope s_Costs_best) .none kV_Costs_best dc_Costs_best pm_Costs_best an_Costs_best cd_Costs_best ct_Costs_best
    F_Costs_best := fun_mk (st := s_Costs_best) l_Costs_best c_Costs_best k_Costs_best
    b_Costs_best := (fun_mk (st := s_Costs_best) l_Costs_best c_Costs_best k_Costs_best).binds (ps := p_Costs_best) fun _ _ _ _ _ _ us hl => match us, hl with | [_], _ => rfl
    f_held := f_held
    g_held := PySem.W.mg_of X G a_held
    fd_held := PySem.W.fnOf "held" "held" (defArgs s_held) (defBody s_held) (defScope s_held) .none (.ref D_held) dc_held pm_held an_held cd_held ct_held
    F_held := ⟨⟨_, _, _, _, _, _, _, _, _, _, rfl, l_held, c_held, .inl ⟨rfl, rfl⟩, .inr ⟨D_held, rfl, List.forall_mem_cons.mpr ⟨⟨_, z_held_0, ⟨_, rfl⟩⟩, List.forall_mem_cons.mpr ⟨⟨_, z_held_1, ⟨_, rfl⟩⟩, List.forall_mem_cons.mpr ⟨⟨_, z_held_2, ⟨_, rfl⟩⟩, fun q hq => nomatch hq⟩⟩⟩⟩⟩, k_held⟩
    f_cost_of := f_cost_of
    g_cost_of := PySem.W.mg_of X G a_cost_of
    fd_cost_of := PySem.W.fnOf "cost_of" "cost_of" (defArgs s_cost_of) (defBody s_cost_of) (defScope s_cost_of) .none kV_cost_of dc_cost_of pm_cost_of an_cost_of cd_cost_of ct_cost_of
    F_cost_of := fun_mk (st := s_cost_of) l_cost_of c_cost_of k_cost_of
    b_cost_of := (fun_mk (st := s_cost_of) l_cost_of c_cost_of k_cost_of).binds (ps := p_cost_of) fun _ _ _ _ _ _ us hl => match us, hl with | [_, _], _ => rfl
    f_is_table := f_is_table
    g_is_table := PySem.W.mg_of X G a_is_table
    fd_is_table := PySem.W.fnOf "is_table" "is_table" (defArgs s_is_table) (defBody s_is_table) (defScope s_is_table) .none kV_is_table dc_is_table pm_is_table an_is_table cd_is_table ct_is_table
    F_is_table := fun_mk (st := s_is_table) l_is_table c_is_table k_is_table
    b_is_table := (fun_mk (st := s_is_table) l_is_table c_is_table k_is_table).binds (ps := p_is_table) fun _ _ _ _ _ _ us hl => match us, hl with | [_, _, _], _ => rfl
    f_held_right := f_held_right
    g_held_right := PySem.W.mg_of X G a_held_right
    fd_held_right := PySem.W.fnOf "held_right" "held_right" (defArgs s_held_right) (defBody s_held_right) (defScope s_held_right) .none (.ref D_held_right) dc_held_right pm_held_right an_held_right cd_held_right ct_held_right
    F_held_right := ⟨⟨_, _, _, _, _, _, _, _, _, _, rfl, l_held_right, c_held_right, .inl ⟨rfl, rfl⟩, .inr ⟨D_held_right, rfl, List.forall_mem_cons.mpr ⟨⟨_, z_held_right_0, ⟨_, rfl⟩⟩, List.forall_mem_cons.mpr ⟨⟨_, z_held_right_1, ⟨_, rfl⟩⟩, List.forall_mem_cons.mpr ⟨⟨_, z_held_right_2, ⟨_, rfl⟩⟩, fun q hq => nomatch hq⟩⟩⟩⟩⟩, k_held_right⟩
    f_law_box := f_law_box
    g__law_box := PySem.W.mg_of X G a_law_box
    fd_law_box := PySem.W.fnOf "_law_box" "_law_box" (defArgs s_law_box) (defBody s_law_box) (defScope s_law_box) .none kV_law_box dc_law_box pm_law_box an_law_box cd_law_box ct_law_box
    F_law_box := fun_mk (st := s_law_box) l_law_box c_law_box k_law_box
    b_law_box := (fun_mk (st := s_law_box) l_law_box c_law_box k_law_box).binds (ps := p_law_box) fun _ _ _ _ _ _ us hl => match us, hl with | [_, _], _ => rfl
    f_law_take := f_law_take
    g__law_take := PySem.W.mg_of X G a_law_take
    fd_law_take := PySem.W.fnOf "_law_take" "_law_take" (defArgs s_law_take) (defBody s_law_take) (defScope s_law_take) .none kV_law_take dc_law_take pm_law_take an_law_take cd_law_take ct_law_take
    F_law_take := fun_mk (st := s_law_take) l_law_take c_law_take k_law_take
    b_law_take := (fun_mk (st := s_law_take) l_law_take c_law_take k_law_take).binds (ps := p_law_take) fun _ _ _ _ _ _ us hl => match us, hl with | [_, _], _ => rfl
    f_law_next_row := f_law_next_row
    g__law_next_row := PySem.W.mg_of X G a_law_next_row
    fd_law_next_row := PySem.W.fnOf "_law_next_row" "_law_next_row" (defArgs s_law_next_row) (defBody s_law_next_row) (defScope s_law_next_row) .none kV_law_next_row dc_law_next_row pm_law_next_row an_law_next_row cd_law_next_row ct_law_next_row
    F_law_next_row := fun_mk (st := s_law_next_row) l_law_next_row c_law_next_row k_law_next_row
    b_law_next_row := (fun_mk (st := s_law_next_row) l_law_next_row c_law_next_row k_law_next_row).binds (ps := p_law_next_row) fun _ _ _ _ _ _ us hl => match us, hl with | [_, _, _], _ => rfl
    f_law_cost := f_law_cost
    g__law_cost := PySem.W.mg_of X G a_law_cost
    fd_law_cost := PySem.W.fnOf "_law_cost" "_law_cost" (defArgs s_law_cost) (defBody s_law_cost) (defScope s_law_cost) .none kV_law_cost dc_law_cost pm_law_cost an_law_cost cd_law_cost ct_law_cost
    F_law_cost := fun_mk (st := s_law_cost) l_law_cost c_law_cost k_law_cost
    b_law_cost := (fun_mk (st := s_law_cost) l_law_cost c_law_cost k_law_cost).binds (ps := p_law_cost) fun _ _ _ _ _ _ us hl => match us, hl with | [_, _, _], _ => rfl
    f_law_turned_right := f_law_turned_right
    g__law_turned_right := PySem.W.mg_of X G a_law_turned_right
    fd_law_turned_right := PySem.W.fnOf "_law_turned_right" "_law_turned_right" (defArgs s_law_turned_right) (defBody s_law_turned_right) (defScope s_law_turned_right) .none kV_law_turned_right dc_law_turned_right pm_law_turned_right an_law_turned_right cd_law_turned_right ct_law_turned_right
    F_law_turned_right := fun_mk (st := s_law_turned_right) l_law_turned_right c_law_turned_right k_law_turned_right
    b_law_turned_right := (fun_mk (st := s_law_turned_right) l_law_turned_right c_law_turned_right k_law_turned_right).binds (ps := p_law_turned_right) fun _ _ _ _ _ _ us hl => match us, hl with | [_, _, _], _ => rfl
    f_law_right := f_law_right
    g__law_right := PySem.W.mg_of X G a_law_right
    fd_law_right := PySem.W.fnOf "_law_right" "_law_right" (defArgs s_law_right) (defBody s_law_right) (defScope s_law_right) .none kV_law_right dc_law_right pm_law_right an_law_right cd_law_right ct_law_right
    F_law_right := fun_mk (st := s_law_right) l_law_right c_law_right k_law_right
    b_law_right := (fun_mk (st := s_law_right) l_law_right c_law_right k_law_right).binds (ps := p_law_right) fun _ _ _ _ _ _ us hl => match us, hl with | [_, _, _, _], _ => rfl
    f_law := _
    g_law := PySem.W.mg_of X G a_law
    fd_law := PySem.W.fnOf "law" "law" (defArgs s_law) (defBody s_law) (defScope s_law) .none kV_law dc_law pm_law an_law cd_law ct_law
    F_law := fun_mk (st := s_law) l_law c_law k_law
    b_law := (fun_mk (st := s_law) l_law c_law k_law).binds (ps := p_law) fun _ _ _ _ _ _ us hl => match us, hl with | [_], _ => rfl
    k_held_2_unlike_lack_more := ⟨fun s us ws _ h1 h2 => match us, h1, ws, h2 with | [_, _], _, [_, _, _], _ => .of_eq rfl, fun r1 r2 => r1.append r2⟩
    k_held_right_3_unlike_lack_more := ⟨fun s us ws _ h1 h2 => match us, h1, ws, h2 with | [_, _, _], _, [_, _, _], _ => .of_eq rfl, fun r1 r2 => r1.append r2⟩
    c_Costs := ⟨pg_Costs, hd_Costs, po_Costs, sa_Costs⟩
    M_Costs := ⟨mk_Costs, a_Costs__init, i_Costs__init, kc_Costs⟩
    m_Costs_steps_from := ⟨a_Costs_steps_from, i_Costs_steps_from, k_Costs_steps_from⟩
    m_Costs_places := ⟨a_Costs_places, i_Costs_places, k_Costs_places⟩
    m_Costs_best := ⟨a_Costs_best, i_Costs_best, k_Costs_best⟩
    a_Costs_one := n_Costs_one
    a_Costs_other := n_Costs_other
    a_Costs_unlike := n_Costs_unlike
    a_Costs_lack := n_Costs_lack
    a_Costs_more := n_Costs_more
    n_all := PySem.W.mg_none_of X G zz_all
    n_any := PySem.W.mg_none_of X G zz_any
    n_int := PySem.W.mg_none_of X G zz_int
    n_len := PySem.W.mg_none_of X G zz_len
    n_max := PySem.W.mg_none_of X G zz_max
    n_min := PySem.W.mg_none_of X G zz_min
    n_range := PySem.W.mg_none_of X G zz_range
    n_reversed := PySem.W.mg_none_of X G zz_reversed
    n_tuple := PySem.W.mg_none_of X G zz_tuple }⟩
theorem walk {l : PySem.W.OpenLaw} {q : Program} {loose : List Str} {XP : (Str → Option Value) → Heap → Prop} {YP : World → Heap → Prop} {d : DefRec} {K : Params → PySem.W.Frag} (hn : l.most = some 63) (hdf : d.params.defaults = [])
    (hY : ∀ (w : World) (h : Heap), YP w h → (K w.params).In h)
    (F : ∀ (w : World) (mg : Str → Option Value) (fa : Addr) (h : Heap), (K w.params).In h → h.Ns mainGlobals mg → mg d.name = some (.ref fa) →
      ∃ fd : FuncData, (∀ (s : Shared) (u : Value), BindsTo s fd ⟨[u], []⟩ [("_law_script", u)]) ∧ ∀ base : Heap, (K w.params).In base → base.Ns mainGlobals mg → FnOk l.prog w (K w.params) mg base CX0 7 fa fd ["_law_script"] (spP (K w.params) preLaw)) :
    PySem.W.WalkO q loose XP YP l.row.toRowW d [] (fun f vs => PySem.call f vs) :=
  L2.walk_of (n := 63) (k := 7) (x := "_law_script") (CX := fun _ => CX0) (sp := fun w => spP (K w.params) preLaw) hn (by decide) hdf ⟨by decide, by decide, by decide⟩ hY F (fun w H a ns hl _ hS => spP_of (B := H) (Same.refl _) (.cons (rp_frl.mpr ⟨a, ns.map V.int, rfl, hS, rpl_ints ns⟩) .nil) (d := .bl true) (pre_law ns hl) fun v _ _ _ r => rp_bl.mp r) fun _ _ _ _ _ z => z
end K85
open PySem PySem.W PyProof.Rows in
set_option maxRecDepth 100000 in
set_option maxHeartbeats 0 in
theorem PySem.Challenge.cw_wirelooker_k85_whole_costs_of_rows_holds : PySem.Challenge.rw_wirelooker_k85_whole_costs_of_rows.Holds := by
  w_on; o_law; k_head; (case hw => w_witness2)
  k_fill
  refine K85.walk (l := PySem.Challenge.rw_wirelooker_k85_whole_costs_of_rows) rfl rfl (fun w h Y => PySem.W.kIn_of Y) ?F
  case F =>
    intro w mg fa h KX G hmg
    refine' K85.all_mk KX G hmg ?aC_Costs ?a_Costs__init ?i_Costs__init ?l_Costs__init ?c_Costs__init ?k_Costs__init ?a_Costs_steps_from ?i_Costs_steps_from ?l_Costs_steps_from ?c_Costs_steps_from ?k_Costs_steps_from ?a_Costs_places ?i_Costs_places ?l_Costs_places ?c_Costs_places ?k_Costs_places ?a_Costs_best ?i_Costs_best ?l_Costs_best ?c_Costs_best ?k_Costs_best ?a_held ?l_held ?c_held ?k_held ?z_held_0 ?z_held_1 ?z_held_2 ?a_cost_of ?l_cost_of ?c_cost_of ?k_cost_of ?a_is_table ?l_is_table ?c_is_table ?k_is_table ?a_held_right ?l_held_right ?c_held_right ?k_held_right ?z_held_right_0 ?z_held_right_1 ?z_held_right_2 ?a_law_box ?l_law_box ?c_law_box ?k_law_box ?a_law_take ?l_law_take ?c_law_take ?k_law_take ?a_law_next_row ?l_law_next_row ?c_law_next_row ?k_law_next_row ?a_law_cost ?l_law_cost ?c_law_cost ?k_law_cost ?a_law_turned_right ?l_law_turned_right ?c_law_turned_right ?k_law_turned_right ?a_law_right ?l_law_right ?c_law_right ?k_law_right ?a_law ?l_law ?c_law ?k_law ?pg_Costs ?hd_Costs ?po_Costs ?sa_Costs ?mk_Costs ?kc_Costs ?n_Costs_one ?n_Costs_other ?n_Costs_unlike ?n_Costs_lack ?n_Costs_more ?zz_all ?zz_any ?zz_int ?zz_len ?zz_max ?zz_min ?zz_range ?zz_reversed ?zz_tuple
    (case aC_Costs => k_is)
    (case a_Costs__init => k_is)
    (case i_Costs__init => k_is)
    (case l_Costs__init => k_is)
    (case c_Costs__init => k_is)
    (case k_Costs__init => k_is)
    (case a_Costs_steps_from => k_is)
    (case i_Costs_steps_from => k_is)
    (case l_Costs_steps_from => k_is)
    (case c_Costs_steps_from => k_is)
    (case k_Costs_steps_from => k_is)
    (case a_Costs_places => k_is)
    (case i_Costs_places => k_is)
    (case l_Costs_places => k_is)
    (case c_Costs_places => k_is)
    (case k_Costs_places => k_is)
    (case a_Costs_best => k_is)
    (case i_Costs_best => k_is)
    (case l_Costs_best => k_is)
    (case c_Costs_best => k_is)
    (case k_Costs_best => k_is)
    (case a_held => k_is)
    (case l_held => k_is)
    (case c_held => k_is)
    (case k_held => k_is)
    (case z_held_0 => k_is)
    (case z_held_1 => k_is)
    (case z_held_2 => k_is)
    (case a_cost_of => k_is)
    (case l_cost_of => k_is)
    (case c_cost_of => k_is)
    (case k_cost_of => k_is)
    (case a_is_table => k_is)
    (case l_is_table => k_is)
    (case c_is_table => k_is)
    (case k_is_table => k_is)
    (case a_held_right => k_is)
    (case l_held_right => k_is)
    (case c_held_right => k_is)
    (case k_held_right => k_is)
    (case z_held_right_0 => k_is)
    (case z_held_right_1 => k_is)
    (case z_held_right_2 => k_is)
    (case a_law_box => k_is)
    (case l_law_box => k_is)
    (case c_law_box => k_is)
    (case k_law_box => k_is)
    (case a_law_take => k_is)
    (case l_law_take => k_is)
    (case c_law_take => k_is)
    (case k_law_take => k_is)
    (case a_law_next_row => k_is)
    (case l_law_next_row => k_is)
    (case c_law_next_row => k_is)
    (case k_law_next_row => k_is)
    (case a_law_cost => k_is)
    (case l_law_cost => k_is)
    (case c_law_cost => k_is)
    (case k_law_cost => k_is)
    (case a_law_turned_right => k_is)
    (case l_law_turned_right => k_is)
    (case c_law_turned_right => k_is)
    (case k_law_turned_right => k_is)
    (case a_law_right => k_is)
    (case l_law_right => k_is)
    (case c_law_right => k_is)
    (case k_law_right => k_is)
    (case a_law => k_is)
    (case l_law => k_is)
    (case c_law => k_is)
    (case k_law => k_is)
    (case pg_Costs => k_is)
    (case hd_Costs => k_is)
    (case po_Costs => k_is)
    (case sa_Costs => k_is)
    (case mk_Costs => k_is)
    (case kc_Costs => k_is)
    (case n_Costs_one => k_is)
    (case n_Costs_other => k_is)
    (case n_Costs_unlike => k_is)
    (case n_Costs_lack => k_is)
    (case n_Costs_more => k_is)
    (case zz_all => k_is)
    (case zz_any => k_is)
    (case zz_int => k_is)
    (case zz_len => k_is)
    (case zz_max => k_is)
    (case zz_min => k_is)
    (case zz_range => k_is)
    (case zz_reversed => k_is)
    (case zz_tuple => k_is)

