import PyProof.Rows.All
import Wide.All
import OpenK.AllK
import Wide.FinOn
import HandS.ForMost
import HandS.Exc
import HandS.TryOnly
import HandS.ExcOwn
import HandS.WordsExc
import HandS.IsInst
import HandS.Wide
import HandS.Star
import HandS.TupAny
import HandS.FStr
import HandS.Zip
import HandS.TupMul
import KE.DataIsa
import KE.DataEq
import KE.GoesNew
import HandS.RaiseMore
import HandS.Style
import HandS.Dict
import HandS.Ends
import HandS.Conv
import HandS.SortInts
import KE.DataMinMax
import HandS.Small
import PySem.Challenge.RW_slipturns_k11_settlements_judged
set_option Elab.async false
set_option linter.all false
set_option maxRecDepth 100000
set_option maxHeartbeats 4000000
/-! Dl1: data over the hand layer. Values as plain data D, the heap hidden. -/
namespace Dl
open PySem PySem.Spec PyProof.Rows L2

/-- the law's box, from which it draws: the object that is handed on (k: a list, not a dict), all of its objects, what is true of them -/
structure Bx where
  b : Addr
  k : Bool
  own : List Addr
  inv : Hp → Prop
  mem : b ∈ own
  loc : ∀ H H' : Hp, (∀ a ∈ own, H' a = H a) → inv H → inv H'
  has : ∀ H : Hp, inv H → ∀ a ∈ own, ∃ o, H a = some o
  ty : ∀ H : Hp, inv H → if k = true then ∃ xs, H b = some (.lst xs) else ∃ kvs, H b = some (.dK kvs)
/-- plain data -/
inductive D where
  | non | bl (b : Bool) | it (i : Int) | st (s : Str) | tp (xs : List D) | ls (xs : List D) | dc (kvs : List (Key × D)) | bx (k : Bool) (P : Bx → Prop)
/-- what is frozen, and the box -/
structure Sta where
  bx : Option Bx
  F : Hp
mutual
inductive Rp (t : Option Bx) (F : Hp) : V → D → Prop where
  | non : Rp t F .non .non
  | bl (b : Bool) : Rp t F (.bl b) (.bl b)
  | it (i : Int) : Rp t F (.int i) (.it i)
  | st (s : Str) : Rp t F (.str s) (.st s)
  | tp {a : Addr} {vs : List V} {ds : List D} : F a = some (.tup vs) → RpL t F vs ds → Rp t F (.ref a) (.tp ds)
  | ls {a : Addr} {vs : List V} {ds : List D} : F a = some (.lst vs) → RpL t F vs ds → Rp t F (.ref a) (.ls ds)
  | dc {a : Addr} {vs : List (Key × V)} {ds : List (Key × D)} : F a = some (.dK vs) → RpK t F vs ds → Rp t F (.ref a) (.dc ds)
  | bx {x : Bx} {P : Bx → Prop} : t = some x → P x → Rp t F (.ref x.b) (.bx x.k P)
inductive RpL (t : Option Bx) (F : Hp) : List V → List D → Prop where
  | nil : RpL t F [] []
  | cons {v : V} {d : D} {vs : List V} {ds : List D} : Rp t F v d → RpL t F vs ds → RpL t F (v :: vs) (d :: ds)
inductive RpK (t : Option Bx) (F : Hp) : List (Key × V) → List (Key × D) → Prop where
  | nil : RpK t F [] []
  | cons {k : Key} {v : V} {d : D} {vs : List (Key × V)} {ds : List (Key × D)} : Rp t F v d → RpK t F vs ds → RpK t F ((k, v) :: vs) ((k, d) :: ds)
end
/-- what is known more -/
structure Le (t : Option Bx) (F : Hp) (t' : Option Bx) (F' : Hp) : Prop where
  f : ∀ a o, F a = some o → F' a = some o
  t : ∀ x, t = some x → t' = some x
mutual
theorem Rp.le {t t' : Option Bx} {F F' : Hp} (m : Le t F t' F') : ∀ {v : V} {d : D}, Rp t F v d → Rp t' F' v d
  | _, _, .non => .non
  | _, _, .bl b => .bl b
  | _, _, .it i => .it i
  | _, _, .st s => .st s
  | _, _, .tp e r => .tp (m.f _ _ e) (RpL.le m r)
  | _, _, .ls e r => .ls (m.f _ _ e) (RpL.le m r)
  | _, _, .dc e r => .dc (m.f _ _ e) (RpK.le m r)
  | _, _, .bx e p => .bx (m.t _ e) p
theorem RpL.le {t t' : Option Bx} {F F' : Hp} (m : Le t F t' F') : ∀ {vs : List V} {ds : List D}, RpL t F vs ds → RpL t' F' vs ds
  | _, _, .nil => .nil
  | _, _, .cons r s => .cons (Rp.le m r) (RpL.le m s)
theorem RpK.le {t t' : Option Bx} {F F' : Hp} (m : Le t F t' F') : ∀ {vs : List (Key × V)} {ds : List (Key × D)}, RpK t F vs ds → RpK t' F' vs ds
  | _, _, .nil => .nil
  | _, _, .cons r s => .cons (Rp.le m r) (RpK.le m s)
end
section
variable {t : Option Bx} {F : Hp}
theorem RpL.length : ∀ {vs : List V} {ds : List D}, RpL t F vs ds → vs.length = ds.length
  | _, _, .nil => rfl
  | _, _, .cons _ s => by rw [List.length_cons, List.length_cons, s.length]
theorem RpL.get : ∀ {vs : List V} {ds : List D} {i : Nat} {v : V}, RpL t F vs ds → vs[i]? = some v → ∃ d, ds[i]? = some d ∧ Rp t F v d
  | _, _, _, _, .nil, e => by simp at e
  | _, _, 0, _, .cons r _, e => by simp at e; subst e; exact ⟨_, rfl, r⟩
  | _, _, i + 1, v, .cons _ s, e => by
    obtain ⟨d, h1, h2⟩ := RpL.get (i := i) (v := v) s (by simpa using e)
    exact ⟨d, by simpa using h1, h2⟩
theorem RpL.getD : ∀ {vs : List V} {ds : List D} {i : Nat} {d : D}, RpL t F vs ds → ds[i]? = some d → ∃ v, vs[i]? = some v ∧ Rp t F v d
  | _, _, _, _, .nil, e => by simp at e
  | _, _, 0, _, .cons r _, e => by simp at e; subst e; exact ⟨_, rfl, r⟩
  | _, _, i + 1, v, .cons _ s, e => by
    obtain ⟨d, h1, h2⟩ := RpL.getD (i := i) (d := v) s (by simpa using e)
    exact ⟨d, by simpa using h1, h2⟩
theorem RpL.app : ∀ {vs ws : List V} {ds es : List D}, RpL t F vs ds → RpL t F ws es → RpL t F (vs ++ ws) (ds ++ es)
  | _, _, _, _, .nil, h => h
  | _, _, _, _, .cons r s, h => .cons r (RpL.app s h)
theorem RpL.take : ∀ {vs : List V} {ds : List D} (n : Nat), RpL t F vs ds → RpL t F (vs.take n) (ds.take n)
  | _, _, 0, _ => .nil
  | _, _, _ + 1, .nil => .nil
  | _, _, n + 1, .cons r s => .cons r (RpL.take n s)
theorem RpL.drop : ∀ {vs : List V} {ds : List D} (n : Nat), RpL t F vs ds → RpL t F (vs.drop n) (ds.drop n)
  | _, _, 0, r => r
  | _, _, _ + 1, .nil => .nil
  | _, _, n + 1, .cons _ s => RpL.drop n s
theorem RpL.set {v : V} {d : D} (r : Rp t F v d) : ∀ {vs : List V} {ds : List D} (i : Nat), RpL t F vs ds → RpL t F (vs.set i v) (ds.set i d)
  | _, _, _, .nil => .nil
  | _, _, 0, .cons _ s => .cons r s
  | _, _, i + 1, .cons q s => .cons q (RpL.set r i s)
theorem RpL.one {v : V} {d : D} (r : Rp t F v d) : RpL t F [v] [d] := .cons r .nil
theorem RpL.ints : ∀ (ns : List Int), RpL t F (ns.map V.int) (ns.map D.it)
  | [] => .nil
  | n :: r => .cons (.it n) (RpL.ints r)
end

/-- the box's own addresses -/
def InB (t : Option Bx) (a : Addr) : Prop := ∃ x, t = some x ∧ a ∈ x.own
structure Good (S : Sta) (H : Hp) : Prop where
  fz : ∀ a o, S.F a = some o → H a = some o
  bx : ∀ x, S.bx = some x → x.inv H
  nb : ∀ a, InB S.bx a → S.F a = none
theorem Good.box {S : Sta} {H : Hp} (g : Good S H) {a : Addr} (h : InB S.bx a) : ∃ o, H a = some o := by
  obtain ⟨x, e, h⟩ := h
  exact x.has H (g.bx x e) a h
/-- from one state to a later one: what stood stands, but the box's own -/
structure Stp (S : Sta) (H : Hp) (S' : Sta) (H' : Hp) : Prop where
  ext : ∀ a o, S.F a = some o → S'.F a = some o
  new : ∀ a o, S'.F a = some o → S.F a = some o ∨ H a = none
  box : S'.bx = S.bx
  keep : ∀ a o, H a = some o → ¬ InB S.bx a → H' a = some o
theorem Stp.refl (S : Sta) (H : Hp) : Stp S H S H := ⟨fun _ _ h => h, fun _ _ h => .inl h, rfl, fun _ _ h _ => h⟩
theorem Stp.le {S S' : Sta} {H H' : Hp} (p : Stp S H S' H') : Le S.bx S.F S'.bx S'.F := ⟨p.ext, fun x e => by rw [p.box]; exact e⟩
theorem none_of_keep {H : Hp} {a : Addr} (h : ∀ o, H a = some o → False) : H a = none := by
  cases e : H a with
  | none => rfl
  | some o => exact (h o e).elim
theorem Stp.free {S S' : Sta} {H H' : Hp} (p : Stp S H S' H') (g : Good S' H') {a : Addr} (h : H' a = none) : H a = none := none_of_keep fun o e => by
  by_cases b : InB S.bx a
  · obtain ⟨x, ex, _⟩ := id b
    have : S'.bx = S.bx := p.box
    obtain ⟨o', e'⟩ := g.box (a := a) (by rw [this]; exact b)
    rw [h] at e'; cases e'
  · rw [p.keep a o e b] at h; cases h
theorem Stp.inB {S S' : Sta} {H H' : Hp} (p : Stp S H S' H') {a : Addr} (h : InB S'.bx a) : InB S.bx a ∨ H a = none := .inl (by rw [p.box] at h; exact h)
theorem Stp.inB' {S S' : Sta} {H H' : Hp} (p : Stp S H S' H') {a : Addr} (h : InB S.bx a) : InB S'.bx a := by
  obtain ⟨x, e, h⟩ := h
  exact ⟨x, p.le.t x e, h⟩
theorem Stp.trans {S S1 S2 : Sta} {H H1 H2 : Hp} (p : Stp S H S1 H1) (g : Good S1 H1) (q : Stp S1 H1 S2 H2) : Stp S H S2 H2 where
  ext := fun a o h => q.ext a o (p.ext a o h)
  new := fun a o h => by
    rcases q.new a o h with h | h
    · exact p.new a o h
    · exact .inr (p.free g h)
  box := q.box.trans p.box
  keep := fun a o h b => q.keep a o (p.keep a o h b) fun z => by
    rcases p.inB z with z | z
    · exact b z
    · rw [h] at z; cases z
/-- a new object that is frozen at once -/
theorem step_new {S : Sta} {H : Hp} (g : Good S H) {p : Addr} {o : HO} (h : H p = none) :
    Stp S H ⟨S.bx, upd S.F p o⟩ (upd H p o) ∧ Good ⟨S.bx, upd S.F p o⟩ (upd H p o) := by
  have nf : ∀ a o, S.F a = some o → a ≠ p := fun a o e z => by
    have := g.fz a o e
    rw [z, h] at this; cases this
  have nb : ∀ a, InB S.bx a → a ≠ p := fun a e z => by
    obtain ⟨o, q⟩ := g.box e
    rw [z, h] at q; cases q
  refine ⟨⟨fun a u e => (by show upd S.F p o a = some u; rw [upd_ne (nf a u e)]; exact e), fun a u e => ?_, rfl, fun a u e _ => by rw [upd_ne (ne_of_none e h)]; exact e⟩, ⟨fun a u e => ?_, fun x e => ?_, fun a e => ?_⟩⟩
  · by_cases z : a = p
    · rw [z]; exact .inr h
    · have e' : upd S.F p o a = some u := e
      rw [upd_ne z] at e'
      exact .inl e'
  · by_cases z : a = p
    · subst z
      have e' : upd S.F a o a = some u := e
      rw [upd_same] at e' ⊢; exact e'
    · have e' : upd S.F p o a = some u := e
      rw [upd_ne z] at e' ⊢
      exact g.fz a u e'
  · exact x.loc H _ (fun a ha => upd_ne (nb a ⟨x, e, ha⟩)) (g.bx x e)
  · show upd S.F p o a = none
    rw [upd_ne (nb a e)]
    exact g.nb a e
/-- a new object that is not frozen yet -/
theorem step_own {S : Sta} {H : Hp} (g : Good S H) {p : Addr} {o : HO} (h : H p = none) : Stp S H S (upd H p o) ∧ Good S (upd H p o) := by
  have nb : ∀ a, InB S.bx a → a ≠ p := fun a e z => by
    obtain ⟨o, q⟩ := g.box e
    rw [z, h] at q; cases q
  refine ⟨⟨fun a u e => e, fun a u e => .inl e, rfl, fun a u e _ => by rw [upd_ne (ne_of_none e h)]; exact e⟩, ⟨fun a u e => by rw [upd_ne (ne_of_none (g.fz a u e) h)]; exact g.fz a u e, fun x e => ?_, g.nb⟩⟩
  exact x.loc H _ (fun a ha => upd_ne (nb a ⟨x, e, ha⟩)) (g.bx x e)
/-- an object of one's own changes -/
theorem good_mut {S : Sta} {H : Hp} (g : Good S H) {p : Addr} {o : HO} (hf : S.F p = none) (hb : ¬ InB S.bx p) : Good S (upd H p o) := by
  refine ⟨fun a u e => ?_, fun x e => ?_, g.nb⟩
  · have : a ≠ p := fun z => by rw [z, hf] at e; cases e
    rw [upd_ne this]; exact g.fz a u e
  · exact x.loc H _ (fun a ha => upd_ne fun z => hb ⟨x, e, by rw [← z]; exact ha⟩) (g.bx x e)
/-- what was one's own is frozen -/
theorem good_frz {S : Sta} {H : Hp} (g : Good S H) {p : Addr} {o : HO} (h : H p = some o) (hb : ¬ InB S.bx p) : Good ⟨S.bx, upd S.F p o⟩ H := by
  refine ⟨fun a u e => ?_, g.bx, fun a e => ?_⟩
  · by_cases z : a = p
    · subst z
      have e' : upd S.F a o a = some u := e
      rw [upd_same] at e'; cases e'; exact h
    · have e' : upd S.F p o a = some u := e
      rw [upd_ne z] at e'
      exact g.fz a u e'
  · have : a ≠ p := fun z => hb (by rw [← z]; exact e)
    show upd S.F p o a = none
    rw [upd_ne this]; exact g.nb a e

/-! ### slots -/
/-- a slot: not told; a value; a list of one's own that may still change -/
inductive Sl where
  | no | v (d : D) | own (ds : List D)
def SlOk (Z : Hp) (S : Sta) (H : Hp) (s : Option (Option V)) : Sl → Prop
  | .no => True
  | .v d => ∃ x, s = some (some x) ∧ Rp S.bx S.F x d
  | .own ds => ∃ a vs, s = some (some (.ref a)) ∧ H a = some (.lst vs) ∧ S.F a = none ∧ ¬ InB S.bx a ∧ Z a = none ∧ RpL S.bx S.F vs ds
abbrev Env' := List Sl
structure Rel (Z : Hp) (S : Sta) (H : Hp) (σ : L2.St) (env : Env') : Prop where
  len : σ.length = env.length
  at_ : ∀ (i : Nat) (s : Sl), env[i]? = some s → SlOk Z S H (σ[i]?) s
  sep : ∀ (i j : Nat) (xs ys : List D) (a : Addr), i ≠ j → env[i]? = some (.own xs) → env[j]? = some (.own ys) → σ[i]? = some (some (.ref a)) → σ[j]? ≠ some (some (.ref a))
theorem Rel.step {Z : Hp} {S S' : Sta} {H H' : Hp} {σ : L2.St} {env : Env'} (r : Rel Z S H σ env) (p : Stp S H S' H') : Rel Z S' H' σ env where
  len := r.len
  at_ := fun i s e => by
    have q := r.at_ i s e
    cases s with
    | no => trivial
    | v d => obtain ⟨x, h1, h2⟩ := q; exact ⟨x, h1, h2.le p.le⟩
    | own ds =>
      obtain ⟨a, vs, h1, h2, h3, h4, h5, h6⟩ := q
      refine ⟨a, vs, h1, p.keep a _ h2 h4, ?_, ?_, h5, h6.le p.le⟩
      · exact none_of_keep fun o e => by
          rcases p.new a o e with z | z
          · rw [h3] at z; cases z
          · rw [h2] at z; cases z
      · intro z
        rcases p.inB z with z | z
        · exact h4 z
        · rw [h2] at z; cases z
  sep := r.sep
/-- a slot gets a value -/
theorem Rel.put {Z : Hp} {S : Sta} {H : Hp} {σ : L2.St} {env : Env'} (r : Rel Z S H σ env) {i : Nat} {x : V} {d : D} (h : Rp S.bx S.F x d) : Rel Z S H (σ.set i (some x)) (env.set i (.v d)) where
  len := by rw [List.length_set, List.length_set]; exact r.len
  at_ := fun j s e => by
    by_cases hj : j = i
    · subst hj
      have hl : j < env.length := by
        have := (List.getElem?_eq_some_iff.mp e).1
        rwa [List.length_set] at this
      rw [List.getElem?_set_self hl] at e
      cases e
      exact ⟨x, by rw [List.getElem?_set_self (by rw [r.len]; exact hl)], h⟩
    · rw [List.getElem?_set_ne (Ne.symm hj)] at e ⊢
      exact r.at_ j s e
  sep := fun j k xs ys a hjk e1 e2 h1 => by
    have n1 : j ≠ i := fun z => by
      subst z
      by_cases hl : j < env.length
      · rw [List.getElem?_set_self hl] at e1; cases e1
      · rw [List.getElem?_eq_none_iff.mpr (by rw [List.length_set]; omega)] at e1; cases e1
    have n2 : k ≠ i := fun z => by
      subst z
      by_cases hl : k < env.length
      · rw [List.getElem?_set_self hl] at e2; cases e2
      · rw [List.getElem?_eq_none_iff.mpr (by rw [List.length_set]; omega)] at e2; cases e2
    rw [List.getElem?_set_ne (Ne.symm n1)] at e1 h1
    rw [List.getElem?_set_ne (Ne.symm n2)] at e2 ⊢
    exact r.sep j k xs ys a hjk e1 e2 h1
/-- a slot is forgotten -/
theorem Rel.drop_ {Z : Hp} {S : Sta} {H : Hp} {σ : L2.St} {env : Env'} (r : Rel Z S H σ env) (i : Nat) (z : Option V) : Rel Z S H (σ.set i z) (env.set i .no) where
  len := by rw [List.length_set, List.length_set]; exact r.len
  at_ := fun j s e => by
    by_cases hj : j = i
    · subst hj
      have hl : j < env.length := by
        have := (List.getElem?_eq_some_iff.mp e).1
        rwa [List.length_set] at this
      rw [List.getElem?_set_self hl] at e
      cases e
      trivial
    · rw [List.getElem?_set_ne (Ne.symm hj)] at e ⊢
      exact r.at_ j s e
  sep := fun j k xs ys a hjk e1 e2 h1 => by
    have n1 : j ≠ i := fun z => by
      subst z
      by_cases hl : j < env.length
      · rw [List.getElem?_set_self hl] at e1; cases e1
      · rw [List.getElem?_eq_none_iff.mpr (by rw [List.length_set]; omega)] at e1; cases e1
    have n2 : k ≠ i := fun z => by
      subst z
      by_cases hl : k < env.length
      · rw [List.getElem?_set_self hl] at e2; cases e2
      · rw [List.getElem?_eq_none_iff.mpr (by rw [List.length_set]; omega)] at e2; cases e2
    rw [List.getElem?_set_ne (Ne.symm n1)] at e1 h1
    rw [List.getElem?_set_ne (Ne.symm n2)] at e2 ⊢
    exact r.sep j k xs ys a hjk e1 e2 h1
/-- a slot gets a new list of one's own -/
theorem Rel.putOwn {Z : Hp} {S : Sta} {H : Hp} {σ : L2.St} {env : Env'} (r : Rel Z S H σ env) {i : Nat} {p : Addr} {vs : List V} {ds : List D} (h0 : Z p = none) (h1 : H p = some (.lst vs)) (h2 : S.F p = none) (h3 : ¬ InB S.bx p)
    (hn : ∀ (j : Nat) (ys : List D), env[j]? = some (Sl.own ys) → σ[j]? ≠ some (some (V.ref p))) (h : RpL S.bx S.F vs ds) : Rel Z S H (σ.set i (some (.ref p))) (env.set i (.own ds)) where
  len := by rw [List.length_set, List.length_set]; exact r.len
  at_ := fun j s e => by
    by_cases hj : j = i
    · subst hj
      have hl : j < env.length := by
        have := (List.getElem?_eq_some_iff.mp e).1
        rwa [List.length_set] at this
      rw [List.getElem?_set_self hl] at e
      cases e
      exact ⟨p, vs, by rw [List.getElem?_set_self (by rw [r.len]; exact hl)], h1, h2, h3, h0, h⟩
    · rw [List.getElem?_set_ne (Ne.symm hj)] at e ⊢
      exact r.at_ j s e
  sep := fun j k xs ys a hjk e1 e2 q => by
    by_cases hj : j = i
    · subst hj
      have hk : k ≠ j := Ne.symm hjk
      rw [List.getElem?_set_ne (Ne.symm hk)] at e2 ⊢
      have hl : j < σ.length := by
        have := (List.getElem?_eq_some_iff.mp q).1
        rwa [List.length_set] at this
      rw [List.getElem?_set_self hl] at q
      cases q
      exact hn k ys e2
    · rw [List.getElem?_set_ne (Ne.symm hj)] at e1 q
      by_cases hk : k = i
      · subst hk
        intro z
        have hl : k < σ.length := by
          have := (List.getElem?_eq_some_iff.mp z).1
          rwa [List.length_set] at this
        rw [List.getElem?_set_self hl] at z
        cases z
        exact hn j xs e1 q
      · rw [List.getElem?_set_ne (Ne.symm hk)] at e2 ⊢
        exact r.sep j k xs ys a hjk e1 e2 q
/-- a list of one's own changes -/
theorem Rel.mut {Z : Hp} {S : Sta} {H : Hp} {σ : L2.St} {env : Env'} (r : Rel Z S H σ env) {i : Nat} {a : Addr} {vs : List V} {ds es : List D} (he : env[i]? = some (.own es)) (hs : σ[i]? = some (some (.ref a))) (h : RpL S.bx S.F vs ds) :
    Rel Z S (upd H a (.lst vs)) σ (env.set i (.own ds)) where
  len := by rw [List.length_set]; exact r.len
  at_ := fun j s e => by
    by_cases hj : j = i
    · subst hj
      have hl := (List.getElem?_eq_some_iff.mp he).1
      rw [List.getElem?_set_self hl] at e
      cases e
      obtain ⟨a', ws, q1, q2, q3, q4, q5, q6⟩ := r.at_ j _ he
      rw [hs] at q1; cases q1
      exact ⟨a, vs, hs, upd_same, q3, q4, q5, h⟩
    · rw [List.getElem?_set_ne (Ne.symm hj)] at e
      have q := r.at_ j s e
      cases s with
      | no => trivial
      | v d => exact q
      | own us =>
        obtain ⟨b, ws, q1, q2, q3, q4, q5, q6⟩ := q
        have : b ≠ a := fun z => r.sep j i _ _ b hj e he q1 (by rw [z]; exact hs)
        exact ⟨b, ws, q1, by rw [upd_ne this]; exact q2, q3, q4, q5, q6⟩
  sep := fun j k xs ys b hjk e1 e2 q => by
    have own_of : ∀ (m : Nat) (zs : List D), (env.set i (Sl.own ds))[m]? = some (Sl.own zs) → ∃ us, env[m]? = some (Sl.own us) := fun m zs e => by
      by_cases hm : m = i
      · subst hm; exact ⟨_, he⟩
      · rw [List.getElem?_set_ne (Ne.symm hm)] at e; exact ⟨_, e⟩
    obtain ⟨us, e1⟩ := own_of j xs e1
    obtain ⟨ws, e2⟩ := own_of k ys e2
    exact r.sep j k us ws b hjk e1 e2 q
/-- a list of one's own is frozen -/
theorem Rel.frz {Z : Hp} {S : Sta} {H : Hp} {σ : L2.St} {env : Env'} (r : Rel Z S H σ env) (g : Good S H) {i : Nat} {es : List D} (he : env[i]? = some (.own es)) :
    ∃ a vs, σ[i]? = some (some (.ref a)) ∧ H a = some (.lst vs) ∧ Z a = none ∧ Good ⟨S.bx, upd S.F a (.lst vs)⟩ H ∧ Le S.bx S.F S.bx (upd S.F a (.lst vs)) ∧ S.F a = none ∧
      Rel Z ⟨S.bx, upd S.F a (.lst vs)⟩ H σ (env.set i (.v (.ls es))) := by
  obtain ⟨a, vs, q1, q2, q3, q4, q5, q6⟩ := r.at_ i _ he
  have le : Le S.bx S.F S.bx (upd S.F a (.lst vs)) := ⟨fun b o e => by
    have : b ≠ a := fun z => by rw [z, q3] at e; cases e
    rw [upd_ne this]; exact e, fun x e => e⟩
  refine ⟨a, vs, q1, q2, q5, good_frz g q2 q4, le, q3, ?_⟩
  refine ⟨by rw [List.length_set]; exact r.len, fun j s e => ?_, fun j k xs ys b hjk e1 e2 q => ?_⟩
  · by_cases hj : j = i
    · subst hj
      rw [List.getElem?_set_self (List.getElem?_eq_some_iff.mp he).1] at e
      cases e
      exact ⟨_, q1, .ls (by show upd S.F a (.lst vs) a = _; exact upd_same) (q6.le le)⟩
    · rw [List.getElem?_set_ne (Ne.symm hj)] at e
      have q := r.at_ j s e
      cases s with
      | no => trivial
      | v d => obtain ⟨x, h1, h2⟩ := q; exact ⟨x, h1, h2.le le⟩
      | own us =>
        obtain ⟨b, ws, p1, p2, p3, p4, p5, p6⟩ := q
        have : b ≠ a := fun z => r.sep j i _ _ b hj e he p1 (by rw [z]; exact q1)
        exact ⟨b, ws, p1, p2, by show upd S.F a (.lst vs) b = none; rw [upd_ne this]; exact p3, p4, p5, p6.le le⟩
  · have n1 : j ≠ i := fun z => by
      subst z
      rw [List.getElem?_set_self (List.getElem?_eq_some_iff.mp he).1] at e1; cases e1
    have n2 : k ≠ i := fun z => by
      subst z
      rw [List.getElem?_set_self (List.getElem?_eq_some_iff.mp he).1] at e2; cases e2
    rw [List.getElem?_set_ne (Ne.symm n1)] at e1
    rw [List.getElem?_set_ne (Ne.symm n2)] at e2
    exact r.sep j k xs ys b hjk e1 e2 q
end Dl

set_option Elab.async false
set_option linter.all false
set_option maxRecDepth 100000
set_option maxHeartbeats 4000000
/-! Dl2: expressions over data. -/
namespace Dl
open PySem PySem.Spec PyProof.Rows L2

/-- an error: its class's name, its fields -/
structure Exn where
  cls : Str
  fs : List (Str × D)
abbrev DK := D → Prop
abbrev EK := Exn → Prop
def XRep (mg : Str → Option Value) (S : Sta) (H : Hp) (C : Value) (dx : Option Addr) (x : Exn) : Prop :=
  mg x.cls = some C ∧ ((x.fs = [] ∧ dx = none) ∨ ∃ d fs, dx = some d ∧ H d = some (.xd fs) ∧ Paired (fun (p : Str × V) (q : Str × D) => p.1 = q.1 ∧ Rp S.bx S.F p.2 q.2) fs x.fs)
def XLink (mg : Str → Option Value) (S : Sta) (H : Hp) (Ed : EK) (E : XK) : Prop :=
  ∀ C dx H' S' x, Stp S H S' H' → Good S' H' → XRep mg S' H' C dx x → Ed x → E C dx H'
theorem XLink.step {mg : Str → Option Value} {S S' : Sta} {H H' : Hp} {Ed : EK} {E : XK} (l : XLink mg S H Ed E) (p : Stp S H S' H') (g : Good S' H') : XLink mg S' H' Ed E :=
  fun C dx H2 S2 x q g2 r h => l C dx H2 S2 x (p.trans g q) g2 r h
def Cont (S : Sta) (H : Hp) (Qd : DK) (Q : VK) : Prop := ∀ v H' S' x, Stp S H S' H' → Good S' H' → Rp S'.bx S'.F v x → Qd x → Q v H'
theorem Cont.step {S S' : Sta} {H H' : Hp} {Qd : DK} {Q : VK} (c : Cont S H Qd Q) (p : Stp S H S' H') (g : Good S' H') : Cont S' H' Qd Q :=
  fun v H2 S2 x q g2 r h => c v H2 S2 x (p.trans g q) g2 r h
theorem Cont.now {S : Sta} {H : Hp} {Qd : DK} {Q : VK} (c : Cont S H Qd Q) (g : Good S H) {v : V} {x : D} (r : Rp S.bx S.F v x) (h : Qd x) : Q v H := c v H S x (.refl S H) g r h
/-- a new tuple -/
theorem Cont.tup {S : Sta} {H : Hp} {Qd : DK} {Q : VK} (c : Cont S H Qd Q) (g : Good S H) {vs : List V} {ds : List D} (r : RpL S.bx S.F vs ds) (h : Qd (.tp ds)) : ∀ p, H p = none → Q (.ref p) (upd H p (.tup vs)) := fun p hp => by
  obtain ⟨s, g'⟩ := step_new g (o := .tup vs) hp
  exact c _ _ _ _ s g' (.tp (by show upd S.F p (.tup vs) p = _; exact upd_same) (r.le s.le)) h
theorem Cont.lst {S : Sta} {H : Hp} {Qd : DK} {Q : VK} (c : Cont S H Qd Q) (g : Good S H) {vs : List V} {ds : List D} (r : RpL S.bx S.F vs ds) (h : Qd (.ls ds)) : ∀ p, H p = none → Q (.ref p) (upd H p (.lst vs)) := fun p hp => by
  obtain ⟨s, g'⟩ := step_new g (o := .lst vs) hp
  exact c _ _ _ _ s g' (.ls (by show upd S.F p (.lst vs) p = _; exact upd_same) (r.le s.le)) h

abbrev DT_ := Env' → DK → EK → Prop
abbrev DB_ := Env' → (Bool → Prop) → EK → Prop
abbrev DA_ := Env' → (List D → Prop) → EK → Prop
structure DE (X : Cx) (E : XK) (e : Expr) (d : DT_) : Prop where
  run : ∃ t, PE X e t ∧ ∀ Z S H σ env Q Qd Ed, Good S H → Rel Z S H σ env → XLink X.mg S H Ed E → d env Qd Ed → Cont S H Qd Q → t σ H Q
def ContB (S : Sta) (H : Hp) (Qd : Bool → Prop) (Q : Bool → Hp → Prop) : Prop := ∀ b H' S', Stp S H S' H' → Good S' H' → Qd b → Q b H'
structure DB (X : Cx) (E : XK) (e : Expr) (d : DB_) : Prop where
  run : ∃ t, PT X e t ∧ ∀ Z S H σ env Q Qd Ed, Good S H → Rel Z S H σ env → XLink X.mg S H Ed E → d env Qd Ed → ContB S H Qd Q → t σ H Q
structure DW (X : Cx) (E : XK) (e : Expr) (d : DB_) : Prop where
  run : ∃ t, PW X e t ∧ ∀ Z S H σ env Q Qd Ed, Good S H → Rel Z S H σ env → XLink X.mg S H Ed E → d env Qd Ed → ContB S H Qd Q → t σ H Q
def ContL (S : Sta) (H : Hp) (Qd : List D → Prop) (Q : List V → Hp → Prop) : Prop := ∀ vs H' S' xs, Stp S H S' H' → Good S' H' → RpL S'.bx S'.F vs xs → Qd xs → Q vs H'
structure DA (X : Cx) (E : XK) (es : List Expr) (d : DA_) : Prop where
  run : ∃ t, PA X es t ∧ ∀ Z S H σ env Q Qd Ed, Good S H → Rel Z S H σ env → XLink X.mg S H Ed E → d env Qd Ed → ContL S H Qd Q → t σ H Q

section
variable {X : Cx} {E : XK} {pos : Pos} {a b c : Expr} {da db dc : DT_}
/-! ### names, constants -/
def dVar (i : Nat) : DT_ := fun env Q _ => match env[i]? with | some (.v d) => Q d | _ => False
theorem de_var (i : Nat) {x : Str} (hN : X.N[i]? = some x := by rfl) (hv : Vis X.env.scope x := by first | exact Or.inl rfl | exact Or.inr (Or.inl rfl) | exact Or.inr (Or.inr rfl)) (hd : (x == ("__debug__" : Str)) = false := by decide)
    (hcd : (x == ("__classdict__" : Str)) = false := by decide) : DE X E (.Name x pos) (dVar i) := by
  refine ⟨_, pe_var hN hv hd hcd, fun Z S H σ env Q Qd Ed g r _ h k => ?_⟩
  unfold dVar at h
  split at h
  · next d e =>
    obtain ⟨x, h1, h2⟩ := r.at_ i _ e
    exact ⟨x, h1, k.now g h2 h⟩
  · exact h.elim
def dC (d : D) : DT_ := fun _ Q _ => Q d
theorem de_int {i j} : DE X E (.Constant (.int i) j pos) (dC (.it i)) := ⟨_, pe_int, fun _ _ _ _ _ _ _ _ g _ _ h k => k.now g (.it i) h⟩
theorem de_bl {i j} : DE X E (.Constant (.bool i) j pos) (dC (.bl i)) := ⟨_, pe_bl, fun _ _ _ _ _ _ _ _ g _ _ h k => k.now g (.bl i) h⟩
theorem de_non {j} : DE X E (.Constant .none j pos) (dC .non) := ⟨_, pe_non, fun _ _ _ _ _ _ _ _ g _ _ h k => k.now g .non h⟩
theorem de_str {s j} : DE X E (.Constant (.str s) j pos) (dC (.st s)) := ⟨_, pe_str, fun _ _ _ _ _ _ _ _ g _ _ h k => k.now g (.st s) h⟩
theorem de_globI {x : Str} {i : Int} {u : Value} (hg : Gl X x) (hm : X.mg x = some u) (r : RelV (.int i) u) (hd : (x == ("__debug__" : Str)) = false := by decide) : DE X E (.Name x pos) (dC (.it i)) :=
  ⟨_, pe_glob hg hm r hd, fun _ _ _ _ _ _ _ _ g _ _ h k => k.now g (.it i) h⟩
theorem de_globS {x : Str} {i : Str} {u : Value} (hg : Gl X x) (hm : X.mg x = some u) (r : RelV (.str i) u) (hd : (x == ("__debug__" : Str)) = false := by decide) : DE X E (.Name x pos) (dC (.st i)) :=
  ⟨_, pe_glob hg hm r hd, fun _ _ _ _ _ _ _ _ g _ _ h k => k.now g (.st i) h⟩

/-! ### two-place operators -/
def OpD (S : Sta) (r : R2) (o : D → D → DK → Prop) : Prop := ∀ H x y dx dy Q Qd, Good S H → Rp S.bx S.F x dx → Rp S.bx S.F y dy → o dx dy Qd → Cont S H Qd Q → r x y H Q
def dOp (o : D → D → DK → Prop) (da db : DT_) : DT_ := fun env Q E => da env (fun x => db env (fun y => o x y Q) E) E
theorem de_bin {op : Operator} {r : R2} {o : D → D → DK → Prop} (ho : OpR X (binaryOp op) r) (od : ∀ S, OpD S r o) (ha : DE X E a da) (hb : DE X E b db) : DE X E (.BinOp a op b pos) (dOp o da db) := by
  obtain ⟨ta, pa, ra⟩ := ha.run
  obtain ⟨tb, pb, rb⟩ := hb.run
  refine ⟨_, pe_op ho pa pb, fun Z S H σ env Q Qd Ed g r l h k => ?_⟩
  refine ra Z S H σ env _ _ Ed g r l h fun x H1 S1 dx s1 g1 r1 h1 => ?_
  refine rb Z S1 H1 σ env _ _ Ed g1 (r.step s1) (l.step s1 g1) h1 fun y H2 S2 dy s2 g2 r2 h2 => ?_
  exact od S2 H2 x y dx dy Q Qd g2 (r1.le s2.le) r2 h2 ((k.step s1 g1).step s2 g2)
theorem de_cmp {op : CmpOp} {r : R2} {o : D → D → DK → Prop} (ho : OpR X (compareOp op) r) (od : ∀ S, OpD S r o) (ha : DE X E a da) (hb : DE X E b db) (hm : behindInMarks op b = false := by first | exact nobehind _ (by decide) (by decide) | rfl) :
    DE X E (.Compare a [op] [b] pos) (dOp o da db) := by
  obtain ⟨ta, pa, ra⟩ := ha.run
  obtain ⟨tb, pb, rb⟩ := hb.run
  refine ⟨_, pe_cmpR ho pa pb hm, fun Z S H σ env Q Qd Ed g r l h k => ?_⟩
  refine ra Z S H σ env _ _ Ed g r l h fun x H1 S1 dx s1 g1 r1 h1 => ?_
  refine rb Z S1 H1 σ env _ _ Ed g1 (r.step s1) (l.step s1 g1) h1 fun y H2 S2 dy s2 g2 r2 h2 => ?_
  exact od S2 H2 x y dx dy Q Qd g2 (r1.le s2.le) r2 h2 ((k.step s1 g1).step s2 g2)
/-- a test whose value is a bool -/
def dTst (d : DT_) : DB_ := fun env Q E => d env (fun x => match x with | .bl b => Q b | _ => False) E
theorem db_cmp {op : CmpOp} {r : R2} {o : D → D → DK → Prop} (ho : OpR X (compareOp op) r) (od : ∀ S, OpD S r o) (ha : DE X E a da) (hb : DE X E b db) (hm : behindInMarks op b = false := by first | exact nobehind _ (by decide) (by decide) | rfl) :
    DB X E (.Compare a [op] [b] pos) (dTst (dOp o da db)) := by
  obtain ⟨ta, pa, ra⟩ := ha.run
  obtain ⟨tb, pb, rb⟩ := hb.run
  refine ⟨_, pt_cmpR ho pa pb hm, fun Z S H σ env Q Qd Ed g r l h k => ?_⟩
  refine ra Z S H σ env _ _ Ed g r l h fun x H1 S1 dx s1 g1 r1 h1 => ?_
  refine rb Z S1 H1 σ env _ _ Ed g1 (r.step s1) (l.step s1 g1) h1 fun y H2 S2 dy s2 g2 r2 h2 => ?_
  refine od S2 H2 x y dx dy _ _ g2 (r1.le s2.le) r2 h2 fun v H3 S3 z s3 g3 r3 h3 => ?_
  split at h3
  · cases r3
    exact ⟨_, rfl, k _ _ _ ((s1.trans g1 s2).trans g2 s3) g3 h3⟩
  · exact h3.elim
theorem db_val {e : Expr} {d : DT_} (he : DE X E e d) (hs : ∀ whole, isTrue e X.env whole = (do let v ← whole; standAt e.pos; holding [v] (truthy v)) := by intro _; rfl) : DB X E e (dTst d) := by
  obtain ⟨t, p, q⟩ := he.run
  refine ⟨_, pt_val p hs, fun Z S H σ env Q Qd Ed g r l h k => ?_⟩
  refine q Z S H σ env _ _ Ed g r l h fun v H3 S3 z s3 g3 r3 h3 => ?_
  split at h3
  · cases r3
    exact ⟨_, rfl, k _ _ _ s3 g3 h3⟩
  · exact h3.elim
/-! ### and, or, not, if -/
variable {ta tb : DB_} {rest : List Expr}
def dAnd (t u : DB_) : DB_ := fun env Q E => t env (fun c => match c with | true => u env Q E | false => Q false) E
def dOr (t u : DB_) : DB_ := fun env Q E => t env (fun c => match c with | true => Q true | false => u env Q E) E
def dNot (t : DB_) : DB_ := fun env Q E => t env (fun c => Q (!c)) E
theorem dw_and1 (ha : DB X E a ta) : DW X E (.BoolOp .And [a] pos) ta := let ⟨t, p, q⟩ := ha.run; ⟨t, pw_and1 p, q⟩
theorem dw_or1 (ha : DB X E a ta) : DW X E (.BoolOp .Or [a] pos) ta := let ⟨t, p, q⟩ := ha.run; ⟨t, pw_or1 p, q⟩
theorem dw_and (ha : DB X E a ta) (hb : DW X E (.BoolOp .And (b :: rest) pos) tb) : DW X E (.BoolOp .And (a :: b :: rest) pos) (dAnd ta tb) := by
  obtain ⟨t, p, q⟩ := ha.run
  obtain ⟨t', p', q'⟩ := hb.run
  refine ⟨_, pw_and p p', fun Z S H σ env Q Qd Ed g r l h k => ?_⟩
  refine q Z S H σ env _ _ Ed g r l h fun c H1 S1 s1 g1 h1 => ?_
  cases c with
  | true => exact q' Z S1 H1 σ env _ _ Ed g1 (r.step s1) (l.step s1 g1) h1 fun d H2 S2 s2 g2 h2 => k d H2 S2 (s1.trans g1 s2) g2 h2
  | false => exact k false H1 S1 s1 g1 h1
theorem dw_or (ha : DB X E a ta) (hb : DW X E (.BoolOp .Or (b :: rest) pos) tb) : DW X E (.BoolOp .Or (a :: b :: rest) pos) (dOr ta tb) := by
  obtain ⟨t, p, q⟩ := ha.run
  obtain ⟨t', p', q'⟩ := hb.run
  refine ⟨_, pw_or p p', fun Z S H σ env Q Qd Ed g r l h k => ?_⟩
  refine q Z S H σ env _ _ Ed g r l h fun c H1 S1 s1 g1 h1 => ?_
  cases c with
  | false => exact q' Z S1 H1 σ env _ _ Ed g1 (r.step s1) (l.step s1 g1) h1 fun d H2 S2 s2 g2 h2 => k d H2 S2 (s1.trans g1 s2) g2 h2
  | true => exact k true H1 S1 s1 g1 h1
theorem DW.toDB {e : Expr} (h : DW X E e ta) : DB X E e ta := let ⟨t, p, q⟩ := h.run; ⟨t, p.pt, q⟩
theorem db_not (ha : DB X E a ta) : DB X E (.UnaryOp .Not a pos) (dNot ta) := by
  obtain ⟨t, p, q⟩ := ha.run
  exact ⟨_, pt_not p, fun Z S H σ env Q Qd Ed g r l h k => q Z S H σ env _ _ Ed g r l h fun c H1 S1 s1 g1 h1 => k _ H1 S1 s1 g1 h1⟩
/-- .. as values (bools) -/
def dAndV (da db : DT_) : DT_ := fun env Q E => da env (fun x => match x with | .bl true => db env Q E | .bl false => Q (.bl false) | _ => False) E
def dOrV (da db : DT_) : DT_ := fun env Q E => da env (fun x => match x with | .bl false => db env Q E | .bl true => Q (.bl true) | _ => False) E
def dNotV (da : DT_) : DT_ := fun env Q E => da env (fun x => match x with | .bl b => Q (.bl (!b)) | _ => False) E
theorem de_one {op} {d : DT_} (h : DE X E a d) : DE X E (.BoolOp op [a] pos) d := let ⟨t, p, q⟩ := h.run; ⟨t, pe_one p, q⟩
theorem de_and (ha : DE X E a da) (hb : DE X E (.BoolOp .And (b :: rest) pos) db) : DE X E (.BoolOp .And (a :: b :: rest) pos) (dAndV da db) := by
  obtain ⟨t, p, q⟩ := ha.run
  obtain ⟨t', p', q'⟩ := hb.run
  refine ⟨_, pe_and p p', fun Z S H σ env Q Qd Ed g r l h k => ?_⟩
  refine q Z S H σ env _ _ Ed g r l h fun v H1 S1 x s1 g1 r1 h1 => ?_
  split at h1
  · cases r1
    refine ⟨true, rfl, ?_⟩
    rw [if_pos rfl]
    exact q' Z S1 H1 σ env _ _ Ed g1 (r.step s1) (l.step s1 g1) h1 (k.step s1 g1)
  · cases r1
    refine ⟨false, rfl, ?_⟩
    rw [if_neg Bool.false_ne_true]
    exact k _ H1 S1 _ s1 g1 (.bl false) h1
  · exact h1.elim
theorem de_or (ha : DE X E a da) (hb : DE X E (.BoolOp .Or (b :: rest) pos) db) : DE X E (.BoolOp .Or (a :: b :: rest) pos) (dOrV da db) := by
  obtain ⟨t, p, q⟩ := ha.run
  obtain ⟨t', p', q'⟩ := hb.run
  refine ⟨_, pe_or p p', fun Z S H σ env Q Qd Ed g r l h k => ?_⟩
  refine q Z S H σ env _ _ Ed g r l h fun v H1 S1 x s1 g1 r1 h1 => ?_
  split at h1
  · cases r1
    refine ⟨false, rfl, ?_⟩
    rw [if_neg Bool.false_ne_true]
    exact q' Z S1 H1 σ env _ _ Ed g1 (r.step s1) (l.step s1 g1) h1 (k.step s1 g1)
  · cases r1
    refine ⟨true, rfl, ?_⟩
    rw [if_pos rfl]
    exact k _ H1 S1 _ s1 g1 (.bl true) h1
  · exact h1.elim
theorem de_not (ha : DE X E a da) : DE X E (.UnaryOp .Not a pos) (dNotV da) := by
  obtain ⟨t, p, q⟩ := ha.run
  refine ⟨_, pe_not p, fun Z S H σ env Q Qd Ed g r l h k => ?_⟩
  refine q Z S H σ env _ _ Ed g r l h fun v H1 S1 x s1 g1 r1 h1 => ?_
  split at h1
  · cases r1
    exact ⟨_, rfl, k _ H1 S1 _ s1 g1 (.bl _) h1⟩
  · exact h1.elim
def dIf (t : DB_) (da db : DT_) : DT_ := fun env Q E => t env (fun c => match c with | true => da env Q E | false => db env Q E) E
theorem de_ifExp {c : Expr} (hc : DB X E c ta) (ha : DE X E a da) (hb : DE X E b db) : DE X E (.IfExp c a b pos) (dIf ta da db) := by
  obtain ⟨t, p, q⟩ := hc.run
  obtain ⟨t1, p1, q1⟩ := ha.run
  obtain ⟨t2, p2, q2⟩ := hb.run
  refine ⟨_, pe_ifExp p p1 p2, fun Z S H σ env Q Qd Ed g r l h k => ?_⟩
  refine q Z S H σ env _ _ Ed g r l h fun c H1 S1 s1 g1 h1 => ?_
  cases c with
  | true =>
    show if true = true then t1 σ H1 Q else t2 σ H1 Q
    rw [if_pos rfl]
    exact q1 Z S1 H1 σ env _ _ Ed g1 (r.step s1) (l.step s1 g1) h1 (k.step s1 g1)
  | false =>
    show if false = true then t1 σ H1 Q else t2 σ H1 Q
    rw [if_neg Bool.false_ne_true]
    exact q2 Z S1 H1 σ env _ _ Ed g1 (r.step s1) (l.step s1 g1) h1 (k.step s1 g1)

/-! ### argument lists, displays -/
def dNil : DA_ := fun _ Q _ => Q []
def dCons (d : DT_) (u : DA_) : DA_ := fun env Q E => d env (fun x => u env (fun xs => Q (x :: xs)) E) E
theorem da_nil : DA X E [] dNil := ⟨_, pa_nil, fun _ S H _ _ _ _ _ g _ _ h k => k [] H S [] (.refl S H) g .nil h⟩
theorem da_cons {es : List Expr} {u : DA_} (ha : DE X E a da) (hr : DA X E es u) (hs : starEach (a :: es) X.env = (false, eval a X.env) :: starEach es X.env := by rfl) : DA X E (a :: es) (dCons da u) := by
  obtain ⟨t, p, q⟩ := ha.run
  obtain ⟨t', p', q'⟩ := hr.run
  refine ⟨_, pa_cons p p' hs, fun Z S H σ env Q Qd Ed g r l h k => ?_⟩
  refine q Z S H σ env _ _ Ed g r l h fun v H1 S1 x s1 g1 r1 h1 => ?_
  refine q' Z S1 H1 σ env _ _ Ed g1 (r.step s1) (l.step s1 g1) h1 fun vs H2 S2 xs s2 g2 r2 h2 => ?_
  exact k _ H2 S2 _ (s1.trans g1 s2) g2 (.cons (r1.le s2.le) r2) h2
def dStar (d : DT_) (u : DA_) : DA_ := fun env Q E => d env (fun x => match x with | .tp ys => u env (fun xs => Q (ys ++ xs)) E | .ls ys => u env (fun xs => Q (ys ++ xs)) E | _ => False) E
theorem da_star {es : List Expr} {u : DA_} {p : Pos} (ha : DE X E a da) (hr : DA X E es u) (hs : starEach (.Starred a p :: es) X.env = (true, eval a X.env) :: starEach es X.env := by rfl) : DA X E (.Starred a p :: es) (dStar da u) := by
  obtain ⟨t, p, q⟩ := ha.run
  obtain ⟨t', p', q'⟩ := hr.run
  refine ⟨_, StX.pa_star p p' hs, fun Z S H σ env Q Qd Ed g r l h k => ?_⟩
  refine q Z S H σ env _ _ Ed g r l h fun v H1 S1 x s1 g1 r1 h1 => ?_
  split at h1
  · next ys =>
    cases r1 with
    | tp e rr =>
      refine ⟨_, _, rfl, .inl (SqT.of (g1.fz _ _ e)), ?_⟩
      refine q' Z S1 H1 σ env _ _ Ed g1 (r.step s1) (l.step s1 g1) h1 fun vs H2 S2 xs s2 g2 r2 h2 => ?_
      exact k _ H2 S2 _ (s1.trans g1 s2) g2 ((rr.le s2.le).app r2) h2
  · next ys =>
    cases r1 with
    | ls e rr =>
      refine ⟨_, _, rfl, .inr (SqL.of (g1.fz _ _ e)), ?_⟩
      refine q' Z S1 H1 σ env _ _ Ed g1 (r.step s1) (l.step s1 g1) h1 fun vs H2 S2 xs s2 g2 r2 h2 => ?_
      exact k _ H2 S2 _ (s1.trans g1 s2) g2 ((rr.le s2.le).app r2) h2
  · exact h1.elim
abbrev szOk (n : Nat) : Prop := n ≤ sizeLine
def dTup (u : DA_) : DT_ := fun env Q E => u env (fun xs => szOk xs.length ∧ Q (.tp xs)) E
def dLst (u : DA_) : DT_ := fun env Q E => u env (fun xs => szOk xs.length ∧ Q (.ls xs)) E
theorem de_tup {es : List Expr} {u : DA_} {x1} (h : DA X E es u) : DE X E (.Tuple es x1 pos) (dTup u) := by
  obtain ⟨t, p, q⟩ := h.run
  refine ⟨_, pe_tup p, fun Z S H σ env Q Qd Ed g r l h k => ?_⟩
  refine q Z S H σ env _ _ Ed g r l h fun vs H1 S1 xs s1 g1 r1 h1 => ?_
  exact ⟨by rw [r1.length]; exact h1.1, (k.step s1 g1).tup g1 r1 h1.2⟩
theorem de_lst {es : List Expr} {u : DA_} (h : DA X E es u) : DE X E (.List es pos) (dLst u) := by
  obtain ⟨t, p, q⟩ := h.run
  refine ⟨_, pe_lst p, fun Z S H σ env Q Qd Ed g r l h k => ?_⟩
  refine q Z S H σ env _ _ Ed g r l h fun vs H1 S1 xs s1 g1 r1 h1 => ?_
  exact ⟨by rw [r1.length]; exact h1.1, (k.step s1 g1).lst g1 r1 h1.2⟩

/-! ### built-ins by values -/
def CallD (S : Sta) (r : List V → Hp → VK → Prop) (o : List D → DK → Prop) : Prop := ∀ H vs ds Q Qd, Good S H → RpL S.bx S.F vs ds → o ds Qd → Cont S H Qd Q → r vs H Q
def dCB (o : List D → DK → Prop) (u : DA_) : DT_ := fun env Q E => u env (fun xs => o xs Q) E
variable {x : Str} {p : Pos} {id T : String} {e : Expr} {es : List Expr} {u : DA_} {r : List V → Hp → VK → Prop} {o : List D → DK → Prop}
theorem de_callB (hc : CallR X (.builtin id) r) (od : ∀ S, CallD S r o) (hg : Gl X x) (hm : X.mg x = none) (hv : bootBuiltins x = some (.builtin id)) (ha : DA X E (e :: es) u) (hn : x ≠ "__name__" := by decide) (hdb : (x == ("__debug__" : Str)) = false := by decide)
    (he : starEach (e :: es) X.env = (false, eval e X.env) :: starEach es X.env := by rfl) (hpl : (backTo pos (starEach es X.env)).any (·.1) = false := by rfl) : DE X E (.Call (.Name x p) (e :: es) [] pos) (dCB o u) := by
  obtain ⟨t, p, q⟩ := ha.run
  refine ⟨_, pe_callB hc hg hm hv p hn hdb he hpl, fun Z S H σ env Q Qd Ed g r l h k => ?_⟩
  refine q Z S H σ env _ _ Ed g r l h fun vs H1 S1 xs s1 g1 r1 h1 => ?_
  exact od S1 H1 vs xs Q Qd g1 r1 h1 (k.step s1 g1)
theorem de_callTy (hc : CallR X (.type T) r) (od : ∀ S, CallD S r o) (hg : Gl X x) (hm : X.mg x = none) (hv : bootBuiltins x = some (.type T)) (ha : DA X E (e :: es) u) (hn : x ≠ "__name__" := by decide) (hdb : (x == ("__debug__" : Str)) = false := by decide)
    (he : starEach (e :: es) X.env = (false, eval e X.env) :: starEach es X.env := by rfl) (hpl : (backTo pos (starEach es X.env)).any (·.1) = false := by rfl) : DE X E (.Call (.Name x p) (e :: es) [] pos) (dCB o u) := by
  obtain ⟨t, p, q⟩ := ha.run
  refine ⟨_, pe_callTy hc hg hm hv p hn hdb he hpl, fun Z S H σ env Q Qd Ed g r l h k => ?_⟩
  refine q Z S H σ env _ _ Ed g r l h fun vs H1 S1 xs s1 g1 r1 h1 => ?_
  exact od S1 H1 vs xs Q Qd g1 r1 h1 (k.step s1 g1)
end
end Dl

set_option Elab.async false
set_option linter.all false
set_option maxRecDepth 100000
set_option maxHeartbeats 4000000
/-! Dl3: operators, built-ins, subscripts over data. -/
namespace Dl
open PySem PySem.Spec PyProof.Rows L2

/-! ### operators -/
def oAdd (x y : D) (Q : DK) : Prop := match x, y with
  | .it i, .it j => Q (.it (i + j))
  | .st i, .st j => szOk (i.length + j.length) ∧ Q (.st (i ++ j))
  | .tp i, .tp j => szOk (i.length + j.length) ∧ Q (.tp (i ++ j))
  | .ls i, .ls j => szOk (i.length + j.length) ∧ Q (.ls (i ++ j))
  | _, _ => False
def rAddA (K : PySem.W.Frag) : R2 := fun x y H Q => rI0 (fun i j => .int (i + j)) x y H Q ∨ (∃ i j, x = .str i ∧ y = .str j ∧ i.length + j.length ≤ sizeLine ∧ Q (.str (i ++ j)) H) ∨ rCatA K x y H Q ∨ rCat x y H Q
theorem or_addA {X : Cx} : OpR X (binaryOp .Add) (rAddA X.K) := op_add.or (op_add_str.or (op_catA.or op_cat))
theorem od_add {K : PySem.W.Frag} (S : Sta) : OpD S (rAddA K) oAdd := by
  intro H x y dx dy Q Qd g rx ry h k
  unfold oAdd at h
  split at h
  · cases rx; cases ry
    exact .inl ⟨_, _, rfl, rfl, k.now g (.it _) h⟩
  · cases rx; cases ry
    exact .inr (.inl ⟨_, _, rfl, rfl, h.1, k.now g (.st _) h.2⟩)
  · next ds es =>
    cases rx with
    | tp e1 r1 =>
      cases ry with
      | tp e2 r2 =>
        refine .inr (.inr (.inl ⟨_, _, _, _, rfl, rfl, SqT.of (g.fz _ _ e1), SqT.of (g.fz _ _ e2), by rw [r1.length, r2.length]; exact h.1, fun z => ?_, fun _ z => ?_, fun _ _ => k.tup g (r1.app r2) h.2⟩))
        · subst z
          cases r1
          exact k.now g (.tp e2 r2) h.2
        · subst z
          cases r2
          exact k.now g (.tp e1 r1) (by have := h.2; rwa [List.append_nil] at this)
  · next ds es =>
    cases rx with
    | ls e1 r1 =>
      cases ry with
      | ls e2 r2 =>
        exact .inr (.inr (.inr ⟨_, _, _, _, rfl, rfl, g.fz _ _ e1, g.fz _ _ e2, by rw [r1.length, r2.length]; exact h.1, k.lst g (r1.app r2) h.2⟩))
  · exact h.elim
/-- two ints, under C -/
def oI (C : Int → Int → Prop) (f : Int → Int → D) (x y : D) (Q : DK) : Prop := match x, y with | .it i, .it j => C i j ∧ Q (f i j) | _, _ => False
def oI0 (f : Int → Int → D) (x y : D) (Q : DK) : Prop := match x, y with | .it i, .it j => Q (f i j) | _, _ => False
theorem od_I {C : Int → Int → Prop} {f : Int → Int → Int} (S : Sta) : OpD S (rI C fun i j => .int (f i j)) (oI C fun i j => .it (f i j)) := by
  intro H x y dx dy Q Qd g rx ry h k
  unfold oI at h
  split at h
  · cases rx; cases ry
    exact ⟨_, _, rfl, rfl, h.1, k.now g (.it _) h.2⟩
  · exact h.elim
theorem od_I0 {f : Int → Int → Int} (S : Sta) : OpD S (rI0 fun i j => .int (f i j)) (oI0 fun i j => .it (f i j)) := by
  intro H x y dx dy Q Qd g rx ry h k
  unfold oI0 at h
  split at h
  · cases rx; cases ry
    exact ⟨_, _, rfl, rfl, k.now g (.it _) h⟩
  · exact h.elim
theorem od_B0 {f : Int → Int → Bool} (S : Sta) : OpD S (rI0 fun i j => .bl (f i j)) (oI0 fun i j => .bl (f i j)) := by
  intro H x y dx dy Q Qd g rx ry h k
  unfold oI0 at h
  split at h
  · cases rx; cases ry
    exact ⟨_, _, rfl, rfl, k.now g (.bl _) h⟩
  · exact h.elim
abbrev oSub := oI0 fun i j => .it (i - j)
abbrev oFdiv := oI CDivW fun i j => .it (i / j)
abbrev oMod := oI (fun _ j => 0 < j) fun i j => .it (i % j)
abbrev oPow := oI CPow fun i j => .it (i ^ j.toNat)
abbrev oLt := oI0 fun i j => .bl (decide (i < j))
abbrev oLe := oI0 fun i j => .bl (decide (i ≤ j))
abbrev oGt := oI0 fun i j => .bl (decide (j < i))
abbrev oGe := oI0 fun i j => .bl (decide (j ≤ i))
/-- *: ints (one of them small), a tuple or a list so many times -/
def oMul (x y : D) (Q : DK) : Prop := match x, y with
  | .it i, .it j => CMul i j ∧ Q (.it (i * j))
  | .tp i, .it j => i ≠ [] ∧ 2 ≤ j ∧ j ≤ 1000 ∧ i.length ≤ 1000 ∧ Q (.tp (List.replicate j.toNat i).flatten)
  | .ls i, .it j => -(2 ^ 63) ≤ j ∧ j < 2 ^ 63 ∧ szOk (i.length * j.toNat) ∧ Q (.ls (List.replicate j.toNat i).flatten)
  | _, _ => False
def rMulA (K : PySem.W.Frag) : R2 := fun x y H Q => rI CMul (fun i j => .int (i * j)) x y H Q ∨ rRepT K x y H Q ∨ rRep x y H Q
theorem or_mulA {X : Cx} : OpR X (binaryOp .Mult) (rMulA X.K) := op_mul.or (op_repT.or op_rep)
theorem RpL.rep {t : Option Bx} {F : Hp} {vs : List V} {ds : List D} (r : RpL t F vs ds) : ∀ n : Nat, RpL t F (List.replicate n vs).flatten (List.replicate n ds).flatten
  | 0 => .nil
  | n + 1 => by
    rw [List.replicate_succ, List.replicate_succ, List.flatten_cons, List.flatten_cons]
    exact r.app (RpL.rep r n)
theorem od_mul {K : PySem.W.Frag} (S : Sta) : OpD S (rMulA K) oMul := by
  intro H x y dx dy Q Qd g rx ry h k
  unfold oMul at h
  split at h
  · cases rx; cases ry
    exact .inl ⟨_, _, rfl, rfl, h.1, k.now g (.it _) h.2⟩
  · cases ry
    cases rx with
    | tp e1 r1 =>
      refine .inr (.inl ⟨_, _, _, rfl, rfl, SqT.of (g.fz _ _ e1), fun z => ?_, h.2.1, h.2.2.1, by rw [r1.length]; exact h.2.2.2.1, k.tup g (r1.rep _) h.2.2.2.2⟩)
      subst z
      cases r1
      exact h.1 rfl
  · cases ry
    cases rx with
    | ls e1 r1 => exact .inr (.inr ⟨_, _, _, rfl, rfl, g.fz _ _ e1, h.1, h.2.1, by rw [r1.length]; exact h.2.2.1, k.lst g (r1.rep _) h.2.2.2⟩)
  · exact h.elim
section
variable {X : Cx} {E : XK} {pos : Pos} {a b c : Expr} {da db dc : DT_}
theorem de_add (ha : DE X E a da) (hb : DE X E b db) : DE X E (.BinOp a .Add b pos) (dOp oAdd da db) := de_bin or_addA od_add ha hb
theorem de_sub (ha : DE X E a da) (hb : DE X E b db) : DE X E (.BinOp a .Sub b pos) (dOp oSub da db) := de_bin op_sub od_I0 ha hb
theorem de_mul (ha : DE X E a da) (hb : DE X E b db) : DE X E (.BinOp a .Mult b pos) (dOp oMul da db) := de_bin or_mulA od_mul ha hb
theorem de_fdiv (ha : DE X E a da) (hb : DE X E b db) : DE X E (.BinOp a .FloorDiv b pos) (dOp oFdiv da db) := de_bin op_fdivW od_I ha hb
theorem de_mod (ha : DE X E a da) (hb : DE X E b db) : DE X E (.BinOp a .Mod b pos) (dOp oMod da db) := de_bin op_mod od_I ha hb
theorem de_pow (ha : DE X E a da) (hb : DE X E b db) : DE X E (.BinOp a .Pow b pos) (dOp oPow da db) := de_bin op_pow od_I ha hb
theorem de_lt (ha : DE X E a da) (hb : DE X E b db) : DE X E (.Compare a [.Lt] [b] pos) (dOp oLt da db) := de_cmp op_lt od_B0 ha hb
theorem de_le (ha : DE X E a da) (hb : DE X E b db) : DE X E (.Compare a [.LtE] [b] pos) (dOp oLe da db) := de_cmp op_le od_B0 ha hb
theorem de_gt (ha : DE X E a da) (hb : DE X E b db) : DE X E (.Compare a [.Gt] [b] pos) (dOp oGt da db) := de_cmp op_gt od_B0 ha hb
theorem de_ge (ha : DE X E a da) (hb : DE X E b db) : DE X E (.Compare a [.GtE] [b] pos) (dOp oGe da db) := de_cmp op_ge od_B0 ha hb
theorem db_lt (ha : DE X E a da) (hb : DE X E b db) : DB X E (.Compare a [.Lt] [b] pos) (dTst (dOp oLt da db)) := db_cmp op_lt od_B0 ha hb
theorem db_le (ha : DE X E a da) (hb : DE X E b db) : DB X E (.Compare a [.LtE] [b] pos) (dTst (dOp oLe da db)) := db_cmp op_le od_B0 ha hb
theorem db_gt (ha : DE X E a da) (hb : DE X E b db) : DB X E (.Compare a [.Gt] [b] pos) (dTst (dOp oGt da db)) := db_cmp op_gt od_B0 ha hb
theorem db_ge (ha : DE X E a da) (hb : DE X E b db) : DB X E (.Compare a [.GtE] [b] pos) (dTst (dOp oGe da db)) := db_cmp op_ge od_B0 ha hb
/-- -n -/
def dNeg (da : DT_) : DT_ := fun env Q E => da env (fun x => match x with | .it i => Q (.it (-i)) | _ => False) E
theorem de_neg (ha : DE X E a da) : DE X E (.UnaryOp .USub a pos) (dNeg da) := by
  obtain ⟨t, p, q⟩ := ha.run
  refine ⟨_, pe_un un_neg p, fun Z S H σ env Q Qd Ed g r l h k => ?_⟩
  refine q Z S H σ env _ _ Ed g r l h fun v H1 S1 x s1 g1 r1 h1 => ?_
  split at h1
  · cases r1
    exact ⟨_, rfl, k _ H1 S1 _ s1 g1 (.it _) h1⟩
  · exact h1.elim
/-- a < b < c of ints -/
def dChain (o o' : D → D → DK → Prop) (da db dc : DT_) : DT_ := fun env Q E => da env (fun x => db env (fun y => o x y fun z => match z with | .bl true => dc env (fun w => o' y w Q) E | .bl false => Q (.bl false) | _ => False) E) E
theorem de_chain {op op' : CmpOp} {r r' : R2} {o o' : D → D → DK → Prop} (ho : OpR X (compareOp op) r) (od : ∀ S, OpD S r o) (ho' : OpR X (compareOp op') r') (od' : ∀ S, OpD S r' o') (ha : DE X E a da) (hb : DE X E b db) (hc : DE X E c dc)
    (hm : lastMarks [op, op'] [b, c] = false := by with_unfolding_all rfl) : DE X E (.Compare a [op, op'] [b, c] pos) (dChain o o' da db dc) := by
  obtain ⟨ta, pa, ra⟩ := ha.run
  obtain ⟨tb, pb, rb⟩ := hb.run
  obtain ⟨tc, pc, rc⟩ := hc.run
  refine ⟨_, pe_chain ho ho' pa pb pc hm, fun Z S H σ env Q Qd Ed g r l h k => ?_⟩
  refine ra Z S H σ env _ _ Ed g r l h fun x H1 S1 dx s1 g1 r1 h1 => ?_
  refine rb Z S1 H1 σ env _ _ Ed g1 (r.step s1) (l.step s1 g1) h1 fun y H2 S2 dy s2 g2 r2 h2 => ?_
  refine od S2 H2 x y dx dy _ _ g2 (r1.le s2.le) r2 h2 fun v H3 S3 z s3 g3 r3 h3 => ?_
  have s13 := (s1.trans g1 s2).trans g2 s3
  split at h3
  · cases r3
    refine ⟨true, rfl, ?_⟩
    rw [if_pos rfl]
    refine rc Z S3 H3 σ env _ _ Ed g3 (r.step s13) (l.step s13 g3) h3 fun w H4 S4 dw s4 g4 r4 h4 => ?_
    exact od' S4 H4 y w dy dw Q Qd g4 ((r2.le s3.le).le s4.le) r4 h4 ((k.step s13 g3).step s4 g4)
  · cases r3
    refine ⟨false, rfl, ?_⟩
    rw [if_neg Bool.false_ne_true]
    exact k _ H3 S3 _ s13 g3 (.bl false) h3
  · exact h3.elim
theorem db_chain {op op' : CmpOp} {r r' : R2} {o o' : D → D → DK → Prop} (ho : OpR X (compareOp op) r) (od : ∀ S, OpD S r o) (ho' : OpR X (compareOp op') r') (od' : ∀ S, OpD S r' o') (ha : DE X E a da) (hb : DE X E b db) (hc : DE X E c dc)
    (hm : lastMarks [op, op'] [b, c] = false := by with_unfolding_all rfl) : DB X E (.Compare a [op, op'] [b, c] pos) (dTst (dChain o o' da db dc)) := by
  obtain ⟨ta, pa, ra⟩ := ha.run
  obtain ⟨tb, pb, rb⟩ := hb.run
  obtain ⟨tc, pc, rc⟩ := hc.run
  refine ⟨_, pt_chain ho ho' pa pb pc hm, fun Z S H σ env Q Qd Ed g r l h k => ?_⟩
  refine ra Z S H σ env _ _ Ed g r l h fun x H1 S1 dx s1 g1 r1 h1 => ?_
  refine rb Z S1 H1 σ env _ _ Ed g1 (r.step s1) (l.step s1 g1) h1 fun y H2 S2 dy s2 g2 r2 h2 => ?_
  refine od S2 H2 x y dx dy _ _ g2 (r1.le s2.le) r2 h2 fun v H3 S3 z s3 g3 r3 h3 => ?_
  have s13 := (s1.trans g1 s2).trans g2 s3
  split at h3
  · cases r3
    refine ⟨true, rfl, ?_⟩
    rw [if_pos rfl]
    refine rc Z S3 H3 σ env _ _ Ed g3 (r.step s13) (l.step s13 g3) h3 fun w H4 S4 dw s4 g4 r4 h4 => ?_
    refine od' S4 H4 y w dy dw _ _ g4 ((r2.le s3.le).le s4.le) r4 h4 fun v' H5 S5 z' s5 g5 r5 h5 => ?_
    split at h5
    · cases r5
      exact ⟨_, rfl, k _ _ _ ((s13.trans g3 s4).trans g4 s5) g5 h5⟩
    · exact h5.elim
  · cases r3
    refine ⟨false, rfl, ?_⟩
    rw [if_neg Bool.false_ne_true]
    exact ⟨false, rfl, k _ H3 S3 s13 g3 h3⟩
  · exact h3.elim

/-! ### is None -/
def isNon : D → Bool | .non => true | _ => false
theorem rp_non {t : Option Bx} {F : Hp} {v : V} {d : D} (r : Rp t F v d) : decide (v = .non) = isNon d := by
  cases r <;> rfl
def dIsN (da : DT_) : DT_ := fun env Q E => da env (fun x => Q (.bl (isNon x))) E
def dNotN (da : DT_) : DT_ := fun env Q E => da env (fun x => Q (.bl (!isNon x))) E
theorem de_isN {j p} (ha : DE X E a da) : DE X E (.Compare a [.Is] [.Constant .none j p] pos) (dIsN da) := by
  obtain ⟨t, p, q⟩ := ha.run
  refine ⟨_, pe_cmp (pc_isN p) rfl, fun Z S H σ env Q Qd Ed g r l h k => ?_⟩
  refine q Z S H σ env _ _ Ed g r l h fun v H1 S1 x s1 g1 r1 h1 => ?_
  rw [rp_non r1]
  exact k _ H1 S1 _ s1 g1 (.bl _) h1
theorem de_notN {j p} (ha : DE X E a da) : DE X E (.Compare a [.IsNot] [.Constant .none j p] pos) (dNotN da) := by
  obtain ⟨t, p, q⟩ := ha.run
  refine ⟨_, pe_cmp (pc_notN p) rfl, fun Z S H σ env Q Qd Ed g r l h k => ?_⟩
  refine q Z S H σ env _ _ Ed g r l h fun v H1 S1 x s1 g1 r1 h1 => ?_
  rw [rp_non r1]
  exact k _ H1 S1 _ s1 g1 (.bl _) h1
theorem db_isN {j p} (ha : DE X E a da) : DB X E (.Compare a [.Is] [.Constant .none j p] pos) (dTst (dIsN da)) := by
  obtain ⟨t, p, q⟩ := ha.run
  refine ⟨_, pt_cmp (pc_isN p) rfl, fun Z S H σ env Q Qd Ed g r l h k => ?_⟩
  refine q Z S H σ env _ _ Ed g r l h fun v H1 S1 x s1 g1 r1 h1 => ?_
  rw [rp_non r1]
  exact ⟨_, rfl, k _ H1 S1 s1 g1 h1⟩
theorem db_notN {j p} (ha : DE X E a da) : DB X E (.Compare a [.IsNot] [.Constant .none j p] pos) (dTst (dNotN da)) := by
  obtain ⟨t, p, q⟩ := ha.run
  refine ⟨_, pt_cmp (pc_notN p) rfl, fun Z S H σ env Q Qd Ed g r l h k => ?_⟩
  refine q Z S H σ env _ _ Ed g r l h fun v H1 S1 x s1 g1 r1 h1 => ?_
  rw [rp_non r1]
  exact ⟨_, rfl, k _ H1 S1 s1 g1 h1⟩

/-! ### isinstance of built-in classes -/
def tyD : D → String
  | .non => "NoneType" | .bl _ => "bool" | .it _ => "int" | .st _ => "str" | .tp _ => "tuple" | .ls _ => "list" | .dc _ => "dict" | .bx k _ => if k then "list" else "dict"
def isT (T : String) (d : D) : Bool := (kitB (tyD d) T).getD false
def KitAll (T : String) : Prop := ∀ d : D, ∃ b, kitB (tyD d) T = some b
theorem kit_all {T : String} (h : (["NoneType", "bool", "int", "str", "tuple", "list", "dict"].all fun a => (kitB a T).isSome) = true) : KitAll T := by
  intro d
  have h' : ∀ a ∈ ["NoneType", "bool", "int", "str", "tuple", "list", "dict"], (kitB a T).isSome = true := by simpa only [List.all_eq_true] using h
  exact Option.isSome_iff_exists.mp (h' _ (by cases d <;> simp only [tyD] <;> (try split) <;> simp))
theorem ty_of {K : PySem.W.Frag} {S : Sta} {H : Hp} (g : Good S H) {v : V} {d : D} (r : Rp S.bx S.F v d) : TyX K H v (.type (tyD d)) := by
  cases r with
  | non => exact .base .non
  | bl b => exact .base (.bl b)
  | it i => exact .base (.int i)
  | st s => exact .base (.str s)
  | tp e _ => exact .base (.tup (g.fz _ _ e))
  | ls e _ => exact .base (.lst (g.fz _ _ e))
  | dc e _ => exact .base (.dK (g.fz _ _ e))
  | @bx x P e _ =>
    have h1 := x.ty H (g.bx _ e)
    simp only [tyD]
    split at h1
    · next hk => obtain ⟨xs, h1⟩ := h1; rw [if_pos hk]; exact .base (.lst h1)
    · next hk => obtain ⟨xs, h1⟩ := h1; rw [if_neg hk]; exact .base (.dK h1)
def dIsi (T : String) (da : DT_) : DT_ := fun env Q E => da env (fun x => Q (.bl (isT T x))) E
theorem de_isi {T : String} {y : Str} {p p2 : Pos} (hg : Gl X "isinstance") (hm : X.mg "isinstance" = none) (hg2 : Gl X y) (hm2 : X.mg y = none) (hv2 : bootBuiltins y = some (.type T)) (hk : KitAll T) (ha : DE X E a da)
    (hn : y ≠ "__name__" := by decide) (hdb : (y == ("__debug__" : Str)) = false := by decide) (he : starEach [a, .Name y p2] X.env = (false, eval a X.env) :: starEach [.Name y p2] X.env := by rfl)
    (he2 : starEach [.Name y p2] X.env = (false, eval (.Name y p2) X.env) :: starEach [] X.env := by rfl) (hpl : (backTo pos (starEach [.Name y p2] X.env)).any (·.1) = false := by rfl) :
    DE X E (.Call (.Name "isinstance" p) [a, .Name y p2] [] pos) (dIsi T da) := by
  obtain ⟨t, pa, q⟩ := ha.run
  refine ⟨_, pe_callB call_isi hg hm (by decide +kernel) (pa_cons pa (pa_cons (pe_bltn (v := .ty T) hg2 hm2 hv2 rfl hn hdb) pa_nil he2) he) (by decide) (by decide) he hpl, fun Z S H σ env Q Qd Ed g r l h k => ?_⟩
  refine q Z S H σ env _ _ Ed g r l h fun v H1 S1 x s1 g1 r1 h1 => ?_
  obtain ⟨b, eb⟩ := hk x
  refine ⟨v, .ty T, _, _, b, rfl, .ty T, ty_of g1 r1, kit_ty eb, ?_⟩
  refine k _ H1 S1 _ s1 g1 (.bl b) ?_
  have : isT T x = b := by unfold isT; rw [eb]; rfl
  rw [← this]; exact h1
theorem kit_int : KitAll "int" := kit_all (by decide +kernel)
theorem kit_bool : KitAll "bool" := kit_all (by decide +kernel)
theorem kit_str : KitAll "str" := kit_all (by decide +kernel)
theorem kit_tuple : KitAll "tuple" := kit_all (by decide +kernel)
theorem kit_list : KitAll "list" := kit_all (by decide +kernel)
theorem kit_dict : KitAll "dict" := kit_all (by decide +kernel)
def isInt : D → Bool | .bl _ => true | .it _ => true | _ => false
def isBool : D → Bool | .bl _ => true | _ => false
def isStr : D → Bool | .st _ => true | _ => false
def isTup : D → Bool | .tp _ => true | _ => false
def isLst : D → Bool | .ls _ => true | .bx true _ => true | _ => false
theorem isT_int : ∀ d : D, isT "int" d = isInt d
  | .non => show (kitB "NoneType" "int").getD false = false from by decide +kernel
  | .bl _ => show (kitB "bool" "int").getD false = true from by decide +kernel
  | .it _ => show (kitB "int" "int").getD false = true from by decide +kernel
  | .st _ => show (kitB "str" "int").getD false = false from by decide +kernel
  | .tp _ => show (kitB "tuple" "int").getD false = false from by decide +kernel
  | .ls _ => show (kitB "list" "int").getD false = false from by decide +kernel
  | .dc _ => show (kitB "dict" "int").getD false = false from by decide +kernel
  | .bx false _ => show (kitB "dict" "int").getD false = false from by decide +kernel
  | .bx true _ => show (kitB "list" "int").getD false = false from by decide +kernel
theorem isT_bool : ∀ d : D, isT "bool" d = isBool d
  | .non => show (kitB "NoneType" "bool").getD false = false from by decide +kernel
  | .bl _ => show (kitB "bool" "bool").getD false = true from by decide +kernel
  | .it _ => show (kitB "int" "bool").getD false = false from by decide +kernel
  | .st _ => show (kitB "str" "bool").getD false = false from by decide +kernel
  | .tp _ => show (kitB "tuple" "bool").getD false = false from by decide +kernel
  | .ls _ => show (kitB "list" "bool").getD false = false from by decide +kernel
  | .dc _ => show (kitB "dict" "bool").getD false = false from by decide +kernel
  | .bx false _ => show (kitB "dict" "bool").getD false = false from by decide +kernel
  | .bx true _ => show (kitB "list" "bool").getD false = false from by decide +kernel
theorem isT_str : ∀ d : D, isT "str" d = isStr d
  | .non => show (kitB "NoneType" "str").getD false = false from by decide +kernel
  | .bl _ => show (kitB "bool" "str").getD false = false from by decide +kernel
  | .it _ => show (kitB "int" "str").getD false = false from by decide +kernel
  | .st _ => show (kitB "str" "str").getD false = true from by decide +kernel
  | .tp _ => show (kitB "tuple" "str").getD false = false from by decide +kernel
  | .ls _ => show (kitB "list" "str").getD false = false from by decide +kernel
  | .dc _ => show (kitB "dict" "str").getD false = false from by decide +kernel
  | .bx false _ => show (kitB "dict" "str").getD false = false from by decide +kernel
  | .bx true _ => show (kitB "list" "str").getD false = false from by decide +kernel
theorem isT_tuple : ∀ d : D, isT "tuple" d = isTup d
  | .non => show (kitB "NoneType" "tuple").getD false = false from by decide +kernel
  | .bl _ => show (kitB "bool" "tuple").getD false = false from by decide +kernel
  | .it _ => show (kitB "int" "tuple").getD false = false from by decide +kernel
  | .st _ => show (kitB "str" "tuple").getD false = false from by decide +kernel
  | .tp _ => show (kitB "tuple" "tuple").getD false = true from by decide +kernel
  | .ls _ => show (kitB "list" "tuple").getD false = false from by decide +kernel
  | .dc _ => show (kitB "dict" "tuple").getD false = false from by decide +kernel
  | .bx false _ => show (kitB "dict" "tuple").getD false = false from by decide +kernel
  | .bx true _ => show (kitB "list" "tuple").getD false = false from by decide +kernel
theorem isT_list : ∀ d : D, isT "list" d = isLst d
  | .non => show (kitB "NoneType" "list").getD false = false from by decide +kernel
  | .bl _ => show (kitB "bool" "list").getD false = false from by decide +kernel
  | .it _ => show (kitB "int" "list").getD false = false from by decide +kernel
  | .st _ => show (kitB "str" "list").getD false = false from by decide +kernel
  | .tp _ => show (kitB "tuple" "list").getD false = false from by decide +kernel
  | .ls _ => show (kitB "list" "list").getD false = true from by decide +kernel
  | .dc _ => show (kitB "dict" "list").getD false = false from by decide +kernel
  | .bx false _ => show (kitB "dict" "list").getD false = false from by decide +kernel
  | .bx true _ => show (kitB "list" "list").getD false = true from by decide +kernel

/-! ### len, subscripts, slices -/
def oLen (xs : List D) (Q : DK) : Prop := match xs with
  | [.tp ys] => Q (.it ys.length)
  | [.ls ys] => Q (.it ys.length)
  | [.st z] => szOk z.length ∧ Q (.it z.length)
  | _ => False
theorem cd_len (S : Sta) {K : PySem.W.Frag} : CallD S (fun xs H Q => ∃ x n, xs = [x] ∧ LenV K x H n ∧ Q (.int (n : Nat)) H) oLen := by
  intro H vs ds Q Qd g r h k
  unfold oLen at h
  split at h
  · next ys =>
    cases r with
    | cons r1 r2 =>
      cases r2
      cases r1 with
      | tp e rr => exact ⟨_, _, rfl, .inr ⟨_, SqT.of (g.fz _ _ e), rfl⟩, by rw [rr.length]; exact k.now g (.it _) h⟩
  · next ys =>
    cases r with
    | cons r1 r2 =>
      cases r2
      cases r1 with
      | ls e rr => exact ⟨_, _, rfl, .inl ⟨_, SqL.of (g.fz _ _ e), rfl⟩, by rw [rr.length]; exact k.now g (.it _) h⟩
  · next z =>
    cases r with
    | cons r1 r2 =>
      cases r2
      cases r1
      exact ⟨_, _, rfl, ⟨h.1, rfl⟩, k.now g (.it _) h.2⟩
  · exact h.elim
theorem de_len {u : DA_} {e : Expr} {p : Pos} (hg : Gl X "len") (hm : X.mg "len" = none) (ha : DA X E [e] u) (he : starEach [e] X.env = (false, eval e X.env) :: starEach [] X.env := by rfl) : DE X E (.Call (.Name "len" p) [e] [] pos) (dCB oLen u) :=
  de_callB call_len (fun S => cd_len S) hg hm PySem.boot_len ha (by decide) (by decide) he rfl
/-- xs[i] -/
def oIx (x y : D) (Q : DK) : Prop := match x, y with
  | .tp xs, .it i => match atI xs i with | some d => Q d | none => False
  | .ls xs, .it i => match atI xs i with | some d => Q d | none => False
  | .st z, .it i => szOk z.length ∧ match atI z.cps.toList i with | some c => Q (.st ⟨#[c]⟩) | none => False
  | _, _ => False
theorem atI_rp {t : Option Bx} {F : Hp} {vs : List V} {ds : List D} (r : RpL t F vs ds) {i : Int} {d : D} (h : atI ds i = some d) : ∃ v, atI vs i = some v ∧ Rp t F v d := by
  unfold atI at h ⊢
  rw [← r.length] at h
  cases e : ixN vs.length i with
  | none => rw [e] at h; cases h
  | some j =>
    rw [e] at h
    obtain ⟨v, h1, h2⟩ := r.getD (i := j) h
    exact ⟨v, h1, h2⟩
theorem od_ix {K : PySem.W.Frag} (S : Sta) : OpD S (rIx K) oIx := by
  intro H x y dx dy Q Qd g rx ry h k
  unfold oIx at h
  split at h
  · cases ry
    cases rx with
    | tp e r =>
      split at h
      · next d ed =>
        obtain ⟨v, h1, h2⟩ := atI_rp r ed
        exact .inr (.inl ⟨_, _, _, v, rfl, rfl, SqT.of (g.fz _ _ e), h1, k.now g h2 h⟩)
      · exact h.elim
  · cases ry
    cases rx with
    | ls e r =>
      split at h
      · next d ed =>
        obtain ⟨v, h1, h2⟩ := atI_rp r ed
        exact .inl ⟨_, _, _, v, rfl, rfl, SqL.of (g.fz _ _ e), h1, k.now g h2 h⟩
      · exact h.elim
  · cases ry; cases rx
    obtain ⟨hz, h⟩ := h
    split at h
    · next c ec => exact .inr (.inr ⟨_, _, c, rfl, rfl, hz, ec, k.now g (.st _) h⟩)
    · exact h.elim
  · exact h.elim
theorem de_ix (ha : DE X E a da) (hb : DE X E b db) (hs : PlainIx b := by exact fun _ _ => rfl) : DE X E (.Subscript a b pos) (dOp oIx da db) := by
  obtain ⟨ta, pa, ra⟩ := ha.run
  obtain ⟨tb, pb, rb⟩ := hb.run
  refine ⟨_, pe_ix ix_seq pa pb hs, fun Z S H σ env Q Qd Ed g r l h k => ?_⟩
  refine ra Z S H σ env _ _ Ed g r l h fun x H1 S1 dx s1 g1 r1 h1 => ?_
  refine rb Z S1 H1 σ env _ _ Ed g1 (r.step s1) (l.step s1 g1) h1 fun y H2 S2 dy s2 g2 r2 h2 => ?_
  exact od_ix S2 H2 x y dx dy Q Qd g2 (r1.le s2.le) r2 h2 ((k.step s1 g1).step s2 g2)
/-- xs[lo:hi] -/
def cutD (xs : List D) (lo hi : Option Int) : List D := (xs.drop (HT.sIx xs.length 0 lo)).take (HT.sIx xs.length xs.length hi - HT.sIx xs.length 0 lo)
theorem RpL.cut {t : Option Bx} {F : Hp} {vs : List V} {ds : List D} (r : RpL t F vs ds) (lo hi : Option Int) : RpL t F (cutV vs lo hi) (cutD ds lo hi) := by
  unfold cutV cutD
  rw [r.length]
  exact (r.drop _).take _
def oSl (x : D) (lo hi : Option Int) (Q : DK) : Prop := match x with
  | .tp xs => Q (.tp (cutD xs lo hi))
  | .ls xs => Q (.ls (cutD xs lo hi))
  | .st z => szOk z.length ∧ Q (.st (cutS z lo hi))
  | _ => False
abbrev DO_ := Env' → (Option Int → Prop) → EK → Prop
def ContO (S : Sta) (H : Hp) (Qd : Option Int → Prop) (Q : Option Int → Hp → Prop) : Prop := ∀ b H' S', Stp S H S' H' → Good S' H' → Qd b → Q b H'
structure DO (X : Cx) (E : XK) (e : Option Expr) (d : DO_) : Prop where
  run : ∃ t, PO X e t ∧ ∀ Z S H σ env Q Qd Ed, Good S H → Rel Z S H σ env → XLink X.mg S H Ed E → d env Qd Ed → ContO S H Qd Q → t σ H Q
def dNoPart : DO_ := fun _ Q _ => Q none
def dPart (da : DT_) : DO_ := fun env Q E => da env (fun x => match x with | .it i => Q (some i) | _ => False) E
theorem do_none : DO X E none dNoPart := ⟨_, po_none, fun _ S H _ _ _ _ _ g _ _ h k => k none H S (.refl S H) g h⟩
theorem do_some (ha : DE X E a da) : DO X E (some a) (dPart da) := by
  obtain ⟨t, p, q⟩ := ha.run
  refine ⟨_, po_some p, fun Z S H σ env Q Qd Ed g r l h k => ?_⟩
  refine q Z S H σ env _ _ Ed g r l h fun v H1 S1 x s1 g1 r1 h1 => ?_
  split at h1
  · cases r1
    exact ⟨_, rfl, k _ H1 S1 s1 g1 h1⟩
  · exact h1.elim
def dSl (da : DT_) (dl dh : DO_) : DT_ := fun env Q E => da env (fun x => dl env (fun lo => dh env (fun hi => oSl x lo hi Q) E) E) E
def rSlAny (K : PySem.W.Frag) : V → Option Int → Option Int → Hp → VK → Prop := fun x lo hi H Q => rSlA K x lo hi H Q ∨ rSlL K x lo hi H Q ∨ rSlS x lo hi H Q
theorem sl_any : SlR X (rSlAny X.K) := sl_tupA.or (sl_list.or sl_str)
theorem cut_whole {xs : List D} {lo hi : Option Int} (h : HT.sIx xs.length 0 lo = 0 ∧ HT.sIx xs.length xs.length hi = xs.length) : cutD xs lo hi = xs := by
  unfold cutD
  rw [h.1, h.2, List.drop_zero, Nat.sub_zero, List.take_length]
theorem de_slice {lo hi : Option Expr} {dl dh : DO_} {p2 : Pos} (ha : DE X E a da) (hl : DO X E lo dl) (hh : DO X E hi dh) : DE X E (.Subscript a (.Slice lo hi none p2) pos) (dSl da dl dh) := by
  obtain ⟨ta, pa, ra⟩ := ha.run
  obtain ⟨tl, pl, rl⟩ := hl.run
  obtain ⟨th, ph, rh⟩ := hh.run
  refine ⟨_, pe_slice sl_any pa pl ph, fun Z S H σ env Q Qd Ed g r l h k => ?_⟩
  refine ra Z S H σ env _ _ Ed g r l h fun x H1 S1 dx s1 g1 r1 h1 => ?_
  refine rl Z S1 H1 σ env _ _ Ed g1 (r.step s1) (l.step s1 g1) h1 fun o1 H2 S2 s2 g2 h2 => ?_
  have s12 := s1.trans g1 s2
  refine rh Z S2 H2 σ env _ _ Ed g2 (r.step s12) (l.step s12 g2) h2 fun o2 H3 S3 s3 g3 h3 => ?_
  have s13 := s12.trans g2 s3
  have k3 := k.step s13 g3
  have r3 := (r1.le s2.le).le s3.le
  unfold oSl at h3
  split at h3
  · next ds =>
    cases r3 with
    | tp e rr =>
      refine .inl ⟨_, _, rfl, SqT.of (g3.fz _ _ e), fun w => ?_, fun _ => k3.tup g3 (rr.cut o1 o2) h3⟩
      rw [rr.length] at w
      rw [cut_whole w] at h3
      exact k3.now g3 (.tp e rr) h3
  · next ds =>
    cases r3 with
    | ls e rr => exact .inr (.inl ⟨_, _, rfl, SqL.of (g3.fz _ _ e), k3.lst g3 (rr.cut o1 o2) h3⟩)
  · cases r3
    exact .inr (.inr ⟨_, rfl, h3.1, k3.now g3 (.st _) h3.2⟩)
  · exact h3.elim
/-- list(x), tuple(x) -/
def oList (xs : List D) (Q : DK) : Prop := match xs with | [.tp ys] => Q (.ls ys) | [.ls ys] => Q (.ls ys) | _ => False
def oTuple (xs : List D) (Q : DK) : Prop := match xs with | [.tp ys] => Q (.tp ys) | [.ls ys] => Q (.tp ys) | _ => False
theorem de_list {u : DA_} {e : Expr} {p : Pos} (hg : Gl X "list") (hm : X.mg "list" = none) (ha : DA X E [e] u) (he : starEach [e] X.env = (false, eval e X.env) :: starEach [] X.env := by rfl) : DE X E (.Call (.Name "list" p) [e] [] pos) (dCB oList u) := by
  refine de_callTy call_list_of (fun S => ?_) hg hm (by decide +kernel) ha (by decide) (by decide) he rfl
  intro H vs ds Q Qd g r h k
  unfold oList at h
  split at h
  · cases r with
    | cons r1 r2 =>
      cases r2
      cases r1 with
      | tp e rr => exact ⟨_, _, rfl, .inr (SqT.of (g.fz _ _ e)), k.lst g rr h⟩
  · cases r with
    | cons r1 r2 =>
      cases r2
      cases r1 with
      | ls e rr => exact ⟨_, _, rfl, .inl (SqL.of (g.fz _ _ e)), k.lst g rr h⟩
  · exact h.elim
theorem de_tuple {u : DA_} {e : Expr} {p : Pos} (hg : Gl X "tuple") (hm : X.mg "tuple" = none) (ha : DA X E [e] u) (he : starEach [e] X.env = (false, eval e X.env) :: starEach [] X.env := by rfl) : DE X E (.Call (.Name "tuple" p) [e] [] pos) (dCB oTuple u) := by
  refine de_callTy call_tuple_of (fun S => ?_) hg hm (by decide +kernel) ha (by decide) (by decide) he rfl
  intro H vs ds Q Qd g r h k
  unfold oTuple at h
  split at h
  · cases r with
    | cons r1 r2 =>
      cases r2
      cases r1 with
      | tp e rr => exact ⟨_, _, rfl, .inr ⟨SqT.of (g.fz _ _ e), k.now g (.tp e rr) h⟩⟩
  · cases r with
    | cons r1 r2 =>
      cases r2
      cases r1 with
      | ls e rr => exact ⟨_, _, rfl, .inl ⟨SqL.of (g.fz _ _ e), k.tup g rr h⟩⟩
  · exact h.elim
end
end Dl

set_option Elab.async false
set_option linter.all false
set_option maxRecDepth 100000
set_option maxHeartbeats 4000000
/-! Dl4: statements, loops, comprehensions over data. -/
namespace Dl
open PySem PySem.Spec PyProof.Rows L2

structure Base where
  S0 : Sta
  H0 : Hp
  F : Hp
  T : Option Bx
structure At (B : Base) (S : Sta) (H : Hp) : Prop where
  g : Good S H
  p : Stp B.S0 B.H0 S H
  f : Le B.T B.F S.bx S.F
theorem Le.trans {t1 t2 t3 : Option Bx} {F1 F2 F3 : Hp} (a : Le t1 F1 t2 F2) (b : Le t2 F2 t3 F3) : Le t1 F1 t3 F3 := ⟨fun x o e => b.f x o (a.f x o e), fun x e => b.t x (a.t x e)⟩
theorem Le.refl (t : Option Bx) (F : Hp) : Le t F t F := ⟨fun _ _ e => e, fun _ e => e⟩
theorem At.step {B : Base} {S S' : Sta} {H H' : Hp} (a : At B S H) (p : Stp S H S' H') (g : Good S' H') : At B S' H' := ⟨g, a.p.trans a.g p, a.f.trans p.le⟩
/-- the base with what is frozen by now -/
def Base.now (B : Base) (S : Sta) : Base := { B with F := S.F, T := S.bx }
theorem At.now {B : Base} {S : Sta} {H : Hp} (a : At B S H) : At (B.now S) S H := ⟨a.g, a.p, .refl _ _⟩
theorem At.was {B : Base} {S S' : Sta} {H H' : Hp} (a : At B S H) (b : At (B.now S) S' H') : At B S' H' := ⟨b.g, b.p, a.f.trans b.f⟩
structure DEnds where
  nx : Env' → Prop
  rt : DK
  ex : EK
  bk : Env' → Prop := fun _ => False
  ct : Env' → Prop := fun _ => False
structure Lnk (mg : Str → Option Value) (E : XK) (B : Base) (De : DEnds) (Dn : Ends) : Prop where
  nx : ∀ S σ env H, At B S H → Rel B.H0 S H σ env → De.nx env → Dn.nx σ H
  bk : ∀ S σ env H, At B S H → Rel B.H0 S H σ env → De.bk env → Dn.bk σ H
  ct : ∀ S σ env H, At B S H → Rel B.H0 S H σ env → De.ct env → Dn.ct σ H
  rt : ∀ S v d H, At B S H → Rp S.bx S.F v d → De.rt d → Dn.rt v H
  ex : XLink mg B.S0 B.H0 De.ex E
theorem Lnk.xl {mg : Str → Option Value} {E : XK} {B : Base} {De : DEnds} {Dn : Ends} (l : Lnk mg E B De Dn) {S : Sta} {H : Hp} (a : At B S H) : XLink mg S H De.ex E := l.ex.step a.p a.g
abbrev DS_ := DEnds → Env' → Prop
structure DS (X : Cx) (E : XK) (st : Stmt) (d : DS_) : Prop where
  run : ∃ t, PS X st t ∧ ∀ B De Dn, Lnk X.mg E B De Dn → ∀ S σ env H, At B S H → Rel B.H0 S H σ env → d De env → t Dn σ H
structure DSs (X : Cx) (E : XK) (st : List Stmt) (d : DS_) : Prop where
  run : ∃ t, PSs X st t ∧ ∀ B De Dn, Lnk X.mg E B De Dn → ∀ S σ env H, At B S H → Rel B.H0 S H σ env → d De env → t Dn σ H

section
variable {X : Cx} {E : XK} {pos : Pos} {st : Stmt} {rest : List Stmt} {d u : DS_} {e : Expr} {de : DT_}
def dNext : DS_ := fun D env => D.nx env
def dSeq (d u : DS_) : DS_ := fun D env => d { D with nx := u D } env
theorem ds_nil : DSs X E [] dNext := ⟨_, pss_nil, fun _ _ _ l S σ env H a r h => l.nx S σ env H a r h⟩
theorem ds_cons (h1 : DS X E st d) (h2 : DSs X E rest u) : DSs X E (st :: rest) (dSeq d u) := by
  obtain ⟨t, p, q⟩ := h1.run
  obtain ⟨t', p', q'⟩ := h2.run
  refine ⟨_, pss_cons p p', fun B De Dn l S σ env H a r h => ?_⟩
  exact q B { De with nx := u De } { Dn with nx := t' Dn } ⟨fun S σ env H a r h => q' B De Dn l S σ env H a r h, l.bk, l.ct, l.rt, l.ex⟩ S σ env H a r h
theorem ds_one (h1 : DS X E st d) : DSs X E [st] d := let ⟨t, p, q⟩ := h1.run; ⟨t, pss_one p, q⟩
theorem ds_pass : DS X E (.Pass pos) dNext := ⟨_, ps_pass, fun _ _ _ l S σ env H a r h => l.nx S σ env H a r h⟩
theorem ds_doc {x j p} : DS X E (.Expr (.Constant (.str x) j p) pos) dNext := ⟨_, ps_doc, fun _ _ _ l S σ env H a r h => l.nx S σ env H a r h⟩
def dBreak : DS_ := fun D env => D.bk env
def dContinue : DS_ := fun D env => D.ct env
theorem ds_break : DS X E (.Break pos) dBreak := ⟨_, ps_break, fun _ _ _ l S σ env H a r h => l.bk S σ env H a r h⟩
theorem ds_continue : DS X E (.Continue pos) dContinue := ⟨_, ps_continue, fun _ _ _ l S σ env H a r h => l.ct S σ env H a r h⟩
def dRet (de : DT_) : DS_ := fun D env => de env D.rt D.ex
theorem ds_ret (he : DE X E e de) : DS X E (.Return (some e) pos) (dRet de) := by
  obtain ⟨t, p, q⟩ := he.run
  refine ⟨_, ps_ret p, fun B De Dn l S σ env H a r h => ?_⟩
  exact q _ S H σ env _ _ _ a.g r (l.xl a) h fun v H1 S1 x s1 g1 r1 h1 => l.rt S1 v x H1 (a.step s1 g1) r1 h1
def dRetN : DS_ := fun D _ => D.rt .non
theorem ds_retN : DS X E (.Return none pos) dRetN := ⟨_, ps_retN, fun _ _ _ l S σ env H a r h => l.rt S _ _ H a .non h⟩
def dDrop (de : DT_) : DS_ := fun D env => de env (fun _ => D.nx env) D.ex
theorem ds_expr (he : DE X E e de) (hs : swapsWith e none pos.line X.env = pure false := by rfl) : DS X E (.Expr e pos) (dDrop de) := by
  obtain ⟨t, p, q⟩ := he.run
  refine ⟨_, ps_expr p hs, fun B De Dn l S σ env H a r h => ?_⟩
  exact q _ S H σ env _ _ _ a.g r (l.xl a) h fun v H1 S1 x s1 g1 r1 h1 => l.nx S1 σ env H1 (a.step s1 g1) (r.step s1) h1
def dIfS (t : DB_) (d u : DS_) : DS_ := fun D env => t env (fun b => match b with | true => d D env | false => u D env) D.ex
theorem ds_if {c : Expr} {ss rs : List Stmt} {t : DB_} (hc : DB X E c t) (hd : DSs X E ss d) (hu : DSs X E rs u) : DS X E (.If c ss rs pos) (dIfS t d u) := by
  obtain ⟨tc, p, q⟩ := hc.run
  obtain ⟨t1, p1, q1⟩ := hd.run
  obtain ⟨t2, p2, q2⟩ := hu.run
  refine ⟨_, ps_if p p1 p2, fun B De Dn l S σ env H a r h => ?_⟩
  refine q _ S H σ env _ _ _ a.g r (l.xl a) h fun b H1 S1 s1 g1 h1 => ?_
  cases b with
  | true => rw [if_pos rfl]; exact q1 B De Dn l S1 σ env H1 (a.step s1 g1) (r.step s1) h1
  | false => rw [if_neg Bool.false_ne_true]; exact q2 B De Dn l S1 σ env H1 (a.step s1 g1) (r.step s1) h1

/-! ### targets -/
abbrev DG_ := D → Env' → (Env' → Prop) → Prop
/-- vs: the slots that the target may store to -/
structure DG (X : Cx) (tg : Expr) (vs : List Nat) (d : DG_) : Prop where
  run : ∃ g, PG X tg g ∧ ∀ Z S H σ env x dx Q Qd, Rel Z S H σ env → Good S H → Rp S.bx S.F x dx → d dx env Qd → (∀ σ2 env2, Rel Z S H σ2 env2 → Qd env2 → (∀ ws : List Nat, (∀ i ∈ vs, i ∈ ws) → wipe σ2 ws = wipe σ ws) → Q σ2 H) → g x σ H Q
structure DGs (X : Cx) (tg : List Expr) (vs : List Nat) (d : List D → Env' → (Env' → Prop) → Prop) : Prop where
  run : ∃ g, PGs X tg g ∧ ∀ Z S H σ env xs ds Q Qd, Rel Z S H σ env → Good S H → RpL S.bx S.F xs ds → d ds env Qd → (∀ σ2 env2, Rel Z S H σ2 env2 → Qd env2 → (∀ ws : List Nat, (∀ i ∈ vs, i ∈ ws) → wipe σ2 ws = wipe σ ws) → Q σ2 H) → g xs σ H Q
theorem wipe_set {σ : L2.St} {i : Nat} {v : Option V} : ∀ {ws : List Nat}, i ∈ ws → wipe (σ.set i v) ws = wipe σ ws
  | j :: ws, h => by
    unfold wipe
    by_cases e : i ∈ ws
    · rw [wipe_set e]
    · have : i = j := by
        rcases List.mem_cons.mp h with h | h
        · exact h
        · exact absurd h e
      subst this
      have wc : ∀ (ws : List Nat) (τ : L2.St) (w : Option V), i ∉ ws → wipe (τ.set i w) ws = (wipe τ ws).set i w := by
        intro ws
        induction ws with
        | nil => intro τ w _; rfl
        | cons k r ih =>
          intro τ w hk
          unfold wipe
          rw [ih τ w (fun z => hk (List.mem_cons_of_mem _ z))]
          have : i ≠ k := fun z => hk (by rw [z]; exact List.mem_cons_self)
          rw [List.set_comm _ _ this]
      rw [wc ws σ v e, List.set_set]
def dgName (i : Nat) : DG_ := fun x env Q => Q (env.set i (.v x))
theorem dg_name (i : Nat) {x : Str} (hN : X.N.Nodup) (hi : X.N[i]? = some x := by rfl) (hx : Loc X.env.scope x := by first | exact Or.inl rfl | exact Or.inr rfl) (hf : X.fn x = true ∨ X.env.scope.names.lookup x = some .local := by first | exact .inl rfl | exact .inr rfl | assumption) :
    DG X (.Name x pos) [i] (dgName i) := by
  refine ⟨_, pg_name hN hi hx hf, fun Z S H σ env x dx Q Qd r g rx h k => ?_⟩
  exact k _ _ (r.put rx) h fun ws hw => wipe_set (hw i (by simp))
def dgNil : List D → Env' → (Env' → Prop) → Prop := fun xs env Q => match xs with | [] => Q env | _ => False
def dgCons (d : DG_) (u : List D → Env' → (Env' → Prop) → Prop) : List D → Env' → (Env' → Prop) → Prop := fun xs env Q => match xs with | x :: r => d x env (fun env1 => u r env1 Q) | [] => False
theorem dgs_nil : DGs X [] [] dgNil := by
  refine ⟨_, pgs_nil, fun Z S H σ env xs ds Q Qd r g rx h k => ?_⟩
  cases rx with
  | nil => exact ⟨rfl, k σ env r h fun _ _ => rfl⟩
  | cons => exact h.elim
theorem dgs_cons {tgs : List Expr} {vs ws : List Nat} {d : DG_} {u : List D → Env' → (Env' → Prop) → Prop} (h1 : DG X e vs d) (h2 : DGs X tgs ws u) (hs : (assignEach (e :: tgs) X.env).map (·.2) = assign e X.env :: (assignEach tgs X.env).map (·.2) := by rfl) :
    DGs X (e :: tgs) (vs ++ ws) (dgCons d u) := by
  obtain ⟨g1, p1, q1⟩ := h1.run
  obtain ⟨g2, p2, q2⟩ := h2.run
  refine ⟨_, pgs_cons p1 p2 hs, fun Z S H σ env xs ds Q Qd r g rx h k => ?_⟩
  cases rx with
  | nil => exact h.elim
  | cons rx rs =>
    refine ⟨_, _, rfl, q1 Z S H σ env _ _ _ _ r g rx h fun σ2 env2 r2 h2 w2 => ?_⟩
    refine q2 Z S H σ2 env2 _ _ _ _ r2 g rs h2 fun σ3 env3 r3 h3 w3 => ?_
    exact k σ3 env3 r3 h3 fun l hl => (w3 l fun i hi => hl i (List.mem_append_right _ hi)).trans (w2 l fun i hi => hl i (List.mem_append_left _ hi))
def dgTup (n : Nat) (u : List D → Env' → (Env' → Prop) → Prop) : DG_ := fun x env Q => match x with | .tp xs => xs.length = n ∧ u xs env Q | _ => False
theorem dg_tup {tgs : List Expr} {k : Nat} {vs : List Nat} {n : Nat} {u : List D → Env' → (Env' → Prop) → Prop} (hc : X.calm = true) (h : DGs X tgs vs u) (hn : (assignEach tgs X.env).length = n := by rfl) (hst : (assignEach tgs X.env).findIdx? (·.1) = none := by rfl) :
    DG X (.Tuple tgs k pos) vs (dgTup n u) := by
  obtain ⟨g, p, q⟩ := h.run
  refine ⟨_, pg_tup hc p hn hst, fun Z S H σ env x dx Q Qd r g rx h k => ?_⟩
  unfold dgTup at h
  split at h
  · cases rx with
    | tp e rr => exact ⟨_, _, rfl, SqT.of (g.fz _ _ e), by rw [rr.length]; exact h.1, q Z S H σ env _ _ _ _ r g rr h.2 k⟩
  · exact h.elim
def dgLst (n : Nat) (u : List D → Env' → (Env' → Prop) → Prop) : DG_ := fun x env Q => match x with | .ls xs => xs.length = n ∧ u xs env Q | _ => False
theorem dg_lst {tgs : List Expr} {k : Nat} {vs : List Nat} {n : Nat} {u : List D → Env' → (Env' → Prop) → Prop} (hc : X.calm = true) (h : DGs X tgs vs u) (hn : (assignEach tgs X.env).length = n := by rfl) (hst : (assignEach tgs X.env).findIdx? (·.1) = none := by rfl) :
    DG X (.Tuple tgs k pos) vs (dgLst n u) := by
  obtain ⟨g, p, q⟩ := h.run
  refine ⟨_, pg_lst hc p hn hst, fun Z S H σ env x dx Q Qd r g rx h k => ?_⟩
  unfold dgLst at h
  split at h
  · cases rx with
    | ls e rr => exact ⟨_, _, rfl, SqL.of (g.fz _ _ e), by rw [rr.length]; exact h.1, q Z S H σ env _ _ _ _ r g rr h.2 k⟩
  · exact h.elim
/-- target = value -/
def dAsg (de : DT_) (dg : DG_) : DS_ := fun D env => de env (fun x => dg x env D.nx) D.ex
theorem ds_asg {tg : Expr} {vs : List Nat} {dg : DG_} (he : DE X E e de) (hg : DG X tg vs dg) (hs : swapsWithSole [tg] e pos.line X.env = pure false := by rfl) (hw : swappedStores [tg] e X.env = pure none := by rfl)
    (h1 : (assignEach [tg] X.env).map (·.2) = [assign tg X.env] := by rfl) : DS X E (.Assign [tg] e pos) (dAsg de dg) := by
  obtain ⟨t, p, q⟩ := he.run
  obtain ⟨g, pg, qg⟩ := hg.run
  refine ⟨_, ps_asg p pg hs hw h1, fun B De Dn l S σ env H a r h => ?_⟩
  refine q _ S H σ env _ _ _ a.g r (l.xl a) h fun v H1 S1 x s1 g1 r1 h1 => ?_
  exact qg _ S1 H1 σ env v x _ _ (r.step s1) g1 r1 h1 fun σ2 env2 r2 h2 _ => l.nx S1 σ2 env2 H1 (a.step s1 g1) r2 h2
def dSet (i : Nat) (de : DT_) : DS_ := fun D env => de env (fun x => D.nx (env.set i (.v x))) D.ex
theorem ds_set (i : Nat) {x : Str} {p' : Pos} (he : DE X E e de) (hN : X.N.Nodup) (hi : X.N[i]? = some x := by rfl) (hx : Loc X.env.scope x := by first | exact Or.inl rfl | exact Or.inr rfl) (hs : swapsWith e (some (.Name x p')) pos.line X.env = pure false := by rfl)
    (hf : X.fn x = true ∨ X.env.scope.names.lookup x = some .local := by first | exact .inl rfl | exact .inr rfl | assumption) : DS X E (.Assign [.Name x p'] e pos) (dSet i de) := by
  obtain ⟨t, p, q⟩ := he.run
  refine ⟨_, ps_set hN hi hx p hs hf, fun B De Dn l S σ env H a r h => ?_⟩
  refine q _ S H σ env _ _ _ a.g r (l.xl a) h fun v H1 S1 x s1 g1 r1 h1 => ?_
  exact l.nx S1 _ _ H1 (a.step s1 g1) ((r.step s1).put r1) h1
/-- a, b = x, y -/
def dPar (i j : Nat) (da : DA_) : DS_ := fun D env => da env (fun xs => match xs with | [x, y] => D.nx ((env.set i (.v x)).set j (.v y)) | _ => False) D.ex
theorem ds_par {i j : Nat} {x y : Str} {a b : Expr} {da : DA_} {px py pt : Pos} {kt k2 pt2} (hc : X.calm = true) (hN : X.N.Nodup) (ha : DA X E [a, b] da)
    (hw : swappedStores [.Tuple [.Name x px, .Name y py] kt pt] (.Tuple [a, b] k2 pt2) X.env = pure (some [x, y])) (hi : X.N[i]? = some x := by rfl) (hj : X.N[j]? = some y := by rfl) (hij : i ≠ j := by decide)
    (hx : X.env.scope.names.lookup x = some .local := by rfl) (hy : X.env.scope.names.lookup y = some .local := by rfl)
    (hs : swapsWithSole [.Tuple [.Name x px, .Name y py] kt pt] (.Tuple [a, b] k2 pt2) pos.line X.env = pure false := by rfl) :
    DS X E (.Assign [.Tuple [.Name x px, .Name y py] kt pt] (.Tuple [a, b] k2 pt2) pos) (dPar i j da) := by
  obtain ⟨t, p, q⟩ := ha.run
  refine ⟨_, ps_par hc hN hi hj hij hx hy p hw hs, fun B De Dn l S σ env H a r h => ?_⟩
  refine q _ S H σ env _ _ _ a.g r (l.xl a) h fun vs H1 S1 xs s1 g1 r1 h1 => ?_
  split at h1
  · cases r1 with
    | cons r1 r2 =>
      cases r2 with
      | cons r2 r3 =>
        cases r3
        exact ⟨_, _, rfl, l.nx S1 _ _ H1 (a.step s1 g1) (((r.step s1).put r1).put r2) h1⟩
  · exact h1.elim
/-- name op= e, ints -/
def dAug (i : Nat) (f : Int → Int → Int) (de : DT_) : DS_ := fun D env => match env[i]? with | some (.v (.it n)) => de env (fun x => match x with | .it m => D.nx (env.set i (.v (.it (f n m)))) | _ => False) D.ex | _ => False
theorem ds_aug {i : Nat} {x : Str} {op : Operator} {f : Int → Int → Int} {p' : Pos} (ho : PIp X op (ipI f)) (he : DE X E e de) (hN : X.N.Nodup) (hi : X.N[i]? = some x := by rfl) (hx : Loc X.env.scope x := by first | exact Or.inl rfl | exact Or.inr rfl)
    (hf : X.fn x = true ∨ X.env.scope.names.lookup x = some .local := by first | exact .inl rfl | exact .inr rfl | assumption) : DS X E (.AugAssign (.Name x p') op e pos) (dAug i f de) := by
  obtain ⟨t, p, q⟩ := he.run
  refine ⟨_, ps_aug hN hi hx p ho hf, fun B De Dn l S σ env H a r h => ?_⟩
  unfold dAug at h
  split at h
  · next n en =>
    obtain ⟨v, hv, rv⟩ := r.at_ i _ en
    cases rv
    refine ⟨_, hv, q _ S H σ env _ _ _ a.g r (l.xl a) h fun v H1 S1 x s1 g1 r1 h1 => ?_⟩
    split at h1
    · cases r1
      exact ⟨_, _, rfl, rfl, l.nx S1 _ _ H1 (a.step s1 g1) ((r.step s1).put (.it _)) h1⟩
    · exact h1.elim
  · exact h.elim

/-! ### lists of one's own -/
/-- a new list -/
structure DN (X : Cx) (E : XK) (e : Expr) (d : Env' → (List D → Prop) → EK → Prop) : Prop where
  run : ∃ t, PE X e t ∧ ∀ Z S H σ env Q (Qd : List D → Prop) Ed, Good S H → Rel Z S H σ env → XLink X.mg S H Ed E → d env Qd Ed →
    (∀ p H' S' vs xs, Stp S H S' H' → Good S' H' → H p = none → H' p = some (.lst vs) → S'.F p = none → ¬ InB S'.bx p → RpL S'.bx S'.F vs xs → Qd xs → Q (.ref p) H') → t σ H Q
abbrev DN_ := Env' → (List D → Prop) → EK → Prop
def dFrz (d : DN_) : DT_ := fun env Q E => d env (fun xs => Q (.ls xs)) E
theorem DN.toDE {d : DN_} (h : DN X E e d) : DE X E e (dFrz d) := by
  obtain ⟨t, p, q⟩ := h.run
  refine ⟨_, p, fun Z S H σ env Q Qd Ed g r l h k => ?_⟩
  refine q Z S H σ env _ _ Ed g r l h fun p H' S' vs xs s' g' h0 h1 h2 h3 r' h' => ?_
  have le : Le S'.bx S'.F S'.bx (upd S'.F p (.lst vs)) := ⟨fun b o e => by
    have : b ≠ p := fun z => by rw [z, h2] at e; cases e
    rw [upd_ne this]; exact e, fun x e => e⟩
  refine k _ H' ⟨S'.bx, upd S'.F p (.lst vs)⟩ (.ls xs) ⟨fun a o e => le.f a o (s'.ext a o e), fun a o e => ?_, s'.box, s'.keep⟩ (good_frz g' h1 h3) (.ls (by show upd S'.F p (.lst vs) p = _; exact upd_same) (r'.le le)) h'
  by_cases z : a = p
  · rw [z]; exact .inr h0
  · have e' : upd S'.F p (.lst vs) a = some o := e
    rw [upd_ne z] at e'
    exact s'.new a o e'
end
end Dl

set_option Elab.async false
set_option linter.all false
set_option maxRecDepth 100000
set_option maxHeartbeats 4000000
/-! Dl5: what is walked: lists, tuples, ranges, enumerate, zip of two and three, texts. -/
namespace Dl
open PySem PySem.Spec PyProof.Rows L2

/-! ### enumerate of anything, one argument -/
set_option maxHeartbeats 8000000 in
theorem enumNew1 {v : Value} {ob : Obj} {Hq : Heap → Prop} (B : Begins v ob Hq) :
    Meets (Builtin.«enumerate.__new__» ⟨[.type "enumerate", v], []⟩) (fun _ R s0 => Hq s0.heap ∧ R (.ok (.ret (.ref (s0.heap.push ob).objs.size)))
      { s0 with heap := (s0.heap.push ob).push { cls := .type "enumerate", data := .fields #[.none, .bool false, .ref s0.heap.objs.size, rawInt 0, .none, .none] } }) :=
  .of_wp fun P W A0 R0 s0 h0 => by
    obtain ⟨hh, gg, dd, tt, oo⟩ := s0; obtain ⟨hb, hr⟩ := h0
    have subE := sub_enumerate
    have begin_ : ∀ {A1 : Around} {E1 : Value → Shared → Prop} {Q1 : Value → Shared → Prop}, Q1 (.ref hh.objs.size) ⟨hh.push ob, gg, dd, tt, oo⟩ → wpAny (model P W) A1 (pyIter v) Q1 E1 ⟨hh, gg, dd, tt, oo⟩ :=
      fun z => B.iter P W _ _ ⟨hh, gg, dd, tt, oo⟩ _ hb z
    wp_walk using begin_
    refine wpAny_stack_any fun fr => wpAny_pure ?_
    split
    · rename_i cc _ _ _ _ _
      cases (cc == Value.type "enumerate") <;> (wp_walk using begin_; exact ⟨_, rfl, hr⟩)
    · wp_walk using begin_; exact ⟨_, rfl, hr⟩
section
variable {prog : Program} {w : World} {A : Around} {E : Value → Shared → Prop} {s : Shared}
theorem callEnum1 {v : Value} {ob : Obj} {Hq : Heap → Prop} {Q : Value → Shared → Prop} (B : Begins v ob Hq) (hb : Hq s.heap)
    (k : ∀ h', IsEnum h' (s.heap.objs.size + 1) s.heap.objs.size 0 .none → h'.get? s.heap.objs.size = some ob → (∀ b o, s.heap.get? b = some o → h'.get? b = some o) → Q (.ref (s.heap.objs.size + 1)) { s with heap := h' }) :
    wpAny (model prog w) A (call (.type "enumerate") [v]) Q E s := by
  refine callType_new F.called_enumerate (by decide) (F.typeCall_enumerate_1 _) (F.newCall_enumerate_1 _) (fun z => F.args_object_init_2 z _) F.entry_enumerate_new (enumNew1 B) ⟨hb, ?_⟩
  have sz : (s.heap.push ob).objs.size = s.heap.objs.size + 1 := Heap.size_push ..
  show _ ∧ _
  rw [sz]
  have isE : IsEnum ((s.heap.push ob).push { cls := .type "enumerate", data := .fields #[.none, .bool false, .ref s.heap.objs.size, rawInt 0, .none, .none] }) (s.heap.objs.size + 1) s.heap.objs.size 0 .none := by
    have q := Heap.get?_push_size (s.heap.push ob) (o := { cls := .type "enumerate", data := .fields #[.none, .bool false, .ref s.heap.objs.size, rawInt 0, .none, .none] }) rfl
    rw [sz] at q; exact q
  exact ⟨⟨_, isE, rfl⟩, k _ isE (Heap.get?_push_of_some _ (Heap.get?_push_size _ B.free)) fun b o z => Heap.get?_push_of_some _ (Heap.get?_push_of_some _ z)⟩
end

/-! ### an iterator of new tuples, from the library's -/
/-- src: what is asked of the heap that is walked; its: the items of the tuple at each turn -/
def Itg (src : Hp → Prop) (n : Nat) (its : Nat → List V) : It :=
  ⟨fun i H => i < n ∧ src H, fun i H x H' => ∃ T, x = .ref T ∧ H T = none ∧ H' = upd H T (.tup (its i)), fun i H => i = n ∧ src H⟩
theorem turn_g {P : Program} {w : World} {K : PySem.W.Frag} {tg : Expr} {I : Addr} {fp wr sp : List Addr} {n : Nat} {src : Hp → Prop} {its : Nat → List V} {tn : Nat → Heap → Prop} {Src : Heap → Prop}
    (hI : I ∈ fp) (hw : ∀ b ∈ wr, b ∈ fp) (hl : ∀ i, i < n → (its i).length ≤ sizeLine)
    (obj : ∀ i h, tn i h → ∀ b ∈ fp, ∃ o, h.get? b = some o ∧ ∀ v, o.data ≠ .cell v) (keep : ∀ i h h', tn i h → (∀ b ∈ fp, ∀ o, h.get? b = some o → h'.get? b = some o) → tn i h')
    (hs : ∀ (X : Cx), X.prog = P → X.w = w → X.K = K → ∀ pins s σ H, Inv X pins σ H s → src H → Src s.heap)
    (self : ∀ (A : Around) (i : Nat) (s : Shared) (Q E : Value → Shared → Prop), tn i s.heap → Q (.ref I) s → wpAny (model P w) A (pyIter (.ref I)) Q E s)
    (G : ∀ A : Around, A.handled = none → GoesN P w A tg I (fp ++ sp) wr n (fun i h0 v h => ∃ T us, v = Value.ref T ∧ h0.objs.size ≤ T ∧ Vals (its i) us ∧ h.IsTuple T us.toArray) (fun i h => tn i h ∧ Src h)) :
    Turn P w K tg (Itg src n its) fp I tn where
  mem := hI
  obj := obj
  keep := keep
  item := by
    intro X hP hw' hK hc i pins s σ H E IV hf st hg
    subst hP hw' hK
    refine (G X.A (IV.ok.hd hc)).goes i s _ E hg.1 ⟨st, hs X rfl rfl rfl pins s σ H IV hg.2⟩ fun v h' tk hY st' hk htk => ?_
    obtain ⟨T, us, rfl, hT, rv, o, ho, hcl, m, hd⟩ := hY
    have new : ObjOk X.prog X.w (upd H T (.tup (its i))) h' T (.tup (its i)) := ⟨hl i hg.1, us, rv, ⟨o, ho, hcl, m, hd⟩⟩
    have I1 := IV.turnedNew (t' := tk) (ch := fp) (fun b ob hb q => hk b ob (fun z => hb (hw b z)) q) hf hT new
    refine ⟨.ref T, _, I1, rfl, ⟨T, rfl, IV.hok.fresh hT, rfl⟩, st'.1, fun b hb => ?_⟩
    obtain ⟨ob, eo, _⟩ := obj i _ st b hb
    rw [upd_ne (Nat.ne_of_lt (Nat.lt_of_lt_of_le (Heap.lt_size eo) hT))]
    exact (hf b hb).1
  done := by
    intro X hP hw' hK hc i pins s σ H E IV hf st hg
    subst hP hw' hK
    obtain ⟨rfl, hsrc⟩ := hg
    refine wpAny_mono ((G X.A (IV.ok.hd hc)).stops s (fun s1 => Inv X pins σ H s1) E ⟨st, hs X rfl rfl rfl pins s σ H IV hsrc⟩ fun h' tk hk htk => IV.turnedL (t' := tk) (ch := fp) (fun b ob hb q => hk b ob (fun z => hb (hw b z)) q) hf) (fun _ _ z => z) fun _ _ z => z
  self := self

/-! ### lists and tuples alike -/
def ItIs (b : Bool) (h : Heap) (it l : Addr) (i : Nat) : Prop := if b = true then h.IsListIter it l i else h.IsTupleIter it l i
def SqIs (b : Bool) (h : Heap) (l : Addr) (us : Array Value) : Prop := if b = true then h.IsList l us else h.IsTuple l us
def ItOb (b : Bool) (l : Addr) : Obj := if b = true then { cls := .type "list_iterator", data := .fields #[.ref l, .int 0 0] } else { cls := .type "tuple_iterator", data := .fields #[.ref l, .int 0 0] }
def SqB (b : Bool) (K : PySem.W.Frag) (H : Hp) (l : Addr) (xs : List V) : Prop := if b = true then SqL K H l xs else SqT K H l xs
theorem itIs_obj {b : Bool} {h : Heap} {it l : Addr} {i : Nat} (st : ItIs b h it l i) : ∃ o, h.get? it = some o ∧ ∀ v, o.data ≠ .cell v := by
  cases b with
  | true => obtain ⟨o, e, _, d⟩ := (show h.IsListIter it l i from st); exact ⟨o, e, fun v z => by rw [d] at z; cases z⟩
  | false => obtain ⟨o, e, _, d⟩ := (show h.IsTupleIter it l i from st); exact ⟨o, e, fun v z => by rw [d] at z; cases z⟩
theorem itIs_keep {b : Bool} {h h' : Heap} {it l : Addr} {i : Nat} (st : ItIs b h it l i) (k : ∀ o, h.get? it = some o → h'.get? it = some o) : ItIs b h' it l i := by
  cases b with
  | true => exact Heap.IsListIter.at (show h.IsListIter it l i from st) k
  | false => exact Heap.IsTupleIter.at (show h.IsTupleIter it l i from st) k
theorem itIs_new {b : Bool} {h : Heap} {it l : Addr} (e : h.get? it = some (ItOb b l)) : ItIs b h it l 0 := by
  cases b with
  | true => exact ⟨_, e, rfl, rfl⟩
  | false => exact ⟨_, e, rfl, rfl⟩
theorem begins_b (b : Bool) (l : Addr) (us : Array Value) : Begins (.ref l) (ItOb b l) fun h => SqIs b h l us := by
  cases b with
  | true => exact begins_list l us
  | false => exact begins_tuple l us
theorem begins_s (b : Bool) (l : Addr) (xs : List V) : Begins (.ref l) (ItOb b l) fun h => ∃ us, Vals xs us ∧ SqIs b h l us.toArray where
  iter := fun P w A E s Q h q => let ⟨us, _, hs⟩ := h; (begins_b b l us.toArray).iter P w A E s Q hs q
  keeps := fun h h' ⟨us, r, hs⟩ k => ⟨us, r, (begins_b b l us.toArray).keeps h h' hs k⟩
  free := (begins_b b l #[]).free
theorem draws_b {prog : Program} {w : World} {A : Around} (hh : A.handled = none) (b : Bool) (it l : Addr) (hne : l ≠ it) (us : Array Value) :
    Draws prog w A it [it, l] us.size (fun i v => us[i]? = some v) (fun i h => ItIs b h it l i ∧ SqIs b h l us) := by
  cases b with
  | true => exact Draws.list hh it l hne us
  | false => exact Draws.tuple hh it l hne us
theorem draws_s {prog : Program} {w : World} {A : Around} (hh : A.handled = none) (b : Bool) (it l : Addr) (hne : l ≠ it) (xs : List V) :
    Draws prog w A it [it, l] xs.length (fun i v => ∃ x, xs[i]? = some x ∧ RelV x v) (fun i h => ItIs b h it l i ∧ ∃ us, Vals xs us ∧ SqIs b h l us.toArray) where
  live := fun i h st => let ⟨us, _, q⟩ := st.2; (draws_b (prog := prog) (w := w) hh b it l hne us.toArray).live i h ⟨st.1, q⟩
  frame := fun i h h' st k => by
    obtain ⟨us, r, q⟩ := st.2
    have z := (draws_b (prog := prog) (w := w) hh b it l hne us.toArray).frame i h h' ⟨st.1, q⟩ k
    exact ⟨z.1, us, r, z.2⟩
  item := fun i s Q E hi st hQ => by
    obtain ⟨us, r, q⟩ := st.2
    refine (draws_b (prog := prog) (w := w) hh b it l hne us.toArray).item i s Q E (by have := r.length; simp; omega) ⟨st.1, q⟩ fun x h' tk hx st' sb => ?_
    refine hQ x h' tk ?_ ⟨st'.1, us, r, st'.2⟩ sb
    have hx' : us[i]? = some x := by simpa using hx
    have : xs[i]? = some xs[i] := List.getElem?_eq_getElem hi
    obtain ⟨u, h1, h2⟩ := r.get this
    rw [h1] at hx'; cases hx'
    exact ⟨_, this, h2⟩
  done := fun s Q E st hE => by
    obtain ⟨us, r, q⟩ := st.2
    have e : us.toArray.size = xs.length := by have := r.length; simp; omega
    refine (draws_b (prog := prog) (w := w) hh b it l hne us.toArray).done s Q E ⟨?_, q⟩ hE
    rw [e]; exact st.1
theorem sq_src {X : Cx} {pins : List (Addr × Obj)} {s : Shared} {σ : L2.St} {H : Hp} {b : Bool} {l : Addr} {xs : List V} (I : Inv X pins σ H s) (h : SqB b X.K H l xs) : ∃ us, Vals xs us ∧ SqIs b s.heap l us.toArray := by
  cases b with
  | true => obtain ⟨us, r, p, _⟩ := I.list (show SqL X.K H l xs from h); exact ⟨us, r, p.isList⟩
  | false => obtain ⟨us, r, p, _⟩ := I.tuple (show SqT X.K H l xs from h); exact ⟨us, r, p⟩

/-! ### for i, x in enumerate(list or tuple) -/
def enIts (xs : List V) (i : Nat) : List V := [.int (i : Nat), xs.getD i .non]
theorem getD_of {xs : List V} {i : Nat} {x : V} (h : xs[i]? = some x) : xs.getD i .non = x := by
  rw [List.getD_eq_getElem?_getD, h]; rfl
def iEnumB (K : PySem.W.Frag) (ta : TA) : TI := fun σ H R => ta σ H fun vs H1 => ∃ a xs b, vs = [.ref a] ∧ SqB b K H1 a xs ∧ R (Itg (fun H => SqB b K H a xs) xs.length (enIts xs)) H1
theorem pi_enumB {X : Cx} {e : Expr} {ta : TA} {p pos tpos : Pos} {elts : List Expr} {kk : Nat} (hg : Gl X "enumerate") (hm : X.mg "enumerate" = none) (ha : PA X [e] ta) (hs : starEach [e] X.env = [(false, eval e X.env)] := by rfl) :
    PI X (.Tuple elts kk tpos) (.Call (.Name "enumerate" p) [e] [] pos) (iEnumB X.K ta) := by
  refine ⟨fun pins s σ H R I h => ?_⟩
  refine Call_ (ld_blt I hg hm boot_enumerate (PyProof.Rows.callWith_type1 (thn (ha.run pos pins s σ H _ I h) fun us s1 ⟨vs, H1, I1, r1, q1⟩ => ?_) hs rfl))
  obtain ⟨a, xs, b, ex, hq, q⟩ := q1
  subst ex
  cases r1 with
  | cons r rr =>
    cases rr
    cases r
    have src0 := sq_src I1 hq
    have la : a < s1.heap.objs.size := by
      obtain ⟨us, _, z⟩ := src0
      cases b with
      | true => obtain ⟨o, z, _⟩ := (show s1.heap.IsList a us.toArray from z); exact Heap.lt_size z
      | false => obtain ⟨o, z, _⟩ := (show s1.heap.IsTuple a us.toArray from z); exact Heap.lt_size z
    refine callEnum1 (begins_s b a xs) src0 fun h' he hit hk => wpAny_pyIter_enum he ?_
    have I2 : Inv X pins σ H1 { s1 with heap := h' } := I1.kept (t' := s1.toks) hk
    have hne : (s1.heap.objs.size + 1 : Nat) ≠ s1.heap.objs.size := Nat.succ_ne_self _
    have ena : (s1.heap.objs.size + 1 : Nat) ≠ a := Nat.ne_of_gt (Nat.lt_succ_of_lt la)
    have tu : Turn X.prog X.w X.K (.Tuple elts kk tpos) (Itg (fun H => SqB b X.K H a xs) xs.length (enIts xs)) [s1.heap.objs.size + 1, s1.heap.objs.size] (s1.heap.objs.size + 1)
        (fun i h => (∃ old, IsEnum h (s1.heap.objs.size + 1) s1.heap.objs.size (0 + ((i : Nat) : Int)) old) ∧ ItIs b h s1.heap.objs.size a i) := by
      refine turn_g (wr := [s1.heap.objs.size + 1, s1.heap.objs.size]) (sp := [a]) (Src := fun h => ∃ us, Vals xs us ∧ SqIs b h a us.toArray) (by simp) (fun b hb => hb) (fun i _ => by show 2 ≤ sizeLine; decide) (fun i h st c hc => ?_) (fun i h h' st k => ?_)
        (fun Y e1 e2 e3 pins s σ H J hsrc => by rw [← e3] at hsrc; exact sq_src J hsrc) (fun A i s Q E st hQ => let ⟨_, he⟩ := st.1; wpAny_pyIter_enum he hQ) (fun A hh => ?_)
      · have e' : c = s1.heap.objs.size + 1 ∨ c = s1.heap.objs.size := by simpa using hc
        obtain ⟨⟨old, he⟩, hi⟩ := st
        rcases e' with z | z
        · rw [z]; exact ⟨_, he, fun v q => nomatch q⟩
        · rw [z]; exact itIs_obj hi
      · obtain ⟨⟨old, he⟩, hi⟩ := st
        exact ⟨⟨old, k _ (by simp) _ he⟩, itIs_keep hi fun o z => k _ (by simp) o z⟩
      · have G := GoesN.enumFrom (prog := X.prog) (w := X.w) (A := A) (elts := elts) (x1 := kk) (pos := tpos) 0 (draws_s (prog := X.prog) (w := X.w) (A := A.in1) hh b s1.heap.objs.size a (Nat.ne_of_lt la) xs) (s1.heap.objs.size + 1) hne (by simp; exact ena) (by simp)
        refine ⟨G.sub, fun i h h' st k => ?_, fun i s Q E hi st hQ => ?_, fun s Q E st hQ => ?_, fun i s Q E st hQ => G.self i s Q E ⟨st.1.1, st.1.2, st.2⟩ hQ⟩
        · have z := G.frame i h h' ⟨st.1.1, st.1.2, st.2⟩ k
          exact ⟨⟨z.1, z.2.1⟩, z.2.2⟩
        · refine G.goes i s Q E hi ⟨st.1.1, st.1.2, st.2⟩ fun v h' tk hY st' hk htk => hQ v h' tk ?_ ⟨⟨st'.1, st'.2.1⟩, st'.2.2⟩ hk htk
          obtain ⟨T, t, x, ev, hT, ⟨y, hy, ry⟩, hTup⟩ := hY
          refine ⟨T, [.int (0 + (i : Int)) t, x], ev, hT, ?_, hTup⟩
          unfold enIts
          rw [getD_of hy]
          exact .cons ⟨t, by rw [Int.zero_add]⟩ (.cons ry .nil)
        · exact G.stops s Q E ⟨st.1.1, st.1.2, st.2⟩ hQ
    refine ⟨s1.heap.objs.size + 1, [s1.heap.objs.size + 1, s1.heap.objs.size], _, _, H1, rfl, I2, tu, ⟨⟨.none, ?_⟩, itIs_new hit⟩, fun c hc => ?_, q⟩
    · show IsEnum _ _ _ (0 + ((0 : Nat) : Int)) _
      exact he
    · have e' : c = s1.heap.objs.size + 1 ∨ c = s1.heap.objs.size := by simpa using hc
      have hle : s1.heap.objs.size ≤ c := by
        rcases e' with z | z
        · rw [z]; exact Nat.le_add_right _ _
        · rw [z]; exact Nat.le_refl _
      exact I1.fpOk hle (I1.hok.fresh hle)

theorem sq_lt {b : Bool} {h : Heap} {a : Addr} {us : Array Value} (z : SqIs b h a us) : a < h.objs.size := by
  cases b with
  | true => obtain ⟨o, z, _⟩ := (show h.IsList a us from z); exact Heap.lt_size z
  | false => obtain ⟨o, z, _⟩ := (show h.IsTuple a us from z); exact Heap.lt_size z
/-! ### for x, y in zip(v1, v2), each a list or a tuple -/
def zpIts (xs ys : List V) (i : Nat) : List V := [xs.getD i .non, ys.getD i .non]
def iZipB (K : PySem.W.Frag) (ta : TA) : TI := fun σ H R => ta σ H fun vs H1 => ∃ a b xs ys k l, vs = [.ref a, .ref b] ∧ SqB k K H1 a xs ∧ SqB l K H1 b ys ∧ R (Itg (fun H => SqB k K H a xs ∧ SqB l K H b ys) (min xs.length ys.length) (zpIts xs ys)) H1
theorem pi_zipB {X : Cx} {e e2 : Expr} {ta : TA} {p pos tpos : Pos} {elts : List Expr} {kk : Nat} (hg : Gl X "zip") (hm : X.mg "zip" = none) (ha : PA X [e, e2] ta)
    (hs : starEach [e, e2] X.env = (false, eval e X.env) :: starEach [e2] X.env := by rfl) (hpl : (backTo pos (starEach [e2] X.env)).any (·.1) = false := by rfl) :
    PI X (.Tuple elts kk tpos) (.Call (.Name "zip" p) [e, e2] [] pos) (iZipB X.K ta) := by
  refine ⟨fun pins s σ H R I h => ?_⟩
  refine Call_ (ld_blt I hg hm PyProof.Rows.boot_zip (PyProof.Rows.callWith_type1 (thn (ha.run pos pins s σ H _ I h) fun us s1 ⟨vs, H1, I1, r1, q1⟩ => ?_) hs hpl))
  obtain ⟨a, b, xs, ys, k, l, ex, hqx, hqy, q⟩ := q1
  subst ex
  cases r1 with
  | cons r rr =>
    cases rr with
    | cons r' rr =>
      cases rr
      cases r
      cases r'
      have src1 := sq_src I1 hqx
      have src2 := sq_src I1 hqy
      have la : a < s1.heap.objs.size := let ⟨_, _, z⟩ := src1; sq_lt z
      have lb : b < s1.heap.objs.size := let ⟨_, _, z⟩ := src2; sq_lt z
      refine zip_begins2 (begins_s k a xs) (begins_s l b ys) src1 src2 fun h' hz hTI hTO h1 h2 hsz hk => wpAny_pyIter_zip hz ?_
      have I2 : Inv X pins σ H1 { s1 with heap := h' } := I1.kept (t' := s1.toks) hk
      generalize hN : s1.heap.objs.size = N at *
      have sep : ZipSep2 (N + 4) (N + 2) (N + 3) N (N + 1) [N, a] [N + 1, b] := zip_sep2 (fun c hc => by have e : c = a := by simpa using hc
                                                                                                         rw [e]; exact la) (fun c hc => by have e : c = b := by simpa using hc
                                                                                                                                           rw [e]; exact lb)
      have tu : Turn X.prog X.w X.K (.Tuple elts kk tpos) (Itg (fun H => SqB k X.K H a xs ∧ SqB l X.K H b ys) (min xs.length ys.length) (zpIts xs ys)) [N + 4, N + 2, N + 3, N, N + 1] (N + 4)
          (fun i h => IsZip h (N + 4) (N + 2) (N + 3) .none ∧ IsTupOf2 h (N + 2) (.ref N) (.ref (N + 1)) ∧ (∃ a1 a2, IsTupOf2 h (N + 3) a1 a2) ∧ ItIs k h N a i ∧ ItIs l h (N + 1) b i) := by
        refine turn_g (wr := [N + 4, N + 3, N, N + 1]) (sp := [a, b]) (Src := fun h => (∃ us, Vals xs us ∧ SqIs k h a us.toArray) ∧ ∃ us, Vals ys us ∧ SqIs l h b us.toArray) (by simp) (fun c hc => ?_) (fun i _ => by show 2 ≤ sizeLine; decide) (fun i h st c hc => ?_) (fun i h h' st kp => ?_)
          (fun Y e1 e2 e3 pins s σ H J hsrc => by rw [← e3] at hsrc; exact ⟨sq_src J hsrc.1, sq_src J hsrc.2⟩) (fun A i s Q E st hQ => wpAny_pyIter_zip st.1 hQ) (fun A hh => ?_)
        · have e' : c = N + 4 ∨ c = N + 3 ∨ c = N ∨ c = N + 1 := by simpa using hc
          rcases e' with z | z | z | z <;> (rw [z]; simp)
        · obtain ⟨s1, s2, ⟨x1, x2, s3⟩, s4, s5⟩ := st
          have e' : c = N + 4 ∨ c = N + 2 ∨ c = N + 3 ∨ c = N ∨ c = N + 1 := by simpa using hc
          rcases e' with z | z | z | z | z
          · rw [z]; exact ⟨_, s1, fun v q => nomatch q⟩
          · rw [z]; exact ⟨_, s2, fun v q => nomatch q⟩
          · rw [z]; exact ⟨_, s3, fun v q => nomatch q⟩
          · rw [z]; exact itIs_obj s4
          · rw [z]; exact itIs_obj s5
        · obtain ⟨s1, s2, ⟨x1, x2, s3⟩, s4, s5⟩ := st
          exact ⟨kp _ (by simp) _ s1, kp _ (by simp) _ s2, ⟨x1, x2, kp _ (by simp) _ s3⟩, itIs_keep s4 fun o z => kp _ (by simp) o z, itIs_keep s5 fun o z => kp _ (by simp) o z⟩
        · have G := GoesN.zip2 (prog := X.prog) (w := X.w) (A := A) (elts := elts) (x1 := kk) (pos := tpos) sep (draws_s (prog := X.prog) (w := X.w) (A := A.in1) hh k N a (Nat.ne_of_lt la) xs) (draws_s (prog := X.prog) (w := X.w) (A := A.in1) hh l (N + 1) b (Nat.ne_of_lt (Nat.lt_succ_of_lt lb)) ys)
          refine ⟨fun c hc => List.mem_append_left _ ?_, fun i h h' st kp => ?_, fun i s Q E hi st hQ => ?_, fun s Q E st hQ => ?_, fun i s Q E st hQ => G.self i s Q E ⟨st.1.1, st.1.2.1, st.1.2.2.1, ⟨st.1.2.2.2.1, st.2.1⟩, st.1.2.2.2.2, st.2.2⟩ hQ⟩
          · have e' : c = N + 4 ∨ c = N + 3 ∨ c = N ∨ c = N + 1 := by simpa using hc
            rcases e' with z | z | z | z <;> (rw [z]; simp)
          · have z := G.frame i h h' ⟨st.1.1, st.1.2.1, st.1.2.2.1, ⟨st.1.2.2.2.1, st.2.1⟩, st.1.2.2.2.2, st.2.2⟩ fun c hc => kp c (by
              simp only [List.mem_cons, List.mem_append, List.not_mem_nil, or_false] at hc ⊢
              rcases hc with z | z | z | (z | z) | (z | z) <;> simp [z])
            exact ⟨⟨z.1, z.2.1, z.2.2.1, z.2.2.2.1.1, z.2.2.2.2.1⟩, z.2.2.2.1.2, z.2.2.2.2.2⟩
          · refine G.goes i s Q E hi ⟨st.1.1, st.1.2.1, st.1.2.2.1, ⟨st.1.2.2.2.1, st.2.1⟩, st.1.2.2.2.2, st.2.2⟩ fun v h' tk hY z hk htk => hQ v h' tk ?_ ⟨⟨z.1, z.2.1, z.2.2.1, z.2.2.2.1.1, z.2.2.2.2.1⟩, z.2.2.2.1.2, z.2.2.2.2.2⟩ hk htk
            obtain ⟨T, x, y, ev, hT, ⟨x', hx, rx⟩, ⟨y', hy, ry⟩, hTup⟩ := hY
            refine ⟨T, [x, y], ev, hT, ?_, hTup⟩
            unfold zpIts
            rw [getD_of hx, getD_of hy]
            exact .cons rx (.cons ry .nil)
          · exact G.stops s Q E ⟨st.1.1, st.1.2.1, st.1.2.2.1, ⟨st.1.2.2.2.1, st.2.1⟩, st.1.2.2.2.2, st.2.2⟩ hQ
      refine ⟨N + 4, [N + 4, N + 2, N + 3, N, N + 1], _, _, H1, rfl, I2, tu, ⟨hz, hTI, ⟨_, _, hTO⟩, itIs_new h1, itIs_new h2⟩, fun c hc => ?_, q⟩
      have e' : c = N + 4 ∨ c = N + 2 ∨ c = N + 3 ∨ c = N ∨ c = N + 1 := by simpa using hc
      have hle : s1.heap.objs.size ≤ c := by
        rw [hN]
        rcases e' with z | z | z | z | z <;> (rw [z]; first | exact Nat.le_add_right _ _ | exact Nat.le_refl _)
      exact I1.fpOk hle (I1.hok.fresh hle)
end Dl

set_option Elab.async false
set_option linter.all false
set_option maxRecDepth 100000
set_option maxHeartbeats 4000000
/-! Dl6: loops, comprehensions, lists of one's own. -/
namespace Dl
open PySem PySem.Spec PyProof.Rows L2

/-! ### what is walked -/
abbrev DI_ := Env' → (List D → Prop) → EK → Prop
def Wlk (t : Option Bx) (F : Hp) (J : It) (xs : List D) : Prop := ∀ S H, Le t F S.bx S.F → Good S H → ∀ i : Nat,
  (∀ d, xs[i]? = some d → J.go i H ∧ ∀ v H2, J.yld i H v H2 → ∃ S2, Stp S H S2 H2 ∧ Good S2 H2 ∧ Rp S2.bx S2.F v d) ∧ (i = xs.length → J.stop i H)
structure DI (X : Cx) (E : XK) (tg iter : Expr) (d : DI_) : Prop where
  run : ∃ wi, PI X tg iter wi ∧ ∀ Z S H σ env R Rd Ed, Good S H → Rel Z S H σ env → XLink X.mg S H Ed E → d env Rd Ed →
    (∀ J H' S' xs, Stp S H S' H' → Good S' H' → Wlk S'.bx S'.F J xs → Rd xs → R J H') → wi σ H R
section
variable {X : Cx} {E : XK} {tg a b : Expr} {da db : DT_}
/-- a list or a tuple -/
def iSeq (K : PySem.W.Frag) (tl : TE) : TI := fun σ H R => tl σ H fun x H1 => ∃ p, x = .ref p ∧ (((∃ xs, SqL K H1 p xs) ∧ R (Itl K p) H1) ∨ ((∃ xs, SqT K H1 p xs) ∧ R (Itt K p) H1))
theorem pi_seq {l : Expr} {tl : TE} (hl : PE X l tl) : PI X tg l (iSeq X.K tl) := by
  refine ⟨fun pins s σ H R I h => thn (hl.run pins s σ H _ I h) fun v s1 ⟨x, H1, I1, r1, q1⟩ => ?_⟩
  obtain ⟨p, e, q⟩ := q1
  subst e
  cases r1
  have fpk : ∀ b ∈ [s1.heap.objs.size], FpOk X pins H1 b := fun b hb => by
    have e : b = s1.heap.objs.size := by simpa using hb
    rw [e]
    exact I1.fpOk (Nat.le_refl _) (I1.hok.fresh (Nat.le_refl _))
  rcases q with ⟨⟨xs, hq⟩, q⟩ | ⟨⟨xs, hq⟩, q⟩
  · obtain ⟨us, _, pl, _⟩ := I1.list hq
    refine wpAny_pyIter_list pl.isList ⟨_, [s1.heap.objs.size], _, _, H1, rfl, ?_, turn_list p _, ⟨_, Heap.get?_push_size _ rfl, rfl, rfl⟩, fpk, q⟩
    exact I1.kept (t' := s1.toks) fun b o e => Heap.get?_push_of_some _ e
  · obtain ⟨us, _, pt, _⟩ := I1.tuple hq
    refine wpAny_pyIter_tuple (show s1.heap.IsTuple p us.toArray from pt) ⟨_, [s1.heap.objs.size], _, _, H1, rfl, ?_, turn_tuple p _, ⟨_, Heap.get?_push_size _ rfl, rfl, rfl⟩, fpk, q⟩
    exact I1.kept (t' := s1.toks) fun b o e => Heap.get?_push_of_some _ e
theorem wlk_l {K : PySem.W.Frag} {t : Option Bx} {F : Hp} {p : Addr} {vs : List V} {xs : List D} (e : F p = some (.lst vs)) (r : RpL t F vs xs) : Wlk t F (Itl K p) xs := by
  intro S H le g i
  have hp := g.fz _ _ (le.f _ _ e)
  refine ⟨fun d hd => ?_, fun hi => ⟨vs, SqL.of hp, by rw [r.length]; omega⟩⟩
  obtain ⟨v, h1, h2⟩ := r.getD hd
  refine ⟨⟨vs, v, SqL.of hp, h1⟩, fun v' H2 hy => ?_⟩
  obtain ⟨rfl, hy⟩ := hy
  have := hy vs (SqL.of hp)
  rw [h1] at this; cases this
  exact ⟨S, .refl _ _, g, h2.le le⟩
theorem wlk_t {K : PySem.W.Frag} {t : Option Bx} {F : Hp} {p : Addr} {vs : List V} {xs : List D} (e : F p = some (.tup vs)) (r : RpL t F vs xs) : Wlk t F (Itt K p) xs := by
  intro S H le g i
  have hp := g.fz _ _ (le.f _ _ e)
  refine ⟨fun d hd => ?_, fun hi => ⟨vs, SqT.of hp, by rw [r.length]; omega⟩⟩
  obtain ⟨v, h1, h2⟩ := r.getD hd
  refine ⟨⟨vs, v, SqT.of hp, h1⟩, fun v' H2 hy => ?_⟩
  obtain ⟨rfl, hy⟩ := hy
  have := hy vs (SqT.of hp)
  rw [h1] at this; cases this
  exact ⟨S, .refl _ _, g, h2.le le⟩
def dSeqI (da : DT_) : DI_ := fun env R E => da env (fun x => match x with | .tp xs => R xs | .ls xs => R xs | _ => False) E
theorem di_seq (ha : DE X E a da) : DI X E tg a (dSeqI da) := by
  obtain ⟨t, p, q⟩ := ha.run
  refine ⟨_, pi_seq p, fun Z S H σ env R Rd Ed g r l h k => ?_⟩
  refine q Z S H σ env _ _ Ed g r l h fun v H1 S1 x s1 g1 r1 h1 => ?_
  split at h1
  · cases r1 with
    | tp e rr => exact ⟨_, rfl, .inr ⟨⟨_, SqT.of (g1.fz _ _ e)⟩, k _ H1 S1 _ s1 g1 (wlk_t e rr) h1⟩⟩
  · cases r1 with
    | ls e rr => exact ⟨_, rfl, .inl ⟨⟨_, SqL.of (g1.fz _ _ e)⟩, k _ H1 S1 _ s1 g1 (wlk_l e rr) h1⟩⟩
  · exact h1.elim
theorem rgL_get {lo : Int} {n i : Nat} {d : D} (h : ((List.range n).map fun j => D.it (lo + (j : Nat)))[i]? = some d) : i < n ∧ d = .it (lo + (i : Nat)) := by
  rw [List.getElem?_map] at h
  by_cases hi : i < n
  · rw [List.getElem?_range hi] at h
    exact ⟨hi, (Option.some.inj h).symm⟩
  · rw [List.getElem?_eq_none_iff.mpr (by simpa using hi)] at h; cases h
theorem wlk_r {t : Option Bx} {F : Hp} {lo : Int} {n : Nat} : Wlk t F (Itr lo n) ((List.range n).map fun j => D.it (lo + (j : Nat))) := by
  intro S H le g i
  refine ⟨fun d hd => ?_, fun hi => by rw [List.length_map, List.length_range] at hi; show n ≤ i; omega⟩
  obtain ⟨hi, rfl⟩ := rgL_get hd
  refine ⟨hi, fun v H2 hy => ?_⟩
  obtain ⟨rfl, rfl⟩ := hy
  exact ⟨S, .refl _ _, g, .it _⟩
def rgD (lo : Int) (n : Nat) : List D := (List.range n).map fun j => D.it (lo + (j : Nat))
abbrev in62 (i : Int) : Prop := -(2 ^ 62) ≤ i ∧ i < 2 ^ 62
def dRng1 (da : DA_) : DI_ := fun env R E => da env (fun xs => match xs with | [.it j] => in62 j ∧ R (rgD 0 j.toNat) | _ => False) E
def dRng2 (da : DA_) : DI_ := fun env R E => da env (fun xs => match xs with | [.it i, .it j] => in62 i ∧ in62 j ∧ R (rgD i (j - i).toNat) | _ => False) E
theorem di_range1 {u : DA_} {p pos : Pos} (hg : Gl X "range") (hm : X.mg "range" = none) (ha : DA X E [a] u) (hs : starEach [a] X.env = [(false, eval a X.env)] := by rfl) : DI X E tg (.Call (.Name "range" p) [a] [] pos) (dRng1 u) := by
  obtain ⟨t, p, q⟩ := ha.run
  refine ⟨_, pi_range1 hg hm p hs, fun Z S H σ env R Rd Ed g r l h k => ?_⟩
  refine q Z S H σ env _ _ Ed g r l h fun vs H1 S1 xs s1 g1 r1 h1 => ?_
  split at h1
  · cases r1 with
    | cons r1 r2 =>
      cases r2; cases r1
      exact ⟨_, rfl, h1.1.1, h1.1.2, k _ H1 S1 _ s1 g1 wlk_r h1.2⟩
  · exact h1.elim
theorem di_range2 {u : DA_} {p pos : Pos} (hg : Gl X "range") (hm : X.mg "range" = none) (ha : DA X E [a, b] u) (hs : starEach [a, b] X.env = [(false, eval a X.env), (false, eval b X.env)] := by rfl) (hs2 : starEach [b] X.env = [(false, eval b X.env)] := by rfl) :
    DI X E tg (.Call (.Name "range" p) [a, b] [] pos) (dRng2 u) := by
  obtain ⟨t, p, q⟩ := ha.run
  refine ⟨_, pi_range2 hg hm p hs hs2, fun Z S H σ env R Rd Ed g r l h k => ?_⟩
  refine q Z S H σ env _ _ Ed g r l h fun vs H1 S1 xs s1 g1 r1 h1 => ?_
  split at h1
  · cases r1 with
    | cons r1 r2 =>
      cases r2 with
      | cons r2 r3 =>
        cases r3; cases r1; cases r2
        exact ⟨_, _, rfl, ⟨h1.1.1, h1.1.2, h1.2.1.1, h1.2.1.2⟩, k _ H1 S1 _ s1 g1 wlk_r h1.2.2⟩
  · exact h1.elim
/-- enumerate -/
def enD (xs : List D) : List D := (List.range xs.length).map fun i => D.tp [.it (i : Nat), xs.getD i .non]
theorem enD_get {xs : List D} {i : Nat} {d : D} (h : (enD xs)[i]? = some d) : ∃ x, xs[i]? = some x ∧ d = .tp [.it (i : Nat), x] := by
  unfold enD at h
  rw [List.getElem?_map] at h
  by_cases hi : i < xs.length
  · rw [List.getElem?_range hi] at h
    refine ⟨xs[i], List.getElem?_eq_getElem hi, ?_⟩
    have := (Option.some.inj h).symm
    rw [this]
    show D.tp [.it (i : Nat), xs.getD i .non] = _
    rw [List.getD_eq_getElem?_getD, List.getElem?_eq_getElem hi]; rfl
  · rw [List.getElem?_eq_none_iff.mpr (by simpa using hi)] at h; cases h
theorem wlk_e {t : Option Bx} {F : Hp} {src : Hp → Prop} {vs : List V} {xs : List D} (r : RpL t F vs xs) (hs : ∀ S H, Le t F S.bx S.F → Good S H → src H) : Wlk t F (Itg src vs.length (enIts vs)) (enD xs) := by
  intro S H le g i
  refine ⟨fun d hd => ?_, fun hi => ⟨by rw [hi, r.length]; unfold enD; rw [List.length_map, List.length_range], hs S H le g⟩⟩
  obtain ⟨x, hx, rfl⟩ := enD_get hd
  obtain ⟨v, h1, h2⟩ := r.getD hx
  refine ⟨⟨(List.getElem?_eq_some_iff.mp h1).1, hs S H le g⟩, fun v' H2 hy => ?_⟩
  obtain ⟨T, rfl, hT, rfl⟩ := hy
  obtain ⟨st, g2⟩ := step_new g (o := .tup (enIts vs i)) hT
  refine ⟨_, st, g2, .tp (by show upd S.F T _ T = _; exact upd_same) ?_⟩
  have q : RpL S.bx (upd S.F T (.tup (enIts vs i))) [V.int (i : Nat), v] [D.it (i : Nat), x] := .cons (.it _) (.cons ((h2.le le).le st.le) .nil)
  have e : enIts vs i = [V.int (i : Nat), v] := by unfold enIts; rw [getD_of h1]
  have q' : RpL S.bx (upd S.F T (.tup (enIts vs i))) (enIts vs i) [D.it (i : Nat), x] := Eq.mpr (congrArg (fun z => RpL S.bx (upd S.F T (.tup (enIts vs i))) z [D.it (i : Nat), x]) e) q
  exact q'
def dEnum (u : DA_) : DI_ := fun env R E => u env (fun ys => match ys with | [.tp xs] => R (enD xs) | [.ls xs] => R (enD xs) | _ => False) E
theorem di_enum {u : DA_} {p pos tpos : Pos} {elts : List Expr} {kk : Nat} (hg : Gl X "enumerate") (hm : X.mg "enumerate" = none) (ha : DA X E [a] u) (hs : starEach [a] X.env = [(false, eval a X.env)] := by rfl) :
    DI X E (.Tuple elts kk tpos) (.Call (.Name "enumerate" p) [a] [] pos) (dEnum u) := by
  obtain ⟨t, p, q⟩ := ha.run
  refine ⟨_, pi_enumB hg hm p hs, fun Z S H σ env R Rd Ed g r l h k => ?_⟩
  refine q Z S H σ env _ _ Ed g r l h fun vs H1 S1 xs s1 g1 r1 h1 => ?_
  split at h1
  · cases r1 with
    | cons r1 r2 =>
      cases r2
      cases r1 with
      | tp e rr => exact ⟨_, _, false, rfl, SqT.of (g1.fz _ _ e), k _ H1 S1 _ s1 g1 (wlk_e rr fun S H le g => SqT.of (g.fz _ _ (le.f _ _ e))) h1⟩
  · cases r1 with
    | cons r1 r2 =>
      cases r2
      cases r1 with
      | ls e rr => exact ⟨_, _, true, rfl, SqL.of (g1.fz _ _ e), k _ H1 S1 _ s1 g1 (wlk_e rr fun S H le g => SqL.of (g.fz _ _ (le.f _ _ e))) h1⟩
  · exact h1.elim
/-- zip of two -/
def zpD : List D → List D → List D
  | x :: xs, y :: ys => .tp [x, y] :: zpD xs ys
  | _, _ => []
theorem zpD_get : ∀ {xs ys : List D} {i : Nat} {d : D}, (zpD xs ys)[i]? = some d → ∃ x y, xs[i]? = some x ∧ ys[i]? = some y ∧ d = .tp [x, y]
  | [], _, _, _, h => by simp [zpD] at h
  | _ :: _, [], _, _, h => by simp [zpD] at h
  | x :: xs, y :: ys, 0, d, h => by simp [zpD] at h; exact ⟨x, y, rfl, rfl, h.symm⟩
  | x :: xs, y :: ys, i + 1, d, h => by simp [zpD] at h; simpa using zpD_get h
theorem zpD_len : ∀ xs ys : List D, (zpD xs ys).length = min xs.length ys.length
  | [], _ => by simp [zpD]
  | _ :: _, [] => by simp [zpD]
  | x :: xs, y :: ys => by simp only [zpD, List.length_cons, zpD_len xs ys]; omega
def sqD : D → Option (Bool × List D) | .tp xs => some (false, xs) | .ls xs => some (true, xs) | _ => none
theorem sqD_rp {S : Sta} {H : Hp} {K : PySem.W.Frag} {v : V} {d : D} {k : Bool} {xs : List D} (h : sqD d = some (k, xs)) (r : Rp S.bx S.F v d) : ∃ a vs, v = .ref a ∧ RpL S.bx S.F vs xs ∧ ∀ S' H', Le S.bx S.F S'.bx S'.F → Good S' H' → SqB k K H' a vs := by
  cases r with
  | tp e rr => simp [sqD] at h; obtain ⟨rfl, rfl⟩ := h; exact ⟨_, _, rfl, rr, fun S' H' le g => SqT.of (g.fz _ _ (le.f _ _ e))⟩
  | ls e rr => simp [sqD] at h; obtain ⟨rfl, rfl⟩ := h; exact ⟨_, _, rfl, rr, fun S' H' le g => SqL.of (g.fz _ _ (le.f _ _ e))⟩
  | non => cases h
  | bl => cases h
  | it => cases h
  | st => cases h
  | dc => cases h
  | bx => cases h
def dZip (u : DA_) : DI_ := fun env R E => u env (fun zs => match zs with | [x, y] => (match sqD x, sqD y with | some (_, xs), some (_, ys) => R (zpD xs ys) | _, _ => False) | _ => False) E
theorem di_zip {u : DA_} {p pos tpos : Pos} {elts : List Expr} {kk : Nat} (hg : Gl X "zip") (hm : X.mg "zip" = none) (ha : DA X E [a, b] u)
    (hs : starEach [a, b] X.env = (false, eval a X.env) :: starEach [b] X.env := by rfl) (hpl : (backTo pos (starEach [b] X.env)).any (·.1) = false := by rfl) : DI X E (.Tuple elts kk tpos) (.Call (.Name "zip" p) [a, b] [] pos) (dZip u) := by
  obtain ⟨t, p, q⟩ := ha.run
  refine ⟨_, pi_zipB hg hm p hs hpl, fun Z S H σ env R Rd Ed g r l h k => ?_⟩
  refine q Z S H σ env _ _ Ed g r l h fun vs H1 S1 zs s1 g1 r1 h1 => ?_
  split at h1
  · next x y =>
    split at h1
    · next k1 xs k2 ys e1 e2 =>
      cases r1 with
      | cons r1 r2 =>
        cases r2 with
        | cons r2 r3 =>
          cases r3
          obtain ⟨a1, vs1, rfl, rr1, q1⟩ := sqD_rp (K := X.K) (H := H1) e1 r1
          obtain ⟨a2, vs2, rfl, rr2, q2⟩ := sqD_rp (K := X.K) (H := H1) e2 r2
          refine ⟨a1, a2, vs1, vs2, k1, k2, rfl, q1 S1 H1 (.refl _ _) g1, q2 S1 H1 (.refl _ _) g1, k _ H1 S1 _ s1 g1 ?_ h1⟩
          intro S H le g i
          refine ⟨fun d hd => ?_, fun hi => ⟨by rw [hi, zpD_len, rr1.length, rr2.length], q1 S H le g, q2 S H le g⟩⟩
          obtain ⟨x, y, hx, hy, rfl⟩ := zpD_get hd
          obtain ⟨v, h1, h2⟩ := rr1.getD hx
          obtain ⟨w, h3, h4⟩ := rr2.getD hy
          have l1 := (List.getElem?_eq_some_iff.mp h1).1
          have l2 := (List.getElem?_eq_some_iff.mp h3).1
          refine ⟨⟨by omega, q1 S H le g, q2 S H le g⟩, fun v' H2 hy => ?_⟩
          obtain ⟨T, rfl, hT, rfl⟩ := hy
          obtain ⟨st, g2⟩ := step_new g (o := .tup (zpIts vs1 vs2 i)) hT
          refine ⟨_, st, g2, .tp (by show upd S.F T _ T = _; exact upd_same) ?_⟩
          have q : RpL S.bx (upd S.F T (.tup (zpIts vs1 vs2 i))) [v, w] [x, y] := .cons ((h2.le le).le st.le) (.cons ((h4.le le).le st.le) .nil)
          have e : zpIts vs1 vs2 i = [v, w] := by unfold zpIts; rw [getD_of h1, getD_of h3]
          exact Eq.mpr (congrArg (fun z => RpL S.bx (upd S.F T (.tup (zpIts vs1 vs2 i))) z [x, y]) e) q
    · exact h1.elim
  · exact h1.elim
end

/-! ### for -/
def forD (dg : DG_) (db : DS_) (De : DEnds) : List D → Env' → Prop
  | [] => De.nx
  | x :: xs => fun env => dg x env fun env1 => db { De with nx := forD dg db De xs, ct := forD dg db De xs, bk := De.nx } env1
def dFor (di : DI_) (dg : DG_) (db : DS_) : DS_ := fun D env => di env (fun xs => forD dg db D xs env) D.ex
theorem ds_for {X : Cx} {E : XK} {tg iter : Expr} {body : List Stmt} {pos : Pos} {di : DI_} {dg : DG_} {vs : List Nat} {db : DS_} (hp : PassesOwn (model X.prog X.w) X.A X.env X.xe) (hc : X.calm = true) (hi : DI X E tg iter di) (hg : DG X tg vs dg) (hb : DSs X E body db)
    (hs : ∀ x, foldedSetIterable iter X.env x = pure x := by intro _; rfl) : DS X E (.For tg iter body [] pos) (dFor di dg db) := by
  obtain ⟨wi, pi, qi⟩ := hi.run
  obtain ⟨g, pg, qg⟩ := hg.run
  obtain ⟨t, pb, qb⟩ := hb.run
  refine ⟨_, ps_for hp hc pi pg pb hs, fun B De Dn l S σ env H a r h => ?_⟩
  refine qi _ S H σ env _ _ _ a.g r (l.xl a) h fun J H1 S1 xs s1 g1 w1 h1 => ?_
  have a1 := a.step s1 g1
  refine ⟨fun i m σ H => m = xs.length - i ∧ i ≤ xs.length ∧ ∃ S env, At (B.now S1) S H ∧ Rel B.H0 S H σ env ∧ forD dg db De (xs.drop i) env, ⟨_, rfl, Nat.zero_le _, S1, env, a1.now, r.step s1, h1⟩, ?_⟩
  rintro i m σ H ⟨rfl, hle, S, env, a2, r2, h2⟩
  have w := w1 S H a2.f a2.g i
  by_cases hlt : i < xs.length
  · have ed : xs.drop i = xs[i] :: xs.drop (i + 1) := List.drop_eq_getElem_cons hlt
    rw [ed] at h2
    obtain ⟨go, yl⟩ := w.1 xs[i] (List.getElem?_eq_getElem hlt)
    obtain ⟨N, hN⟩ : ∃ N : L2.St → Hp → Prop, N = fun σ' H' => ∃ S env, At (B.now S1) S H' ∧ Rel B.H0 S H' σ' env ∧ forD dg db De (xs.drop (i + 1)) env := ⟨_, rfl⟩
    refine .inr ⟨go, N, fun σ' H' q => ⟨xs.length - (i + 1), by omega, rfl, hlt, by rw [hN] at q; exact q⟩, fun x H' hy => ?_⟩
    obtain ⟨S2, st, g2, rp⟩ := yl x H' hy
    refine qg _ S2 H' σ env x _ _ _ (r2.step st) g2 rp h2 fun σ2 env2 r3 h3 _ => ?_
    refine qb (B.now S1) { De with nx := forD dg db De (xs.drop (i + 1)), ct := forD dg db De (xs.drop (i + 1)), bk := De.nx } { Dn with nx := N, ct := N, bk := Dn.nx } ⟨fun S σ env H a r h => ?_, fun S σ env H a r h => l.nx S σ env H (a1.was a) r h, fun S σ env H a r h => ?_, fun S v d H a r h => l.rt S v d H (a1.was a) r h, l.ex⟩ S2 σ2 env2 H' (a2.step st g2) r3 h3
    · show N σ H
      rw [hN]; exact ⟨S, env, a, r, h⟩
    · show N σ H
      rw [hN]; exact ⟨S, env, a, r, h⟩
  · have e : i = xs.length := by omega
    subst e
    rw [List.drop_length] at h2
    exact .inl ⟨w.2 rfl, l.nx S σ env H (a1.was a2) r2 h2⟩
/-! ### while: an invariant and a measure -/
def dWhile (t : DB_) (db : DS_) : DS_ := fun D env => ∃ W : Nat → Env' → Prop, (∃ m, W m env) ∧ ∀ m env, W m env →
  t env (fun b => match b with | true => db { D with nx := fun env' => ∃ m', m' < m ∧ W m' env', ct := fun env' => ∃ m', m' < m ∧ W m' env', bk := D.nx } env | false => D.nx env) D.ex
theorem ds_while {X : Cx} {E : XK} {c : Expr} {body : List Stmt} {pos : Pos} {tb : DB_} {db : DS_} (hp : PassesOwn (model X.prog X.w) X.A X.env X.xe) (hc : DB X E c tb) (hb : DSs X E body db) : DS X E (.While c body [] pos) (dWhile tb db) := by
  obtain ⟨tc, pc, qc⟩ := hc.run
  obtain ⟨t, pb, qb⟩ := hb.run
  refine ⟨_, ps_while hp pc pb, fun B De Dn l S σ env H a r h => ?_⟩
  obtain ⟨W, ⟨m0, w0⟩, turn⟩ := h
  refine ⟨fun m σ H => ∃ S env, At B S H ∧ Rel B.H0 S H σ env ∧ W m env, ⟨m0, S, env, a, r, w0⟩, ?_⟩
  rintro m σ H ⟨S, env, a2, r2, h2⟩
  refine qc _ S H σ env _ _ _ a2.g r2 (l.xl a2) (turn m env h2) fun b H1 S1 s1 g1 h1 => ?_
  cases b with
  | true =>
    rw [if_pos rfl]
    obtain ⟨N, hN⟩ : ∃ N : L2.St → Hp → Prop, N = fun σ' H' => ∃ m', m' < m ∧ ∃ S env, At B S H' ∧ Rel B.H0 S H' σ' env ∧ W m' env := ⟨_, rfl⟩
    refine ⟨N, fun σ' H' h => by rw [hN] at h; exact h, ?_⟩
    refine qb B { De with nx := fun env' => ∃ m', m' < m ∧ W m' env', ct := fun env' => ∃ m', m' < m ∧ W m' env', bk := De.nx } { Dn with nx := N, ct := N, bk := Dn.nx } ⟨fun S σ env H a r h => ?_, fun S σ env H a r h => l.nx S σ env H a r h, fun S σ env H a r h => ?_, l.rt, l.ex⟩ S1 σ env H1 (a2.step s1 g1) (r2.step s1) h1
    · obtain ⟨m', hm, h⟩ := h
      show N σ H
      rw [hN]; exact ⟨m', hm, S, env, a, r, h⟩
    · obtain ⟨m', hm, h⟩ := h
      show N σ H
      rw [hN]; exact ⟨m', hm, S, env, a, r, h⟩
  | false =>
    rw [if_neg Bool.false_ne_true]
    exact l.nx S1 σ env H1 (a2.step s1 g1) (r2.step s1) h1
end Dl

set_option Elab.async false
set_option linter.all false
set_option maxRecDepth 100000
set_option maxHeartbeats 4000000
/-! Dl7: comprehensions, lists of one's own, the contract of a def. -/
namespace Dl
open PySem PySem.Spec PyProof.Rows L2

theorem xl0 {mg : Str → Option Value} {S : Sta} {H : Hp} : XLink mg S H (fun _ => False) E0 := fun _ _ _ _ _ _ _ _ h => h.elim
/-- what a reading of a new list means -/
def NSem (mg : Str → Option Value) (E : XK) (t : TE) (d : DN_) : Prop := ∀ Z S H σ env Q (Qd : List D → Prop) Ed, Good S H → Rel Z S H σ env → XLink mg S H Ed E → d env Qd Ed →
    (∀ p H' S' vs xs, Stp S H S' H' → Good S' H' → H p = none → H' p = some (.lst vs) → S'.F p = none → ¬ InB S'.bx p → RpL S'.bx S'.F vs xs → Qd xs → Q (.ref p) H') → t σ H Q
/-! ### comprehensions -/
def wipeD (env : Env') : List Nat → Env'
  | [] => env
  | v :: vs => (wipeD env vs).set v .no
theorem rel_wipe {Z : Hp} {S : Sta} {H : Hp} {σ : L2.St} {env : Env'} (r : Rel Z S H σ env) : ∀ vs : List Nat, Rel Z S H (wipe σ vs) (wipeD env vs)
  | [] => r
  | v :: vs => (rel_wipe r vs).drop_ v none
structure DTs (X : Cx) (E : XK) (ifs : List Expr) (d : DB_) : Prop where
  run : ∃ t, PTs X ifs t ∧ ∀ Z S H σ env Q Qd Ed, Good S H → Rel Z S H σ env → XLink X.mg S H Ed E → d env Qd Ed → ContB S H Qd Q → t σ H Q
def dYes : DB_ := fun _ Q _ => Q true
theorem dts_nil {X : Cx} {E : XK} : DTs X E [] dYes := ⟨_, pts_nil, fun _ S H _ _ _ _ _ g _ _ h k => k true H S (.refl S H) g h⟩
theorem dts_one {X : Cx} {E : XK} {c : Expr} {d : DB_} (h : DB X E c d) : DTs X E [c] d := let ⟨t, p, q⟩ := h.run; ⟨t, pts_one p, q⟩
def lcD (dg : DG_) (tt : DB_) (te : DT_) (env : Env') (E : EK) (Q : List D → Prop) : List D → List D → Prop
  | [], acc => Q acc
  | x :: xs, acc => dg x env fun env1 => tt env1 (fun b => match b with | true => te env1 (fun y => acc.length < sizeLine ∧ lcD dg tt te env E Q xs (acc ++ [y])) E | false => lcD dg tt te env E Q xs acc) E
def dLc (di : DI_) (dg : DG_) (tt : DB_) (te : DT_) (vs : List Nat) : DN_ := fun env Q E => di env (fun xs => lcD dg tt te (wipeD env vs) (fun _ => False) Q xs []) E
section
variable {X : Cx} {E : XK} {elt tg iter : Expr} {ifs : List Expr} {scope : Scope} {own : List (Str × Nat)} {pos : Pos} {vsg : List Nat} {di : DI_} {dg : DG_} {tt : DB_} {te : DT_}
abbrev BCx (X : Cx) (scope : Scope) (s : Shared) (H : Hp) (C : Addr) (cl : List (Str × Addr)) (fp : List Addr) : Cx := X.blk s H scope (compEnvC scope cl C X.env) fp
/-- one reading for every block -/
theorem allE (he : ∀ s H C cl fp, DE (BCx X scope s H C cl fp) E0 elt te) : ∃ t, (∀ s H C cl fp, PE (BCx X scope s H C cl fp) elt t) ∧
    ∀ Z S H σ env Q Qd Ed, Good S H → Rel Z S H σ env → XLink X.mg S H Ed E0 → te env Qd Ed → Cont S H Qd Q → t σ H Q := by
  have ch := fun s H C cl fp => (he s H C cl fp).run
  refine ⟨fun σ H Q => ∀ s H0 C cl fp, (ch s H0 C cl fp).choose σ H Q, fun s H0 C cl fp => ⟨fun pins s1 σ H Q I h => ?_⟩, fun Z S H σ env Q Qd Ed g r l h k s H0 C cl fp => ?_⟩
  · exact (ch s H0 C cl fp).choose_spec.1.run pins s1 σ H Q I (h s H0 C cl fp)
  · exact (ch s H0 C cl fp).choose_spec.2 Z S H σ env Q Qd Ed g r l h k
theorem allT (he : ∀ s H C cl fp, DTs (BCx X scope s H C cl fp) E0 ifs tt) : ∃ t, (∀ s H C cl fp, PTs (BCx X scope s H C cl fp) ifs t) ∧
    ∀ Z S H σ env Q Qd Ed, Good S H → Rel Z S H σ env → XLink X.mg S H Ed E0 → tt env Qd Ed → ContB S H Qd Q → t σ H Q := by
  have ch := fun s H C cl fp => (he s H C cl fp).run
  refine ⟨fun σ H Q => ∀ s H0 C cl fp, (ch s H0 C cl fp).choose σ H Q, fun s H0 C cl fp => ⟨fun pins s1 σ H Q I h => ?_⟩, fun Z S H σ env Q Qd Ed g r l h k s H0 C cl fp => ?_⟩
  · exact (ch s H0 C cl fp).choose_spec.1.run pins s1 σ H Q I (h s H0 C cl fp)
  · exact (ch s H0 C cl fp).choose_spec.2 Z S H σ env Q Qd Ed g r l h k
theorem allG (he : ∀ s H C cl fp, DG (BCx X scope s H C cl fp) tg vsg dg) : ∃ t, (∀ s H C cl fp, PG (BCx X scope s H C cl fp) tg t) ∧
    ∀ Z S H σ env x dx Q Qd, Rel Z S H σ env → Good S H → Rp S.bx S.F x dx → dg dx env Qd → (∀ σ2 env2, Rel Z S H σ2 env2 → Qd env2 → (∀ ws : List Nat, (∀ i ∈ vsg, i ∈ ws) → wipe σ2 ws = wipe σ ws) → Q σ2 H) → t x σ H Q := by
  have ch := fun s H C cl fp => (he s H C cl fp).run
  refine ⟨fun x σ H Q => ∀ s H0 C cl fp, (ch s H0 C cl fp).choose x σ H Q, fun s H0 C cl fp => ⟨fun pins s1 σ H v u Q I rv h => ?_⟩, fun Z S H σ env x dx Q Qd r g rp h k s H0 C cl fp => ?_⟩
  · exact (ch s H0 C cl fp).choose_spec.1.run pins s1 σ H v u Q I rv (h s H0 C cl fp)
  · exact (ch s H0 C cl fp).choose_spec.2 Z S H σ env x dx Q Qd r g rp h k
theorem wipe_idem : ∀ (σ : L2.St) (vs : List Nat), wipe (wipe σ vs) vs = wipe σ vs := by
  intro σ vs
  have key : ∀ (ws us : List Nat) (τ : L2.St), (∀ v ∈ us, v ∈ ws) → wipe (wipe τ us) ws = wipe τ ws := by
    intro ws us
    induction us with
    | nil => intro τ _; rfl
    | cons u r ih =>
      intro τ h
      show wipe ((wipe τ r).set u none) ws = _
      rw [wipe_set (h u List.mem_cons_self)]
      exact ih τ fun v hv => h v (List.mem_cons_of_mem _ hv)
  exact key vs vs σ fun v h => h
theorem lc_at {wi : TI} {g : TG} {t1 : TT} {t2 : TE} {vs : List Nat} (hv : ∀ i ∈ vsg, i ∈ vs) {Z : Hp} {S : Sta} {H : Hp} {σ : L2.St} {env : Env'} {Q : VK} {Qd : List D → Prop} (gd : Good S H) (r : Rel Z S H σ env)
    (si : ∀ R : It → Hp → Prop, (∀ J H' S' xs, Stp S H S' H' → Good S' H' → Wlk S'.bx S'.F J xs → lcD dg tt te (wipeD env vs) (fun _ => False) Qd xs [] → R J H') → wi σ H R)
    (sg : ∀ Z S H σ env x dx Q Qd, Rel Z S H σ env → Good S H → Rp S.bx S.F x dx → dg dx env Qd → (∀ σ2 env2, Rel Z S H σ2 env2 → Qd env2 → (∀ ws : List Nat, (∀ i ∈ vsg, i ∈ ws) → wipe σ2 ws = wipe σ ws) → Q σ2 H) → g x σ H Q)
    (s1 : ∀ Z S H σ env Q Qd Ed, Good S H → Rel Z S H σ env → XLink X.mg S H Ed E0 → tt env Qd Ed → ContB S H Qd Q → t1 σ H Q)
    (s2 : ∀ Z S H σ env Q Qd Ed, Good S H → Rel Z S H σ env → XLink X.mg S H Ed E0 → te env Qd Ed → Cont S H Qd Q → t2 σ H Q)
    (k : ∀ p H' S' vs xs, Stp S H S' H' → Good S' H' → H p = none → H' p = some (.lst vs) → S'.F p = none → ¬ InB S'.bx p → RpL S'.bx S'.F vs xs → Qd xs → Q (.ref p) H') : tLc wi g t1 t2 vs σ H Q := by
  refine si _ fun J H1 S1 xs st1 g1 w1 h1 => ?_
  intro p hp
  obtain ⟨q1, q2⟩ := step_own g1 (o := HO.lst []) hp
  have nb1 : ¬ InB S1.bx p := fun z => by obtain ⟨o, e⟩ := g1.box z; rw [hp] at e; cases e
  have nf1 : S1.F p = none := none_of_keep fun o e => by have := g1.fz _ _ e; rw [hp] at this; cases this
  have ap : ∀ {S' : Sta} {H' : Hp} {o : HO}, Good S' H' → Stp S1 H1 S' H' → S'.F p = none → ¬ InB S'.bx p → Good S' (upd H' p o) ∧ Stp S1 H1 S' (upd H' p o) := fun {S' H' o} g st hf hb =>
    ⟨good_mut g hf hb, st.ext, st.new, st.box, fun b u e hb' => by rw [upd_ne (ne_of_none e hp)]; exact st.keep b u e hb'⟩
  refine ⟨fun i m H => m = xs.length - i ∧ i ≤ xs.length ∧ ∃ S' vs' acc, Good S' H ∧ Stp S1 H1 S' H ∧ H p = some (.lst vs') ∧ S'.F p = none ∧ ¬ InB S'.bx p ∧ RpL S'.bx S'.F vs' acc ∧ lcD dg tt te (wipeD env vs) (fun _ => False) Qd (xs.drop i) acc,
    ⟨_, rfl, Nat.zero_le _, S1, [], [], q2, q1, upd_same, nf1, nb1, .nil, h1⟩, ?_⟩
  rintro i m H2 ⟨rfl, hle, S2, vs2, acc, g2, st2, hp2, nf2, nb2, r2, h2⟩
  have w := w1 S2 H2 st2.le g2 i
  by_cases hlt : i < xs.length
  · have ed : xs.drop i = xs[i] :: xs.drop (i + 1) := List.drop_eq_getElem_cons hlt
    rw [ed] at h2
    obtain ⟨go, yl⟩ := w.1 xs[i] (List.getElem?_eq_getElem hlt)
    obtain ⟨Nx, hN⟩ : ∃ Nx : Hp → Prop, Nx = fun H => ∃ S' vs' acc, Good S' H ∧ Stp S1 H1 S' H ∧ H p = some (.lst vs') ∧ S'.F p = none ∧ ¬ InB S'.bx p ∧ RpL S'.bx S'.F vs' acc ∧ lcD dg tt te (wipeD env vs) (fun _ => False) Qd (xs.drop (i + 1)) acc := ⟨_, rfl⟩
    refine .inr ⟨go, Nx, fun H' q => ⟨xs.length - (i + 1), by omega, rfl, hlt, by rw [hN] at q; exact q⟩, fun x H3 hy => ?_⟩
    obtain ⟨S3, st3, g3, rp⟩ := yl x H3 hy
    -- the state at p through a step
    have through : ∀ {S4 : Sta} {H4 : Hp}, Stp S2 H2 S4 H4 → Good S4 H4 → H4 p = some (.lst vs2) ∧ S4.F p = none ∧ ¬ InB S4.bx p := fun {S4 H4} st g => by
      refine ⟨st.keep _ _ hp2 nb2, none_of_keep fun o e => ?_, fun z => ?_⟩
      · rcases st.new _ _ e with z | z
        · rw [nf2] at z; cases z
        · rw [hp2] at z; cases z
      · rcases st.inB z with z | z
        · exact nb2 z
        · rw [hp2] at z; cases z
    have rw0 : Rel Z S3 H3 (wipe σ vs) (wipeD env vs) := rel_wipe ((r.step (st1.trans g1 st2)).step st3) vs
    refine sg Z S3 H3 _ _ x _ _ _ rw0 g3 rp h2 fun σ2 env2 r4 h4 hw => ⟨(hw vs hv).trans (wipe_idem σ vs), ?_⟩
    refine s1 Z S3 H3 σ2 env2 _ _ _ g3 r4 xl0 h4 fun b H5 S5 st5 g5 h5 => ?_
    cases b with
    | false =>
      rw [if_neg Bool.false_ne_true, hN]
      have st25 := st3.trans g3 st5
      obtain ⟨e1, e2, e3⟩ := through st25 g5
      exact ⟨S5, vs2, acc, g5, st2.trans g2 st25, e1, e2, e3, r2.le st25.le, h5⟩
    | true =>
      rw [if_pos rfl]
      refine s2 Z S5 H5 σ2 env2 _ _ _ g5 (r4.step st5) xl0 h5 fun y H6 S6 dy st6 g6 ry h6 => ?_
      have st26 := (st3.trans g3 st5).trans g5 st6
      obtain ⟨e1, e2, e3⟩ := through st26 g6
      refine ⟨vs2, e1, by rw [r2.length]; exact h6.1, ?_⟩
      rw [hN]
      obtain ⟨g7, st7⟩ := ap (o := .lst (vs2 ++ [y])) g6 (st2.trans g2 st26) e2 e3
      exact ⟨S6, vs2 ++ [y], acc ++ [dy], g7, st7, upd_same, e2, e3, (r2.le st26.le).app (.one ry), h6.2⟩
  · have e : i = xs.length := by omega
    subst e
    rw [List.drop_length] at h2
    refine .inl ⟨w.2 rfl, k p H2 S2 vs2 acc (st1.trans g1 st2) g2 (st1.free g1 hp) hp2 nf2 nb2 r2 h2⟩
theorem lc_sem {wi : TI} {g : TG} {t1 : TT} {t2 : TE} {vs : List Nat} (hv : ∀ i ∈ vsg, i ∈ vs)
    (si : ∀ Z S H σ env R Rd Ed, Good S H → Rel Z S H σ env → XLink X.mg S H Ed E → di env Rd Ed → (∀ J H' S' xs, Stp S H S' H' → Good S' H' → Wlk S'.bx S'.F J xs → Rd xs → R J H') → wi σ H R)
    (sg : ∀ Z S H σ env x dx Q Qd, Rel Z S H σ env → Good S H → Rp S.bx S.F x dx → dg dx env Qd → (∀ σ2 env2, Rel Z S H σ2 env2 → Qd env2 → (∀ ws : List Nat, (∀ i ∈ vsg, i ∈ ws) → wipe σ2 ws = wipe σ ws) → Q σ2 H) → g x σ H Q)
    (s1 : ∀ Z S H σ env Q Qd Ed, Good S H → Rel Z S H σ env → XLink X.mg S H Ed E0 → tt env Qd Ed → ContB S H Qd Q → t1 σ H Q)
    (s2 : ∀ Z S H σ env Q Qd Ed, Good S H → Rel Z S H σ env → XLink X.mg S H Ed E0 → te env Qd Ed → Cont S H Qd Q → t2 σ H Q) : NSem X.mg E (tLc wi g t1 t2 vs) (dLc di dg tt te vs) :=
  fun Z S H σ env Q Qd Ed gd r l h k => lc_at (X := X) hv gd r (fun R hR => si Z S H σ env R _ Ed gd r l h hR) sg s1 s2 k
theorem dn_lc (hc : X.calm = true) (hN : X.N.Nodup) (hi : DI X E tg iter di) (ok : BlkOk X.N X.env.scope scope own) (hv : ∀ i ∈ vsg, i ∈ own.map (·.2)) (hg : ∀ s H C cl fp, DG (BCx X scope s H C cl fp) tg vsg dg)
    (ht : ∀ s H C cl fp, DTs (BCx X scope s H C cl fp) E0 ifs tt) (he : ∀ s H C cl fp, DE (BCx X scope s H C cl fp) E0 elt te) (hs : ∀ x, foldedSetIterable iter X.env x = pure x := by intro _; rfl) :
    DN X E (.ListComp elt [⟨tg, iter, ifs, 0⟩] scope pos) (dLc di dg tt te (own.map (·.2))) := by
  obtain ⟨wi, pi, si⟩ := hi.run
  obtain ⟨g, pg, sg⟩ := allG hg
  obtain ⟨t1, p1, s1⟩ := allT ht
  obtain ⟨t2, p2, s2⟩ := allE he
  exact ⟨_, pe_lc hc hN pi ok pg p1 p2 hs, lc_sem hv si sg s1 s2⟩
/-! ### a new list given to a name: frozen, or one's own -/
def dSetN (i : Nat) (d : DN_) : DS_ := fun De env => d env (fun xs => De.nx (env.set i (.v (.ls xs)))) De.ex
def dSetO (i : Nat) (d : DN_) : DS_ := fun De env => d env (fun xs => De.nx (env.set i (.own xs))) De.ex
theorem set_frz {t : TE} {d : DN_} (s : NSem X.mg E t d) (i : Nat) {B : Base} {De : DEnds} {Dn : Ends} (l : Lnk X.mg E B De Dn) {S : Sta} {σ : L2.St} {env : Env'} {H : Hp} (a : At B S H) (r : Rel B.H0 S H σ env) (h : dSetN i d De env) :
    tAsg t (gName i) Dn σ H := by
  refine s _ S H σ env _ _ _ a.g r (l.xl a) h fun p H' S' vs xs s' g' h0 h1 h2 h3 r' h' => ?_
  have le : Le S'.bx S'.F S'.bx (upd S'.F p (.lst vs)) := ⟨fun b o e => by
    have : b ≠ p := fun z => by rw [z, h2] at e; cases e
    rw [upd_ne this]; exact e, fun x e => e⟩
  have st : Stp S H ⟨S'.bx, upd S'.F p (.lst vs)⟩ H' := ⟨fun b o e => le.f b o (s'.ext b o e), fun b o e => by
    by_cases z : b = p
    · rw [z]; exact .inr h0
    · have e' : upd S'.F p (.lst vs) b = some o := e
      rw [upd_ne z] at e'
      exact s'.new b o e', s'.box, s'.keep⟩
  have g2 := good_frz g' h1 h3
  exact l.nx _ _ _ H' (a.step st g2) ((r.step st).put (.ls (by show upd S'.F p (.lst vs) p = _; exact upd_same) (r'.le le))) h'
theorem set_own {t : TE} {d : DN_} (s : NSem X.mg E t d) (i : Nat) {B : Base} {De : DEnds} {Dn : Ends} (l : Lnk X.mg E B De Dn) {S : Sta} {σ : L2.St} {env : Env'} {H : Hp} (a : At B S H) (r : Rel B.H0 S H σ env) (h : dSetO i d De env) :
    tAsg t (gName i) Dn σ H := by
  refine s _ S H σ env _ _ _ a.g r (l.xl a) h fun p H' S' vs xs s' g' h0 h1 h2 h3 r' h' => ?_
  refine l.nx _ _ _ H' (a.step s' g') ((r.step s').putOwn (a.p.free a.g h0) h1 h2 h3 (fun j ys ej ez => ?_) r') h'
  obtain ⟨b, ws, q1, q2, _⟩ := r.at_ j _ ej
  rw [ez] at q1; cases q1
  rw [h0] at q2; cases q2
theorem DN.sem {e : Expr} {d : DN_} (h : DN X E e d) : ∃ t, PE X e t ∧ NSem X.mg E t d := h.run
theorem ds_setN (i : Nat) {x : Str} {p' : Pos} {e : Expr} {d : DN_} (he : DN X E e d) (hN : X.N.Nodup) (hi : X.N[i]? = some x := by rfl) (hx : Loc X.env.scope x := by first | exact Or.inl rfl | exact Or.inr rfl) (hs : swapsWith e (some (.Name x p')) pos.line X.env = pure false := by rfl)
    (hf : X.fn x = true ∨ X.env.scope.names.lookup x = some .local := by first | exact .inl rfl | exact .inr rfl | assumption) : DS X E (.Assign [.Name x p'] e pos) (dSetN i d) := by
  obtain ⟨t, p, q⟩ := he.sem
  exact ⟨_, ps_set hN hi hx p hs hf, fun B De Dn l S σ env H a r h => set_frz q i l a r h⟩
theorem ds_setO (i : Nat) {x : Str} {p' : Pos} {e : Expr} {d : DN_} (he : DN X E e d) (hN : X.N.Nodup) (hi : X.N[i]? = some x := by rfl) (hx : Loc X.env.scope x := by first | exact Or.inl rfl | exact Or.inr rfl) (hs : swapsWith e (some (.Name x p')) pos.line X.env = pure false := by rfl)
    (hf : X.fn x = true ∨ X.env.scope.names.lookup x = some .local := by first | exact .inl rfl | exact .inr rfl | assumption) : DS X E (.Assign [.Name x p'] e pos) (dSetO i d) := by
  obtain ⟨t, p, q⟩ := he.sem
  exact ⟨_, ps_set hN hi hx p hs hf, fun B De Dn l S σ env H a r h => set_own q i l a r h⟩
/-- y = [..] on one line -/
theorem ds_setLcN (i : Nat) {y : Str} {py spos : Pos} (hc : X.calm = true) (hN : X.N.Nodup) (hi : DI X E tg iter di) (ok : BlkOk X.N X.env.scope scope own) (hv : ∀ i ∈ vsg, i ∈ own.map (·.2)) (hg : ∀ s H C cl fp, DG (BCx X scope s H C cl fp) tg vsg dg)
    (ht : ∀ s H C cl fp, DTs (BCx X scope s H C cl fp) E0 ifs tt) (he : ∀ s H C cl fp, DE (BCx X scope s H C cl fp) E0 elt te)
    (hsw : swapsWith (.ListComp elt [⟨tg, iter, ifs, 0⟩] scope pos) (some (.Name y py)) spos.line X.env = pure true) (hy : X.N[i]? = some y := by rfl) (hyl : X.env.scope.names.lookup y = some .local := by rfl) (hs : ∀ x, foldedSetIterable iter X.env x = pure x := by intro _; rfl) :
    DS X E (.Assign [.Name y py] (.ListComp elt [⟨tg, iter, ifs, 0⟩] scope pos) spos) (dSetN i (dLc di dg tt te (own.map (·.2)))) := by
  obtain ⟨wi, pi, si⟩ := hi.run
  obtain ⟨g, pg, sg⟩ := allG hg
  obtain ⟨t1, p1, s1⟩ := allT ht
  obtain ⟨t2, p2, s2⟩ := allE he
  exact ⟨_, ps_setLc hc hN hy hyl hsw pi ok pg p1 p2 hs, fun B De Dn l S σ env H a r h => set_frz (lc_sem hv si sg s1 s2) i l a r h⟩
theorem ds_setLcO (i : Nat) {y : Str} {py spos : Pos} (hc : X.calm = true) (hN : X.N.Nodup) (hi : DI X E tg iter di) (ok : BlkOk X.N X.env.scope scope own) (hv : ∀ i ∈ vsg, i ∈ own.map (·.2)) (hg : ∀ s H C cl fp, DG (BCx X scope s H C cl fp) tg vsg dg)
    (ht : ∀ s H C cl fp, DTs (BCx X scope s H C cl fp) E0 ifs tt) (he : ∀ s H C cl fp, DE (BCx X scope s H C cl fp) E0 elt te)
    (hsw : swapsWith (.ListComp elt [⟨tg, iter, ifs, 0⟩] scope pos) (some (.Name y py)) spos.line X.env = pure true) (hy : X.N[i]? = some y := by rfl) (hyl : X.env.scope.names.lookup y = some .local := by rfl) (hs : ∀ x, foldedSetIterable iter X.env x = pure x := by intro _; rfl) :
    DS X E (.Assign [.Name y py] (.ListComp elt [⟨tg, iter, ifs, 0⟩] scope pos) spos) (dSetO i (dLc di dg tt te (own.map (·.2)))) := by
  obtain ⟨wi, pi, si⟩ := hi.run
  obtain ⟨g, pg, sg⟩ := allG hg
  obtain ⟨t1, p1, s1⟩ := allT ht
  obtain ⟨t2, p2, s2⟩ := allE he
  exact ⟨_, ps_setLc hc hN hy hyl hsw pi ok pg p1 p2 hs, fun B De Dn l S σ env H a r h => set_own (lc_sem hv si sg s1 s2) i l a r h⟩
/-- [a, b, ..] -/
def dLstN (u : DA_) : DN_ := fun env Q E => u env (fun xs => szOk xs.length ∧ Q xs) E
theorem own_new {S S1 : Sta} {H H1 : Hp} (s1 : Stp S H S1 H1) (g1 : Good S1 H1) {p : Addr} {vs : List V} (hp : H1 p = none) :
    Stp S H S1 (upd H1 p (.lst vs)) ∧ Good S1 (upd H1 p (.lst vs)) ∧ H p = none ∧ S1.F p = none ∧ ¬ InB S1.bx p := by
  obtain ⟨a, b⟩ := step_own g1 (o := HO.lst vs) hp
  refine ⟨s1.trans g1 a, b, s1.free g1 hp, none_of_keep fun o e => (by have := g1.fz _ _ e; rw [hp] at this; cases this), fun z => (by obtain ⟨o, e⟩ := g1.box z; rw [hp] at e; cases e)⟩
theorem dn_lst {es : List Expr} {u : DA_} (h : DA X E es u) : DN X E (.List es pos) (dLstN u) := by
  obtain ⟨t, p, q⟩ := h.run
  refine ⟨_, pe_lst p, fun Z S H σ env Q Qd Ed g r l h k => ?_⟩
  refine q Z S H σ env _ _ Ed g r l h fun vs H1 S1 xs s1 g1 r1 h1 => ⟨by rw [r1.length]; exact h1.1, fun p hp => ?_⟩
  obtain ⟨a1, a2, a3, a4, a5⟩ := own_new (vs := vs) s1 g1 hp
  exact k p _ S1 vs xs a1 a2 a3 upd_same a4 a5 r1 h1.2
/-- xs + ys, two lists -/
def dCatN (da db : DT_) : DN_ := fun env Q E => da env (fun x => db env (fun y => match x, y with | .ls xs, .ls ys => szOk (xs.length + ys.length) ∧ Q (xs ++ ys) | _, _ => False) E) E
theorem dn_cat {a b : Expr} {da db : DT_} (ha : DE X E a da) (hb : DE X E b db) : DN X E (.BinOp a .Add b pos) (dCatN da db) := by
  obtain ⟨ta, pa, ra⟩ := ha.run
  obtain ⟨tb, pb, rb⟩ := hb.run
  refine ⟨_, pe_op op_cat pa pb, fun Z S H σ env Q Qd Ed g r l h k => ?_⟩
  refine ra Z S H σ env _ _ Ed g r l h fun x H1 S1 dx s1 g1 r1 h1 => ?_
  refine rb Z S1 H1 σ env _ _ Ed g1 (r.step s1) (l.step s1 g1) h1 fun y H2 S2 dy s2 g2 r2 h2 => ?_
  have r1 := r1.le s2.le
  split at h2
  · cases r1 with
    | ls e1 q1 =>
      cases r2 with
      | ls e2 q2 =>
        refine ⟨_, _, _, _, rfl, rfl, g2.fz _ _ e1, g2.fz _ _ e2, by rw [q1.length, q2.length]; exact h2.1, fun p hp => ?_⟩
        obtain ⟨a1, a2, a3, a4, a5⟩ := own_new (s1.trans g1 s2) g2 hp
        exact k p _ S2 _ _ a1 a2 a3 upd_same a4 a5 (q1.app q2) h2.2
  · exact h2.elim
/-- xs * n, a list -/
def dRepN (da db : DT_) : DN_ := fun env Q E => da env (fun x => db env (fun y => match x, y with | .ls xs, .it n => -(2 ^ 63) ≤ n ∧ n < 2 ^ 63 ∧ szOk (xs.length * n.toNat) ∧ Q (List.replicate n.toNat xs).flatten | _, _ => False) E) E
theorem dn_rep {a b : Expr} {da db : DT_} (ha : DE X E a da) (hb : DE X E b db) : DN X E (.BinOp a .Mult b pos) (dRepN da db) := by
  obtain ⟨ta, pa, ra⟩ := ha.run
  obtain ⟨tb, pb, rb⟩ := hb.run
  refine ⟨_, pe_op op_rep pa pb, fun Z S H σ env Q Qd Ed g r l h k => ?_⟩
  refine ra Z S H σ env _ _ Ed g r l h fun x H1 S1 dx s1 g1 r1 h1 => ?_
  refine rb Z S1 H1 σ env _ _ Ed g1 (r.step s1) (l.step s1 g1) h1 fun y H2 S2 dy s2 g2 r2 h2 => ?_
  have r1 := r1.le s2.le
  split at h2
  · cases r2
    cases r1 with
    | ls e1 q1 =>
      refine ⟨_, _, _, rfl, rfl, g2.fz _ _ e1, h2.1, h2.2.1, by rw [q1.length]; exact h2.2.2.1, fun p hp => ?_⟩
      obtain ⟨a1, a2, a3, a4, a5⟩ := own_new (s1.trans g1 s2) g2 hp
      exact k p _ S2 _ _ a1 a2 a3 upd_same a4 a5 (q1.rep _) h2.2.2.2
  · exact h2.elim
/-- list(x) -/
def dListN (u : DA_) : DN_ := fun env Q E => u env (fun xs => match xs with | [.tp ys] => Q ys | [.ls ys] => Q ys | _ => False) E
theorem dn_list {u : DA_} {e : Expr} {p : Pos} (hg : Gl X "list") (hm : X.mg "list" = none) (ha : DA X E [e] u) (he : starEach [e] X.env = (false, eval e X.env) :: starEach [] X.env := by rfl) : DN X E (.Call (.Name "list" p) [e] [] pos) (dListN u) := by
  obtain ⟨t, p, q⟩ := ha.run
  refine ⟨_, pe_callTy call_list_of hg hm (by decide +kernel) p (by decide) (by decide) he rfl, fun Z S H σ env Q Qd Ed g r l h k => ?_⟩
  refine q Z S H σ env _ _ Ed g r l h fun vs H1 S1 xs s1 g1 r1 h1 => ?_
  split at h1
  · cases r1 with
    | cons r1 r2 =>
      cases r2
      cases r1 with
      | tp e rr =>
        refine ⟨_, _, rfl, .inr (SqT.of (g1.fz _ _ e)), fun p hp => ?_⟩
        obtain ⟨a1, a2, a3, a4, a5⟩ := own_new s1 g1 hp
        exact k p _ S1 _ _ a1 a2 a3 upd_same a4 a5 rr h1
  · cases r1 with
    | cons r1 r2 =>
      cases r2
      cases r1 with
      | ls e rr =>
        refine ⟨_, _, rfl, .inl (SqL.of (g1.fz _ _ e)), fun p hp => ?_⟩
        obtain ⟨a1, a2, a3, a4, a5⟩ := own_new s1 g1 hp
        exact k p _ S1 _ _ a1 a2 a3 upd_same a4 a5 rr h1
  · exact h1.elim

/-! ### changes -/
def dApp (i : Nat) (de : DT_) : DS_ := fun De env => match env[i]? with | some (.own xs) => de env (fun y => xs.length < sizeLine ∧ De.nx (env.set i (.own (xs ++ [y])))) De.ex | _ => False
theorem ds_append (i : Nat) {x : Str} {e : Expr} {de : DT_} {p1 p2 p3 : Pos} (he : DE X E e de) (hN : X.N[i]? = some x := by rfl) (hv : Vis X.env.scope x := by first | exact Or.inl rfl | exact Or.inr (Or.inl rfl) | exact Or.inr (Or.inr rfl)) (hd : (x == ("__debug__" : Str)) = false := by decide)
    (hcd : (x == ("__classdict__" : Str)) = false := by decide) (hb : attributeBase (.Name x p1) "append" X.env (eval (.Name x p1) X.env) = eval (.Name x p1) X.env := by rfl)
    (hs : starEach [e] X.env = (false, eval e X.env) :: starEach [] X.env := by rfl) (hsw : swapsWith (.Call (.Attribute (.Name x p1) "append" p2) [e] [] p3) none pos.line X.env = pure false := by rfl)
    (hfew : (((backTo p3 (starEach [e] X.env)).all (!·.1) && (backToKw p3 (keywordEach [] X.env)).all (·.1.isSome)) && decide (([e] : List Expr).length + ([] : List Keyword).length + (if ([] : List Keyword).isEmpty then 0 else 1) < 30)) = true := by rfl)
    (hline : (p2.endLine == p3.line) = true := by rfl) :
    DS X E (.Expr (.Call (.Attribute (.Name x p1) "append" p2) [e] [] p3) pos) (dApp i de) := by
  obtain ⟨t, p, q⟩ := he.run
  refine ⟨_, ps_expr (pe_bm PySem.F.plainAttrs_list PySem.F.slot_list_append PySem.F.type_list_append mt_append (pe_var hN hv hd hcd) (pa_cons p pa_nil hs) hb hfew hline hs rfl) hsw, fun B De Dn l S σ env H a r h => ?_⟩
  unfold dApp at h
  split at h
  · next xs ei =>
    obtain ⟨b, vs, e1, e2, e3, e4, e5, e6⟩ := r.at_ i _ ei
    refine ⟨_, e1, .inl ⟨rfl, _, SqL.of e2⟩, ?_⟩
    refine q _ S H σ env _ _ _ a.g r (l.xl a) h fun v H1 S1 y s1 g1 r1 h1 => ?_
    have r' := r.step s1
    obtain ⟨b', vs', q1, q2, q3, q4, q5, q6⟩ := r'.at_ i _ ei
    rw [e1] at q1; cases q1
    refine ⟨b, vs', v, rfl, rfl, q2, by rw [q6.length]; exact h1.1, ?_⟩
    have a1 := a.step s1 g1
    refine l.nx S1 σ _ _ ⟨good_mut g1 q3 q4, ⟨a1.p.ext, a1.p.new, a1.p.box, fun c o ec hc => ?_⟩, a1.f⟩ (r'.mut ei e1 (q6.app (.one r1))) h1.2
    rw [upd_ne (ne_of_none ec q5)]; exact a1.p.keep c o ec hc
  · exact h.elim
end
end Dl

set_option Elab.async false
set_option linter.all false
set_option maxRecDepth 100000
set_option maxHeartbeats 4000000
/-! Dl8: contracts of defs, calls of them. -/
namespace Dl
open PySem PySem.Spec PyProof.Rows L2

abbrev SpD := List D → DK → EK → Prop
/-- a def's promise over data; no repr runs around the call -/
structure GFn (P : Program) (w : World) (K : PySem.W.Frag) (mg : Str → Option Value) (base : Heap) (k : Nat) (f : Addr) (fd : FuncData) (ps : List Str) (sp : SpD) : Prop where
  len : ∀ ds Q E, sp ds Q E → ds.length = ps.length
  run : ∀ (A : Around) (outer : List Env) (s : Shared) (H : Hp) (args : Args) (us : List Value) (vs : List V) (Q : VK) (E : XK) (S : Sta) (ds : List D) (Qd : DK) (Ed : EK), Room k A → A.guards = some [] → Env0 P w K mg base A outer s H → BindsTo s fd args (ps.zip us) → Vals vs us →
    Good S H → RpL S.bx S.F vs ds → sp ds Qd Ed → Cont S H Qd Q → XLink mg S H Ed E → codeAny (model P w) A (.call (.ref f) args) (CR (L2.CX P w) outer P w H s Q E) s
theorem GFn.mono {P : Program} {w : World} {K : PySem.W.Frag} {mg : Str → Option Value} {base : Heap} {j k : Nat} {f : Addr} {fd : FuncData} {ps : List Str} {sp : SpD} (F : GFn P w K mg base j f fd ps sp) (h : j ≤ k) :
    GFn P w K mg base k f fd ps sp := ⟨F.len, fun A outer s H args us vs Q E S ds Qd Ed hr => F.run A outer s H args us vs Q E S ds Qd Ed (hr.mono h)⟩
theorem GFn.imp {P : Program} {w : World} {K : PySem.W.Frag} {mg : Str → Option Value} {base : Heap} {k : Nat} {f : Addr} {fd : FuncData} {ps : List Str} {sp sp' : SpD} (F : GFn P w K mg base k f fd ps sp)
    (h : ∀ ds Q E, sp' ds Q E → sp ds Q E) : GFn P w K mg base k f fd ps sp' :=
  ⟨fun ds Q E q => F.len ds Q E (h _ _ _ q), fun A outer s H args us vs Q E S ds Qd Ed hr hg e0 hb hv g rp hs => F.run A outer s H args us vs Q E S ds Qd Ed hr hg e0 hb hv g rp (h _ _ _ hs)⟩
/-- the slots at the entry -/
def dstart (n : Nat) (ds : List D) : Env' := ds.map Sl.v ++ List.replicate (n - ds.length) Sl.no
theorem rel_start {S : Sta} {H : Hp} {N : List Str} {vs : List V} {ds : List D} (r : RpL S.bx S.F vs ds) : Rel H S H (L2.start N vs) (dstart N.length ds) where
  len := by
    unfold L2.start dstart
    rw [List.length_append, List.length_append, List.length_map, List.length_map, List.length_replicate, List.length_replicate, r.length]
  at_ := fun i s e => by
    unfold dstart at e
    by_cases hi : i < ds.length
    · rw [List.getElem?_append_left (by simpa using hi), List.getElem?_map] at e
      cases e1 : ds[i]? with
      | none => rw [e1] at e; cases e
      | some d =>
        rw [e1] at e
        cases e
        obtain ⟨v, h1, h2⟩ := r.getD e1
        refine ⟨v, ?_, h2⟩
        unfold L2.start
        rw [List.getElem?_append_left (by rw [List.length_map, r.length]; exact hi), List.getElem?_map, h1]; rfl
    · rw [List.getElem?_append_right (by simpa using hi), List.getElem?_replicate] at e
      split at e
      · cases e; trivial
      · cases e
  sep := fun i j xs ys a _ e1 _ _ => by
    exfalso
    unfold dstart at e1
    by_cases hi : i < ds.length
    · rw [List.getElem?_append_left (by simpa using hi), List.getElem?_map] at e1
      cases e2 : ds[i]? with
      | none => rw [e2] at e1; cases e1
      | some d => rw [e2] at e1; cases e1
    · rw [List.getElem?_append_right (by simpa using hi), List.getElem?_replicate] at e1
      split at e1 <;> cases e1
abbrev cxD (P : Program) (w : World) (K : PySem.W.Frag) (mg : Str → Option Value) (base : Heap) (N : List Str) (qual : Str) (scope : Scope) (f : Addr) (cd : Value) (A : Around) (outer : List Env) (s : Shared) (H : Hp) (E : XK) : Cx :=
  cxOf (L2.CX P w) P w K mg base N qual scope f cd A outer s H E
section
variable {P : Program} {w : World} {K : PySem.W.Frag} {mg : Str → Option Value} {base : Heap}
/-- the same over the heap -/
structure HFn (P : Program) (w : World) (K : PySem.W.Frag) (mg : Str → Option Value) (base : Heap) (k : Nat) (f : Addr) (fd : FuncData) (ps : List Str) (sp : Sp) : Prop where
  len : ∀ vs H Q E, sp vs H Q E → vs.length = ps.length
  run : ∀ (A : Around) (outer : List Env) (s : Shared) (H : Hp) (args : Args) (us : List Value) (vs : List V) (Q : VK) (E : XK), Room k A → A.guards = some [] → Env0 P w K mg base A outer s H → BindsTo s fd args (ps.zip us) → Vals vs us →
    sp vs H Q E → codeAny (model P w) A (.call (.ref f) args) (CR (L2.CX P w) outer P w H s Q E) s
theorem hfn_mk {x qual : Str} {st : Stmt} {f : Addr} {fd : FuncData} {N ps : List Str} {k : Nat} {sp : Sp} (F : Fun K x qual st f fd) (S : FnScope N ps (defScope st)) (len : ∀ vs H Q E, sp vs H Q E → vs.length = ps.length)
    (hbody : ∀ (cdv : Value) (A : Around) (outer : List Env) (s : Shared) (H : Hp) (vs : List V) (Q : VK) (E : XK), Room k (A.deeper (envOfC qual (defScope st) s.heap.objs.size f cdv)) → A.guards = some [] → sp vs H Q E →
      ∃ t, PSs (cxD P w K mg base N qual (defScope st) f cdv A outer s H E) (defBody st) t ∧ t { nx := fun _ H' => Q .non H', rt := Q } (start N vs) H) : HFn P w K mg base (k + 1) f fd ps sp := by
  obtain ⟨oc, od, kV, doc, pm, an, cdv, ct, osl, rfl, lk, hcd⟩ := F.ex
  refine ⟨len, fun A outer s H args us vs Q E hr hgd e0 hb r hsp => ?_⟩
  have hl : vs.length = ps.length := len _ _ _ _ hsp
  have KX : K.In s.heap := e0.mod.kin.keeps fun b o e => (e0.bs b o e).1
  have lim : s.heap.NoLimit := e0.mod.nolimit.keeps fun b o e => (e0.bs b o e).1
  have hkind : ∀ y ∈ ps.zip us, (defScope st).names.lookup y.1 = some .local ∨ ((defScope st).names.lookup y.1 = some .cell ∧ ((cellsFrom (s.heap.objs.size + 1) (defScope st).names []).lookup y.1).isSome = true) := fun ⟨n, v⟩ hy => by
    rcases S.par n (List.of_mem_zip hy).1 with q | q
    · exact .inl q
    · exact .inr ⟨q, PySem.W.cellsFrom_some _ _ _ (.inl q)⟩
  refine codeAny_call_function hr.depth (KX _ _ lk) rfl S.co S.gen rfl (PySem.W.codeRec_of KX hcd) (hb _ _ _ _ ?_)
  refine wpAny_newFunctionEnv_cells S.kind hkind fun env he s1 x => ?_
  subst he
  refine ⟨lim.keeps x.toInCall.keep, codeAny_func ?_⟩
  obtain ⟨t, ht, hrun⟩ := hbody cdv A outer s H vs Q E (hr.deeper _) hgd hsp
  have I : Inv (cxD P w K mg base N qual (defScope st) f cdv A outer s H E) [] (start N vs) H s1 := inv_start S hr.hd e0 hl r x
  refine wpAny_mono (ht.run [] s1 (start N vs) H _ I hrun) (fun fl s' hs => ?_) fun e s' hs => hs
  have fin : ∀ {σ' : L2.St} {H' : Hp} {v : V} {u : Value}, Inv (cxD P w K mg base N qual (defScope st) f cdv A outer s H E) [] σ' H' s' → RelV v u → Q v H' → CE outer P w H s Q u s' :=
    fun {σ' H' v u} J rv q => ⟨v, H', J.os, J.bare, J.base, J.hok, rv, q⟩
  cases fl with
  | ret u =>
    obtain ⟨v, σ', H', J, rv, q⟩ := hs
    exact fin J rv q
  | next =>
    obtain ⟨σ', H', J, q⟩ := hs
    exact fin (v := V.non) (u := Value.none) J rfl q
  | brk =>
    obtain ⟨_, _, _, q⟩ := hs
    exact False.elim q
  | cont =>
    obtain ⟨_, _, _, q⟩ := hs
    exact False.elim q
/-- a promise over data, over the heap -/
def liftSp (mg : Str → Option Value) (sp : SpD) : Sp := fun vs H Q E => ∃ (S : Sta) (ds : List D) (Qd : DK) (Ed : EK), Good S H ∧ RpL S.bx S.F vs ds ∧ sp ds Qd Ed ∧ Cont S H Qd Q ∧ XLink mg S H Ed E
theorem GFn.of {k : Nat} {f : Addr} {fd : FuncData} {ps : List Str} {sp : SpD} (h : HFn P w K mg base k f fd ps (liftSp mg sp)) (len : ∀ ds Q E, sp ds Q E → ds.length = ps.length) : GFn P w K mg base k f fd ps sp :=
  ⟨len, fun A outer s H args us vs Q E S ds Qd Ed hr hg e0 hb rv g rp hs k0 l0 => h.run A outer s H args us vs Q E hr hg e0 hb rv ⟨S, ds, Qd, Ed, g, rp, hs, k0, l0⟩⟩
/-- THE RULE for a def -/
theorem gfn_mk {x qual : Str} {st : Stmt} {f : Addr} {fd : FuncData} {N ps : List Str} {k : Nat} {sp : SpD} {d : DS_} (F : Fun K x qual st f fd) (S : FnScope N ps (defScope st)) (len : ∀ ds Q E, sp ds Q E → ds.length = ps.length)
    (hbody : ∀ (cdv : Value) (A : Around) (outer : List Env) (s : Shared) (H : Hp) (E : XK), Room k (A.deeper (envOfC qual (defScope st) s.heap.objs.size f cdv)) → A.guards = some [] →
      DSs (cxD P w K mg base N qual (defScope st) f cdv A outer s H E) E (defBody st) d)
    (law : ∀ ds Q E, sp ds Q E → d { nx := fun _ => Q .non, rt := Q, ex := E } (dstart N.length ds)) : GFn P w K mg base (k + 1) f fd ps sp := by
  refine GFn.of (hfn_mk F S (fun vs H Q E h => ?_) fun cdv A outer s H vs Q E hr hgd hsp => ?_) len
  · obtain ⟨S0, ds, Qd, Ed, g, rp, hsp, _⟩ := h
    rw [rp.length]; exact len _ _ _ hsp
  · obtain ⟨S0, ds, Qd, Ed, g, rp, hsp, k0, l0⟩ := hsp
    obtain ⟨t, ht, hq⟩ := (hbody cdv A outer s H E hr hgd).run
    refine ⟨t, ht, ?_⟩
    refine hq ⟨S0, H, S0.F, S0.bx⟩ { nx := fun _ => Qd .non, rt := Qd, ex := Ed } _ ⟨fun S σ env H1 a _ h => ?_, fun _ _ _ _ _ _ h => h.elim, fun _ _ _ _ _ _ h => h.elim, fun S v dv H1 a rv h => ?_, l0⟩ S0 (start N vs) (dstart N.length ds) H ⟨g, .refl _ _, .refl _ _⟩ (rel_start rp) (law ds Qd Ed hsp)
    · exact k0 .non H1 S .non a.p a.g .non h
    · exact k0 v H1 S dv a.p a.g rv h
/-- a def that may be called -/
structure Cal (P : Program) (w : World) (K : PySem.W.Frag) (mg : Str → Option Value) (base : Heap) (k : Nat) (x : Str) (ps : List Str) (sp : SpD) : Prop where
  ex : ∃ f fd, GFn P w K mg base k f fd ps sp ∧ mg x = some (.ref f) ∧ PySem.W.keepIn K (.ref f) = true ∧ Binds K fd ps []
theorem Cal.mono {j k : Nat} {x : Str} {ps : List Str} {sp : SpD} (c : Cal P w K mg base j x ps sp) (h : j ≤ k) : Cal P w K mg base k x ps sp :=
  let ⟨f, fd, a, b⟩ := c.ex; ⟨f, fd, a.mono h, b⟩
theorem Cal.imp {k : Nat} {x : Str} {ps : List Str} {sp sp' : SpD} (c : Cal P w K mg base k x ps sp) (h : ∀ ds Q E, sp' ds Q E → sp ds Q E) : Cal P w K mg base k x ps sp' :=
  let ⟨f, fd, a, b⟩ := c.ex; ⟨f, fd, a.imp h, b⟩
end
/-! ### calls -/
def dCall (sp : SpD) (u : DA_) : DT_ := fun env Q E => u env (fun xs => sp xs Q E) E
section
variable {X : Cx} {E : XK} {k : Nat} {x : Str} {ps : List Str} {sp : SpD} {p pos : Pos} {e : Expr} {es : List Expr} {u : DA_}
theorem run_g {f : Addr} {fd : FuncData} {pins : List (Addr × Obj)} {σ : L2.St} {H : Hp} {s : Shared} {Q : VK} {us : List Value} {vs : List V} {S : Sta} {ds : List D} {Qd : DK} {Ed : EK} (F : GFn X.prog X.w X.K X.mg X.base k f fd ps sp) (hr : Room k X.A) (hgd : X.A.guards = some []) (hb : Binds X.K fd ps []) (hx : Passes (L2.CX X.prog X.w) X E)
    (I : Inv X pins σ H s) (r : Vals vs us) (g : Good S H) (rp : RpL S.bx S.F vs ds) (h : sp ds Qd Ed) (k0 : Cont S H Qd Q) (l : XLink X.mg S H Ed E) : wpAny (model X.prog X.w) X.A (call (.ref f) us) (EP X pins σ Q) X.xe s := by
  have hl : us.length = ps.length := by rw [← r.length, rp.length]; exact F.len _ _ _ h
  have b := hb s us I.kIn (by rw [List.append_nil]; exact hl)
  rw [List.append_nil] at b
  refine wpAny_call (codeAny_mono (F.run X.A X.stack s H ⟨us, []⟩ us vs Q E S ds Qd Ed hr hgd I.env0 b r g rp h k0 l) fun r s' hq => ?_)
  cases r with
  | error e => exact hx pins σ H s e s' I hq
  | ok fl =>
    cases fl with
    | ret u => exact I.after hq
    | next => exact False.elim hq
    | brk => exact False.elim hq
    | cont => exact False.elim hq
/-- the callee's reading -/
def tG (mg : Str → Option Value) (sp : SpD) (E : XK) (t : TA) : TE := fun σ H Q => t σ H fun vs H1 => ∃ S ds Qd Ed, Good S H1 ∧ RpL S.bx S.F vs ds ∧ sp ds Qd Ed ∧ Cont S H1 Qd Q ∧ XLink mg S H1 Ed E
theorem de_call (c : Cal X.prog X.w X.K X.mg X.base k x ps sp) (hr : Room k X.A) (hgd : X.A.guards = some []) (hx : Passes (L2.CX X.prog X.w) X E) (hg : Gl X x) (ha : DA X E (e :: es) u)
    (hdb : (x == ("__debug__" : Str)) = false := by decide) (he : starEach (e :: es) X.env = (false, eval e X.env) :: starEach es X.env := by rfl) (hpl : (backTo pos (starEach es X.env)).any (·.1) = false := by rfl) :
    DE X E (.Call (.Name x p) (e :: es) [] pos) (dCall sp u) := by
  obtain ⟨f, fd, F, hm, hk, hb⟩ := c.ex
  obtain ⟨t, pa, q⟩ := ha.run
  refine ⟨tG X.mg sp E t, ⟨fun pins s σ H Q I h => ?_⟩, fun Z S H σ env Q Qd Ed g r l h k0 => ?_⟩
  · refine wpAny_Call_Name_kw (ld_glob I hg hm ?_ hdb)
    refine PySem.W.callWith_K (h₀ := X.base) I.ok.mod.kin hk (thn (pa.run pos pins s σ H _ I h) fun us s1 ⟨vs, H1, I1, r, S, ds, Qd, Ed, g, rp, h, k0, l⟩ => ⟨I1.kIn, ?_⟩) he hpl
    exact run_g F hr hgd hb hx I1 r g rp h k0 l
  · exact q Z S H σ env _ _ Ed g r l h fun vs H1 S1 xs s1 g1 r1 h1 => ⟨S1, xs, Qd, Ed, g1, r1, h1, k0.step s1 g1, l.step s1 g1⟩
theorem de_call0 (c : Cal X.prog X.w X.K X.mg X.base k x ps sp) (hr : Room k X.A) (hgd : X.A.guards = some []) (hx : Passes (L2.CX X.prog X.w) X E) (hg : Gl X x)
    (hdb : (x == ("__debug__" : Str)) = false := by decide) : DE X E (.Call (.Name x p) [] [] pos) (dCall sp dNil) := by
  obtain ⟨f, fd, F, hm, hk, hb⟩ := c.ex
  refine ⟨tG X.mg sp E tNil, ⟨fun pins s σ H Q I h => ?_⟩, fun Z S H σ env Q Qd Ed g r l h k0 => ⟨S, [], Qd, Ed, g, .nil, h, k0, l⟩⟩
  obtain ⟨S, ds, Qd, Ed, g, rp, h, k0, l⟩ := h
  refine wpAny_Call_Name_kw (ld_glob I hg hm ?_ hdb)
  exact PySem.W.callWith_K0 I.kIn hk (run_g (us := []) F hr hgd hb hx I .nil g rp h k0 l)
end
/-- what a def's context gives -/
theorem passD {P : Program} {w : World} {K : PySem.W.Frag} {mg : Str → Option Value} {base : Heap} {N : List Str} {qual : Str} {scope : Scope} {f : Addr} {cd : Value} {A : Around} {outer : List Env} {s : Shared} {H : Hp} {E : XK} :
    Passes (L2.CX P w) (cxD P w K mg base N qual scope f cd A outer s H E) E :=
  passes_call (X := cxD P w K mg base N qual scope f cd A outer s H E) (takes_of rfl rfl rfl rfl) fun _ _ _ _ h => h
end Dl

set_option Elab.async false
set_option linter.all false
set_option maxRecDepth 100000
set_option maxHeartbeats 4000000
/-! Dl9: repr, ==, in over data. -/
namespace Dl
open PySem PySem.Spec PyProof.Rows L2

/-! ### data as the library has it -/
def keyPy : Key → PyData
  | .inl i => .int i
  | .inr s => .str s
mutual
def D.py : D → PyData
  | .non => .none
  | .bl b => .bool b
  | .it i => .int i
  | .st s => .str s
  | .tp xs => .tuple (pyL xs)
  | .ls xs => .list (pyL xs)
  | .dc kvs => .dict (pyK kvs)
  | .bx _ _ => .none
def pyL : List D → List PyData
  | [] => []
  | x :: r => x.py :: pyL r
def pyK : List (Key × D) → List (PyData × PyData)
  | [] => []
  | (k, v) :: r => (keyPy k, v.py) :: pyK r
end
/-- small numbers, texts of signs, no box within -/
def okStr (s : Str) : Prop := ∀ c ∈ s.cps.toList, c < 16 ^ 8
def okInt (i : Int) : Prop := -(2 ^ 256) < i ∧ i < 2 ^ 256
def okKey : Key → Prop
  | .inl i => okInt i
  | .inr s => okStr s
mutual
def okD : D → Prop
  | .non => True
  | .bl _ => True
  | .it i => okInt i
  | .st s => okStr s
  | .tp xs => okL xs
  | .ls xs => okL xs
  | .dc kvs => okK kvs
  | .bx _ _ => False
def okL : List D → Prop
  | [] => True
  | x :: r => okD x ∧ okL r
def okK : List (Key × D) → Prop
  | [] => True
  | (k, v) :: r => okKey k ∧ okD v ∧ okK r
end
def massKey : Key → Nat
  | .inl _ => 1
  | .inr s => 1 + s.length
mutual
def mass : D → Nat
  | .non => 1
  | .bl _ => 1
  | .it _ => 1
  | .st s => 1 + s.length
  | .tp xs => 1 + massL xs
  | .ls xs => 1 + massL xs
  | .dc kvs => 1 + massK kvs
  | .bx _ _ => 1
def massL : List D → Nat
  | [] => 0
  | x :: r => mass x + massL r
def massK : List (Key × D) → Nat
  | [] => 0
  | (k, v) :: r => massKey k + mass v + massK r
end
mutual
def deep : D → Nat
  | .tp xs => deepL xs + 1
  | .ls xs => deepL xs + 1
  | .dc kvs => deepK kvs + 1
  | .non => 0
  | .bl _ => 0
  | .it _ => 0
  | .st _ => 0
  | .bx _ _ => 0
def deepL : List D → Nat
  | [] => 0
  | x :: r => max (deep x) (deepL r)
def deepK : List (Key × D) → Nat
  | [] => 0
  | (_, v) :: r => max (deep v) (deepK r)
end
mutual
theorem deep_py : ∀ d : D, d.py.depth = deep d
  | .non => by simp only [D.py, PyData.depth, deep]
  | .bl _ => by simp only [D.py, PyData.depth, deep]
  | .it _ => by simp only [D.py, PyData.depth, deep]
  | .st _ => by simp only [D.py, PyData.depth, deep]
  | .tp xs => by simp only [D.py, PyData.depth, deep, deepL_py xs]
  | .ls xs => by simp only [D.py, PyData.depth, deep, deepL_py xs]
  | .dc kvs => by simp only [D.py, PyData.depth, deep, deepK_py kvs]
  | .bx _ _ => by simp only [D.py, PyData.depth, deep]
theorem deepL_py : ∀ d : List D, PyData.depthAll (pyL d) = deepL d
  | [] => by simp only [pyL, PyData.depthAll, deepL]
  | x :: r => by simp only [pyL, PyData.depthAll, deepL, deep_py x, deepL_py r]
theorem deepK_py : ∀ d : List (Key × D), PyData.depthKv (pyK d) = deepK d
  | [] => by simp only [pyK, PyData.depthKv, deepK]
  | (k, v) :: r => by
    have : (keyPy k).depth = 0 := by cases k <;> simp only [keyPy, PyData.depth]
    simp only [pyK, PyData.depthKv, deepK, deep_py v, deepK_py r, this, Nat.zero_max]
end
theorem log_of {i : Int} (h : okInt i) : i.natAbs.log2 < 256 := by
  by_cases z : i.natAbs = 0
  · rw [z]; decide
  · rw [Nat.log2_lt z]
    have := h.1
    have := h.2
    omega
theorem log19 {i : Int} (h : okInt i) : i.natAbs.log2 < 1920 := Nat.lt_trans (log_of h) (by decide)
theorem len_int {i : Int} (h : okInt i) : (PyData.shown (.int i)).length ≤ 257 := by
  simp only [PyData.shown]
  rw [PySem.ofString_length]
  exact int_text_length_le (k := 256) (by decide) (log_of h)
theorem show_key {k : Key} (h : okKey k) : (keyPy k).showable = true ∧ (keyPy k).shown.length + 4 ≤ 300 * massKey k := by
  cases k with
  | inl i =>
    refine ⟨by simp only [keyPy, PyData.showable, decide_eq_true_eq]; exact log19 h, ?_⟩
    have := len_int (i := i) h
    show (PyData.shown (.int i)).length + 4 ≤ 300 * 1
    omega
  | inr s =>
    refine ⟨by simp only [keyPy, PyData.showable], ?_⟩
    have := PySem.StrLaws.reprText_len s h
    show (PyData.shown (.str s)).length + 4 ≤ 300 * (1 + s.length)
    simp only [PyData.shown]
    omega
mutual
theorem show_ok : ∀ d : D, okD d → d.py.showable = true ∧ d.py.shown.length + 2 ≤ 300 * mass d
  | .non, _ => ⟨by simp only [D.py, PyData.showable], by show 4 + 2 ≤ 300 * 1; decide⟩
  | .bl b, _ => ⟨by simp only [D.py, PyData.showable], by cases b <;> decide⟩
  | .it i, h => ⟨by simp only [D.py, PyData.showable, decide_eq_true_eq]; exact log19 (by simpa only [okD] using h), by
      have := len_int (i := i) (by simpa only [okD] using h)
      show (PyData.shown (.int i)).length + 2 ≤ 300 * 1
      omega⟩
  | .st s, h => ⟨by simp only [D.py, PyData.showable], by
      have := PySem.StrLaws.reprText_len s (by simp only [okD] at h; exact h)
      show (PyData.shown (.str s)).length + 2 ≤ 300 * (1 + s.length)
      simp only [PyData.shown]
      omega⟩
  | .tp xs, h => by
    obtain ⟨a, b⟩ := show_okL xs (by simpa only [okD] using h)
    refine ⟨by simp only [D.py, PyData.showable]; exact a, ?_⟩
    have h2 := tupleText_len_le (PyData.shownAll (pyL xs))
    simp only [D.py, PyData.shown, mass]
    omega
  | .ls xs, h => by
    obtain ⟨a, b⟩ := show_okL xs (by simpa only [okD] using h)
    refine ⟨by simp only [D.py, PyData.showable]; exact a, ?_⟩
    have h2 := listText_len_le (PyData.shownAll (pyL xs))
    simp only [D.py, PyData.shown, mass]
    omega
  | .dc kvs, h => by
    obtain ⟨a, b⟩ := show_okK kvs (by simpa only [okD] using h)
    refine ⟨by simp only [D.py, PyData.showable]; exact a, ?_⟩
    have h2 := dictText_len_le (PyData.shownKv (pyK kvs))
    simp only [D.py, PyData.shown, mass]
    omega
  | .bx _ _, h => by simp only [okD] at h
theorem show_okL : ∀ xs : List D, okL xs → PyData.showableAll (pyL xs) = true ∧ ((PyData.shownAll (pyL xs)).map (·.length)).sum + 2 * (PyData.shownAll (pyL xs)).length ≤ 300 * massL xs
  | [], _ => ⟨by simp only [pyL, PyData.showableAll], by simp only [pyL, PyData.shownAll, List.map_nil, List.sum_nil, List.length_nil, massL]; decide⟩
  | x :: r, h => by
    simp only [okL] at h
    obtain ⟨a, b⟩ := show_ok x h.1
    obtain ⟨c, d⟩ := show_okL r h.2
    refine ⟨by simp only [pyL, PyData.showableAll, a, c, Bool.and_self], ?_⟩
    simp only [pyL, PyData.shownAll, List.map_cons, List.sum_cons, List.length_cons, massL]
    omega
theorem show_okK : ∀ xs : List (Key × D), okK xs → PyData.showableKv (pyK xs) = true ∧ ((PyData.shownKv (pyK xs)).map (·.length)).sum + 2 * (PyData.shownKv (pyK xs)).length ≤ 300 * massK xs
  | [], _ => ⟨by simp only [pyK, PyData.showableKv], by simp only [pyK, PyData.shownKv, List.map_nil, List.sum_nil, List.length_nil, massK]; decide⟩
  | (k, v) :: r, h => by
    simp only [okK] at h
    obtain ⟨a0, b0⟩ := show_key h.1
    obtain ⟨a, b⟩ := show_ok v h.2.1
    obtain ⟨c, d⟩ := show_okK r h.2.2
    refine ⟨by simp only [pyK, PyData.showableKv, a0, a, c, Bool.and_self], ?_⟩
    have e2 : ((keyPy k).shown ++ ": " ++ v.py.shown).length = (keyPy k).shown.length + 2 + v.py.shown.length := by
      rw [strLen_append, strLen_append]; rfl
    simp only [pyK, PyData.shownKv, List.map_cons, List.sum_cons, List.length_cons, massK]
    omega
end
/-- may be shown -/
structure Fit (d : D) : Prop where
  ok : okD d
  m : mass d ≤ 50000
  h : deep d ≤ 150
theorem Fit.size {d : D} (f : Fit d) : d.py.shown.length ≤ sizeLine := by
  have := (show_ok d f.ok).2
  have := f.m
  rw [sizeLine_eq]
  omega

/-! ### reading -/
theorem RpK.keys {t : Option Bx} {F : Hp} : ∀ {vs : List (Key × V)} {ds : List (Key × D)}, RpK t F vs ds → vs.map (·.1) = ds.map (·.1)
  | _, _, .nil => rfl
  | _, _, .cons _ s => by rw [List.map_cons, List.map_cons, s.keys]
theorem keys_reads {P : Program} {w : World} {h : Heap} : ∀ {kvs : List (Key × V)} {ds : List (Key × D)} {vs : List (Key × Value)} {es : List DictEntry}, KV kvs vs → Pairs (mixKind P w) es vs → (kvs.map (·.1)) = ds.map (·.1) → ReadsAll h (es.map (·.key)) ((pyK ds).map (·.1)) []
  | [], [], _, _, .nil, .nil, _ => .nil
  | [], _ :: _, _, _, _, _, e => by simp at e
  | _ :: _, [], _, _, _, _, e => by simp at e
  | (k, v) :: r, (k', d) :: ds, _, _, .cons e1 t, .cons (e := en) q1 q2 q3, e => by
    simp only [List.map_cons, List.cons.injEq] at e
    obtain ⟨rfl, e⟩ := e
    have h1 := keys_reads (h := h) (ds := ds) t q3 e
    have q1' : keyIs k en.key = true := by
      have := e1.1
      have e2 : k = _ := e1.1
      rw [e2]; exact q1
    simp only [pyK, List.map_cons]
    rcases keyIs_shape q1' with ⟨i, t, rfl, ek⟩ | ⟨x, t, rfl, ek⟩
    · exact ReadsAll.cons (as := []) (by rw [ek]; exact Reads.int i t) h1
    · exact ReadsAll.cons (as := []) (by rw [ek]; exact Reads.str x t) h1
mutual
/-- data that stand in the heap read as data; sysModules is none of them -/
theorem Rp.reads {P : Program} {w : World} {S : Sta} {H : Hp} {h : Heap} (ok : HOk P w H h) (g : Good S H) (hm : H sysModules = none) : ∀ (d : D) (v : V) (u : Value), okD d → Rp S.bx S.F v d → RelV v u → ∃ as, Reads h u d.py as ∧ sysModules ∉ as
  | .non, _, _, _, r, e => by cases r; cases e; exact ⟨_, by simp only [D.py]; exact Reads.none, by simp⟩
  | .bl b, _, _, _, r, e => by cases r; cases e; exact ⟨_, by simp only [D.py]; exact Reads.bool b, by simp⟩
  | .it i, _, _, _, r, e => by cases r; obtain ⟨t, rfl⟩ := e; exact ⟨_, by simp only [D.py]; exact Reads.int i t, by simp⟩
  | .st s, _, _, _, r, e => by cases r; obtain ⟨t, rfl⟩ := e; exact ⟨_, by simp only [D.py]; exact Reads.str s t, by simp⟩
  | .tp xs, _, _, k, r, e => by
    cases r with
    | @tp a vs _ e1 rr =>
      cases e
      have q := g.fz _ _ e1
      obtain ⟨_, its, rv, o, ho, hc, n, hd⟩ : ObjOk P w H h a (.tup vs) := ok _ _ q
      obtain ⟨as, h1, h2⟩ := Rp.readsL ok g hm xs vs its (by simpa only [okD] using k) rr rv
      exact ⟨_, by simp only [D.py]; exact Reads.tuple ho hc hd h1, h2⟩
  | .ls xs, _, _, k, r, e => by
    cases r with
    | @ls a vs _ e1 rr =>
      cases e
      have q := g.fz _ _ e1
      obtain ⟨_, its, n, rv, ho⟩ : ObjOk P w H h a (.lst vs) := ok _ _ q
      obtain ⟨as, h1, h2⟩ := Rp.readsL ok g hm xs vs its (by simpa only [okD] using k) rr rv
      refine ⟨_, by simp only [D.py]; exact Reads.list ho rfl rfl (by simpa using h1), ?_⟩
      intro z
      rcases List.mem_cons.mp z with z | z
      · rw [z, q] at hm; cases hm
      · exact h2 z
  | .dc kvs, _, _, k, r, e => by
    cases r with
    | @dc a vs _ e1 rr =>
      cases e
      have q := g.fz _ _ e1
      obtain ⟨_, _, us, rv, o, es, ep, ho, hx, hd, _, hp, _⟩ : ObjOk P w H h a (.dK vs) := ok _ _ q
      obtain ⟨as, h1, h2⟩ := Rp.readsK ok g hm kvs vs us es.toList (by simpa only [okD] using k) rr rv hp
      have h3 := keys_reads (h := h) (ds := kvs) rv hp rr.keys
      refine ⟨_, by simp only [D.py]; exact Reads.dict ho hx.1 hd h3 h1, ?_⟩
      intro z
      rcases List.mem_cons.mp (by simpa using z) with z | z
      · rw [z, q] at hm; cases hm
      · exact h2 z
  | .bx _ _, _, _, k, _, _ => by simp only [okD] at k
theorem Rp.readsL {P : Program} {w : World} {S : Sta} {H : Hp} {h : Heap} (ok : HOk P w H h) (g : Good S H) (hm : H sysModules = none) : ∀ (d : List D) (v : List V) (u : List Value), okL d → RpL S.bx S.F v d → Vals v u → ∃ as, ReadsAll h u (pyL d) as ∧ sysModules ∉ as
  | [], _, _, _, r, e => by cases r; cases e; exact ⟨_, by simp only [pyL]; exact .nil, by simp⟩
  | x :: xs, _, _, k, r, e => by
    simp only [okL] at k
    cases r with
    | cons r1 r2 =>
      cases e with
      | cons e1 e2 =>
        obtain ⟨as, h1, h2⟩ := Rp.reads ok g hm x _ _ k.1 r1 e1
        obtain ⟨bs, h3, h4⟩ := Rp.readsL ok g hm xs _ _ k.2 r2 e2
        refine ⟨_, by simp only [pyL]; exact .cons h1 h3, ?_⟩
        intro z
        rcases List.mem_append.mp z with z | z
        · exact h2 z
        · exact h4 z
theorem Rp.readsK {P : Program} {w : World} {S : Sta} {H : Hp} {h : Heap} (ok : HOk P w H h) (g : Good S H) (hm : H sysModules = none) : ∀ (d : List (Key × D)) (v : List (Key × V)) (u : List (Key × Value)) (es : List DictEntry), okK d → RpK S.bx S.F v d → KV v u → Pairs (mixKind P w) es u →
    ∃ as, ReadsAll h (es.map (·.val)) ((pyK d).map (·.2)) as ∧ sysModules ∉ as
  | [], _, _, _, _, r, e, p => by cases r; cases e; cases p; exact ⟨_, by simp only [pyK, List.map_nil]; exact .nil, by simp⟩
  | (k0, x) :: xs, _, _, _, k, r, e, p => by
    simp only [okK] at k
    cases r with
    | cons r1 r2 =>
      cases e with
      | cons e1 e2 =>
        cases p with
        | cons p1 p2 p3 =>
          obtain ⟨as, h1, h2⟩ := Rp.reads ok g hm x _ _ k.2.1 r1 e1.2
          obtain ⟨bs, h3, h4⟩ := Rp.readsK ok g hm xs _ _ _ k.2.2 r2 e2 p3
          refine ⟨_, by simp only [pyK, List.map_cons]; exact .cons (by rw [p2]; exact h1) h3, ?_⟩
          intro z
          rcases List.mem_append.mp z with z | z
          · exact h2 z
          · exact h4 z
end
end Dl

set_option Elab.async false
set_option linter.all false
set_option maxRecDepth 100000
set_option maxHeartbeats 4000000
/-! Dl10: the rules of repr, ==, !=, in, not in. -/
namespace PySem.SeqAt
open MeetsSeq AutoSeq1
theorem dict_declines_int (l : Addr) (es : Array DictEntry) (n : Nat) (dd : Option Addr) (sl : Array (Option Value)) (b : Int) (u : Tok) :
    Meets (Builtin.«dict.__eq__» ⟨[.ref l, .int b u], []⟩) (fun _ R s => s.heap.get? l = some { cls := .type "dict", dict := dd, data := .dict es n, slots := sl } ∧ R (.ok (.ret .notImplemented)) s) :=
  .of_wp fun prog w A R s h => by obtain ⟨hp, g, d, tk, os⟩ := s; obtain ⟨hl, h⟩ := h; have f1 := F.sub_int_dict; wp_walk using wpAny_loadPart' hl, wpAny_load hl; exact ⟨_, rfl, h⟩
theorem int_declines_dict (b : Int) (u : Tok) (l : Addr) (es : Array DictEntry) (n : Nat) (dd : Option Addr) (sl : Array (Option Value)) :
    Meets (Builtin.«int.__eq__» ⟨[.int b u, .ref l], []⟩) (fun _ R s => s.heap.get? l = some { cls := .type "dict", dict := dd, data := .dict es n, slots := sl } ∧ R (.ok (.ret .notImplemented)) s) :=
  .of_wp fun prog w A R s h => by obtain ⟨hp, g, d, tk, os⟩ := s; obtain ⟨hl, h⟩ := h; wp_walk using wpAny_loadPart' hl, wpAny_load hl; exact ⟨_, rfl, h⟩
theorem rcAt_dict_int {A : Around} {s : Shared} {l : Addr} {o : Obj} {es : Array DictEntry} {n : Nat} (b : Int) (u : Tok) (ho : s.heap.get? l = some o) (hc : o.cls = .type "dict") (hd : o.data = .dict es n) (hu : A.units < cLine) : RcAt A s (.ref l) (.int b u) false := fun prog w E Q h => by
  obtain ⟨cls, dd, data, sl⟩ := o
  simp only at hc hd
  subst hc hd
  exact rc_eq_decline_or (k := false) ⟨_, ho, rfl⟩ (typeIs_int s b u) (by decide) F.sub_int_dict F.slot_dict_eq F.slot_int_eq_refl
    (fun _ hq => call_meets F.slot_dict_eq ⟨_, ho, rfl⟩ F.entry_dict_eq (F.args_dict_eq_2 _ _) (dict_declines_int l es n dd sl b u) ⟨ho, hq⟩)
    (fun _ hq => call_meets F.slot_int_eq_refl (typeIs_int s b u) F.entry_int_eq (F.args_int_eq_2 _ _) (int_declines_dict b u l es n dd sl) ⟨ho, hq⟩)
    (fun _ hq => wpAny_of_eq (rfl : isSame (.ref l) (.int b u) = pure false) hq) (.inr hu) h
end PySem.SeqAt
namespace Dl
open PySem PySem.Spec PyProof.Rows L2

/-! ### repr -/
def rReprD : List V → Hp → VK → Prop := fun xs H Q => ∃ x S d, xs = [x] ∧ Good S H ∧ Rp S.bx S.F x d ∧ Fit d ∧ Q (.str d.py.shown) H
theorem sys_none {X : Cx} {pins : List (Addr × Obj)} {σ : L2.St} {H : Hp} {s : Shared} (I : Inv X pins σ H s) (hs : ∃ o, X.base.get? sysModules = some o) : H sysModules = none :=
  let ⟨o, e⟩ := hs; (I.bs _ o e).2
theorem call_reprD {X : Cx} {k : Nat} (hr : Room k X.A) (hgd : X.A.guards = some []) (hs : ∃ o, X.base.get? sysModules = some o) : CallR X (.builtin "repr") rReprD := by
  intro pins s σ H xs us Q I r h
  obtain ⟨x, S, d, rfl, g, rp, f, q⟩ := h
  obtain ⟨u, rfl, ru⟩ := vals1 r
  obtain ⟨as, h1, h2⟩ := Rp.reads I.hok g (sys_none I hs) d x u f.ok rp ru
  have hz := f.size
  have hsh := (show_ok d f.ok).1
  have kk : ∀ h' tk, (∀ b o, s.heap.get? b = some o → h'.get? b = some o) → ∀ u, EP X pins σ Q (.str d.py.shown u) { s with heap := h', toks := tk } := fun h' tk k u => ⟨.str _, H, I.kept k, ⟨_, rfl⟩, q⟩
  have tk : ∀ t u, EP X pins σ Q (.str d.py.shown u) { s with toks := t } := fun t u => ⟨.str _, H, I.tok t, ⟨_, rfl⟩, q⟩
  have big : ∀ a, Reads s.heap (.ref a) d.py as → wpAny (model X.prog X.w) X.A (call (.builtin "repr") [.ref a]) (EP X pins σ Q) X.xe s := fun a h1 =>
    PySem.repr_of_reads' h1 hsh (fun _ => h2) hgd (by have := hr.un; have := f.h; rw [deep_py]; omega) (fun _ _ e => e) (fun h' u t k => kk h' t k u) hz
  cases d with
  | non => cases rp; cases ru; exact PySem.P.repr_of_none (tk _ _)
  | bl b => cases rp; cases ru; exact PySem.P.repr_of_bool (by have := tk (s.toks + 1) s.toks; simpa only [D.py, PyData.shown] using this)
  | it i => cases rp; obtain ⟨t, rfl⟩ := ru; exact PySem.P.repr_of_int (log19 (by have := f.ok; simpa only [okD] using this)) (by have := tk (s.toks + 1) s.toks; simpa only [D.py, PyData.shown] using this)
  | st z => cases rp; obtain ⟨t, rfl⟩ := ru; exact PySem.P.repr_of_str (by have := tk (s.toks + 1) s.toks; simpa only [D.py, PyData.shown] using this) (by simpa only [D.py, PyData.shown] using hz)
  | tp ys => cases rp; cases ru; exact big _ h1
  | ls ys => cases rp; cases ru; exact big _ h1
  | dc ys => cases rp; cases ru; exact big _ h1
  | bx _ _ => have := f.ok; simp only [okD] at this
def oRepr (xs : List D) (Q : DK) : Prop := match xs with | [d] => Fit d ∧ Q (.st d.py.shown) | _ => False
section
variable {X : Cx} {E : XK} {pos : Pos} {a b : Expr} {da db : DT_} {k : Nat}
theorem de_repr {u : DA_} {e : Expr} {p : Pos} (hr : Room k X.A) (hgd : X.A.guards = some []) (hsys : ∃ o, X.base.get? sysModules = some o) (hg : Gl X "repr") (hm : X.mg "repr" = none) (ha : DA X E [e] u)
    (he : starEach [e] X.env = (false, eval e X.env) :: starEach [] X.env := by rfl) : DE X E (.Call (.Name "repr" p) [e] [] pos) (dCB oRepr u) := by
  refine de_callB (call_reprD hr hgd hsys) (fun S => ?_) hg hm (by decide +kernel) ha (by decide) (by decide) he rfl
  intro H vs ds Q Qd g r h k
  unfold oRepr at h
  split at h
  · cases r with
    | cons r1 r2 =>
      cases r2
      exact ⟨_, S, _, rfl, g, r1, h.1, k.now g (.st _) h.2⟩
  · exact h.elim

/-! ### ==, != -/
mutual
def plainD : D → Bool
  | .tp xs => plainDL xs
  | .ls xs => plainDL xs
  | .dc _ => false
  | .bx _ _ => false
  | .non => true
  | .bl _ => true
  | .it _ => true
  | .st _ => true
def plainDL : List D → Bool
  | [] => true
  | x :: r => plainD x && plainDL r
end
mutual
theorem plain_py : ∀ d : D, plainD d = true → d.py.plain = true
  | .non, _ => rfl
  | .bl _, _ => rfl
  | .it _, _ => rfl
  | .st _, _ => rfl
  | .tp xs, h => by simp only [plainD] at h; simp only [D.py, PyData.plain]; exact plainL_py xs h
  | .ls xs, h => by simp only [plainD] at h; simp only [D.py, PyData.plain]; exact plainL_py xs h
  | .dc _, h => by simp only [plainD] at h; cases h
  | .bx _ _, h => by simp only [plainD] at h; cases h
theorem plainL_py : ∀ d : List D, plainDL d = true → PyData.plainAll (pyL d) = true
  | [], _ => rfl
  | x :: r, h => by
    simp only [plainDL, Bool.and_eq_true] at h
    simp only [pyL, PyData.plainAll, plain_py x h.1, plainL_py r h.2, Bool.and_self]
end
mutual
/-- plain data read as data, whatever their numbers -/
theorem Rp.readsP {P : Program} {w : World} {S : Sta} {H : Hp} {h : Heap} (ok : HOk P w H h) (g : Good S H) : ∀ (d : D) (v : V) (u : Value), plainD d = true → Rp S.bx S.F v d → RelV v u → ∃ as, Reads h u d.py as
  | .non, _, _, _, r, e => by cases r; cases e; exact ⟨_, by simp only [D.py]; exact Reads.none⟩
  | .bl b, _, _, _, r, e => by cases r; cases e; exact ⟨_, by simp only [D.py]; exact Reads.bool b⟩
  | .it i, _, _, _, r, e => by cases r; obtain ⟨t, rfl⟩ := e; exact ⟨_, by simp only [D.py]; exact Reads.int i t⟩
  | .st s, _, _, _, r, e => by cases r; obtain ⟨t, rfl⟩ := e; exact ⟨_, by simp only [D.py]; exact Reads.str s t⟩
  | .tp xs, _, _, k, r, e => by
    cases r with
    | @tp a vs _ e1 rr =>
      cases e
      obtain ⟨_, its, rv, o, ho, hc, n, hd⟩ : ObjOk P w H h a (.tup vs) := ok _ _ (g.fz _ _ e1)
      obtain ⟨as, h1⟩ := Rp.readsPL ok g xs vs its (by simpa only [plainD] using k) rr rv
      exact ⟨_, by simp only [D.py]; exact Reads.tuple ho hc hd h1⟩
  | .ls xs, _, _, k, r, e => by
    cases r with
    | @ls a vs _ e1 rr =>
      cases e
      obtain ⟨_, its, n, rv, ho⟩ : ObjOk P w H h a (.lst vs) := ok _ _ (g.fz _ _ e1)
      obtain ⟨as, h1⟩ := Rp.readsPL ok g xs vs its (by simpa only [plainD] using k) rr rv
      exact ⟨_, by simp only [D.py]; exact Reads.list ho rfl rfl (by simpa using h1)⟩
  | .dc kvs, _, _, k, _, _ => by simp only [plainD] at k; cases k
  | .bx _ _, _, _, k, _, _ => by simp only [plainD] at k; cases k
theorem Rp.readsPL {P : Program} {w : World} {S : Sta} {H : Hp} {h : Heap} (ok : HOk P w H h) (g : Good S H) : ∀ (d : List D) (v : List V) (u : List Value), plainDL d = true → RpL S.bx S.F v d → Vals v u → ∃ as, ReadsAll h u (pyL d) as
  | [], _, _, _, r, e => by cases r; cases e; exact ⟨_, by simp only [pyL]; exact .nil⟩
  | x :: xs, _, _, k, r, e => by
    simp only [plainDL, Bool.and_eq_true] at k
    cases r with
    | cons r1 r2 =>
      cases e with
      | cons e1 e2 =>
        obtain ⟨as, h1⟩ := Rp.readsP ok g x _ _ k.1 r1 e1
        obtain ⟨bs, h3⟩ := Rp.readsPL ok g xs _ _ k.2 r2 e2
        exact ⟨_, by simp only [pyL]; exact .cons h1 h3⟩
end
def eqD (x y : D) : Bool := PyData.eqv x.py y.py
/-- may be compared -/
def cmpOk (x y : D) : Prop := plainD x = true ∧ plainD y = true ∧ min (deep x) (deep y) ≤ 150
def rEqD (neg : Bool) : R2 := fun x y H Q => (∃ S dx dy, Good S H ∧ Rp S.bx S.F x dx ∧ Rp S.bx S.F y dy ∧ cmpOk dx dy ∧ Q (.bl (neg ^^ eqD dx dy)) H)
/-- anything against a number -/
def eqIt : D → Int → Bool
  | .it i, j => i == j
  | .bl b, j => (if b then 1 else 0) == j
  | _, _ => false
def isBx : D → Bool
  | .bx _ _ => true
  | _ => false
def rEqIt (neg : Bool) : R2 := fun x y H Q => ∃ S d i, Good S H ∧ Rp S.bx S.F x d ∧ isBx d = false ∧ y = .int i ∧ Q (.bl (neg ^^ eqIt d i)) H
theorem op_eqD (hr : Room k X.A) : OpR X (compareOp .Eq) (rEqD false) := by
  intro pins s σ H x y v u Q I rx ry h
  obtain ⟨S, dx, dy, g, r1, r2, ⟨p1, p2, p3⟩, q⟩ := h
  obtain ⟨as, h1⟩ := Rp.readsP I.hok g dx x v p1 r1 rx
  obtain ⟨bs, h2⟩ := Rp.readsP I.hok g dy y u p2 r2 ry
  rw [Bool.false_xor] at q
  exact SeqAt.eq_plain h1 h2 (plain_py _ p1) (plain_py _ p2) (by rw [deep_py, deep_py]; have := hr.un; omega) ⟨.bl _, H, I, rfl, q⟩
theorem op_neD (hr : Room k X.A) : OpR X (compareOp .NotEq) (rEqD true) := by
  intro pins s σ H x y v u Q I rx ry h
  obtain ⟨S, dx, dy, g, r1, r2, ⟨p1, p2, p3⟩, q⟩ := h
  obtain ⟨as, h1⟩ := Rp.readsP I.hok g dx x v p1 r1 rx
  obtain ⟨bs, h2⟩ := Rp.readsP I.hok g dy y u p2 r2 ry
  rw [Bool.true_xor] at q
  exact SeqAt.ne_plain h1 h2 (plain_py _ p1) (plain_py _ p2) (by rw [deep_py, deep_py]; have := hr.un; omega) ⟨.bl _, H, I, rfl, q⟩
theorem rcAt_it {P : Program} {w : World} {S : Sta} {H : Hp} {s : Shared} {A : Around} (ok : HOk P w H s.heap) (g : Good S H) {d : D} {v : V} {u : Value} (hb : isBx d = false) (r : Rp S.bx S.F v d) (ru : RelV v u) (j : Int) (t : Tok) (hu : A.units < cLine) : SeqAt.RcAt A s u (.int j t) (eqIt d j) := by
  cases r with
  | non => cases ru; exact SeqAt.RcAt.none_int j t
  | bl b => cases ru; exact SeqAt.RcAt.bool_int b j t
  | it i => obtain ⟨t', rfl⟩ := ru; exact SeqAt.RcAt.int_int i t' j t
  | st x => obtain ⟨t', rfl⟩ := ru; exact SeqAt.RcAt.str_int x t' j t
  | @tp a vs _ e rr =>
    cases ru
    obtain ⟨_, its, rv, o, ho, hc, n, hd⟩ : ObjOk P w H s.heap a (.tup vs) := ok _ _ (g.fz _ _ e)
    exact SeqAt.RcAt.tuple_int j t ⟨_, ho, hc, _, hd⟩ hu
  | @ls a vs _ e rr =>
    cases ru
    obtain ⟨_, its, n, rv, ho⟩ : ObjOk P w H s.heap a (.lst vs) := ok _ _ (g.fz _ _ e)
    exact SeqAt.RcAt.list_int j t ⟨_, ho, rfl, _, rfl⟩ hu
  | @dc a vs _ e rr =>
    cases ru
    obtain ⟨_, _, us, rv, o, es, ep, ho, hx, hd, _⟩ : ObjOk P w H s.heap a (.dK vs) := ok _ _ (g.fz _ _ e)
    exact SeqAt.rcAt_dict_int j t ho hx.1 hd hu
  | bx => simp only [isBx, reduceCtorEq] at hb
theorem op_eqIt (hr : Room k X.A) : OpR X (compareOp .Eq) (rEqIt false) := by
  intro pins s σ H x y v u Q I rx ry h
  obtain ⟨S, d, i, g, r1, hb, rfl, q⟩ := h
  obtain ⟨t, rfl⟩ := ry
  rw [Bool.false_xor] at q
  exact rcAt_it I.hok g hb r1 rx i t (by have := hr.un; omega) X.prog X.w X.xe _ ⟨.bl _, H, I, rfl, q⟩
def oEq (x y : D) (Q : DK) : Prop := match y with
  | .it j => isBx x = false ∧ Q (.bl (eqIt x j))
  | y => cmpOk x y ∧ Q (.bl (eqD x y))
/-- neither the box nor a dict -/
def isBxDc : D → Bool
  | .bx _ _ => true
  | .dc _ => true
  | _ => false
def rNeIt : R2 := fun x y H Q => ∃ S d i, Good S H ∧ Rp S.bx S.F x d ∧ isBxDc d = false ∧ y = .int i ∧ Q (.bl (!eqIt d i)) H
theorem rcNe_it {P : Program} {w : World} {S : Sta} {H : Hp} {s : Shared} {A : Around} (ok : HOk P w H s.heap) (g : Good S H) {d : D} {v : V} {u : Value} (hb : isBxDc d = false) (r : Rp S.bx S.F v d) (ru : RelV v u) (j : Int) (t : Tok) (hu : A.units < cLine) : SeqAt.RcNeAt A s u (.int j t) (!eqIt d j) := by
  cases r with
  | non => cases ru; exact SeqAt.RcNeAt.none_int j t
  | bl b => cases ru; exact SeqAt.RcNeAt.bool_int b j t
  | it i => obtain ⟨t', rfl⟩ := ru; exact SeqAt.RcNeAt.int_int i t' j t
  | st x => obtain ⟨t', rfl⟩ := ru; exact SeqAt.RcNeAt.str_int x t' j t
  | @tp a vs _ e rr =>
    cases ru
    obtain ⟨_, its, rv, o, ho, hc, n, hd⟩ : ObjOk P w H s.heap a (.tup vs) := ok _ _ (g.fz _ _ e)
    exact SeqAt.RcNeAt.tuple_int j t ⟨_, ho, hc, _, hd⟩ hu
  | @ls a vs _ e rr =>
    cases ru
    obtain ⟨_, its, n, rv, ho⟩ : ObjOk P w H s.heap a (.lst vs) := ok _ _ (g.fz _ _ e)
    exact SeqAt.RcNeAt.list_int j t ⟨_, ho, rfl, _, rfl⟩ hu
  | dc => simp only [isBxDc, reduceCtorEq] at hb
  | bx => simp only [isBxDc, reduceCtorEq] at hb
theorem op_neIt (hr : Room k X.A) : OpR X (compareOp .NotEq) rNeIt := by
  intro pins s σ H x y v u Q I rx ry h
  obtain ⟨S, d, i, g, r1, hb, rfl, q⟩ := h
  obtain ⟨t, rfl⟩ := ry
  exact rcNe_it I.hok g hb r1 rx i t (by have := hr.un; omega) X.prog X.w X.xe _ ⟨.bl _, H, I, rfl, q⟩
def oNe (x y : D) (Q : DK) : Prop := match y with
  | .it j => isBxDc x = false ∧ Q (.bl (!eqIt x j))
  | y => cmpOk x y ∧ Q (.bl (!eqD x y))
theorem od_eq (S : Sta) : OpD S (fun x y H Q => rEqD false x y H Q ∨ rEqIt false x y H Q) oEq := by
  intro H x y dx dy Q Qd g rx ry h k
  unfold oEq at h
  split at h
  · cases ry
    exact .inr ⟨S, _, _, g, rx, h.1, rfl, by rw [Bool.false_xor]; exact k.now g (.bl _) h.2⟩
  · exact .inl ⟨S, _, _, g, rx, ry, h.1, by rw [Bool.false_xor]; exact k.now g (.bl _) h.2⟩
theorem od_ne (S : Sta) : OpD S (fun x y H Q => rEqD true x y H Q ∨ rNeIt x y H Q) oNe := by
  intro H x y dx dy Q Qd g rx ry h k
  unfold oNe at h
  split at h
  · cases ry
    exact .inr ⟨S, _, _, g, rx, h.1, rfl, k.now g (.bl _) h.2⟩
  · exact .inl ⟨S, _, _, g, rx, ry, h.1, by rw [Bool.true_xor]; exact k.now g (.bl _) h.2⟩
theorem de_eq (hr : Room k X.A) (ha : DE X E a da) (hb : DE X E b db) (hm : behindInMarks .Eq b = false := by first | exact nobehind _ (by decide) (by decide) | rfl) : DE X E (.Compare a [.Eq] [b] pos) (dOp oEq da db) := de_cmp ((op_eqD hr).or (op_eqIt hr)) od_eq ha hb hm
theorem de_ne (hr : Room k X.A) (ha : DE X E a da) (hb : DE X E b db) (hm : behindInMarks .NotEq b = false := by first | exact nobehind _ (by decide) (by decide) | rfl) : DE X E (.Compare a [.NotEq] [b] pos) (dOp oNe da db) := de_cmp ((op_neD hr).or (op_neIt hr)) od_ne ha hb hm
theorem db_eq (hr : Room k X.A) (ha : DE X E a da) (hb : DE X E b db) (hm : behindInMarks .Eq b = false := by first | exact nobehind _ (by decide) (by decide) | rfl) : DB X E (.Compare a [.Eq] [b] pos) (dTst (dOp oEq da db)) := db_cmp ((op_eqD hr).or (op_eqIt hr)) od_eq ha hb hm
theorem db_ne (hr : Room k X.A) (ha : DE X E a da) (hb : DE X E b db) (hm : behindInMarks .NotEq b = false := by first | exact nobehind _ (by decide) (by decide) | rfl) : DB X E (.Compare a [.NotEq] [b] pos) (dTst (dOp oNe da db)) := db_cmp ((op_neD hr).or (op_neIt hr)) od_ne ha hb hm
/-! ### in -/
def rInD2 (neg : Bool) : R2 := fun x y H Q => ∃ S dx ys, Good S H ∧ Rp S.bx S.F x dx ∧ (Rp S.bx S.F y (.tp ys) ∨ Rp S.bx S.F y (.ls ys)) ∧ plainD dx = true ∧ plainDL ys = true ∧ deep dx ≤ 150 ∧ Q (.bl (neg ^^ ys.any fun z => eqD z dx)) H
theorem any_py (d : D) : ∀ ys : List D, (pyL ys).any (fun z => PyData.eqv z d.py) = ys.any fun z => eqD z d
  | [] => rfl
  | y :: r => by simp only [pyL, List.any_cons, any_py d r, eqD]
theorem op_inD2 (hr : Room k X.A) : OpR X (compareOp .In) (rInD2 false) := by
  intro pins s σ H x y v u Q I rx ry h
  obtain ⟨S, dx, ys, g, r1, r2, p1, p2, p3, q⟩ := h
  obtain ⟨as, h1⟩ := Rp.readsP I.hok g dx x v p1 r1 rx
  rw [Bool.false_xor, ← any_py] at q
  rcases r2 with r2 | r2
  · obtain ⟨bs, h2⟩ := Rp.readsP I.hok g _ y u (by simp only [plainD]; exact p2) r2 ry
    simp only [D.py] at h2
    exact SeqAt.in_tuple_data h2 h1 (plainL_py _ p2) (plain_py _ p1) (by rw [deep_py]; have := hr.un; omega) ⟨.bl _, H, I, rfl, q⟩
  · obtain ⟨bs, h2⟩ := Rp.readsP I.hok g _ y u (by simp only [plainD]; exact p2) r2 ry
    simp only [D.py] at h2
    exact SeqAt.in_list_data h2 h1 (plainL_py _ p2) (plain_py _ p1) (by rw [deep_py]; have := hr.un; omega) ⟨.bl _, H, I, rfl, q⟩
theorem op_notInD2 (hr : Room k X.A) : OpR X (compareOp .NotIn) (rInD2 true) := by
  intro pins s σ H x y v u Q I rx ry h
  obtain ⟨S, dx, ys, g, r1, r2, p1, p2, p3, q⟩ := h
  obtain ⟨as, h1⟩ := Rp.readsP I.hok g dx x v p1 r1 rx
  rw [Bool.true_xor, ← any_py] at q
  rcases r2 with r2 | r2
  · obtain ⟨bs, h2⟩ := Rp.readsP I.hok g _ y u (by simp only [plainD]; exact p2) r2 ry
    simp only [D.py] at h2
    exact SeqAt.notIn_tuple_data h2 h1 (plainL_py _ p2) (plain_py _ p1) (by rw [deep_py]; have := hr.un; omega) ⟨.bl _, H, I, rfl, q⟩
  · obtain ⟨bs, h2⟩ := Rp.readsP I.hok g _ y u (by simp only [plainD]; exact p2) r2 ry
    simp only [D.py] at h2
    exact SeqAt.notIn_list_data h2 h1 (plainL_py _ p2) (plain_py _ p1) (by rw [deep_py]; have := hr.un; omega) ⟨.bl _, H, I, rfl, q⟩
def seqOf : D → Option (List D) | .tp xs => some xs | .ls xs => some xs | _ => none
def oIn (x y : D) (Q : DK) : Prop := match seqOf y with | some ys => plainD x = true ∧ plainDL ys = true ∧ deep x ≤ 150 ∧ Q (.bl (ys.any fun z => eqD z x)) | none => False
def oNotIn (x y : D) (Q : DK) : Prop := match seqOf y with | some ys => plainD x = true ∧ plainDL ys = true ∧ deep x ≤ 150 ∧ Q (.bl (!ys.any fun z => eqD z x)) | none => False
theorem seqOf_rp {t : Option Bx} {F : Hp} {y : V} {d : D} {ys : List D} (h : seqOf d = some ys) (r : Rp t F y d) : Rp t F y (.tp ys) ∨ Rp t F y (.ls ys) := by
  cases d <;> simp only [seqOf, Option.some.injEq, reduceCtorEq] at h
  · subst h; exact .inl r
  · subst h; exact .inr r
theorem od_in (S : Sta) : OpD S (rInD2 false) oIn := by
  intro H x y dx dy Q Qd g rx ry h k
  unfold oIn at h
  split at h
  · next ys e => exact ⟨S, _, ys, g, rx, seqOf_rp e ry, h.1, h.2.1, h.2.2.1, by rw [Bool.false_xor]; exact k.now g (.bl _) h.2.2.2⟩
  · exact h.elim
theorem od_notIn (S : Sta) : OpD S (rInD2 true) oNotIn := by
  intro H x y dx dy Q Qd g rx ry h k
  unfold oNotIn at h
  split at h
  · next ys e => exact ⟨S, _, ys, g, rx, seqOf_rp e ry, h.1, h.2.1, h.2.2.1, by rw [Bool.true_xor]; exact k.now g (.bl _) h.2.2.2⟩
  · exact h.elim
theorem de_in (hr : Room k X.A) (ha : DE X E a da) (hb : DE X E b db) (hm : behindInMarks .In b = false := by first | exact nobehind _ (by decide) (by decide) | rfl) : DE X E (.Compare a [.In] [b] pos) (dOp oIn da db) := de_cmp (op_inD2 hr) od_in ha hb hm
theorem de_notIn (hr : Room k X.A) (ha : DE X E a da) (hb : DE X E b db) (hm : behindInMarks .NotIn b = false := by first | exact nobehind _ (by decide) (by decide) | rfl) : DE X E (.Compare a [.NotIn] [b] pos) (dOp oNotIn da db) := de_cmp (op_notInD2 hr) od_notIn ha hb hm
theorem db_in (hr : Room k X.A) (ha : DE X E a da) (hb : DE X E b db) (hm : behindInMarks .In b = false := by first | exact nobehind _ (by decide) (by decide) | rfl) : DB X E (.Compare a [.In] [b] pos) (dTst (dOp oIn da db)) := db_cmp (op_inD2 hr) od_in ha hb hm
theorem db_notIn (hr : Room k X.A) (ha : DE X E a da) (hb : DE X E b db) (hm : behindInMarks .NotIn b = false := by first | exact nobehind _ (by decide) (by decide) | rfl) : DB X E (.Compare a [.NotIn] [b] pos) (dTst (dOp oNotIn da db)) := db_cmp (op_notInD2 hr) od_notIn ha hb hm
end
end Dl

set_option Elab.async false
set_option linter.all false
set_option maxRecDepth 100000
set_option maxHeartbeats 4000000
/-! Dl11: tuples times numbers, turned sequences, dict displays, int(), abs(), sum .. over data; lists lent, frozen, written. -/
namespace Dl
open PySem PySem.Spec PyProof.Rows L2

/-! ### tuple * int: what HandS.TupMul leaves out -/
theorem tuple_mul_same (l : Addr) (items : Array Value) (n : Nat) (dd : Option Addr) (sl : Array (Option Value)) (x : Int) (u : Tok) (c0 : (decide (x < -(2 ^ 63)) || decide (x ≥ 2 ^ 63)) = false) (c1 : (items.isEmpty || x == 1) = true) :
    Meets (Builtin.«tuple.__mul__» ⟨[.ref l, .int x u], []⟩) (fun _ R s => s.heap.get? l = some { cls := .type "tuple", dict := dd, data := .seq items n, slots := sl } ∧ R (.ok (.ret (Value.ref l))) s) :=
  .of_wp fun prog w A R s h => by
    obtain ⟨hp, g, d, tk, os⟩ := s
    obtain ⟨hl, h⟩ := h
    have f1 := AutoSeq1.idx_int
    wp_walk using wpAny_loadPart' hl
    repeat (first
      | (refine wpAny_ite_false (decide_eq_false (by rw [c0]; exact Bool.false_ne_true)) ?_; wp_walk using wpAny_loadPart' hl)
      | (refine wpAny_ite_true (decide_eq_true (by rw [c1])) ?_; wp_walk using wpAny_loadPart' hl))
    exact ⟨_, rfl, h⟩
theorem tuple_mul_none (l : Addr) (items : Array Value) (n : Nat) (dd : Option Addr) (sl : Array (Option Value)) (x : Int) (u : Tok) (c0 : (decide (x < -(2 ^ 63)) || decide (x ≥ 2 ^ 63)) = false) (c1 : (items.isEmpty || x == 1) = false) (c2 : (decide (x ≤ 0) || items.isEmpty) = true) :
    Meets (Builtin.«tuple.__mul__» ⟨[.ref l, .int x u], []⟩) (fun _ R s => s.heap.get? l = some { cls := .type "tuple", dict := dd, data := .seq items n, slots := sl } ∧
      R (.ok (.ret (Value.ref s.heap.objs.size))) { s with heap := s.heap.push { cls := Value.type "tuple", data := Data.seq #[] }, toks := s.toks }) :=
  .of_wp fun prog w A R s h => by
    obtain ⟨hp, g, d, tk, os⟩ := s
    obtain ⟨hl, h⟩ := h
    have f1 := AutoSeq1.idx_int
    wp_walk using wpAny_loadPart' hl
    repeat (first
      | (refine wpAny_ite_false (decide_eq_false (by rw [c0]; exact Bool.false_ne_true)) ?_; wp_walk using wpAny_loadPart' hl)
      | (refine wpAny_ite_false (decide_eq_false (by rw [c1]; exact Bool.false_ne_true)) ?_; wp_walk using wpAny_loadPart' hl)
      | (refine wpAny_ite_true (decide_eq_true (by rw [c2])) ?_; wp_walk using wpAny_loadPart' hl))
    exact ⟨_, rfl, h⟩
def rRepT1 : R2 := fun x y H Q => ∃ l k xs, x = .ref l ∧ y = .int k ∧ H l = some (.tup xs) ∧ -(2 ^ 63) ≤ k ∧ k < 2 ^ 63 ∧ ((xs = [] ∨ k = 1) → Q (.ref l) H) ∧ (xs ≠ [] → k ≤ 0 → ∀ p, H p = none → Q (.ref p) (upd H p (.tup []))) ∧ (xs = [] ∨ k = 1 ∨ k ≤ 0)
theorem op_repT1 {X : Cx} : OpR X (binaryOp .Mult) rRepT1 := by
  intro pins s σ H x y v u Q I rx ry h
  obtain ⟨l, k, xs, rfl, rfl, hT, h1, h2, q1, q2, q3⟩ := h
  cases rx
  obtain ⟨t, rfl⟩ := ry
  obtain ⟨hs, its, r, ⟨cls, dd, data, sl⟩, ho, hc, n, hd⟩ : ObjOk X.prog X.w H s.heap l (.tup xs) := I.hok _ _ hT
  simp only at hc hd
  subst hc hd
  have hle : its.length = xs.length := r.length.symm
  have c0 : (decide (k < -(2 ^ 63)) || decide (k ≥ 2 ^ 63)) = false := by
    rw [decide_eq_false (by omega), decide_eq_false (by omega)] <;> rfl
  refine wpAny_binaryOp_repeat_ref (T := "tuple") (U := "int") (by decide) ⟨_, ho, rfl⟩ (fun s' => typeIs_int s' k t) noFill_tuple_mul F.fills_int_mul F.slot_int_rmul repeat_tuple F.slot_int_index.lookup
    (call_meets F.slot_int_rmul (typeIs_int s k t) F.entry_int_rmul (F.args_int_rmul_2 _ _) (int_rmul_tuple k t l its.toArray n dd sl)
      ⟨ho, rfl, ⟨_, ho, rfl⟩, ?_⟩)
  by_cases he : xs = [] ∨ k = 1
  · have c1 : (its.toArray.isEmpty || k == 1) = true := by
      rcases he with he | he
      · subst he
        have : its = [] := List.eq_nil_of_length_eq_zero hle
        subst this; rfl
      · subst he; simp
    exact call_meets F.slot_tuple_mul ⟨_, ho, rfl⟩ F.entry_tuple_mul (F.args_tuple_mul_2 _ _) (tuple_mul_same l its.toArray n dd sl k t c0 c1) ⟨ho, ⟨.ref l, H, I, rfl, q1 he⟩⟩
  · have hx : xs ≠ [] := fun z => he (.inl z)
    have hk : k ≤ 0 := by
      rcases q3 with z | z | z
      · exact absurd z hx
      · exact absurd z fun z => he (.inr z)
      · exact z
    have hn : its ≠ [] := fun e => hx (by rw [e] at hle; exact List.eq_nil_of_length_eq_zero hle.symm)
    have hi : its.toArray.isEmpty = false := by
      cases its with
      | nil => exact absurd rfl hn
      | cons a b => rfl
    have c1 : (its.toArray.isEmpty || k == 1) = false := by
      rw [hi, Bool.false_or]
      exact beq_eq_false_iff_ne.mpr (by omega)
    have c2 : (decide (k ≤ 0) || its.toArray.isEmpty) = true := by rw [decide_eq_true hk]; rfl
    refine call_meets F.slot_tuple_mul ⟨_, ho, rfl⟩ F.entry_tuple_mul (F.args_tuple_mul_2 _ _) (tuple_mul_none l its.toArray n dd sl k t c0 c1 c2) ⟨ho, ?_⟩
    refine ⟨.ref s.heap.objs.size, _, I.laid (t' := s.toks) (o := .tup []) (fun b ob q => Heap.get?_push_of_some _ q) (Nat.le_refl _) ?_, rfl, q2 hx hk _ (I.hok.fresh (Nat.le_refl _))⟩
    exact ⟨Nat.zero_le _, _, .nil, IsTup.new _ _⟩
/-- *: any tuple -/
def oMulT (x y : D) (Q : DK) : Prop := match x, y with
  | .tp i, .it j => -(2 ^ 63) ≤ j ∧ j ≤ 1000 ∧ i.length ≤ 1000 ∧ Q (.tp (List.replicate j.toNat i).flatten)
  | _, _ => False
theorem rep_nil {α : Type} : ∀ n : Nat, (List.replicate n ([] : List α)).flatten = []
  | 0 => rfl
  | n + 1 => by rw [List.replicate_succ, List.flatten_cons, rep_nil n]; rfl
theorem od_mulT {K : PySem.W.Frag} (S : Sta) : OpD S (fun x y H Q => rRepT1 x y H Q ∨ rRepT K x y H Q) oMulT := by
  intro H x y dx dy Q Qd g rx ry h k
  unfold oMulT at h
  split at h
  · next i j =>
    cases ry
    cases rx with
    | @tp a vs _ e1 r1 =>
      obtain ⟨h1, h2, h3, h4⟩ := h
      have hl := r1.length
      by_cases hz : vs = [] ∨ j = 1 ∨ j ≤ 0
      · refine .inl ⟨_, _, _, rfl, rfl, g.fz _ _ e1, h1, by omega, fun z => ?_, fun zx zk => ?_, hz⟩
        · refine k.now g (.tp e1 r1) ?_
          rcases z with z | z
          · subst z; cases r1; rw [rep_nil] at h4; exact h4
          · subst z
            have e : (List.replicate (1 : Int).toNat i).flatten = i := by
              show (List.replicate 1 i).flatten = i
              rw [List.replicate_succ, List.flatten_cons]; simp
            rw [e] at h4; exact h4
        · refine k.tup g .nil ?_
          have e : j.toNat = 0 := by omega
          rw [e] at h4; exact h4
      · have hv : vs ≠ [] := fun z => hz (.inl z)
        refine .inr ⟨_, _, _, rfl, rfl, SqT.of (g.fz _ _ e1), hv, by omega, h2, by rw [hl]; exact h3, k.tup g (r1.rep _) h4⟩
  · exact h.elim
/-- *: ints (one of them small), a tuple or a list so many times -/
def oMulA (x y : D) (Q : DK) : Prop := match x, y with
  | .it i, .it j => CMul i j ∧ Q (.it (i * j))
  | .tp i, .it j => -(2 ^ 63) ≤ j ∧ j ≤ 1000 ∧ i.length ≤ 1000 ∧ Q (.tp (List.replicate j.toNat i).flatten)
  | .ls i, .it j => -(2 ^ 63) ≤ j ∧ j < 2 ^ 63 ∧ szOk (i.length * j.toNat) ∧ Q (.ls (List.replicate j.toNat i).flatten)
  | _, _ => False
theorem od_mulA {K : PySem.W.Frag} (S : Sta) : OpD S (fun x y H Q => (rRepT1 x y H Q ∨ rRepT K x y H Q) ∨ rMulA K x y H Q) oMulA := by
  intro H x y dx dy Q Qd g rx ry h k
  unfold oMulA at h
  split at h
  · exact .inr (od_mul S H _ _ _ _ Q Qd g rx ry (by unfold oMul; exact h) k)
  · exact .inl (od_mulT S H _ _ _ _ Q Qd g rx ry (by unfold oMulT; exact h) k)
  · exact .inr (od_mul S H _ _ _ _ Q Qd g rx ry (by unfold oMul; exact h) k)
  · exact h.elim
/-! ### [::-1] -/
theorem sliceApplied_rev {prog : Program} {w : World} {A : Around} {E : Value → Shared → Prop} {s : Shared} {sl : Addr} {vl vu vs : Value} {n : Nat} {Q : Int × Int × Nat → Shared → Prop} (hs : s.heap.IsSliceOf sl vl vu vs) (pl : IsPart vl none) (pu : IsPart vu none) (ps : IsPart vs (some (-1)))
    (h : Q (((n : Nat) : Int) - 1, -1, n) s) : wpAny (model prog w) A (Builtin.Slice.sliceApplied (.ref sl) (pure (n : Int))) Q E s := by
  obtain ⟨os, hos, hcs, hds⟩ := id hs
  unfold Builtin.Slice.sliceApplied Builtin.Slice.sliceFields
  refine wpAny_bind (wpAny_bind (wpAny_field hos hds (x := vl) rfl (wpAny_bind (wpAny_field hos hds (x := vu) rfl (wpAny_bind (wpAny_field hos hds (x := vs) rfl (wpAny_pure ?_)))))))
  refine wpAny_bind (HT.slicePart_ ps ?_)
  show wpAny _ _ (if ((-1 : Int) == 0) = true then _ else _) _ _ s
  rw [if_neg (by decide)]
  refine wpAny_bind (HT.slicePart_ pl (wpAny_bind (HT.slicePart_ pu (wpAny_bind (wpAny_pure ?_)))))
  have e : Builtin.Slice.sliceAdjust none none (-1) (n : Int) = ((n : Int) - 1, -1) := rfl
  have e2 : Builtin.Slice.slicePlaces ((n : Int) - 1) (-1) (-1) = n := by
    unfold Builtin.Slice.slicePlaces
    have h1 : ¬ ((-1 : Int) > 0) := by decide
    simp only [h1, if_false, Int.neg_neg, Int.ediv_one]
    split <;> omega
  show wpAny _ _ (match Builtin.Slice.sliceAdjust none none (-1) (n : Int) with | (lo, hi) => pure (lo, (-1 : Int), Builtin.Slice.slicePlaces lo hi (-1))) _ _ s
  rw [e]
  show wpAny _ _ (pure ((n : Int) - 1, (-1 : Int), Builtin.Slice.slicePlaces ((n : Int) - 1) (-1) (-1))) _ _ s
  rw [e2]
  exact wpAny_pure h
theorem rev_pick (items : Array Value) : ((List.range items.size).filterMap fun (k : Nat) => items[(((items.size : Nat) : Int) - 1 + (k : Int) * (-1)).toNat]?).toArray = items.toList.reverse.toArray := by
  have e : (fun (k : Nat) => items[(((items.size : Nat) : Int) - 1 + (k : Int) * (-1)).toNat]?) = fun k => items[items.size - 1 - k]? := by
    funext k
    have : (((items.size : Nat) : Int) - 1 + (k : Int) * (-1)).toNat = items.size - 1 - k := by omega
    rw [this]
  rw [e]
  have := PySem.W.krv_range items.size
  have e2 : (List.range items.size).filterMap (fun k => items[items.size - 1 - k]?) = ((List.range items.size).map fun k => items.size - 1 - k).filterMap (items[·]?) := by
    rw [List.filterMap_map]; rfl
  rw [e2, this, List.filterMap_reverse, PySem.W.krv_all]
theorem getItem_tuple_rev {prog : Program} {w : World} {A : Around} {E : Value → Shared → Prop} {s : Shared} {t sl : Addr} {items : Array Value} {vl vu vs : Value} {Q : Value → Shared → Prop} (ht : IsTup s.heap t items) (hs : s.heap.IsSliceOf sl vl vu vs) (pl : IsPart vl none) (pu : IsPart vu none) (ps : IsPart vs (some (-1)))
    (h : Q (.ref s.heap.objs.size) { s with heap := s.heap.push { cls := .type "tuple", data := .seq items.toList.reverse.toArray } }) (hsz : items.size ≤ sizeLine) : wpAny (model prog w) A (getItem (.ref t) (.ref sl)) Q E s := by
  have htake : sizeOk (.seq items.toList.reverse.toArray) := by
    show items.toList.reverse.toArray.size ≤ sizeLine
    rw [List.size_toArray, List.length_reverse, Array.length_toList]
    exact hsz
  obtain ⟨os, hos, hcs, hds⟩ := id hs
  have hTs : s.TypeIs (.ref sl) "slice" := ⟨os, hos, hcs⟩
  unfold getItem
  try with_reducible refine wpAny_holding ?_
  first | refine wpAny_bind (wpAny_pure ?_) | skip
  refine wpAny_bind (wpAny_sequenceKey ht.typeIs (by decide) ?_)
  refine wpAny_bind (wpAny_callSpecial?_slot (name := Str.ofString "__getitem__") ht.typeIs PyProof.Rows.slot_tuple_getitem
    (wpAny_call_entry PyProof.Rows.slot_tuple_getitem ht.typeIs entry_tuple_getitem ?_ (args_tuple_getitem _ _)))
  show wpAny _ _ (Builtin.Tuple.tupleItemsOf (.ref t) >>= _) _ _ s
  refine wpAny_bind (tupleItemsOf_ ht ?_)
  refine wpAny_bind (wpAny_typeOf hTs ?_)
  rw [if_pos (by decide)]
  refine wpAny_bind (sliceApplied_rev hs pl pu ps ?_)
  have hno : ¬ (((((items.size : Nat) : Int) - 1) == 0 && (-1 : Int) == 1 && items.size == items.size) = true) := by
    intro q
    rw [Bool.and_eq_true, Bool.and_eq_true] at q
    exact absurd (eq_of_beq q.1.2) (by decide)
  show wpAny _ _ (if ((((items.size : Nat) : Int) - 1) == 0 && (-1 : Int) == 1 && items.size == items.size) = true then _ else _) _ _ s
  rw [if_neg hno, rev_pick]
  first
    | exact wpAny_bind (m := Builtin.Tuple.tupleExact _) (wpAny_newObj_type (wpAny_pure ⟨_, rfl, wpAny_pure h⟩) htake)
    | exact wpAny_bind (m := Builtin.Tuple.tupleExact _) (wpAny_newObj_type (wpAny_bind (wpAny_pure (wpAny_pure ⟨_, rfl, wpAny_pure h⟩))) htake)
    | exact wpAny_bind (wpAny_bind (m := Builtin.Tuple.tupleExact _) (wpAny_newObj_type (wpAny_pure (wpAny_pure ⟨_, rfl, wpAny_pure h⟩)) htake))
    | exact wpAny_bind (wpAny_bind (m := Builtin.Tuple.tupleExact _) (wpAny_newObj_type (wpAny_pure ⟨_, rfl, wpAny_pure h⟩) htake))
def tRevTL (te : TE) : TE := fun σ H Q => te σ H fun x H1 => ∃ a xs, x = .ref a ∧ ((H1 a = some (.lst xs) ∧ ∀ p, H1 p = none → Q (.ref p) (upd H1 p (.lst xs.reverse))) ∨ (H1 a = some (.tup xs) ∧ ∀ p, H1 p = none → Q (.ref p) (upd H1 p (.tup xs.reverse))))
theorem pe_revTL {X : Cx} {e : Expr} {te : TE} {k : Nat} {p1 p2 p3 pos : Pos} (he : PE X e te) : PE X (.Subscript e (.Slice none none (some (.UnaryOp .USub (.Constant (.int 1) k p1) p2)) p3) pos) (tRevTL te) := by
  refine ⟨fun pins s σ H Q I h => ?_⟩
  refine Subscript_ (thn (he.run pins s σ H _ I h) fun v s1 ⟨x, H1, I1, r1, q1⟩ => ?_)
  obtain ⟨a, xs, ex, q⟩ := q1
  subst ex
  cases r1
  have hst : PO X (some (.UnaryOp .USub (.Constant (.int 1) k p1) p2)) (tPart (tUn (rU fun i => .int (-i)) (tC (.int 1)))) := po_some (pe_un un_neg pe_int)
  refine wpAny_Slice (thn (po_none.run pins s1 σ H1 (fun o H2 => o = none ∧ H2 = H1) I1 ⟨rfl, rfl⟩) fun vl s2 ⟨l, H2, I2, pl, el, e2⟩ => ?_)
  subst el e2
  refine thn (po_none.run pins s2 σ H2 (fun o H3 => o = none ∧ H3 = H2) I2 ⟨rfl, rfl⟩) fun vu s3 ⟨u, H3, I3, pu, eu, e3⟩ => ?_
  subst eu e3
  refine thn (hst.run pins s3 σ H3 (fun o H4 => o = some (-1) ∧ H4 = H3) I3 ⟨1, rfl, -1, rfl, rfl, rfl⟩) fun vs s4 ⟨o, H4, I4, ps, eo, e4⟩ => ?_
  subst eo e4
  have I5 : Inv X pins σ H4 { s4 with heap := s4.heap.push { cls := .type "slice", data := .fields #[vl, vu, vs] } } := I4.kept (t' := s4.toks) fun b ob q => Heap.get?_push_of_some _ q
  show wpAny (model X.prog X.w) X.A (subscriptTail e (.Slice none none (some (.UnaryOp .USub (.Constant (.int 1) k p1) p2)) p3) (.ref a) (.ref s4.heap.objs.size)) (EP X pins σ Q) X.xe { s4 with heap := s4.heap.push { cls := .type "slice", data := .fields #[vl, vu, vs] } }
  rcases q with ⟨hx, q⟩ | ⟨hx, q⟩
  · obtain ⟨its, r, ht, hz⟩ := I5.list (SqL.of hx)
    have hlen := r.length
    refine tail_any (ops := [.ref a, .ref s4.heap.objs.size]) ht.isList.typeIs (PySem.slot_list_getitem.lookup) ?_ (by with_unfolding_all rfl)
    refine wpAny_getItem_list_slice ht.isList (Heap.IsSliceOf.new _ vl vu vs) pl pu ps (by decide) ?_ (by rw [List.size_toArray]; omega)
    rw [PySem.W.krv_pick]
    refine ⟨.ref _, _, I5.laid (t' := s4.toks) (o := .lst xs.reverse) (fun b ob q => Heap.get?_push_of_some _ q) (Nat.le_refl _) ?_, rfl, q _ (I5.hok.fresh (Nat.le_refl _))⟩
    exact ⟨by rw [List.length_reverse]; exact hz, _, 0, r.reverse, Heap.get?_push_size _ rfl⟩
  · obtain ⟨its, r, ht, hz⟩ := I5.tuple (SqT.of hx)
    have hlen := r.length
    refine tail_any (ops := [.ref a, .ref s4.heap.objs.size]) ht.typeIs (PyProof.Rows.slot_tuple_getitem.lookup) ?_ (by with_unfolding_all rfl)
    refine getItem_tuple_rev ht (Heap.IsSliceOf.new _ vl vu vs) pl pu ps ?_ (by rw [List.size_toArray]; omega)
    refine ⟨.ref _, _, I5.laid (t' := s4.toks) (o := .tup xs.reverse) (fun b ob q => Heap.get?_push_of_some _ q) (Nat.le_refl _) ?_, rfl, q _ (I5.hok.fresh (Nat.le_refl _))⟩
    exact ⟨by rw [List.length_reverse]; exact hz, _, r.reverse, IsTup.new _ _⟩
theorem RpL.rev {t : Option Bx} {F : Hp} : ∀ {vs : List V} {ds : List D}, RpL t F vs ds → RpL t F vs.reverse ds.reverse
  | _, _, .nil => .nil
  | _, _, .cons r s => by rw [List.reverse_cons, List.reverse_cons]; exact (RpL.rev s).app (.one r)
section
variable {X : Cx} {E : XK} {pos : Pos} {a b : Expr} {da db : DT_} {k : Nat}
theorem de_mulT (ha : DE X E a da) (hb : DE X E b db) : DE X E (.BinOp a .Mult b pos) (dOp oMulT da db) := de_bin (op_repT1.or op_repT) od_mulT ha hb
theorem de_mulA (ha : DE X E a da) (hb : DE X E b db) : DE X E (.BinOp a .Mult b pos) (dOp oMulA da db) := de_bin ((op_repT1.or op_repT).or or_mulA) od_mulA ha hb
def dRev (da : DT_) : DT_ := fun env Q E => da env (fun x => match x with | .tp xs => Q (.tp xs.reverse) | .ls xs => Q (.ls xs.reverse) | _ => False) E
theorem de_rev {kk : Nat} {p1 p2 p3 : Pos} (ha : DE X E a da) : DE X E (.Subscript a (.Slice none none (some (.UnaryOp .USub (.Constant (.int 1) kk p1) p2)) p3) pos) (dRev da) := by
  obtain ⟨t, p, q⟩ := ha.run
  refine ⟨_, pe_revTL p, fun Z S H σ env Q Qd Ed g r l h k => ?_⟩
  refine q Z S H σ env _ _ Ed g r l h fun v H1 S1 x s1 g1 r1 h1 => ?_
  split at h1
  · cases r1 with
    | tp e rr => exact ⟨_, _, rfl, .inr ⟨g1.fz _ _ e, (k.step s1 g1).tup g1 rr.rev h1⟩⟩
  · cases r1 with
    | ls e rr => exact ⟨_, _, rfl, .inl ⟨g1.fz _ _ e, (k.step s1 g1).lst g1 rr.rev h1⟩⟩
  · exact h1.elim
/-! ### dict displays -/
def dDic0 : DT_ := fun _ Q _ => Q (.dc [])
theorem de_dic0 : DE X E (.Dict [] [] pos) dDic0 := by
  refine ⟨_, pe_dnewK, fun Z S H σ env Q Qd Ed g r l h k p hp => ?_⟩
  obtain ⟨s, g'⟩ := step_new g (o := .dK []) hp
  exact k _ _ _ _ s g' (.dc (by show upd S.F p (.dK []) p = _; exact upd_same) .nil) h
def dDic1 (x : Str) (da : DT_) : DT_ := fun env Q E => da env (fun y => Q (.dc [(.inr x, y)])) E
theorem de_dic1 {x : Str} {j p1} (ha : DE X E a da) : DE X E (.Dict [some (.Constant (.str x) j p1)] [a] pos) (dDic1 x da) := by
  obtain ⟨t, pa, q⟩ := ha.run
  refine ⟨_, pe_disp (pps_cons pe_str pa pps_nil) rfl rfl (by simp) (by show 1 ≤ 15; decide), fun Z S H σ env Q Qd Ed g r l h k p hp => ?_⟩
  obtain ⟨s0, g0⟩ := step_own g (o := .dK []) hp
  have nb : ¬ InB S.bx p := fun z => (by obtain ⟨o, e⟩ := g.box z; rw [hp] at e; cases e)
  have nf : S.F p = none := none_of_keep fun o e => (by have := g.fz _ _ e; rw [hp] at this; cases this)
  refine q Z S (upd H p (.dK [])) σ env _ _ Ed g0 (r.step s0) (l.step s0 g0) h fun v H1 S1 y s1 g1 r1 h1 => ?_
  have e1 : H1 p = some (.dK []) := s1.keep _ _ upd_same nb
  have nf1 : S1.F p = none := none_of_keep fun o e => (by
    rcases s1.new _ _ e with z | z
    · rw [nf] at z; cases z
    · rw [upd_same] at z; cases z)
  have nb1 : ¬ InB S1.bx p := fun z => (by
    rcases s1.inB z with z | z
    · exact nb z
    · rw [upd_same] at z; cases z)
  refine ⟨e1, [(.inr x, v)], rfl, by show 1 ≤ 15; decide, ?_⟩
  have em : mergeK [] [((.inr x : Key), v)] = [((.inr x : Key), v)] := rfl
  rw [em]
  have g2 := good_mut (o := .dK [((.inr x : Key), v)]) g1 nf1 nb1
  have g3 := good_frz g2 upd_same nb1
  have s2 : Stp S H ⟨S1.bx, upd S1.F p (.dK [((.inr x : Key), v)])⟩ (upd H1 p (.dK [((.inr x : Key), v)])) := by
    have s01 := s0.trans g0 s1
    refine ⟨fun b o e => ?_, fun b o e => ?_, s01.box, fun b o e hb => ?_⟩
    · have : b ≠ p := fun z => by rw [z, nf] at e; cases e
      show upd S1.F p _ b = _
      rw [upd_ne this]; exact s01.ext b o e
    · by_cases z : b = p
      · rw [z]; exact .inr hp
      · have e' : upd S1.F p (.dK [((.inr x : Key), v)]) b = some o := e
        rw [upd_ne z] at e'
        exact s01.new b o e'
    · rw [upd_ne (ne_of_none e hp)]; exact s01.keep b o e hb
  have le : Le S1.bx S1.F S1.bx (upd S1.F p (.dK [((.inr x : Key), v)])) := ⟨fun b o e => by
    have : b ≠ p := fun z => by rw [z, nf1] at e; cases e
    rw [upd_ne this]; exact e, fun _ e => e⟩
  exact k _ _ _ _ s2 g3 (.dc (by show upd S1.F p _ p = _; exact upd_same) (.cons (r1.le le) .nil)) h1
/-! ### int(), abs(), sum(), any(), all(), max(), min() -/
def oInt (xs : List D) (Q : DK) : Prop := match xs with | [.it i] => Q (.it i) | [.bl b] => Q (.it (if b then 1 else 0)) | _ => False
def oAbs (xs : List D) (Q : DK) : Prop := match xs with | [.it i] => Q (.it (if i < 0 then -i else i)) | _ => False
theorem de_int1 {u : DA_} {e : Expr} {p : Pos} (hg : Gl X "int") (hm : X.mg "int" = none) (ha : DA X E [e] u) (he : starEach [e] X.env = (false, eval e X.env) :: starEach [] X.env := by rfl) : DE X E (.Call (.Name "int" p) [e] [] pos) (dCB oInt u) := by
  refine de_callTy call_int1 (fun S => ?_) hg hm (by decide +kernel) ha (by decide) (by decide) he rfl
  intro H vs ds Q Qd g r h k
  unfold oInt at h
  split at h
  · cases r with
    | cons r1 r2 => cases r2; cases r1; exact .inl ⟨_, rfl, k.now g (.it _) h⟩
  · cases r with
    | cons r1 r2 => cases r2; cases r1; exact .inr ⟨_, rfl, k.now g (.it _) h⟩
  · exact h.elim
theorem de_abs {u : DA_} {e : Expr} {p : Pos} (hg : Gl X "abs") (hm : X.mg "abs" = none) (ha : DA X E [e] u) (he : starEach [e] X.env = (false, eval e X.env) :: starEach [] X.env := by rfl) : DE X E (.Call (.Name "abs" p) [e] [] pos) (dCB oAbs u) := by
  refine de_callB call_abs (fun S => ?_) hg hm (by decide +kernel) ha (by decide) (by decide) he rfl
  intro H vs ds Q Qd g r h k
  unfold oAbs at h
  split at h
  · cases r with
    | cons r1 r2 => cases r2; cases r1; exact ⟨_, rfl, k.now g (.it _) h⟩
  · exact h.elim
/-- the numbers of a list -/
def intsD : List D → Option (List Int)
  | [] => some []
  | .it i :: r => (intsD r).map (i :: ·)
  | _ => none
theorem intsD_eq : ∀ {xs : List D} {ns : List Int}, intsD xs = some ns → xs = ns.map D.it
  | [], ns, h => by simp [intsD] at h; subst h; rfl
  | .it i :: r, ns, h => by
    simp only [intsD, Option.map_eq_some_iff] at h
    obtain ⟨ms, h1, rfl⟩ := h
    rw [intsD_eq h1]; rfl
  | .non :: _, _, h => by simp [intsD] at h
  | .bl _ :: _, _, h => by simp [intsD] at h
  | .st _ :: _, _, h => by simp [intsD] at h
  | .tp _ :: _, _, h => by simp [intsD] at h
  | .ls _ :: _, _, h => by simp [intsD] at h
  | .dc _ :: _, _, h => by simp [intsD] at h
  | .bx _ _ :: _, _, h => by simp [intsD] at h
theorem intsD_map : ∀ ns : List Int, intsD (ns.map D.it) = some ns
  | [] => rfl
  | n :: r => by simp only [List.map_cons, intsD, intsD_map r, Option.map_some]
theorem rpl_ints {t : Option Bx} {F : Hp} : ∀ {ns : List Int} {vs : List V}, RpL t F vs (ns.map D.it) → vs = ns.map V.int
  | [], _, .nil => rfl
  | n :: r, _, .cons h1 h2 => by cases h1; rw [rpl_ints h2]; rfl
def boolsD : List D → Option (List Bool)
  | [] => some []
  | .bl i :: r => (boolsD r).map (i :: ·)
  | _ => none
theorem boolsD_eq : ∀ {xs : List D} {ns : List Bool}, boolsD xs = some ns → xs = ns.map D.bl
  | [], ns, h => by simp [boolsD] at h; subst h; rfl
  | .bl i :: r, ns, h => by
    simp only [boolsD, Option.map_eq_some_iff] at h
    obtain ⟨ms, h1, rfl⟩ := h
    rw [boolsD_eq h1]; rfl
  | .non :: _, _, h => by simp [boolsD] at h
  | .it _ :: _, _, h => by simp [boolsD] at h
  | .st _ :: _, _, h => by simp [boolsD] at h
  | .tp _ :: _, _, h => by simp [boolsD] at h
  | .ls _ :: _, _, h => by simp [boolsD] at h
  | .dc _ :: _, _, h => by simp [boolsD] at h
  | .bx _ _ :: _, _, h => by simp [boolsD] at h
theorem boolsD_map : ∀ ns : List Bool, boolsD (ns.map D.bl) = some ns
  | [] => rfl
  | n :: r => by simp only [List.map_cons, boolsD, boolsD_map r, Option.map_some]
theorem rpl_bools {t : Option Bx} {F : Hp} : ∀ {ns : List Bool} {vs : List V}, RpL t F vs (ns.map D.bl) → vs = ns.map V.bl
  | [], _, .nil => rfl
  | n :: r, _, .cons h1 h2 => by cases h1; rw [rpl_bools h2]; rfl
def oSum (xs : List D) (Q : DK) : Prop := match xs with | [.ls ys] => ∃ ns, intsD ys = some ns ∧ Q (.it ns.sum) | _ => False
def oMaxL (xs : List D) (Q : DK) : Prop := match xs with
  | [.ls ys] => ∃ ns, intsD ys = some ns ∧ ns ≠ [] ∧ ∀ m, m ∈ ns → (∀ y ∈ ns, y ≤ m) → Q (.it m)
  | [.it i, .it j] => Q (.it (if j > i then j else i))
  | _ => False
def oMinL (xs : List D) (Q : DK) : Prop := match xs with
  | [.ls ys] => ∃ ns, intsD ys = some ns ∧ ns ≠ [] ∧ ∀ m, m ∈ ns → (∀ y ∈ ns, m ≤ y) → Q (.it m)
  | [.it i, .it j] => Q (.it (if j < i then j else i))
  | _ => False
def oAny (xs : List D) (Q : DK) : Prop := match xs with | [.ls ys] => ∃ ns, boolsD ys = some ns ∧ Q (.bl (ns.any id)) | _ => False
def oAll (xs : List D) (Q : DK) : Prop := match xs with | [.ls ys] => ∃ ns, boolsD ys = some ns ∧ Q (.bl (ns.all id)) | _ => False
theorem de_sum {u : DA_} {e : Expr} {p : Pos} (hc : X.calm = true) (hg : Gl X "sum") (hm : X.mg "sum" = none) (ha : DA X E [e] u) (he : starEach [e] X.env = (false, eval e X.env) :: starEach [] X.env := by rfl) : DE X E (.Call (.Name "sum" p) [e] [] pos) (dCB oSum u) := by
  refine de_callB (cr_sum hc) (fun S => ?_) hg hm (by decide +kernel) ha (by decide) (by decide) he rfl
  intro H vs ds Q Qd g r h k
  unfold oSum at h
  split at h
  · obtain ⟨ns, en, h⟩ := h
    have := intsD_eq en
    subst this
    cases r with
    | cons r1 r2 =>
      cases r2
      cases r1 with
      | ls e rr =>
        have := rpl_ints rr
        subst this
        exact ⟨_, ns, rfl, SqL.of (g.fz _ _ e), k.now g (.it _) h⟩
  · exact h.elim
theorem de_any {u : DA_} {e : Expr} {p : Pos} (hc : X.calm = true) (hg : Gl X "any") (hm : X.mg "any" = none) (ha : DA X E [e] u) (he : starEach [e] X.env = (false, eval e X.env) :: starEach [] X.env := by rfl) : DE X E (.Call (.Name "any" p) [e] [] pos) (dCB oAny u) := by
  refine de_callB (cr_any hc) (fun S => ?_) hg hm (by decide +kernel) ha (by decide) (by decide) he rfl
  intro H vs ds Q Qd g r h k
  unfold oAny at h
  split at h
  · obtain ⟨ns, en, h⟩ := h
    have := boolsD_eq en
    subst this
    cases r with
    | cons r1 r2 =>
      cases r2
      cases r1 with
      | ls e rr =>
        have := rpl_bools rr
        subst this
        exact ⟨_, ns, rfl, SqL.of (g.fz _ _ e), k.now g (.bl _) h⟩
  · exact h.elim
theorem de_all {u : DA_} {e : Expr} {p : Pos} (hc : X.calm = true) (hg : Gl X "all") (hm : X.mg "all" = none) (ha : DA X E [e] u) (he : starEach [e] X.env = (false, eval e X.env) :: starEach [] X.env := by rfl) : DE X E (.Call (.Name "all" p) [e] [] pos) (dCB oAll u) := by
  refine de_callB (cr_all hc) (fun S => ?_) hg hm (by decide +kernel) ha (by decide) (by decide) he rfl
  intro H vs ds Q Qd g r h k
  unfold oAll at h
  split at h
  · obtain ⟨ns, en, h⟩ := h
    have := boolsD_eq en
    subst this
    cases r with
    | cons r1 r2 =>
      cases r2
      cases r1 with
      | ls e rr =>
        have := rpl_bools rr
        subst this
        exact ⟨_, ns, rfl, SqL.of (g.fz _ _ e), k.now g (.bl _) h⟩
  · exact h.elim
theorem cr_or {X : Cx} {f : Value} {r r' : List V → Hp → VK → Prop} (h : CallR X f r) (h' : CallR X f r') : CallR X f (fun xs H Q => r xs H Q ∨ r' xs H Q) := by
  intro pins s σ H xs us Q I rv q
  rcases q with q | q
  · exact h pins s σ H xs us Q I rv q
  · exact h' pins s σ H xs us Q I rv q
theorem de_max {u : DA_} {e : Expr} {es : List Expr} {p : Pos} (hc : X.calm = true) (hg : Gl X "max") (hm : X.mg "max" = none) (ha : DA X E (e :: es) u) (he : starEach (e :: es) X.env = (false, eval e X.env) :: starEach es X.env := by rfl) (hpl : (backTo pos (starEach es X.env)).any (·.1) = false := by rfl) : DE X E (.Call (.Name "max" p) (e :: es) [] pos) (dCB oMaxL u) := by
  refine de_callB (cr_or (cr_max hc) (call_max2 hc)) (fun S => ?_) hg hm (by decide +kernel) ha (by decide) (by decide) he hpl
  intro H vs ds Q Qd g r h k
  unfold oMaxL at h
  split at h
  · obtain ⟨ns, en, h0, h⟩ := h
    have := intsD_eq en
    subst this
    cases r with
    | cons r1 r2 =>
      cases r2
      cases r1 with
      | ls e rr =>
        have := rpl_ints rr
        subst this
        exact .inl ⟨_, ns, rfl, SqL.of (g.fz _ _ e), List.length_pos_iff.mpr h0, fun m h1 h2 => k.now g (.it _) (h m h1 h2)⟩
  · cases r with
    | cons r1 r2 =>
      cases r2 with
      | cons r2 r3 => cases r3; cases r1; cases r2; exact .inr ⟨_, _, rfl, k.now g (.it _) h⟩
  · exact h.elim
theorem de_min {u : DA_} {e : Expr} {es : List Expr} {p : Pos} (hc : X.calm = true) (hg : Gl X "min") (hm : X.mg "min" = none) (ha : DA X E (e :: es) u) (he : starEach (e :: es) X.env = (false, eval e X.env) :: starEach es X.env := by rfl) (hpl : (backTo pos (starEach es X.env)).any (·.1) = false := by rfl) : DE X E (.Call (.Name "min" p) (e :: es) [] pos) (dCB oMinL u) := by
  refine de_callB (cr_or (cr_min hc) (call_min2 hc)) (fun S => ?_) hg hm (by decide +kernel) ha (by decide) (by decide) he hpl
  intro H vs ds Q Qd g r h k
  unfold oMinL at h
  split at h
  · obtain ⟨ns, en, h0, h⟩ := h
    have := intsD_eq en
    subst this
    cases r with
    | cons r1 r2 =>
      cases r2
      cases r1 with
      | ls e rr =>
        have := rpl_ints rr
        subst this
        exact .inl ⟨_, ns, rfl, SqL.of (g.fz _ _ e), List.length_pos_iff.mpr h0, fun m h1 h2 => k.now g (.it _) (h m h1 h2)⟩
  · cases r with
    | cons r1 r2 =>
      cases r2 with
      | cons r2 r3 => cases r3; cases r1; cases r2; exact .inr ⟨_, _, rfl, k.now g (.it _) h⟩
  · exact h.elim
end
end Dl

set_option Elab.async false
set_option linter.all false
set_option maxRecDepth 100000
set_option maxHeartbeats 4000000
/-! Dl12: lists of one's own: lent, frozen, written by place. -/
namespace Dl
open PySem PySem.Spec PyProof.Rows L2

/-! ### no list within -/
mutual
def lfD : D → Bool
  | .tp xs => lfL xs
  | .ls _ => false
  | .dc kvs => lfK kvs
  | .bx _ _ => true
  | .non => true
  | .bl _ => true
  | .it _ => true
  | .st _ => true
def lfL : List D → Bool
  | [] => true
  | x :: r => lfD x && lfL r
def lfK : List (Key × D) → Bool
  | [] => true
  | (_, x) :: r => lfD x && lfK r
end
/-- without p -/
def cut (F : Hp) (p : Addr) : Hp := fun a => if a = p then none else F a
theorem cut_ne {F : Hp} {p a : Addr} (h : a ≠ p) : cut F p a = F a := by unfold cut; rw [if_neg h]
theorem cut_some {F : Hp} {p a : Addr} {o : HO} (h : cut F p a = some o) : a ≠ p ∧ F a = some o := by
  unfold cut at h
  split at h
  · cases h
  · next n => exact ⟨n, h⟩
mutual
theorem Rp.lf {t : Option Bx} {F : Hp} {p : Addr} {ws : List V} (hp : F p = some (.lst ws)) : ∀ {v : V} {d : D}, Rp t F v d → lfD d = true → Rp t (cut F p) v d
  | _, _, .non, _ => .non
  | _, _, .bl b, _ => .bl b
  | _, _, .it i, _ => .it i
  | _, _, .st s, _ => .st s
  | _, _, .tp e r, h => .tp (by rw [cut_ne fun z => by rw [z, hp] at e; cases e]; exact e) (RpL.lf hp r (by simpa only [lfD] using h))
  | _, _, .ls e r, h => by simp only [lfD] at h; cases h
  | _, _, .dc e r, h => .dc (by rw [cut_ne fun z => by rw [z, hp] at e; cases e]; exact e) (RpK.lf hp r (by simpa only [lfD] using h))
  | _, _, .bx e p, _ => .bx e p
theorem RpL.lf {t : Option Bx} {F : Hp} {p : Addr} {ws : List V} (hp : F p = some (.lst ws)) : ∀ {v : List V} {d : List D}, RpL t F v d → lfL d = true → RpL t (cut F p) v d
  | _, _, .nil, _ => .nil
  | _, _, .cons r s, h => by
    simp only [lfL, Bool.and_eq_true] at h
    exact .cons (Rp.lf hp r h.1) (RpL.lf hp s h.2)
theorem RpK.lf {t : Option Bx} {F : Hp} {p : Addr} {ws : List V} (hp : F p = some (.lst ws)) : ∀ {v : List (Key × V)} {d : List (Key × D)}, RpK t F v d → lfK d = true → RpK t (cut F p) v d
  | _, _, .nil, _ => .nil
  | _, _, .cons r s, h => by
    simp only [lfK, Bool.and_eq_true] at h
    exact .cons (Rp.lf hp r h.1) (RpK.lf hp s h.2)
end
/-- frozen for a while -/
def Sta.with (S : Sta) (p : Addr) (vs : List V) : Sta := ⟨S.bx, upd S.F p (.lst vs)⟩
theorem frz_step {S : Sta} {H : Hp} {p : Addr} {vs : List V} (g : Good S H) (hp : H p = some (.lst vs)) (hf : S.F p = none) (hb : ¬ InB S.bx p) : Good (S.with p vs) H := good_frz g hp hb
theorem frz_le {S : Sta} {p : Addr} {vs : List V} (hf : S.F p = none) : Le S.bx S.F (S.with p vs).bx (S.with p vs).F := ⟨fun b o e => by
    have : b ≠ p := fun z => by rw [z, hf] at e; cases e
    show upd S.F p (.lst vs) b = _
    rw [upd_ne this]; exact e, fun _ e => e⟩
/-- from S (p one's own) by S with p frozen to S2: back to p one's own -/
theorem thaw {S S2 : Sta} {H H2 : Hp} {p : Addr} {vs : List V} (g : Good S H) (hp : H p = some (.lst vs)) (hf : S.F p = none) (hb : ¬ InB S.bx p) (s : Stp (S.with p vs) H S2 H2) (g2 : Good S2 H2) :
    Stp S H ⟨S2.bx, cut S2.F p⟩ H2 ∧ Good ⟨S2.bx, cut S2.F p⟩ H2 ∧ S2.F p = some (.lst vs) := by
  have ep : S2.F p = some (.lst vs) := s.ext _ _ (by show upd S.F p (.lst vs) p = _; exact upd_same)
  refine ⟨⟨fun b o e => ?_, fun b o e => ?_, s.box, s.keep⟩, ⟨fun b o e => g2.fz b o (cut_some e).2, g2.bx, fun b hb => ?_⟩, ep⟩
  · have n : b ≠ p := fun z => by rw [z, hf] at e; cases e
    show cut S2.F p b = _
    rw [cut_ne n]
    exact s.ext b o ((frz_le hf).f b o e)
  · obtain ⟨n, e⟩ := cut_some e
    rcases s.new b o e with z | z
    · have z' : upd S.F p (.lst vs) b = some o := z
      rw [upd_ne n] at z'
      exact .inl z'
    · exact .inr z
  · show cut S2.F p b = none
    unfold cut
    split
    · rfl
    · exact g2.nb b hb
theorem Rel.lend {Z : Hp} {S : Sta} {H : Hp} {σ : L2.St} {env : Env'} (r : Rel Z S H σ env) {i : Nat} {xs : List D} (e : env[i]? = some (.own xs)) :
    ∃ p vs, σ[i]? = some (some (.ref p)) ∧ H p = some (.lst vs) ∧ S.F p = none ∧ ¬ InB S.bx p ∧ Z p = none ∧ RpL S.bx S.F vs xs ∧ (∀ j ys, j ≠ i → env[j]? = some (.own ys) → ∀ a, σ[j]? = some (some (.ref a)) → a ≠ p) ∧
      Rel Z (S.with p vs) H σ (env.set i (.v (.ls xs))) := by
  obtain ⟨p, vs, e1, e2, e3, e4, e5, e6⟩ := r.at_ i _ e
  have other : ∀ j ys, j ≠ i → env[j]? = some (.own ys) → ∀ a, σ[j]? = some (some (.ref a)) → a ≠ p := fun j ys hj ej a ea z => by
    subst z
    exact r.sep i j xs ys a (Ne.symm hj) e ej e1 ea
  refine ⟨p, vs, e1, e2, e3, e4, e5, e6, other, ⟨?_, fun j s ej => ?_, fun j k ys zs a hjk e7 e8 h1 => ?_⟩⟩
  · rw [List.length_set]; exact r.len
  · by_cases hj : j = i
    · subst hj
      have hl : j < env.length := (List.getElem?_eq_some_iff.mp e).1
      rw [List.getElem?_set_self hl] at ej
      cases ej
      exact ⟨_, e1, .ls (by show upd S.F p (.lst vs) p = _; exact upd_same) (e6.le (frz_le e3))⟩
    · rw [List.getElem?_set_ne (Ne.symm hj)] at ej
      have q := r.at_ j s ej
      cases s with
      | no => trivial
      | v d => obtain ⟨x, q1, q2⟩ := q; exact ⟨x, q1, q2.le (frz_le e3)⟩
      | own ds =>
        obtain ⟨a, us, q1, q2, q3, q4, q5, q6⟩ := q
        have n : a ≠ p := other j ds hj ej a q1
        exact ⟨a, us, q1, q2, by show upd S.F p (.lst vs) a = none; rw [upd_ne n]; exact q3, q4, q5, q6.le (frz_le e3)⟩
  · have n1 : j ≠ i := fun z => by
      subst z
      have hl : j < env.length := (List.getElem?_eq_some_iff.mp e).1
      rw [List.getElem?_set_self hl] at e7; cases e7
    have n2 : k ≠ i := fun z => by
      subst z
      have hl : k < env.length := (List.getElem?_eq_some_iff.mp e).1
      rw [List.getElem?_set_self hl] at e8; cases e8
    rw [List.getElem?_set_ne (Ne.symm n1)] at e7
    rw [List.getElem?_set_ne (Ne.symm n2)] at e8
    exact r.sep j k ys zs a hjk e7 e8 h1
/-- nothing in an error but what has no list within -/
def lfX (x : Exn) : Prop := ∀ f ∈ x.fs, lfD f.2 = true
theorem XRep.lf {mg : Str → Option Value} {S : Sta} {H : Hp} {C : Value} {dx : Option Addr} {x : Exn} {p : Addr} {ws : List V} (hp : S.F p = some (.lst ws)) (h : XRep mg S H C dx x) (l : lfX x) : XRep mg ⟨S.bx, cut S.F p⟩ H C dx x := by
  obtain ⟨h1, h2⟩ := h
  refine ⟨h1, ?_⟩
  rcases h2 with h2 | ⟨d, fs, e1, e2, e3⟩
  · exact .inl h2
  · refine .inr ⟨d, fs, e1, e2, ?_⟩
    obtain ⟨c, xs⟩ := x
    have l' : ∀ f ∈ xs, lfD f.2 = true := l
    have e3' : Paired (fun (p : Str × V) (q : Str × D) => p.1 = q.1 ∧ Rp S.bx S.F p.2 q.2) fs xs := e3
    clear e1 e2 h1 e3 l
    show Paired _ fs xs
    induction e3' with
    | nil => exact .nil
    | cons h t ih => exact .cons ⟨h.1, Rp.lf hp h.2 (l' _ (by simp))⟩ (ih fun f hf => l' f (List.mem_cons_of_mem _ hf))
theorem XLink.lend {mg : Str → Option Value} {S : Sta} {H : Hp} {Ed : EK} {E : XK} {p : Addr} {vs : List V} (l : XLink mg S H Ed E) (g : Good S H) (hp : H p = some (.lst vs)) (hf : S.F p = none) (hb : ¬ InB S.bx p) :
    XLink mg (S.with p vs) H (fun x => lfX x ∧ Ed x) E := fun C dx H' S' x s g' r h => by
  obtain ⟨a, b, c⟩ := thaw g hp hf hb s g'
  exact l C dx H' _ x a b (r.lf c h.1) h.2
section
variable {X : Cx} {E : XK} {pos : Pos} {e : Expr} {de : DT_} {db : DB_} {d : DS_} {k : Nat}
/-- e reads the list in slot i; its value has no list within -/
def dLend (i : Nat) (de : DT_) : DT_ := fun env Q E => match env[i]? with
  | some (.own xs) => de (env.set i (.v (.ls xs))) (fun y => lfD y = true ∧ Q y) (fun x => lfX x ∧ E x)
  | _ => de env Q E
theorem de_lend (i : Nat) (he : DE X E e de) : DE X E e (dLend i de) := by
  obtain ⟨t, p, q⟩ := he.run
  refine ⟨t, p, fun Z S H σ env Q Qd Ed g r l h k => ?_⟩
  unfold dLend at h
  split at h
  · next xs ei =>
    obtain ⟨a, vs, e1, e2, e3, e4, e5, e6, _, r'⟩ := r.lend ei
    refine q Z (S.with a vs) H σ _ Q _ _ (frz_step g e2 e3 e4) r' (l.lend g e2 e3 e4) h fun v H' S' x s' g' rp hx => ?_
    obtain ⟨s2, g2, ep⟩ := thaw g e2 e3 e4 s' g'
    exact k v H' _ x s2 g2 (Rp.lf ep rp hx.1) hx.2
  · exact q Z S H σ env Q Qd Ed g r l h k
def dbLend (i : Nat) (de : DB_) : DB_ := fun env Q E => match env[i]? with
  | some (.own xs) => de (env.set i (.v (.ls xs))) Q (fun x => lfX x ∧ E x)
  | _ => de env Q E
theorem db_lend (i : Nat) (he : DB X E e db) : DB X E e (dbLend i db) := by
  obtain ⟨t, p, q⟩ := he.run
  refine ⟨t, p, fun Z S H σ env Q Qd Ed g r l h k => ?_⟩
  unfold dbLend at h
  split at h
  · next xs ei =>
    obtain ⟨a, vs, e1, e2, e3, e4, e5, e6, _, r'⟩ := r.lend ei
    refine q Z (S.with a vs) H σ _ Q _ _ (frz_step g e2 e3 e4) r' (l.lend g e2 e3 e4) h fun b H' S' s' g' hx => ?_
    obtain ⟨s2, g2, ep⟩ := thaw g e2 e3 e4 s' g'
    exact k b H' _ s2 g2 hx
  · exact q Z S H σ env Q Qd Ed g r l h k
/-- the list in slot i is written no more -/
def dFrzS (i : Nat) (d : DS_) : DS_ := fun De env => match env[i]? with
  | some (.own xs) => d De (env.set i (.v (.ls xs)))
  | _ => d De env
theorem frz_at {B : Base} {S : Sta} {H : Hp} {a : Addr} {vs : List V} (at_ : At B S H) (e : H a = some (.lst vs)) (z : B.H0 a = none) (f : S.F a = none) (b : ¬ InB S.bx a) : At B ⟨S.bx, upd S.F a (.lst vs)⟩ H := by
  have le := frz_le (vs := vs) f
  refine ⟨good_frz at_.g e b, ⟨fun c o ec => le.f c o (at_.p.ext c o ec), fun c o ec => ?_, at_.p.box, at_.p.keep⟩, at_.f.trans le⟩
  by_cases hz : c = a
  · rw [hz]; exact .inr z
  · have e' : upd S.F a (.lst vs) c = some o := ec
    rw [upd_ne hz] at e'
    exact at_.p.new c o e'
theorem ds_frz (i : Nat) {st : Stmt} (h : DS X E st d) : DS X E st (dFrzS i d) := by
  obtain ⟨t, p, q⟩ := h.run
  refine ⟨t, p, fun B De Dn l S σ env H a r h => ?_⟩
  unfold dFrzS at h
  split at h
  · next xs ei =>
    obtain ⟨b, vs, e1, e2, e3, e4, e5, e6, _, r'⟩ := r.lend ei
    exact q B De Dn l _ σ _ H (frz_at a e2 e5 e3 e4) r' h
  · exact q B De Dn l S σ env H a r h
theorem dss_frz (i : Nat) {st : List Stmt} (h : DSs X E st d) : DSs X E st (dFrzS i d) := by
  obtain ⟨t, p, q⟩ := h.run
  refine ⟨t, p, fun B De Dn l S σ env H a r h => ?_⟩
  unfold dFrzS at h
  split at h
  · next xs ei =>
    obtain ⟨b, vs, e1, e2, e3, e4, e5, e6, _, r'⟩ := r.lend ei
    exact q B De Dn l _ σ _ H (frz_at a e2 e5 e3 e4) r' h
  · exact q B De Dn l S σ env H a r h
/-! ### xs[k] = e -/
theorem at_mut {B : Base} {S : Sta} {H : Hp} {b : Addr} {us : List V} (a : At B S H) (z : B.H0 b = none) (f : S.F b = none) (nb : ¬ InB S.bx b) : At B S (upd H b (.lst us)) :=
  ⟨good_mut a.g f nb, ⟨a.p.ext, a.p.new, a.p.box, fun c o ec hc => by rw [upd_ne (ne_of_none ec z)]; exact a.p.keep c o ec hc⟩, a.f⟩
def dSetIx (i : Nat) (di de : DT_) : DS_ := fun De env => match env[i]? with
  | some (.own xs) => de env (fun y => di env (fun z => match z with
    | .it k => (match ixN xs.length k with | some j => De.nx (env.set i (.own (xs.set j y))) | none => False)
    | _ => False) De.ex) De.ex
  | _ => False
theorem ds_setix (i : Nat) {x : Str} {ix : Expr} {di : DT_} {p1 p2 : Pos} (he : DE X E e de) (hi : DE X E ix di) (hN : X.N[i]? = some x := by rfl) (hv : Vis X.env.scope x := by first | exact Or.inl rfl | exact Or.inr (Or.inl rfl) | exact Or.inr (Or.inr rfl)) (hd : (x == ("__debug__" : Str)) = false := by decide)
    (hcd : (x == ("__classdict__" : Str)) = false := by decide) (hs : swapsWithSole [.Subscript (.Name x p1) ix p2] e pos.line X.env = pure false := by rfl) (hw : swappedStores [.Subscript (.Name x p1) ix p2] e X.env = pure none := by rfl)
    (h1 : (assignEach [.Subscript (.Name x p1) ix p2] X.env).map (·.2) = [assign (.Subscript (.Name x p1) ix p2) X.env] := by rfl)
    (ha : ∀ v, assign (.Subscript (.Name x p1) ix p2) X.env v = (do
      let ov ← holding [v] (eval (.Name x p1) X.env)
      let iv ← holding [v, ov] (eval ix X.env)
      standAt p2
      holding [v, ov, iv] (setItem ov iv v)
      release [v, ov, iv] []) := by intro _; rfl) :
    DS X E (.Assign [.Subscript (.Name x p1) ix p2] e pos) (dSetIx i di de) := by
  obtain ⟨t, p, q⟩ := he.run
  obtain ⟨ti, pi, qi⟩ := hi.run
  refine ⟨_, ps_asg p (pg_sub (pe_var hN hv hd hcd) pi set_list ha) hs hw h1, fun B De Dn l S σ env H a r h => ?_⟩
  unfold dSetIx at h
  split at h
  · next xs ei =>
    refine q _ S H σ env _ _ _ a.g r (l.xl a) h fun v H1 S1 y s1 g1 r1 h1 => ?_
    have rr := r.step s1
    have aa := a.step s1 g1
    obtain ⟨b, vs, e1, e2, e3, e4, e5, e6⟩ := rr.at_ i _ ei
    refine ⟨_, e1, qi _ S1 H1 σ env _ _ _ g1 rr (l.xl aa) h1 fun z H2 S2 dz s2 g2 r2 h2 => ?_⟩
    have r3 := rr.step s2
    have a3 := aa.step s2 g2
    obtain ⟨b', vs', q1, q2, q3, q4, q5, q6⟩ := r3.at_ i _ ei
    rw [e1] at q1; cases q1
    split at h2
    · split at h2
      · next j ej =>
        cases r2
        refine ⟨b, vs', _, j, rfl, rfl, q2, by rw [q6.length]; exact ej, ?_⟩
        exact l.nx S2 σ _ _ (at_mut a3 q5 q3 q4) (r3.mut ei e1 (RpL.set (r1.le s2.le) j q6)) h2
      · exact h2.elim
    · exact h2.elim
  · exact h.elim
/-! ### xs[k] op= e -/
theorem get_list {X : Cx} : PGet X (rIxL X.K) := by
  intro pins s σ H o i ov iv Q I ro ri h
  obtain ⟨p, xs, k, z, rfl, rfl, hq, he, q⟩ := h
  cases ro
  obtain ⟨t, rfl⟩ := ri
  obtain ⟨its, r, pl, hz⟩ := I.list hq
  obtain ⟨j, h1, h2, h3, h4, h5⟩ := atI_get he
  obtain ⟨w, ew, rw'⟩ := r.get h2
  have hl := r.length
  have hn := line63
  have fin : EP X pins σ Q w s := ⟨z, H, I, rw', q⟩
  by_cases h0 : 0 ≤ k
  · have hj : k.toNat = j := by
      rw [seqIndex_of h0 h5] at h1
      exact Option.some.inj h1
    exact wpAny_getItem_list pl.isList h0 (by omega) (by rw [hj]; simpa using ew) fin
  · have hj : (k + (its.toArray.size : Int)).toNat = j := by
      rw [seqIndex_neg (by omega) h4] at h1
      rw [List.size_toArray, ← hl]
      exact Option.some.inj h1
    exact wpAny_getItem_list_neg pl.isList (by omega) (by rw [List.size_toArray] <;> omega) (by omega) (by rw [hj]; simpa using ew) fin
def dAugIx (i : Nat) (f : Int → Int → Int) (di de : DT_) : DS_ := fun De env => match env[i]? with
  | some (.own xs) => di env (fun z => match z with
    | .it k => (match ixN xs.length k with
      | some j => (match xs[j]? with
        | some (.it n) => de env (fun y => match y with | .it m => De.nx (env.set i (.own (xs.set j (.it (f n m))))) | _ => False) De.ex
        | _ => False)
      | none => False)
    | _ => False) De.ex
  | _ => False
theorem ds_augix (i : Nat) {x : Str} {ix : Expr} {di : DT_} {p1 p2 : Pos} {op : Operator} {f : Int → Int → Int} (ho : PIp X op (ipI f)) (he : DE X E e de) (hi : DE X E ix di) (hN : X.N[i]? = some x := by rfl) (hv : Vis X.env.scope x := by first | exact Or.inl rfl | exact Or.inr (Or.inl rfl) | exact Or.inr (Or.inr rfl)) (hd : (x == ("__debug__" : Str)) = false := by decide)
    (hcd : (x == ("__classdict__" : Str)) = false := by decide) (ha : ∀ ov iv new, augStore ix ov iv new = (do holding [new, ov, iv] (setItem ov iv new); release [new, ov, iv] []; pure .next) := by intros; rfl) : DS X E (.AugAssign (.Subscript (.Name x p1) ix p2) op e pos) (dAugIx i f di de) := by
  obtain ⟨t, p, q⟩ := he.run
  obtain ⟨ti, pi, qi⟩ := hi.run
  refine ⟨_, ps_augS (pe_var hN hv hd hcd) pi get_list p ho set_list ha, fun B De Dn l S σ env H a r h => ?_⟩
  unfold dAugIx at h
  split at h
  · next xs ei =>
    obtain ⟨b, vs, e1, e2, e3, e4, e5, e6⟩ := r.at_ i _ ei
    refine ⟨_, e1, qi _ S H σ env _ _ _ a.g r (l.xl a) h fun z H1 S1 dz s1 g1 r1 h1 => ?_⟩
    have rr := r.step s1
    have aa := a.step s1 g1
    obtain ⟨b', vs', q1, q2, q3, q4, q5, q6⟩ := rr.at_ i _ ei
    rw [e1] at q1; cases q1
    split at h1
    · split at h1
      · next j ej =>
        split at h1
        · next n en =>
          cases r1
          obtain ⟨v, hv1, hv2⟩ := q6.getD en
          cases hv2
          refine ⟨b, vs', _, .int n, rfl, rfl, SqL.of q2, (by unfold atI; rw [q6.length, ej]; exact hv1), ?_⟩
          refine q _ S1 H1 σ env _ _ _ g1 rr (l.xl aa) h1 fun y H2 S2 dy s2 g2 r2 h2 => ?_
          have r3 := rr.step s2
          have a3 := aa.step s2 g2
          obtain ⟨b', vs2, t1, t2, t3, t4, t5, t6⟩ := r3.at_ i _ ei
          rw [e1] at t1; cases t1
          split at h2
          · cases r2
            refine ⟨n, _, rfl, rfl, b, vs2, _, j, rfl, rfl, t2, by rw [t6.length]; exact ej, ?_⟩
            exact l.nx S2 σ _ _ (at_mut a3 t5 t3 t4) (r3.mut ei e1 (RpL.set (.it _) j t6)) h2
          · exact h2.elim
        · exact h1.elim
      · exact h1.elim
    · exact h1.elim
  · exact h.elim
/-! ### a, b = [..], y: the first one a list of one's own -/
def dParO (i j : Nat) (dn : DN_) (da : DT_) : DS_ := fun De env => dn env (fun xs => da env (fun y => De.nx ((env.set i (.own xs)).set j (.v y))) De.ex) De.ex
theorem ds_parO {i j : Nat} {x y : Str} {a b : Expr} {dn : DN_} {db : DT_} {px py pt : Pos} {kt k2 pt2} (hc : X.calm = true) (hN : X.N.Nodup) (ha : DN X E a dn) (hb : DE X E b db)
    (hw : swappedStores [.Tuple [.Name x px, .Name y py] kt pt] (.Tuple [a, b] k2 pt2) X.env = pure (some [x, y])) (hi : X.N[i]? = some x := by rfl) (hj : X.N[j]? = some y := by rfl) (hij : i ≠ j := by decide)
    (hx : X.env.scope.names.lookup x = some .local := by rfl) (hy : X.env.scope.names.lookup y = some .local := by rfl) (sa : starEach [a, b] X.env = (false, eval a X.env) :: starEach [b] X.env := by rfl) (sb : starEach [b] X.env = (false, eval b X.env) :: starEach [] X.env := by rfl)
    (hs : swapsWithSole [.Tuple [.Name x px, .Name y py] kt pt] (.Tuple [a, b] k2 pt2) pos.line X.env = pure false := by rfl) :
    DS X E (.Assign [.Tuple [.Name x px, .Name y py] kt pt] (.Tuple [a, b] k2 pt2) pos) (dParO i j dn db) := by
  obtain ⟨t1, p1, q1⟩ := ha.sem
  obtain ⟨t2, p2, q2⟩ := hb.run
  refine ⟨_, ps_par hc hN hi hj hij hx hy (pa_cons p1 (pa_cons p2 pa_nil sb) sa) hw hs, fun B De Dn l S σ env H at_ r h => ?_⟩
  refine q1 _ S H σ env _ _ _ at_.g r (l.xl at_) h fun p H1 S1 vs xs s1 g1 n0 n1 n2 n3 rr h1 => ?_
  have a1 := at_.step s1 g1
  refine q2 _ S1 H1 σ env _ _ _ g1 (r.step s1) (l.xl a1) h1 fun v H2 S2 dy s2 g2 rv h2 => ?_
  have f2 : S2.F p = none := none_of_keep fun o e => by
    rcases s2.new p o e with z | z
    · rw [n2] at z; cases z
    · rw [n1] at z; cases z
  have b2 : ¬ InB S2.bx p := fun z => by
    rcases s2.inB z with z | z
    · exact n3 z
    · rw [n1] at z; cases z
  have e2 : H2 p = some (.lst vs) := s2.keep p _ n1 n3
  refine ⟨.ref p, v, rfl, l.nx S2 _ _ H2 (a1.step s2 g2) ((((r.step s1).step s2).putOwn (at_.p.free at_.g n0) e2 f2 b2 (fun k ys ek ez => ?_) (rr.le s2.le)).put rv) h2⟩
  obtain ⟨c, ws, u1, u2, _⟩ := r.at_ k _ ek
  rw [ez] at u1; cases u1
  rw [n0] at u2; cases u2
end
end Dl

set_option Elab.async false
set_option linter.all false
set_option maxRecDepth 100000
set_option maxHeartbeats 4000000
/-! Dl13: plain laws of comprehensions and loops over data. -/
namespace Dl
open PySem PySem.Spec PyProof.Rows L2

section
variable {dg : DG_} {tt : DB_} {te : DT_} {env : Env'} {Q : List D → Prop}
/-- a comprehension whose items are a function's values -/
theorem lcD_of (f : D → Option D) : ∀ (xs acc : List D),
    (∀ x ∈ xs, ∀ (Y : D → Prop) (N : Prop), (∀ y, f x = some y → Y y) → (f x = none → N) → dg x env fun env1 => tt env1 (fun b => match b with | true => te env1 Y (fun _ => False) | false => N) (fun _ => False)) →
    acc.length + xs.length ≤ sizeLine → Q (acc ++ xs.filterMap f) → lcD dg tt te env (fun _ => False) Q xs acc
  | [], acc, _, _, h => by rw [List.filterMap_nil, List.append_nil] at h; exact h
  | x :: xs, acc, hs, hl, h => by
    show dg x env fun env1 => tt env1 (fun b => match b with | true => te env1 (fun y => acc.length < sizeLine ∧ lcD dg tt te env (fun _ => False) Q xs (acc ++ [y])) (fun _ => False) | false => lcD dg tt te env (fun _ => False) Q xs acc) (fun _ => False)
    have hl' : acc.length + (xs.length + 1) ≤ sizeLine := by simpa using hl
    refine hs x (by simp) _ _ (fun y ey => ⟨by omega, ?_⟩) (fun en => ?_)
    · refine lcD_of f xs (acc ++ [y]) (fun z hz => hs z (List.mem_cons_of_mem _ hz)) (by simp; omega) ?_
      rw [List.filterMap_cons, ey] at h
      simpa using h
    · refine lcD_of f xs acc (fun z hz => hs z (List.mem_cons_of_mem _ hz)) (by omega) ?_
      rw [List.filterMap_cons, en] at h
      simpa using h
/-- item by item, as related -/
inductive All2 (R : Nat → D → D → Prop) : Nat → List D → List D → Prop where
  | nil {i : Nat} : All2 R i [] []
  | cons {i : Nat} {x y : D} {xs ys : List D} : R i x y → All2 R (i + 1) xs ys → All2 R i (x :: xs) (y :: ys)
theorem All2.length {R : Nat → D → D → Prop} : ∀ {i : Nat} {xs ys : List D}, All2 R i xs ys → ys.length = xs.length
  | _, _, _, .nil => rfl
  | _, _, _, .cons _ t => by rw [List.length_cons, List.length_cons, t.length]
theorem All2.mem {R : Nat → D → D → Prop} : ∀ {i : Nat} {xs ys : List D}, All2 R i xs ys → ∀ y ∈ ys, ∃ j x, R j x y
  | _, _, _, .nil, y, h => by cases h
  | _, _, _, .cons r t, y, h => by
    rcases List.mem_cons.mp h with rfl | h
    · exact ⟨_, _, r⟩
    · exact t.mem y h
/-- a comprehension without a test whose items are related to what is walked -/
theorem lcD_rel (R : Nat → D → D → Prop) : ∀ (i : Nat) (xs acc : List D),
    (∀ (j : Nat) (x : D), xs[j]? = some x → ∀ (Y : D → Prop), (∀ y, R (i + j) x y → Y y) → dg x env fun env1 => te env1 Y (fun _ => False)) →
    acc.length + xs.length ≤ sizeLine → (∀ ys, All2 R i xs ys → Q (acc ++ ys)) → lcD dg dYes te env (fun _ => False) Q xs acc
  | i, [], acc, _, _, h => by have := h [] .nil; rw [List.append_nil] at this; exact this
  | i, x :: xs, acc, hs, hl, h => by
    show dg x env fun env1 => te env1 (fun y => acc.length < sizeLine ∧ lcD dg dYes te env (fun _ => False) Q xs (acc ++ [y])) (fun _ => False)
    have hl' : acc.length + (xs.length + 1) ≤ sizeLine := by simpa using hl
    refine hs 0 x rfl _ fun y r => ⟨by omega, ?_⟩
    refine lcD_rel R (i + 1) xs (acc ++ [y]) (fun j z hz Y hY => hs (j + 1) z hz Y fun w hw => hY w (by rw [Nat.add_right_comm, Nat.add_assoc]; exact hw)) (by simp; omega) fun ys hys => ?_
    have := h (y :: ys) (.cons r hys)
    simpa using this
/-- a comprehension without a test whose items are a function's values -/
theorem lcD_map (f : D → D) (xs : List D) (hs : ∀ x ∈ xs, ∀ (Y : D → Prop), Y (f x) → dg x env fun env1 => te env1 Y (fun _ => False)) (hl : xs.length ≤ sizeLine) (h : Q (xs.map f)) : lcD dg dYes te env (fun _ => False) Q xs [] := by
  refine lcD_rel (fun _ x y => y = f x) 0 xs [] (fun j x hx Y hY => hs x (List.mem_of_getElem? hx) Y (hY _ rfl)) (by simpa using hl) fun ys hys => ?_
  have key : ∀ {i : Nat} {xs ys : List D}, All2 (fun _ x y => y = f x) i xs ys → ys = xs.map f := fun {i xs ys} h => by
    induction h with
    | nil => rfl
    | cons r _ ih => rw [List.map_cons, r, ih]
  rw [List.nil_append, key hys]
  exact h
end
section
variable {dg : DG_} {db : DS_} {De : DEnds}
/-- a loop, by what holds ahead of the rest of it -/
theorem for_ind (I : List D → Env' → Prop) (hn : ∀ env, I [] env → De.nx env)
    (hs : ∀ x r env (N : Env' → Prop), (∀ env', I r env' → N env') → I (x :: r) env → dg x env fun env1 => db { De with nx := N, ct := N, bk := De.nx } env1) : ∀ xs env, I xs env → forD dg db De xs env
  | [], env, h => hn env h
  | x :: r, env, h => hs x r env _ (fun env' h' => for_ind I hn hs r env' h') h
end
/-! ### a comprehension over what is no data (the script) -/
section
variable {X : Cx} {E : XK} {elt tg iter : Expr} {ifs : List Expr} {scope : Scope} {own : List (Str × Nat)} {pos : Pos} {vsg : List Nat} {dg : DG_} {tt : DB_} {te : DT_} {wi : TI}
theorem frz_new {S S' : Sta} {H H' : Hp} {p : Addr} {vs : List V} (s' : Stp S H S' H') (g' : Good S' H') (h0 : H p = none) (h1 : H' p = some (.lst vs)) (h2 : S'.F p = none) (h3 : ¬ InB S'.bx p) :
    Stp S H ⟨S'.bx, upd S'.F p (.lst vs)⟩ H' ∧ Good ⟨S'.bx, upd S'.F p (.lst vs)⟩ H' ∧ Le S'.bx S'.F S'.bx (upd S'.F p (.lst vs)) := by
  have le : Le S'.bx S'.F S'.bx (upd S'.F p (.lst vs)) := ⟨fun b o e => by
    have : b ≠ p := fun z => by rw [z, h2] at e; cases e
    rw [upd_ne this]; exact e, fun x e => e⟩
  refine ⟨⟨fun b o e => le.f b o (s'.ext b o e), fun b o e => ?_, s'.box, s'.keep⟩, good_frz g' h1 h3, le⟩
  by_cases z : b = p
  · rw [z]; exact .inr h0
  · have e' : upd S'.F p (.lst vs) b = some o := e
    rw [upd_ne z] at e'
    exact s'.new b o e'
def LcRaw (X : Cx) (st : Stmt) (i : Nat) (wi : TI) (dg : DG_) (tt : DB_) (te : DT_) (vs : List Nat) : Prop :=
    ∃ t, PS X st t ∧ ∀ (Dn : Ends) (Z : Hp) (S : Sta) (H : Hp) (σ : L2.St) (env : Env') (Qd : List D → Prop), Good S H → Rel Z S H σ env →
      (∀ R : It → Hp → Prop, (∀ J H' S' xs, Stp S H S' H' → Good S' H' → Wlk S'.bx S'.F J xs → lcD dg tt te (wipeD env vs) (fun _ => False) Qd xs [] → R J H') → wi σ H R) →
      (∀ p H' S' xs, Stp S H S' H' → Good S' H' → Rp S'.bx S'.F (.ref p) (.ls xs) → Qd xs → Dn.nx (σ.set i (some (.ref p))) H') → t Dn σ H
theorem lcN_raw (i : Nat) {y : Str} {py spos : Pos} (hc : X.calm = true) (hN : X.N.Nodup) (hi : PI X tg iter wi) (ok : BlkOk X.N X.env.scope scope own) (hv : ∀ i ∈ vsg, i ∈ own.map (·.2)) (hg : ∀ s H C cl fp, DG (BCx X scope s H C cl fp) tg vsg dg)
    (ht : ∀ s H C cl fp, DTs (BCx X scope s H C cl fp) E0 ifs tt) (he : ∀ s H C cl fp, DE (BCx X scope s H C cl fp) E0 elt te)
    (hsw : swapsWith (.ListComp elt [⟨tg, iter, ifs, 0⟩] scope pos) (some (.Name y py)) spos.line X.env = pure true) (hy : X.N[i]? = some y := by rfl) (hyl : X.env.scope.names.lookup y = some .local := by rfl) (hs : ∀ x, foldedSetIterable iter X.env x = pure x := by intro _; rfl) :
    LcRaw X (.Assign [.Name y py] (.ListComp elt [⟨tg, iter, ifs, 0⟩] scope pos) spos) i wi dg tt te (own.map (·.2)) := by
  obtain ⟨g, pg, sg⟩ := allG hg
  obtain ⟨t1, p1, s1⟩ := allT ht
  obtain ⟨t2, p2, s2⟩ := allE he
  refine ⟨_, ps_setLc hc hN hy hyl hsw hi ok pg p1 p2 hs, fun Dn Z S H σ env Qd gd r si k => ?_⟩
  refine lc_at (X := X) hv gd r si sg s1 s2 fun p H' S' vs xs st g' h0 h1 h2 h3 rr hq => ?_
  obtain ⟨a, b, c⟩ := frz_new st g' h0 h1 h2 h3
  exact k p H' _ xs a b (.ls (by show upd S'.F p (.lst vs) p = _; exact upd_same) (rr.le c)) hq
end
/-- the script, or its beginning, is walked -/
theorem wlk_scr {K : PySem.W.Frag} {H : Hp} {a : Addr} {ns : List Int} (h : SqL K H a (ns.map V.int)) {S : Sta} (hS : S.F = fun _ => none) (st : ∀ S' H', Le S.bx S.F S'.bx S'.F → Good S' H' → SqL K H' a (ns.map V.int)) : Wlk S.bx S.F (Itl K a) (ns.map D.it) := by
  intro S' H' le g i
  have hp := st S' H' le g
  refine ⟨fun d hd => ?_, fun hi => ⟨_, hp, by rw [List.length_map] at hi ⊢; omega⟩⟩
  rw [List.getElem?_map] at hd
  cases e : ns[i]? with
  | none => rw [e] at hd; cases hd
  | some n =>
    rw [e] at hd
    cases hd
    refine ⟨⟨_, .int n, hp, by rw [List.getElem?_map, e]; rfl⟩, fun v' H2 hy => ?_⟩
    obtain ⟨rfl, hy⟩ := hy
    have := hy _ hp
    rw [List.getElem?_map, e] at this
    cases this
    exact ⟨S', .refl _ _, g, .it n⟩
/-! ### lists of numbers -/
theorem plain_ints : ∀ ns : List Int, plainDL (ns.map D.it) = true
  | [] => rfl
  | n :: r => by simp only [List.map_cons, plainDL, plainD, plain_ints r, Bool.and_self]
theorem deep_ints : ∀ ns : List Int, deepL (ns.map D.it) = 0
  | [] => rfl
  | n :: r => by simp only [List.map_cons, deepL, deep, deep_ints r, Nat.max_self]
theorem eq_ints_nil (ns : List Int) : eqD (.ls (ns.map D.it)) (.ls []) = decide (ns = []) := by
  cases ns with
  | nil => rfl
  | cons n r => rfl
theorem cmp_ints_nil (ns : List Int) : cmpOk (.ls (ns.map D.it)) (.ls []) := by
  refine ⟨?_, rfl, ?_⟩
  · simp only [plainD]; exact plain_ints ns
  · simp only [deep, deepL]
    omega
/-- [x for x in numbers if ..] -/
theorem lc_filt {dg : DG_} {tt : DB_} {te : DT_} {env : Env'} {Q : List D → Prop} (p : Int → Bool) (ns : List Int)
    (h : ∀ n ∈ ns, ∀ (Y : D → Prop) (N : Prop), (p n = true → Y (.it n)) → (p n = false → N) → dg (.it n) env fun env1 => tt env1 (fun b => match b with | true => te env1 Y (fun _ => False) | false => N) (fun _ => False))
    (hl : ns.length ≤ sizeLine) (k : Q ((ns.filter p).map D.it)) : lcD dg tt te env (fun _ => False) Q (ns.map D.it) [] := by
  have e : ∀ ns : List Int, (ns.map D.it).filterMap (fun x => match x with | .it n => if p n = true then some x else none | _ => none) = (ns.filter p).map D.it := by
    intro ns
    induction ns with
    | nil => rfl
    | cons n r ih =>
      rw [List.map_cons, List.filterMap_cons]
      by_cases hp : p n = true
      · rw [List.filter_cons_of_pos hp]
        simp only [hp, if_true, List.map_cons]
        exact congrArg _ ih
      · rw [List.filter_cons_of_neg hp]
        simp only [hp, if_false]
        exact ih
  refine lcD_of (fun x => match x with | .it n => if p n = true then some x else none | _ => none) _ [] (fun x hx Y N h1 h2 => ?_) (by simpa using hl) ?_
  · obtain ⟨n, hn, rfl⟩ := List.mem_map.mp hx
    refine h n hn Y N (fun hp => h1 _ ?_) (fun hp => h2 ?_)
    · simp only [hp, if_true]
    · simp only [hp, Bool.false_eq_true, if_false]
  · rw [List.nil_append, e]; exact k
/-- a comprehension over the data of a list -/
theorem lcD_on {α : Type} {dg : DG_} {te : DT_} {env : Env'} {Q : List D → Prop} (g f : α → D) : ∀ (l : List α) (acc : List D),
    (∀ a ∈ l, ∀ (Y : D → Prop), Y (f a) → dg (g a) env fun env1 => te env1 Y (fun _ => False)) → acc.length + l.length ≤ sizeLine → Q (acc ++ l.map f) → lcD dg dYes te env (fun _ => False) Q (l.map g) acc
  | [], acc, _, _, h => by rw [List.map_nil, List.append_nil] at h; exact h
  | a :: l, acc, hs, hl, h => by
    rw [List.map_cons]
    show dg (g a) env fun env1 => te env1 (fun y => acc.length < sizeLine ∧ lcD dg dYes te env (fun _ => False) Q (l.map g) (acc ++ [y])) (fun _ => False)
    have hl' : acc.length + (l.length + 1) ≤ sizeLine := by simpa using hl
    refine hs a (by simp) _ ⟨by omega, lcD_on g f l (acc ++ [f a]) (fun b hb => hs b (List.mem_cons_of_mem _ hb)) (by simp; omega) ?_⟩
    rw [List.map_cons] at h
    simpa using h
theorem zpD_map {α β : Type} (g : α → D) (h : β → D) : ∀ (l : List α) (m : List β), zpD (l.map g) (m.map h) = (l.zip m).map fun p => D.tp [g p.1, h p.2]
  | [], _ => by simp [zpD]
  | _ :: _, [] => by simp [zpD]
  | a :: l, b :: m => by simp only [List.map_cons, zpD, List.zip_cons_cons, zpD_map g h l m]
end Dl

set_option Elab.async false
set_option linter.all false
set_option maxRecDepth 100000
set_option maxHeartbeats 4000000
/-! Dl14: sizes of data. -/
namespace Dl
open PySem PySem.Spec PyProof.Rows L2

theorem okL_iff : ∀ {xs : List D}, okL xs ↔ ∀ x ∈ xs, okD x
  | [] => by simp [okL]
  | x :: r => by
    simp only [okL, List.mem_cons, forall_eq_or_imp]
    rw [okL_iff]
theorem massL_append : ∀ xs ys : List D, massL (xs ++ ys) = massL xs + massL ys
  | [], _ => by simp [massL]
  | x :: r, ys => by simp only [List.cons_append, massL, massL_append r ys]; omega
theorem deepL_append : ∀ xs ys : List D, deepL (xs ++ ys) = max (deepL xs) (deepL ys)
  | [], _ => by simp [deepL]
  | x :: r, ys => by simp only [List.cons_append, deepL, deepL_append r ys]; omega
theorem massL_take : ∀ (n : Nat) (xs : List D), massL (xs.take n) ≤ massL xs
  | 0, _ => by simp [massL]
  | _ + 1, [] => by simp [massL]
  | n + 1, x :: r => by simp only [List.take_succ_cons, massL]; have := massL_take n r; omega
theorem massL_drop : ∀ (n : Nat) (xs : List D), massL (xs.drop n) ≤ massL xs
  | 0, _ => by simp
  | _ + 1, [] => by simp [massL]
  | n + 1, x :: r => by simp only [List.drop_succ_cons, massL]; have := massL_drop n r; omega
theorem massL_split (n : Nat) (xs : List D) : massL (xs.take n) + massL (xs.drop n) = massL xs := by rw [← massL_append, List.take_append_drop]
theorem deepL_take : ∀ (n : Nat) (xs : List D), deepL (xs.take n) ≤ deepL xs
  | 0, _ => by simp [deepL]
  | _ + 1, [] => by simp [deepL]
  | n + 1, x :: r => by simp only [List.take_succ_cons, deepL]; have := deepL_take n r; omega
theorem deepL_drop : ∀ (n : Nat) (xs : List D), deepL (xs.drop n) ≤ deepL xs
  | 0, _ => by simp
  | _ + 1, [] => by simp [deepL]
  | n + 1, x :: r => by simp only [List.drop_succ_cons, deepL]; have := deepL_drop n r; omega
theorem massL_rev : ∀ xs : List D, massL xs.reverse = massL xs
  | [] => rfl
  | x :: r => by rw [List.reverse_cons, massL_append, massL_rev r]; simp only [massL]; omega
theorem deepL_rev : ∀ xs : List D, deepL xs.reverse = deepL xs
  | [] => rfl
  | x :: r => by rw [List.reverse_cons, deepL_append, deepL_rev r]; simp only [deepL]; omega
theorem massL_rep (xs : List D) : ∀ n : Nat, massL (List.replicate n xs).flatten = n * massL xs
  | 0 => by simp [massL]
  | n + 1 => by rw [List.replicate_succ, List.flatten_cons, massL_append, massL_rep xs n, Nat.succ_mul]; omega
theorem deepL_rep (xs : List D) : ∀ n : Nat, deepL (List.replicate n xs).flatten ≤ deepL xs
  | 0 => by simp [deepL]
  | n + 1 => by rw [List.replicate_succ, List.flatten_cons, deepL_append]; have := deepL_rep xs n; omega
theorem mass_mem : ∀ {xs : List D} {x : D}, x ∈ xs → mass x ≤ massL xs
  | y :: r, x, h => by
    simp only [massL]
    rcases List.mem_cons.mp h with rfl | h
    · omega
    · have := mass_mem h; omega
theorem deep_mem : ∀ {xs : List D} {x : D}, x ∈ xs → deep x ≤ deepL xs
  | y :: r, x, h => by
    simp only [deepL]
    rcases List.mem_cons.mp h with rfl | h
    · omega
    · have := deep_mem h; omega
theorem massL_le {c : Nat} : ∀ {xs : List D}, (∀ x ∈ xs, mass x ≤ c) → massL xs ≤ xs.length * c
  | [], _ => by simp [massL]
  | x :: r, h => by
    simp only [massL, List.length_cons, Nat.succ_mul]
    have := h x (by simp)
    have := massL_le (xs := r) fun y hy => h y (List.mem_cons_of_mem _ hy)
    omega
theorem deepL_le {c : Nat} : ∀ {xs : List D}, (∀ x ∈ xs, deep x ≤ c) → deepL xs ≤ c
  | [], _ => by simp [deepL]
  | x :: r, h => by
    simp only [deepL]
    have := h x (by simp)
    have := deepL_le (xs := r) fun y hy => h y (List.mem_cons_of_mem _ hy)
    omega
/-- lists of a size -/
structure SmL (m h : Nat) (xs : List D) : Prop where
  ok : okL xs
  m : massL xs ≤ m
  h : deepL xs ≤ h
structure Sm (m h : Nat) (d : D) : Prop where
  ok : okD d
  m : mass d ≤ m
  h : deep d ≤ h
section
variable {m m' h h' : Nat} {xs ys : List D} {x : D}
theorem SmL.nil : SmL m h [] := ⟨by simp [okL], by simp [massL], by simp [deepL]⟩
theorem SmL.cons (a : Sm m h x) (b : SmL m' h xs) : SmL (m + m') h (x :: xs) := ⟨by simp only [okL]; exact ⟨a.ok, b.ok⟩, by simp only [massL]; have := a.m; have := b.m; omega, by simp only [deepL]; have := a.h; have := b.h; omega⟩
theorem SmL.one (a : Sm m h x) : SmL m h [x] := (SmL.cons a (SmL.nil (m := 0)))
theorem SmL.app (a : SmL m h xs) (b : SmL m' h ys) : SmL (m + m') h (xs ++ ys) :=
  ⟨okL_iff.mpr fun x hx => (List.mem_append.mp hx).elim (okL_iff.mp a.ok x) (okL_iff.mp b.ok x), by rw [massL_append]; have := a.m; have := b.m; omega, by rw [deepL_append]; have := a.h; have := b.h; omega⟩
theorem SmL.le (a : SmL m h xs) (e1 : m ≤ m') (e2 : h ≤ h') : SmL m' h' xs := ⟨a.ok, Nat.le_trans a.m e1, Nat.le_trans a.h e2⟩
theorem Sm.le (a : Sm m h x) (e1 : m ≤ m') (e2 : h ≤ h') : Sm m' h' x := ⟨a.ok, Nat.le_trans a.m e1, Nat.le_trans a.h e2⟩
theorem SmL.take (n : Nat) (a : SmL m h xs) : SmL m h (xs.take n) := ⟨okL_iff.mpr fun x hx => okL_iff.mp a.ok x (List.mem_of_mem_take hx), Nat.le_trans (massL_take n xs) a.m, Nat.le_trans (deepL_take n xs) a.h⟩
theorem SmL.drop (n : Nat) (a : SmL m h xs) : SmL m h (xs.drop n) := ⟨okL_iff.mpr fun x hx => okL_iff.mp a.ok x (List.mem_of_mem_drop hx), Nat.le_trans (massL_drop n xs) a.m, Nat.le_trans (deepL_drop n xs) a.h⟩
theorem SmL.rev (a : SmL m h xs) : SmL m h xs.reverse := ⟨okL_iff.mpr fun x hx => okL_iff.mp a.ok x (List.mem_reverse.mp hx), by rw [massL_rev]; exact a.m, by rw [deepL_rev]; exact a.h⟩
theorem SmL.rep (n : Nat) (a : SmL m h xs) : SmL (n * m) h (List.replicate n xs).flatten := ⟨okL_iff.mpr fun x hx => by
    obtain ⟨l, hl, hx⟩ := List.mem_flatten.mp hx
    rw [(List.mem_replicate.mp hl).2] at hx
    exact okL_iff.mp a.ok x hx, by rw [massL_rep]; exact Nat.mul_le_mul_left _ a.m, Nat.le_trans (deepL_rep xs n) a.h⟩
theorem SmL.cut (lo hi : Option Int) (a : SmL m h xs) : SmL m h (cutD xs lo hi) := (a.drop _).take _
theorem SmL.mem (a : SmL m h xs) (hx : x ∈ xs) : Sm m h x := ⟨okL_iff.mp a.ok x hx, Nat.le_trans (mass_mem hx) a.m, Nat.le_trans (deep_mem hx) a.h⟩
theorem SmL.tp (a : SmL m h xs) : Sm (1 + m) (h + 1) (.tp xs) := ⟨by simp only [okD]; exact a.ok, by simp only [mass]; have := a.m; omega, by simp only [deep]; have := a.h; omega⟩
theorem SmL.ls (a : SmL m h xs) : Sm (1 + m) (h + 1) (.ls xs) := ⟨by simp only [okD]; exact a.ok, by simp only [mass]; have := a.m; omega, by simp only [deep]; have := a.h; omega⟩
theorem Sm.tpL (a : Sm m (h + 1) (.tp xs)) : SmL m h xs := ⟨by have := a.ok; simpa only [okD] using this, by have := a.m; simp only [mass] at this; omega, by have := a.h; simp only [deep] at this; omega⟩
theorem Sm.lsL (a : Sm m (h + 1) (.ls xs)) : SmL m h xs := ⟨by have := a.ok; simpa only [okD] using this, by have := a.m; simp only [mass] at this; omega, by have := a.h; simp only [deep] at this; omega⟩
theorem SmL.of (n : Nat) (hl : xs.length ≤ n) (a : ∀ x ∈ xs, Sm m h x) : SmL (n * m) h xs := ⟨okL_iff.mpr fun x hx => (a x hx).ok, Nat.le_trans (massL_le fun x hx => (a x hx).m) (Nat.mul_le_mul_right _ hl), deepL_le fun x hx => (a x hx).h⟩
theorem Sm.it {i : Int} (h1 : -(2 ^ 256) < i) (h2 : i < 2 ^ 256) : Sm 1 h (.it i) := ⟨by simp only [okD]; exact ⟨h1, h2⟩, by simp [mass], by simp [deep]⟩
theorem Sm.bl {b : Bool} : Sm 1 h (.bl b) := ⟨by simp only [okD], by simp [mass], by simp [deep]⟩
theorem Sm.non : Sm 1 h .non := ⟨by simp only [okD], by simp [mass], by simp [deep]⟩
theorem Sm.fit (a : Sm m h x) (h1 : m ≤ 50000) (h2 : h ≤ 150) : Fit x := ⟨a.ok, Nat.le_trans a.m h1, Nat.le_trans a.h h2⟩
end
/-- small data that stand in the text: decided -/
def okIntB (i : Int) : Bool := decide (-(2 ^ 256) < i) && decide (i < 2 ^ 256)
def okStrB (s : Str) : Bool := s.cps.toList.all fun c => decide (c < 16 ^ 8)
def okKeyB : Key → Bool | .inl i => okIntB i | .inr s => okStrB s
mutual
def okB : D → Bool
  | .non => true
  | .bl _ => true
  | .it i => okIntB i
  | .st s => okStrB s
  | .tp xs => okBL xs
  | .ls xs => okBL xs
  | .dc kvs => okBK kvs
  | .bx _ _ => false
def okBL : List D → Bool
  | [] => true
  | x :: r => okB x && okBL r
def okBK : List (Key × D) → Bool
  | [] => true
  | (k, v) :: r => okKeyB k && (okB v && okBK r)
end
theorem okIntB_ok {i : Int} (h : okIntB i = true) : okInt i := by
  simp only [okIntB, Bool.and_eq_true, decide_eq_true_eq] at h
  exact h
theorem okStrB_ok {s : Str} (h : okStrB s = true) : okStr s := by
  simp only [okStrB, List.all_eq_true, decide_eq_true_eq] at h
  exact h
theorem okKeyB_ok {k : Key} (h : okKeyB k = true) : okKey k := by
  cases k with
  | inl i => exact okIntB_ok h
  | inr s => exact okStrB_ok h
mutual
theorem okB_ok : ∀ {d : D}, okB d = true → okD d
  | .non, _ => by simp only [okD]
  | .bl _, _ => by simp only [okD]
  | .it i, h => by simp only [okD]; simp only [okB] at h; exact okIntB_ok h
  | .st s, h => by simp only [okD]; simp only [okB] at h; exact okStrB_ok h
  | .tp xs, h => by simp only [okD]; simp only [okB] at h; exact okBL_ok h
  | .ls xs, h => by simp only [okD]; simp only [okB] at h; exact okBL_ok h
  | .dc kvs, h => by simp only [okD]; simp only [okB] at h; exact okBK_ok h
  | .bx _ _, h => by simp only [okB] at h; cases h
theorem okBL_ok : ∀ {xs : List D}, okBL xs = true → okL xs
  | [], _ => by simp only [okL]
  | x :: r, h => by
    simp only [okBL, Bool.and_eq_true] at h
    simp only [okL]; exact ⟨okB_ok h.1, okBL_ok h.2⟩
theorem okBK_ok : ∀ {xs : List (Key × D)}, okBK xs = true → okK xs
  | [], _ => by simp only [okK]
  | (k, v) :: r, h => by
    simp only [okBK, Bool.and_eq_true] at h
    simp only [okK]; exact ⟨okKeyB_ok h.1, okB_ok h.2.1, okBK_ok h.2.2⟩
end
theorem sm_dec {m h : Nat} {d : D} (e : (okB d && decide (mass d ≤ m) && decide (deep d ≤ h)) = true) : Sm m h d := by
  simp only [Bool.and_eq_true, decide_eq_true_eq] at e
  exact ⟨okB_ok e.1.1, e.1.2, e.2⟩
theorem sml_dec {m h : Nat} {d : List D} (e : (okBL d && decide (massL d ≤ m) && decide (deepL d ≤ h)) = true) : SmL m h d := by
  simp only [Bool.and_eq_true, decide_eq_true_eq] at e
  exact ⟨okBL_ok e.1.1, e.1.2, e.2⟩
theorem szl0 : szOk ([] : List D).length := by show 0 ≤ sizeLine; decide
theorem szl1 {a : D} : szOk ([a] : List D).length := by show 1 ≤ sizeLine; decide
theorem szl2 {a b : D} : szOk ([a, b] : List D).length := by show 2 ≤ sizeLine; decide
theorem szl3 {a b c : D} : szOk ([a, b, c] : List D).length := by show 3 ≤ sizeLine; decide
theorem szl4 {a b c d : D} : szOk ([a, b, c, d] : List D).length := by show 4 ≤ sizeLine; decide
theorem szl5 {a b c d e : D} : szOk ([a, b, c, d, e] : List D).length := by show 5 ≤ sizeLine; decide
theorem szl6 {a b c d e f : D} : szOk ([a, b, c, d, e, f] : List D).length := by show 6 ≤ sizeLine; decide
theorem szl7 {a b c d e f g : D} : szOk ([a, b, c, d, e, f, g] : List D).length := by show 7 ≤ sizeLine; decide
theorem szl8 {a b c d e f g h : D} : szOk ([a, b, c, d, e, f, g, h] : List D).length := by show 8 ≤ sizeLine; decide
end Dl

set_option Elab.async false
set_option linter.all false
set_option maxRecDepth 100000
set_option maxHeartbeats 4000000
/-! Dl15: from the law's promise to the row's statement. -/
namespace Dl
open PySem PySem.Spec PyProof.Rows L2

theorem cx_no {P : Program} {w : World} {o : List Env} {H : Hp} {s s' : Shared} {e : Value} (h : L2.CX P w o H s (fun _ _ _ => False) e s') : False := by
  obtain ⟨_, _, _, _, _, _, _, _, _, _, _, _, z⟩ := h
  exact z
theorem ends_call {P : Program} {w : World} {K : PySem.W.Frag} {mg mb : Str → Option Value} {k : Nat} {fa a : Addr} {fd : FuncData} {x : Str} {sp : Sp} {t : Shared} {vs : List Value} {ns : List Int}
    (KX : K.In t.heap) (nm : t.heap.Ns mainGlobals mg) (nb : t.heap.Ns builtinsNs mb) (bb : ∀ y : Str, y ≠ "__name__" → mb y = bootBuiltins y) (lim : t.heap.NoLimit) (sys : ∃ mm, t.heap.Ns sysModules mm) (gn : t.gens = #[])
    (ga : t.heap.get? a = some { cls := .type "list", data := .seq vs.toArray }) (hi : IntsAre vs ns) (hz : ns.length ≤ sizeLine) (hr : Room k callerA)
    (F : ∀ base : Heap, K.In base → base.Ns mainGlobals mg → (∃ o, base.get? sysModules = some o) → HFn P w K mg base k fa fd [x] sp) (bind : ∀ (s : Shared) (u : Value), BindsTo s fd ⟨[u], []⟩ [(x, u)])
    (law : ∀ H : Hp, SqL K H a (ns.map V.int) → sp [.ref a] H (fun v _ => v = .bl true) fun _ _ _ => False) :
    codeAny (model P w) callerA (.call (.ref fa) ⟨[.ref a], []⟩) (fun r s' => r = .ok (.ret (.bool true)) ∧ OldK t.heap s'.heap ∧ s'.os = t.os ∧ AllBare s'.gens) t := by
  have rv : Vals (ns.map V.int) vs := vals_ints hi
  -- H tracks the script or nothing
  have main : ∀ H : Hp, SqL K H a (ns.map V.int) → HOk P w H t.heap → (∀ b u, H b = some u → b = a ∧ ∃ o ys, u = .frz o (.lst ys)) → (∀ u, H a = some u → K.lookup a = none) →
      codeAny (model P w) callerA (.call (.ref fa) ⟨[.ref a], []⟩) (fun r s' => r = .ok (.ret (.bool true)) ∧ OldK t.heap s'.heap ∧ s'.os = t.os ∧ AllBare s'.gens) t := by
    intro H hS hok only noK
    have seen : ∀ {b : Addr} {o : Obj}, t.heap.get? b = some o → H b = none → (hidT t.heap H).get? b = some o := fun {b o} e n => hidT_get e n
    have isDict : ∀ {b : Addr} {o : Obj} {es : Array DictEntry} {ep : Nat}, t.heap.get? b = some o → o.data = .dict es ep → H b = none := fun {b o es ep} e d => none_of_keep fun u hu => by
      obtain ⟨rfl, _⟩ := only b u hu
      rw [ga] at e; cases e
      simp only [reduceCtorEq] at d
    have ns' : ∀ {b : Addr} {m : Str → Option Value}, t.heap.Ns b m → (hidT t.heap H).Ns b m := fun {b m} ⟨o, es, ep, e, d, r⟩ => ⟨o, es, ep, seen e (isDict e d), d, r⟩
    have kb : K.In (hidT t.heap H) := fun b o e => seen (KX b o e) (none_of_keep fun u hu => by
      obtain ⟨rfl, _⟩ := only b u hu
      rw [noK u hu] at e; cases e)
    have md : Mod K mg (hidT t.heap H) := ⟨kb, ns' nm, ⟨mb, ns' nb, bb⟩, by obtain ⟨mc, l1, l2⟩ := lim; exact ⟨mc, ns' l1, l2⟩⟩
    have sy : ∃ o, (hidT t.heap H).get? sysModules = some o := by
      obtain ⟨mm, q⟩ := sys
      obtain ⟨o, _, _, e, _⟩ := ns' q
      exact ⟨o, e⟩
    have en : Env0 P w K mg (hidT t.heap H) callerA [] t H := ⟨rfl, md, fun b o e => of_hidT e, Nat.le_of_eq (hidT_size _ _), trivial, fun b hb => (by simp [frs] at hb), hok, .of_eq gn⟩
    refine codeAny_mono ((F _ kb (ns' nm) sy).run callerA [] t H ⟨[.ref a], []⟩ [.ref a] [.ref a] _ _ hr rfl en (bind t (.ref a)) (.cons rfl .nil) (law H hS)) fun r s' h => ?_
    match r, h with
    | .error e, h => exact (cx_no h).elim
    | .ok .next, h => exact False.elim h
    | .ok .brk, h => exact False.elim h
    | .ok .cont, h => exact False.elim h
    | .ok (.ret u), h =>
      obtain ⟨v, H', os, bare, un, hok', ru, ev⟩ := h
      have ev' : v = .bl true := ev
      subst ev'
      have eu : u = Value.bool true := ru
      subst eu
      refine ⟨rfl, OldK.of_keep fun b o e => ?_, os, bare⟩
      cases hb : H b with
      | none => exact un.keep b o e hb (by simp [frs]) (by simp)
      | some u =>
        obtain ⟨rfl, ob, ys, rfl⟩ := only b u hb
        have z2 := un.frzs _ ob _ hb
        obtain ⟨p1, _⟩ := hok _ _ hb
        obtain ⟨p2, _⟩ := hok' _ _ z2
        rw [e] at p1; cases p1
        exact p2
  cases hk : K.lookup a with
  | some o =>
    have e := KX a o hk
    rw [ga] at e; cases e
    exact main (fun _ => none) (.inr ⟨_, vs.toArray, _, hk, rfl, rfl, rfl, by rw [List.size_toArray, hi.length]; exact hz, by simpa using rv⟩) (fun b u z => (by cases (show (none : Option HO) = some u from z))) (fun b u z => (by cases (show (none : Option HO) = some u from z))) fun u z => (by cases (show (none : Option HO) = some u from z))
  | none =>
    have at_ : ∀ b u, (fun b => if b = a then some (HO.frz { cls := .type "list", data := .seq vs.toArray } (.lst (ns.map V.int))) else none) b = some u → b = a ∧ u = .frz { cls := .type "list", data := .seq vs.toArray } (.lst (ns.map V.int)) := fun b u z => by
      by_cases hb : b = a
      · simp only [hb, if_true, Option.some.injEq] at z; exact ⟨hb, z.symm⟩
      · simp only [hb, if_false, reduceCtorEq] at z
    refine main (fun b => if b = a then some (.frz { cls := .type "list", data := .seq vs.toArray } (.lst (ns.map V.int))) else none) (.inl (.inr ⟨{ cls := .type "list", data := .seq vs.toArray }, if_pos rfl⟩)) (fun b u z => ?_) (fun b u z => ?_) fun u _ => hk
    · obtain ⟨rfl, rfl⟩ := at_ b u z
      exact ⟨ga, by rw [List.length_map]; exact hz, vs, _, rv, ga⟩
    · obtain ⟨rfl, rfl⟩ := at_ b u z
      exact ⟨rfl, _, _, rfl⟩
/-- the goal that k_head leaves -/
theorem walkD {l : PySem.W.OpenLaw} {n k : Nat} {q : Program} {loose : List Str} {XP : (Str → Option Value) → Heap → Prop} {YP : World → Heap → Prop} {d : DefRec} {K : Params → PySem.W.Frag} {sp : World → Sp} {x : Str}
    (hn : l.most = some n) (hz : n ≤ sizeLine) (hd : d.params.defaults = []) (hr : Room k callerA) (hY : ∀ (w : World) (h : Heap), YP w h → (K w.params).In h) (hq : importsNone q = true)
    (F : ∀ (w : World) (mg : Str → Option Value) (fa : Addr) (h : Heap), (K w.params).In h → h.Ns mainGlobals mg → mg d.name = some (.ref fa) →
      ∃ fd : FuncData, (∀ (s : Shared) (u : Value), BindsTo s fd ⟨[u], []⟩ [(x, u)]) ∧ ∀ base : Heap, (K w.params).In base → base.Ns mainGlobals mg → (∃ o, base.get? sysModules = some o) → HFn l.prog w (K w.params) mg base k fa fd [x] (sp w))
    (law : ∀ (w : World) (H : Hp) (a : Addr) (ns : List Int), ns.length ≤ n → SqL (K w.params) H a (ns.map V.int) → sp w [.ref a] H (fun v _ => v = .bl true) fun _ _ _ => False) :
    PySem.W.WalkO q loose XP YP l.row.toRowW d [] (fun f vs => PySem.call f vs) := by
  refine Att.attach_call hn hd fun w s₀ t mg mb fa o pm cd doc a vs ns G Y ho hd' hcd hmg hobj hints hlen hg => ?_
  obtain ⟨fd, hb, hF⟩ := F w mg fa _ (hY w _ Y) G.T.g hmg
  obtain ⟨mm, h1, _⟩ := (G.T.seer hq).mods
  exact ends_call (hY w _ Y) G.T.g G.T.b G.T.builtins G.T.nolimit ⟨mm, h1⟩ hg hobj hints (Nat.le_trans hlen hz) hr hF hb fun H hS => law w H a ns hlen hS
end Dl

set_option Elab.async false
set_option linter.all false
set_option maxRecDepth 100000
set_option maxHeartbeats 4000000
/-! Dl16: zip of three. -/
namespace Dl
open PySem PySem.Spec PyProof.Rows L2
def zp3Its (xs ys zs : List V) (i : Nat) : List V := [xs.getD i .non, ys.getD i .non, zs.getD i .non]
def iZipB3 (K : PySem.W.Frag) (ta : TA) : TI := fun σ H R => ta σ H fun vs H1 => ∃ a b c xs ys zs k l m, vs = [.ref a, .ref b, .ref c] ∧ SqB k K H1 a xs ∧ SqB l K H1 b ys ∧ SqB m K H1 c zs ∧ R (Itg (fun H => SqB k K H a xs ∧ SqB l K H b ys ∧ SqB m K H c zs) (min (min xs.length ys.length) zs.length) (zp3Its xs ys zs)) H1
theorem pi_zipB3 {X : Cx} {e e2 e3 : Expr} {ta : TA} {p pos tpos : Pos} {elts : List Expr} {kk : Nat} (hg : Gl X "zip") (hm : X.mg "zip" = none) (ha : PA X [e, e2, e3] ta)
    (hs : starEach [e, e2, e3] X.env = (false, eval e X.env) :: starEach [e2, e3] X.env := by rfl) (hpl : (backTo pos (starEach [e2, e3] X.env)).any (·.1) = false := by rfl) :
    PI X (.Tuple elts kk tpos) (.Call (.Name "zip" p) [e, e2, e3] [] pos) (iZipB3 X.K ta) := by
  refine ⟨fun pins s σ H R I h => ?_⟩
  refine Call_ (ld_blt I hg hm PyProof.Rows.boot_zip (PyProof.Rows.callWith_type1 (thn (ha.run pos pins s σ H _ I h) fun us s1 ⟨vs, H1, I1, r1, q1⟩ => ?_) hs hpl))
  obtain ⟨a, b, d, xs, ys, zs, k, l, o, ex, hqx, hqy, hqz, q⟩ := q1
  subst ex
  cases r1 with
  | cons r rr =>
    cases rr with
    | cons r' rr =>
     cases rr with
     | cons r'' rr =>
      cases rr
      cases r
      cases r'
      cases r''
      have src1 := sq_src I1 hqx
      have src2 := sq_src I1 hqy
      have src3 := sq_src I1 hqz
      have la : a < s1.heap.objs.size := let ⟨_, _, z⟩ := src1; sq_lt z
      have lb : b < s1.heap.objs.size := let ⟨_, _, z⟩ := src2; sq_lt z
      have ld : d < s1.heap.objs.size := let ⟨_, _, z⟩ := src3; sq_lt z
      refine zip_begins3 (begins_s k a xs) (begins_s l b ys) (begins_s o d zs) src1 src2 src3 fun h' hz hTI hTO h1 h2 h3 hsz hk => wpAny_pyIter_zip hz ?_
      have I2 : Inv X pins σ H1 { s1 with heap := h' } := I1.kept (t' := s1.toks) hk
      generalize hN : s1.heap.objs.size = N at *
      have sep : ZipSep3 (N + 5) (N + 3) (N + 4) N (N + 1) (N + 2) [N, a] [N + 1, b] [N + 2, d] := zip_sep3 (fun c hc => by rw [List.mem_singleton.mp hc]; exact la) (fun c hc => by rw [List.mem_singleton.mp hc]; exact lb) (fun c hc => by rw [List.mem_singleton.mp hc]; exact ld)
      have tu : Turn X.prog X.w X.K (.Tuple elts kk tpos) (Itg (fun H => SqB k X.K H a xs ∧ SqB l X.K H b ys ∧ SqB o X.K H d zs) (min (min xs.length ys.length) zs.length) (zp3Its xs ys zs)) [N + 5, N + 3, N + 4, N, N + 1, N + 2] (N + 5)
          (fun i h => IsZip h (N + 5) (N + 3) (N + 4) .none ∧ IsTupOf3 h (N + 3) (.ref N) (.ref (N + 1)) (.ref (N + 2)) ∧ (∃ a1 a2 a3, IsTupOf3 h (N + 4) a1 a2 a3) ∧ ItIs k h N a i ∧ ItIs l h (N + 1) b i ∧ ItIs o h (N + 2) d i) := by
        refine turn_g (wr := [N + 5, N + 4, N, N + 1, N + 2]) (sp := [a, b, d]) (Src := fun h => (∃ us, Vals xs us ∧ SqIs k h a us.toArray) ∧ (∃ us, Vals ys us ∧ SqIs l h b us.toArray) ∧ ∃ us, Vals zs us ∧ SqIs o h d us.toArray) (by simp) (fun c hc => ?_) (fun i _ => by show 3 ≤ sizeLine; decide) (fun i h st c hc => ?_) (fun i h h' st kp => ?_)
          (fun Y e1 e2 e3 pins s σ H J hsrc => by rw [← e3] at hsrc; exact ⟨sq_src J hsrc.1, sq_src J hsrc.2.1, sq_src J hsrc.2.2⟩) (fun A i s Q E st hQ => wpAny_pyIter_zip st.1 hQ) (fun A hh => ?_)
        · have e' : c = N + 5 ∨ c = N + 4 ∨ c = N ∨ c = N + 1 ∨ c = N + 2 := by simpa using hc
          rcases e' with z | z | z | z | z <;> (rw [z]; simp)
        · obtain ⟨s1, s2, ⟨x1, x2, x3, s3⟩, s4, s5, s6⟩ := st
          have e' : c = N + 5 ∨ c = N + 3 ∨ c = N + 4 ∨ c = N ∨ c = N + 1 ∨ c = N + 2 := by simpa using hc
          rcases e' with z | z | z | z | z | z
          · rw [z]; exact ⟨_, s1, fun v q => nomatch q⟩
          · rw [z]; exact ⟨_, s2, fun v q => nomatch q⟩
          · rw [z]; exact ⟨_, s3, fun v q => nomatch q⟩
          · rw [z]; exact itIs_obj s4
          · rw [z]; exact itIs_obj s5
          · rw [z]; exact itIs_obj s6
        · obtain ⟨s1, s2, ⟨x1, x2, x3, s3⟩, s4, s5, s6⟩ := st
          exact ⟨kp _ (by simp) _ s1, kp _ (by simp) _ s2, ⟨x1, x2, x3, kp _ (by simp) _ s3⟩, itIs_keep s4 fun o z => kp _ (by simp) o z, itIs_keep s5 fun o z => kp _ (by simp) o z, itIs_keep s6 fun o z => kp _ (by simp) o z⟩
        · have G := GoesN.zip3 (prog := X.prog) (w := X.w) (A := A) (elts := elts) (x1 := kk) (pos := tpos) sep (draws_s (prog := X.prog) (w := X.w) (A := A.in1) hh k N a (Nat.ne_of_lt la) xs) (draws_s (prog := X.prog) (w := X.w) (A := A.in1) hh l (N + 1) b (Nat.ne_of_lt (Nat.lt_succ_of_lt lb)) ys) (draws_s (prog := X.prog) (w := X.w) (A := A.in1) hh o (N + 2) d (Nat.ne_of_lt (Nat.lt_of_lt_of_le ld (Nat.le_add_right _ _))) zs)
          refine ⟨fun c hc => List.mem_append_left _ ?_, fun i h h' st kp => ?_, fun i s Q E hi st hQ => ?_, fun s Q E st hQ => ?_, fun i s Q E st hQ => G.self i s Q E ⟨st.1.1, st.1.2.1, st.1.2.2.1, ⟨st.1.2.2.2.1, st.2.1⟩, ⟨st.1.2.2.2.2.1, st.2.2.1⟩, st.1.2.2.2.2.2, st.2.2.2⟩ hQ⟩
          · have e' : c = N + 5 ∨ c = N + 4 ∨ c = N ∨ c = N + 1 ∨ c = N + 2 := by simpa using hc
            rcases e' with z | z | z | z | z <;> (rw [z]; simp)
          · have z := G.frame i h h' ⟨st.1.1, st.1.2.1, st.1.2.2.1, ⟨st.1.2.2.2.1, st.2.1⟩, ⟨st.1.2.2.2.2.1, st.2.2.1⟩, st.1.2.2.2.2.2, st.2.2.2⟩ fun c hc => kp c (by
              simp only [List.mem_cons, List.mem_append, List.not_mem_nil, or_false] at hc ⊢
              rcases hc with z | z | z | ((z | z) | (z | z)) | (z | z) <;> simp [z])
            exact ⟨⟨z.1, z.2.1, z.2.2.1, z.2.2.2.1.1, z.2.2.2.2.1.1, z.2.2.2.2.2.1⟩, z.2.2.2.1.2, z.2.2.2.2.1.2, z.2.2.2.2.2.2⟩
          · refine G.goes i s Q E hi ⟨st.1.1, st.1.2.1, st.1.2.2.1, ⟨st.1.2.2.2.1, st.2.1⟩, ⟨st.1.2.2.2.2.1, st.2.2.1⟩, st.1.2.2.2.2.2, st.2.2.2⟩ fun v h' tk hY z hk htk => hQ v h' tk ?_ ⟨⟨z.1, z.2.1, z.2.2.1, z.2.2.2.1.1, z.2.2.2.2.1.1, z.2.2.2.2.2.1⟩, z.2.2.2.1.2, z.2.2.2.2.1.2, z.2.2.2.2.2.2⟩ hk htk
            obtain ⟨T, x, y, u, ev, hT, ⟨x', hx, rx⟩, ⟨y', hy, ry⟩, ⟨u', hu, ru⟩, hTup⟩ := hY
            refine ⟨T, [x, y, u], ev, hT, ?_, hTup⟩
            unfold zp3Its
            rw [getD_of hx, getD_of hy, getD_of hu]
            exact .cons rx (.cons ry (.cons ru .nil))
          · exact G.stops s Q E ⟨st.1.1, st.1.2.1, st.1.2.2.1, ⟨st.1.2.2.2.1, st.2.1⟩, ⟨st.1.2.2.2.2.1, st.2.2.1⟩, st.1.2.2.2.2.2, st.2.2.2⟩ hQ
      refine ⟨N + 5, [N + 5, N + 3, N + 4, N, N + 1, N + 2], _, _, H1, rfl, I2, tu, ⟨hz, hTI, ⟨_, _, _, hTO⟩, itIs_new h1, itIs_new h2, itIs_new h3⟩, fun c hc => ?_, q⟩
      have e' : c = N + 5 ∨ c = N + 3 ∨ c = N + 4 ∨ c = N ∨ c = N + 1 ∨ c = N + 2 := by simpa using hc
      have hle : s1.heap.objs.size ≤ c := by
        rw [hN]
        rcases e' with z | z | z | z | z | z <;> (rw [z]; first | exact Nat.le_add_right _ _ | exact Nat.le_refl _)
      exact I1.fpOk hle (I1.hok.fresh hle)
def zp3D : List D → List D → List D → List D
  | x :: xs, y :: ys, z :: zs => .tp [x, y, z] :: zp3D xs ys zs
  | _, _, _ => []
theorem zp3D_get : ∀ {xs ys zs : List D} {i : Nat} {d : D}, (zp3D xs ys zs)[i]? = some d → ∃ x y z, xs[i]? = some x ∧ ys[i]? = some y ∧ zs[i]? = some z ∧ d = .tp [x, y, z]
  | [], _, _, _, _, h => by simp [zp3D] at h
  | _ :: _, [], _, _, _, h => by simp [zp3D] at h
  | _ :: _, _ :: _, [], _, _, h => by simp [zp3D] at h
  | x :: xs, y :: ys, z :: zs, 0, d, h => by simp [zp3D] at h; exact ⟨x, y, z, rfl, rfl, rfl, h.symm⟩
  | x :: xs, y :: ys, z :: zs, i + 1, d, h => by simp [zp3D] at h; simpa using zp3D_get h
theorem zp3D_len : ∀ xs ys zs : List D, (zp3D xs ys zs).length = min (min xs.length ys.length) zs.length
  | [], _, _ => by simp [zp3D]
  | _ :: _, [], _ => by simp [zp3D]
  | _ :: _, _ :: _, [] => by simp [zp3D]
  | x :: xs, y :: ys, z :: zs => by simp only [zp3D, List.length_cons, zp3D_len xs ys zs]; omega
def dZip3 (u : DA_) : DI_ := fun env R E => u env (fun zs => match zs with | [x, y, z] => (match sqD x, sqD y, sqD z with | some (_, xs), some (_, ys), some (_, zs) => R (zp3D xs ys zs) | _, _, _ => False) | _ => False) E
section
variable {X : Cx} {E : XK} {a b c : Expr}
theorem di_zip3 {u : DA_} {p pos tpos : Pos} {elts : List Expr} {kk : Nat} (hg : Gl X "zip") (hm : X.mg "zip" = none) (ha : DA X E [a, b, c] u)
    (hs : starEach [a, b, c] X.env = (false, eval a X.env) :: starEach [b, c] X.env := by rfl) (hpl : (backTo pos (starEach [b, c] X.env)).any (·.1) = false := by rfl) : DI X E (.Tuple elts kk tpos) (.Call (.Name "zip" p) [a, b, c] [] pos) (dZip3 u) := by
  obtain ⟨t, p, q⟩ := ha.run
  refine ⟨_, pi_zipB3 hg hm p hs hpl, fun Z S H σ env R Rd Ed g r l h k => ?_⟩
  refine q Z S H σ env _ _ Ed g r l h fun vs H1 S1 zs s1 g1 r1 h1 => ?_
  split at h1
  · next x y w =>
    split at h1
    · next k1 xs k2 ys k3 ws e1 e2 e3 =>
      cases r1 with
      | cons r1 r2 =>
        cases r2 with
        | cons r2 r3 =>
         cases r3 with
         | cons r3 r4 =>
          cases r4
          obtain ⟨a1, vs1, rfl, rr1, q1⟩ := sqD_rp (K := X.K) (H := H1) e1 r1
          obtain ⟨a2, vs2, rfl, rr2, q2⟩ := sqD_rp (K := X.K) (H := H1) e2 r2
          obtain ⟨a3, vs3, rfl, rr3, q3⟩ := sqD_rp (K := X.K) (H := H1) e3 r3
          refine ⟨a1, a2, a3, vs1, vs2, vs3, k1, k2, k3, rfl, q1 S1 H1 (.refl _ _) g1, q2 S1 H1 (.refl _ _) g1, q3 S1 H1 (.refl _ _) g1, k _ H1 S1 _ s1 g1 ?_ h1⟩
          intro S H le g i
          refine ⟨fun d hd => ?_, fun hi => ⟨by rw [hi, zp3D_len, rr1.length, rr2.length, rr3.length], q1 S H le g, q2 S H le g, q3 S H le g⟩⟩
          obtain ⟨x, y, w, hx, hy, hw, rfl⟩ := zp3D_get hd
          obtain ⟨v, h1, h2⟩ := rr1.getD hx
          obtain ⟨w1, h3, h4⟩ := rr2.getD hy
          obtain ⟨w2, h5, h6⟩ := rr3.getD hw
          have l1 := (List.getElem?_eq_some_iff.mp h1).1
          have l2 := (List.getElem?_eq_some_iff.mp h3).1
          have l3 := (List.getElem?_eq_some_iff.mp h5).1
          refine ⟨⟨by omega, q1 S H le g, q2 S H le g, q3 S H le g⟩, fun v' H2 hy => ?_⟩
          obtain ⟨T, rfl, hT, rfl⟩ := hy
          obtain ⟨st, g2⟩ := step_new g (o := .tup (zp3Its vs1 vs2 vs3 i)) hT
          refine ⟨_, st, g2, .tp (by show upd S.F T _ T = _; exact upd_same) ?_⟩
          have q : RpL S.bx (upd S.F T (.tup (zp3Its vs1 vs2 vs3 i))) [v, w1, w2] [x, y, w] := .cons ((h2.le le).le st.le) (.cons ((h4.le le).le st.le) (.cons ((h6.le le).le st.le) .nil))
          have e : zp3Its vs1 vs2 vs3 i = [v, w1, w2] := by unfold zp3Its; rw [getD_of h1, getD_of h3, getD_of h5]
          exact Eq.mpr (congrArg (fun z => RpL S.bx (upd S.F T (.tup (zp3Its vs1 vs2 vs3 i))) z [x, y, w]) e) q
    · exact h1.elim
  · exact h1.elim
end
end Dl

set_option Elab.async false
set_option linter.all false
set_option maxRecDepth 100000
set_option maxHeartbeats 4000000
/-! Dl17: extend, pop, index, remove; str of an int; list(range); sorted of ints; what is never reached. -/
namespace Dl
open PySem PySem.Spec PyProof.Rows L2
section
variable {X : Cx} {E : XK} {k : Nat} {pos : Pos}
/-! ### never reached -/
def dDead : DS_ := fun _ _ => False
theorem ds_dead {st : Stmt} : DS X E st dDead := ⟨fun _ _ _ => False, ⟨fun _ _ _ _ _ _ h => h.elim⟩, fun _ _ _ _ _ _ _ _ _ _ h => h.elim⟩
def dDeadE : DT_ := fun _ _ _ => False
theorem de_dead {e : Expr} : DE X E e dDeadE := ⟨fun _ _ _ => False, ⟨fun _ _ _ _ _ _ h => h.elim⟩, fun _ _ _ _ _ _ _ _ _ _ _ h _ => h.elim⟩
/-! ### extend -/
def dExt (i : Nat) (de : DT_) : DS_ := fun De env => match env[i]? with
  | some (.own xs) => de env (fun y => match y with | .ls ys => szOk (xs.length + ys.length) ∧ De.nx (env.set i (.own (xs ++ ys))) | _ => False) De.ex
  | _ => False
theorem ds_extend (i : Nat) {x : Str} {e : Expr} {de : DT_} {p1 p2 p3 : Pos} (he : DE X E e de) (hN : X.N[i]? = some x := by rfl) (hv : Vis X.env.scope x := by first | exact Or.inl rfl | exact Or.inr (Or.inl rfl) | exact Or.inr (Or.inr rfl)) (hd : (x == ("__debug__" : Str)) = false := by decide)
    (hcd : (x == ("__classdict__" : Str)) = false := by decide) (hb : attributeBase (.Name x p1) "extend" X.env (eval (.Name x p1) X.env) = eval (.Name x p1) X.env := by rfl)
    (hs : starEach [e] X.env = (false, eval e X.env) :: starEach [] X.env := by rfl) (hsw : swapsWith (.Call (.Attribute (.Name x p1) "extend" p2) [e] [] p3) none pos.line X.env = pure false := by rfl)
    (hfew : (((backTo p3 (starEach [e] X.env)).all (!·.1) && (backToKw p3 (keywordEach [] X.env)).all (·.1.isSome)) && decide (([e] : List Expr).length + ([] : List Keyword).length + (if ([] : List Keyword).isEmpty then 0 else 1) < 30)) = true := by rfl)
    (hline : (p2.endLine == p3.line) = true := by rfl) :
    DS X E (.Expr (.Call (.Attribute (.Name x p1) "extend" p2) [e] [] p3) pos) (dExt i de) := by
  obtain ⟨t, p, q⟩ := he.run
  refine ⟨_, ps_expr (pe_bm PySem.F.plainAttrs_list PySem.F.slot_list_extend PySem.F.type_list_extend mt_extend (pe_var hN hv hd hcd) (pa_cons p pa_nil hs) hb hfew hline hs rfl) hsw, fun B De Dn l S σ env H a r h => ?_⟩
  unfold dExt at h
  split at h
  · next xs ei =>
    obtain ⟨b, vs, e1, e2, e3, e4, e5, e6⟩ := r.at_ i _ ei
    refine ⟨_, e1, .inl ⟨rfl, _, SqL.of e2⟩, ?_⟩
    refine q _ S H σ env _ _ _ a.g r (l.xl a) h fun v H1 S1 y s1 g1 r1 h1 => ?_
    split at h1
    · next ys =>
      cases r1 with
      | ls ey ry =>
      have r' := r.step s1
      obtain ⟨b', vs', q1, q2, q3, q4, q5, q6⟩ := r'.at_ i _ ei
      rw [e1] at q1; cases q1
      refine ⟨b, _, vs', _, rfl, rfl, q2, g1.fz _ _ ey, by rw [q6.length, ry.length]; exact h1.1, ?_⟩
      have a1 := a.step s1 g1
      refine l.nx S1 σ _ _ ⟨good_mut g1 q3 q4, ⟨a1.p.ext, a1.p.new, a1.p.box, fun c o ec hc => ?_⟩, a1.f⟩ (r'.mut ei e1 (q6.app ry)) h1.2
      rw [upd_ne (ne_of_none ec q5)]; exact a1.p.keep c o ec hc
    · exact h1.elim
  · exact h.elim
theorem ints_rp {t : Option Bx} {F : Hp} : ∀ {vs : List V} {ns : List Int}, RpL t F vs (ns.map D.it) → vs = ns.map V.int
  | _, [], h => by cases h; rfl
  | _, n :: r, h => by
    cases h with
    | cons h1 h2 => cases h1; rw [ints_rp h2]; rfl
/-! ### index of an int -/
def dIndex (da db : DT_) : DT_ := fun env Q E => da env (fun x => match x with
  | .ls xs => db env (fun y => match y with | .it v => ∃ ns j, intsD xs = some ns ∧ ns[j]? = some v ∧ (∀ m, m < j → ns[m]? ≠ some v) ∧ Q (.it ((j : Nat) : Int)) | _ => False) E
  | _ => False) E
theorem de_index {o e : Expr} {da db : DT_} {p2 p3 : Pos} (ha : DE X E o da) (he : DE X E e db) (hb : attributeBase o "index" X.env (eval o X.env) = eval o X.env := by rfl)
    (hs : starEach [e] X.env = (false, eval e X.env) :: starEach [] X.env := by rfl)
    (hfew : (((backTo p3 (starEach [e] X.env)).all (!·.1) && (backToKw p3 (keywordEach [] X.env)).all (·.1.isSome)) && decide (([e] : List Expr).length + ([] : List Keyword).length + (if ([] : List Keyword).isEmpty then 0 else 1) < 30)) = true := by rfl)
    (hline : (p2.endLine == p3.line) = true := by rfl) : DE X E (.Call (.Attribute o "index" p2) [e] [] p3) (dIndex da db) := by
  obtain ⟨ta, pa, qa⟩ := ha.run
  obtain ⟨t, p, q⟩ := he.run
  refine ⟨_, pe_bm PySem.F.plainAttrs_list PySem.F.slot_list_index PySem.F.type_list_index mt_index pa (pa_cons p pa_nil hs) hb hfew hline hs rfl, fun Z S H σ env Q Qd Ed g r l h k => ?_⟩
  refine qa Z S H σ env _ _ Ed g r l h fun x H1 S1 dx s1 g1 r1 h1 => ?_
  split at h1
  · next xs =>
    cases r1 with
    | ls ea rr =>
    next a vs =>
    refine ⟨.inl ⟨rfl, _, SqL.of (g1.fz _ _ ea)⟩, ?_⟩
    refine q Z S1 H1 σ env _ _ Ed g1 (r.step s1) (l.step s1 g1) h1 fun y H2 S2 dy s2 g2 r2 h2 => ?_
    split at h2
    · next v =>
      obtain ⟨ns, j, e1, e2, e3, e4⟩ := h2
      have ex := intsD_eq e1
      subst ex
      have hv := ints_rp rr
      subst hv
      cases r2
      refine ⟨a, ns.map V.int, .int v, j, .int v, rfl, rfl, SqL.of (g2.fz _ _ (s2.ext _ _ ea)), rfl, ?_, by rw [List.getElem?_map, e2]; rfl, by show (v == v) = true; exact beq_self_eq_true v, fun m z' hm hz => ?_, ?_⟩
      · rw [List.all_eq_true]; intro z hz; obtain ⟨n, _, rfl⟩ := List.mem_map.mp hz; rfl
      · rw [List.getElem?_map] at hz
        cases en : ns[m]? with
        | none => rw [en] at hz; cases hz
        | some n =>
          rw [en] at hz; cases hz
          have := e3 m hm
          rw [en] at this
          show (n == v) = false
          exact beq_eq_false_iff_ne.mpr fun z => this (by rw [z])
      · exact ((k.step s1 g1).step s2 g2).now g2 (.it _) e4
    · exact h2.elim
  · exact h1.elim
/-! ### str of an int -/
def oStr (xs : List D) (Q : DK) : Prop := match xs with | [.it i] => i.natAbs.log2 < 1920 ∧ Q (.st (toString i)) | _ => False
theorem od_str (S : Sta) : CallD S (fun xs H Q => ∃ i, xs = [.int i] ∧ i.natAbs.log2 < 1920 ∧ Q (.str (toString i)) H) oStr := fun H vs ds Q Qd g r h k => by
  unfold oStr at h
  split at h
  · cases r with
    | cons r1 r2 =>
      cases r1; cases r2
      exact ⟨_, rfl, h.1, k.now g (.st _) h.2⟩
  · exact h.elim
theorem boot_str : bootBuiltins "str" = some (.type "str") := by decide +kernel
theorem de_str1 {u : DA_} {e : Expr} {p : Pos} (hg : Gl X "str") (hm : X.mg "str" = none) (ha : DA X E [e] u) (he : starEach [e] X.env = (false, eval e X.env) :: starEach [] X.env := by rfl) : DE X E (.Call (.Name "str" p) [e] [] pos) (dCB oStr u) :=
  de_callTy call_str_int od_str hg hm boot_str ha (by decide) (by decide) he rfl
/-! ### list(range) -/
def dRngN1 (da : DT_) : DN_ := fun env Q E => da env (fun x => match x with | .it j => (0 ≤ j ∧ j ≤ 16777216) ∧ Q (rgD 0 j.toNat) | _ => False) E
theorem rg_rp {t : Option Bx} {F : Hp} (a : Int) (n : Nat) : RpL t F ((List.range n).map fun i => V.int (a + (i : Nat))) (rgD a n) := by
  unfold rgD
  generalize List.range n = l
  induction l with
  | nil => exact .nil
  | cons i r ih => exact .cons (.it _) ih
theorem dn_rng1 {a : Expr} {da : DT_} {p p2 pos2 : Pos} (hc : X.calm = true) (hg : Gl X "list") (hm : X.mg "list" = none) (hg2 : Gl X "range") (hm2 : X.mg "range" = none) (ha : DE X E a da)
    (na : starEach [a] X.env = (false, eval a X.env) :: starEach [] X.env := by rfl) (na2 : starEach [.Call (.Name "range" p2) [a] [] pos2] X.env = (false, eval (.Call (.Name "range" p2) [a] [] pos2) X.env) :: starEach [] X.env := by rfl) :
    DN X E (.Call (.Name "list" p) [.Call (.Name "range" p2) [a] [] pos2] [] pos) (dRngN1 da) := by
  obtain ⟨t, pa, q⟩ := ha.run
  refine ⟨_, pe_listRg hc hg hm (prg_1 hg2 hm2 pa na) na2, fun Z S H σ env Q Qd Ed g r l h k => ?_⟩
  refine q Z S H σ env _ _ Ed g r l h fun v H1 S1 x s1 g1 r1 h1 => ?_
  split at h1
  · next j =>
    cases r1
    refine ⟨_, rfl, RgOk.of_le (Int.le_refl _) h1.1.2 (by omega) h1.1.1, fun p hp => ?_⟩
    obtain ⟨a1, a2, a3, a4, a5⟩ := own_new s1 g1 hp
    refine k p _ S1 _ (rgD 0 (j - 0).toNat) a1 a2 a3 upd_same a4 a5 (rg_rp 0 _) ?_
    rw [Int.sub_zero]; exact h1.2
  · exact h1.elim
/-! ### sorted of ints -/
def dSortN (da : DT_) : DN_ := fun env Q E => da env (fun y => match y with | .ls ys => ∃ ns, intsD ys = some ns ∧ ∀ ms : List Int, ms.Perm ns → ms.Pairwise (· ≤ ·) → Q (ms.map D.it) | _ => False) E
theorem boot_sorted : bootBuiltins "sorted" = some (.builtin "sorted") := by decide +kernel
theorem dn_sort {a : Expr} {da : DT_} {p : Pos} (hg : Gl X "sorted") (hm : X.mg "sorted" = none) (ha : DE X E a da) (he : starEach [a] X.env = (false, eval a X.env) :: starEach [] X.env := by rfl) : DN X E (.Call (.Name "sorted" p) [a] [] pos) (dSortN da) := by
  obtain ⟨t, pa, q⟩ := ha.run
  refine ⟨_, pe_callB cr_sortedI hg hm boot_sorted (pa_cons pa pa_nil he) (by decide) (by decide) he rfl, fun Z S H σ env Q Qd Ed g r l h k => ?_⟩
  refine q Z S H σ env _ _ Ed g r l h fun v H1 S1 x s1 g1 r1 h1 => ?_
  split at h1
  · next ys =>
    obtain ⟨ns, en, h1⟩ := h1
    have ex := intsD_eq en
    subst ex
    cases r1 with
    | ls ea rr =>
    have hv := ints_rp rr
    subst hv
    refine ⟨_, ns, rfl, SqL.of (g1.fz _ _ ea), fun ms p hperm hpw hp => ?_⟩
    obtain ⟨a1, a2, a3, a4, a5⟩ := own_new s1 g1 hp
    exact k p _ S1 _ _ a1 a2 a3 upd_same a4 a5 (RpL.ints ms) (h1 ms hperm hpw)
  · exact h1.elim
/-! ### pop -/
theorem seqIx {n : Nat} {i : Int} {j : Nat} (h : ixN n i = some j) : seqIndex? i n = some j ∧ j < n := by
  unfold ixN at h
  unfold seqIndex?
  split at h
  · next h0 =>
    split at h
    · next h1 => cases h; refine ⟨?_, by omega⟩; simp only [if_neg (show ¬ i < 0 by omega)]; rw [if_pos (by simp; omega)]
    · cases h
  · next h0 =>
    split at h
    · next h1 => cases h; refine ⟨?_, by omega⟩; simp only [if_pos (show i < 0 by omega)]; rw [if_pos (by simp; omega)]
    · cases h
theorem RpL.erase {t : Option Bx} {F : Hp} : ∀ {vs : List V} {ds : List D} (i : Nat), RpL t F vs ds → RpL t F (vs.eraseIdx i) (ds.eraseIdx i)
  | _, _, _, .nil => .nil
  | _, _, 0, .cons _ s => s
  | _, _, i + 1, .cons q s => .cons q (RpL.erase i s)
/-- x = xs.pop(e) -/
def dSetPop (i j : Nat) (de : DT_) : DS_ := fun De env => match env[j]? with
  | some (.own xs) => de env (fun y => match y with
    | .it k => (-(2 ^ 63) ≤ k ∧ k < 2 ^ 63) ∧ (match ixN xs.length k with | some m => (match xs[m]? with | some v => De.nx ((env.set j (.own (xs.eraseIdx m))).set i (.v v)) | none => False) | none => False)
    | _ => False) De.ex
  | _ => False
theorem ds_setPop (i j : Nat) {x z : Str} {e : Expr} {de : DT_} {p0 p1 p2 p3 : Pos} (he : DE X E e de) (hNd : X.N.Nodup) (hi : X.N[i]? = some z := by rfl) (hz : Loc X.env.scope z := by first | exact Or.inl rfl | exact Or.inr rfl)
    (hN : X.N[j]? = some x := by rfl) (hv : Vis X.env.scope x := by first | exact Or.inl rfl | exact Or.inr (Or.inl rfl) | exact Or.inr (Or.inr rfl)) (hd : (x == ("__debug__" : Str)) = false := by decide)
    (hcd : (x == ("__classdict__" : Str)) = false := by decide) (hb : attributeBase (.Name x p1) "pop" X.env (eval (.Name x p1) X.env) = eval (.Name x p1) X.env := by rfl)
    (hs : starEach [e] X.env = (false, eval e X.env) :: starEach [] X.env := by rfl) (hsw : swapsWith (.Call (.Attribute (.Name x p1) "pop" p2) [e] [] p3) (some (.Name z p0)) pos.line X.env = pure false := by rfl)
    (hfew : (((backTo p3 (starEach [e] X.env)).all (!·.1) && (backToKw p3 (keywordEach [] X.env)).all (·.1.isSome)) && decide (([e] : List Expr).length + ([] : List Keyword).length + (if ([] : List Keyword).isEmpty then 0 else 1) < 30)) = true := by rfl)
    (hline : (p2.endLine == p3.line) = true := by rfl) (hf : X.fn z = true ∨ X.env.scope.names.lookup z = some .local := by first | exact .inl rfl | exact .inr rfl | assumption) :
    DS X E (.Assign [.Name z p0] (.Call (.Attribute (.Name x p1) "pop" p2) [e] [] p3) pos) (dSetPop i j de) := by
  obtain ⟨t, p, q⟩ := he.run
  refine ⟨_, ps_set hNd hi hz (pe_bm PySem.F.plainAttrs_list PySem.F.slot_list_pop PySem.F.type_list_pop mt_popAt (pe_var hN hv hd hcd) (pa_cons p pa_nil hs) hb hfew hline hs rfl) hsw hf, fun B De Dn l S σ env H a r h => ?_⟩
  unfold dSetPop at h
  split at h
  · next xs ej =>
    obtain ⟨b, vs, e1, e2, e3, e4, e5, e6⟩ := r.at_ j _ ej
    refine ⟨_, e1, .inl ⟨rfl, _, SqL.of e2⟩, ?_⟩
    refine q _ S H σ env _ _ _ a.g r (l.xl a) h fun v H1 S1 y s1 g1 r1 h1 => ?_
    split at h1
    · next k =>
      cases r1
      obtain ⟨hk, h1⟩ := h1
      split at h1
      · next m em =>
        split at h1
        · next dv ev =>
          have r' := r.step s1
          obtain ⟨b', vs', q1, q2, q3, q4, q5, q6⟩ := r'.at_ j _ ej
          rw [e1] at q1; cases q1
          obtain ⟨w, hw, rw⟩ := q6.getD ev
          obtain ⟨i1, i2⟩ := seqIx em
          refine ⟨b, vs', k, m, w, rfl, rfl, q2, hk.1, hk.2, by rw [q6.length]; exact i1, hw, ?_⟩
          have a1 := a.step s1 g1
          refine l.nx S1 _ _ _ ⟨good_mut g1 q3 q4, ⟨a1.p.ext, a1.p.new, a1.p.box, fun c o ec hc => ?_⟩, a1.f⟩ ((r'.mut ej e1 (q6.erase m)).put rw) h1
          rw [upd_ne (ne_of_none ec q5)]; exact a1.p.keep c o ec hc
        · exact h1.elim
      · exact h1.elim
    · exact h1.elim
  · exact h.elim
/-- ys.append(xs.pop(e)) -/
def dAppPop (i j : Nat) (de : DT_) : DS_ := fun De env => match env[i]?, env[j]? with
  | some (.own ys), some (.own xs) => de env (fun y => match y with
    | .it k => (i ≠ j ∧ ys.length < sizeLine ∧ -(2 ^ 63) ≤ k ∧ k < 2 ^ 63) ∧ (match ixN xs.length k with | some m => (match xs[m]? with | some v => De.nx ((env.set j (.own (xs.eraseIdx m))).set i (.own (ys ++ [v]))) | none => False) | none => False)
    | _ => False) De.ex
  | _, _ => False
end
end Dl

set_option Elab.async false
set_option linter.all false
set_option maxRecDepth 100000
set_option maxHeartbeats 4000000
/-! Dl18: sum of a tuple of ints. -/
namespace Dl
open PySem PySem.Spec PyProof.Rows L2
section
variable {prog : Program} {w : World} {A : Around} {E : Value → Shared → Prop} {s : Shared} {l : Addr} {its : List Value} {ns : List Int} {Q : Value → Shared → Prop}
theorem sumT_raw (hh : A.handled = none) (hl : s.heap.IsTuple l its.toArray) (hi : IntsAre its ns)
    (h : ∀ h' tk t', (∀ b o, s.heap.get? b = some o → h'.get? b = some o) → Q (.int ns.sum t') { s with heap := h', toks := tk }) : wpAny (model prog w) A (call (.builtin "sum") [.ref l]) Q E s := by
  obtain ⟨xs, e⟩ := hi.allInts.items
  have hn : numsOf (intItems xs).toList = ns := by rw [← e]; exact hi.numsOf
  rw [nums_intItems] at hn
  rw [e] at hl
  have hlt : l < s.heap.objs.size := by obtain ⟨_, e, _⟩ := hl; exact Heap.lt_size e
  refine call_sum_walkG (wpAny_pyIter_tuple hl ?_)
  refine ⟨_, _, _, _, _, _, numAt xs, rfl, Walks.tuple (A := A.in1) hh _ l (Nat.ne_of_lt hlt) (intItems xs), ⟨⟨_, Heap.get?_push_size _ rfl, rfl, rfl⟩, hl.push _⟩, fun b hb => ?_, (fun _ _ => intItems_at), fun h' tk t' hk => ?_⟩
  · show b < (s.heap.push _).objs.size
    rw [Heap.size_push]
    rcases List.mem_cons.mp hb with rfl | hb
    · exact Nat.lt_succ_self _
    · rcases List.mem_cons.mp hb with rfl | hb
      · exact Nat.lt_succ_of_lt hlt
      · cases hb
  · have := h h' tk t' fun b o eb => hk b o (fun hb => by
      rw [List.mem_singleton] at hb
      subst hb
      exact absurd (Heap.lt_size eb) (Nat.lt_irrefl _)) (Heap.get?_push_of_some _ eb)
    have ep : preSum (numAt xs) (intItems xs).size = ns.sum := by
      rw [show (intItems xs).size = xs.size by simp [intItems], preSum_eq, List.take_of_length_le (by simp), hn]
    rw [ep]; exact this
end
section
variable {X : Cx} {E : XK} {pos : Pos}
def rSumT (K : PySem.W.Frag) : List V → Hp → VK → Prop := fun vs H Q => ∃ (a : Addr) (ns : List Int), vs = [V.ref a] ∧ SqT K H a (ns.map V.int) ∧ Q (.int ns.sum) H
theorem cr_sumT (hc : X.calm = true) : CallR X (.builtin "sum") (rSumT X.K) := by
  intro pins s σ H vs us Q I r h
  obtain ⟨a, ns, rfl, hs, q⟩ := h
  obtain ⟨its, rv, hl, _⟩ := I.tuple hs
  rw [Vals.ref1 r]
  exact sumT_raw (I.ok.hd hc) hl rv.ints fun h' tk t' hk => ⟨.int _, H, I.kept hk, ⟨_, rfl⟩, q⟩
theorem cr_sumA (hc : X.calm = true) : CallR X (.builtin "sum") (fun vs H Q => rSum X.K vs H Q ∨ rSumT X.K vs H Q) := by
  intro pins s σ H vs us Q I r h
  rcases h with h | h
  · exact cr_sum hc pins s σ H vs us Q I r h
  · exact cr_sumT hc pins s σ H vs us Q I r h
def oSumA (xs : List D) (Q : DK) : Prop := match xs with | [.tp ys] => ∃ ns, intsD ys = some ns ∧ Q (.it ns.sum) | [.ls ys] => ∃ ns, intsD ys = some ns ∧ Q (.it ns.sum) | _ => False
theorem de_sumA {u : DA_} {e : Expr} {p : Pos} (hc : X.calm = true) (hg : Gl X "sum") (hm : X.mg "sum" = none) (ha : DA X E [e] u) (he : starEach [e] X.env = (false, eval e X.env) :: starEach [] X.env := by rfl) : DE X E (.Call (.Name "sum" p) [e] [] pos) (dCB oSumA u) := by
  refine de_callB (cr_sumA hc) (fun S => ?_) hg hm (by decide +kernel) ha (by decide) (by decide) he rfl
  intro H vs ds Q Qd g r h k
  unfold oSumA at h
  split at h
  · obtain ⟨ns, en, h⟩ := h
    have := intsD_eq en
    subst this
    cases r with
    | cons r1 r2 =>
      cases r2
      cases r1 with
      | tp e rr =>
        have := ints_rp rr
        subst this
        exact .inr ⟨_, ns, rfl, SqT.of (g.fz _ _ e), k.now g (.it _) h⟩
  · obtain ⟨ns, en, h⟩ := h
    have := intsD_eq en
    subst this
    cases r with
    | cons r1 r2 =>
      cases r2
      cases r1 with
      | ls e rr =>
        have := ints_rp rr
        subst this
        exact .inl ⟨_, ns, rfl, SqL.of (g.fz _ _ e), k.now g (.it _) h⟩
  · exact h.elim
end
end Dl

set_option Elab.async false
set_option linter.all false
set_option maxRecDepth 100000
set_option maxHeartbeats 4000000
/-! Dl19: two targets, the second one (or both) a list of one's own. -/
namespace Dl
open PySem PySem.Spec PyProof.Rows L2
section
variable {X : Cx} {E : XK} {k : Nat} {pos : Pos}
theorem new_own {S1 S2 : Sta} {H1 H2 : Hp} {p : Addr} {vs : List V} (s2 : Stp S1 H1 S2 H2) (n1 : H1 p = some (.lst vs)) (n2 : S1.F p = none) (n3 : ¬ InB S1.bx p) : S2.F p = none ∧ ¬ InB S2.bx p ∧ H2 p = some (.lst vs) := by
  refine ⟨none_of_keep fun o e => ?_, fun z => ?_, s2.keep p _ n1 n3⟩
  · rcases s2.new p o e with z | z
    · rw [n2] at z; cases z
    · rw [n1] at z; cases z
  · rcases s2.inB z with z | z
    · exact n3 z
    · rw [n1] at z; cases z
/-- a, b = x, [..] -/
def dParP (i j : Nat) (da : DT_) (dn : DN_) : DS_ := fun De env => da env (fun x => dn env (fun ys => De.nx ((env.set i (.v x)).set j (.own ys))) De.ex) De.ex
theorem ds_parP {i j : Nat} {x y : Str} {a b : Expr} {da : DT_} {dn : DN_} {px py pt : Pos} {kt k2 pt2} (hc : X.calm = true) (hN : X.N.Nodup) (ha : DE X E a da) (hb : DN X E b dn)
    (hw : swappedStores [.Tuple [.Name x px, .Name y py] kt pt] (.Tuple [a, b] k2 pt2) X.env = pure (some [x, y])) (hi : X.N[i]? = some x := by rfl) (hj : X.N[j]? = some y := by rfl) (hij : i ≠ j := by decide)
    (hx : X.env.scope.names.lookup x = some .local := by rfl) (hy : X.env.scope.names.lookup y = some .local := by rfl) (sa : starEach [a, b] X.env = (false, eval a X.env) :: starEach [b] X.env := by rfl) (sb : starEach [b] X.env = (false, eval b X.env) :: starEach [] X.env := by rfl)
    (hs : swapsWithSole [.Tuple [.Name x px, .Name y py] kt pt] (.Tuple [a, b] k2 pt2) pos.line X.env = pure false := by rfl) :
    DS X E (.Assign [.Tuple [.Name x px, .Name y py] kt pt] (.Tuple [a, b] k2 pt2) pos) (dParP i j da dn) := by
  obtain ⟨t1, p1, q1⟩ := ha.run
  obtain ⟨t2, p2, q2⟩ := hb.sem
  refine ⟨_, ps_par hc hN hi hj hij hx hy (pa_cons p1 (pa_cons p2 pa_nil sb) sa) hw hs, fun B De Dn l S σ env H at_ r h => ?_⟩
  refine q1 _ S H σ env _ _ _ at_.g r (l.xl at_) h fun v H1 S1 dx s1 g1 rv h1 => ?_
  have a1 := at_.step s1 g1
  have r1 := r.step s1
  refine q2 _ S1 H1 σ env _ _ _ g1 r1 (l.xl a1) h1 fun p H2 S2 vs ys s2 g2 n0 n1 n2 n3 rr h2 => ?_
  have a2 := a1.step s2 g2
  have rput := (r1.step s2).put (i := i) (rv.le s2.le)
  refine ⟨v, .ref p, rfl, l.nx S2 _ _ H2 a2 (rput.putOwn (a1.p.free a1.g n0) n1 n2 n3 (fun k zs ek ez => ?_) rr) h2⟩
  by_cases hk : k = i
  · subst hk
    have hl : k < env.length := by
      have := (List.getElem?_eq_some_iff.mp ek).1
      rwa [List.length_set] at this
    rw [List.getElem?_set_self hl] at ek; cases ek
  · rw [List.getElem?_set_ne (Ne.symm hk)] at ek ez
    obtain ⟨c, ws, u1, u2, _⟩ := r1.at_ k _ ek
    rw [ez] at u1; cases u1
    rw [n0] at u2; cases u2
/-- a, b = [..], [..] -/
def dParOO (i j : Nat) (dn dm : DN_) : DS_ := fun De env => dn env (fun xs => dm env (fun ys => De.nx ((env.set i (.own xs)).set j (.own ys))) De.ex) De.ex
theorem ds_parOO {i j : Nat} {x y : Str} {a b : Expr} {dn dm : DN_} {px py pt : Pos} {kt k2 pt2} (hc : X.calm = true) (hN : X.N.Nodup) (ha : DN X E a dn) (hb : DN X E b dm)
    (hw : swappedStores [.Tuple [.Name x px, .Name y py] kt pt] (.Tuple [a, b] k2 pt2) X.env = pure (some [x, y])) (hi : X.N[i]? = some x := by rfl) (hj : X.N[j]? = some y := by rfl) (hij : i ≠ j := by decide)
    (hx : X.env.scope.names.lookup x = some .local := by rfl) (hy : X.env.scope.names.lookup y = some .local := by rfl) (sa : starEach [a, b] X.env = (false, eval a X.env) :: starEach [b] X.env := by rfl) (sb : starEach [b] X.env = (false, eval b X.env) :: starEach [] X.env := by rfl)
    (hs : swapsWithSole [.Tuple [.Name x px, .Name y py] kt pt] (.Tuple [a, b] k2 pt2) pos.line X.env = pure false := by rfl) :
    DS X E (.Assign [.Tuple [.Name x px, .Name y py] kt pt] (.Tuple [a, b] k2 pt2) pos) (dParOO i j dn dm) := by
  obtain ⟨t1, p1, q1⟩ := ha.sem
  obtain ⟨t2, p2, q2⟩ := hb.sem
  refine ⟨_, ps_par hc hN hi hj hij hx hy (pa_cons p1 (pa_cons p2 pa_nil sb) sa) hw hs, fun B De Dn l S σ env H at_ r h => ?_⟩
  refine q1 _ S H σ env _ _ _ at_.g r (l.xl at_) h fun p H1 S1 vs xs s1 g1 n0 n1 n2 n3 rr h1 => ?_
  have a1 := at_.step s1 g1
  have r1 := r.step s1
  refine q2 _ S1 H1 σ env _ _ _ g1 r1 (l.xl a1) h1 fun p' H2 S2 vs' ys s2 g2 m0 m1 m2 m3 rr' h2 => ?_
  have a2 := a1.step s2 g2
  obtain ⟨f2, b2, e2⟩ := new_own s2 n1 n2 n3
  have hpp : p ≠ p' := fun z => by rw [z, m0] at n1; cases n1
  have rput := (r1.step s2).putOwn (i := i) (at_.p.free at_.g n0) e2 f2 b2 (fun k zs ek ez => by
    obtain ⟨c, ws, u1, u2, _⟩ := r.at_ k _ ek
    rw [ez] at u1; cases u1
    rw [n0] at u2; cases u2) (rr.le s2.le)
  refine ⟨.ref p, .ref p', rfl, l.nx S2 _ _ H2 a2 (rput.putOwn (a1.p.free a1.g m0) m1 m2 m3 (fun k zs ek ez => ?_) rr') h2⟩
  by_cases hk : k = i
  · subst hk
    have hl : k < σ.length := by
      have := (List.getElem?_eq_some_iff.mp ez).1
      rwa [List.length_set] at this
    rw [List.getElem?_set_self hl] at ez
    cases ez; exact hpp rfl
  · rw [List.getElem?_set_ne (Ne.symm hk)] at ek ez
    obtain ⟨c, ws, u1, u2, _⟩ := r1.at_ k _ ek
    rw [ez] at u1; cases u1
    rw [m0] at u2; cases u2
/-- a, b, c = x, y, z -/
def dPar3 (i j l : Nat) (da : DA_) : DS_ := fun De env => da env (fun xs => match xs with | [x, y, z] => De.nx (((env.set i (.v x)).set j (.v y)).set l (.v z)) | _ => False) De.ex
theorem ds_par3 {i j l : Nat} {x y z : Str} {a b c : Expr} {da : DA_} {px py pz pt : Pos} {kt k2 pt2} (hc : X.calm = true) (hN : X.N.Nodup) (ha : DA X E [a, b, c] da)
    (hw : swappedStores [.Tuple [.Name x px, .Name y py, .Name z pz] kt pt] (.Tuple [a, b, c] k2 pt2) X.env = pure (some [x, y, z])) (hi : X.N[i]? = some x := by rfl) (hj : X.N[j]? = some y := by rfl) (hl : X.N[l]? = some z := by rfl) (hij : i ≠ j := by decide) (hil : i ≠ l := by decide) (hjl : j ≠ l := by decide)
    (hx : X.env.scope.names.lookup x = some .local := by rfl) (hy : X.env.scope.names.lookup y = some .local := by rfl) (hz : X.env.scope.names.lookup z = some .local := by rfl)
    (hs : swapsWithSole [.Tuple [.Name x px, .Name y py, .Name z pz] kt pt] (.Tuple [a, b, c] k2 pt2) pos.line X.env = pure false := by rfl) :
    DS X E (.Assign [.Tuple [.Name x px, .Name y py, .Name z pz] kt pt] (.Tuple [a, b, c] k2 pt2) pos) (dPar3 i j l da) := by
  obtain ⟨t, p, q⟩ := ha.run
  refine ⟨_, ps_par3 hc hN hi hj hl hij hil hjl hx hy hz p hw hs, fun B De Dn l S σ env H a r h => ?_⟩
  refine q _ S H σ env _ _ _ a.g r (l.xl a) h fun vs H1 S1 xs s1 g1 r1 h1 => ?_
  split at h1
  · cases r1 with
    | cons r1 r2 =>
      cases r2 with
      | cons r2 r3 =>
        cases r3 with
        | cons r3 r4 =>
          cases r4
          exact ⟨_, _, _, rfl, l.nx S1 _ _ H1 (a.step s1 g1) ((((r.step s1).put r1).put r2).put r3) h1⟩
  · exact h1.elim
end
end Dl

set_option Elab.async false
set_option linter.all false
set_option maxRecDepth 100000
set_option maxHeartbeats 4000000
namespace Dl
open PySem PySem.Spec PyProof.Rows L2
def top (i : Nat) : Stmt := PySem.Challenge.pw_slipturns_k11_settlements_judged.main.body.getD i (.Pass ⟨0, 0, 0, 0⟩)
abbrev s_is_integer : Stmt := top 1
abbrev s_debt_of : Stmt := top 2
abbrev s_debts : Stmt := top 3
abbrev s_is_payments : Stmt := top 4
abbrev s_parts_of : Stmt := top 5
abbrev s_slips_paid : Stmt := top 6
abbrev s_received : Stmt := top 7
abbrev s_settlement_error : Stmt := top 9
abbrev s_is_settlement : Stmt := top 10
abbrev s__law_drum : Stmt := top 12
abbrev s__law_beat : Stmt := top 13
abbrev s__law_book : Stmt := top 14
abbrev s__law_debts : Stmt := top 15
abbrev s__law_parts : Stmt := top 16
abbrev s__law_got : Stmt := top 17
abbrev s__law_held : Stmt := top 18
abbrev s__law_is_int : Stmt := top 19
abbrev s__law_error : Stmt := top 20
abbrev s__law_every : Stmt := top 21
abbrev s__law_next : Stmt := top 22
abbrev s__law_ring : Stmt := top 23
abbrev s__law_rest : Stmt := top 24
abbrev s__law_more : Stmt := top 25
abbrev s__law_after : Stmt := top 26
abbrev s__law_end : Stmt := top 27
abbrev s__law_rich : Stmt := top 28
abbrev s__law_finish : Stmt := top 29
abbrev s__law_least : Stmt := top 30
abbrev s__law_odd : Stmt := top 31
abbrev s__law_bent : Stmt := top 32
abbrev s__law_some : Stmt := top 33
abbrev s_law : Stmt := top 34
end Dl

set_option Elab.async false
set_option linter.all false
set_option maxRecDepth 100000
set_option maxHeartbeats 4000000
/-! Bxc: what the boxes share. -/
namespace Dl
open PySem PySem.Spec PyProof.Rows L2
theorem inv_bx {t : Option Bx} {F : Hp} {v : V} {k : Bool} {P : Bx → Prop} (r : Rp t F v (.bx k P)) : ∃ x, t = some x ∧ P x ∧ v = .ref x.b := by
  generalize e : D.bx k P = d at r
  cases r with
  | bx h p => cases e; exact ⟨_, h, p, rfl⟩
  | _ => cases e
theorem box_step {S : Sta} {H H' : Hp} {x : Bx} (g : Good S H) (e : S.bx = some x) (off : ∀ a o, H a = some o → a ∉ x.own → H' a = some o) (inv : x.inv H') : Stp S H S H' ∧ Good S H' := by
  refine ⟨⟨fun _ _ h => h, fun _ _ h => .inl h, rfl, fun a o h hb => off a o h fun ha => hb ⟨x, e, ha⟩⟩, ⟨fun a o h => off a o (g.fz a o h) fun ha => ?_, fun y ey => ?_, g.nb⟩⟩
  · have := g.nb a ⟨x, e, ha⟩
    rw [h] at this; cases this
  · rw [e] at ey; cases ey; exact inv
theorem atI_last {α : Type} (xs : List α) (x : α) : atI (xs ++ [x]) (-1) = some x := by
  unfold atI ixN
  have h0 : ¬ ((0 : Int) ≤ -1) := by decide
  rw [if_neg h0, if_pos (by rw [List.length_append]; simp; omega)]
  have e : ((-1 : Int) + ((xs ++ [x]).length : Nat)).toNat = xs.length := by rw [List.length_append]; simp; omega
  simp only [Option.bind_some, e]
  simp
theorem ixN_last (n : Nat) : ixN (n + 1) (-1) = some n := by
  unfold ixN
  have h0 : ¬ ((0 : Int) ≤ -1) := by decide
  rw [if_neg h0, if_pos (by omega)]
  congr 1
  omega
theorem list_last {α : Type} : ∀ xs : List α, xs ≠ [] → ∃ ys y, xs = ys ++ [y] := fun xs h => ⟨xs.dropLast, xs.getLast h, (List.dropLast_concat_getLast h).symm⟩
theorem dp_ints {K : PySem.W.Frag} {H : Hp} : ∀ ns : List Int, DpAll K H (ns.map V.int) (ns.map PyData.int)
  | [] => .nil
  | n :: r => .cons (.int n) (dp_ints r)
theorem lay_ints : ∀ ns : List Int, PyData.canLayAll0 (ns.map PyData.int) = true ∧ PyData.depthAll (ns.map PyData.int) = 0
  | [] => ⟨rfl, rfl⟩
  | n :: r => by
    obtain ⟨h1, h2⟩ := lay_ints r
    refine ⟨?_, ?_⟩
    · rw [List.map_cons]; simp only [PyData.canLayAll0, PyData.canLay0, h1, Bool.and_self]
    · rw [List.map_cons]; simp only [PyData.depthAll, PyData.depth, h2, Nat.max_self]
theorem shaped_ints (ns : List Int) : SeqAt.shaped (.list (ns.map PyData.int)) = true := by
  obtain ⟨h1, h2⟩ := lay_ints ns
  unfold SeqAt.shaped
  simp only [PyData.canLay0, PyData.depth, h1, h2, Bool.true_and, decide_eq_true_eq]
  omega
theorem eqv_nil (ns : List Int) : PyData.eqv (.list (ns.map PyData.int)) (.list []) = decide (ns = []) := by
  cases ns with
  | nil => rfl
  | cons n r => rfl
theorem xl_none {mg : Str → Option Value} {S : Sta} {H : Hp} {E : XK} : XLink mg S H (fun _ => False) E := fun _ _ _ _ _ _ _ _ h => h.elim
def sNone : Sta := ⟨none, fun _ => none⟩
theorem good_none (H : Hp) : Good sNone H := ⟨fun _ _ e => (by have e' : (none : Option HO) = some _ := e; cases e'), fun _ e => (by have e' : (none : Option Bx) = some _ := e; cases e'), fun _ _ => rfl⟩
theorem rel_no {Z : Hp} {S : Sta} {H : Hp} (σ : L2.St) : Rel Z S H σ (List.replicate σ.length Sl.no) where
  len := by rw [List.length_replicate]
  at_ := fun i s e => by
    rw [List.getElem?_replicate] at e
    split at e
    · cases e; trivial
    · cases e
  sep := fun i j xs ys a _ e _ _ => by
    rw [List.getElem?_replicate] at e
    split at e <;> cases e
theorem cut_ints (ns : List Int) (lo hi : Option Int) : ∃ ms : List Int, cutV (ns.map V.int) lo hi = ms.map V.int ∧ ms = (ns.drop (HT.sIx ns.length 0 lo)).take (HT.sIx ns.length ns.length hi - HT.sIx ns.length 0 lo) :=
  ⟨_, by unfold cutV; rw [List.length_map, List.map_take, List.map_drop], rfl⟩
theorem ints_filter (f : D → Option D) (hf : ∀ d y, f d = some y → y = d) : ∀ ns : List Int, ∃ ms : List Int, (ns.map D.it).filterMap f = ms.map D.it ∧ ms.length ≤ ns.length ∧ ∀ m ∈ ms, m ∈ ns
  | [] => ⟨[], rfl, Nat.le_refl _, by simp⟩
  | n :: r => by
    obtain ⟨ms, h1, h2, h3⟩ := ints_filter f hf r
    cases e : f (.it n) with
    | none => exact ⟨ms, by rw [List.map_cons, List.filterMap_cons, e]; exact h1, by simp; omega, fun m hm => List.mem_cons_of_mem _ (h3 m hm)⟩
    | some y =>
      have := hf _ _ e
      subst this
      exact ⟨n :: ms, by rw [List.map_cons, List.filterMap_cons, e, h1]; rfl, by simp; omega, fun m hm => by
        rcases List.mem_cons.mp hm with rfl | hm
        · simp
        · exact List.mem_cons_of_mem _ (h3 m hm)⟩
abbrev lcScope (e : Expr) : Scope := match e with | .ListComp _ _ sc _ => sc | _ => { kind := .function, names := [], isGenerator := false, isCoroutine := false }
section
variable {X : Cx} {elt tg iter : Expr} {ifs : List Expr} {scope : Scope} {own : List (Str × Nat)} {pos : Pos} {vsg : List Nat} {dg : DG_} {tt : DB_} {te : DT_} {wi : TI}
/-- a comprehension over what is no data, as an expression -/
def LcRawE (X : Cx) (e : Expr) (wi : TI) (dg : DG_) (tt : DB_) (te : DT_) (vs : List Nat) : Prop :=
    ∃ t, PE X e t ∧ ∀ (Z : Hp) (S : Sta) (H : Hp) (σ : L2.St) (env : Env') (Q : VK) (Qd : List D → Prop), Good S H → Rel Z S H σ env →
      (∀ R : It → Hp → Prop, (∀ J H' S' xs, Stp S H S' H' → Good S' H' → Wlk S'.bx S'.F J xs → lcD dg tt te (wipeD env vs) (fun _ => False) Qd xs [] → R J H') → wi σ H R) →
      (∀ p H' S' vs xs, Stp S H S' H' → Good S' H' → H p = none → H' p = some (.lst vs) → S'.F p = none → ¬ InB S'.bx p → RpL S'.bx S'.F vs xs → Qd xs → Q (.ref p) H') → t σ H Q
theorem lcE_raw (hc : X.calm = true) (hN : X.N.Nodup) (hi : PI X tg iter wi) (ok : BlkOk X.N X.env.scope scope own) (hv : ∀ i ∈ vsg, i ∈ own.map (·.2)) (hg : ∀ s H C cl fp, DG (BCx X scope s H C cl fp) tg vsg dg)
    (ht : ∀ s H C cl fp, DTs (BCx X scope s H C cl fp) E0 ifs tt) (he : ∀ s H C cl fp, DE (BCx X scope s H C cl fp) E0 elt te) (hs : ∀ x, foldedSetIterable iter X.env x = pure x := by intro _; rfl) :
    LcRawE X (.ListComp elt [⟨tg, iter, ifs, 0⟩] scope pos) wi dg tt te (own.map (·.2)) := by
  obtain ⟨g, pg, sg⟩ := allG hg
  obtain ⟨t1, p1, s1⟩ := allT ht
  obtain ⟨t2, p2, s2⟩ := allE he
  exact ⟨_, pe_lc hc hN hi ok pg p1 p2 hs, fun Z S H σ env Q Qd gd r si k => lc_at (X := X) hv gd r si sg s1 s2 k⟩
end
end Dl

set_option Elab.async false
set_option linter.all false
set_option maxRecDepth 100000
set_option maxHeartbeats 4000000
/-! Bx2: the drum of the laws k11 .. k24: [[large cells], mixed, count]. -/
namespace Dl
open PySem PySem.Spec PyProof.Rows L2
def B2 (b g : Addr) (H : Hp) (gs : List Int) (m t : Int) : Prop := H b = some (.lst [.ref g, .int m, .int t]) ∧ H g = some (.lst (gs.map V.int)) ∧ b ≠ g ∧ gs.length ≤ 100
def b2 (b g : Addr) : Bx where
  b := b
  k := true
  own := [b, g]
  inv := fun H => ∃ gs m t, B2 b g H gs m t
  mem := List.mem_cons_self
  loc := fun H H' e ⟨gs, m, t, h1, h2, h3⟩ => ⟨gs, m, t, by rw [e b (by simp)]; exact h1, by rw [e g (by simp)]; exact h2, h3⟩
  has := fun H ⟨gs, m, t, h1, h2, _⟩ a ha => by
    simp only [List.mem_cons, List.not_mem_nil, or_false] at ha
    rcases ha with rfl | rfl
    · exact ⟨_, h1⟩
    · exact ⟨_, h2⟩
  ty := fun H ⟨gs, m, t, h1, _⟩ => by rw [if_pos rfl]; exact ⟨_, h1⟩
theorem B2.fresh {b g p : Addr} {H : Hp} {gs : List Int} {m t : Int} {o : HO} (h : B2 b g H gs m t) (hp : H p = none) : B2 b g (upd H p o) gs m t :=
  ⟨by rw [upd_ne (ne_of_none h.1 hp)]; exact h.1, by rw [upd_ne (ne_of_none h.2.1 hp)]; exact h.2.1, h.2.2⟩
theorem B2.great {b g : Addr} {H : Hp} {gs : List Int} {m t : Int} (h : B2 b g H gs m t) {gs' : List Int} (h2 : gs'.length ≤ 100) : B2 b g (upd H g (.lst (gs'.map V.int))) gs' m t :=
  ⟨by rw [upd_ne h.2.2.1]; exact h.1, upd_same, h.2.2.1, h2⟩
theorem B2.turn {b g : Addr} {H : Hp} {gs : List Int} {m t : Int} (h : B2 b g H gs m t) (t' : Int) : B2 b g (upd H b (.lst [.ref g, .int m, .int t'])) gs m t' :=
  ⟨upd_same, by rw [upd_ne (Ne.symm h.2.2.1)]; exact h.2.1, h.2.2⟩
def IsB2 (x : Bx) : Prop := ∃ b g, x = b2 b g
abbrev dDrum : D := .bx true IsB2
def spBeat : SpD := fun ds Q _ => ∃ many, ds = [dDrum, .it many] ∧ 0 < many ∧ many < 2 ^ 200 ∧ ∀ r, 0 ≤ r → r < many → Q (.it r)
abbrev N_beat : List Str := ["_law_drum_here", "_law_many", "_law_cell", "_law_mixed"]
section
variable {P : Program} {w : World} {K : PySem.W.Frag} {mg : Str → Option Value} {base : Heap}
theorem sc_beat : FnScope N_beat ["_law_drum_here", "_law_many"] (defScope s__law_beat) := ⟨rfl, rfl, rfl, by decide +kernel, rfl, by decide +kernel, by decide +kernel⟩
theorem g_beat {f : Addr} {fd : FuncData} (F : Fun K "_law_beat" "_law_beat" s__law_beat f fd) : HFn P w K mg base 1 f fd ["_law_drum_here", "_law_many"]
    (fun vs H Q _ => ∃ b g gs m t many, vs = [.ref b, .int many] ∧ B2 b g H gs m t ∧ 0 < many ∧ many < 2 ^ 200 ∧ ∀ H' r gs' m' t', B2 b g H' gs' m' t' → (∀ a o, H a = some o → a ∉ [b, g] → H' a = some o) → 0 ≤ r → r < many → Q (.int r) H') := by
  refine hfn_mk F sc_beat (fun vs H Q E ⟨_, _, _, _, _, _, e, _⟩ => by rw [e]; rfl) fun cdv A outer s0 H vs Q E hr hgd h => ?_
  obtain ⟨b, g, gs, m, t, many, rfl, hB, hm, hm2, k⟩ := h
  have hu := hu_of hr
  have hu2 : (cxD P w K mg base N_beat "_law_beat" (defScope s__law_beat) f cdv A outer s0 H E).A.units + 64 < cLine := hr.units
  refine ⟨_, pss_cons (ps_asg (pe_op op_add (pe_ix ix_list (pv 0) pe_int (fun _ _ => rfl)) pe_int) (pg_sub (pv 0) pe_int set_list))
    (pss_cons (ps_while (passes_of rfl) (pt_cmpR (L2.op_neD hu2) (pe_ix ix_list (pv 0) pe_int (fun _ _ => rfl)) (pe_lst pa_nil) rfl)
      (pss_cons (ps_set (i := 2) sc_beat.nd rfl (Or.inl rfl) (pe_bm PySem.F.plainAttrs_list PySem.F.slot_list_pop PySem.F.type_list_pop mt_popAt (pe_ix ix_list (pv 0) pe_int (fun _ _ => rfl)) (pa_cons pe_int pa_nil)))
        (pss_one (ps_if (pt_cmpR op_gt (pv 2) pe_int (nomark _))
          (pss_cons (ps_expr (pe_bm PySem.F.plainAttrs_list PySem.F.slot_list_append PySem.F.type_list_append mt_append (pe_ix ix_list (pv 0) pe_int (fun _ _ => rfl)) (pa_cons (pe_op op_fdivW (pv 2) (pv 1)) pa_nil)))
            (pss_one (ps_ret (pe_op op_mod (pv 2) (pv 1))))) pss_nil))))
    (pss_cons (ps_set (i := 3) sc_beat.nd rfl (Or.inl rfl) (pe_op op_mod (pe_op op_add (pe_ix ix_list (pv 0) pe_int (fun _ _ => rfl)) (pe_op op_mul pe_int (pe_ix ix_list (pv 0) pe_int (fun _ _ => rfl)))) pe_int))
    (pss_cons (ps_set (i := 3) sc_beat.nd rfl (Or.inl rfl) (pe_op op_mod (pe_op op_mul (pv 3) (pe_op op_add (pe_op op_mod (pv 3) pe_int) pe_int)) pe_int))
    (pss_one (ps_ret (pe_op op_mod (pe_op op_fdivW (pe_op op_mod (pe_op op_add (pe_op op_mul (pv 3) (pv 3)) (pe_op op_mul pe_int (pe_ix ix_list (pv 0) pe_int (fun _ _ => rfl)))) pe_int) pe_int) (pv 1))))))), ?_⟩
  have hlog : many.natAbs.log2 < 9000 := by
    by_cases z : many.natAbs = 0
    · rw [z]; decide
    · have h1 : many.natAbs < 2 ^ 200 := by omega
      exact Nat.lt_of_lt_of_le ((Nat.log2_lt z).mpr h1) (by decide)
  have hd : ∀ i, CDivW i many := fun _ => ⟨hm, hlog⟩
  -- drum[2] = drum[2] + 1
  refine ⟨_, rfl, b, _, 2, _, rfl, rfl, SqL.of hB.1, rfl, t, 1, rfl, rfl, ?_⟩
  refine ⟨_, rfl, b, _, 2, 2, rfl, rfl, hB.1, rfl, ?_⟩
  have hB0 := hB.turn (t + 1)
  have off0 : ∀ a o, H a = some o → a ∉ [b, g] → upd H b (.lst [.ref g, .int m, .int (t + 1)]) a = some o := fun a o h n => by
    rw [upd_ne fun z => n (by rw [z]; simp)]; exact h
  show _
  generalize hH0 : upd H b (.lst [.ref g, .int m, .int (t + 1)]) = H0 at hB0 off0
  have eset : ([V.ref g, .int m, .int t] : List V).set 2 (.int (t + 1)) = [.ref g, .int m, .int (t + 1)] := rfl
  rw [eset, hH0]
  clear hH0
  -- the loop
  refine ⟨fun n σ H' => ∃ gs' c x, n = gs'.length ∧ σ = [some (.ref b), some (.int many), c, x] ∧ B2 b g H' gs' m (t + 1) ∧ ∀ a o, H a = some o → a ∉ [b, g] → H' a = some o,
    ⟨_, gs, none, none, rfl, rfl, hB0, off0⟩, ?_⟩
  rintro n σ H1 ⟨gs1, c, x, rfl, rfl, hB1, off⟩
  refine ⟨_, rfl, b, _, 0, _, rfl, rfl, SqL.of hB1.1, rfl, Nat.zero_le _, fun p hp => ?_⟩
  have hB2 := hB1.fresh (o := .lst []) hp
  have off2 : ∀ a o, H a = some o → a ∉ [b, g] → upd H1 p (.lst []) a = some o := fun a o h n => by
    have := off a o h n
    rw [upd_ne (ne_of_none this hp)]; exact this
  have hp2 : upd H1 p (.lst []) p = some (.lst []) := upd_same
  generalize upd H1 p (.lst []) = H2 at hB2 off2 hp2
  refine ⟨.list (gs1.map PyData.int), .list [], .lst (SqL.of hB2.2.1) (dp_ints gs1), ?_, shaped_ints gs1, rfl, _, rfl, ?_⟩
  · exact .lst (SqL.of hp2) .nil
  rw [eqv_nil]
  cases gs1 with
  | nil =>
    show if (!decide (([] : List Int) = [])) = true then _ else _
    rw [if_neg (by simp)]
    refine ⟨_, rfl, b, _, 1, _, rfl, rfl, SqL.of hB2.1, rfl, ?_⟩
    refine ⟨_, rfl, b, _, 2, _, rfl, rfl, SqL.of hB2.1, rfl, 2246822519, t + 1, rfl, rfl, .inl (by decide), m, _, rfl, rfl, _, 4294967291, rfl, rfl, (by show (0 : Int) < 4294967291; decide), ?_⟩
    have hx : ∀ z : Int, 0 ≤ z % 4294967291 ∧ z % 4294967291 < 4294967291 := fun z => ⟨Int.emod_nonneg _ (by decide), Int.emod_lt_of_pos _ (by decide)⟩
    obtain ⟨m1, em1⟩ : ∃ m1, (m + 2246822519 * (t + 1)) % 4294967291 = m1 := ⟨_, rfl⟩
    have h1 := hx (m + 2246822519 * (t + 1))
    rw [em1] at h1
    refine ⟨_, rfl, _, rfl, m1, 65521, congrArg V.int em1, rfl, (by show (0 : Int) < 65521; decide), _, 11, rfl, rfl, m1, _, congrArg V.int em1, rfl, .inl ⟨by omega, by omega⟩, _, 4294967279, rfl, rfl, (by show (0 : Int) < 4294967279; decide), ?_⟩
    obtain ⟨m2, em2⟩ : ∃ m2, m1 * (m1 % 65521 + 11) % 4294967279 = m2 := ⟨_, rfl⟩
    have h2 : 0 ≤ m2 ∧ m2 < 4294967279 := by rw [← em2]; exact ⟨Int.emod_nonneg _ (by decide), Int.emod_lt_of_pos _ (by decide)⟩
    refine ⟨_, rfl, _, rfl, m2, m2, congrArg V.int em2, congrArg V.int em2, .inl ⟨by omega, by omega⟩, _, rfl, b, _, 2, _, rfl, rfl, SqL.of hB2.1, rfl, 374761393, t + 1, rfl, rfl, .inl (by decide), _, _, rfl, rfl, _, 4294967231, rfl, rfl, (by show (0 : Int) < 4294967231; decide), _, 16, rfl, rfl, ⟨by decide, by decide +kernel⟩, _, rfl, _, many, rfl, rfl, hm, ?_⟩
    exact k H2 _ [] m (t + 1) hB2 off2 (Int.emod_nonneg _ (by omega)) (Int.emod_lt_of_pos _ hm)
  | cons y ys =>
    show if (!decide (y :: ys = [])) = true then _ else _
    rw [if_pos (by simp)]
    have hlen : ys.length + 1 ≤ 100 := by have := hB2.2.2.2; simpa using this
    refine ⟨fun σ' H' => ∃ gs' c x, gs'.length < (y :: ys).length ∧ σ' = [some (.ref b), some (.int many), c, x] ∧ B2 b g H' gs' m (t + 1) ∧ ∀ a o, H a = some o → a ∉ [b, g] → H' a = some o,
      fun σ' H' ⟨gs', c, x, h1, h2, h3, h4⟩ => ⟨_, h1, gs', c, x, rfl, h2, h3, h4⟩, ?_⟩
    -- cell = drum[0].pop(0)
    refine ⟨_, rfl, b, _, 0, _, rfl, rfl, SqL.of hB2.1, rfl, .inl ⟨rfl, _, SqL.of hB2.2.1⟩, g, _, 0, 0, .int y, rfl, rfl, hB2.2.1, by decide, by decide, ?_, rfl, ?_⟩
    · rw [List.length_map, List.length_cons]; unfold seqIndex?
      simp
    have hB3 := hB2.great (gs' := ys) (by omega)
    have off3 : ∀ a o, H a = some o → a ∉ [b, g] → upd H2 g (.lst (ys.map V.int)) a = some o := fun a o h n => by
      rw [upd_ne fun z => n (by rw [z]; simp)]; exact off2 a o h n
    have ee : ((y :: ys).map V.int).eraseIdx 0 = ys.map V.int := rfl
    rw [ee]
    generalize upd H2 g (.lst (ys.map V.int)) = H3 at hB3 off3
    refine ⟨_, rfl, y, 0, rfl, rfl, decide (0 < y), rfl, ?_⟩
    by_cases hy0 : 0 < y
    · rw [decide_eq_true hy0]
      refine L2.iteT ?_
      refine ⟨_, rfl, b, _, 0, _, rfl, rfl, SqL.of hB3.1, rfl, .inl ⟨rfl, _, SqL.of hB3.2.1⟩, _, rfl, _, rfl, y, many, rfl, rfl, hd y, g, _, _, rfl, rfl, hB3.2.1, by rw [List.length_map, sizeLine_eq]; omega, ?_⟩
      have e : ys.map V.int ++ [V.int (y / many)] = (ys ++ [y / many]).map V.int := by rw [List.map_append]; rfl
      rw [e]
      have hB4 := hB3.great (gs' := ys ++ [y / many]) (by rw [List.length_append]; simpa using hlen)
      have off4 : ∀ a o, H a = some o → a ∉ [b, g] → upd H3 g (.lst ((ys ++ [y / many]).map V.int)) a = some o := fun a o h n => by
        rw [upd_ne fun z => n (by rw [z]; simp)]; exact off3 a o h n
      refine ⟨_, rfl, _, rfl, y, many, rfl, rfl, hm, ?_⟩
      exact k _ _ _ _ _ hB4 off4 (Int.emod_nonneg _ (by omega)) (Int.emod_lt_of_pos _ hm)
    · rw [decide_eq_false hy0]
      refine L2.iteF ?_
      exact ⟨ys, _, _, by simp, rfl, hB3, off3⟩
/-- .. over data -/
theorem d_beat {f : Addr} {fd : FuncData} (F : Fun K "_law_beat" "_law_beat" s__law_beat f fd) : GFn P w K mg base 1 f fd ["_law_drum_here", "_law_many"] spBeat := by
  refine GFn.of ⟨fun vs H Q E ⟨S, ds, Qd, Ed, g, rp, ⟨many, e, _⟩, _⟩ => by rw [rp.length, e]; rfl, fun A outer s H args us vs Q E hr hgd e0 hb rv h => ?_⟩ fun ds Q E ⟨many, e, _⟩ => by rw [e]; rfl
  obtain ⟨S, ds, Qd, Ed, g, rp, ⟨many, rfl, hm, hm2, k⟩, k0, l0⟩ := h
  refine (g_beat F).run A outer s H args us vs Q E hr hgd e0 hb rv ?_
  cases rp with
  | cons r1 r2 =>
    cases r2 with
    | cons r2 r3 =>
      cases r3
      cases r2
      obtain ⟨x, ex, ⟨b, g0, rfl⟩, rfl⟩ := inv_bx r1
      obtain ⟨gs, m, t, hB⟩ := g.bx _ ex
      refine ⟨b, g0, gs, m, t, many, rfl, hB, hm, hm2, fun H' r gs' m' t' hB' off h1 h2 => ?_⟩
      obtain ⟨st, g'⟩ := box_step g ex off ⟨gs', m', t', hB'⟩
      exact k0 _ H' S _ st g' (.it r) (k r h1 h2)

/-! the drum is made -/
abbrev N_drum : List Str := ["_law_script", "_law_cells", "_law_mixed", "_law_cell"]
theorem sc_drum : FnScope N_drum ["_law_script"] (defScope s__law_drum) := ⟨rfl, rfl, rfl, by decide +kernel, rfl, by decide +kernel, by decide +kernel⟩
abbrev tupVals : Stmt → List Expr | .Assign _ (.Tuple vs _ _) _ => vs | _ => []
abbrev retLst : Stmt → List Expr | .Return (some (.List vs _)) _ => vs | _ => []
theorem g_drum {f : Addr} {fd : FuncData} (F : Fun K "_law_drum" "_law_drum" s__law_drum f fd) (hl : mg "abs" = none) : HFn P w K mg base 1 f fd ["_law_script"]
    (fun vs H Q _ => ∃ (a : Addr) (ns : List Int), vs = [.ref a] ∧ SqL K H a (ns.map V.int) ∧ ∀ H' b g gs m t, B2 b g H' gs m t → (∀ a o, H a = some o → H' a = some o) → H b = none → H g = none → Q (.ref b) H') := by
  refine hfn_mk F sc_drum (fun vs H Q E ⟨_, _, e, _⟩ => by rw [e]; rfl) fun cdv A outer s0 H vs Q E hr hgd h => ?_
  obtain ⟨a, ns, rfl, hS, k⟩ := h
  -- the cells
  have hlc : LcRawE (cxD P w K mg base N_drum "_law_drum" (defScope s__law_drum) f cdv A outer s0 H E) ((tupVals ((defBody s__law_drum).getD 0 (.Pass ⟨0, 0, 0, 0⟩))).getD 0 (.Constant .none 0 ⟨0, 0, 0, 0⟩)) _ _ _ _ _ :=
    lcE_raw rfl sc_drum.nd (pi_seq (pe_slice sl_list (pv 0) po_none (po_some pe_int))) (own := [("_law_cell", 3)]) (blkOk_by (by show blkC N_drum (defScope s__law_drum) _ _ = true; decide +kernel)) (vsg := [3]) (by decide) (fun s H C cl fp => dg_name 3 sc_drum.nd) (fun s H C cl fp => dts_nil) (fun s H C cl fp => de_abs rfl hl (da_cons (de_var 3) da_nil))
  obtain ⟨t1, p1, r1⟩ := hlc
  have q2 : DS (cxD P w K mg base N_drum "_law_drum" (defScope s__law_drum) f cdv A outer s0 H E) E ((defBody s__law_drum).getD 1 (.Pass ⟨0, 0, 0, 0⟩)) _ :=
    ds_for (passes_of rfl) rfl (di_seq (de_var 1)) (dg_name 3 sc_drum.nd) (ds_one (ds_set 2 (de_mod (de_add (de_mulA (de_var 2) de_int) (de_var 3)) de_int) sc_drum.nd))
  obtain ⟨t2, p2, r2⟩ := q2.run
  have q4 : DN (cxD P w K mg base N_drum "_law_drum" (defScope s__law_drum) f cdv A outer s0 H E) E ((retLst ((defBody s__law_drum).getD 2 (.Pass ⟨0, 0, 0, 0⟩))).getD 0 (.Constant .none 0 ⟨0, 0, 0, 0⟩)) _ :=
    dn_lc rfl sc_drum.nd (di_seq (de_var 1)) (own := [("_law_cell", 3)]) (blkOk_by (by show blkC N_drum (defScope s__law_drum) _ _ = true; decide +kernel)) (vsg := [3]) (by decide) (fun s H C cl fp => dg_name 3 sc_drum.nd) (fun s H C cl fp => dts_one (db_ge (de_var 3) (de_pow de_int de_int))) (fun s H C cl fp => de_var 3)
  obtain ⟨t4, p4, r4⟩ := q4.sem
  refine ⟨_, pss_cons (ps_par rfl sc_drum.nd (i := 1) (j := 2) rfl rfl (by decide) rfl rfl (pa_cons p1 (pa_cons pe_int pa_nil)) rfl) (pss_cons p2 (pss_one (ps_ret (pe_lst (pa_cons p4 (pa_cons (pv 2) (pa_cons pe_int pa_nil))))))), ?_⟩
  refine r1 H sNone H (L2.start N_drum [.ref a]) (List.replicate 4 Sl.no) _ (fun xs => ∃ cells : List Int, xs = cells.map D.it ∧ cells.length ≤ 60) (good_none H) (rel_no _) (fun R hR => ?_) fun p H1 S1 vs xs st1 g1 n0 n1 n2 n3 rr ⟨cells, e, hcl⟩ => ?_
  · obtain ⟨ms, e1, e2⟩ := cut_ints ns none (some 60)
    have hms : ms.length ≤ 60 := by
      rw [e2, List.length_take]
      refine Nat.le_trans (Nat.min_le_left _ _) ?_
      have e3 : HT.sIx ns.length ns.length (some 60) = min 60 ns.length := by
        show (if (60 : Int) < 0 then ((60 : Int) + (ns.length : Int)).toNat else min (60 : Int).toNat ns.length) = _
        rw [if_neg (by decide)]; rfl
      rw [e3]
      have : min 60 ns.length ≤ 60 := Nat.min_le_left _ _
      omega
    refine ⟨_, rfl, 60, rfl, a, _, rfl, hS, fun r hr0 => ⟨r, rfl, .inl ⟨⟨_, SqL.of upd_same⟩, ?_⟩⟩⟩
    obtain ⟨st, g'⟩ := step_new (good_none H) (o := .lst (cutV (ns.map V.int) none (some 60))) hr0
    refine hR _ _ _ (ms.map D.it) st g' (wlk_l (vs := cutV (ns.map V.int) none (some 60)) (by show upd _ r _ r = _; exact upd_same) (by rw [e1]; exact RpL.ints ms)) ?_
    refine lcD_map (fun x => match x with | .it n => .it (if n < 0 then -n else n) | d => d) _ (fun x hx Y hY => ?_) (by rw [List.length_map, sizeLine_eq]; omega) ⟨ms.map fun n => if n < 0 then -n else n, ?_, ?_⟩
    · obtain ⟨n, _, rfl⟩ := List.mem_map.mp hx
      exact hY
    · rw [List.map_map, List.map_map]; rfl
    · rw [List.length_map]; exact hms
  · subst e
    have nbx : S1.bx = none := st1.box
    -- frozen
    obtain ⟨st1', g1', le1⟩ := frz_new st1 g1 n0 n1 n2 n3
    refine ⟨.ref p, .int 7, rfl, ?_⟩
    have rel1 : Rel H1 ⟨S1.bx, upd S1.F p (.lst vs)⟩ H1 [some (.ref a), some (.ref p), some (.int 7), none] [.no, .v (.ls (cells.map D.it)), .v (.it 7), .no] :=
      (((rel_no [some (.ref a), none, none, none]).put (i := 1) (x := .ref p) (.ls (by show upd S1.F p (.lst vs) p = _; exact upd_same) (rr.le le1))).put (i := 2) (x := .int 7) (.it 7))
    refine r2 ⟨⟨S1.bx, upd S1.F p (.lst vs)⟩, H1, upd S1.F p (.lst vs), S1.bx⟩ { nx := fun env => ∃ (m : Int) (s : Sl), env = [.no, .v (.ls (cells.map D.it)), .v (.it m), s], rt := fun _ => False, ex := fun _ => False } _
      ⟨fun S2 σ2 env2 H2 a2 rel2 ⟨m, s, e2⟩ => ?_, fun _ _ _ _ _ _ h => h.elim, fun _ _ _ _ _ _ h => h.elim, fun _ _ _ _ _ _ h => h.elim, xl_none⟩ _ _ _ H1 ⟨g1', .refl _ _, .refl _ _⟩ rel1 ?_
    · subst e2
      obtain ⟨x2, u1, u2⟩ := rel2.at_ 2 _ rfl
      cases u2
      refine r4 H1 S2 _ σ2 _ _ (fun xs => ∃ ks : List Int, xs = ks.map D.it ∧ ks.length ≤ 60) (fun _ => False) a2.g rel2 xl_none ?_ fun q H4 S4 ws ys st4 g4 q1 q2 q3 q4 q5 ⟨ks, ek, hk⟩ => ?_
      · refine lc_filt (fun n => decide (10 ^ 18 ≤ n)) cells (fun n hn Y N h1 h2 => ?_) (by rw [sizeLine_eq]; omega) ⟨_, rfl, Nat.le_trans (List.length_filter_le _ _) hcl⟩
        refine ⟨⟨by decide, by decide, by decide⟩, ?_⟩
        show (match D.bl (decide ((10 : Int) ^ (18 : Int).toNat ≤ n)) with | .bl b => (match b with | true => Y (.it n) | false => N) | _ => False)
        by_cases hc : (10 : Int) ^ (18 : Int).toNat ≤ n
        · rw [decide_eq_true hc]; exact h1 (decide_eq_true hc)
        · rw [decide_eq_false hc]; exact h2 (decide_eq_false hc)
      · subst ek
        have := rpl_ints q5
        subst this
        refine ⟨_, u1, by show 3 ≤ sizeLine; decide, fun l hl4 => ?_⟩
        have stAll : Stp sNone H S4 H4 := (st1'.trans g1' a2.p).trans a2.g st4
        have all : ∀ b o, H b = some o → H4 b = some o := fun b o e => stAll.keep b o e (fun z => by obtain ⟨x, ex, _⟩ := z; cases ex)
        have hql : l ≠ q := fun z => by subst z; rw [q2] at hl4; cases hl4
        refine k _ l q ks m 0 ⟨upd_same, by rw [upd_ne (Ne.symm hql)]; exact q2, hql, by omega⟩ (fun b o e => ?_) (stAll.free g4 hl4) ((st1'.trans g1' a2.p).free a2.g q1)
        rw [upd_ne (ne_of_none (all b o e) hl4)]; exact all b o e
    · -- the loop
      refine for_ind (fun r env => (∀ x ∈ r, ∃ n : Int, x = .it n) ∧ ∃ (m : Int) (s : Sl), env = [.no, .v (.ls (cells.map D.it)), .v (.it m), s]) (fun env h => h.2) ?_ _ _ ⟨fun x hx => ?_, 7, .no, rfl⟩
      · rintro x r env N hN ⟨hx, m, s, rfl⟩
        obtain ⟨n, rfl⟩ := hx x (by simp)
        exact ⟨.inr (by decide), ⟨(by show (0 : Int) < 4294967291; decide), hN _ ⟨fun y hy => hx y (List.mem_cons_of_mem _ hy), _, .v (.it n), rfl⟩⟩⟩
      · obtain ⟨n, _, rfl⟩ := List.mem_map.mp hx; exact ⟨n, rfl⟩
end
end Dl

set_option Elab.async false
set_option linter.all false
set_option maxRecDepth 100000
set_option maxHeartbeats 4000000
/-! Bk: books, piles, slips as data; what the laws k02 .. k10 draw. -/
namespace Dl
open PySem PySem.Spec PyProof.Rows L2
abbrev Slip := Int × Int
abbrev House := Int × List Slip
def slipP (s : Slip) : D := .tp [.it s.1, .it s.2]
def pileP (ss : List Slip) : D := .tp (ss.map slipP)
def houseP (h : House) : D := .tp [.it h.1, pileP h.2]
def bookP (b : List House) : D := .tp (b.map houseP)
def intsP (xs : List Int) : D := .tp (xs.map D.it)
/-- the slips of a house in a book of so many -/
structure OkPile (many : Int) (ss : List Slip) : Prop where
  len : ss.length ≤ 6
  to : ∀ s ∈ ss, 0 ≤ s.1 ∧ s.1 < many
  am : ∀ s ∈ ss, 1 ≤ s.2 ∧ s.2 ≤ 1000000000
structure OkBook (b : List House) : Prop where
  pos : 1 ≤ b.length
  len : b.length ≤ 6
  purse : ∀ h ∈ b, 0 ≤ h.1 ∧ h.1 ≤ 1000000000000
  pile : ∀ h ∈ b, OkPile b.length h.2
def sumA (ss : List Slip) : Int := (ss.map (·.2)).sum
theorem sumA_nil : sumA [] = 0 := rfl
theorem sumA_cons (s : Slip) (r : List Slip) : sumA (s :: r) = s.2 + sumA r := by simp [sumA]
theorem sumA_append (a b : List Slip) : sumA (a ++ b) = sumA a + sumA b := by simp [sumA]
theorem sumA_nonneg : ∀ {ss : List Slip}, (∀ s ∈ ss, 1 ≤ s.2 ∧ s.2 ≤ 1000000000) → 0 ≤ sumA ss ∧ sumA ss ≤ 1000000000 * ss.length
  | [], _ => by simp [sumA]
  | s :: r, h => by
    have h1 := h s (by simp)
    have h2 := sumA_nonneg (ss := r) fun x hx => h x (List.mem_cons_of_mem _ hx)
    rw [sumA_cons, List.length_cons]
    constructor
    · omega
    · have : (1000000000 : Int) * ((r.length + 1 : Nat) : Int) = 1000000000 * r.length + 1000000000 := by rw [Int.natCast_add]; omega
      omega
theorem sm_slipP {many : Int} (hm : many ≤ 1000) {s : Slip} (h1 : 0 ≤ s.1 ∧ s.1 < many) (h2 : 1 ≤ s.2 ∧ s.2 ≤ 1000000000) : Sm 3 1 (slipP s) :=
  SmL.tp (m := 2) (h := 0) (SmL.cons (m := 1) (m' := 1) (.it (by omega) (by omega)) (.one (.it (by omega) (by omega))))
theorem sm_pileP {many : Int} (hm : many ≤ 1000) {ss : List Slip} (h : OkPile many ss) : Sm 19 2 (pileP ss) := by
  refine (SmL.tp (m := 18) (h := 1) (SmL.le (SmL.of (m := 3) 6 (by rw [List.length_map]; exact h.len) fun x hx => ?_) (by omega) (Nat.le_refl _))).le (by omega) (by omega)
  obtain ⟨s, hs, rfl⟩ := List.mem_map.mp hx
  exact sm_slipP hm (h.to s hs) (h.am s hs)
theorem sm_houseP {many : Int} (hm : many ≤ 1000) {h : House} (hp : 0 ≤ h.1 ∧ h.1 ≤ 1000000000000) (ho : OkPile many h.2) : Sm 21 3 (houseP h) :=
  SmL.tp (m := 20) (h := 2) (SmL.cons (m := 1) (m' := 19) (.it (by omega) (by omega)) (.one (sm_pileP hm ho)))
theorem sm_bookL {b : List House} (h : OkBook b) : SmL 126 3 (b.map houseP) := by
  have hl := h.len
  refine SmL.le (SmL.of (m := 21) 6 (by rw [List.length_map]; exact hl) fun x hx => ?_) (by omega) (Nat.le_refl _)
  obtain ⟨y, hy, rfl⟩ := List.mem_map.mp hx
  exact sm_houseP (by omega) (h.purse y hy) (h.pile y hy)
theorem sm_bookP {b : List House} (h : OkBook b) : Sm 127 4 (bookP b) := (sm_bookL h).tp
theorem sm_ints {n : Nat} {xs : List Int} (hl : xs.length ≤ n) (h : ∀ x ∈ xs, -(2 ^ 200) < x ∧ x < 2 ^ 200) : SmL n 0 (xs.map D.it) := by
  refine SmL.le (SmL.of (m := 1) n (by rw [List.length_map]; exact hl) fun x hx => ?_) (by omega) (Nat.le_refl _)
  obtain ⟨y, hy, rfl⟩ := List.mem_map.mp hx
  have := h y hy
  exact .it (by omega) (by omega)
/-- what is paid on each slip -/
def partsF : List Slip → Int → List Int
  | [], _ => []
  | s :: r, left => (if left < s.2 then left else s.2) :: partsF r (left - (if left < s.2 then left else s.2))
/-- the next slip -/
def nextF : Nat → List Slip → Int → D
  | _, [], _ => .non
  | i, s :: r, left => if left < s.2 then .it (i : Nat) else nextF (i + 1) r (left - s.2)
theorem partsF_length : ∀ (ss : List Slip) (p : Int), (partsF ss p).length = ss.length
  | [], _ => rfl
  | s :: r, p => by simp only [partsF, List.length_cons, partsF_length r]
/-- payments of a book -/
def PayOf : List House → List Int → Prop
  | [], [] => True
  | h :: b, p :: ps => 0 ≤ p ∧ p ≤ sumA h.2 ∧ PayOf b ps
  | _, _ => False
theorem PayOf.length : ∀ {b : List House} {ps : List Int}, PayOf b ps → ps.length = b.length
  | [], [], _ => rfl
  | _ :: b, _ :: ps, h => by rw [List.length_cons, List.length_cons, PayOf.length h.2.2]
  | [], _ :: _, h => h.elim
  | _ :: _, [], h => h.elim
end Dl

set_option Elab.async false
set_option linter.all false
set_option maxRecDepth 100000
set_option maxHeartbeats 4000000
/-! Tl1: typed reading of the transformers. Values of Lean's types behind embeddings into data; W: a typed predicate transformer; SPat: what is known of the slots. -/
namespace Dl
open PySem PySem.Spec PyProof.Rows L2

abbrev W (α : Type) := (α → Prop) → EK → Prop
def pureW {α : Type} (x : α) : W α := fun Q _ => Q x
def bindW {α β : Type} (m : W α) (f : α → W β) : W β := fun Q E => m (fun x => f x Q E) E
def ifW {α : Type} (c : Bool) (a b : W α) : W α := fun Q E => if c = true then a Q E else b Q E
def failW {α : Type} : W α := fun _ _ => False

/-! ### embeddings -/
abbrev eI : Int → D := D.it
abbrev eB : Bool → D := D.bl
abbrev eS : Str → D := D.st
abbrev eA : D → D := fun d => d
abbrev eN : Unit → D := fun _ => D.non
def eT {α : Type} (e : α → D) (xs : List α) : D := .tp (xs.map e)
def eL {α : Type} (e : α → D) (xs : List α) : D := .ls (xs.map e)
def eP {α β : Type} (e : α → D) (f : β → D) (p : α × β) : D := .tp [e p.1, f p.2]
def e3 {α β γ : Type} (e : α → D) (f : β → D) (g : γ → D) (p : α × β × γ) : D := .tp [e p.1, f p.2.1, g p.2.2]
def e4 {α β γ δ : Type} (e : α → D) (f : β → D) (g : γ → D) (h : δ → D) (p : α × β × γ × δ) : D := .tp [e p.1, f p.2.1, g p.2.2.1, h p.2.2.2]
/-- lists of two, three things of different kinds -/
def eQ {α β : Type} (e : α → D) (f : β → D) (p : α × β) : D := .ls [e p.1, f p.2]
def eQ3 {α β γ : Type} (e : α → D) (f : β → D) (g : γ → D) (p : α × β × γ) : D := .ls [e p.1, f p.2.1, g p.2.2]
def eO {α : Type} (e : α → D) : Option α → D | none => .non | some x => e x

/-! ### slots -/
abbrev SPat := List (Option Sl)
structure Me (ps : SPat) (env : Env') : Prop where
  len : env.length = ps.length
  at_ : ∀ (i : Nat) (s : Sl), ps[i]? = some (some s) → env[i]? = some s
theorem Me.set {ps : SPat} {env : Env'} (m : Me ps env) (i : Nat) (s : Sl) : Me (ps.set i (some s)) (env.set i s) where
  len := by rw [List.length_set, List.length_set]; exact m.len
  at_ := fun j t h => by
    by_cases hj : j = i
    · subst hj
      have hl : j < ps.length := by
        have := (List.getElem?_eq_some_iff.mp h).1
        rwa [List.length_set] at this
      rw [List.getElem?_set_self hl] at h
      rw [List.getElem?_set_self (by rw [m.len]; exact hl)]
      cases h; rfl
    · rw [List.getElem?_set_ne (Ne.symm hj)] at h ⊢
      exact m.at_ j t h
theorem Me.hide {ps : SPat} {env : Env'} (m : Me ps env) (i : Nat) (s : Sl) : Me (ps.set i none) (env.set i s) where
  len := by rw [List.length_set, List.length_set]; exact m.len
  at_ := fun j t h => by
    by_cases hj : j = i
    · subst hj
      have hl : j < ps.length := by
        have := (List.getElem?_eq_some_iff.mp h).1
        rwa [List.length_set] at this
      rw [List.getElem?_set_self hl] at h
      cases h
    · rw [List.getElem?_set_ne (Ne.symm hj)] at h ⊢
      exact m.at_ j t h
/-- the second knows no more than the first -/
def PSub : SPat → SPat → Prop
  | [], [] => True
  | none :: qs, _ :: ps => PSub qs ps
  | some s :: qs, p :: ps => p = some s ∧ PSub qs ps
  | _, _ => False
theorem Me.sub : ∀ {qs ps : SPat} {env : Env'}, PSub qs ps → Me ps env → Me qs env
  | [], [], _, _, m => m
  | none :: qs, p :: ps, [], _, m => by have := m.len; simp at this
  | none :: qs, p :: ps, e :: env, h, m => by
    have m' : Me ps env := ⟨by have := m.len; simpa using this, fun i s q => by have := m.at_ (i + 1) s (by simpa using q); simpa using this⟩
    have k := Me.sub (qs := qs) h m'
    refine ⟨by simp [k.len], fun i s q => ?_⟩
    cases i with
    | zero => simp at q
    | succ i => simpa using k.at_ i s (by simpa using q)
  | some t :: qs, p :: ps, [], h, m => by have := m.len; simp at this
  | some t :: qs, p :: ps, e :: env, h, m => by
    have m' : Me ps env := ⟨by have := m.len; simpa using this, fun i s q => by have := m.at_ (i + 1) s (by simpa using q); simpa using this⟩
    have k := Me.sub (qs := qs) h.2 m'
    refine ⟨by simp [k.len], fun i s q => ?_⟩
    cases i with
    | zero =>
      have e1 := m.at_ 0 t (by simp [h.1])
      simp at q; subst q; exact e1
    | succ i => simpa using k.at_ i s (by simpa using q)
def patOf (env : Env') : SPat := env.map some
theorem me_of (env : Env') : Me (patOf env) env := ⟨by simp [patOf], fun i s h => by
  unfold patOf at h
  rw [List.getElem?_map] at h
  cases e : env[i]? with
  | none => rw [e] at h; cases h
  | some t => rw [e] at h; simp at h; rw [h]⟩
def wipeP (ps : SPat) : List Nat → SPat
  | [] => ps
  | v :: vs => (wipeP ps vs).set v none
theorem Me.wipe {ps : SPat} {env : Env'} (m : Me ps env) : ∀ vs, Me (wipeP ps vs) (wipeD env vs)
  | [] => m
  | v :: vs => (Me.wipe m vs).hide v .no

/-! ### judgements: the value's own continuation R is stronger than that of the data -/
def TE {α : Type} (ps : SPat) (d : DT_) (e : α → D) (w : W α) : Prop := ∀ env, Me ps env → ∀ (Q : DK) (E : EK) (R : α → Prop), (∀ r, R r → Q (e r)) → w R E → d env Q E
def TB (ps : SPat) (t : DB_) (w : W Bool) : Prop := ∀ env, Me ps env → ∀ (Q : Bool → Prop) (E : EK) (R : Bool → Prop), (∀ r, R r → Q r) → w R E → t env Q E
def TL {α : Type} (ps : SPat) (u : DA_) (e : α → D) (w : W (List α)) : Prop := ∀ env, Me ps env → ∀ (Q : List D → Prop) (E : EK) (R : List α → Prop), (∀ xs, R xs → Q (xs.map e)) → w R E → u env Q E
def TI {α : Type} (ps : SPat) (d : DI_) (e : α → D) (w : W (List α)) : Prop := ∀ env, Me ps env → ∀ (Q : List D → Prop) (E : EK) (R : List α → Prop), (∀ xs, R xs → Q (xs.map e)) → w R E → d env Q E
def TN {α : Type} (ps : SPat) (d : DN_) (e : α → D) (w : W (List α)) : Prop := ∀ env, Me ps env → ∀ (Q : List D → Prop) (E : EK) (R : List α → Prop), (∀ xs, R xs → Q (xs.map e)) → w R E → d env Q E
def TG (ps : SPat) (dg : DG_) (x : D) (ps1 : SPat) : Prop := ∀ env Q, Me ps env → (∀ env', Me ps1 env' → Q env') → dg x env Q
def TGs (ps : SPat) (dg : List D → Env' → (Env' → Prop) → Prop) (xs : List D) (ps1 : SPat) : Prop := ∀ env Q, Me ps env → (∀ env', Me ps1 env' → Q env') → dg xs env Q
def TP (ps : SPat) (d : DO_) (w : W (Option Int)) : Prop := ∀ env, Me ps env → ∀ (Q : Option Int → Prop) (E : EK) (R : Option Int → Prop), (∀ r, R r → Q r) → w R E → d env Q E

section
variable {α β γ δ : Type} {ps : SPat} {da db dc : DT_} {e : α → D} {f : β → D} {g : γ → D} {wa : W α} {wb : W β} {wc : W γ} {ta tb : DB_} {wt wu : W Bool} {u : DA_}
theorem te_var (i : Nat) {x : α} (h : ps[i]? = some (some (.v (e x)))) : TE ps (dVar i) e (pureW x) := fun env m Q E R hr q => by
  unfold dVar; rw [m.at_ i _ h]; exact hr _ q
theorem te_int (n : Int) : TE ps (dC (.it n)) eI (pureW n) := fun env m Q E R hr q => hr _ q
theorem te_bl (n : Bool) : TE ps (dC (.bl n)) eB (pureW n) := fun env m Q E R hr q => hr _ q
theorem te_str (n : Str) : TE ps (dC (.st n)) eS (pureW n) := fun env m Q E R hr q => hr _ q
theorem te_non : TE ps (dC .non) eN (pureW ()) := fun env m Q E R hr q => hr _ q
/-- another embedding of the same -/
theorem te_co {e' : β → D} (c : α → β) (h : ∀ x, e x = e' (c x)) (ha : TE ps da e wa) : TE ps da e' (bindW wa fun x => pureW (c x)) := fun env m Q E R hr q =>
  ha env m Q E _ (fun r k => by rw [h r]; exact hr _ k) q
def getW (o : Option α) : W α := fun Q _ => ∃ x, o = some x ∧ Q x
theorem te_get {w : W (Option α)} (ha : TE ps da (eO e) w) : TE ps da e (bindW w getW) := fun env m Q E R hr q =>
  ha env m Q E _ (fun r k => by obtain ⟨x, rfl, h⟩ := k; exact hr _ h) q
/-- data that are of a kind -/
def asW (e : α → D) (x : D) : W α := fun Q _ => ∃ y, x = e y ∧ Q y
theorem te_as {w : W D} (ha : TE ps da eA w) : TE ps da e (bindW w (asW e)) := fun env m Q E R hr q =>
  ha env m Q E _ (fun r k => by obtain ⟨x, rfl, h⟩ := k; exact hr _ h) q
/-! operators -/
def Op2 (o : D → D → DK → Prop) (e : α → D) (f : β → D) (g : γ → D) (op : α → β → W γ) : Prop := ∀ x y (Q : DK) E (R : γ → Prop), (∀ r, R r → Q (g r)) → op x y R E → o (e x) (f y) Q
theorem te_op {o : D → D → DK → Prop} {op : α → β → W γ} (h : Op2 o e f g op) (ha : TE ps da e wa) (hb : TE ps db f wb) : TE ps (dOp o da db) g (bindW wa fun x => bindW wb fun y => op x y) := fun env m Q E R hr q =>
  ha env m _ E _ (fun x q => hb env m _ E _ (fun y q => h x y Q E R hr q) q) q
def addI (x y : Int) : W Int := pureW (x + y)
def subI (x y : Int) : W Int := pureW (x - y)
def mulI (x y : Int) : W Int := fun Q _ => CMul x y ∧ Q (x * y)
def fdivI (x y : Int) : W Int := fun Q _ => CDivW x y ∧ Q (x / y)
def modI (x y : Int) : W Int := fun Q _ => 0 < y ∧ Q (x % y)
def powI (x y : Int) : W Int := fun Q _ => CPow x y ∧ Q (x ^ y.toNat)
def ltI (x y : Int) : W Bool := pureW (decide (x < y))
def leI (x y : Int) : W Bool := pureW (decide (x ≤ y))
def gtI (x y : Int) : W Bool := pureW (decide (y < x))
def geI (x y : Int) : W Bool := pureW (decide (y ≤ x))
def eqI (x y : Int) : W Bool := pureW (decide (x = y))
def neI (x y : Int) : W Bool := pureW (!decide (x = y))
def catW (x y : List α) : W (List α) := fun Q _ => szOk (x.length + y.length) ∧ Q (x ++ y)
def catS (x y : Str) : W Str := fun Q _ => szOk (x.length + y.length) ∧ Q (x ++ y)
def repT (x : List α) (j : Int) : W (List α) := fun Q _ => (-(2 ^ 63) ≤ j ∧ j ≤ 1000 ∧ x.length ≤ 1000) ∧ Q (List.replicate j.toNat x).flatten
def repL (x : List α) (j : Int) : W (List α) := fun Q _ => (-(2 ^ 63) ≤ j ∧ j < 2 ^ 63 ∧ szOk (x.length * j.toNat)) ∧ Q (List.replicate j.toNat x).flatten
theorem o_add : Op2 oAdd eI eI eI addI := fun x y Q E R hr q => hr _ q
theorem o_sub : Op2 oSub eI eI eI subI := fun x y Q E R hr q => hr _ q
theorem o_mul : Op2 oMulA eI eI eI mulI := fun x y Q E R hr q => ⟨q.1, hr _ q.2⟩
theorem o_fdiv : Op2 oFdiv eI eI eI fdivI := fun x y Q E R hr q => ⟨q.1, hr _ q.2⟩
theorem o_mod : Op2 oMod eI eI eI modI := fun x y Q E R hr q => ⟨q.1, hr _ q.2⟩
theorem o_pow : Op2 oPow eI eI eI powI := fun x y Q E R hr q => ⟨q.1, hr _ q.2⟩
theorem o_lt : Op2 oLt eI eI eB ltI := fun x y Q E R hr q => hr _ q
theorem o_le : Op2 oLe eI eI eB leI := fun x y Q E R hr q => hr _ q
theorem o_gt : Op2 oGt eI eI eB gtI := fun x y Q E R hr q => hr _ q
theorem o_ge : Op2 oGe eI eI eB geI := fun x y Q E R hr q => hr _ q
theorem beq_dec (x y : Int) : (x == y) = decide (x = y) := by
  by_cases h : x = y
  · subst h; simp
  · simp [h]
theorem o_eqI : Op2 oEq eI eI eB eqI := fun x y Q E R hr q => ⟨rfl, by show Q (.bl (x == y)); rw [beq_dec]; exact hr _ q⟩
theorem o_neI : Op2 oNe eI eI eB neI := fun x y Q E R hr q => ⟨rfl, by show Q (.bl (!(x == y))); rw [beq_dec]; exact hr _ q⟩
theorem o_catT : Op2 oAdd (eT e) (eT e) (eT e) catW := fun x y Q E R hr q => ⟨by simpa using q.1, by have := hr _ q.2; unfold eT at this; rw [List.map_append] at this; exact this⟩
theorem o_catL : Op2 oAdd (eL e) (eL e) (eL e) catW := fun x y Q E R hr q => ⟨by simpa using q.1, by have := hr _ q.2; unfold eL at this; rw [List.map_append] at this; exact this⟩
theorem o_catS : Op2 oAdd eS eS eS catS := fun x y Q E R hr q => ⟨q.1, hr _ q.2⟩
theorem map_rep (e : α → D) (x : List α) (n : Nat) : (List.replicate n x).flatten.map e = (List.replicate n (x.map e)).flatten := by
  induction n with
  | zero => simp
  | succ n ih => rw [List.replicate_succ, List.flatten_cons, List.map_append, ih, List.replicate_succ, List.flatten_cons]
theorem o_repT : Op2 oMulA (eT e) eI (eT e) repT := fun x y Q E R hr q => ⟨q.1.1, q.1.2.1, by simpa using q.1.2.2, by have := hr _ q.2; unfold eT at this; rw [map_rep] at this; exact this⟩
theorem o_repL : Op2 oMulA (eL e) eI (eL e) repL := fun x y Q E R hr q => ⟨q.1.1, q.1.2.1, by simpa using q.1.2.2, by have := hr _ q.2; unfold eL at this; rw [map_rep] at this; exact this⟩
/-! items -/
def ixW (xs : List α) (i : Int) : W α := fun Q _ => ∃ x, atI xs i = some x ∧ Q x
theorem atI_map (e : α → D) (xs : List α) (i : Int) : atI (xs.map e) i = (atI xs i).map e := by
  unfold atI
  rw [List.length_map]
  cases ixN xs.length i with
  | none => rfl
  | some j => simp
theorem o_ixT : Op2 oIx (eT e) eI e ixW := fun x y Q E R hr q => by
  obtain ⟨z, h, k⟩ := q
  show match atI (x.map e) y with | some d => Q d | none => False
  rw [atI_map, h]; exact hr _ k
theorem o_ixL : Op2 oIx (eL e) eI e ixW := fun x y Q E R hr q => by
  obtain ⟨z, h, k⟩ := q
  show match atI (x.map e) y with | some d => Q d | none => False
  rw [atI_map, h]; exact hr _ k
end
end Dl

set_option Elab.async false
set_option linter.all false
set_option maxRecDepth 100000
set_option maxHeartbeats 4000000
/-! Tl2: typed reading: displays, parts, built-ins, comparisons, calls. -/
namespace Dl
open PySem PySem.Spec PyProof.Rows L2

section
variable {α β γ δ ε ζ η : Type} {ps : SPat} {da db dc dd d5 d6 : DT_} {e : α → D} {f : β → D} {g : γ → D} {h : δ → D} {wa : W α} {wb : W β} {wc : W γ} {wd : W δ} {ta tb : DB_} {wt wu : W Bool} {u : DA_}
/-- a part of a tuple -/
theorem te_prj {e' : β → D} {k : Int} (c : α → β) (hc : ∀ x (Q : DK), Q (e' (c x)) → oIx (e x) (.it k) Q) (ha : TE ps da e wa) : TE ps (dOp oIx da (dC (.it k))) e' (bindW wa fun x => pureW (c x)) := fun env m Q E R hr q =>
  ha env m _ E _ (fun x q => hc x Q (hr _ q)) q
/-! argument lists of one kind -/
theorem tl_nil : TL ps dNil e (pureW []) := fun env m Q E R hr q => hr [] q
theorem tl_cons {wu : W (List α)} (ha : TE ps da e wa) (hu : TL ps u e wu) : TL ps (dCons da u) e (bindW wa fun x => bindW wu fun xs => pureW (x :: xs)) := fun env m Q E R hr q =>
  ha env m _ E _ (fun x q => hu env m _ E _ (fun xs q => hr (x :: xs) q) q) q
theorem tl_starT {ws wu : W (List α)} (ha : TE ps da (eT e) ws) (hu : TL ps u e wu) : TL ps (dStar da u) e (bindW ws fun ys => bindW wu fun xs => pureW (ys ++ xs)) := fun env m Q E R hr q =>
  ha env m _ E _ (fun ys q => hu env m _ E _ (fun xs q => by have := hr (ys ++ xs) q; rw [List.map_append] at this; exact this) q) q
theorem tl_starL {ws wu : W (List α)} (ha : TE ps da (eL e) ws) (hu : TL ps u e wu) : TL ps (dStar da u) e (bindW ws fun ys => bindW wu fun xs => pureW (ys ++ xs)) := fun env m Q E R hr q =>
  ha env m _ E _ (fun ys q => hu env m _ E _ (fun xs q => by have := hr (ys ++ xs) q; rw [List.map_append] at this; exact this) q) q
def szW (xs : List α) : W (List α) := fun Q _ => szOk xs.length ∧ Q xs
theorem te_tupL {wu : W (List α)} (hu : TL ps u e wu) : TE ps (dTup u) (eT e) (bindW wu szW) := fun env m Q E R hr q =>
  hu env m _ E _ (fun xs q => ⟨by rw [List.length_map]; exact q.1, hr xs q.2⟩) q
theorem te_lstL {wu : W (List α)} (hu : TL ps u e wu) : TE ps (dLst u) (eL e) (bindW wu szW) := fun env m Q E R hr q =>
  hu env m _ E _ (fun xs q => ⟨by rw [List.length_map]; exact q.1, hr xs q.2⟩) q
/-! tuples of parts -/
theorem te_tup2 (ha : TE ps da e wa) (hb : TE ps db f wb) : TE ps (dTup (dCons da (dCons db dNil))) (eP e f) (bindW wa fun x => bindW wb fun y => pureW (x, y)) := fun env m Q E R hr q =>
  ha env m _ E _ (fun x q => hb env m _ E _ (fun y q => ⟨szl2, hr (x, y) q⟩) q) q
theorem te_tup3 (ha : TE ps da e wa) (hb : TE ps db f wb) (hc : TE ps dc g wc) : TE ps (dTup (dCons da (dCons db (dCons dc dNil)))) (e3 e f g) (bindW wa fun x => bindW wb fun y => bindW wc fun z => pureW (x, y, z)) := fun env m Q E R hr q =>
  ha env m _ E _ (fun x q => hb env m _ E _ (fun y q => hc env m _ E _ (fun z q => ⟨szl3, hr (x, y, z) q⟩) q) q) q
theorem te_tup4 (ha : TE ps da e wa) (hb : TE ps db f wb) (hc : TE ps dc g wc) (hd : TE ps dd h wd) : TE ps (dTup (dCons da (dCons db (dCons dc (dCons dd dNil))))) (e4 e f g h) (bindW wa fun x => bindW wb fun y => bindW wc fun z => bindW wd fun t => pureW (x, y, z, t)) := fun env m Q E R hr q =>
  ha env m _ E _ (fun x q => hb env m _ E _ (fun y q => hc env m _ E _ (fun z q => hd env m _ E _ (fun t q => ⟨szl4, hr (x, y, z, t) q⟩) q) q) q) q
theorem te_lst2 (ha : TE ps da e wa) (hb : TE ps db f wb) : TE ps (dLst (dCons da (dCons db dNil))) (eQ e f) (bindW wa fun x => bindW wb fun y => pureW (x, y)) := fun env m Q E R hr q =>
  ha env m _ E _ (fun x q => hb env m _ E _ (fun y q => ⟨szl2, hr (x, y) q⟩) q) q
theorem te_lst3 (ha : TE ps da e wa) (hb : TE ps db f wb) (hc : TE ps dc g wc) : TE ps (dLst (dCons da (dCons db (dCons dc dNil)))) (eQ3 e f g) (bindW wa fun x => bindW wb fun y => bindW wc fun z => pureW (x, y, z)) := fun env m Q E R hr q =>
  ha env m _ E _ (fun x q => hb env m _ E _ (fun y q => hc env m _ E _ (fun z q => ⟨szl3, hr (x, y, z) q⟩) q) q) q
/-! built-ins -/
def Op1 (o : List D → DK → Prop) (e : α → D) (g : γ → D) (op : α → W γ) : Prop := ∀ x (Q : DK) E (R : γ → Prop), (∀ r, R r → Q (g r)) → op x R E → o [e x] Q
def Op2B (o : List D → DK → Prop) (e : α → D) (f : β → D) (g : γ → D) (op : α → β → W γ) : Prop := ∀ x y (Q : DK) E (R : γ → Prop), (∀ r, R r → Q (g r)) → op x y R E → o [e x, f y] Q
theorem te_cb1 {o} {op : α → W γ} (ho : Op1 o e g op) (ha : TE ps da e wa) : TE ps (dCB o (dCons da dNil)) g (bindW wa op) := fun env m Q E R hr q =>
  ha env m _ E _ (fun x q => ho x Q E R hr q) q
theorem te_cb2 {o} {op : α → β → W γ} (ho : Op2B o e f g op) (ha : TE ps da e wa) (hb : TE ps db f wb) : TE ps (dCB o (dCons da (dCons db dNil))) g (bindW wa fun x => bindW wb fun y => op x y) := fun env m Q E R hr q =>
  ha env m _ E _ (fun x q => hb env m _ E _ (fun y q => ho x y Q E R hr q) q) q
def lenW (xs : List α) : W Int := pureW (xs.length : Int)
def lenA (d : D) : W Int := fun Q _ => match d with | .tp ys => Q ys.length | .ls ys => Q ys.length | .st z => szOk z.length ∧ Q z.length | _ => False
theorem o_lenT : Op1 oLen (eT e) eI lenW := fun x Q E R hr q => by
  show Q (.it ((x.map e).length : Nat)); rw [List.length_map]; exact hr _ q
theorem o_lenL : Op1 oLen (eL e) eI lenW := fun x Q E R hr q => by
  show Q (.it ((x.map e).length : Nat)); rw [List.length_map]; exact hr _ q
theorem o_lenA : Op1 oLen eA eI lenA := fun x Q E R hr q => by
  cases x with
  | tp ys => exact hr _ q
  | ls ys => exact hr _ q
  | st z => exact ⟨q.1, hr _ q.2⟩
  | _ => exact q.elim
def lenS (z : Str) : W Int := fun Q _ => szOk z.length ∧ Q z.length
theorem o_lenS : Op1 oLen eS eI lenS := fun x Q E R hr q => ⟨q.1, hr _ q.2⟩
def sameW (x : α) : W α := pureW x
theorem o_listT : Op1 oList (eT e) (eL e) sameW := fun x Q E R hr q => hr _ q
theorem o_listL : Op1 oList (eL e) (eL e) sameW := fun x Q E R hr q => hr _ q
theorem o_tupleT : Op1 oTuple (eT e) (eT e) sameW := fun x Q E R hr q => hr _ q
theorem o_tupleL : Op1 oTuple (eL e) (eT e) sameW := fun x Q E R hr q => hr _ q
def intB (b : Bool) : W Int := pureW (if b = true then 1 else 0)
theorem o_intB : Op1 oInt eB eI intB := fun x Q E R hr q => hr _ q
theorem o_intI : Op1 oInt eI eI sameW := fun x Q E R hr q => hr _ q
def absI (i : Int) : W Int := pureW (if i < 0 then -i else i)
theorem o_abs : Op1 oAbs eI eI absI := fun x Q E R hr q => hr _ q
def sumW (xs : List Int) : W Int := pureW xs.sum
theorem o_sum : Op1 oSum (eL eI) eI sumW := fun x Q E R hr q => ⟨x, intsD_map x, hr _ q⟩
def maxL (xs : List Int) : W Int := fun Q _ => xs ≠ [] ∧ ∀ m, m ∈ xs → (∀ y ∈ xs, y ≤ m) → Q m
def minL (xs : List Int) : W Int := fun Q _ => xs ≠ [] ∧ ∀ m, m ∈ xs → (∀ y ∈ xs, m ≤ y) → Q m
theorem o_maxL : Op1 oMaxL (eL eI) eI maxL := fun x Q E R hr q => ⟨x, intsD_map x, q.1, fun m h1 h2 => hr _ (q.2 m h1 h2)⟩
theorem o_minL : Op1 oMinL (eL eI) eI minL := fun x Q E R hr q => ⟨x, intsD_map x, q.1, fun m h1 h2 => hr _ (q.2 m h1 h2)⟩
def max2 (x y : Int) : W Int := pureW (max x y)
def min2 (x y : Int) : W Int := pureW (min x y)
theorem o_max2 : Op2B oMaxL eI eI eI max2 := fun x y Q E R hr q => by
  show Q (.it (if y > x then y else x))
  have : (if y > x then y else x) = max x y := by split <;> omega
  rw [this]; exact hr _ q
theorem o_min2 : Op2B oMinL eI eI eI min2 := fun x y Q E R hr q => by
  show Q (.it (if y < x then y else x))
  have : (if y < x then y else x) = min x y := by split <;> omega
  rw [this]; exact hr _ q
def anyW (xs : List Bool) : W Bool := pureW (xs.any id)
def allW (xs : List Bool) : W Bool := pureW (xs.all id)
theorem o_any : Op1 oAny (eL eB) eB anyW := fun x Q E R hr q => ⟨x, boolsD_map x, hr _ q⟩
theorem o_all : Op1 oAll (eL eB) eB allW := fun x Q E R hr q => ⟨x, boolsD_map x, hr _ q⟩
/-- of any display -/
def reprW (d : D) : W Str := fun Q _ => Fit d ∧ Q d.py.shown
theorem o_repr : Op1 oRepr e eS (fun x => reprW (e x)) := fun x Q E R hr q => ⟨q.1, hr _ q.2⟩
/-! kinds, None -/
theorem te_isi {T : String} (ha : TE ps da e wa) : TE ps (dIsi T da) eB (bindW wa fun x => pureW (isT T (e x))) := fun env m Q E R hr q =>
  ha env m _ E _ (fun x q => hr _ q) q
theorem te_isN (ha : TE ps da e wa) : TE ps (dIsN da) eB (bindW wa fun x => pureW (isNon (e x))) := fun env m Q E R hr q =>
  ha env m _ E _ (fun x q => hr _ q) q
theorem te_notN (ha : TE ps da e wa) : TE ps (dNotN da) eB (bindW wa fun x => pureW (!isNon (e x))) := fun env m Q E R hr q =>
  ha env m _ E _ (fun x q => hr _ q) q
theorem te_isNO {w : W (Option α)} (hn : ∀ x, isNon (e x) = false) (ha : TE ps da (eO e) w) : TE ps (dIsN da) eB (bindW w fun x => pureW x.isNone) := fun env m Q E R hr q =>
  ha env m _ E _ (fun x q => by
    have : isNon (eO e x) = x.isNone := by cases x with | none => rfl | some y => exact hn y
    show Q (.bl (isNon (eO e x))); rw [this]; exact hr _ q) q
theorem te_notNO {w : W (Option α)} (hn : ∀ x, isNon (e x) = false) (ha : TE ps da (eO e) w) : TE ps (dNotN da) eB (bindW w fun x => pureW x.isSome) := fun env m Q E R hr q =>
  ha env m _ E _ (fun x q => by
    have : isNon (eO e x) = !x.isSome := by cases x with | none => rfl | some y => exact hn y
    show Q (.bl (!isNon (eO e x))); rw [this, Bool.not_not]; exact hr _ q) q
theorem nn_T (x : List α) : isNon (eT e x) = false := rfl
theorem nn_L (x : List α) : isNon (eL e x) = false := rfl
theorem nn_P (x : α × β) : isNon (eP e f x) = false := rfl
theorem nn_3 (x : α × β × γ) : isNon (e3 e f g x) = false := rfl
theorem nn_4 (x : α × β × γ × δ) : isNon (e4 e f g h x) = false := rfl
theorem nn_I (x : Int) : isNon (eI x) = false := rfl
theorem nn_B (x : Bool) : isNon (eB x) = false := rfl
theorem nn_S (x : Str) : isNon (eS x) = false := rfl
/-! logic -/
theorem te_and {wa wb : W Bool} (ha : TE ps da eB wa) (hb : TE ps db eB wb) : TE ps (dAndV da db) eB (bindW wa fun c => ifW c wb (pureW false)) := fun env m Q E R hr q =>
  ha env m _ E _ (fun c q => by
    cases c with
    | true => exact hb env m Q E R hr (by simpa [ifW] using q)
    | false => exact hr false (by simpa [ifW, pureW] using q)) q
theorem te_or {wa wb : W Bool} (ha : TE ps da eB wa) (hb : TE ps db eB wb) : TE ps (dOrV da db) eB (bindW wa fun c => ifW c (pureW true) wb) := fun env m Q E R hr q =>
  ha env m _ E _ (fun c q => by
    cases c with
    | false => exact hb env m Q E R hr (by simpa [ifW] using q)
    | true => exact hr true (by simpa [ifW, pureW] using q)) q
theorem te_not {wa : W Bool} (ha : TE ps da eB wa) : TE ps (dNotV da) eB (bindW wa fun c => pureW (!c)) := fun env m Q E R hr q =>
  ha env m _ E _ (fun c q => hr _ q) q
theorem te_if {wa' : W α} (ht : TB ps ta wt) (ha : TE ps da e wa) (hb : TE ps db e wa') : TE ps (dIf ta da db) e (bindW wt fun c => ifW c wa wa') := fun env m Q E R hr q =>
  ht env m _ E _ (fun c q => by
    cases c with
    | true => exact ha env m Q E R hr (by simpa [ifW] using q)
    | false => exact hb env m Q E R hr (by simpa [ifW] using q)) q
theorem te_neg {wa : W Int} (ha : TE ps da eI wa) : TE ps (dNeg da) eI (bindW wa fun i => pureW (-i)) := fun env m Q E R hr q =>
  ha env m _ E _ (fun c q => hr _ q) q
theorem te_chain {o o' : D → D → DK → Prop} {op : α → β → W Bool} {op' : β → γ → W Bool} (h : Op2 o e f eB op) (h' : Op2 o' f g eB op') (ha : TE ps da e wa) (hb : TE ps db f wb) (hc : TE ps dc g wc) :
    TE ps (dChain o o' da db dc) eB (bindW wa fun x => bindW wb fun y => bindW (op x y) fun c => ifW c (bindW wc fun z => op' y z) (pureW false)) := fun env m Q E R hr q =>
  ha env m _ E _ (fun x q => hb env m _ E _ (fun y q => h x y _ E _ (fun c q => by
    cases c with
    | true => exact hc env m _ E _ (fun z q => h' y z Q E R hr q) q
    | false => exact hr false (by simpa [ifW, pureW] using q)) q) q) q
/-! tests -/
theorem tb_tst {wa : W Bool} (ha : TE ps da eB wa) : TB ps (dTst da) wa := fun env m Q E R hr q => ha env m _ E _ (fun c q => hr c q) q
theorem tb_and (ha : TB ps ta wt) (hb : TB ps tb wu) : TB ps (dAnd ta tb) (bindW wt fun c => ifW c wu (pureW false)) := fun env m Q E R hr q =>
  ha env m _ E _ (fun c q => by
    cases c with
    | true => exact hb env m Q E R hr (by simpa [ifW] using q)
    | false => exact hr false (by simpa [ifW, pureW] using q)) q
theorem tb_or (ha : TB ps ta wt) (hb : TB ps tb wu) : TB ps (dOr ta tb) (bindW wt fun c => ifW c (pureW true) wu) := fun env m Q E R hr q =>
  ha env m _ E _ (fun c q => by
    cases c with
    | false => exact hb env m Q E R hr (by simpa [ifW] using q)
    | true => exact hr true (by simpa [ifW, pureW] using q)) q
theorem tb_not (ha : TB ps ta wt) : TB ps (dNot ta) (bindW wt fun c => pureW (!c)) := fun env m Q E R hr q => ha env m _ E _ (fun c q => hr _ q) q
theorem tb_yes : TB ps dYes (pureW true) := fun env m Q E R hr q => hr _ q
/-! slices -/
def cutT (xs : List α) (lo hi : Option Int) : List α := (xs.drop (HT.sIx xs.length 0 lo)).take (HT.sIx xs.length xs.length hi - HT.sIx xs.length 0 lo)
theorem cutT_map (xs : List α) (lo hi : Option Int) : cutD (xs.map e) lo hi = (cutT xs lo hi).map e := by
  unfold cutD cutT
  rw [List.length_map, List.map_take, List.map_drop]
theorem tp_none : TP ps dNoPart (pureW none) := fun env m Q E R hr q => hr _ q
theorem tp_some {w : W Int} (ha : TE ps da eI w) : TP ps (dPart da) (bindW w fun i => pureW (some i)) := fun env m Q E R hr q => ha env m _ E _ (fun i q => hr _ q) q
variable {dl dh : DO_} {wl wh : W (Option Int)}
theorem te_slT {w : W (List α)} (ha : TE ps da (eT e) w) (hl : TP ps dl wl) (hh : TP ps dh wh) : TE ps (dSl da dl dh) (eT e) (bindW w fun xs => bindW wl fun l => bindW wh fun h => pureW (cutT xs l h)) := fun env m Q E R hr q =>
  ha env m _ E _ (fun xs q => hl env m _ E _ (fun l q => hh env m _ E _ (fun h q => by
    have := hr _ q
    show Q (.tp (cutD (xs.map e) l h)); rw [cutT_map]; exact this) q) q) q
theorem te_slL {w : W (List α)} (ha : TE ps da (eL e) w) (hl : TP ps dl wl) (hh : TP ps dh wh) : TE ps (dSl da dl dh) (eL e) (bindW w fun xs => bindW wl fun l => bindW wh fun h => pureW (cutT xs l h)) := fun env m Q E R hr q =>
  ha env m _ E _ (fun xs q => hl env m _ E _ (fun l q => hh env m _ E _ (fun h q => by
    have := hr _ q
    show Q (.ls (cutD (xs.map e) l h)); rw [cutT_map]; exact this) q) q) q
theorem te_revT {w : W (List α)} (ha : TE ps da (eT e) w) : TE ps (dRev da) (eT e) (bindW w fun xs => pureW xs.reverse) := fun env m Q E R hr q =>
  ha env m _ E _ (fun xs q => by have := hr _ q; unfold eT at this; rw [List.map_reverse] at this; exact this) q
theorem te_revL {w : W (List α)} (ha : TE ps da (eL e) w) : TE ps (dRev da) (eL e) (bindW w fun xs => pureW xs.reverse) := fun env m Q E R hr q =>
  ha env m _ E _ (fun xs q => by have := hr _ q; unfold eL at this; rw [List.map_reverse] at this; exact this) q
/-! data of any kind -/
def op2A (o : D → D → DK → Prop) (x y : D) : W D := fun Q _ => o x y Q
theorem o_any2 {o : D → D → DK → Prop} (hm : ∀ x y (Q Q' : DK), (∀ r, Q r → Q' r) → o x y Q → o x y Q') : Op2 o eA eA eA (op2A o) := fun x y Q E R hr q => hm x y R Q hr q
theorem oIx_mono (x y : D) (Q Q' : DK) (h : ∀ r, Q r → Q' r) (q : oIx x y Q) : oIx x y Q' := by
  unfold oIx at q ⊢
  split at q
  · split at q
    · exact h _ q
    · exact q.elim
  · split at q
    · exact h _ q
    · exact q.elim
  · refine ⟨q.1, ?_⟩
    have := q.2
    split at this
    · exact h _ this
    · exact this.elim
  · exact q.elim
def ixA (x : D) (k : Int) : W D := fun Q _ => oIx x (.it k) Q
theorem o_ixA : Op2 oIx eA eI eA ixA := fun x y Q E R hr q => oIx_mono _ _ _ _ hr q
end
/-! ### equality -/
structure EqE {α : Type} (e : α → D) : Prop where
  plain : ∀ x, plainD (e x) = true
  deep : ∃ n, n ≤ 20 ∧ ∀ x, deep (e x) ≤ n
  inj : ∀ x y, eqD (e x) (e y) = true ↔ x = y
/-- .. with room for so many more levels -/
structure EqN {α : Type} (n : Nat) (e : α → D) : Prop where
  plain : ∀ x, plainD (e x) = true
  deep : ∀ x, deep (e x) ≤ n
  inj : ∀ x y, eqD (e x) (e y) = true ↔ x = y
section
variable {α β γ δ : Type} {e : α → D} {f : β → D} {g : γ → D} {h : δ → D} {n m k l : Nat}
theorem eq_I : EqN 0 eI := ⟨fun _ => rfl, fun _ => by simp [deep], fun x y => by show (x == y) = true ↔ _; exact beq_iff_eq⟩
theorem eq_B : EqN 0 eB := ⟨fun _ => rfl, fun _ => by simp [deep], fun x y => by show (x == y) = true ↔ _; exact beq_iff_eq⟩
theorem eq_S : EqN 0 eS := ⟨fun _ => rfl, fun _ => by simp [deep], fun x y => by show (x == y) = true ↔ _; exact beq_iff_eq⟩
theorem plain_map (h : ∀ x, plainD (e x) = true) : ∀ xs : List α, plainDL (xs.map e) = true
  | [] => rfl
  | x :: r => by simp only [List.map_cons, plainDL, h x, plain_map h r, Bool.and_self]
theorem deep_map (h : ∀ x, deep (e x) ≤ n) : ∀ xs : List α, deepL (xs.map e) ≤ n
  | [] => by simp [deepL]
  | x :: r => by simp only [List.map_cons, deepL]; have := h x; have := deep_map h r; omega
theorem eqv_map (h : ∀ x y, eqD (e x) (e y) = true ↔ x = y) : ∀ xs ys : List α, PyData.eqvAll (pyL (xs.map e)) (pyL (ys.map e)) = true ↔ xs = ys
  | [], [] => by simp [pyL, PyData.eqvAll]
  | [], _ :: _ => by simp [pyL, PyData.eqvAll]
  | _ :: _, [] => by simp [pyL, PyData.eqvAll]
  | x :: xs, y :: ys => by
    have ih := eqv_map h xs ys
    have hx := h x y
    unfold eqD at hx
    simp only [List.map_cons, pyL, PyData.eqvAll, Bool.and_eq_true, hx, ih, List.cons.injEq]
theorem eq_T (h : EqN n e) : EqN (n + 1) (eT e) := ⟨fun xs => by simp only [eT, plainD]; exact plain_map h.plain xs, fun xs => by simp only [eT, deep]; have := deep_map h.deep xs; omega, fun xs ys => by
  show PyData.eqv (.tuple (pyL (xs.map e))) (.tuple (pyL (ys.map e))) = true ↔ _
  rw [PyData.eqv]; exact eqv_map h.inj xs ys⟩
theorem eq_L (h : EqN n e) : EqN (n + 1) (eL e) := ⟨fun xs => by simp only [eL, plainD]; exact plain_map h.plain xs, fun xs => by simp only [eL, deep]; have := deep_map h.deep xs; omega, fun xs ys => by
  show PyData.eqv (.list (pyL (xs.map e))) (.list (pyL (ys.map e))) = true ↔ _
  rw [PyData.eqv]; exact eqv_map h.inj xs ys⟩
theorem eq_P (h1 : EqN n e) (h2 : EqN m f) : EqN (max n m + 1) (eP e f) := ⟨fun p => by simp only [eP, plainD, plainDL, h1.plain, h2.plain, Bool.and_self], fun p => by simp only [eP, deep, deepL]; have := h1.deep p.1; have := h2.deep p.2; omega, fun p q => by
  show PyData.eqv (.tuple (pyL [e p.1, f p.2])) (.tuple (pyL [e q.1, f q.2])) = true ↔ _
  have a := h1.inj p.1 q.1; have b := h2.inj p.2 q.2
  unfold eqD at a b
  simp only [pyL, PyData.eqv, PyData.eqvAll, Bool.and_eq_true, a, b, Bool.and_true, Prod.ext_iff]⟩
theorem eq_3 (h1 : EqN n e) (h2 : EqN m f) (h3 : EqN k g) : EqN (max n (max m k) + 1) (e3 e f g) := ⟨fun p => by simp only [e3, plainD, plainDL, h1.plain, h2.plain, h3.plain, Bool.and_self], fun p => by simp only [e3, deep, deepL]; have := h1.deep p.1; have := h2.deep p.2.1; have := h3.deep p.2.2; omega, fun p q => by
  show PyData.eqv (.tuple (pyL [e p.1, f p.2.1, g p.2.2])) (.tuple (pyL [e q.1, f q.2.1, g q.2.2])) = true ↔ _
  have a := h1.inj p.1 q.1; have b := h2.inj p.2.1 q.2.1; have c := h3.inj p.2.2 q.2.2
  unfold eqD at a b c
  simp only [pyL, PyData.eqv, PyData.eqvAll, Bool.and_eq_true, a, b, c, Bool.and_true, Prod.ext_iff]⟩
theorem eqv_non_l {d : D} (h : isNon d = false) (hb : isBx d = false) : PyData.eqv .none d.py = false := by cases d <;> simp_all [isNon, isBx, D.py, PyData.eqv]
theorem eqv_non_r {d : D} (h : isNon d = false) (hb : isBx d = false) : PyData.eqv d.py .none = false := by cases d <;> simp_all [isNon, isBx, D.py, PyData.eqv]
theorem bx_plain {d : D} (h : plainD d = true) : isBx d = false := by cases d <;> simp_all [plainD, isBx]
theorem eq_O (hn : ∀ x, isNon (e x) = false) (h : EqN n e) : EqN n (eO e) := ⟨fun p => by cases p with | none => rfl | some x => exact h.plain x, fun p => by cases p with | none => simp [eO, deep] | some x => exact h.deep x, fun p q => by
  cases p with
  | none => cases q with
    | none => simp [eO, eqD, D.py, PyData.eqv]
    | some y => simp [eO, eqD, D.py, eqv_non_l (hn y) (bx_plain (h.plain y))]
  | some x => cases q with
    | none => simp [eO, eqD, D.py, eqv_non_r (hn x) (bx_plain (h.plain x))]
    | some y => simp [eO, h.inj]⟩
def eqW [DecidableEq α] (x y : α) : W Bool := pureW (decide (x = y))
def neW [DecidableEq α] (x y : α) : W Bool := pureW (!decide (x = y))
theorem EqN.dec [DecidableEq α] (h : EqN n e) (x y : α) : eqD (e x) (e y) = decide (x = y) := by
  have := h.inj x y
  cases q : eqD (e x) (e y) with
  | true => rw [q] at this; exact (decide_eq_true (this.mp rfl)).symm
  | false => rw [q] at this; exact (decide_eq_false fun z => by have := this.mpr z; cases this).symm
theorem EqN.cmp (h : EqN n e) (hn : n ≤ 20) (x y : α) : cmpOk (e x) (e y) := ⟨h.plain x, h.plain y, by have := h.deep x; omega⟩
theorem o_eq [DecidableEq α] (h : EqN n e) (hn : n ≤ 20) (hi : ∀ x j, e x ≠ .it j) : Op2 oEq e e eB eqW := fun x y Q E R hr q => by
  have k := hr _ q
  unfold oEq
  split
  · next j ej => exact (hi _ _ ej).elim
  · exact ⟨h.cmp hn x y, by rw [h.dec]; exact k⟩
theorem o_ne [DecidableEq α] (h : EqN n e) (hn : n ≤ 20) (hi : ∀ x j, e x ≠ .it j) : Op2 oNe e e eB neW := fun x y Q E R hr q => by
  have k := hr _ q
  unfold oNe
  split
  · next j ej => exact (hi _ _ ej).elim
  · exact ⟨h.cmp hn x y, by rw [h.dec]; exact k⟩
/-- data of any kind against data of any kind -/
def eqA (x y : D) : W Bool := fun Q _ => match y with | .it j => isBx x = false ∧ Q (eqIt x j) | y => cmpOk x y ∧ Q (eqD x y)
def neA (x y : D) : W Bool := fun Q _ => match y with | .it j => isBxDc x = false ∧ Q (!eqIt x j) | y => cmpOk x y ∧ Q (!eqD x y)
theorem o_eqA : Op2 oEq eA eA eB eqA := fun x y Q E R hr q => by
  cases y <;> exact ⟨q.1, hr _ q.2⟩
theorem o_neA : Op2 oNe eA eA eB neA := fun x y Q E R hr q => by
  cases y <;> exact ⟨q.1, hr _ q.2⟩
def inW [DecidableEq α] (x : α) (xs : List α) : W Bool := pureW (decide (x ∈ xs))
def niW [DecidableEq α] (x : α) (xs : List α) : W Bool := pureW (!decide (x ∈ xs))
theorem any_map [DecidableEq α] (h : EqN n e) (x : α) : ∀ xs : List α, ((xs.map e).any fun z => eqD z (e x)) = decide (x ∈ xs)
  | [] => by simp
  | y :: r => by
    rw [List.map_cons, List.any_cons, any_map h x r, h.dec]
    by_cases h1 : y = x
    · subst h1; simp
    · have : ¬ x = y := fun z => h1 z.symm
      simp [h1, this]
theorem o_inT [DecidableEq α] (h : EqN n e) (hn : n ≤ 20) : Op2 oIn e (eT e) eB inW := fun x xs Q E R hr q =>
  ⟨h.plain x, plain_map h.plain xs, by have := h.deep x; omega, by rw [any_map h]; exact hr _ q⟩
theorem o_inL [DecidableEq α] (h : EqN n e) (hn : n ≤ 20) : Op2 oIn e (eL e) eB inW := fun x xs Q E R hr q =>
  ⟨h.plain x, plain_map h.plain xs, by have := h.deep x; omega, by rw [any_map h]; exact hr _ q⟩
theorem o_niT [DecidableEq α] (h : EqN n e) (hn : n ≤ 20) : Op2 oNotIn e (eT e) eB niW := fun x xs Q E R hr q =>
  ⟨h.plain x, plain_map h.plain xs, by have := h.deep x; omega, by rw [any_map h]; exact hr _ q⟩
theorem o_niL [DecidableEq α] (h : EqN n e) (hn : n ≤ 20) : Op2 oNotIn e (eL e) eB niW := fun x xs Q E R hr q =>
  ⟨h.plain x, plain_map h.plain xs, by have := h.deep x; omega, by rw [any_map h]; exact hr _ q⟩
/-- any value in data of one kind -/
def inA (x : D) (ys : List D) : W Bool := fun Q _ => (plainD x = true ∧ plainDL ys = true ∧ deep x ≤ 150) ∧ Q (ys.any fun z => eqD z x)
theorem o_inAT : Op2 oIn eA (eT e) eB (fun x xs => inA x (xs.map e)) := fun x xs Q E R hr q => ⟨q.1.1, q.1.2.1, q.1.2.2, hr _ q.2⟩
theorem o_inAL : Op2 oIn eA (eL e) eB (fun x xs => inA x (xs.map e)) := fun x xs Q E R hr q => ⟨q.1.1, q.1.2.1, q.1.2.2, hr _ q.2⟩
end
end Dl

set_option Elab.async false
set_option linter.all false
set_option maxRecDepth 100000
set_option maxHeartbeats 4000000
/-! Tl3: typed reading: iterables, comprehensions, calls, statements. -/
namespace Dl
open PySem PySem.Spec PyProof.Rows L2

section
variable {α β γ : Type} {ps : SPat} {da db : DT_} {e : α → D} {f : β → D} {g : γ → D} {u : DA_}
/-! ### iterables -/
theorem ti_T {w : W (List α)} (ha : TE ps da (eT e) w) : TI ps (dSeqI da) e w := fun env m Q E R hr q => ha env m _ E _ (fun xs q => hr xs q) q
theorem ti_L {w : W (List α)} (ha : TE ps da (eL e) w) : TI ps (dSeqI da) e w := fun env m Q E R hr q => ha env m _ E _ (fun xs q => hr xs q) q
def rgI (lo : Int) (n : Nat) : List Int := (List.range n).map fun (j : Nat) => lo + (j : Int)
theorem rgD_map (lo : Int) (n : Nat) : rgD lo n = (rgI lo n).map eI := by unfold rgD rgI; rw [List.map_map]; rfl
def rng1W (j : Int) : W (List Int) := fun Q _ => in62 j ∧ Q (rgI 0 j.toNat)
def rng2W (i j : Int) : W (List Int) := fun Q _ => (in62 i ∧ in62 j) ∧ Q (rgI i (j - i).toNat)
theorem ti_rng1 {w : W Int} (ha : TE ps da eI w) : TI ps (dRng1 (dCons da dNil)) eI (bindW w rng1W) := fun env m Q E R hr q =>
  ha env m _ E _ (fun j q => ⟨q.1, by have := hr _ q.2; rw [← rgD_map] at this; exact this⟩) q
theorem ti_rng2 {w w' : W Int} (ha : TE ps da eI w) (hb : TE ps db eI w') : TI ps (dRng2 (dCons da (dCons db dNil))) eI (bindW w fun i => bindW w' fun j => rng2W i j) := fun env m Q E R hr q =>
  ha env m _ E _ (fun i q => hb env m _ E _ (fun j q => ⟨q.1.1, q.1.2, by have := hr _ q.2; rw [← rgD_map] at this; exact this⟩) q) q
def enI (xs : List α) : List (Int × α) := xs.zipIdx.map fun p => ((p.2 : Int), p.1)
theorem enD_map (xs : List α) : enD (xs.map e) = (enI xs).map (eP eI e) := by
  unfold enD enI
  rw [List.map_map]
  apply List.ext_getElem?
  intro i
  rw [List.getElem?_map, List.getElem?_map, List.getElem?_zipIdx, List.length_map]
  by_cases h : i < xs.length
  · rw [List.getElem?_range h, List.getElem?_eq_getElem h]
    simp [eP, h]
  · rw [List.getElem?_eq_none_iff.mpr (by simpa using h), List.getElem?_eq_none_iff.mpr (by simpa using h)]; rfl
theorem ti_enT {w : W (List α)} (ha : TE ps da (eT e) w) : TI ps (dEnum (dCons da dNil)) (eP eI e) (bindW w fun xs => pureW (enI xs)) := fun env m Q E R hr q =>
  ha env m _ E _ (fun xs q => by have := hr _ q; rw [← enD_map] at this; exact this) q
theorem ti_enL {w : W (List α)} (ha : TE ps da (eL e) w) : TI ps (dEnum (dCons da dNil)) (eP eI e) (bindW w fun xs => pureW (enI xs)) := fun env m Q E R hr q =>
  ha env m _ E _ (fun xs q => by have := hr _ q; rw [← enD_map] at this; exact this) q
theorem zpD_zip : ∀ (l : List α) (m : List β), zpD (l.map e) (m.map f) = (l.zip m).map (eP e f)
  | [], _ => by simp [zpD]
  | _ :: _, [] => by simp [zpD]
  | a :: l, b :: m => by simp only [List.map_cons, zpD, List.zip_cons_cons, zpD_zip l m, eP]
/-- a sequence as data -/
def SqE (s : List α → D) (e : α → D) : Prop := ∀ xs, ∃ b, sqD (s xs) = some (b, xs.map e)
theorem sq_T : SqE (eT e) e := fun xs => ⟨false, rfl⟩
theorem sq_L : SqE (eL e) e := fun xs => ⟨true, rfl⟩
theorem ti_zip {s : List α → D} {t : List β → D} {w : W (List α)} {w' : W (List β)} (hs : SqE s e) (ht : SqE t f) (ha : TE ps da s w) (hb : TE ps db t w') : TI ps (dZip (dCons da (dCons db dNil))) (eP e f) (bindW w fun xs => bindW w' fun ys => pureW (xs.zip ys)) := fun env m Q E R hr q =>
  ha env m _ E _ (fun xs q => hb env m _ E _ (fun ys q => by
    obtain ⟨b, h1⟩ := hs xs
    obtain ⟨c, h2⟩ := ht ys
    have := hr _ q
    rw [← zpD_zip] at this
    show match sqD (s xs), sqD (t ys) with | some (_, xs), some (_, ys) => Q (zpD xs ys) | _, _ => False
    rw [h1, h2]; exact this) q) q
/-! ### targets -/
theorem tg_name (i : Nat) {d : D} : TG ps (dgName i) d (ps.set i (some (.v d))) := fun env Q m k => k _ (m.set i (.v d))
theorem tgs_nil : TGs ps dgNil [] ps := fun env Q m k => k _ m
theorem tgs_cons {dg : DG_} {us : List D → Env' → (Env' → Prop) → Prop} {x : D} {xs : List D} {ps1 ps2 : SPat} (h1 : TG ps dg x ps1) (h2 : TGs ps1 us xs ps2) : TGs ps (dgCons dg us) (x :: xs) ps2 := fun env Q m k =>
  h1 env _ m fun env1 m1 => h2 env1 Q m1 k
theorem tg_tup {n : Nat} {us : List D → Env' → (Env' → Prop) → Prop} {xs : List D} {ps1 : SPat} (hn : xs.length = n) (h : TGs ps us xs ps1) : TG ps (dgTup n us) (.tp xs) ps1 := fun env Q m k => ⟨hn, h env Q m k⟩
theorem tg_lst {n : Nat} {us : List D → Env' → (Env' → Prop) → Prop} {xs : List D} {ps1 : SPat} (hn : xs.length = n) (h : TGs ps us xs ps1) : TG ps (dgLst n us) (.ls xs) ps1 := fun env Q m k => ⟨hn, h env Q m k⟩
/-! ### comprehensions -/
def lcP (t : α → W Bool) (h : α → W β) (E : EK) : List α → List β → (List β → Prop) → Prop
  | [], acc, Q => Q acc
  | x :: xs, acc, Q => t x (fun b => if b = true then h x (fun y => lcP t h E xs (acc ++ [y]) Q) E else lcP t h E xs acc Q) E
def lcW (t : α → W Bool) (h : α → W β) (xs : List α) : W (List β) := fun Q _ => xs.length ≤ sizeLine ∧ lcP t h (fun _ => False) xs [] Q
theorem lcD_P {dg : DG_} {tt : DB_} {te : DT_} {env : Env'} {Q : List D → Prop} {R : List β → Prop} {t : α → W Bool} {h : α → W β} {ps : SPat} {ps1 : α → SPat} (hg : ∀ x, TG ps dg (e x) (ps1 x)) (ht : ∀ x, TB (ps1 x) tt (t x)) (hh : ∀ x, TE (ps1 x) te f (h x)) (m : Me ps env)
    (hr : ∀ ys, R ys → Q (ys.map f)) : ∀ (xs : List α) (acc : List β), acc.length + xs.length ≤ sizeLine → lcP t h (fun _ => False) xs acc R → lcD dg tt te env (fun _ => False) Q (xs.map e) (acc.map f)
  | [], acc, _, q => hr acc q
  | x :: xs, acc, hl, q => by
    have hl' : acc.length + (xs.length + 1) ≤ sizeLine := by simpa using hl
    rw [List.map_cons]
    show dg (e x) env fun env1 => tt env1 (fun b => match b with | true => te env1 (fun y => (acc.map f).length < sizeLine ∧ lcD dg tt te env (fun _ => False) Q (xs.map e) (acc.map f ++ [y])) (fun _ => False) | false => lcD dg tt te env (fun _ => False) Q (xs.map e) (acc.map f)) (fun _ => False)
    refine hg x env _ m fun env1 m1 => ht x env1 m1 _ _ _ (fun b qb => ?_) q
    cases b with
    | true =>
      refine hh x env1 m1 _ _ (fun y => lcP t h (fun _ => False) xs (acc ++ [y]) R) (fun y qy => ⟨by rw [List.length_map]; omega, ?_⟩) (by simpa using qb)
      have := lcD_P hg ht hh m hr xs (acc ++ [y]) (by simp; omega) qy
      rw [List.map_append] at this
      exact this
    | false => exact lcD_P hg ht hh m hr xs acc (by omega) (by simpa using qb)
theorem tn_lc {di : DI_} {dg : DG_} {tt : DB_} {te : DT_} {vs : List Nat} {w : W (List α)} {t : α → W Bool} {h : α → W β} {ps1 : α → SPat} (hi : TI ps di e w) (hg : ∀ x, TG (wipeP ps vs) dg (e x) (ps1 x)) (ht : ∀ x, TB (ps1 x) tt (t x)) (hh : ∀ x, TE (ps1 x) te f (h x)) :
    TN ps (dLc di dg tt te vs) f (bindW w fun xs => lcW t h xs) := fun env m Q E R hr q =>
  hi env m _ E _ (fun xs q => lcD_P hg ht hh (m.wipe vs) hr xs [] (by simpa using q.1) q.2) q
theorem co_mapL (x : List α) : eL e x = eL eA (x.map e) := by unfold eL; rw [List.map_map]; rfl
theorem co_mapT (x : List α) : eT e x = eT eA (x.map e) := by unfold eT; rw [List.map_map]; rfl
theorem te_dic0 : TE ps dDic0 eA (pureW (D.dc [])) := fun env m Q E R hr q => hr _ q
theorem te_dic1 (k : Str) {w : W D} (ha : TE ps da eA w) : TE ps (dDic1 k da) eA (bindW w fun x => pureW (D.dc [(.inr k, x)])) := fun env m Q E R hr q => ha env m _ E _ (fun x q => hr _ q) q
theorem ni_T (x : List α) (j : Int) : eT e x ≠ .it j := fun h => by unfold eT at h; cases h
theorem ni_L (x : List α) (j : Int) : eL e x ≠ .it j := fun h => by unfold eL at h; cases h
theorem ni_P (x : α × β) (j : Int) : eP e f x ≠ .it j := fun h => by unfold eP at h; cases h
theorem ni_3 (x : α × β × γ) (j : Int) : e3 e f g x ≠ .it j := fun h => by unfold e3 at h; cases h
theorem ni_B (x : Bool) (j : Int) : eB x ≠ .it j := fun h => by cases h
theorem ni_S (x : Str) (j : Int) : eS x ≠ .it j := fun h => by cases h
theorem ni_O (h : ∀ x j, e x ≠ .it j) (x : Option α) (j : Int) : eO e x ≠ .it j := fun k => by
  cases x with
  | none => cases k
  | some y => exact h y j k
theorem lf_I (x : Int) : lfD (eI x) = true := rfl
theorem lf_B (x : Bool) : lfD (eB x) = true := rfl
theorem lf_S (x : Str) : lfD (eS x) = true := rfl
theorem lf_N (x : Unit) : lfD (eN x) = true := rfl
theorem lf_L_map (h : ∀ x, lfD (e x) = true) : ∀ xs : List α, lfL (xs.map e) = true
  | [] => rfl
  | x :: r => by simp only [List.map_cons, lfL, h x, lf_L_map h r, Bool.and_self]
theorem lf_T (h : ∀ x, lfD (e x) = true) (x : List α) : lfD (eT e x) = true := by simp only [eT, lfD]; exact lf_L_map h x
theorem lf_O (h : ∀ x, lfD (e x) = true) (x : Option α) : lfD (eO e x) = true := by cases x with | none => rfl | some y => exact h y
theorem lf_P (h : ∀ x, lfD (e x) = true) (k : ∀ x, lfD (f x) = true) (x : α × β) : lfD (eP e f x) = true := by simp only [eP, lfD, lfL, h, k, Bool.and_self]
theorem lf_3 (h : ∀ x, lfD (e x) = true) (k : ∀ x, lfD (f x) = true) (l : ∀ x, lfD (g x) = true) (x : α × β × γ) : lfD (e3 e f g x) = true := by simp only [e3, lfD, lfL, h, k, l, Bool.and_self]
theorem te_frz {dn : DN_} {w : W (List α)} (h : TN ps dn e w) : TE ps (dFrz dn) (eL e) w := fun env m Q E R hr q => h env m _ E R (fun xs q => hr xs q) q
theorem tn_lst {w : W (List α)} (h : TL ps u e w) : TN ps (dLstN u) e (bindW w szW) := fun env m Q E R hr q => h env m _ E _ (fun xs q => ⟨by rw [List.length_map]; exact q.1, hr xs q.2⟩) q
theorem tn_cat {w w' : W (List α)} (ha : TE ps da (eL e) w) (hb : TE ps db (eL e) w') : TN ps (dCatN da db) e (bindW w fun x => bindW w' fun y => catW x y) := fun env m Q E R hr q =>
  ha env m _ E _ (fun x q => hb env m _ E _ (fun y q => ⟨by simpa using q.1, by have := hr _ q.2; rw [List.map_append] at this; exact this⟩) q) q
theorem tn_rep {w : W (List α)} {w' : W Int} (ha : TE ps da (eL e) w) (hb : TE ps db eI w') : TN ps (dRepN da db) e (bindW w fun x => bindW w' fun y => repL x y) := fun env m Q E R hr q =>
  ha env m _ E _ (fun x q => hb env m _ E _ (fun y q => ⟨q.1.1, q.1.2.1, by simpa using q.1.2.2, by have := hr _ q.2; rw [map_rep] at this; exact this⟩) q) q
theorem tn_listT {w : W (List α)} (ha : TE ps da (eT e) w) : TN ps (dListN (dCons da dNil)) e w := fun env m Q E R hr q => ha env m _ E R (fun xs q => hr xs q) q
theorem tn_listL {w : W (List α)} (ha : TE ps da (eL e) w) : TN ps (dListN (dCons da dNil)) e w := fun env m Q E R hr q => ha env m _ E R (fun xs q => hr xs q) q
/-! ### lists of one's own that are lent -/
/-- errors are not told -/
def NoE (w : W α) : Prop := ∀ Q E E', w Q E → w Q E'
theorem te_lend (i : Nat) {xs : List β} {w : W α} (h : ps[i]? = some (some (.own (xs.map f)))) (hl : ∀ x, lfD (e x) = true) (hw : NoE w) (ha : TE (ps.set i (some (.v (eL f xs)))) da e w) : TE ps (dLend i da) e w := fun env m Q E R hr q => by
  unfold dLend
  rw [m.at_ i _ h]
  exact ha _ (m.set i _) _ _ R (fun r q => ⟨hl r, hr r q⟩) (hw _ _ _ q)
theorem tb_lend (i : Nat) {xs : List β} {t : DB_} {w : W Bool} (h : ps[i]? = some (some (.own (xs.map f)))) (hw : NoE w) (ha : TB (ps.set i (some (.v (eL f xs)))) t w) : TB ps (dbLend i t) w := fun env m Q E R hr q => by
  unfold dbLend
  rw [m.at_ i _ h]
  exact ha _ (m.set i _) _ _ R hr (hw _ _ _ q)
theorem te_call0 {ρ : Type} {er : ρ → D} {sp : SpD} {t : W ρ} (h : ∀ (Q : DK) E (R : ρ → Prop), (∀ r, R r → Q (er r)) → t R E → sp [] Q E) : TE ps (dCall sp dNil) er t := fun env m Q E R hr q => h Q E R hr q
theorem te_call1 {ρ : Type} {er : ρ → D} {sp : SpD} {α0 : Type} {e0 : α0 → D} {d0 : DT_} {w0 : W α0} {t : α0 → W ρ} (h : ∀ x0 (Q : DK) E (R : ρ → Prop), (∀ r, R r → Q (er r)) → t x0 R E → sp [e0 x0] Q E)
    (a0 : TE ps d0 e0 w0) : TE ps (dCall sp (dCons d0 dNil)) er (bindW w0 fun x0 => t x0) := fun env m Q E R hr q => a0 env m _ E _ (fun x0 q => h x0 Q E R hr q) q
theorem te_call2 {ρ : Type} {er : ρ → D} {sp : SpD} {α0 : Type} {e0 : α0 → D} {d0 : DT_} {w0 : W α0} {α1 : Type} {e1 : α1 → D} {d1 : DT_} {w1 : W α1} {t : α0 → α1 → W ρ} (h : ∀ x0 x1 (Q : DK) E (R : ρ → Prop), (∀ r, R r → Q (er r)) → t x0 x1 R E → sp [e0 x0, e1 x1] Q E)
    (a0 : TE ps d0 e0 w0) (a1 : TE ps d1 e1 w1) : TE ps (dCall sp (dCons d0 (dCons d1 dNil))) er (bindW w0 fun x0 => bindW w1 fun x1 => t x0 x1) := fun env m Q E R hr q => a0 env m _ E _ (fun x0 q => a1 env m _ E _ (fun x1 q => h x0 x1 Q E R hr q) q) q
theorem te_call3 {ρ : Type} {er : ρ → D} {sp : SpD} {α0 : Type} {e0 : α0 → D} {d0 : DT_} {w0 : W α0} {α1 : Type} {e1 : α1 → D} {d1 : DT_} {w1 : W α1} {α2 : Type} {e2 : α2 → D} {d2 : DT_} {w2 : W α2} {t : α0 → α1 → α2 → W ρ} (h : ∀ x0 x1 x2 (Q : DK) E (R : ρ → Prop), (∀ r, R r → Q (er r)) → t x0 x1 x2 R E → sp [e0 x0, e1 x1, e2 x2] Q E)
    (a0 : TE ps d0 e0 w0) (a1 : TE ps d1 e1 w1) (a2 : TE ps d2 e2 w2) : TE ps (dCall sp (dCons d0 (dCons d1 (dCons d2 dNil)))) er (bindW w0 fun x0 => bindW w1 fun x1 => bindW w2 fun x2 => t x0 x1 x2) := fun env m Q E R hr q => a0 env m _ E _ (fun x0 q => a1 env m _ E _ (fun x1 q => a2 env m _ E _ (fun x2 q => h x0 x1 x2 Q E R hr q) q) q) q
theorem te_call4 {ρ : Type} {er : ρ → D} {sp : SpD} {α0 : Type} {e0 : α0 → D} {d0 : DT_} {w0 : W α0} {α1 : Type} {e1 : α1 → D} {d1 : DT_} {w1 : W α1} {α2 : Type} {e2 : α2 → D} {d2 : DT_} {w2 : W α2} {α3 : Type} {e3 : α3 → D} {d3 : DT_} {w3 : W α3} {t : α0 → α1 → α2 → α3 → W ρ} (h : ∀ x0 x1 x2 x3 (Q : DK) E (R : ρ → Prop), (∀ r, R r → Q (er r)) → t x0 x1 x2 x3 R E → sp [e0 x0, e1 x1, e2 x2, e3 x3] Q E)
    (a0 : TE ps d0 e0 w0) (a1 : TE ps d1 e1 w1) (a2 : TE ps d2 e2 w2) (a3 : TE ps d3 e3 w3) : TE ps (dCall sp (dCons d0 (dCons d1 (dCons d2 (dCons d3 dNil))))) er (bindW w0 fun x0 => bindW w1 fun x1 => bindW w2 fun x2 => bindW w3 fun x3 => t x0 x1 x2 x3) := fun env m Q E R hr q => a0 env m _ E _ (fun x0 q => a1 env m _ E _ (fun x1 q => a2 env m _ E _ (fun x2 q => a3 env m _ E _ (fun x3 q => h x0 x1 x2 x3 Q E R hr q) q) q) q) q
theorem te_call5 {ρ : Type} {er : ρ → D} {sp : SpD} {α0 : Type} {e0 : α0 → D} {d0 : DT_} {w0 : W α0} {α1 : Type} {e1 : α1 → D} {d1 : DT_} {w1 : W α1} {α2 : Type} {e2 : α2 → D} {d2 : DT_} {w2 : W α2} {α3 : Type} {e3 : α3 → D} {d3 : DT_} {w3 : W α3} {α4 : Type} {e4 : α4 → D} {d4 : DT_} {w4 : W α4} {t : α0 → α1 → α2 → α3 → α4 → W ρ} (h : ∀ x0 x1 x2 x3 x4 (Q : DK) E (R : ρ → Prop), (∀ r, R r → Q (er r)) → t x0 x1 x2 x3 x4 R E → sp [e0 x0, e1 x1, e2 x2, e3 x3, e4 x4] Q E)
    (a0 : TE ps d0 e0 w0) (a1 : TE ps d1 e1 w1) (a2 : TE ps d2 e2 w2) (a3 : TE ps d3 e3 w3) (a4 : TE ps d4 e4 w4) : TE ps (dCall sp (dCons d0 (dCons d1 (dCons d2 (dCons d3 (dCons d4 dNil)))))) er (bindW w0 fun x0 => bindW w1 fun x1 => bindW w2 fun x2 => bindW w3 fun x3 => bindW w4 fun x4 => t x0 x1 x2 x3 x4) := fun env m Q E R hr q => a0 env m _ E _ (fun x0 q => a1 env m _ E _ (fun x1 q => a2 env m _ E _ (fun x2 q => a3 env m _ E _ (fun x3 q => a4 env m _ E _ (fun x4 q => h x0 x1 x2 x3 x4 Q E R hr q) q) q) q) q) q
theorem te_call6 {ρ : Type} {er : ρ → D} {sp : SpD} {α0 : Type} {e0 : α0 → D} {d0 : DT_} {w0 : W α0} {α1 : Type} {e1 : α1 → D} {d1 : DT_} {w1 : W α1} {α2 : Type} {e2 : α2 → D} {d2 : DT_} {w2 : W α2} {α3 : Type} {e3 : α3 → D} {d3 : DT_} {w3 : W α3} {α4 : Type} {e4 : α4 → D} {d4 : DT_} {w4 : W α4} {α5 : Type} {e5 : α5 → D} {d5 : DT_} {w5 : W α5} {t : α0 → α1 → α2 → α3 → α4 → α5 → W ρ} (h : ∀ x0 x1 x2 x3 x4 x5 (Q : DK) E (R : ρ → Prop), (∀ r, R r → Q (er r)) → t x0 x1 x2 x3 x4 x5 R E → sp [e0 x0, e1 x1, e2 x2, e3 x3, e4 x4, e5 x5] Q E)
    (a0 : TE ps d0 e0 w0) (a1 : TE ps d1 e1 w1) (a2 : TE ps d2 e2 w2) (a3 : TE ps d3 e3 w3) (a4 : TE ps d4 e4 w4) (a5 : TE ps d5 e5 w5) : TE ps (dCall sp (dCons d0 (dCons d1 (dCons d2 (dCons d3 (dCons d4 (dCons d5 dNil))))))) er (bindW w0 fun x0 => bindW w1 fun x1 => bindW w2 fun x2 => bindW w3 fun x3 => bindW w4 fun x4 => bindW w5 fun x5 => t x0 x1 x2 x3 x4 x5) := fun env m Q E R hr q => a0 env m _ E _ (fun x0 q => a1 env m _ E _ (fun x1 q => a2 env m _ E _ (fun x2 q => a3 env m _ E _ (fun x3 q => a4 env m _ E _ (fun x4 q => a5 env m _ E _ (fun x5 q => h x0 x1 x2 x3 x4 x5 Q E R hr q) q) q) q) q) q) q
theorem te_call7 {ρ : Type} {er : ρ → D} {sp : SpD} {α0 : Type} {e0 : α0 → D} {d0 : DT_} {w0 : W α0} {α1 : Type} {e1 : α1 → D} {d1 : DT_} {w1 : W α1} {α2 : Type} {e2 : α2 → D} {d2 : DT_} {w2 : W α2} {α3 : Type} {e3 : α3 → D} {d3 : DT_} {w3 : W α3} {α4 : Type} {e4 : α4 → D} {d4 : DT_} {w4 : W α4} {α5 : Type} {e5 : α5 → D} {d5 : DT_} {w5 : W α5} {α6 : Type} {e6 : α6 → D} {d6 : DT_} {w6 : W α6} {t : α0 → α1 → α2 → α3 → α4 → α5 → α6 → W ρ} (h : ∀ x0 x1 x2 x3 x4 x5 x6 (Q : DK) E (R : ρ → Prop), (∀ r, R r → Q (er r)) → t x0 x1 x2 x3 x4 x5 x6 R E → sp [e0 x0, e1 x1, e2 x2, e3 x3, e4 x4, e5 x5, e6 x6] Q E)
    (a0 : TE ps d0 e0 w0) (a1 : TE ps d1 e1 w1) (a2 : TE ps d2 e2 w2) (a3 : TE ps d3 e3 w3) (a4 : TE ps d4 e4 w4) (a5 : TE ps d5 e5 w5) (a6 : TE ps d6 e6 w6) : TE ps (dCall sp (dCons d0 (dCons d1 (dCons d2 (dCons d3 (dCons d4 (dCons d5 (dCons d6 dNil)))))))) er (bindW w0 fun x0 => bindW w1 fun x1 => bindW w2 fun x2 => bindW w3 fun x3 => bindW w4 fun x4 => bindW w5 fun x5 => bindW w6 fun x6 => t x0 x1 x2 x3 x4 x5 x6) := fun env m Q E R hr q => a0 env m _ E _ (fun x0 q => a1 env m _ E _ (fun x1 q => a2 env m _ E _ (fun x2 q => a3 env m _ E _ (fun x3 q => a4 env m _ E _ (fun x4 q => a5 env m _ E _ (fun x5 q => a6 env m _ E _ (fun x6 q => h x0 x1 x2 x3 x4 x5 x6 Q E R hr q) q) q) q) q) q) q) q
end
/-! ### statements -/
/-- P: what is wanted, in words of the values; De: the ends over data -/
def TS (ps : SPat) (d : DS_) (De : DEnds) (P : Prop) : Prop := ∀ env, Me ps env → P → d De env
def NX {σ : Type} (nx : Env' → Prop) (psJ : σ → SPat) (K : σ → Prop) : Prop := ∀ s env, Me (psJ s) env → K s → nx env
section
variable {α β γ σ τ : Type} {ps : SPat} {de di : DT_} {d u d1 d2 : DS_} {De : DEnds} {e : α → D} {f : β → D} {w : W α} {w' : W β} {P : Prop} {psJ psL : σ → SPat} {K : σ → Prop}
def bindP (w : W α) (k : α → Prop) (E : EK) : Prop := w k E
def ifP (b : Bool) (P Q : Prop) : Prop := if b = true then P else Q
def joinP (f : (σ → Prop) → Prop) (k : σ → Prop) : Prop := f k
theorem ts_fall (h : NX De.nx psJ K) (s : σ) (hs : PSub (psJ s) ps) : TS ps dNext De (K s) := fun env m p => h s env (m.sub hs) p
theorem ts_brk (h : NX De.bk psJ K) (s : σ) (hs : PSub (psJ s) ps) : TS ps dBreak De (K s) := fun env m p => h s env (m.sub hs) p
theorem ts_cnt (h : NX De.ct psJ K) (s : σ) (hs : PSub (psJ s) ps) : TS ps dContinue De (K s) := fun env m p => h s env (m.sub hs) p
/-- the def's end without return -/
theorem ts_end (h : P → ∀ env, De.nx env) : TS ps dNext De P := fun env m p => h p env
theorem ts_last (h : TS ps (dSeq d dNext) De P) : TS ps d De P := fun env m p => h env m p
theorem ts_nx (h : TS ps u De P) : TS ps (dSeq dNext u) De P := fun env m p => h env m p
/-- what comes behind is never reached by falling through -/
theorem ts_seq0 (h : TS ps d { De with nx := u De } P) : TS ps (dSeq d u) De P := fun env m p => h env m p
theorem ts_ret {R : α → Prop} (hr : ∀ r, R r → De.rt (e r)) (h : TE ps de e w) : TS ps (dRet de) De (w R De.ex) := fun env m p => h env m _ _ _ hr p
theorem ts_via (h : TS ps u De P) : TS ps dNext { De with nx := u De } P := fun env m p => h env m p
theorem ts_retN : TS ps dRetN De (De.rt .non) := fun env m p => p
theorem ts_set (i : Nat) {k : α → Prop} (h : TE ps de e w) (hk : ∀ x, TS (ps.set i (some (.v (e x)))) u De (k x)) : TS ps (dSeq (dSet i de) u) De (bindP w k De.ex) := fun env m p =>
  h env m _ _ _ (fun x q => hk x _ (m.set i _) q) p
theorem ts_setN (i : Nat) {k : List α → Prop} {dn : DN_} {w : W (List α)} (h : TN ps dn e w) (hk : ∀ x, TS (ps.set i (some (.v (eL e x)))) u De (k x)) : TS ps (dSeq (dSetN i dn) u) De (bindP w k De.ex) := fun env m p =>
  h env m _ _ _ (fun x q => hk x _ (m.set i (.v (.ls (x.map e)))) q) p
theorem ts_setO (i : Nat) {k : List α → Prop} {dn : DN_} {w : W (List α)} (h : TN ps dn e w) (hk : ∀ x, TS (ps.set i (some (.own (x.map e)))) u De (k x)) : TS ps (dSeq (dSetO i dn) u) De (bindP w k De.ex) := fun env m p =>
  h env m _ _ _ (fun x q => hk x _ (m.set i _) q) p
theorem ts_drop {k : α → Prop} (h : TE ps de e w) (hk : ∀ x, TS ps u De (k x)) : TS ps (dSeq (dDrop de) u) De (bindP w k De.ex) := fun env m p =>
  h env m _ _ _ (fun x q => hk x _ m q) p
theorem ts_asg {k : α → Prop} {dg : DG_} {ps1 : α → SPat} (h : TE ps de e w) (hg : ∀ x, TG ps dg (e x) (ps1 x)) (hk : ∀ x, TS (ps1 x) u De (k x)) : TS ps (dSeq (dAsg de dg) u) De (bindP w k De.ex) := fun env m p =>
  h env m _ _ _ (fun x q => hg x _ _ m fun env1 m1 => hk x env1 m1 q) p
theorem ts_par (i j : Nat) {d1 d2 : DT_} {k : α → β → Prop} (h : TE ps d1 e w) (h' : TE ps d2 f w') (hk : ∀ x y, TS ((ps.set i (some (.v (e x)))).set j (some (.v (f y)))) u De (k x y)) :
    TS ps (dSeq (dPar i j (dCons d1 (dCons d2 dNil))) u) De (bindP w (fun x => bindP w' (fun y => k x y) De.ex) De.ex) := fun env m p =>
  h env m _ _ _ (fun x q => h' env m _ _ _ (fun y q => hk x y _ ((m.set i _).set j _) q) q) p
theorem ts_parO (i j : Nat) {dn : DN_} {d2 : DT_} {w : W (List α)} {k : List α → β → Prop} (h : TN ps dn e w) (h' : TE ps d2 f w') (hk : ∀ x y, TS ((ps.set i (some (.own (x.map e)))).set j (some (.v (f y)))) u De (k x y)) :
    TS ps (dSeq (dParO i j dn d2) u) De (bindP w (fun x => bindP w' (fun y => k x y) De.ex) De.ex) := fun env m p =>
  h env m _ _ _ (fun x q => h' env m _ _ _ (fun y q => hk x y _ ((m.set i _).set j _) q) q) p
def appP (xs : List α) (P : Prop) : Prop := xs.length < sizeLine ∧ P
theorem ts_app (i : Nat) {xs : List α} {k : α → Prop} (hp : ps[i]? = some (some (.own (xs.map e)))) (h : TE ps de e w) (hk : ∀ x, TS (ps.set i (some (.own ((xs ++ [x]).map e)))) u De (k x)) : TS ps (dSeq (dApp i de) u) De (bindP w (fun x => appP xs (k x)) De.ex) := fun env m p => by
  show dApp i de _ env
  unfold dApp
  rw [m.at_ i _ hp]
  exact h env m _ _ _ (fun x q => ⟨by rw [List.length_map]; exact q.1, by
    have := hk x _ (m.set i _) q.2
    rw [List.map_append] at this; exact this⟩) p
def setixP (xs : List α) (k : Int) (y : α) (P : List α → Prop) : Prop := ∃ j, ixN xs.length k = some j ∧ P (xs.set j y)
theorem ts_setix (i : Nat) {xs : List α} {wi : W Int} {k : List α → Prop} (hp : ps[i]? = some (some (.own (xs.map e)))) (h : TE ps de e w) (h' : TE ps di eI wi) (hk : ∀ ys : List α, TS (ps.set i (some (.own (ys.map e)))) u De (k ys)) :
    TS ps (dSeq (dSetIx i di de) u) De (bindP w (fun y => bindP wi (fun j => setixP xs j y k) De.ex) De.ex) := fun env m p => by
  show dSetIx i di de _ env
  unfold dSetIx
  rw [m.at_ i _ hp]
  refine h env m _ _ _ (fun y q => h' env m _ _ _ (fun j q => ?_) q) p
  obtain ⟨n, h1, h2⟩ := q
  show match ixN (xs.map e).length j with | some j => _ | none => False
  rw [List.length_map, h1]
  have := hk _ _ (m.set i _) h2
  rw [List.map_set] at this
  exact this
def augixP (xs : List Int) (k : Int) (P : Nat → Int → Prop) : Prop := ∃ j n, ixN xs.length k = some j ∧ xs[j]? = some n ∧ P j n
theorem ts_augix (i : Nat) {op : Int → Int → Int} {xs : List Int} {w wi : W Int} {k : List Int → Prop} (hp : ps[i]? = some (some (.own (xs.map eI)))) (h' : TE ps di eI wi) (h : TE ps de eI w) (hk : ∀ ys : List Int, TS (ps.set i (some (.own (ys.map eI)))) u De (k ys)) :
    TS ps (dSeq (dAugIx i op di de) u) De (bindP wi (fun j => augixP xs j fun t n => bindP w (fun y => k (xs.set t (op n y))) De.ex) De.ex) := fun env m p => by
  show dAugIx i op di de _ env
  unfold dAugIx
  rw [m.at_ i _ hp]
  refine h' env m _ _ _ (fun j q => ?_) p
  obtain ⟨t, n, h1, h2, h3⟩ := q
  show match ixN (xs.map eI).length j with | some j => _ | none => False
  rw [List.length_map, h1]
  show match (xs.map eI)[t]? with | some (.it n) => _ | _ => False
  rw [List.getElem?_map, h2]
  refine h env m _ _ _ (fun y q => ?_) h3
  have := hk _ _ (m.set i _) q
  rw [List.map_set] at this
  exact this
theorem ts_aug (i : Nat) {op : Int → Int → Int} {n : Int} {w : W Int} {k : Int → Prop} (hp : ps[i]? = some (some (.v (.it n)))) (h : TE ps de eI w) (hk : ∀ x, TS (ps.set i (some (.v (.it (op n x))))) u De (k x)) : TS ps (dSeq (dAug i op de) u) De (bindP w k De.ex) := fun env m p => by
  show dAug i op de _ env
  unfold dAug
  rw [m.at_ i _ hp]
  exact h env m _ _ _ (fun x q => hk x _ (m.set i _) q) p
theorem ts_frz (i : Nat) {xs : List α} (hp : ps[i]? = some (some (.own (xs.map e)))) (h : TS (ps.set i (some (.v (eL e xs)))) (dSeq d u) De P) : TS ps (dSeq (dFrzS i d) u) De P := fun env m p => by
  show dFrzS i d _ env
  unfold dFrzS
  rw [m.at_ i _ hp]
  exact h _ (m.set i _) p
theorem ts_frz1 (i : Nat) {xs : List α} (hp : ps[i]? = some (some (.own (xs.map e)))) (h : TS (ps.set i (some (.v (eL e xs)))) d De P) : TS ps (dFrzS i d) De P := fun env m p => by
  unfold dFrzS
  rw [m.at_ i _ hp]
  exact h _ (m.set i _) p
theorem ts_if {t : DB_} {wt : W Bool} {P Q : Prop} (ht : TB ps t wt) (h1 : TS ps d1 De P) (h2 : TS ps d2 De Q) : TS ps (dIfS t d1 d2) De (bindP wt (fun b => ifP b P Q) De.ex) := fun env m p =>
  ht env m _ _ _ (fun b q => by
    cases b with
    | true => exact h1 env m (by simpa [ifP] using q)
    | false => exact h2 env m (by simpa [ifP] using q)) p
/-- ways that come together again -/
theorem ts_join (F : (σ → Prop) → Prop) {k : σ → Prop} (psJ : σ → SPat) (hr : ∀ s, TS (psJ s) u De (k s)) (h : ∀ K : σ → Prop, NX (u De) psJ K → TS ps d { De with nx := u De } (F K)) : TS ps (dSeq d u) De (joinP F k) := fun env m p =>
  h k (fun s env m q => hr s env m q) env m p
def forP (body : α → σ → (σ → Prop) → (σ → Prop) → Prop) (K : σ → Prop) : List α → σ → Prop
  | [], s => K s
  | x :: xs, s => body x s (forP body K xs) K
theorem forD_P {dg : DG_} {db : DS_} {body : α → σ → (σ → Prop) → (σ → Prop) → Prop} {ps1 : α → σ → SPat} (hg : ∀ x s, TG (psL s) dg (e x) (ps1 x s))
    (hb : ∀ x s (N : σ → Prop) (nx : Env' → Prop), NX nx psL N → TS (ps1 x s) db { De with nx := nx, ct := nx, bk := De.nx } (body x s N K)) (hk : NX De.nx psL K) : ∀ (xs : List α) (s : σ) (env : Env'), Me (psL s) env → forP body K xs s → forD dg db De (xs.map e) env
  | [], s, env, m, p => hk s env m p
  | x :: xs, s, env, m, p => by
    rw [List.map_cons]
    show dg (e x) env fun env1 => db { De with nx := forD dg db De (xs.map e), ct := forD dg db De (xs.map e), bk := De.nx } env1
    exact hg x s env _ m fun env1 m1 => hb x s _ _ (fun s' env' m' q => forD_P hg hb hk xs s' env' m' q) env1 m1 p
theorem ts_for {dI : DI_} {dg : DG_} {db : DS_} {wi : W (List α)} {body : α → σ → (σ → Prop) → (σ → Prop) → Prop} {ps1 : α → σ → SPat} (psL : σ → SPat) (s0 : σ) (hi : TI ps dI e wi) (hs : PSub (psL s0) ps) (hg : ∀ x s, TG (psL s) dg (e x) (ps1 x s))
    (hb : ∀ x s (N : σ → Prop) (nx : Env' → Prop), NX nx psL N → TS (ps1 x s) db { De with nx := nx, ct := nx, bk := u De } (body x s N K)) (hr : ∀ s, TS (psL s) u De (K s)) :
    TS ps (dSeq (dFor dI dg db) u) De (bindP wi (fun xs => forP body K xs s0) De.ex) := fun env m p =>
  hi env m _ _ _ (fun xs q => forD_P (De := { De with nx := u De }) hg hb (fun s env m q => hr s env m q) xs s0 env (m.sub hs) q) p
def whileP (c : σ → W Bool) (body : σ → (σ → Prop) → (σ → Prop) → Prop) (K : σ → Prop) (E : EK) (s0 : σ) : Prop :=
  ∃ M : Nat → σ → Prop, (∃ m, M m s0) ∧ ∀ m s, M m s → c s (fun b => if b = true then body s (fun s' => ∃ m', m' < m ∧ M m' s') K else K s) E
theorem ts_while {t : DB_} {db : DS_} {c : σ → W Bool} {body : σ → (σ → Prop) → (σ → Prop) → Prop} (psL : σ → SPat) (s0 : σ) (hs : PSub (psL s0) ps) (ht : ∀ s, TB (psL s) t (c s))
    (hb : ∀ s (N : σ → Prop) (nx : Env' → Prop), NX nx psL N → TS (psL s) db { De with nx := nx, ct := nx, bk := u De } (body s N K)) (hr : ∀ s, TS (psL s) u De (K s)) :
    TS ps (dSeq (dWhile t db) u) De (whileP c body K De.ex s0) := fun env m p => by
  obtain ⟨M, ⟨n, h0⟩, hM⟩ := p
  refine ⟨fun n env => ∃ s, Me (psL s) env ∧ M n s, ⟨n, s0, m.sub hs, h0⟩, fun n env h => ?_⟩
  obtain ⟨s, ms, h⟩ := h
  refine ht s env ms _ _ _ (fun b q => ?_) (hM n s h)
  cases b with
  | true => exact hb s (fun s' => ∃ m', m' < n ∧ M m' s') _ (fun s' env' m' q => by
      obtain ⟨n', lt, q⟩ := q
      exact ⟨n', lt, s', m', q⟩) env ms (by simpa using q)
  | false => exact hr s env ms (by simpa using q)
end
end Dl

set_option Elab.async false
set_option linter.all false
set_option maxRecDepth 100000
set_option maxHeartbeats 4000000
/-! Tl4: typed reading of zip of three, extend, index, str, list(range), sorted, pop. -/
namespace Dl
open PySem PySem.Spec PyProof.Rows L2
section
variable {α β γ : Type} {ps : SPat} {da db dc : DT_} {e : α → D} {f : β → D} {g : γ → D} {u : DA_}
def zip3 (xs : List α) (ys : List β) (zs : List γ) : List (α × β × γ) := xs.zip (ys.zip zs)
theorem zp3_zip : ∀ (l : List α) (m : List β) (n : List γ), zp3D (l.map e) (m.map f) (n.map g) = (zip3 l m n).map (e3 e f g)
  | [], _, _ => by simp [zp3D, zip3]
  | _ :: _, [], _ => by simp [zp3D, zip3]
  | _ :: _, _ :: _, [] => by simp [zp3D, zip3]
  | a :: l, b :: m, c :: n => by
    have ih := zp3_zip l m n
    unfold zip3 at ih ⊢
    simp only [List.map_cons, zp3D, List.zip_cons_cons, ih, e3]
theorem ti_zip3 {s : List α → D} {t : List β → D} {r : List γ → D} {w : W (List α)} {w' : W (List β)} {w'' : W (List γ)} (hs : SqE s e) (ht : SqE t f) (hr' : SqE r g) (ha : TE ps da s w) (hb : TE ps db t w') (hc : TE ps dc r w'') :
    TI ps (dZip3 (dCons da (dCons db (dCons dc dNil)))) (e3 e f g) (bindW w fun xs => bindW w' fun ys => bindW w'' fun zs => pureW (zip3 xs ys zs)) := fun env m Q E R hr q =>
  ha env m _ E _ (fun xs q => hb env m _ E _ (fun ys q => hc env m _ E _ (fun zs q => by
    obtain ⟨b, h1⟩ := hs xs
    obtain ⟨c, h2⟩ := ht ys
    obtain ⟨d, h3⟩ := hr' zs
    have := hr _ q
    rw [← zp3_zip] at this
    show match sqD (s xs), sqD (t ys), sqD (r zs) with | some (_, xs), some (_, ys), some (_, zs) => Q (zp3D xs ys zs) | _, _, _ => False
    rw [h1, h2, h3]; exact this) q) q) q
def idxW (xs : List Int) (v : Int) : W Int := fun Q _ => ∃ j : Nat, (xs[j]? = some v ∧ ∀ m, m < j → xs[m]? ≠ some v) ∧ Q (j : Int)
theorem te_index {w : W (List Int)} {w' : W Int} (ha : TE ps da (eL eI) w) (hb : TE ps db eI w') : TE ps (dIndex da db) eI (bindW w fun xs => bindW w' fun v => idxW xs v) := fun env m Q E R hr q =>
  ha env m _ E _ (fun xs q => hb env m _ E _ (fun v q => by
    obtain ⟨j, ⟨h1, h2⟩, h3⟩ := q
    exact ⟨xs, j, intsD_map xs, h1, h2, hr _ h3⟩) q) q
def strI (i : Int) : Str := toString i
def strW (i : Int) : W Str := fun Q _ => i.natAbs.log2 < 1920 ∧ Q (strI i)
theorem o_str : Op1 oStr eI eS strW := fun x Q E R hr q => ⟨q.1, hr _ q.2⟩
theorem o_sumAL : Op1 oSumA (eL eI) eI sumW := fun x Q E R hr q => ⟨x, intsD_map x, hr _ q⟩
theorem o_sumAT : Op1 oSumA (eT eI) eI sumW := fun x Q E R hr q => ⟨x, intsD_map x, hr _ q⟩
theorem te_lendV (i : Nat) {d : D} {w : W α} (h : ps[i]? = some (some (.v d))) (ha : TE ps da e w) : TE ps (dLend i da) e w := fun env m Q E R hr q => by
  unfold dLend
  rw [m.at_ i _ h]
  exact ha env m Q E R hr q
theorem tb_lendV (i : Nat) {d : D} {t : DB_} {w : W Bool} (h : ps[i]? = some (some (.v d))) (ha : TB ps t w) : TB ps (dbLend i t) w := fun env m Q E R hr q => by
  unfold dbLend
  rw [m.at_ i _ h]
  exact ha env m Q E R hr q
def lrgW (j : Int) : W (List Int) := fun Q _ => (0 ≤ j ∧ j ≤ 16777216) ∧ Q (rgI 0 j.toNat)
theorem tn_rng1 {w : W Int} (ha : TE ps da eI w) : TN ps (dRngN1 da) eI (bindW w lrgW) := fun env m Q E R hr q =>
  ha env m _ E _ (fun j q => ⟨q.1, by have := hr _ q.2; rw [← rgD_map] at this; exact this⟩) q
def sortW (xs : List Int) : W (List Int) := fun Q _ => ∀ ms : List Int, ms.Perm xs → ms.Pairwise (· ≤ ·) → Q ms
theorem tn_sort {w : W (List Int)} (ha : TE ps da (eL eI) w) : TN ps (dSortN da) eI (bindW w sortW) := fun env m Q E R hr q =>
  ha env m _ E _ (fun xs q => ⟨xs, intsD_map xs, fun ms h1 h2 => hr ms (q ms h1 h2)⟩) q
end
section
variable {α β γ σ τ : Type} {ps : SPat} {de di : DT_} {d u d1 d2 : DS_} {De : DEnds} {e : α → D} {f : β → D} {w : W α} {w' : W β} {P : Prop}
theorem ts_dead : TS ps (dSeq dDead u) De False := fun env m p => p.elim
theorem ts_dead1 : TS ps dDead De False := fun env m p => p.elim
def extP (xs ys : List α) (P : Prop) : Prop := szOk (xs.length + ys.length) ∧ P
theorem ts_ext (i : Nat) {xs : List α} {w : W (List α)} {k : List α → Prop} (hp : ps[i]? = some (some (.own (xs.map e)))) (h : TE ps de (eL e) w) (hk : ∀ ys, TS (ps.set i (some (.own ((xs ++ ys).map e)))) u De (k ys)) : TS ps (dSeq (dExt i de) u) De (bindP w (fun ys => extP xs ys (k ys)) De.ex) := fun env m p => by
  show dExt i de _ env
  unfold dExt
  rw [m.at_ i _ hp]
  exact h env m _ _ _ (fun ys q => ⟨by rw [List.length_map, List.length_map]; exact q.1, by
    have := hk ys _ (m.set i _) q.2
    rw [List.map_append] at this; exact this⟩) p
def popP (xs : List α) (k : Int) (P : List α → α → Prop) : Prop := (-(2 ^ 63) ≤ k ∧ k < 2 ^ 63) ∧ ∃ m v, ixN xs.length k = some m ∧ xs[m]? = some v ∧ P (xs.eraseIdx m) v
theorem map_erase (e : α → D) : ∀ (xs : List α) (m : Nat), (xs.eraseIdx m).map e = (xs.map e).eraseIdx m
  | [], _ => rfl
  | _ :: _, 0 => rfl
  | x :: r, m + 1 => by simp [map_erase e r m]
theorem ts_setPop (i j : Nat) {xs : List α} {wi : W Int} {k : List α → α → Prop} (hp : ps[j]? = some (some (.own (xs.map e)))) (h : TE ps de eI wi)
    (hk : ∀ (ys : List α) (v : α), TS ((ps.set j (some (.own (ys.map e)))).set i (some (.v (e v)))) u De (k ys v)) : TS ps (dSeq (dSetPop i j de) u) De (bindP wi (fun q => popP xs q k) De.ex) := fun env m p => by
  show dSetPop i j de _ env
  unfold dSetPop
  rw [m.at_ j _ hp]
  refine h env m _ _ _ (fun q r => ?_) p
  obtain ⟨h0, t, v, h1, h2, h3⟩ := r
  refine ⟨h0, ?_⟩
  show match ixN (xs.map e).length q with | some m => _ | none => False
  rw [List.length_map, h1]
  show match (xs.map e)[t]? with | some v => _ | none => False
  rw [List.getElem?_map, h2]
  have := hk _ v _ ((m.set j _).set i _) h3
  rw [map_erase] at this
  exact this
theorem ts_parP (i j : Nat) {d1 : DT_} {dn : DN_} {w : W α} {w' : W (List β)} {k : α → List β → Prop} (h : TE ps d1 e w) (h' : TN ps dn f w') (hk : ∀ x y, TS ((ps.set i (some (.v (e x)))).set j (some (.own (y.map f)))) u De (k x y)) :
    TS ps (dSeq (dParP i j d1 dn) u) De (bindP w (fun x => bindP w' (fun y => k x y) De.ex) De.ex) := fun env m p =>
  h env m _ _ _ (fun x q => h' env m _ _ _ (fun y q => hk x y _ ((m.set i _).set j _) q) q) p
theorem ts_parOO (i j : Nat) {dn dm : DN_} {w : W (List α)} {w' : W (List β)} {k : List α → List β → Prop} (h : TN ps dn e w) (h' : TN ps dm f w') (hk : ∀ x y, TS ((ps.set i (some (.own (x.map e)))).set j (some (.own (y.map f)))) u De (k x y)) :
    TS ps (dSeq (dParOO i j dn dm) u) De (bindP w (fun x => bindP w' (fun y => k x y) De.ex) De.ex) := fun env m p =>
  h env m _ _ _ (fun x q => h' env m _ _ _ (fun y q => hk x y _ ((m.set i _).set j _) q) q) p
theorem ts_par3 (i j l : Nat) {γ : Type} {g : γ → D} {w'' : W γ} {d1 d2 d3 : DT_} {k : α → β → γ → Prop} (h : TE ps d1 e w) (h' : TE ps d2 f w') (h'' : TE ps d3 g w'') (hk : ∀ x y z, TS (((ps.set i (some (.v (e x)))).set j (some (.v (f y)))).set l (some (.v (g z)))) u De (k x y z)) :
    TS ps (dSeq (dPar3 i j l (dCons d1 (dCons d2 (dCons d3 dNil)))) u) De (bindP w (fun x => bindP w' (fun y => bindP w'' (fun z => k x y z) De.ex) De.ex) De.ex) := fun env m p =>
  h env m _ _ _ (fun x q => h' env m _ _ _ (fun y q => h'' env m _ _ _ (fun z q => hk x y z _ (((m.set i _).set j _).set l _) q) q) q) p
end
/-- tests as truth values -/
def eqB {α : Type} [DecidableEq α] (x y : α) : Bool := decide (x = y)
def inB {α : Type} [DecidableEq α] (x : α) (xs : List α) : Bool := decide (x ∈ xs)
theorem eqB_iff {α : Type} [DecidableEq α] (x y : α) : (eqB x y = true) = (x = y) := by unfold eqB; simp
theorem inB_iff {α : Type} [DecidableEq α] (x : α) (xs : List α) : (inB x xs = true) = (x ∈ xs) := by unfold inB; simp
theorem eqB_not {α : Type} [DecidableEq α] (x y : α) : (eqB x y = false) = ¬ (x = y) := by unfold eqB; simp
theorem inB_not {α : Type} [DecidableEq α] (x : α) (xs : List α) : (inB x xs = false) = ¬ (x ∈ xs) := by unfold inB; simp
end Dl

set_option Elab.async false
set_option linter.all false
set_option maxRecDepth 100000
set_option maxHeartbeats 4000000
/-! Mn2: contracts by hand: beats of the drum. -/
namespace Dl
open PySem PySem.Spec PyProof.Rows L2
abbrev eDr : Unit → D := fun _ => dDrum
abbrev sp__law_beat : SpD := spBeat
def t__law_beat (_ : Unit) (many : Int) : W Int := fun Q _ => (0 < many ∧ many < 2 ^ 200) ∧ ∀ r, 0 ≤ r → r < many → Q r
theorem c__law_beat (u : Unit) (many : Int) (Qd : DK) (E : EK) (R : Int → Prop) (hr : ∀ r, R r → Qd (eI r)) (q : t__law_beat u many R E) : sp__law_beat [eDr u, eI many] Qd E := ⟨many, rfl, q.1.1, q.1.2, fun r a b => hr r (q.2 r a b)⟩
end Dl

set_option Elab.async false
set_option linter.all false
set_option maxRecDepth 100000
set_option maxHeartbeats 4000000
namespace Dl
open PySem PySem.Spec PyProof.Rows L2
/-! is_integer -/
def t_is_integer (value_1 : D) (low_2 : Int) (high_3 : Int) : W Bool := fun Q E => (if isT "int" (eA value_1) = true then (if (!(isT "bool" (eA value_1))) = true then ∃ y, value_1 = eI y ∧ (if decide (low_2 ≤ y) = true then Q (decide (y ≤ high_3)) else Q false) else Q false) else Q false)
theorem u_is_integer  (value_1 : D) (low_2 : Int) (high_3 : Int) (Q : Bool → Prop) (E : EK) (q : (if isT "int" (eA value_1) = true then (if (!(isT "bool" (eA value_1))) = true then ∃ y, value_1 = eI y ∧ (if decide (low_2 ≤ y) = true then Q (decide (y ≤ high_3)) else Q false) else Q false) else Q false)) : ((bindW (bindW (pureW value_1) fun x => pureW (isT "int" (eA x))) fun c => ifW c (bindW (bindW (bindW (pureW value_1) fun x => pureW (isT "bool" (eA x))) fun c => pureW (!c)) fun c => ifW c (bindW (pureW low_2) fun x => bindW (bindW (pureW value_1) (asW eI)) fun y => bindW (leI x y) fun c => ifW c (bindW (pureW high_3) fun z => leI y z) (pureW false)) (pureW false)) (pureW false)) Q E) := q
def sp_is_integer : SpD := fun ds Qd E => ∃ (value_1 : D) (low_2 : Int) (high_3 : Int) (R : Bool → Prop), ds = [eA value_1, eI low_2, eI high_3] ∧ (∀ r, R r → Qd (eB r)) ∧ t_is_integer value_1 low_2 high_3 R E
theorem c_is_integer (value_1 : D) (low_2 : Int) (high_3 : Int) (Qd : DK) (E : EK) (R : Bool → Prop) (hr : ∀ r, R r → Qd (eB r)) (q : t_is_integer value_1 low_2 high_3 R E) : sp_is_integer [eA value_1, eI low_2, eI high_3] Qd E := ⟨value_1, low_2, high_3, R, rfl, hr, q⟩
theorem len_is_integer : ∀ ds Q E, sp_is_integer ds Q E → ds.length = 3 := by rintro ds Q E ⟨_, _, _, _, rfl, _⟩; rfl
/-! debt_of -/
def t_debt_of (pile_4 : (List (Int × Int))) : W Int := fun Q E => pile_4.length ≤ sizeLine ∧ lcP (fun a Q E => Q true) (fun a Q E => Q a.2) (fun _ => False) pile_4 [] (fun ys => Q ys.sum)
theorem u_debt_of  (pile_4 : (List (Int × Int))) (Q : Int → Prop) (E : EK) (q : pile_4.length ≤ sizeLine ∧ lcP (fun a Q E => Q true) (fun a Q E => Q a.2) (fun _ => False) pile_4 [] (fun ys => Q ys.sum)) : ((bindW (bindW (pureW pile_4) fun xs => lcW (fun a_5 => (pureW true)) (fun a_5 => (pureW a_5.2)) xs) sumW) Q E) := q
def sp_debt_of : SpD := fun ds Qd E => ∃ (pile_4 : (List (Int × Int))) (R : Int → Prop), ds = [(eT (eP eI eI)) pile_4] ∧ (∀ r, R r → Qd (eI r)) ∧ t_debt_of pile_4 R E
theorem c_debt_of (pile_4 : (List (Int × Int))) (Qd : DK) (E : EK) (R : Int → Prop) (hr : ∀ r, R r → Qd (eI r)) (q : t_debt_of pile_4 R E) : sp_debt_of [(eT (eP eI eI)) pile_4] Qd E := ⟨pile_4, R, rfl, hr, q⟩
theorem len_debt_of : ∀ ds Q E, sp_debt_of ds Q E → ds.length = 1 := by rintro ds Q E ⟨_, _, rfl, _⟩; rfl
/-! debts -/
def t_debts (book_6 : (List (Int × (List (Int × Int))))) : W (List Int) := fun Q E => book_6.length ≤ sizeLine ∧ lcP (fun a Q E => Q true) (fun a Q E => t_debt_of a.2 Q E) (fun _ => False) book_6 [] Q
theorem u_debts (b_debt_of : (List (Int × Int)) → W Int) (book_6 : (List (Int × (List (Int × Int))))) (Q : (List Int) → Prop) (E : EK) (q : book_6.length ≤ sizeLine ∧ lcP (fun a Q E => Q true) (fun a Q E => b_debt_of a.2 Q E) (fun _ => False) book_6 [] Q) : ((bindW (bindW (pureW book_6) fun xs => lcW (fun a_7 => (pureW true)) (fun a_7 => (bindW (pureW a_7.2) fun x0 => b_debt_of x0)) xs) sameW) Q E) := q
def sp_debts : SpD := fun ds Qd E => ∃ (book_6 : (List (Int × (List (Int × Int))))) (R : (List Int) → Prop), ds = [(eT (eP eI (eT (eP eI eI)))) book_6] ∧ (∀ r, R r → Qd ((eT eI) r)) ∧ t_debts book_6 R E
theorem c_debts (book_6 : (List (Int × (List (Int × Int))))) (Qd : DK) (E : EK) (R : (List Int) → Prop) (hr : ∀ r, R r → Qd ((eT eI) r)) (q : t_debts book_6 R E) : sp_debts [(eT (eP eI (eT (eP eI eI)))) book_6] Qd E := ⟨book_6, R, rfl, hr, q⟩
theorem len_debts : ∀ ds Q E, sp_debts ds Q E → ds.length = 1 := by rintro ds Q E ⟨_, _, rfl, _⟩; rfl
/-! is_payments -/
def t_is_payments (book_8 : (List (Int × (List (Int × Int))))) (value_9 : D) : W Bool := fun Q E => (if (!(isT "tuple" (eA value_9))) = true then Q false else lenA value_9 (fun r => (if (!(decide (r = (book_8.length : Int)))) = true then Q false else ∃ y, value_9 = (eT eA) y ∧ t_debts book_8 (fun r2 => (y.zip r2).length ≤ sizeLine ∧ lcP (fun a Q E => Q true) (fun a Q E => t_is_integer a.1 (0 : Int) a.2 Q E) (fun _ => False) (y.zip r2) [] (fun ys => Q (ys.all id))) E)) E)
theorem u_is_payments (b_debts : (List (Int × (List (Int × Int)))) → W (List Int)) (b_is_integer : D → Int → Int → W Bool) (book_8 : (List (Int × (List (Int × Int))))) (value_9 : D) (Q : Bool → Prop) (E : EK) (q : (if (!(isT "tuple" (eA value_9))) = true then Q false else lenA value_9 (fun r => (if (!(decide (r = (book_8.length : Int)))) = true then Q false else ∃ y, value_9 = (eT eA) y ∧ b_debts book_8 (fun r2 => (y.zip r2).length ≤ sizeLine ∧ lcP (fun a Q E => Q true) (fun a Q E => b_is_integer a.1 (0 : Int) a.2 Q E) (fun _ => False) (y.zip r2) [] (fun ys => Q (ys.all id))) E)) E)) : bindP (bindW (bindW (bindW (pureW value_9) fun x => pureW (isT "tuple" (eA x))) fun c => pureW (!c)) fun c => ifW c (pureW true) (bindW (bindW (pureW value_9) lenA) fun x => bindW (bindW (pureW book_8) lenW) fun y => neI x y)) (fun b => ifP b (((pureW false) Q E)) (((bindW (bindW (bindW (bindW (pureW value_9) (asW (eT eA))) fun xs => bindW (bindW (pureW book_8) fun x0 => b_debts x0) fun ys => pureW (xs.zip ys)) fun xs => lcW (fun a_10 => (pureW true)) (fun a_10 => (bindW (pureW a_10.1) fun x0 => bindW (pureW (0 : Int)) fun x1 => bindW (pureW a_10.2) fun x2 => b_is_integer x0 x1 x2)) xs) allW) Q E))) E := q
def sp_is_payments : SpD := fun ds Qd E => ∃ (book_8 : (List (Int × (List (Int × Int))))) (value_9 : D) (R : Bool → Prop), ds = [(eT (eP eI (eT (eP eI eI)))) book_8, eA value_9] ∧ (∀ r, R r → Qd (eB r)) ∧ t_is_payments book_8 value_9 R E
theorem c_is_payments (book_8 : (List (Int × (List (Int × Int))))) (value_9 : D) (Qd : DK) (E : EK) (R : Bool → Prop) (hr : ∀ r, R r → Qd (eB r)) (q : t_is_payments book_8 value_9 R E) : sp_is_payments [(eT (eP eI (eT (eP eI eI)))) book_8, eA value_9] Qd E := ⟨book_8, value_9, R, rfl, hr, q⟩
theorem len_is_payments : ∀ ds Q E, sp_is_payments ds Q E → ds.length = 2 := by rintro ds Q E ⟨_, _, _, rfl, _⟩; rfl
/-! parts_of -/
def t_parts_of (pile_11 : (List (Int × Int))) (paid_12 : Int) : W (List Int) := fun Q E => szOk 0 ∧ forP (fun x (s : (List Int) × Int) N B => s.1.length < sizeLine ∧ ∃ x2, atI (s.1 ++ [min x.2 s.2]) (-(1 : Int)) = some x2 ∧ N (s.1 ++ [min x.2 s.2], s.2 - x2)) (fun (s : (List Int) × Int) => Q s.1) pile_11 ([], paid_12)
theorem u_parts_of  (pile_11 : (List (Int × Int))) (paid_12 : Int) (Q : (List Int) → Prop) (E : EK) (q : szOk 0 ∧ forP (fun x (s : (List Int) × Int) N B => s.1.length < sizeLine ∧ ∃ x2, atI (s.1 ++ [min x.2 s.2]) (-(1 : Int)) = some x2 ∧ N (s.1 ++ [min x.2 s.2], s.2 - x2)) (fun (s : (List Int) × Int) => Q s.1) pile_11 ([], paid_12)) : bindP (bindW (pureW []) szW) (fun found_13 => bindP (pureW paid_12) (fun left_14 => bindP (pureW pile_11) (fun xs => forP (fun x_20 (s_19 : (List Int) × Int) N_21 B_22 => bindP (bindW (pureW x_20.2) fun x => bindW (pureW s_19.2) fun y => min2 x y) (fun z_26 => appP s_19.1 (bindP (bindW (pureW s_19.2) fun x => bindW (bindW (pureW (s_19.1 ++ [z_26])) fun x => bindW (bindW (pureW (1 : Int)) fun i => pureW (-i)) fun y => ixW x y) fun y => subI x y) (fun left_27 => N_21 ((s_19.1 ++ [z_26]), left_27)) E)) E) (fun (s_19 : (List Int) × Int) => ((bindW (pureW s_19.1) sameW) Q E)) xs (found_13, left_14)) E) E) E := q
def sp_parts_of : SpD := fun ds Qd E => ∃ (pile_11 : (List (Int × Int))) (paid_12 : Int) (R : (List Int) → Prop), ds = [(eT (eP eI eI)) pile_11, eI paid_12] ∧ (∀ r, R r → Qd ((eT eI) r)) ∧ t_parts_of pile_11 paid_12 R E
theorem c_parts_of (pile_11 : (List (Int × Int))) (paid_12 : Int) (Qd : DK) (E : EK) (R : (List Int) → Prop) (hr : ∀ r, R r → Qd ((eT eI) r)) (q : t_parts_of pile_11 paid_12 R E) : sp_parts_of [(eT (eP eI eI)) pile_11, eI paid_12] Qd E := ⟨pile_11, paid_12, R, rfl, hr, q⟩
theorem len_parts_of : ∀ ds Q E, sp_parts_of ds Q E → ds.length = 2 := by rintro ds Q E ⟨_, _, _, rfl, _⟩; rfl
/-! slips_paid -/
def t_slips_paid (book_28 : (List (Int × (List (Int × Int))))) (payments_29 : (List Int)) : W (List (List Int)) := fun Q E => (book_28.zip payments_29).length ≤ sizeLine ∧ lcP (fun a Q E => Q true) (fun a Q E => t_parts_of a.1.2 a.2 Q E) (fun _ => False) (book_28.zip payments_29) [] Q
theorem u_slips_paid (b_parts_of : (List (Int × Int)) → Int → W (List Int)) (book_28 : (List (Int × (List (Int × Int))))) (payments_29 : (List Int)) (Q : (List (List Int)) → Prop) (E : EK) (q : (book_28.zip payments_29).length ≤ sizeLine ∧ lcP (fun a Q E => Q true) (fun a Q E => b_parts_of a.1.2 a.2 Q E) (fun _ => False) (book_28.zip payments_29) [] Q) : ((bindW (bindW (bindW (pureW book_28) fun xs => bindW (pureW payments_29) fun ys => pureW (xs.zip ys)) fun xs => lcW (fun a_30 => (pureW true)) (fun a_30 => (bindW (pureW a_30.1.2) fun x0 => bindW (pureW a_30.2) fun x1 => b_parts_of x0 x1)) xs) sameW) Q E) := q
def sp_slips_paid : SpD := fun ds Qd E => ∃ (book_28 : (List (Int × (List (Int × Int))))) (payments_29 : (List Int)) (R : (List (List Int)) → Prop), ds = [(eT (eP eI (eT (eP eI eI)))) book_28, (eT eI) payments_29] ∧ (∀ r, R r → Qd ((eT (eT eI)) r)) ∧ t_slips_paid book_28 payments_29 R E
theorem c_slips_paid (book_28 : (List (Int × (List (Int × Int))))) (payments_29 : (List Int)) (Qd : DK) (E : EK) (R : (List (List Int)) → Prop) (hr : ∀ r, R r → Qd ((eT (eT eI)) r)) (q : t_slips_paid book_28 payments_29 R E) : sp_slips_paid [(eT (eP eI (eT (eP eI eI)))) book_28, (eT eI) payments_29] Qd E := ⟨book_28, payments_29, R, rfl, hr, q⟩
theorem len_slips_paid : ∀ ds Q E, sp_slips_paid ds Q E → ds.length = 2 := by rintro ds Q E ⟨_, _, _, rfl, _⟩; rfl
/-! received -/
def t_received (book_31 : (List (Int × (List (Int × Int))))) (payments_32 : (List Int)) : W (List Int) := fun Q E => book_31.length ≤ sizeLine ∧ lcP (fun a Q E => Q true) (fun a Q E => Q (0 : Int)) (fun _ => False) book_31 [] (fun ys => t_slips_paid book_31 payments_32 (fun r => forP (fun x (s : (List Int)) N B => forP (fun x2 (s2 : (List Int)) N2 B2 => ∃ x3, atI s2 x2.1.1 = some x3 ∧ ∃ j, ixN s2.length x2.1.1 = some j ∧ N2 (s2.set j (x3 + x2.2))) (fun (s2 : (List Int)) => N s2) (x.1.2.zip x.2) s) (fun (s : (List Int)) => Q s) (book_31.zip r) ys) E)
theorem u_received (b_slips_paid : (List (Int × (List (Int × Int)))) → (List Int) → W (List (List Int))) (book_31 : (List (Int × (List (Int × Int))))) (payments_32 : (List Int)) (Q : (List Int) → Prop) (E : EK) (q : book_31.length ≤ sizeLine ∧ lcP (fun a Q E => Q true) (fun a Q E => Q (0 : Int)) (fun _ => False) book_31 [] (fun ys => b_slips_paid book_31 payments_32 (fun r => forP (fun x (s : (List Int)) N B => forP (fun x2 (s2 : (List Int)) N2 B2 => ∃ x3, atI s2 x2.1.1 = some x3 ∧ ∃ j, ixN s2.length x2.1.1 = some j ∧ N2 (s2.set j (x3 + x2.2))) (fun (s2 : (List Int)) => N s2) (x.1.2.zip x.2) s) (fun (s : (List Int)) => Q s) (book_31.zip r) ys) E)) : bindP (bindW (pureW book_31) fun xs => lcW (fun a_34 => (pureW true)) (fun a_34 => (pureW (0 : Int))) xs) (fun found_33 => bindP (bindW (pureW book_31) fun xs => bindW (bindW (pureW book_31) fun x0 => bindW (pureW payments_32) fun x1 => b_slips_paid x0 x1) fun ys => pureW (xs.zip ys)) (fun xs => forP (fun x_53 (s_52 : (List Int)) N_54 B_55 => bindP (bindW (pureW x_53.1.2) fun xs => bindW (pureW x_53.2) fun ys => pureW (xs.zip ys)) (fun xs => forP (fun x_65 (s_64 : (List Int)) N_66 B_67 => bindP (bindW (bindW (pureW s_64) fun x => bindW (pureW x_65.1.1) fun y => ixW x y) fun x => bindW (pureW x_65.2) fun y => addI x y) (fun y_72 => bindP (pureW x_65.1.1) (fun j_73 => setixP s_64 j_73 y_72 (fun found_71 => N_66 found_71)) E) E) (fun (s_64 : (List Int)) => N_54 s_64) xs s_52) E) (fun (s_52 : (List Int)) => ((bindW (pureW s_52) sameW) Q E)) xs found_33) E) E := q
def sp_received : SpD := fun ds Qd E => ∃ (book_31 : (List (Int × (List (Int × Int))))) (payments_32 : (List Int)) (R : (List Int) → Prop), ds = [(eT (eP eI (eT (eP eI eI)))) book_31, (eT eI) payments_32] ∧ (∀ r, R r → Qd ((eT eI) r)) ∧ t_received book_31 payments_32 R E
theorem c_received (book_31 : (List (Int × (List (Int × Int))))) (payments_32 : (List Int)) (Qd : DK) (E : EK) (R : (List Int) → Prop) (hr : ∀ r, R r → Qd ((eT eI) r)) (q : t_received book_31 payments_32 R E) : sp_received [(eT (eP eI (eT (eP eI eI)))) book_31, (eT eI) payments_32] Qd E := ⟨book_31, payments_32, R, rfl, hr, q⟩
theorem len_received : ∀ ds Q E, sp_received ds Q E → ds.length = 2 := by rintro ds Q E ⟨_, _, _, rfl, _⟩; rfl
/-! settlement_error -/
def t_settlement_error (book_74 : (List (Int × (List (Int × Int))))) (value_75 : D) : W D := fun Q E => t_is_payments book_74 value_75 (fun r => (if (!r) = true then Q (eP eN eS ((), ("payments" : Str))) else t_debts book_74 (fun r2 => ∃ y, value_75 = (eT eI) y ∧ t_received book_74 y (fun r3 => ∃ y2, value_75 = (eT eA) y2 ∧ forP (fun x (s : Unit) N B => ∃ x2, atI r2 x.1 = some x2 ∧ ∃ x3, atI book_74 x.1 = some x3 ∧ ∃ x4, atI r3 x.1 = some x4 ∧ neA x.2 (eI (min x2 (x3.1 + x4))) (fun r4 => (if r4 = true then ∃ y3, x.2 = eI y3 ∧ (if decide (y3 < min x2 (x3.1 + x4)) = true then Q (eP eI eS (x.1, ("less" : Str))) else Q (eP eI eS (x.1, ("more" : Str)))) else N ())) E) (fun (s : Unit) => Q (eN ())) (enI y2) ()) E) E)) E
theorem u_settlement_error (b_is_payments : (List (Int × (List (Int × Int)))) → D → W Bool) (b_debts : (List (Int × (List (Int × Int)))) → W (List Int)) (b_received : (List (Int × (List (Int × Int)))) → (List Int) → W (List Int)) (book_74 : (List (Int × (List (Int × Int))))) (value_75 : D) (Q : D → Prop) (E : EK) (q : b_is_payments book_74 value_75 (fun r => (if (!r) = true then Q (eP eN eS ((), ("payments" : Str))) else b_debts book_74 (fun r2 => ∃ y, value_75 = (eT eI) y ∧ b_received book_74 y (fun r3 => ∃ y2, value_75 = (eT eA) y2 ∧ forP (fun x (s : Unit) N B => ∃ x2, atI r2 x.1 = some x2 ∧ ∃ x3, atI book_74 x.1 = some x3 ∧ ∃ x4, atI r3 x.1 = some x4 ∧ neA x.2 (eI (min x2 (x3.1 + x4))) (fun r4 => (if r4 = true then ∃ y3, x.2 = eI y3 ∧ (if decide (y3 < min x2 (x3.1 + x4)) = true then Q (eP eI eS (x.1, ("less" : Str))) else Q (eP eI eS (x.1, ("more" : Str)))) else N ())) E) (fun (s : Unit) => Q (eN ())) (enI y2) ()) E) E)) E) : bindP (bindW (bindW (pureW book_74) fun x0 => bindW (pureW value_75) fun x1 => b_is_payments x0 x1) fun c => pureW (!c)) (fun b => ifP b (((bindW (bindW (pureW ()) fun x => bindW (pureW ("payments" : Str)) fun y => pureW (x, y)) fun x => pureW ((eP eN eS) x)) Q E)) (bindP (bindW (pureW book_74) fun x0 => b_debts x0) (fun limits_76 => bindP (bindW (pureW book_74) fun x0 => bindW (bindW (pureW value_75) (asW (eT eI))) fun x1 => b_received x0 x1) (fun more_77 => bindP (bindW (bindW (pureW value_75) (asW (eT eA))) fun xs => pureW (enI xs)) (fun xs => forP (fun x_82 (s_81 : Unit) N_83 B_84 => bindP (bindW (bindW (pureW limits_76) fun x => bindW (pureW x_82.1) fun y => ixW x y) fun x => bindW (bindW (bindW (bindW (pureW book_74) fun x => bindW (pureW x_82.1) fun y => ixW x y) fun p => pureW p.1) fun x => bindW (bindW (pureW more_77) fun x => bindW (pureW x_82.1) fun y => ixW x y) fun y => addI x y) fun y => min2 x y) (fun due_88 => bindP (bindW (pureW x_82.2) fun x => bindW (bindW (pureW due_88) fun x => pureW (eI x)) fun y => neA x y) (fun b => ifP b (((bindW (bindW (pureW x_82.1) fun x => bindW (bindW (bindW (bindW (pureW x_82.2) (asW eI)) fun x => bindW (pureW due_88) fun y => ltI x y) fun c => ifW c (pureW ("less" : Str)) (pureW ("more" : Str))) fun y => pureW (x, y)) fun x => pureW ((eP eI eS) x)) Q E)) (N_83 ())) E) E) (fun (s_81 : Unit) => ((bindW (pureW ()) fun x => pureW (eN x)) Q E)) xs ()) E) E) E)) E := q
def sp_settlement_error : SpD := fun ds Qd E => ∃ (book_74 : (List (Int × (List (Int × Int))))) (value_75 : D) (R : D → Prop), ds = [(eT (eP eI (eT (eP eI eI)))) book_74, eA value_75] ∧ (∀ r, R r → Qd (eA r)) ∧ t_settlement_error book_74 value_75 R E
theorem c_settlement_error (book_74 : (List (Int × (List (Int × Int))))) (value_75 : D) (Qd : DK) (E : EK) (R : D → Prop) (hr : ∀ r, R r → Qd (eA r)) (q : t_settlement_error book_74 value_75 R E) : sp_settlement_error [(eT (eP eI (eT (eP eI eI)))) book_74, eA value_75] Qd E := ⟨book_74, value_75, R, rfl, hr, q⟩
theorem len_settlement_error : ∀ ds Q E, sp_settlement_error ds Q E → ds.length = 2 := by rintro ds Q E ⟨_, _, _, rfl, _⟩; rfl
/-! is_settlement -/
def t_is_settlement (book_89 : (List (Int × (List (Int × Int))))) (value_90 : D) : W Bool := fun Q E => t_settlement_error book_89 value_90 (fun r => Q (isNon (eA r))) E
theorem u_is_settlement (b_settlement_error : (List (Int × (List (Int × Int)))) → D → W D) (book_89 : (List (Int × (List (Int × Int))))) (value_90 : D) (Q : Bool → Prop) (E : EK) (q : b_settlement_error book_89 value_90 (fun r => Q (isNon (eA r))) E) : ((bindW (bindW (pureW book_89) fun x0 => bindW (pureW value_90) fun x1 => b_settlement_error x0 x1) fun x => pureW (isNon (eA x))) Q E) := q
def sp_is_settlement : SpD := fun ds Qd E => ∃ (book_89 : (List (Int × (List (Int × Int))))) (value_90 : D) (R : Bool → Prop), ds = [(eT (eP eI (eT (eP eI eI)))) book_89, eA value_90] ∧ (∀ r, R r → Qd (eB r)) ∧ t_is_settlement book_89 value_90 R E
theorem c_is_settlement (book_89 : (List (Int × (List (Int × Int))))) (value_90 : D) (Qd : DK) (E : EK) (R : Bool → Prop) (hr : ∀ r, R r → Qd (eB r)) (q : t_is_settlement book_89 value_90 R E) : sp_is_settlement [(eT (eP eI (eT (eP eI eI)))) book_89, eA value_90] Qd E := ⟨book_89, value_90, R, rfl, hr, q⟩
theorem len_is_settlement : ∀ ds Q E, sp_is_settlement ds Q E → ds.length = 2 := by rintro ds Q E ⟨_, _, _, rfl, _⟩; rfl
/-! _law_book -/
def t__law_book (drum_here_91 : Unit) (most_92 : Int) (slips_93 : Int) (top_94 : Int) : W (List (Int × (List (Int × Int)))) := fun Q E => t__law_beat drum_here_91 most_92 (fun r => szOk 0 ∧ in62 ((1 : Int) + r) ∧ forP (fun x (s : (List (Int × (List (Int × Int))))) N B => t__law_beat drum_here_91 (3 : Int) (fun r2 => t__law_beat drum_here_91 (top_94 + (1 : Int)) (fun r3 => szOk 4 ∧ t__law_beat drum_here_91 (4 : Int) (fun r4 => ∃ x2, atI [(0 : Int), (0 : Int), r2, r3] r4 = some x2 ∧ szOk 0 ∧ t__law_beat drum_here_91 (slips_93 + (1 : Int)) (fun r5 => CMul r5 (if decide ((1 : Int) < (1 : Int) + r) = true then 1 else 0 : Int) ∧ in62 (r5 * (if decide ((1 : Int) < (1 : Int) + r) = true then 1 else 0 : Int)) ∧ forP (fun x3 (s2 : (List (Int × Int))) N2 B2 => t__law_beat drum_here_91 ((1 : Int) + r - (1 : Int)) (fun r6 => szOk 2 ∧ t__law_beat drum_here_91 (2 : Int) (fun r7 => ∃ x4, atI [(0 : Int), r6] r7 = some x4 ∧ 0 < (1 : Int) + r ∧ t__law_beat drum_here_91 top_94 (fun r8 => s2.length < sizeLine ∧ N2 (s2 ++ [((x + (1 : Int) + x4) % ((1 : Int) + r), (1 : Int) + r8)])) E) E) E) (fun (s2 : (List (Int × Int))) => s.length < sizeLine ∧ N (s ++ [(x2, s2)])) (rgI 0 (r5 * (if decide ((1 : Int) < (1 : Int) + r) = true then 1 else 0 : Int)).toNat) []) E) E) E) E) (fun (s : (List (Int × (List (Int × Int))))) => Q s) (rgI 0 ((1 : Int) + r).toNat) []) E
theorem u__law_book (b__law_beat : Unit → Int → W Int) (drum_here_91 : Unit) (most_92 : Int) (slips_93 : Int) (top_94 : Int) (Q : (List (Int × (List (Int × Int)))) → Prop) (E : EK) (q : b__law_beat drum_here_91 most_92 (fun r => szOk 0 ∧ in62 ((1 : Int) + r) ∧ forP (fun x (s : (List (Int × (List (Int × Int))))) N B => b__law_beat drum_here_91 (3 : Int) (fun r2 => b__law_beat drum_here_91 (top_94 + (1 : Int)) (fun r3 => szOk 4 ∧ b__law_beat drum_here_91 (4 : Int) (fun r4 => ∃ x2, atI [(0 : Int), (0 : Int), r2, r3] r4 = some x2 ∧ szOk 0 ∧ b__law_beat drum_here_91 (slips_93 + (1 : Int)) (fun r5 => CMul r5 (if decide ((1 : Int) < (1 : Int) + r) = true then 1 else 0 : Int) ∧ in62 (r5 * (if decide ((1 : Int) < (1 : Int) + r) = true then 1 else 0 : Int)) ∧ forP (fun x3 (s2 : (List (Int × Int))) N2 B2 => b__law_beat drum_here_91 ((1 : Int) + r - (1 : Int)) (fun r6 => szOk 2 ∧ b__law_beat drum_here_91 (2 : Int) (fun r7 => ∃ x4, atI [(0 : Int), r6] r7 = some x4 ∧ 0 < (1 : Int) + r ∧ b__law_beat drum_here_91 top_94 (fun r8 => s2.length < sizeLine ∧ N2 (s2 ++ [((x + (1 : Int) + x4) % ((1 : Int) + r), (1 : Int) + r8)])) E) E) E) (fun (s2 : (List (Int × Int))) => s.length < sizeLine ∧ N (s ++ [(x2, s2)])) (rgI 0 (r5 * (if decide ((1 : Int) < (1 : Int) + r) = true then 1 else 0 : Int)).toNat) []) E) E) E) E) (fun (s : (List (Int × (List (Int × Int))))) => Q s) (rgI 0 ((1 : Int) + r).toNat) []) E) : bindP (bindW (pureW (1 : Int)) fun x => bindW (bindW (pureW drum_here_91) fun x0 => bindW (pureW most_92) fun x1 => b__law_beat x0 x1) fun y => addI x y) (fun many_95 => bindP (bindW (pureW []) szW) (fun found_96 => bindP (bindW (pureW many_95) rng1W) (fun xs => forP (fun x_116 (s_115 : (List (Int × (List (Int × Int))))) N_117 B_118 => bindP (bindW (bindW (bindW (pureW (0 : Int)) fun x => bindW (bindW (pureW (0 : Int)) fun x => bindW (bindW (bindW (pureW drum_here_91) fun x0 => bindW (pureW (3 : Int)) fun x1 => b__law_beat x0 x1) fun x => bindW (bindW (bindW (pureW drum_here_91) fun x0 => bindW (bindW (pureW top_94) fun x => bindW (pureW (1 : Int)) fun y => addI x y) fun x1 => b__law_beat x0 x1) fun x => bindW (pureW []) fun xs => pureW (x :: xs)) fun xs => pureW (x :: xs)) fun xs => pureW (x :: xs)) fun xs => pureW (x :: xs)) szW) fun x => bindW (bindW (pureW drum_here_91) fun x0 => bindW (pureW (4 : Int)) fun x1 => b__law_beat x0 x1) fun y => ixW x y) (fun purse_122 => bindP (bindW (pureW []) szW) (fun pile_123 => bindP (bindW (bindW (bindW (pureW drum_here_91) fun x0 => bindW (bindW (pureW slips_93) fun x => bindW (pureW (1 : Int)) fun y => addI x y) fun x1 => b__law_beat x0 x1) fun x => bindW (bindW (bindW (pureW many_95) fun x => bindW (pureW (1 : Int)) fun y => gtI x y) intB) fun y => mulI x y) rng1W) (fun xs => forP (fun x_129 (s_128 : (List (Int × Int))) N_130 B_131 => bindP (bindW (bindW (bindW (pureW (0 : Int)) fun x => bindW (bindW (bindW (pureW drum_here_91) fun x0 => bindW (bindW (pureW many_95) fun x => bindW (pureW (1 : Int)) fun y => subI x y) fun x1 => b__law_beat x0 x1) fun x => bindW (pureW []) fun xs => pureW (x :: xs)) fun xs => pureW (x :: xs)) szW) fun x => bindW (bindW (pureW drum_here_91) fun x0 => bindW (pureW (2 : Int)) fun x1 => b__law_beat x0 x1) fun y => ixW x y) (fun step_135 => bindP (bindW (bindW (bindW (bindW (pureW x_116) fun x => bindW (pureW (1 : Int)) fun y => addI x y) fun x => bindW (pureW step_135) fun y => addI x y) fun x => bindW (pureW many_95) fun y => modI x y) fun x => bindW (bindW (pureW (1 : Int)) fun x => bindW (bindW (pureW drum_here_91) fun x0 => bindW (pureW top_94) fun x1 => b__law_beat x0 x1) fun y => addI x y) fun y => pureW (x, y)) (fun z_136 => appP s_128 (N_130 (s_128 ++ [z_136]))) E) E) (fun (s_128 : (List (Int × Int))) => bindP (bindW (pureW purse_122) fun x => bindW (bindW (pureW s_128) sameW) fun y => pureW (x, y)) (fun z_137 => appP s_115 (N_117 (s_115 ++ [z_137]))) E) xs pile_123) E) E) E) (fun (s_115 : (List (Int × (List (Int × Int))))) => ((bindW (pureW s_115) sameW) Q E)) xs found_96) E) E) E := q
def sp__law_book : SpD := fun ds Qd E => ∃ (drum_here_91 : Unit) (most_92 : Int) (slips_93 : Int) (top_94 : Int) (R : (List (Int × (List (Int × Int)))) → Prop), ds = [eDr drum_here_91, eI most_92, eI slips_93, eI top_94] ∧ (∀ r, R r → Qd ((eT (eP eI (eT (eP eI eI)))) r)) ∧ t__law_book drum_here_91 most_92 slips_93 top_94 R E
theorem c__law_book (drum_here_91 : Unit) (most_92 : Int) (slips_93 : Int) (top_94 : Int) (Qd : DK) (E : EK) (R : (List (Int × (List (Int × Int)))) → Prop) (hr : ∀ r, R r → Qd ((eT (eP eI (eT (eP eI eI)))) r)) (q : t__law_book drum_here_91 most_92 slips_93 top_94 R E) : sp__law_book [eDr drum_here_91, eI most_92, eI slips_93, eI top_94] Qd E := ⟨drum_here_91, most_92, slips_93, top_94, R, rfl, hr, q⟩
theorem len__law_book : ∀ ds Q E, sp__law_book ds Q E → ds.length = 4 := by rintro ds Q E ⟨_, _, _, _, _, rfl, _⟩; rfl
/-! _law_debts -/
def t__law_debts (book_here_138 : (List (Int × (List (Int × Int))))) : W (List Int) := fun Q E => book_here_138.length ≤ sizeLine ∧ lcP (fun a Q E => Q true) (fun a Q E => a.2.length ≤ sizeLine ∧ lcP (fun a2 Q E => Q true) (fun a2 Q E => Q a2.2) (fun _ => False) a.2 [] (fun ys => Q ys.sum)) (fun _ => False) book_here_138 [] Q
theorem u__law_debts  (book_here_138 : (List (Int × (List (Int × Int))))) (Q : (List Int) → Prop) (E : EK) (q : book_here_138.length ≤ sizeLine ∧ lcP (fun a Q E => Q true) (fun a Q E => a.2.length ≤ sizeLine ∧ lcP (fun a2 Q E => Q true) (fun a2 Q E => Q a2.2) (fun _ => False) a.2 [] (fun ys => Q ys.sum)) (fun _ => False) book_here_138 [] Q) : ((bindW (pureW book_here_138) fun xs => lcW (fun a_139 => (pureW true)) (fun a_139 => (bindW (bindW (pureW a_139.2) fun xs => lcW (fun a_140 => (pureW true)) (fun a_140 => (pureW a_140.2)) xs) sumW)) xs) Q E) := q
def sp__law_debts : SpD := fun ds Qd E => ∃ (book_here_138 : (List (Int × (List (Int × Int))))) (R : (List Int) → Prop), ds = [(eT (eP eI (eT (eP eI eI)))) book_here_138] ∧ (∀ r, R r → Qd ((eL eI) r)) ∧ t__law_debts book_here_138 R E
theorem c__law_debts (book_here_138 : (List (Int × (List (Int × Int))))) (Qd : DK) (E : EK) (R : (List Int) → Prop) (hr : ∀ r, R r → Qd ((eL eI) r)) (q : t__law_debts book_here_138 R E) : sp__law_debts [(eT (eP eI (eT (eP eI eI)))) book_here_138] Qd E := ⟨book_here_138, R, rfl, hr, q⟩
theorem len__law_debts : ∀ ds Q E, sp__law_debts ds Q E → ds.length = 1 := by rintro ds Q E ⟨_, _, rfl, _⟩; rfl
/-! _law_parts -/
def t__law_parts (pile_141 : (List (Int × Int))) (paid_142 : Int) : W (List Int) := fun Q E => szOk 0 ∧ forP (fun x (s : (List Int) × Int) N B => s.1.length < sizeLine ∧ ∃ x2, atI (s.1 ++ [min x.2 s.2]) (-(1 : Int)) = some x2 ∧ N (s.1 ++ [min x.2 s.2], s.2 - x2)) (fun (s : (List Int) × Int) => Q s.1) pile_141 ([], paid_142)
theorem u__law_parts  (pile_141 : (List (Int × Int))) (paid_142 : Int) (Q : (List Int) → Prop) (E : EK) (q : szOk 0 ∧ forP (fun x (s : (List Int) × Int) N B => s.1.length < sizeLine ∧ ∃ x2, atI (s.1 ++ [min x.2 s.2]) (-(1 : Int)) = some x2 ∧ N (s.1 ++ [min x.2 s.2], s.2 - x2)) (fun (s : (List Int) × Int) => Q s.1) pile_141 ([], paid_142)) : bindP (bindW (pureW []) szW) (fun found_143 => bindP (pureW paid_142) (fun left_144 => bindP (pureW pile_141) (fun xs => forP (fun x_150 (s_149 : (List Int) × Int) N_151 B_152 => bindP (bindW (pureW x_150.2) fun x => bindW (pureW s_149.2) fun y => min2 x y) (fun z_156 => appP s_149.1 (bindP (bindW (pureW s_149.2) fun x => bindW (bindW (pureW (s_149.1 ++ [z_156])) fun x => bindW (bindW (pureW (1 : Int)) fun i => pureW (-i)) fun y => ixW x y) fun y => subI x y) (fun left_157 => N_151 ((s_149.1 ++ [z_156]), left_157)) E)) E) (fun (s_149 : (List Int) × Int) => ((pureW s_149.1) Q E)) xs (found_143, left_144)) E) E) E := q
def sp__law_parts : SpD := fun ds Qd E => ∃ (pile_141 : (List (Int × Int))) (paid_142 : Int) (R : (List Int) → Prop), ds = [(eT (eP eI eI)) pile_141, eI paid_142] ∧ (∀ r, R r → Qd ((eL eI) r)) ∧ t__law_parts pile_141 paid_142 R E
theorem c__law_parts (pile_141 : (List (Int × Int))) (paid_142 : Int) (Qd : DK) (E : EK) (R : (List Int) → Prop) (hr : ∀ r, R r → Qd ((eL eI) r)) (q : t__law_parts pile_141 paid_142 R E) : sp__law_parts [(eT (eP eI eI)) pile_141, eI paid_142] Qd E := ⟨pile_141, paid_142, R, rfl, hr, q⟩
theorem len__law_parts : ∀ ds Q E, sp__law_parts ds Q E → ds.length = 2 := by rintro ds Q E ⟨_, _, _, rfl, _⟩; rfl
/-! _law_got -/
def t__law_got (book_here_158 : (List (Int × (List (Int × Int))))) (payments_159 : (List Int)) : W (List Int) := fun Q E => szOk 1 ∧ (-(2 ^ 63) ≤ (book_here_158.length : Int) ∧ (book_here_158.length : Int) < 2 ^ 63 ∧ szOk ([(0 : Int)].length * (book_here_158.length : Int).toNat)) ∧ forP (fun x (s : (List Int)) N B => t__law_parts x.1.2 x.2 (fun r => forP (fun x2 (s2 : (List Int)) N2 B2 => ∃ x3, atI s2 x2.1.1 = some x3 ∧ ∃ j, ixN s2.length x2.1.1 = some j ∧ N2 (s2.set j (x3 + x2.2))) (fun (s2 : (List Int)) => N s2) (x.1.2.zip r) s) E) (fun (s : (List Int)) => Q s) (book_here_158.zip payments_159) ((List.replicate (book_here_158.length : Int).toNat [(0 : Int)]).flatten)
theorem u__law_got (b__law_parts : (List (Int × Int)) → Int → W (List Int)) (book_here_158 : (List (Int × (List (Int × Int))))) (payments_159 : (List Int)) (Q : (List Int) → Prop) (E : EK) (q : szOk 1 ∧ (-(2 ^ 63) ≤ (book_here_158.length : Int) ∧ (book_here_158.length : Int) < 2 ^ 63 ∧ szOk ([(0 : Int)].length * (book_here_158.length : Int).toNat)) ∧ forP (fun x (s : (List Int)) N B => b__law_parts x.1.2 x.2 (fun r => forP (fun x2 (s2 : (List Int)) N2 B2 => ∃ x3, atI s2 x2.1.1 = some x3 ∧ ∃ j, ixN s2.length x2.1.1 = some j ∧ N2 (s2.set j (x3 + x2.2))) (fun (s2 : (List Int)) => N s2) (x.1.2.zip r) s) E) (fun (s : (List Int)) => Q s) (book_here_158.zip payments_159) ((List.replicate (book_here_158.length : Int).toNat [(0 : Int)]).flatten)) : bindP (bindW (bindW (bindW (pureW (0 : Int)) fun x => bindW (pureW []) fun xs => pureW (x :: xs)) szW) fun x => bindW (bindW (pureW book_here_158) lenW) fun y => repL x y) (fun found_160 => bindP (bindW (pureW book_here_158) fun xs => bindW (pureW payments_159) fun ys => pureW (xs.zip ys)) (fun xs => forP (fun x_179 (s_178 : (List Int)) N_180 B_181 => bindP (bindW (pureW x_179.1.2) fun xs => bindW (bindW (pureW x_179.1.2) fun x0 => bindW (pureW x_179.2) fun x1 => b__law_parts x0 x1) fun ys => pureW (xs.zip ys)) (fun xs => forP (fun x_191 (s_190 : (List Int)) N_192 B_193 => bindP (bindW (bindW (pureW s_190) fun x => bindW (pureW x_191.1.1) fun y => ixW x y) fun x => bindW (pureW x_191.2) fun y => addI x y) (fun y_198 => bindP (pureW x_191.1.1) (fun j_199 => setixP s_190 j_199 y_198 (fun found_197 => N_192 found_197)) E) E) (fun (s_190 : (List Int)) => N_180 s_190) xs s_178) E) (fun (s_178 : (List Int)) => ((pureW s_178) Q E)) xs found_160) E) E := q
def sp__law_got : SpD := fun ds Qd E => ∃ (book_here_158 : (List (Int × (List (Int × Int))))) (payments_159 : (List Int)) (R : (List Int) → Prop), ds = [(eT (eP eI (eT (eP eI eI)))) book_here_158, (eT eI) payments_159] ∧ (∀ r, R r → Qd ((eL eI) r)) ∧ t__law_got book_here_158 payments_159 R E
theorem c__law_got (book_here_158 : (List (Int × (List (Int × Int))))) (payments_159 : (List Int)) (Qd : DK) (E : EK) (R : (List Int) → Prop) (hr : ∀ r, R r → Qd ((eL eI) r)) (q : t__law_got book_here_158 payments_159 R E) : sp__law_got [(eT (eP eI (eT (eP eI eI)))) book_here_158, (eT eI) payments_159] Qd E := ⟨book_here_158, payments_159, R, rfl, hr, q⟩
theorem len__law_got : ∀ ds Q E, sp__law_got ds Q E → ds.length = 2 := by rintro ds Q E ⟨_, _, _, rfl, _⟩; rfl
/-! _law_held -/
def t__law_held (book_here_200 : (List (Int × (List (Int × Int))))) (payments_201 : (List Int)) : W (List Int) := fun Q E => t__law_got book_here_200 payments_201 (fun r => in62 (book_here_200.length : Int) ∧ (rgI 0 (book_here_200.length : Int).toNat).length ≤ sizeLine ∧ lcP (fun a Q E => Q true) (fun a Q E => ∃ x, atI book_here_200 a = some x ∧ ∃ x2, atI r a = some x2 ∧ ∃ x3, atI payments_201 a = some x3 ∧ Q (x.1 + x2 - x3)) (fun _ => False) (rgI 0 (book_here_200.length : Int).toNat) [] Q) E
theorem u__law_held (b__law_got : (List (Int × (List (Int × Int)))) → (List Int) → W (List Int)) (book_here_200 : (List (Int × (List (Int × Int))))) (payments_201 : (List Int)) (Q : (List Int) → Prop) (E : EK) (q : b__law_got book_here_200 payments_201 (fun r => in62 (book_here_200.length : Int) ∧ (rgI 0 (book_here_200.length : Int).toNat).length ≤ sizeLine ∧ lcP (fun a Q E => Q true) (fun a Q E => ∃ x, atI book_here_200 a = some x ∧ ∃ x2, atI r a = some x2 ∧ ∃ x3, atI payments_201 a = some x3 ∧ Q (x.1 + x2 - x3)) (fun _ => False) (rgI 0 (book_here_200.length : Int).toNat) [] Q) E) : bindP (bindW (pureW book_here_200) fun x0 => bindW (pureW payments_201) fun x1 => b__law_got x0 x1) (fun got_here_202 => ((bindW (bindW (bindW (pureW book_here_200) lenW) rng1W) fun xs => lcW (fun a_203 => (pureW true)) (fun a_203 => (bindW (bindW (bindW (bindW (pureW book_here_200) fun x => bindW (pureW a_203) fun y => ixW x y) fun p => pureW p.1) fun x => bindW (bindW (pureW got_here_202) fun x => bindW (pureW a_203) fun y => ixW x y) fun y => addI x y) fun x => bindW (bindW (pureW payments_201) fun x => bindW (pureW a_203) fun y => ixW x y) fun y => subI x y)) xs) Q E)) E := q
def sp__law_held : SpD := fun ds Qd E => ∃ (book_here_200 : (List (Int × (List (Int × Int))))) (payments_201 : (List Int)) (R : (List Int) → Prop), ds = [(eT (eP eI (eT (eP eI eI)))) book_here_200, (eT eI) payments_201] ∧ (∀ r, R r → Qd ((eL eI) r)) ∧ t__law_held book_here_200 payments_201 R E
theorem c__law_held (book_here_200 : (List (Int × (List (Int × Int))))) (payments_201 : (List Int)) (Qd : DK) (E : EK) (R : (List Int) → Prop) (hr : ∀ r, R r → Qd ((eL eI) r)) (q : t__law_held book_here_200 payments_201 R E) : sp__law_held [(eT (eP eI (eT (eP eI eI)))) book_here_200, (eT eI) payments_201] Qd E := ⟨book_here_200, payments_201, R, rfl, hr, q⟩
theorem len__law_held : ∀ ds Q E, sp__law_held ds Q E → ds.length = 2 := by rintro ds Q E ⟨_, _, _, rfl, _⟩; rfl
/-! _law_is_int -/
def t__law_is_int (value_204 : D) (low_205 : Int) (high_206 : Int) : W Bool := fun Q E => (if isT "int" (eA value_204) = true then (if (!(isT "bool" (eA value_204))) = true then ∃ y, value_204 = eI y ∧ (if decide (low_205 ≤ y) = true then Q (decide (y ≤ high_206)) else Q false) else Q false) else Q false)
theorem u__law_is_int  (value_204 : D) (low_205 : Int) (high_206 : Int) (Q : Bool → Prop) (E : EK) (q : (if isT "int" (eA value_204) = true then (if (!(isT "bool" (eA value_204))) = true then ∃ y, value_204 = eI y ∧ (if decide (low_205 ≤ y) = true then Q (decide (y ≤ high_206)) else Q false) else Q false) else Q false)) : ((bindW (bindW (pureW value_204) fun x => pureW (isT "int" (eA x))) fun c => ifW c (bindW (bindW (bindW (pureW value_204) fun x => pureW (isT "bool" (eA x))) fun c => pureW (!c)) fun c => ifW c (bindW (pureW low_205) fun x => bindW (bindW (pureW value_204) (asW eI)) fun y => bindW (leI x y) fun c => ifW c (bindW (pureW high_206) fun z => leI y z) (pureW false)) (pureW false)) (pureW false)) Q E) := q
def sp__law_is_int : SpD := fun ds Qd E => ∃ (value_204 : D) (low_205 : Int) (high_206 : Int) (R : Bool → Prop), ds = [eA value_204, eI low_205, eI high_206] ∧ (∀ r, R r → Qd (eB r)) ∧ t__law_is_int value_204 low_205 high_206 R E
theorem c__law_is_int (value_204 : D) (low_205 : Int) (high_206 : Int) (Qd : DK) (E : EK) (R : Bool → Prop) (hr : ∀ r, R r → Qd (eB r)) (q : t__law_is_int value_204 low_205 high_206 R E) : sp__law_is_int [eA value_204, eI low_205, eI high_206] Qd E := ⟨value_204, low_205, high_206, R, rfl, hr, q⟩
theorem len__law_is_int : ∀ ds Q E, sp__law_is_int ds Q E → ds.length = 3 := by rintro ds Q E ⟨_, _, _, _, rfl, _⟩; rfl
/-! _law_error -/
def t__law_error (book_here_207 : (List (Int × (List (Int × Int))))) (value_208 : D) : W D := fun Q E => t__law_debts book_here_207 (fun r => (if (!(isT "tuple" (eA value_208))) = true then Q (eP eN eS ((), ("payments" : Str))) else lenA value_208 (fun r2 => (if (!(decide (r2 = (book_here_207.length : Int)))) = true then Q (eP eN eS ((), ("payments" : Str))) else ∃ y, value_208 = (eT eA) y ∧ (y.zip r).length ≤ sizeLine ∧ lcP (fun a Q E => t__law_is_int a.1 (0 : Int) a.2 (fun r3 => Q (!r3)) E) (fun a Q E => Q (1 : Int)) (fun _ => False) (y.zip r) [] (fun ys => szOk 0 ∧ (if (!(eqB ys [])) = true then Q (eP eN eS ((), ("payments" : Str))) else ∃ y2, value_208 = (eT eI) y2 ∧ t__law_got book_here_207 y2 (fun r3 => ∃ y3, value_208 = (eT eA) y3 ∧ forP (fun x (s : Unit) N B => ∃ x2, atI r x.1 = some x2 ∧ ∃ x3, atI book_here_207 x.1 = some x3 ∧ ∃ x4, atI r3 x.1 = some x4 ∧ neA x.2 (eI (min x2 (x3.1 + x4))) (fun r4 => (if r4 = true then ∃ y4, x.2 = eI y4 ∧ (if decide (y4 < min x2 (x3.1 + x4)) = true then Q (eP eI eS (x.1, ("less" : Str))) else Q (eP eI eS (x.1, ("more" : Str)))) else N ())) E) (fun (s : Unit) => Q (eN ())) (enI y3) ()) E)))) E)) E
theorem u__law_error (b__law_debts : (List (Int × (List (Int × Int)))) → W (List Int)) (b__law_is_int : D → Int → Int → W Bool) (b__law_got : (List (Int × (List (Int × Int)))) → (List Int) → W (List Int)) (book_here_207 : (List (Int × (List (Int × Int))))) (value_208 : D) (Q : D → Prop) (E : EK) (q : b__law_debts book_here_207 (fun r => (if (!(isT "tuple" (eA value_208))) = true then Q (eP eN eS ((), ("payments" : Str))) else lenA value_208 (fun r2 => (if (!(decide (r2 = (book_here_207.length : Int)))) = true then Q (eP eN eS ((), ("payments" : Str))) else ∃ y, value_208 = (eT eA) y ∧ (y.zip r).length ≤ sizeLine ∧ lcP (fun a Q E => b__law_is_int a.1 (0 : Int) a.2 (fun r3 => Q (!r3)) E) (fun a Q E => Q (1 : Int)) (fun _ => False) (y.zip r) [] (fun ys => szOk 0 ∧ (if (!(eqB ys [])) = true then Q (eP eN eS ((), ("payments" : Str))) else ∃ y2, value_208 = (eT eI) y2 ∧ b__law_got book_here_207 y2 (fun r3 => ∃ y3, value_208 = (eT eA) y3 ∧ forP (fun x (s : Unit) N B => ∃ x2, atI r x.1 = some x2 ∧ ∃ x3, atI book_here_207 x.1 = some x3 ∧ ∃ x4, atI r3 x.1 = some x4 ∧ neA x.2 (eI (min x2 (x3.1 + x4))) (fun r4 => (if r4 = true then ∃ y4, x.2 = eI y4 ∧ (if decide (y4 < min x2 (x3.1 + x4)) = true then Q (eP eI eS (x.1, ("less" : Str))) else Q (eP eI eS (x.1, ("more" : Str)))) else N ())) E) (fun (s : Unit) => Q (eN ())) (enI y3) ()) E)))) E)) E) : bindP (bindW (pureW book_here_207) fun x0 => b__law_debts x0) (fun limits_209 => bindP (bindW (bindW (bindW (pureW value_208) fun x => pureW (isT "tuple" (eA x))) fun c => pureW (!c)) fun c => ifW c (pureW true) (bindW (bindW (pureW value_208) lenA) fun x => bindW (bindW (pureW book_here_207) lenW) fun y => neI x y)) (fun b => ifP b (((bindW (bindW (pureW ()) fun x => bindW (pureW ("payments" : Str)) fun y => pureW (x, y)) fun x => pureW ((eP eN eS) x)) Q E)) (bindP (bindW (bindW (bindW (bindW (pureW value_208) (asW (eT eA))) fun xs => bindW (pureW limits_209) fun ys => pureW (xs.zip ys)) fun xs => lcW (fun a_210 => (bindW (bindW (pureW a_210.1) fun x0 => bindW (pureW (0 : Int)) fun x1 => bindW (pureW a_210.2) fun x2 => b__law_is_int x0 x1 x2) fun c => pureW (!c))) (fun a_210 => (pureW (1 : Int))) xs) fun x => bindW (bindW (pureW []) szW) fun y => neW x y) (fun b => ifP b (((bindW (bindW (pureW ()) fun x => bindW (pureW ("payments" : Str)) fun y => pureW (x, y)) fun x => pureW ((eP eN eS) x)) Q E)) (bindP (bindW (pureW book_here_207) fun x0 => bindW (bindW (pureW value_208) (asW (eT eI))) fun x1 => b__law_got x0 x1) (fun got_here_211 => bindP (bindW (bindW (pureW value_208) (asW (eT eA))) fun xs => pureW (enI xs)) (fun xs => forP (fun x_216 (s_215 : Unit) N_217 B_218 => bindP (bindW (bindW (pureW limits_209) fun x => bindW (pureW x_216.1) fun y => ixW x y) fun x => bindW (bindW (bindW (bindW (pureW book_here_207) fun x => bindW (pureW x_216.1) fun y => ixW x y) fun p => pureW p.1) fun x => bindW (bindW (pureW got_here_211) fun x => bindW (pureW x_216.1) fun y => ixW x y) fun y => addI x y) fun y => min2 x y) (fun could_222 => bindP (bindW (pureW x_216.2) fun x => bindW (bindW (pureW could_222) fun x => pureW (eI x)) fun y => neA x y) (fun b => ifP b (((bindW (bindW (pureW x_216.1) fun x => bindW (bindW (bindW (bindW (pureW x_216.2) (asW eI)) fun x => bindW (pureW could_222) fun y => ltI x y) fun c => ifW c (pureW ("less" : Str)) (pureW ("more" : Str))) fun y => pureW (x, y)) fun x => pureW ((eP eI eS) x)) Q E)) (N_217 ())) E) E) (fun (s_215 : Unit) => ((bindW (pureW ()) fun x => pureW (eN x)) Q E)) xs ()) E) E)) E)) E) E := q
def sp__law_error : SpD := fun ds Qd E => ∃ (book_here_207 : (List (Int × (List (Int × Int))))) (value_208 : D) (R : D → Prop), ds = [(eT (eP eI (eT (eP eI eI)))) book_here_207, eA value_208] ∧ (∀ r, R r → Qd (eA r)) ∧ t__law_error book_here_207 value_208 R E
theorem c__law_error (book_here_207 : (List (Int × (List (Int × Int))))) (value_208 : D) (Qd : DK) (E : EK) (R : D → Prop) (hr : ∀ r, R r → Qd (eA r)) (q : t__law_error book_here_207 value_208 R E) : sp__law_error [(eT (eP eI (eT (eP eI eI)))) book_here_207, eA value_208] Qd E := ⟨book_here_207, value_208, R, rfl, hr, q⟩
theorem len__law_error : ∀ ds Q E, sp__law_error ds Q E → ds.length = 2 := by rintro ds Q E ⟨_, _, _, rfl, _⟩; rfl
/-! _law_every -/
def t__law_every (book_here_223 : (List (Int × (List (Int × Int))))) : W (List (List Int)) := fun Q E => szOk 0 ∧ szOk 1 ∧ t__law_debts book_here_223 (fun r => forP (fun x (s : (List (List Int))) N B => szOk 0 ∧ forP (fun x2 (s2 : (List (List Int))) N2 B2 => in62 (x + (1 : Int)) ∧ (rgI 0 (x + (1 : Int)).toNat).length ≤ sizeLine ∧ lcP (fun a Q E => Q true) (fun a Q E => szOk 1 ∧ szOk (x2.length + [a].length) ∧ Q (x2 ++ [a])) (fun _ => False) (rgI 0 (x + (1 : Int)).toNat) [] (fun ys => szOk (s2.length + ys.length) ∧ N2 (s2 ++ ys))) (fun (s2 : (List (List Int))) => N s2) s []) (fun (s : (List (List Int))) => Q s) r [[]]) E
theorem u__law_every (b__law_debts : (List (Int × (List (Int × Int)))) → W (List Int)) (book_here_223 : (List (Int × (List (Int × Int))))) (Q : (List (List Int)) → Prop) (E : EK) (q : szOk 0 ∧ szOk 1 ∧ b__law_debts book_here_223 (fun r => forP (fun x (s : (List (List Int))) N B => szOk 0 ∧ forP (fun x2 (s2 : (List (List Int))) N2 B2 => in62 (x + (1 : Int)) ∧ (rgI 0 (x + (1 : Int)).toNat).length ≤ sizeLine ∧ lcP (fun a Q E => Q true) (fun a Q E => szOk 1 ∧ szOk (x2.length + [a].length) ∧ Q (x2 ++ [a])) (fun _ => False) (rgI 0 (x + (1 : Int)).toNat) [] (fun ys => szOk (s2.length + ys.length) ∧ N2 (s2 ++ ys))) (fun (s2 : (List (List Int))) => N s2) s []) (fun (s : (List (List Int))) => Q s) r [[]]) E) : bindP (bindW (bindW (bindW (pureW []) szW) fun x => bindW (pureW []) fun xs => pureW (x :: xs)) szW) (fun rows_224 => bindP (bindW (pureW book_here_223) fun x0 => b__law_debts x0) (fun xs => forP (fun x_243 (s_242 : (List (List Int))) N_244 B_245 => bindP (bindW (pureW []) szW) (fun longer_249 => bindP (pureW s_242) (fun xs => forP (fun x_255 (s_254 : (List (List Int))) N_256 B_257 => bindP (bindW (bindW (bindW (pureW x_243) fun x => bindW (pureW (1 : Int)) fun y => addI x y) rng1W) fun xs => lcW (fun a_261 => (pureW true)) (fun a_261 => (bindW (pureW x_255) fun x => bindW (bindW (bindW (pureW a_261) fun x => bindW (pureW []) fun xs => pureW (x :: xs)) szW) fun y => catW x y)) xs) (fun z_262 => extP s_254 z_262 (N_256 (s_254 ++ z_262))) E) (fun (s_254 : (List (List Int))) => bindP (pureW s_254) (fun rows_263 => N_244 rows_263) E) xs longer_249) E) E) (fun (s_242 : (List (List Int))) => ((pureW s_242) Q E)) xs rows_224) E) E := q
def sp__law_every : SpD := fun ds Qd E => ∃ (book_here_223 : (List (Int × (List (Int × Int))))) (R : (List (List Int)) → Prop), ds = [(eT (eP eI (eT (eP eI eI)))) book_here_223] ∧ (∀ r, R r → Qd ((eL (eT eI)) r)) ∧ t__law_every book_here_223 R E
theorem c__law_every (book_here_223 : (List (Int × (List (Int × Int))))) (Qd : DK) (E : EK) (R : (List (List Int)) → Prop) (hr : ∀ r, R r → Qd ((eL (eT eI)) r)) (q : t__law_every book_here_223 R E) : sp__law_every [(eT (eP eI (eT (eP eI eI)))) book_here_223] Qd E := ⟨book_here_223, R, rfl, hr, q⟩
theorem len__law_every : ∀ ds Q E, sp__law_every ds Q E → ds.length = 1 := by rintro ds Q E ⟨_, _, rfl, _⟩; rfl
/-! _law_next -/
def t__law_next (book_here_264 : (List (Int × (List (Int × Int))))) (payments_265 : (List Int)) (house_266 : Int) : W (Option (Int × Int)) := fun Q E => ∃ x, atI book_here_264 house_266 = some x ∧ ∃ x2, atI payments_265 house_266 = some x2 ∧ t__law_parts x.2 x2 (fun r => forP (fun x3 (s : Unit) N B => (if decide (x3.2 < x3.1.2) = true then Q (some (x3.1.1, x3.1.2 - x3.2)) else N ())) (fun (s : Unit) => Q (none : (Option (Int × Int)))) (x.2.zip r) ()) E
theorem u__law_next (b__law_parts : (List (Int × Int)) → Int → W (List Int)) (book_here_264 : (List (Int × (List (Int × Int))))) (payments_265 : (List Int)) (house_266 : Int) (Q : (Option (Int × Int)) → Prop) (E : EK) (q : ∃ x, atI book_here_264 house_266 = some x ∧ ∃ x2, atI payments_265 house_266 = some x2 ∧ b__law_parts x.2 x2 (fun r => forP (fun x3 (s : Unit) N B => (if decide (x3.2 < x3.1.2) = true then Q (some (x3.1.1, x3.1.2 - x3.2)) else N ())) (fun (s : Unit) => Q (none : (Option (Int × Int)))) (x.2.zip r) ()) E) : bindP (bindW (bindW (pureW book_here_264) fun x => bindW (pureW house_266) fun y => ixW x y) fun p => pureW p.2) (fun pile_267 => bindP (bindW (pureW pile_267) fun xs => bindW (bindW (pureW pile_267) fun x0 => bindW (bindW (pureW payments_265) fun x => bindW (pureW house_266) fun y => ixW x y) fun x1 => b__law_parts x0 x1) fun ys => pureW (xs.zip ys)) (fun xs => forP (fun x_271 (s_270 : Unit) N_272 B_273 => bindP (bindW (pureW x_271.2) fun x => bindW (pureW x_271.1.2) fun y => ltI x y) (fun b => ifP b (((bindW (bindW (pureW x_271.1.1) fun x => bindW (bindW (pureW x_271.1.2) fun x => bindW (pureW x_271.2) fun y => subI x y) fun y => pureW (x, y)) fun x => pureW (some x)) Q E)) (N_272 ())) E) (fun (s_270 : Unit) => ((bindW (pureW ()) fun _ => pureW (none : (Option (Int × Int)))) Q E)) xs ()) E) E := q
def sp__law_next : SpD := fun ds Qd E => ∃ (book_here_264 : (List (Int × (List (Int × Int))))) (payments_265 : (List Int)) (house_266 : Int) (R : (Option (Int × Int)) → Prop), ds = [(eT (eP eI (eT (eP eI eI)))) book_here_264, (eT eI) payments_265, eI house_266] ∧ (∀ r, R r → Qd ((eO (eP eI eI)) r)) ∧ t__law_next book_here_264 payments_265 house_266 R E
theorem c__law_next (book_here_264 : (List (Int × (List (Int × Int))))) (payments_265 : (List Int)) (house_266 : Int) (Qd : DK) (E : EK) (R : (Option (Int × Int)) → Prop) (hr : ∀ r, R r → Qd ((eO (eP eI eI)) r)) (q : t__law_next book_here_264 payments_265 house_266 R E) : sp__law_next [(eT (eP eI (eT (eP eI eI)))) book_here_264, (eT eI) payments_265, eI house_266] Qd E := ⟨book_here_264, payments_265, house_266, R, rfl, hr, q⟩
theorem len__law_next : ∀ ds Q E, sp__law_next ds Q E → ds.length = 3 := by rintro ds Q E ⟨_, _, _, _, rfl, _⟩; rfl
/-! _law_ring -/
def t__law_ring (book_here_277 : (List (Int × (List (Int × Int))))) (payments_278 : (List Int)) (house_279 : Int) : W (Option (List Int)) := fun Q E => szOk 1 ∧ in62 (book_here_277.length : Int) ∧ forP (fun x (s : (List Int)) N B => ∃ x2, atI s (-(1 : Int)) = some x2 ∧ t__law_next book_here_277 payments_278 x2 (fun r => (if r.isNone = true then Q (none : (Option (List Int))) else ∃ x3, r = some x3 ∧ (if decide (x3.1 = house_279) = true then (s ≠ [] ∧ ∀ m, m ∈ s → (∀ y ∈ s, m ≤ y) → ∃ j : Nat, (s[j]? = some m ∧ ∀ k, k < j → s[k]? ≠ some m) ∧ szOk ((cutT s (some (j : Int)) none).length + (cutT s none (some (j : Int))).length) ∧ Q (some (cutT s (some (j : Int)) none ++ cutT s none (some (j : Int))))) else ∃ x4, r = some x4 ∧ s.length < sizeLine ∧ N (s ++ [x4.1])))) E) (fun (s : (List Int)) => Q (none : (Option (List Int)))) (rgI 0 (book_here_277.length : Int).toNat) [house_279]
theorem u__law_ring (b__law_next : (List (Int × (List (Int × Int)))) → (List Int) → Int → W (Option (Int × Int))) (book_here_277 : (List (Int × (List (Int × Int))))) (payments_278 : (List Int)) (house_279 : Int) (Q : (Option (List Int)) → Prop) (E : EK) (q : szOk 1 ∧ in62 (book_here_277.length : Int) ∧ forP (fun x (s : (List Int)) N B => ∃ x2, atI s (-(1 : Int)) = some x2 ∧ b__law_next book_here_277 payments_278 x2 (fun r => (if r.isNone = true then Q (none : (Option (List Int))) else ∃ x3, r = some x3 ∧ (if decide (x3.1 = house_279) = true then (s ≠ [] ∧ ∀ m, m ∈ s → (∀ y ∈ s, m ≤ y) → ∃ j : Nat, (s[j]? = some m ∧ ∀ k, k < j → s[k]? ≠ some m) ∧ szOk ((cutT s (some (j : Int)) none).length + (cutT s none (some (j : Int))).length) ∧ Q (some (cutT s (some (j : Int)) none ++ cutT s none (some (j : Int))))) else ∃ x4, r = some x4 ∧ s.length < sizeLine ∧ N (s ++ [x4.1])))) E) (fun (s : (List Int)) => Q (none : (Option (List Int)))) (rgI 0 (book_here_277.length : Int).toNat) [house_279]) : bindP (bindW (bindW (pureW house_279) fun x => bindW (pureW []) fun xs => pureW (x :: xs)) szW) (fun way_280 => bindP (bindW (bindW (pureW book_here_277) lenW) rng1W) (fun xs => forP (fun x_287 (s_286 : (List Int)) N_288 B_289 => bindP (bindW (pureW book_here_277) fun x0 => bindW (pureW payments_278) fun x1 => bindW (bindW (pureW s_286) fun x => bindW (bindW (pureW (1 : Int)) fun i => pureW (-i)) fun y => ixW x y) fun x2 => b__law_next x0 x1 x2) (fun slip_293 => bindP (bindW (pureW slip_293) fun x => pureW x.isNone) (fun b => ifP b (((bindW (pureW ()) fun _ => pureW (none : (Option (List Int)))) Q E)) (bindP (bindW (bindW (bindW (pureW slip_293) getW) fun p => pureW p.1) fun x => bindW (pureW house_279) fun y => eqI x y) (fun b => ifP b (bindP (bindW (pureW s_286) fun xs => bindW (bindW (pureW s_286) minL) fun v => idxW xs v) (fun spot_294 => ((bindW (bindW (bindW (bindW (pureW s_286) fun xs => bindW (bindW (pureW spot_294) fun i => pureW (some i)) fun l => bindW (pureW none) fun h => pureW (cutT xs l h)) fun x => bindW (bindW (pureW s_286) fun xs => bindW (pureW none) fun l => bindW (bindW (pureW spot_294) fun i => pureW (some i)) fun h => pureW (cutT xs l h)) fun y => catW x y) sameW) fun x => pureW (some x)) Q E)) E) (bindP (bindW (bindW (pureW slip_293) getW) fun p => pureW p.1) (fun z_295 => appP s_286 (N_288 (s_286 ++ [z_295]))) E)) E)) E) E) (fun (s_286 : (List Int)) => ((bindW (pureW ()) fun _ => pureW (none : (Option (List Int)))) Q E)) xs way_280) E) E := q
def sp__law_ring : SpD := fun ds Qd E => ∃ (book_here_277 : (List (Int × (List (Int × Int))))) (payments_278 : (List Int)) (house_279 : Int) (R : (Option (List Int)) → Prop), ds = [(eT (eP eI (eT (eP eI eI)))) book_here_277, (eT eI) payments_278, eI house_279] ∧ (∀ r, R r → Qd ((eO (eT eI)) r)) ∧ t__law_ring book_here_277 payments_278 house_279 R E
theorem c__law_ring (book_here_277 : (List (Int × (List (Int × Int))))) (payments_278 : (List Int)) (house_279 : Int) (Qd : DK) (E : EK) (R : (Option (List Int)) → Prop) (hr : ∀ r, R r → Qd ((eO (eT eI)) r)) (q : t__law_ring book_here_277 payments_278 house_279 R E) : sp__law_ring [(eT (eP eI (eT (eP eI eI)))) book_here_277, (eT eI) payments_278, eI house_279] Qd E := ⟨book_here_277, payments_278, house_279, R, rfl, hr, q⟩
theorem len__law_ring : ∀ ds Q E, sp__law_ring ds Q E → ds.length = 3 := by rintro ds Q E ⟨_, _, _, _, rfl, _⟩; rfl
/-! _law_rest -/
def t__law_rest (book_here_296 : (List (Int × (List (Int × Int))))) (payments_297 : (List Int)) (ring_here_298 : (List Int)) : W Int := fun Q E => ring_here_298.length ≤ sizeLine ∧ lcP (fun a Q E => Q true) (fun a Q E => t__law_next book_here_296 payments_297 a (fun r => ∃ x, r = some x ∧ Q x.2) E) (fun _ => False) ring_here_298 [] (fun ys => (ys ≠ [] ∧ ∀ m, m ∈ ys → (∀ y ∈ ys, m ≤ y) → Q m))
theorem u__law_rest (b__law_next : (List (Int × (List (Int × Int)))) → (List Int) → Int → W (Option (Int × Int))) (book_here_296 : (List (Int × (List (Int × Int))))) (payments_297 : (List Int)) (ring_here_298 : (List Int)) (Q : Int → Prop) (E : EK) (q : ring_here_298.length ≤ sizeLine ∧ lcP (fun a Q E => Q true) (fun a Q E => b__law_next book_here_296 payments_297 a (fun r => ∃ x, r = some x ∧ Q x.2) E) (fun _ => False) ring_here_298 [] (fun ys => (ys ≠ [] ∧ ∀ m, m ∈ ys → (∀ y ∈ ys, m ≤ y) → Q m))) : ((bindW (bindW (pureW ring_here_298) fun xs => lcW (fun a_299 => (pureW true)) (fun a_299 => (bindW (bindW (bindW (pureW book_here_296) fun x0 => bindW (pureW payments_297) fun x1 => bindW (pureW a_299) fun x2 => b__law_next x0 x1 x2) getW) fun p => pureW p.2)) xs) minL) Q E) := q
def sp__law_rest : SpD := fun ds Qd E => ∃ (book_here_296 : (List (Int × (List (Int × Int))))) (payments_297 : (List Int)) (ring_here_298 : (List Int)) (R : Int → Prop), ds = [(eT (eP eI (eT (eP eI eI)))) book_here_296, (eT eI) payments_297, (eT eI) ring_here_298] ∧ (∀ r, R r → Qd (eI r)) ∧ t__law_rest book_here_296 payments_297 ring_here_298 R E
theorem c__law_rest (book_here_296 : (List (Int × (List (Int × Int))))) (payments_297 : (List Int)) (ring_here_298 : (List Int)) (Qd : DK) (E : EK) (R : Int → Prop) (hr : ∀ r, R r → Qd (eI r)) (q : t__law_rest book_here_296 payments_297 ring_here_298 R E) : sp__law_rest [(eT (eP eI (eT (eP eI eI)))) book_here_296, (eT eI) payments_297, (eT eI) ring_here_298] Qd E := ⟨book_here_296, payments_297, ring_here_298, R, rfl, hr, q⟩
theorem len__law_rest : ∀ ds Q E, sp__law_rest ds Q E → ds.length = 3 := by rintro ds Q E ⟨_, _, _, _, rfl, _⟩; rfl
/-! _law_more -/
def t__law_more (payments_300 : (List Int)) (houses_301 : (List Int)) (amount_302 : Int) : W (List Int) := fun Q E => (enI payments_300).length ≤ sizeLine ∧ lcP (fun a Q E => Q true) (fun a Q E => CMul amount_302 (if inB a.1 houses_301 = true then 1 else 0 : Int) ∧ Q (a.2 + amount_302 * (if inB a.1 houses_301 = true then 1 else 0 : Int))) (fun _ => False) (enI payments_300) [] Q
theorem u__law_more  (payments_300 : (List Int)) (houses_301 : (List Int)) (amount_302 : Int) (Q : (List Int) → Prop) (E : EK) (q : (enI payments_300).length ≤ sizeLine ∧ lcP (fun a Q E => Q true) (fun a Q E => CMul amount_302 (if inB a.1 houses_301 = true then 1 else 0 : Int) ∧ Q (a.2 + amount_302 * (if inB a.1 houses_301 = true then 1 else 0 : Int))) (fun _ => False) (enI payments_300) [] Q) : ((bindW (bindW (bindW (pureW payments_300) fun xs => pureW (enI xs)) fun xs => lcW (fun a_303 => (pureW true)) (fun a_303 => (bindW (pureW a_303.2) fun x => bindW (bindW (pureW amount_302) fun x => bindW (bindW (bindW (pureW a_303.1) fun x => bindW (pureW houses_301) fun y => inW x y) intB) fun y => mulI x y) fun y => addI x y)) xs) sameW) Q E) := q
def sp__law_more : SpD := fun ds Qd E => ∃ (payments_300 : (List Int)) (houses_301 : (List Int)) (amount_302 : Int) (R : (List Int) → Prop), ds = [(eT eI) payments_300, (eT eI) houses_301, eI amount_302] ∧ (∀ r, R r → Qd ((eT eI) r)) ∧ t__law_more payments_300 houses_301 amount_302 R E
theorem c__law_more (payments_300 : (List Int)) (houses_301 : (List Int)) (amount_302 : Int) (Qd : DK) (E : EK) (R : (List Int) → Prop) (hr : ∀ r, R r → Qd ((eT eI) r)) (q : t__law_more payments_300 houses_301 amount_302 R E) : sp__law_more [(eT eI) payments_300, (eT eI) houses_301, eI amount_302] Qd E := ⟨payments_300, houses_301, amount_302, R, rfl, hr, q⟩
theorem len__law_more : ∀ ds Q E, sp__law_more ds Q E → ds.length = 3 := by rintro ds Q E ⟨_, _, _, _, rfl, _⟩; rfl
/-! _law_after -/
def t__law_after (book_here_304 : (List (Int × (List (Int × Int))))) (payments_305 : (List Int)) (step_306 : D) : W (Option (List Int)) := fun Q E => (if (!(isT "tuple" (eA step_306))) = true then Q (none : (Option (List Int))) else lenA step_306 (fun r => (if (!(decide (r = (3 : Int)))) = true then Q (none : (Option (List Int))) else ixA step_306 (0 : Int) (fun r2 => (if (!(isT "str" (eA r2))) = true then Q (none : (Option (List Int))) else ∃ y, step_306 = (e3 eA eA eA) y ∧ t__law_is_int y.2.1 (0 : Int) ((book_here_304.length : Int) - (1 : Int)) (fun r3 => (if (!r3) = true then Q (none : (Option (List Int))) else CPow (10 : Int) (30 : Int) ∧ t__law_is_int y.2.2 (1 : Int) ((10 : Int) ^ (30 : Int).toNat) (fun r4 => (if (!r4) = true then Q (none : (Option (List Int))) else t__law_held book_here_304 payments_305 (fun r5 => ∃ y2, y.2.1 = eI y2 ∧ t__law_next book_here_304 payments_305 y2 (fun r6 => eqA y.1 (eS ("pay" : Str)) (fun r7 => (if r7 = true then (if r6.isSome = true then ∃ y3, y.2.2 = eI y3 ∧ ∃ y4, y.2.1 = eI y4 ∧ ∃ x, atI r5 y4 = some x ∧ ∃ x2, r6 = some x2 ∧ (if decide (y3 ≤ min x x2.2) = true then ∃ y5, y.2.1 = eI y5 ∧ szOk 1 ∧ ∃ y6, y.2.2 = eI y6 ∧ t__law_more payments_305 [y5] y6 (fun r8 => Q (some r8)) E else Q (none : (Option (List Int)))) else Q (none : (Option (List Int)))) else eqA y.1 (eS ("ring" : Str)) (fun r8 => (joinP (fun K => if r8 = true then ∃ y3, y.2.1 = eI y3 ∧ t__law_ring book_here_304 payments_305 y3 K E else K (none : (Option (List Int)))) (fun b => (if b.isNone = true then Q (none : (Option (List Int))) else ∃ y3, y.2.2 = eI y3 ∧ ∃ x, b = some x ∧ t__law_rest book_here_304 payments_305 x (fun r9 => (if decide (r9 < y3) = true then Q (none : (Option (List Int))) else ∃ x2, b = some x2 ∧ x2.length ≤ sizeLine ∧ lcP (fun a Q E => Q true) (fun a Q E => ∃ x3, atI r5 a = some x3 ∧ Q x3) (fun _ => False) x2 [] (fun ys => (ys ≠ [] ∧ ∀ m, m ∈ ys → (∀ y ∈ ys, y ≤ m) → (if decide (m < (1 : Int)) = true then Q (none : (Option (List Int))) else ∃ x3, b = some x3 ∧ ∃ y4, y.2.2 = eI y4 ∧ t__law_more payments_305 x3 y4 (fun r10 => Q (some r10)) E))))) E)))) E)) E) E) E)) E)) E)) E)) E)
theorem u__law_after (b__law_is_int : D → Int → Int → W Bool) (b__law_held : (List (Int × (List (Int × Int)))) → (List Int) → W (List Int)) (b__law_next : (List (Int × (List (Int × Int)))) → (List Int) → Int → W (Option (Int × Int))) (b__law_more : (List Int) → (List Int) → Int → W (List Int)) (b__law_ring : (List (Int × (List (Int × Int)))) → (List Int) → Int → W (Option (List Int))) (b__law_rest : (List (Int × (List (Int × Int)))) → (List Int) → (List Int) → W Int) (book_here_304 : (List (Int × (List (Int × Int))))) (payments_305 : (List Int)) (step_306 : D) (Q : (Option (List Int)) → Prop) (E : EK) (q : (if (!(isT "tuple" (eA step_306))) = true then Q (none : (Option (List Int))) else lenA step_306 (fun r => (if (!(decide (r = (3 : Int)))) = true then Q (none : (Option (List Int))) else ixA step_306 (0 : Int) (fun r2 => (if (!(isT "str" (eA r2))) = true then Q (none : (Option (List Int))) else ∃ y, step_306 = (e3 eA eA eA) y ∧ b__law_is_int y.2.1 (0 : Int) ((book_here_304.length : Int) - (1 : Int)) (fun r3 => (if (!r3) = true then Q (none : (Option (List Int))) else CPow (10 : Int) (30 : Int) ∧ b__law_is_int y.2.2 (1 : Int) ((10 : Int) ^ (30 : Int).toNat) (fun r4 => (if (!r4) = true then Q (none : (Option (List Int))) else b__law_held book_here_304 payments_305 (fun r5 => ∃ y2, y.2.1 = eI y2 ∧ b__law_next book_here_304 payments_305 y2 (fun r6 => eqA y.1 (eS ("pay" : Str)) (fun r7 => (if r7 = true then (if r6.isSome = true then ∃ y3, y.2.2 = eI y3 ∧ ∃ y4, y.2.1 = eI y4 ∧ ∃ x, atI r5 y4 = some x ∧ ∃ x2, r6 = some x2 ∧ (if decide (y3 ≤ min x x2.2) = true then ∃ y5, y.2.1 = eI y5 ∧ szOk 1 ∧ ∃ y6, y.2.2 = eI y6 ∧ b__law_more payments_305 [y5] y6 (fun r8 => Q (some r8)) E else Q (none : (Option (List Int)))) else Q (none : (Option (List Int)))) else eqA y.1 (eS ("ring" : Str)) (fun r8 => (joinP (fun K => if r8 = true then ∃ y3, y.2.1 = eI y3 ∧ b__law_ring book_here_304 payments_305 y3 K E else K (none : (Option (List Int)))) (fun b => (if b.isNone = true then Q (none : (Option (List Int))) else ∃ y3, y.2.2 = eI y3 ∧ ∃ x, b = some x ∧ b__law_rest book_here_304 payments_305 x (fun r9 => (if decide (r9 < y3) = true then Q (none : (Option (List Int))) else ∃ x2, b = some x2 ∧ x2.length ≤ sizeLine ∧ lcP (fun a Q E => Q true) (fun a Q E => ∃ x3, atI r5 a = some x3 ∧ Q x3) (fun _ => False) x2 [] (fun ys => (ys ≠ [] ∧ ∀ m, m ∈ ys → (∀ y ∈ ys, y ≤ m) → (if decide (m < (1 : Int)) = true then Q (none : (Option (List Int))) else ∃ x3, b = some x3 ∧ ∃ y4, y.2.2 = eI y4 ∧ b__law_more payments_305 x3 y4 (fun r10 => Q (some r10)) E))))) E)))) E)) E) E) E)) E)) E)) E)) E)) : bindP (bindW (bindW (bindW (pureW step_306) fun x => pureW (isT "tuple" (eA x))) fun c => pureW (!c)) fun c => ifW c (pureW true) (bindW (bindW (bindW (pureW step_306) lenA) fun x => bindW (pureW (3 : Int)) fun y => neI x y) fun c => ifW c (pureW true) (bindW (bindW (bindW (pureW step_306) fun x => bindW (pureW (0 : Int)) fun y => ixA x y) fun x => pureW (isT "str" (eA x))) fun c => pureW (!c)))) (fun b => ifP b (((bindW (pureW ()) fun _ => pureW (none : (Option (List Int)))) Q E)) (bindP (bindW (pureW step_306) (asW (e3 eA eA eA))) (fun z_307 => bindP (bindW (bindW (bindW (pureW z_307.2.1) fun x0 => bindW (pureW (0 : Int)) fun x1 => bindW (bindW (bindW (pureW book_here_304) lenW) fun x => bindW (pureW (1 : Int)) fun y => subI x y) fun x2 => b__law_is_int x0 x1 x2) fun c => pureW (!c)) fun c => ifW c (pureW true) (bindW (bindW (pureW z_307.2.2) fun x0 => bindW (pureW (1 : Int)) fun x1 => bindW (bindW (pureW (10 : Int)) fun x => bindW (pureW (30 : Int)) fun y => powI x y) fun x2 => b__law_is_int x0 x1 x2) fun c => pureW (!c))) (fun b => ifP b (((bindW (pureW ()) fun _ => pureW (none : (Option (List Int)))) Q E)) (bindP (bindW (bindW (pureW book_here_304) fun x0 => bindW (pureW payments_305) fun x1 => b__law_held x0 x1) fun x => bindW (bindW (pureW book_here_304) fun x0 => bindW (pureW payments_305) fun x1 => bindW (bindW (pureW z_307.2.1) (asW eI)) fun x2 => b__law_next x0 x1 x2) fun y => pureW (x, y)) (fun z_308 => bindP (bindW (pureW z_307.1) fun x => bindW (bindW (pureW ("pay" : Str)) fun x => pureW (eS x)) fun y => eqA x y) (fun b => ifP b (bindP (bindW (bindW (pureW z_308.2) fun x => pureW x.isSome) fun c => ifW c (bindW (bindW (pureW z_307.2.2) (asW eI)) fun x => bindW (bindW (bindW (pureW z_308.1) fun x => bindW (bindW (pureW z_307.2.1) (asW eI)) fun y => ixW x y) fun x => bindW (bindW (bindW (pureW z_308.2) getW) fun p => pureW p.2) fun y => min2 x y) fun y => leI x y) (pureW false)) (fun is_fine_309 => ((bindW (pureW is_fine_309) fun c => ifW c (bindW (bindW (pureW payments_305) fun x0 => bindW (bindW (bindW (bindW (pureW z_307.2.1) (asW eI)) fun x => bindW (pureW []) fun xs => pureW (x :: xs)) szW) fun x1 => bindW (bindW (pureW z_307.2.2) (asW eI)) fun x2 => b__law_more x0 x1 x2) fun x => pureW (some x)) (bindW (pureW ()) fun _ => pureW (none : (Option (List Int))))) Q E)) E) (bindP (bindW (bindW (pureW z_307.1) fun x => bindW (bindW (pureW ("ring" : Str)) fun x => pureW (eS x)) fun y => eqA x y) fun c => ifW c (bindW (pureW book_here_304) fun x0 => bindW (pureW payments_305) fun x1 => bindW (bindW (pureW z_307.2.1) (asW eI)) fun x2 => b__law_ring x0 x1 x2) (bindW (pureW ()) fun _ => pureW (none : (Option (List Int))))) (fun ring_here_310 => bindP (bindW (bindW (pureW ring_here_310) fun x => pureW x.isNone) fun c => ifW c (pureW true) (bindW (bindW (bindW (pureW z_307.2.2) (asW eI)) fun x => bindW (bindW (pureW book_here_304) fun x0 => bindW (pureW payments_305) fun x1 => bindW (bindW (pureW ring_here_310) getW) fun x2 => b__law_rest x0 x1 x2) fun y => gtI x y) fun c => ifW c (pureW true) (bindW (bindW (bindW (bindW (pureW ring_here_310) getW) fun xs => lcW (fun a_311 => (pureW true)) (fun a_311 => (bindW (pureW z_308.1) fun x => bindW (pureW a_311) fun y => ixW x y)) xs) maxL) fun x => bindW (pureW (1 : Int)) fun y => ltI x y))) (fun b => ifP b (((bindW (pureW ()) fun _ => pureW (none : (Option (List Int)))) Q E)) (((bindW (bindW (pureW payments_305) fun x0 => bindW (bindW (pureW ring_here_310) getW) fun x1 => bindW (bindW (pureW z_307.2.2) (asW eI)) fun x2 => b__law_more x0 x1 x2) fun x => pureW (some x)) Q E))) E) E)) E) E)) E) E)) E := q
def sp__law_after : SpD := fun ds Qd E => ∃ (book_here_304 : (List (Int × (List (Int × Int))))) (payments_305 : (List Int)) (step_306 : D) (R : (Option (List Int)) → Prop), ds = [(eT (eP eI (eT (eP eI eI)))) book_here_304, (eT eI) payments_305, eA step_306] ∧ (∀ r, R r → Qd ((eO (eT eI)) r)) ∧ t__law_after book_here_304 payments_305 step_306 R E
theorem c__law_after (book_here_304 : (List (Int × (List (Int × Int))))) (payments_305 : (List Int)) (step_306 : D) (Qd : DK) (E : EK) (R : (Option (List Int)) → Prop) (hr : ∀ r, R r → Qd ((eO (eT eI)) r)) (q : t__law_after book_here_304 payments_305 step_306 R E) : sp__law_after [(eT (eP eI (eT (eP eI eI)))) book_here_304, (eT eI) payments_305, eA step_306] Qd E := ⟨book_here_304, payments_305, step_306, R, rfl, hr, q⟩
theorem len__law_after : ∀ ds Q E, sp__law_after ds Q E → ds.length = 3 := by rintro ds Q E ⟨_, _, _, _, rfl, _⟩; rfl
/-! _law_end -/
def t__law_end (book_here_312 : (List (Int × (List (Int × Int))))) (value_313 : D) : W (Option (List Int)) := fun Q E => (joinP (fun K => if isT "tuple" (eA value_313) = true then szOk 1 ∧ (-(2 ^ 63) ≤ (book_here_312.length : Int) ∧ (book_here_312.length : Int) ≤ 1000 ∧ [(0 : Int)].length ≤ 1000) ∧ K (some ((List.replicate (book_here_312.length : Int).toNat [(0 : Int)]).flatten)) else K (none : (Option (List Int)))) (fun b => (if b.isSome = true then ∃ y, value_313 = (eT eA) y ∧ forP (fun x (s : (Option (List Int))) N B => (if s.isSome = true then ∃ x2, s = some x2 ∧ t__law_after book_here_312 x2 x N E else N s)) (fun (s : (Option (List Int))) => Q s) y b else szOk 0 ∧ ∃ y, eT eI [] = (eT eA) y ∧ forP (fun x (s : (Option (List Int))) N B => (if s.isSome = true then ∃ x2, s = some x2 ∧ t__law_after book_here_312 x2 x N E else N s)) (fun (s : (Option (List Int))) => Q s) y b)))
theorem u__law_end (b__law_after : (List (Int × (List (Int × Int)))) → (List Int) → D → W (Option (List Int))) (book_here_312 : (List (Int × (List (Int × Int))))) (value_313 : D) (Q : (Option (List Int)) → Prop) (E : EK) (q : (joinP (fun K => if isT "tuple" (eA value_313) = true then szOk 1 ∧ (-(2 ^ 63) ≤ (book_here_312.length : Int) ∧ (book_here_312.length : Int) ≤ 1000 ∧ [(0 : Int)].length ≤ 1000) ∧ K (some ((List.replicate (book_here_312.length : Int).toNat [(0 : Int)]).flatten)) else K (none : (Option (List Int)))) (fun b => (if b.isSome = true then ∃ y, value_313 = (eT eA) y ∧ forP (fun x (s : (Option (List Int))) N B => (if s.isSome = true then ∃ x2, s = some x2 ∧ b__law_after book_here_312 x2 x N E else N s)) (fun (s : (Option (List Int))) => Q s) y b else szOk 0 ∧ ∃ y, eT eI [] = (eT eA) y ∧ forP (fun x (s : (Option (List Int))) N B => (if s.isSome = true then ∃ x2, s = some x2 ∧ b__law_after book_here_312 x2 x N E else N s)) (fun (s : (Option (List Int))) => Q s) y b)))) : bindP (bindW (bindW (pureW value_313) fun x => pureW (isT "tuple" (eA x))) fun c => ifW c (bindW (bindW (bindW (bindW (pureW (0 : Int)) fun x => bindW (pureW []) fun xs => pureW (x :: xs)) szW) fun x => bindW (bindW (pureW book_here_312) lenW) fun y => repT x y) fun x => pureW (some x)) (bindW (pureW ()) fun _ => pureW (none : (Option (List Int))))) (fun payments_314 => bindP (bindW (bindW (bindW (pureW payments_314) fun x => pureW x.isSome) fun c => ifW c (pureW value_313) (bindW (bindW (pureW []) szW) fun x => pureW ((eT eI) x))) (asW (eT eA))) (fun xs => forP (fun x_323 (s_322 : (Option (List Int))) N_324 B_325 => joinP (fun (K_331 : (Option (List Int)) → Prop) => bindP (bindW (pureW s_322) fun x => pureW x.isSome) (fun b => ifP b (bindP (bindW (pureW book_here_312) fun x0 => bindW (bindW (pureW s_322) getW) fun x1 => bindW (pureW x_323) fun x2 => b__law_after x0 x1 x2) (fun payments_333 => K_331 payments_333) E) (K_331 s_322)) E) (fun (s_330 : (Option (List Int))) => N_324 s_330)) (fun (s_322 : (Option (List Int))) => ((pureW s_322) Q E)) xs payments_314) E) E := q
def sp__law_end : SpD := fun ds Qd E => ∃ (book_here_312 : (List (Int × (List (Int × Int))))) (value_313 : D) (R : (Option (List Int)) → Prop), ds = [(eT (eP eI (eT (eP eI eI)))) book_here_312, eA value_313] ∧ (∀ r, R r → Qd ((eO (eT eI)) r)) ∧ t__law_end book_here_312 value_313 R E
theorem c__law_end (book_here_312 : (List (Int × (List (Int × Int))))) (value_313 : D) (Qd : DK) (E : EK) (R : (Option (List Int)) → Prop) (hr : ∀ r, R r → Qd ((eO (eT eI)) r)) (q : t__law_end book_here_312 value_313 R E) : sp__law_end [(eT (eP eI (eT (eP eI eI)))) book_here_312, eA value_313] Qd E := ⟨book_here_312, value_313, R, rfl, hr, q⟩
theorem len__law_end : ∀ ds Q E, sp__law_end ds Q E → ds.length = 2 := by rintro ds Q E ⟨_, _, _, rfl, _⟩; rfl
/-! _law_rich -/
def t__law_rich (book_here_334 : (List (Int × (List (Int × Int))))) (payments_335 : (List Int)) : W (List Int) := fun Q E => t__law_held book_here_334 payments_335 (fun r => in62 (book_here_334.length : Int) ∧ (rgI 0 (book_here_334.length : Int).toNat).length ≤ sizeLine ∧ lcP (fun a Q E => ∃ x, atI r a = some x ∧ Q (decide ((0 : Int) < x))) (fun a Q E => Q a) (fun _ => False) (rgI 0 (book_here_334.length : Int).toNat) [] (fun ys => ys.length ≤ sizeLine ∧ lcP (fun a2 Q E => t__law_next book_here_334 payments_335 a2 (fun r2 => Q r2.isSome) E) (fun a2 Q E => Q a2) (fun _ => False) ys [] Q)) E
theorem u__law_rich (b__law_held : (List (Int × (List (Int × Int)))) → (List Int) → W (List Int)) (b__law_next : (List (Int × (List (Int × Int)))) → (List Int) → Int → W (Option (Int × Int))) (book_here_334 : (List (Int × (List (Int × Int))))) (payments_335 : (List Int)) (Q : (List Int) → Prop) (E : EK) (q : b__law_held book_here_334 payments_335 (fun r => in62 (book_here_334.length : Int) ∧ (rgI 0 (book_here_334.length : Int).toNat).length ≤ sizeLine ∧ lcP (fun a Q E => ∃ x, atI r a = some x ∧ Q (decide ((0 : Int) < x))) (fun a Q E => Q a) (fun _ => False) (rgI 0 (book_here_334.length : Int).toNat) [] (fun ys => ys.length ≤ sizeLine ∧ lcP (fun a2 Q E => b__law_next book_here_334 payments_335 a2 (fun r2 => Q r2.isSome) E) (fun a2 Q E => Q a2) (fun _ => False) ys [] Q)) E) : bindP (bindW (pureW book_here_334) fun x0 => bindW (pureW payments_335) fun x1 => b__law_held x0 x1) (fun wealth_336 => bindP (bindW (bindW (bindW (pureW book_here_334) lenW) rng1W) fun xs => lcW (fun a_338 => (bindW (bindW (pureW wealth_336) fun x => bindW (pureW a_338) fun y => ixW x y) fun x => bindW (pureW (0 : Int)) fun y => gtI x y)) (fun a_338 => (pureW a_338)) xs) (fun found_337 => ((bindW (pureW found_337) fun xs => lcW (fun a_339 => (bindW (bindW (pureW book_here_334) fun x0 => bindW (pureW payments_335) fun x1 => bindW (pureW a_339) fun x2 => b__law_next x0 x1 x2) fun x => pureW x.isSome)) (fun a_339 => (pureW a_339)) xs) Q E)) E) E := q
def sp__law_rich : SpD := fun ds Qd E => ∃ (book_here_334 : (List (Int × (List (Int × Int))))) (payments_335 : (List Int)) (R : (List Int) → Prop), ds = [(eT (eP eI (eT (eP eI eI)))) book_here_334, (eT eI) payments_335] ∧ (∀ r, R r → Qd ((eL eI) r)) ∧ t__law_rich book_here_334 payments_335 R E
theorem c__law_rich (book_here_334 : (List (Int × (List (Int × Int))))) (payments_335 : (List Int)) (Qd : DK) (E : EK) (R : (List Int) → Prop) (hr : ∀ r, R r → Qd ((eL eI) r)) (q : t__law_rich book_here_334 payments_335 R E) : sp__law_rich [(eT (eP eI (eT (eP eI eI)))) book_here_334, (eT eI) payments_335] Qd E := ⟨book_here_334, payments_335, R, rfl, hr, q⟩
theorem len__law_rich : ∀ ds Q E, sp__law_rich ds Q E → ds.length = 2 := by rintro ds Q E ⟨_, _, _, rfl, _⟩; rfl
/-! _law_finish -/
def t__law_finish (book_here_340 : (List (Int × (List (Int × Int))))) (run_341 : (List (Str × Int × Int))) : W (List (Str × Int × Int)) := fun Q E => t__law_end book_here_340 (eT (e3 eS eI eI) run_341) (fun r => ∃ x, r = some x ∧ t__law_rich book_here_340 x (fun r2 => whileP (fun (s : (List (Str × Int × Int)) × (Option (List Int)) × (List Int)) Q E => szOk 0 ∧ Q (!(eqB s.2.2 []))) (fun (s : (List (Str × Int × Int)) × (Option (List Int)) × (List Int)) N B => ∃ x2, s.2.1 = some x2 ∧ ∃ x3, atI s.2.2 (0 : Int) = some x3 ∧ t__law_ring book_here_340 x2 x3 (fun r3 => ∃ x4, atI s.2.2 (0 : Int) = some x4 ∧ ∃ x5, s.2.1 = some x5 ∧ t__law_held book_here_340 x5 (fun r4 => ∃ x6, atI r4 x4 = some x6 ∧ ∃ x7, s.2.1 = some x7 ∧ t__law_next book_here_340 x7 x4 (fun r5 => ∃ x8, r5 = some x8 ∧ (joinP (fun (K : (Str × Int × Int) → Prop) => (if r3.isSome = true then ∃ x9, s.2.1 = some x9 ∧ ∃ x10, r3 = some x10 ∧ t__law_rest book_here_340 x9 x10 (fun r6 => K (("ring" : Str), x4, r6)) E else K (("pay" : Str), x4, min x6 x8.2))) (fun (s2 : (Str × Int × Int)) => s.1.length < sizeLine ∧ ∃ x9, s.2.1 = some x9 ∧ t__law_after book_here_340 x9 (e3 eS eI eI s2) (fun r6 => ∃ x10, r6 = some x10 ∧ t__law_rich book_here_340 x10 (fun r7 => N (s.1 ++ [s2], r6, r7)) E) E))) E) E) E) (fun (s : (List (Str × Int × Int)) × (Option (List Int)) × (List Int)) => Q s.1) E (run_341, r, r2)) E) E
theorem u__law_finish (b__law_end : (List (Int × (List (Int × Int)))) → D → W (Option (List Int))) (b__law_rich : (List (Int × (List (Int × Int)))) → (List Int) → W (List Int)) (b__law_ring : (List (Int × (List (Int × Int)))) → (List Int) → Int → W (Option (List Int))) (b__law_held : (List (Int × (List (Int × Int)))) → (List Int) → W (List Int)) (b__law_next : (List (Int × (List (Int × Int)))) → (List Int) → Int → W (Option (Int × Int))) (b__law_rest : (List (Int × (List (Int × Int)))) → (List Int) → (List Int) → W Int) (b__law_after : (List (Int × (List (Int × Int)))) → (List Int) → D → W (Option (List Int))) (book_here_340 : (List (Int × (List (Int × Int))))) (run_341 : (List (Str × Int × Int))) (Q : (List (Str × Int × Int)) → Prop) (E : EK) (q : b__law_end book_here_340 (eT (e3 eS eI eI) run_341) (fun r => ∃ x, r = some x ∧ b__law_rich book_here_340 x (fun r2 => whileP (fun (s : (List (Str × Int × Int)) × (Option (List Int)) × (List Int)) Q E => szOk 0 ∧ Q (!(eqB s.2.2 []))) (fun (s : (List (Str × Int × Int)) × (Option (List Int)) × (List Int)) N B => ∃ x2, s.2.1 = some x2 ∧ ∃ x3, atI s.2.2 (0 : Int) = some x3 ∧ b__law_ring book_here_340 x2 x3 (fun r3 => ∃ x4, atI s.2.2 (0 : Int) = some x4 ∧ ∃ x5, s.2.1 = some x5 ∧ b__law_held book_here_340 x5 (fun r4 => ∃ x6, atI r4 x4 = some x6 ∧ ∃ x7, s.2.1 = some x7 ∧ b__law_next book_here_340 x7 x4 (fun r5 => ∃ x8, r5 = some x8 ∧ (joinP (fun (K : (Str × Int × Int) → Prop) => (if r3.isSome = true then ∃ x9, s.2.1 = some x9 ∧ ∃ x10, r3 = some x10 ∧ b__law_rest book_here_340 x9 x10 (fun r6 => K (("ring" : Str), x4, r6)) E else K (("pay" : Str), x4, min x6 x8.2))) (fun (s2 : (Str × Int × Int)) => s.1.length < sizeLine ∧ ∃ x9, s.2.1 = some x9 ∧ b__law_after book_here_340 x9 (e3 eS eI eI s2) (fun r6 => ∃ x10, r6 = some x10 ∧ b__law_rich book_here_340 x10 (fun r7 => N (s.1 ++ [s2], r6, r7)) E) E))) E) E) E) (fun (s : (List (Str × Int × Int)) × (Option (List Int)) × (List Int)) => Q s.1) E (run_341, r, r2)) E) E) : bindP (pureW run_341) (fun found_342 => bindP (bindW (pureW book_here_340) fun x0 => bindW (bindW (pureW run_341) fun x => pureW ((eT (e3 eS eI eI)) x)) fun x1 => b__law_end x0 x1) (fun payments_343 => bindP (bindW (pureW book_here_340) fun x0 => bindW (bindW (pureW payments_343) getW) fun x1 => b__law_rich x0 x1) (fun rich_here_344 => whileP (fun (s_358 : (List (Str × Int × Int)) × (Option (List Int)) × (List Int)) => (bindW (pureW s_358.2.2) fun x => bindW (bindW (pureW []) szW) fun y => neW x y)) (fun (s_358 : (List (Str × Int × Int)) × (Option (List Int)) × (List Int)) N_360 B_361 => bindP (bindW (pureW book_here_340) fun x0 => bindW (bindW (pureW s_358.2.1) getW) fun x1 => bindW (bindW (pureW s_358.2.2) fun x => bindW (pureW (0 : Int)) fun y => ixW x y) fun x2 => b__law_ring x0 x1 x2) (fun ring_here_365 => bindP (bindW (pureW s_358.2.2) fun x => bindW (pureW (0 : Int)) fun y => ixW x y) (fun house_366 => bindP (bindW (pureW ("pay" : Str)) fun x => bindW (pureW house_366) fun y => bindW (bindW (bindW (bindW (pureW book_here_340) fun x0 => bindW (bindW (pureW s_358.2.1) getW) fun x1 => b__law_held x0 x1) fun x => bindW (pureW house_366) fun y => ixW x y) fun x => bindW (bindW (bindW (bindW (pureW book_here_340) fun x0 => bindW (bindW (pureW s_358.2.1) getW) fun x1 => bindW (pureW house_366) fun x2 => b__law_next x0 x1 x2) getW) fun p => pureW p.2) fun y => min2 x y) fun z => pureW (x, y, z)) (fun step_367 => joinP (fun (K_370 : (Str × Int × Int) → Prop) => bindP (bindW (pureW ring_here_365) fun x => pureW x.isSome) (fun b => ifP b (bindP (bindW (pureW ("ring" : Str)) fun x => bindW (pureW house_366) fun y => bindW (bindW (pureW book_here_340) fun x0 => bindW (bindW (pureW s_358.2.1) getW) fun x1 => bindW (bindW (pureW ring_here_365) getW) fun x2 => b__law_rest x0 x1 x2) fun z => pureW (x, y, z)) (fun step_372 => K_370 step_372) E) (K_370 step_367)) E) (fun (s_369 : (Str × Int × Int)) => bindP (pureW s_369) (fun z_373 => appP s_358.1 (bindP (bindW (pureW book_here_340) fun x0 => bindW (bindW (pureW s_358.2.1) getW) fun x1 => bindW (bindW (pureW s_369) fun x => pureW ((e3 eS eI eI) x)) fun x2 => b__law_after x0 x1 x2) (fun payments_374 => bindP (bindW (pureW book_here_340) fun x0 => bindW (bindW (pureW payments_374) getW) fun x1 => b__law_rich x0 x1) (fun rich_here_375 => N_360 ((s_358.1 ++ [z_373]), payments_374, rich_here_375)) E) E)) E)) E) E) E) (fun (s_358 : (List (Str × Int × Int)) × (Option (List Int)) × (List Int)) => ((bindW (pureW s_358.1) sameW) Q E)) E (found_342, payments_343, rich_here_344)) E) E) E := q
def sp__law_finish : SpD := fun ds Qd E => ∃ (book_here_340 : (List (Int × (List (Int × Int))))) (run_341 : (List (Str × Int × Int))) (R : (List (Str × Int × Int)) → Prop), ds = [(eT (eP eI (eT (eP eI eI)))) book_here_340, (eT (e3 eS eI eI)) run_341] ∧ (∀ r, R r → Qd ((eT (e3 eS eI eI)) r)) ∧ t__law_finish book_here_340 run_341 R E
theorem c__law_finish (book_here_340 : (List (Int × (List (Int × Int))))) (run_341 : (List (Str × Int × Int))) (Qd : DK) (E : EK) (R : (List (Str × Int × Int)) → Prop) (hr : ∀ r, R r → Qd ((eT (e3 eS eI eI)) r)) (q : t__law_finish book_here_340 run_341 R E) : sp__law_finish [(eT (eP eI (eT (eP eI eI)))) book_here_340, (eT (e3 eS eI eI)) run_341] Qd E := ⟨book_here_340, run_341, R, rfl, hr, q⟩
theorem len__law_finish : ∀ ds Q E, sp__law_finish ds Q E → ds.length = 2 := by rintro ds Q E ⟨_, _, _, rfl, _⟩; rfl
/-! _law_least -/
def t__law_least (book_here_376 : (List (Int × (List (Int × Int))))) : W (List Int) := fun Q E => szOk 0 ∧ t__law_finish book_here_376 [] (fun r => t__law_end book_here_376 (eT (e3 eS eI eI) r) (fun r2 => ∃ x, r2 = some x ∧ Q x) E) E
theorem u__law_least (b__law_finish : (List (Int × (List (Int × Int)))) → (List (Str × Int × Int)) → W (List (Str × Int × Int))) (b__law_end : (List (Int × (List (Int × Int)))) → D → W (Option (List Int))) (book_here_376 : (List (Int × (List (Int × Int))))) (Q : (List Int) → Prop) (E : EK) (q : szOk 0 ∧ b__law_finish book_here_376 [] (fun r => b__law_end book_here_376 (eT (e3 eS eI eI) r) (fun r2 => ∃ x, r2 = some x ∧ Q x) E) E) : ((bindW (bindW (pureW book_here_376) fun x0 => bindW (bindW (bindW (pureW book_here_376) fun x0 => bindW (bindW (pureW []) szW) fun x1 => b__law_finish x0 x1) fun x => pureW ((eT (e3 eS eI eI)) x)) fun x1 => b__law_end x0 x1) getW) Q E) := q
def sp__law_least : SpD := fun ds Qd E => ∃ (book_here_376 : (List (Int × (List (Int × Int))))) (R : (List Int) → Prop), ds = [(eT (eP eI (eT (eP eI eI)))) book_here_376] ∧ (∀ r, R r → Qd ((eT eI) r)) ∧ t__law_least book_here_376 R E
theorem c__law_least (book_here_376 : (List (Int × (List (Int × Int))))) (Qd : DK) (E : EK) (R : (List Int) → Prop) (hr : ∀ r, R r → Qd ((eT eI) r)) (q : t__law_least book_here_376 R E) : sp__law_least [(eT (eP eI (eT (eP eI eI)))) book_here_376] Qd E := ⟨book_here_376, R, rfl, hr, q⟩
theorem len__law_least : ∀ ds Q E, sp__law_least ds Q E → ds.length = 1 := by rintro ds Q E ⟨_, _, rfl, _⟩; rfl
/-! _law_odd -/
def t__law_odd (drum_here_377 : Unit) : W D := fun Q E => CPow (10 : Int) (39 : Int) ∧ szOk 0 ∧ szOk 0 ∧ szOk 1 ∧ szOk 1 ∧ szOk 1 ∧ szOk 19 ∧ t__law_beat drum_here_377 (19 : Int) (fun r => ∃ x, atI [eN (), eB true, eB false, eI (-(1 : Int)), eI (0 : Int), eI (1 : Int), eI (5 : Int), eI (6 : Int), eI ((10 : Int) ^ (39 : Int).toNat), eS ("" : Str), eS ("pay" : Str), eS ("0" : Str), eT eI [], eL eI [], D.dc [], eT eI [(0 : Int)], eL eI [(0 : Int)], eP eI eI ((0 : Int), (0 : Int)), eT eB [true]] r = some x ∧ Q x) E
theorem u__law_odd (b__law_beat : Unit → Int → W Int) (drum_here_377 : Unit) (Q : D → Prop) (E : EK) (q : CPow (10 : Int) (39 : Int) ∧ szOk 0 ∧ szOk 0 ∧ szOk 1 ∧ szOk 1 ∧ szOk 1 ∧ szOk 19 ∧ b__law_beat drum_here_377 (19 : Int) (fun r => ∃ x, atI [eN (), eB true, eB false, eI (-(1 : Int)), eI (0 : Int), eI (1 : Int), eI (5 : Int), eI (6 : Int), eI ((10 : Int) ^ (39 : Int).toNat), eS ("" : Str), eS ("pay" : Str), eS ("0" : Str), eT eI [], eL eI [], D.dc [], eT eI [(0 : Int)], eL eI [(0 : Int)], eP eI eI ((0 : Int), (0 : Int)), eT eB [true]] r = some x ∧ Q x) E) : bindP (bindW (bindW (bindW (pureW ()) fun x => pureW (eN x)) fun x => bindW (bindW (bindW (pureW true) fun x => pureW (eB x)) fun x => bindW (bindW (bindW (pureW false) fun x => pureW (eB x)) fun x => bindW (bindW (bindW (bindW (pureW (1 : Int)) fun i => pureW (-i)) fun x => pureW (eI x)) fun x => bindW (bindW (bindW (pureW (0 : Int)) fun x => pureW (eI x)) fun x => bindW (bindW (bindW (pureW (1 : Int)) fun x => pureW (eI x)) fun x => bindW (bindW (bindW (pureW (5 : Int)) fun x => pureW (eI x)) fun x => bindW (bindW (bindW (pureW (6 : Int)) fun x => pureW (eI x)) fun x => bindW (bindW (bindW (bindW (pureW (10 : Int)) fun x => bindW (pureW (39 : Int)) fun y => powI x y) fun x => pureW (eI x)) fun x => bindW (bindW (bindW (pureW ("" : Str)) fun x => pureW (eS x)) fun x => bindW (bindW (bindW (pureW ("pay" : Str)) fun x => pureW (eS x)) fun x => bindW (bindW (bindW (pureW ("0" : Str)) fun x => pureW (eS x)) fun x => bindW (bindW (bindW (bindW (pureW []) szW) fun x => pureW ((eT eI) x)) fun x => bindW (bindW (bindW (bindW (pureW []) szW) fun x => pureW ((eL eI) x)) fun x => bindW (bindW (pureW (D.dc [])) fun x => bindW (bindW (bindW (bindW (bindW (pureW (0 : Int)) fun x => bindW (pureW []) fun xs => pureW (x :: xs)) szW) fun x => pureW ((eT eI) x)) fun x => bindW (bindW (bindW (bindW (bindW (pureW (0 : Int)) fun x => bindW (pureW []) fun xs => pureW (x :: xs)) szW) fun x => pureW ((eL eI) x)) fun x => bindW (bindW (bindW (bindW (pureW (0 : Int)) fun x => bindW (pureW (0 : Int)) fun y => pureW (x, y)) fun x => pureW ((eP eI eI) x)) fun x => bindW (bindW (bindW (bindW (bindW (pureW true) fun x => bindW (pureW []) fun xs => pureW (x :: xs)) szW) fun x => pureW ((eT eB) x)) fun x => bindW (pureW []) fun xs => pureW (x :: xs)) fun xs => pureW (x :: xs)) fun xs => pureW (x :: xs)) fun xs => pureW (x :: xs)) fun xs => pureW (x :: xs)) fun xs => pureW (x :: xs)) fun xs => pureW (x :: xs)) fun xs => pureW (x :: xs)) fun xs => pureW (x :: xs)) fun xs => pureW (x :: xs)) fun xs => pureW (x :: xs)) fun xs => pureW (x :: xs)) fun xs => pureW (x :: xs)) fun xs => pureW (x :: xs)) fun xs => pureW (x :: xs)) fun xs => pureW (x :: xs)) fun xs => pureW (x :: xs)) fun xs => pureW (x :: xs)) fun xs => pureW (x :: xs)) szW) (fun some_here_378 => ((bindW (pureW some_here_378) fun x => bindW (bindW (pureW drum_here_377) fun x0 => bindW (pureW (19 : Int)) fun x1 => b__law_beat x0 x1) fun y => ixW x y) Q E)) E := q
def sp__law_odd : SpD := fun ds Qd E => ∃ (drum_here_377 : Unit) (R : D → Prop), ds = [eDr drum_here_377] ∧ (∀ r, R r → Qd (eA r)) ∧ t__law_odd drum_here_377 R E
theorem c__law_odd (drum_here_377 : Unit) (Qd : DK) (E : EK) (R : D → Prop) (hr : ∀ r, R r → Qd (eA r)) (q : t__law_odd drum_here_377 R E) : sp__law_odd [eDr drum_here_377] Qd E := ⟨drum_here_377, R, rfl, hr, q⟩
theorem len__law_odd : ∀ ds Q E, sp__law_odd ds Q E → ds.length = 1 := by rintro ds Q E ⟨_, _, rfl, _⟩; rfl
/-! _law_bent -/
def t__law_bent (drum_here_379 : Unit) (payments_380 : (List Int)) : W D := fun Q E => t__law_beat drum_here_379 (payments_380.length : Int) (fun r => ∃ x, atI payments_380 r = some x ∧ CPow (10 : Int) (9 : Int) ∧ t__law_beat drum_here_379 ((10 : Int) ^ (9 : Int).toNat) (fun r2 => t__law_odd drum_here_379 (fun r3 => x.natAbs.log2 < 1920 ∧ szOk 1 ∧ szOk 8 ∧ t__law_beat drum_here_379 (8 : Int) (fun r4 => ∃ x2, atI [eI (x + (1 : Int)), eI (x - (1 : Int)), eB (decide (x = (1 : Int))), eS (strI x), eN (), eI r2, eT eI [x], r3] r4 = some x2 ∧ szOk 1 ∧ szOk (((cutT payments_380 none (some r)).map eI).length + [x2].length) ∧ szOk (((cutT payments_380 none (some r)).map eI ++ [x2]).length + ((cutT payments_380 (some (r + (1 : Int))) none).map eI).length) ∧ szOk ((cutT payments_380 none (some r)).length + (cutT payments_380 (some (r + (1 : Int))) none).length) ∧ szOk 3 ∧ joinP (fun K => K [eT eA (((cutT payments_380 none (some r)).map eI ++ [x2]) ++ (cutT payments_380 (some (r + (1 : Int))) none).map eI), eT eI (cutT payments_380 none (some r) ++ cutT payments_380 (some (r + (1 : Int))) none), eT eI payments_380.reverse]) (fun v => (-(2 ^ 63) ≤ (5 : Int) ∧ (5 : Int) < 2 ^ 63 ∧ szOk ((cutT v none (some (1 : Int))).length * (5 : Int).toNat)) ∧ szOk (((List.replicate (5 : Int).toNat (cutT v none (some (1 : Int)))).flatten).length + v.length) ∧ szOk (payments_380.length + (cutT payments_380 (some r) none).length) ∧ szOk 2 ∧ joinP (fun K => K [eL eI payments_380, eT eI (payments_380 ++ cutT payments_380 (some r) none)]) (fun v2 => szOk ((((List.replicate (5 : Int).toNat (cutT v none (some (1 : Int)))).flatten) ++ v).length + v2.length) ∧ t__law_beat drum_here_379 (10 : Int) (fun r5 => ∃ x3, atI ((((List.replicate (5 : Int).toNat (cutT v none (some (1 : Int)))).flatten) ++ v) ++ v2) r5 = some x3 ∧ Q x3) E))) E) E) E) E
theorem u__law_bent (b__law_beat : Unit → Int → W Int) (b__law_odd : Unit → W D) (drum_here_379 : Unit) (payments_380 : (List Int)) (Q : D → Prop) (E : EK) (q : b__law_beat drum_here_379 (payments_380.length : Int) (fun r => ∃ x, atI payments_380 r = some x ∧ CPow (10 : Int) (9 : Int) ∧ b__law_beat drum_here_379 ((10 : Int) ^ (9 : Int).toNat) (fun r2 => b__law_odd drum_here_379 (fun r3 => x.natAbs.log2 < 1920 ∧ szOk 1 ∧ szOk 8 ∧ b__law_beat drum_here_379 (8 : Int) (fun r4 => ∃ x2, atI [eI (x + (1 : Int)), eI (x - (1 : Int)), eB (decide (x = (1 : Int))), eS (strI x), eN (), eI r2, eT eI [x], r3] r4 = some x2 ∧ szOk 1 ∧ szOk (((cutT payments_380 none (some r)).map eI).length + [x2].length) ∧ szOk (((cutT payments_380 none (some r)).map eI ++ [x2]).length + ((cutT payments_380 (some (r + (1 : Int))) none).map eI).length) ∧ szOk ((cutT payments_380 none (some r)).length + (cutT payments_380 (some (r + (1 : Int))) none).length) ∧ szOk 3 ∧ joinP (fun K => K [eT eA (((cutT payments_380 none (some r)).map eI ++ [x2]) ++ (cutT payments_380 (some (r + (1 : Int))) none).map eI), eT eI (cutT payments_380 none (some r) ++ cutT payments_380 (some (r + (1 : Int))) none), eT eI payments_380.reverse]) (fun v => (-(2 ^ 63) ≤ (5 : Int) ∧ (5 : Int) < 2 ^ 63 ∧ szOk ((cutT v none (some (1 : Int))).length * (5 : Int).toNat)) ∧ szOk (((List.replicate (5 : Int).toNat (cutT v none (some (1 : Int)))).flatten).length + v.length) ∧ szOk (payments_380.length + (cutT payments_380 (some r) none).length) ∧ szOk 2 ∧ joinP (fun K => K [eL eI payments_380, eT eI (payments_380 ++ cutT payments_380 (some r) none)]) (fun v2 => szOk ((((List.replicate (5 : Int).toNat (cutT v none (some (1 : Int)))).flatten) ++ v).length + v2.length) ∧ b__law_beat drum_here_379 (10 : Int) (fun r5 => ∃ x3, atI ((((List.replicate (5 : Int).toNat (cutT v none (some (1 : Int)))).flatten) ++ v) ++ v2) r5 = some x3 ∧ Q x3) E))) E) E) E) E) : bindP (bindW (pureW drum_here_379) fun x0 => bindW (bindW (pureW payments_380) lenW) fun x1 => b__law_beat x0 x1) (fun spot_381 => bindP (bindW (pureW payments_380) fun x => bindW (pureW spot_381) fun y => ixW x y) (fun own_382 => bindP (bindW (pureW drum_here_379) fun x0 => bindW (bindW (pureW (10 : Int)) fun x => bindW (pureW (9 : Int)) fun y => powI x y) fun x1 => b__law_beat x0 x1) (fun any_amount_383 => bindP (bindW (pureW drum_here_379) fun x0 => b__law_odd x0) (fun strange_384 => bindP (bindW (bindW (bindW (bindW (bindW (pureW own_382) fun x => bindW (pureW (1 : Int)) fun y => addI x y) fun x => pureW (eI x)) fun x => bindW (bindW (bindW (bindW (pureW own_382) fun x => bindW (pureW (1 : Int)) fun y => subI x y) fun x => pureW (eI x)) fun x => bindW (bindW (bindW (bindW (pureW own_382) fun x => bindW (pureW (1 : Int)) fun y => eqI x y) fun x => pureW (eB x)) fun x => bindW (bindW (bindW (bindW (pureW own_382) strW) fun x => pureW (eS x)) fun x => bindW (bindW (bindW (pureW ()) fun x => pureW (eN x)) fun x => bindW (bindW (bindW (pureW any_amount_383) fun x => pureW (eI x)) fun x => bindW (bindW (bindW (bindW (bindW (pureW own_382) fun x => bindW (pureW []) fun xs => pureW (x :: xs)) szW) fun x => pureW ((eT eI) x)) fun x => bindW (bindW (pureW strange_384) fun x => bindW (pureW []) fun xs => pureW (x :: xs)) fun xs => pureW (x :: xs)) fun xs => pureW (x :: xs)) fun xs => pureW (x :: xs)) fun xs => pureW (x :: xs)) fun xs => pureW (x :: xs)) fun xs => pureW (x :: xs)) fun xs => pureW (x :: xs)) szW) fun x => bindW (bindW (pureW drum_here_379) fun x0 => bindW (pureW (8 : Int)) fun x1 => b__law_beat x0 x1) fun y => ixW x y) (fun new_385 => bindP (bindW (bindW (bindW (bindW (bindW (bindW (bindW (pureW payments_380) fun xs => bindW (pureW none) fun l => bindW (bindW (pureW spot_381) fun i => pureW (some i)) fun h => pureW (cutT xs l h)) fun xs => pureW (xs.map eI)) fun x => bindW (bindW (bindW (pureW new_385) fun x => bindW (pureW []) fun xs => pureW (x :: xs)) szW) fun y => catW x y) fun x => bindW (bindW (bindW (pureW payments_380) fun xs => bindW (bindW (bindW (pureW spot_381) fun x => bindW (pureW (1 : Int)) fun y => addI x y) fun i => pureW (some i)) fun l => bindW (pureW none) fun h => pureW (cutT xs l h)) fun xs => pureW (xs.map eI)) fun y => catW x y) fun x => pureW ((eT eA) x)) fun x => bindW (bindW (bindW (bindW (bindW (pureW payments_380) fun xs => bindW (pureW none) fun l => bindW (bindW (pureW spot_381) fun i => pureW (some i)) fun h => pureW (cutT xs l h)) fun x => bindW (bindW (pureW payments_380) fun xs => bindW (bindW (bindW (pureW spot_381) fun x => bindW (pureW (1 : Int)) fun y => addI x y) fun i => pureW (some i)) fun l => bindW (pureW none) fun h => pureW (cutT xs l h)) fun y => catW x y) fun x => pureW ((eT eI) x)) fun x => bindW (bindW (bindW (bindW (pureW payments_380) fun xs => pureW xs.reverse) fun x => pureW ((eT eI) x)) fun x => bindW (pureW []) fun xs => pureW (x :: xs)) fun xs => pureW (x :: xs)) fun xs => pureW (x :: xs)) szW) (fun some_here_386 => ((bindW (bindW (bindW (bindW (bindW (pureW some_here_386) fun xs => bindW (pureW none) fun l => bindW (bindW (pureW (1 : Int)) fun i => pureW (some i)) fun h => pureW (cutT xs l h)) fun x => bindW (pureW (5 : Int)) fun y => repL x y) fun x => bindW (pureW some_here_386) fun y => catW x y) fun x => bindW (bindW (bindW (bindW (bindW (pureW payments_380) sameW) fun x => pureW ((eL eI) x)) fun x => bindW (bindW (bindW (bindW (pureW payments_380) fun x => bindW (bindW (pureW payments_380) fun xs => bindW (bindW (pureW spot_381) fun i => pureW (some i)) fun l => bindW (pureW none) fun h => pureW (cutT xs l h)) fun y => catW x y) fun x => pureW ((eT eI) x)) fun x => bindW (pureW []) fun xs => pureW (x :: xs)) fun xs => pureW (x :: xs)) szW) fun y => catW x y) fun x => bindW (bindW (pureW drum_here_379) fun x0 => bindW (pureW (10 : Int)) fun x1 => b__law_beat x0 x1) fun y => ixW x y) Q E)) E) E) E) E) E) E := q
def sp__law_bent : SpD := fun ds Qd E => ∃ (drum_here_379 : Unit) (payments_380 : (List Int)) (R : D → Prop), ds = [eDr drum_here_379, (eT eI) payments_380] ∧ (∀ r, R r → Qd (eA r)) ∧ t__law_bent drum_here_379 payments_380 R E
theorem c__law_bent (drum_here_379 : Unit) (payments_380 : (List Int)) (Qd : DK) (E : EK) (R : D → Prop) (hr : ∀ r, R r → Qd (eA r)) (q : t__law_bent drum_here_379 payments_380 R E) : sp__law_bent [eDr drum_here_379, (eT eI) payments_380] Qd E := ⟨drum_here_379, payments_380, R, rfl, hr, q⟩
theorem len__law_bent : ∀ ds Q E, sp__law_bent ds Q E → ds.length = 2 := by rintro ds Q E ⟨_, _, _, rfl, _⟩; rfl
/-! _law_some -/
def t__law_some (drum_here_387 : Unit) (book_here_388 : (List (Int × (List (Int × Int))))) : W (List Int) := fun Q E => szOk 0 ∧ t__law_debts book_here_388 (fun r => forP (fun x (s : (List Int)) N B => t__law_beat drum_here_387 (x + (1 : Int)) (fun r2 => szOk 3 ∧ t__law_beat drum_here_387 (3 : Int) (fun r3 => ∃ x2, atI [(0 : Int), x, r2] r3 = some x2 ∧ s.length < sizeLine ∧ N (s ++ [x2])) E) E) (fun (s : (List Int)) => Q s) r []) E
theorem u__law_some (b__law_debts : (List (Int × (List (Int × Int)))) → W (List Int)) (b__law_beat : Unit → Int → W Int) (drum_here_387 : Unit) (book_here_388 : (List (Int × (List (Int × Int))))) (Q : (List Int) → Prop) (E : EK) (q : szOk 0 ∧ b__law_debts book_here_388 (fun r => forP (fun x (s : (List Int)) N B => b__law_beat drum_here_387 (x + (1 : Int)) (fun r2 => szOk 3 ∧ b__law_beat drum_here_387 (3 : Int) (fun r3 => ∃ x2, atI [(0 : Int), x, r2] r3 = some x2 ∧ s.length < sizeLine ∧ N (s ++ [x2])) E) E) (fun (s : (List Int)) => Q s) r []) E) : bindP (bindW (pureW []) szW) (fun found_389 => bindP (bindW (pureW book_here_388) fun x0 => b__law_debts x0) (fun xs => forP (fun x_394 (s_393 : (List Int)) N_395 B_396 => bindP (bindW (bindW (bindW (pureW (0 : Int)) fun x => bindW (bindW (pureW x_394) fun x => bindW (bindW (bindW (pureW drum_here_387) fun x0 => bindW (bindW (pureW x_394) fun x => bindW (pureW (1 : Int)) fun y => addI x y) fun x1 => b__law_beat x0 x1) fun x => bindW (pureW []) fun xs => pureW (x :: xs)) fun xs => pureW (x :: xs)) fun xs => pureW (x :: xs)) szW) fun x => bindW (bindW (pureW drum_here_387) fun x0 => bindW (pureW (3 : Int)) fun x1 => b__law_beat x0 x1) fun y => ixW x y) (fun z_400 => appP s_393 (N_395 (s_393 ++ [z_400]))) E) (fun (s_393 : (List Int)) => ((bindW (pureW s_393) sameW) Q E)) xs found_389) E) E := q
def sp__law_some : SpD := fun ds Qd E => ∃ (drum_here_387 : Unit) (book_here_388 : (List (Int × (List (Int × Int))))) (R : (List Int) → Prop), ds = [eDr drum_here_387, (eT (eP eI (eT (eP eI eI)))) book_here_388] ∧ (∀ r, R r → Qd ((eT eI) r)) ∧ t__law_some drum_here_387 book_here_388 R E
theorem c__law_some (drum_here_387 : Unit) (book_here_388 : (List (Int × (List (Int × Int))))) (Qd : DK) (E : EK) (R : (List Int) → Prop) (hr : ∀ r, R r → Qd ((eT eI) r)) (q : t__law_some drum_here_387 book_here_388 R E) : sp__law_some [eDr drum_here_387, (eT (eP eI (eT (eP eI eI)))) book_here_388] Qd E := ⟨drum_here_387, book_here_388, R, rfl, hr, q⟩
theorem len__law_some : ∀ ds Q E, sp__law_some ds Q E → ds.length = 2 := by rintro ds Q E ⟨_, _, _, rfl, _⟩; rfl
/-! the law -/
def t_law : W Bool := fun Q E => in62 (4 : Int) ∧ forP (fun x (s : Unit) N B => t__law_book () (3 : Int) (2 : Int) (2 : Int) (fun r => t__law_every r (fun r2 => forP (fun x2 (s2 : Unit) N2 B2 => t__law_error r (eT eI x2) (fun r3 => t_settlement_error r (eT eI x2) (fun r4 => t_is_settlement r (eT eI x2) (fun r5 => szOk 2 ∧ Fit (eL eA [r4, eB r5]) ∧ szOk 2 ∧ Fit (eL eA [r3, eB (isNon (eA r3))]) ∧ (if (!(eqB (eL eA [r4, eB r5]).py.shown (eL eA [r3, eB (isNon (eA r3))]).py.shown)) = true then Q false else N2 ())) E) E) E) (fun (s2 : Unit) => N ()) r2 ()) E) E) (fun (s : Unit) => in62 (6 : Int) ∧ forP (fun x (s2 : Unit) N B => CPow (10 : Int) (9 : Int) ∧ szOk 2 ∧ 0 < (2 : Int) ∧ ∃ x2, atI [(9 : Int), (10 : Int) ^ (9 : Int).toNat] (x % (2 : Int)) = some x2 ∧ t__law_book () (6 : Int) (6 : Int) x2 (fun r => t__law_least r (fun r2 => szOk 1 ∧ (-(2 ^ 63) ≤ (r.length : Int) ∧ (r.length : Int) ≤ 1000 ∧ [(0 : Int)].length ≤ 1000) ∧ t__law_debts r (fun r3 => szOk 1 ∧ szOk (r2.length + [(0 : Int)].length) ∧ szOk 0 ∧ szOk 1 ∧ szOk 8 ∧ joinP (fun K => K [eT eI r2, eT eI ((List.replicate (r.length : Int).toNat [(0 : Int)]).flatten), eT eI r3, eL eI r2, eT eI (r2 ++ [(0 : Int)]), eT eI [], eN (), eT (eT eI) [r2]]) (fun v => in62 (10 : Int) ∧ (rgI 0 (10 : Int).toNat).length ≤ sizeLine ∧ lcP (fun a Q E => Q true) (fun a Q E => t__law_bent () r2 Q E) (fun _ => False) (rgI 0 (10 : Int).toNat) [] (fun ys => szOk (v.length + ys.length) ∧ t__law_some () r (fun r4 => t__law_odd () (fun r5 => szOk 2 ∧ szOk ((v ++ ys).length + [eT eI r4, r5].length) ∧ forP (fun x3 (s3 : Unit) N2 B2 => szOk 2 ∧ Fit (eL eA [eT (eP eI (eT (eP eI eI))) r, x3]) ∧ t__law_error r x3 (fun r6 => in62 (2 : Int) ∧ forP (fun x4 (s4 : Unit) N3 B3 => t_settlement_error r x3 (fun r7 => t_is_settlement r x3 (fun r8 => szOk 2 ∧ Fit (eL eA [r7, eB r8]) ∧ szOk 2 ∧ Fit (eL eA [r6, eB (isNon (eA r6))]) ∧ (if (!(eqB (eL eA [r7, eB r8]).py.shown (eL eA [r6, eB (isNon (eA r6))]).py.shown)) = true then Q false else szOk 2 ∧ Fit (eL eA [eT (eP eI (eT (eP eI eI))) r, x3]) ∧ (if (!(eqB (eL eA [eT (eP eI (eT (eP eI eI))) r, x3]).py.shown (eL eA [eT (eP eI (eT (eP eI eI))) r, x3]).py.shown)) = true then Q false else N3 ()))) E) E) (fun (s4 : Unit) => N2 ()) (rgI 0 (2 : Int).toNat) ()) E) (fun (s3 : Unit) => N ()) ((v ++ ys) ++ [eT eI r4, r5]) ()) E) E))) E) E) E) (fun (s2 : Unit) => szOk 1 ∧ szOk 1 ∧ szOk 2 ∧ szOk 6 ∧ joinP (fun K => K [eP eI eI ((2 : Int), (2 : Int)), eP eI eI ((1 : Int), (2 : Int)), eP eI eI ((3 : Int), (2 : Int)), eP eI eI ((4 : Int), (4 : Int)), eP eB eI (true, (1 : Int)), eP eI eI ((3 : Int), (3 : Int))]) (fun v => szOk 6 ∧ v.length ≤ sizeLine ∧ lcP (fun a Q E => Q true) (fun a Q E => t_settlement_error [((0 : Int), [((1 : Int), (5 : Int))]), ((0 : Int), [((0 : Int), (3 : Int))])] a Q E) (fun _ => False) v [] (fun ys => eqA (eL eA ys) (eL eA [eN (), eP eI eS ((0 : Int), ("less" : Str)), eP eI eS ((0 : Int), ("more" : Str)), eP eN eS ((), ("payments" : Str)), eP eN eS ((), ("payments" : Str)), eN ()]) Q E))) (rgI 0 (6 : Int).toNat) ()) (rgI 0 (4 : Int).toNat) ()
theorem u_law (b__law_book : Unit → Int → Int → Int → W (List (Int × (List (Int × Int))))) (b__law_every : (List (Int × (List (Int × Int)))) → W (List (List Int))) (b__law_error : (List (Int × (List (Int × Int)))) → D → W D) (b_settlement_error : (List (Int × (List (Int × Int)))) → D → W D) (b_is_settlement : (List (Int × (List (Int × Int)))) → D → W Bool) (b__law_least : (List (Int × (List (Int × Int)))) → W (List Int)) (b__law_debts : (List (Int × (List (Int × Int)))) → W (List Int)) (b__law_bent : Unit → (List Int) → W D) (b__law_some : Unit → (List (Int × (List (Int × Int)))) → W (List Int)) (b__law_odd : Unit → W D) (Q : Bool → Prop) (E : EK) (q : in62 (4 : Int) ∧ forP (fun x (s : Unit) N B => b__law_book () (3 : Int) (2 : Int) (2 : Int) (fun r => b__law_every r (fun r2 => forP (fun x2 (s2 : Unit) N2 B2 => b__law_error r (eT eI x2) (fun r3 => b_settlement_error r (eT eI x2) (fun r4 => b_is_settlement r (eT eI x2) (fun r5 => szOk 2 ∧ Fit (eL eA [r4, eB r5]) ∧ szOk 2 ∧ Fit (eL eA [r3, eB (isNon (eA r3))]) ∧ (if (!(eqB (eL eA [r4, eB r5]).py.shown (eL eA [r3, eB (isNon (eA r3))]).py.shown)) = true then Q false else N2 ())) E) E) E) (fun (s2 : Unit) => N ()) r2 ()) E) E) (fun (s : Unit) => in62 (6 : Int) ∧ forP (fun x (s2 : Unit) N B => CPow (10 : Int) (9 : Int) ∧ szOk 2 ∧ 0 < (2 : Int) ∧ ∃ x2, atI [(9 : Int), (10 : Int) ^ (9 : Int).toNat] (x % (2 : Int)) = some x2 ∧ b__law_book () (6 : Int) (6 : Int) x2 (fun r => b__law_least r (fun r2 => szOk 1 ∧ (-(2 ^ 63) ≤ (r.length : Int) ∧ (r.length : Int) ≤ 1000 ∧ [(0 : Int)].length ≤ 1000) ∧ b__law_debts r (fun r3 => szOk 1 ∧ szOk (r2.length + [(0 : Int)].length) ∧ szOk 0 ∧ szOk 1 ∧ szOk 8 ∧ joinP (fun K => K [eT eI r2, eT eI ((List.replicate (r.length : Int).toNat [(0 : Int)]).flatten), eT eI r3, eL eI r2, eT eI (r2 ++ [(0 : Int)]), eT eI [], eN (), eT (eT eI) [r2]]) (fun v => in62 (10 : Int) ∧ (rgI 0 (10 : Int).toNat).length ≤ sizeLine ∧ lcP (fun a Q E => Q true) (fun a Q E => b__law_bent () r2 Q E) (fun _ => False) (rgI 0 (10 : Int).toNat) [] (fun ys => szOk (v.length + ys.length) ∧ b__law_some () r (fun r4 => b__law_odd () (fun r5 => szOk 2 ∧ szOk ((v ++ ys).length + [eT eI r4, r5].length) ∧ forP (fun x3 (s3 : Unit) N2 B2 => szOk 2 ∧ Fit (eL eA [eT (eP eI (eT (eP eI eI))) r, x3]) ∧ b__law_error r x3 (fun r6 => in62 (2 : Int) ∧ forP (fun x4 (s4 : Unit) N3 B3 => b_settlement_error r x3 (fun r7 => b_is_settlement r x3 (fun r8 => szOk 2 ∧ Fit (eL eA [r7, eB r8]) ∧ szOk 2 ∧ Fit (eL eA [r6, eB (isNon (eA r6))]) ∧ (if (!(eqB (eL eA [r7, eB r8]).py.shown (eL eA [r6, eB (isNon (eA r6))]).py.shown)) = true then Q false else szOk 2 ∧ Fit (eL eA [eT (eP eI (eT (eP eI eI))) r, x3]) ∧ (if (!(eqB (eL eA [eT (eP eI (eT (eP eI eI))) r, x3]).py.shown (eL eA [eT (eP eI (eT (eP eI eI))) r, x3]).py.shown)) = true then Q false else N3 ()))) E) E) (fun (s4 : Unit) => N2 ()) (rgI 0 (2 : Int).toNat) ()) E) (fun (s3 : Unit) => N ()) ((v ++ ys) ++ [eT eI r4, r5]) ()) E) E))) E) E) E) (fun (s2 : Unit) => szOk 1 ∧ szOk 1 ∧ szOk 2 ∧ szOk 6 ∧ joinP (fun K => K [eP eI eI ((2 : Int), (2 : Int)), eP eI eI ((1 : Int), (2 : Int)), eP eI eI ((3 : Int), (2 : Int)), eP eI eI ((4 : Int), (4 : Int)), eP eB eI (true, (1 : Int)), eP eI eI ((3 : Int), (3 : Int))]) (fun v => szOk 6 ∧ v.length ≤ sizeLine ∧ lcP (fun a Q E => Q true) (fun a Q E => b_settlement_error [((0 : Int), [((1 : Int), (5 : Int))]), ((0 : Int), [((0 : Int), (3 : Int))])] a Q E) (fun _ => False) v [] (fun ys => eqA (eL eA ys) (eL eA [eN (), eP eI eS ((0 : Int), ("less" : Str)), eP eI eS ((0 : Int), ("more" : Str)), eP eN eS ((), ("payments" : Str)), eP eN eS ((), ("payments" : Str)), eN ()]) Q E))) (rgI 0 (6 : Int).toNat) ()) (rgI 0 (4 : Int).toNat) ()) : bindP (bindW (pureW (4 : Int)) rng1W) (fun xs => forP (fun x_416 (s_415 : Unit) N_417 B_418 => bindP (bindW (pureW ()) fun x0 => bindW (pureW (3 : Int)) fun x1 => bindW (pureW (2 : Int)) fun x2 => bindW (pureW (2 : Int)) fun x3 => b__law_book x0 x1 x2 x3) (fun book_here_422 => bindP (bindW (pureW book_here_422) fun x0 => b__law_every x0) (fun xs => forP (fun x_427 (s_426 : Unit) N_428 B_429 => bindP (bindW (pureW book_here_422) fun x0 => bindW (bindW (pureW x_427) fun x => pureW ((eT eI) x)) fun x1 => b__law_error x0 x1) (fun due_433 => bindP (bindW (bindW (bindW (bindW (bindW (pureW book_here_422) fun x0 => bindW (bindW (pureW x_427) fun x => pureW ((eT eI) x)) fun x1 => b_settlement_error x0 x1) fun x => bindW (bindW (bindW (bindW (pureW book_here_422) fun x0 => bindW (bindW (pureW x_427) fun x => pureW ((eT eI) x)) fun x1 => b_is_settlement x0 x1) fun x => pureW (eB x)) fun x => bindW (pureW []) fun xs => pureW (x :: xs)) fun xs => pureW (x :: xs)) szW) (fun x => reprW ((eL eA) x))) fun x => bindW (bindW (bindW (bindW (pureW due_433) fun x => bindW (bindW (bindW (bindW (pureW due_433) fun x => pureW (isNon (eA x))) fun x => pureW (eB x)) fun x => bindW (pureW []) fun xs => pureW (x :: xs)) fun xs => pureW (x :: xs)) szW) (fun x => reprW ((eL eA) x))) fun y => neW x y) (fun b => ifP b (((pureW false) Q E)) (N_428 ())) E) E) (fun (s_426 : Unit) => N_417 ()) xs ()) E) E) (fun (s_415 : Unit) => bindP (bindW (pureW (6 : Int)) rng1W) (fun xs => forP (fun x_477 (s_476 : Unit) N_478 B_479 => bindP (bindW (pureW ()) fun x0 => bindW (pureW (6 : Int)) fun x1 => bindW (pureW (6 : Int)) fun x2 => bindW (bindW (bindW (bindW (pureW (9 : Int)) fun x => bindW (bindW (bindW (pureW (10 : Int)) fun x => bindW (pureW (9 : Int)) fun y => powI x y) fun x => bindW (pureW []) fun xs => pureW (x :: xs)) fun xs => pureW (x :: xs)) szW) fun x => bindW (bindW (pureW x_477) fun x => bindW (pureW (2 : Int)) fun y => modI x y) fun y => ixW x y) fun x3 => b__law_book x0 x1 x2 x3) (fun book_here_483 => bindP (bindW (pureW book_here_483) fun x0 => b__law_least x0) (fun good_484 => bindP (bindW (bindW (bindW (pureW good_484) fun x => pureW ((eT eI) x)) fun x => bindW (bindW (bindW (bindW (bindW (bindW (pureW (0 : Int)) fun x => bindW (pureW []) fun xs => pureW (x :: xs)) szW) fun x => bindW (bindW (pureW book_here_483) lenW) fun y => repT x y) fun x => pureW ((eT eI) x)) fun x => bindW (bindW (bindW (bindW (bindW (pureW book_here_483) fun x0 => b__law_debts x0) sameW) fun x => pureW ((eT eI) x)) fun x => bindW (bindW (bindW (bindW (pureW good_484) sameW) fun x => pureW ((eL eI) x)) fun x => bindW (bindW (bindW (bindW (pureW good_484) fun x => bindW (bindW (bindW (pureW (0 : Int)) fun x => bindW (pureW []) fun xs => pureW (x :: xs)) szW) fun y => catW x y) fun x => pureW ((eT eI) x)) fun x => bindW (bindW (bindW (bindW (pureW []) szW) fun x => pureW ((eT eI) x)) fun x => bindW (bindW (bindW (pureW ()) fun x => pureW (eN x)) fun x => bindW (bindW (bindW (bindW (bindW (pureW good_484) fun x => bindW (pureW []) fun xs => pureW (x :: xs)) szW) fun x => pureW ((eT (eT eI)) x)) fun x => bindW (pureW []) fun xs => pureW (x :: xs)) fun xs => pureW (x :: xs)) fun xs => pureW (x :: xs)) fun xs => pureW (x :: xs)) fun xs => pureW (x :: xs)) fun xs => pureW (x :: xs)) fun xs => pureW (x :: xs)) fun xs => pureW (x :: xs)) szW) (fun values_485 => bindP (bindW (bindW (pureW values_485) fun x => bindW (bindW (bindW (pureW (10 : Int)) rng1W) fun xs => lcW (fun a_487 => (pureW true)) (fun a_487 => (bindW (pureW ()) fun x0 => bindW (pureW good_484) fun x1 => b__law_bent x0 x1)) xs) fun y => catW x y) fun x => bindW (bindW (bindW (bindW (bindW (pureW ()) fun x0 => bindW (pureW book_here_483) fun x1 => b__law_some x0 x1) fun x => pureW ((eT eI) x)) fun x => bindW (bindW (bindW (pureW ()) fun x0 => b__law_odd x0) fun x => bindW (pureW []) fun xs => pureW (x :: xs)) fun xs => pureW (x :: xs)) szW) fun y => catW x y) (fun values_486 => bindP (pureW values_486) (fun xs => forP (fun x_504 (s_503 : Unit) N_505 B_506 => bindP (bindW (bindW (bindW (bindW (pureW book_here_483) fun x => pureW ((eT (eP eI (eT (eP eI eI)))) x)) fun x => bindW (bindW (pureW x_504) fun x => bindW (pureW []) fun xs => pureW (x :: xs)) fun xs => pureW (x :: xs)) szW) (fun x => reprW ((eL eA) x))) (fun shown_510 => bindP (bindW (pureW book_here_483) fun x0 => bindW (pureW x_504) fun x1 => b__law_error x0 x1) (fun due_511 => bindP (bindW (pureW (2 : Int)) rng1W) (fun xs => forP (fun x_516 (s_515 : Unit) N_517 B_518 => bindP (bindW (bindW (bindW (pureW book_here_483) fun x0 => bindW (pureW x_504) fun x1 => b_settlement_error x0 x1) fun x => bindW (bindW (bindW (bindW (pureW book_here_483) fun x0 => bindW (pureW x_504) fun x1 => b_is_settlement x0 x1) fun x => pureW (eB x)) fun x => bindW (pureW []) fun xs => pureW (x :: xs)) fun xs => pureW (x :: xs)) szW) (fun found_522 => bindP (bindW (bindW (bindW (pureW found_522) (fun x => reprW ((eL eA) x))) fun x => bindW (bindW (bindW (bindW (pureW due_511) fun x => bindW (bindW (bindW (bindW (pureW due_511) fun x => pureW (isNon (eA x))) fun x => pureW (eB x)) fun x => bindW (pureW []) fun xs => pureW (x :: xs)) fun xs => pureW (x :: xs)) szW) (fun x => reprW ((eL eA) x))) fun y => neW x y) fun c => ifW c (pureW true) (bindW (bindW (bindW (bindW (bindW (pureW book_here_483) fun x => pureW ((eT (eP eI (eT (eP eI eI)))) x)) fun x => bindW (bindW (pureW x_504) fun x => bindW (pureW []) fun xs => pureW (x :: xs)) fun xs => pureW (x :: xs)) szW) (fun x => reprW ((eL eA) x))) fun x => bindW (pureW shown_510) fun y => neW x y)) (fun b => ifP b (((pureW false) Q E)) (N_517 ())) E) E) (fun (s_515 : Unit) => N_505 ()) xs ()) E) E) E) (fun (s_503 : Unit) => N_478 ()) xs ()) E) E) E) E) E) (fun (s_476 : Unit) => bindP (bindW (bindW (bindW (pureW (0 : Int)) fun x => bindW (bindW (bindW (bindW (pureW (1 : Int)) fun x => bindW (pureW (5 : Int)) fun y => pureW (x, y)) fun x => bindW (pureW []) fun xs => pureW (x :: xs)) szW) fun y => pureW (x, y)) fun x => bindW (bindW (bindW (pureW (0 : Int)) fun x => bindW (bindW (bindW (bindW (pureW (0 : Int)) fun x => bindW (pureW (3 : Int)) fun y => pureW (x, y)) fun x => bindW (pureW []) fun xs => pureW (x :: xs)) szW) fun y => pureW (x, y)) fun x => bindW (pureW []) fun xs => pureW (x :: xs)) fun xs => pureW (x :: xs)) szW) (fun book_here_523 => bindP (bindW (bindW (bindW (bindW (pureW (2 : Int)) fun x => bindW (pureW (2 : Int)) fun y => pureW (x, y)) fun x => pureW ((eP eI eI) x)) fun x => bindW (bindW (bindW (bindW (pureW (1 : Int)) fun x => bindW (pureW (2 : Int)) fun y => pureW (x, y)) fun x => pureW ((eP eI eI) x)) fun x => bindW (bindW (bindW (bindW (pureW (3 : Int)) fun x => bindW (pureW (2 : Int)) fun y => pureW (x, y)) fun x => pureW ((eP eI eI) x)) fun x => bindW (bindW (bindW (bindW (pureW (4 : Int)) fun x => bindW (pureW (4 : Int)) fun y => pureW (x, y)) fun x => pureW ((eP eI eI) x)) fun x => bindW (bindW (bindW (bindW (pureW true) fun x => bindW (pureW (1 : Int)) fun y => pureW (x, y)) fun x => pureW ((eP eB eI) x)) fun x => bindW (bindW (bindW (bindW (pureW (3 : Int)) fun x => bindW (pureW (3 : Int)) fun y => pureW (x, y)) fun x => pureW ((eP eI eI) x)) fun x => bindW (pureW []) fun xs => pureW (x :: xs)) fun xs => pureW (x :: xs)) fun xs => pureW (x :: xs)) fun xs => pureW (x :: xs)) fun xs => pureW (x :: xs)) fun xs => pureW (x :: xs)) szW) (fun some_here_524 => bindP (bindW (bindW (bindW (pureW ()) fun x => pureW (eN x)) fun x => bindW (bindW (bindW (bindW (pureW (0 : Int)) fun x => bindW (pureW ("less" : Str)) fun y => pureW (x, y)) fun x => pureW ((eP eI eS) x)) fun x => bindW (bindW (bindW (bindW (pureW (0 : Int)) fun x => bindW (pureW ("more" : Str)) fun y => pureW (x, y)) fun x => pureW ((eP eI eS) x)) fun x => bindW (bindW (bindW (bindW (pureW ()) fun x => bindW (pureW ("payments" : Str)) fun y => pureW (x, y)) fun x => pureW ((eP eN eS) x)) fun x => bindW (bindW (bindW (bindW (pureW ()) fun x => bindW (pureW ("payments" : Str)) fun y => pureW (x, y)) fun x => pureW ((eP eN eS) x)) fun x => bindW (bindW (bindW (pureW ()) fun x => pureW (eN x)) fun x => bindW (pureW []) fun xs => pureW (x :: xs)) fun xs => pureW (x :: xs)) fun xs => pureW (x :: xs)) fun xs => pureW (x :: xs)) fun xs => pureW (x :: xs)) fun xs => pureW (x :: xs)) szW) (fun due_525 => ((bindW (bindW (bindW (pureW some_here_524) fun xs => lcW (fun a_526 => (pureW true)) (fun a_526 => (bindW (pureW book_here_523) fun x0 => bindW (pureW a_526) fun x1 => b_settlement_error x0 x1)) xs) fun x => pureW ((eL eA) x)) fun x => bindW (bindW (pureW due_525) fun x => pureW ((eL eA) x)) fun y => eqA x y) Q E)) E) E) E) xs ()) E) xs ()) E := q
end Dl

set_option Elab.async false
set_option linter.all false
set_option maxRecDepth 100000
set_option maxHeartbeats 4000000
namespace Dl
open PySem PySem.Spec PyProof.Rows L2
structure Gs (mg : Str → Option Value) : Prop where
  g_abs : mg "abs" = none
  g_all : mg "all" = none
  g_bool : mg "bool" = none
  g_enumerate : mg "enumerate" = none
  g_int : mg "int" = none
  g_isinstance : mg "isinstance" = none
  g_len : mg "len" = none
  g_list : mg "list" = none
  g_max : mg "max" = none
  g_min : mg "min" = none
  g_range : mg "range" = none
  g_repr : mg "repr" = none
  g_str : mg "str" = none
  g_sum : mg "sum" = none
  g_tuple : mg "tuple" = none
  g_zip : mg "zip" = none
section
variable {P : Program} {w : World} {K : PySem.W.Frag} {mg : Str → Option Value} {base : Heap}
/-! is_integer -/
abbrev N_is_integer : List Str := ["value", "low", "high"]
theorem sc_is_integer : FnScope N_is_integer ["value", "low", "high"] (defScope s_is_integer) := ⟨rfl, rfl, rfl, by decide +kernel, rfl, by decide +kernel, by decide +kernel⟩
def d_is_integer_0 : DS_ := (dRet (dAndV (dIsi "int" (dVar 0)) (dAndV (dNotV (dIsi "bool" (dVar 0))) (dChain oLe oLe (dVar 1) (dVar 0) (dVar 2)))))
def r_is_integer_0 : DS_ := d_is_integer_0
def d_is_integer : DS_ := r_is_integer_0
theorem w_is_integer {f : Addr} {fd : FuncData} {k : Nat} (F : Fun K "is_integer" "is_integer" s_is_integer f fd) (G : Gs mg) (hsys : ∃ o, base.get? sysModules = some o)
    (len : ∀ ds Q E, sp_is_integer ds Q E → ds.length = 3) (law : ∀ ds Q E, sp_is_integer ds Q E → d_is_integer { nx := fun _ => Q .non, rt := Q, ex := E } (dstart 3 ds)) : GFn P w K mg base (k + 1) f fd ["value", "low", "high"] sp_is_integer := by
  exact gfn_mk F sc_is_integer len (fun cdv A outer s H E hr hgd => (ds_one (ds_ret (de_and (de_isi rfl G.g_isinstance rfl G.g_int (by decide +kernel) kit_int (de_var 0)) (de_and (de_not (de_isi rfl G.g_isinstance rfl G.g_bool (by decide +kernel) kit_bool (de_var 0))) (de_one (de_chain op_le od_B0 op_le od_B0 (de_var 1) (de_var 0) (de_var 2)))))))) law
/-! debt_of -/
abbrev N_debt_of : List Str := ["pile", "to", "amount"]
theorem sc_debt_of : FnScope N_debt_of ["pile"] (defScope s_debt_of) := ⟨rfl, rfl, rfl, by decide +kernel, rfl, by decide +kernel, by decide +kernel⟩
def d_debt_of_0 : DS_ := (dRet (dCB oSumA (dCons (dFrz (dLc (dSeqI (dVar 0)) (dgTup 2 (dgCons (dgName 1) (dgCons (dgName 2) dgNil))) dYes (dVar 2) [1, 2])) dNil)))
def r_debt_of_0 : DS_ := d_debt_of_0
def d_debt_of : DS_ := r_debt_of_0
theorem w_debt_of {f : Addr} {fd : FuncData} {k : Nat} (F : Fun K "debt_of" "debt_of" s_debt_of f fd) (G : Gs mg) (hsys : ∃ o, base.get? sysModules = some o)
    (len : ∀ ds Q E, sp_debt_of ds Q E → ds.length = 1) (law : ∀ ds Q E, sp_debt_of ds Q E → d_debt_of { nx := fun _ => Q .non, rt := Q, ex := E } (dstart 3 ds)) : GFn P w K mg base (k + 1) f fd ["pile"] sp_debt_of := by
  exact gfn_mk F sc_debt_of len (fun cdv A outer s H E hr hgd => (ds_one (ds_ret (de_sumA rfl rfl G.g_sum (da_cons (DN.toDE (dn_lc rfl sc_debt_of.nd (di_seq (de_var 0)) (own := [("to", 1), ("amount", 2)]) (blkOk_by (by show blkC N_debt_of (defScope s_debt_of) _ _ = true; decide +kernel)) (vsg := [1, 2]) (by decide) (fun s H C cl fp => (dg_tup (n := 2) rfl (dgs_cons (dg_name 1 sc_debt_of.nd) (dgs_cons (dg_name 2 sc_debt_of.nd) dgs_nil)))) (fun s H C cl fp => dts_nil) (fun s H C cl fp => (de_var 2)))) da_nil))))) law
/-! debts -/
abbrev N_debts : List Str := ["book", "purse", "pile"]
theorem sc_debts : FnScope N_debts ["book"] (defScope s_debts) := ⟨rfl, rfl, rfl, by decide +kernel, rfl, by decide +kernel, by decide +kernel⟩
def d_debts_0 : DS_ := (dRet (dCB oTuple (dCons (dFrz (dLc (dSeqI (dVar 0)) (dgTup 2 (dgCons (dgName 1) (dgCons (dgName 2) dgNil))) dYes (dCall sp_debt_of (dCons (dVar 2) dNil)) [1, 2])) dNil)))
def r_debts_0 : DS_ := d_debts_0
def d_debts : DS_ := r_debts_0
theorem w_debts {f : Addr} {fd : FuncData} {k : Nat} (F : Fun K "debts" "debts" s_debts f fd) (G : Gs mg) (hsys : ∃ o, base.get? sysModules = some o) (C_debt_of : Cal P w K mg base k "debt_of" ["pile"] sp_debt_of)
    (len : ∀ ds Q E, sp_debts ds Q E → ds.length = 1) (law : ∀ ds Q E, sp_debts ds Q E → d_debts { nx := fun _ => Q .non, rt := Q, ex := E } (dstart 3 ds)) : GFn P w K mg base (k + 1) f fd ["book"] sp_debts := by
  exact gfn_mk F sc_debts len (fun cdv A outer s H E hr hgd => (ds_one (ds_ret (de_tuple rfl G.g_tuple (da_cons (DN.toDE (dn_lc rfl sc_debts.nd (di_seq (de_var 0)) (own := [("purse", 1), ("pile", 2)]) (blkOk_by (by show blkC N_debts (defScope s_debts) _ _ = true; decide +kernel)) (vsg := [1, 2]) (by decide) (fun s H C cl fp => (dg_tup (n := 2) rfl (dgs_cons (dg_name 1 sc_debts.nd) (dgs_cons (dg_name 2 sc_debts.nd) dgs_nil)))) (fun s H C cl fp => dts_nil) (fun s H C cl fp => (de_call C_debt_of hr hgd passL rfl (da_cons (de_var 2) da_nil))))) da_nil))))) law
/-! is_payments -/
abbrev N_is_payments : List Str := ["book", "value", "paid", "debt"]
theorem sc_is_payments : FnScope N_is_payments ["book", "value"] (defScope s_is_payments) := ⟨rfl, rfl, rfl, by decide +kernel, rfl, by decide +kernel, by decide +kernel⟩
def d_is_payments_1 : DS_ := (dRet (dCB oAll (dCons (dFrz (dLc (dZip (dCons (dVar 1) (dCons (dCall sp_debts (dCons (dVar 0) dNil)) dNil))) (dgTup 2 (dgCons (dgName 2) (dgCons (dgName 3) dgNil))) dYes (dCall sp_is_integer (dCons (dVar 2) (dCons (dC (.it 0)) (dCons (dVar 3) dNil)))) [2, 3])) dNil)))
def r_is_payments_1 : DS_ := d_is_payments_1
def d_is_payments_0 : DS_ := (dIfS (dOr (dNot (dTst (dIsi "tuple" (dVar 1)))) (dTst (dOp oNe (dCB oLen (dCons (dVar 1) dNil)) (dCB oLen (dCons (dVar 0) dNil))))) (dRet (dC (.bl false))) dNext)
def r_is_payments_0 : DS_ := dSeq d_is_payments_0 r_is_payments_1
def d_is_payments : DS_ := r_is_payments_0
theorem w_is_payments {f : Addr} {fd : FuncData} {k : Nat} (F : Fun K "is_payments" "is_payments" s_is_payments f fd) (G : Gs mg) (hsys : ∃ o, base.get? sysModules = some o) (C_debts : Cal P w K mg base k "debts" ["book"] sp_debts) (C_is_integer : Cal P w K mg base k "is_integer" ["value", "low", "high"] sp_is_integer)
    (len : ∀ ds Q E, sp_is_payments ds Q E → ds.length = 2) (law : ∀ ds Q E, sp_is_payments ds Q E → d_is_payments { nx := fun _ => Q .non, rt := Q, ex := E } (dstart 4 ds)) : GFn P w K mg base (k + 1) f fd ["book", "value"] sp_is_payments := by
  exact gfn_mk F sc_is_payments len (fun cdv A outer s H E hr hgd => (ds_cons (ds_if (DW.toDB (dw_or (db_not (db_val (de_isi rfl G.g_isinstance rfl G.g_tuple (by decide +kernel) kit_tuple (de_var 1)))) (dw_or1 (db_ne hr (de_len rfl G.g_len (da_cons (de_var 1) da_nil)) (de_len rfl G.g_len (da_cons (de_var 0) da_nil)))))) (ds_one (ds_ret de_bl)) ds_nil) (ds_one (ds_ret (de_all rfl rfl G.g_all (da_cons (DN.toDE (dn_lc rfl sc_is_payments.nd (di_zip rfl G.g_zip (da_cons (de_var 1) (da_cons (de_call C_debts hr hgd passD rfl (da_cons (de_var 0) da_nil)) da_nil))) (own := [("paid", 2), ("debt", 3)]) (blkOk_by (by show blkC N_is_payments (defScope s_is_payments) _ _ = true; decide +kernel)) (vsg := [2, 3]) (by decide) (fun s H C cl fp => (dg_tup (n := 2) rfl (dgs_cons (dg_name 2 sc_is_payments.nd) (dgs_cons (dg_name 3 sc_is_payments.nd) dgs_nil)))) (fun s H C cl fp => dts_nil) (fun s H C cl fp => (de_call C_is_integer hr hgd passL rfl (da_cons (de_var 2) (da_cons de_int (da_cons (de_var 3) da_nil))))))) da_nil)))))) law
/-! parts_of -/
abbrev N_parts_of : List Str := ["pile", "paid", "found", "left", "to", "amount"]
theorem sc_parts_of : FnScope N_parts_of ["pile", "paid"] (defScope s_parts_of) := ⟨rfl, rfl, rfl, by decide +kernel, rfl, by decide +kernel, by decide +kernel⟩
def d_parts_of_2b_1 : DS_ := (dSet 3 (dOp oSub (dVar 3) (dLend 2 (dOp oIx (dVar 2) (dNeg (dC (.it 1)))))))
def r_parts_of_2b_1 : DS_ := d_parts_of_2b_1
def d_parts_of_2b_0 : DS_ := (dApp 2 (dCB oMinL (dCons (dVar 5) (dCons (dVar 3) dNil))))
def r_parts_of_2b_0 : DS_ := dSeq d_parts_of_2b_0 r_parts_of_2b_1
def d_parts_of_3 : DS_ := (dFrzS 2 (dRet (dCB oTuple (dCons (dVar 2) dNil))))
def r_parts_of_3 : DS_ := d_parts_of_3
def d_parts_of_2 : DS_ := (dFor (dSeqI (dVar 0)) (dgTup 2 (dgCons (dgName 4) (dgCons (dgName 5) dgNil))) r_parts_of_2b_0)
def r_parts_of_2 : DS_ := dSeq d_parts_of_2 r_parts_of_3
def d_parts_of_1 : DS_ := (dSet 3 (dVar 1))
def r_parts_of_1 : DS_ := dSeq d_parts_of_1 r_parts_of_2
def d_parts_of_0 : DS_ := (dSetO 2 (dLstN dNil))
def r_parts_of_0 : DS_ := dSeq d_parts_of_0 r_parts_of_1
def d_parts_of : DS_ := r_parts_of_0
theorem w_parts_of {f : Addr} {fd : FuncData} {k : Nat} (F : Fun K "parts_of" "parts_of" s_parts_of f fd) (G : Gs mg) (hsys : ∃ o, base.get? sysModules = some o)
    (len : ∀ ds Q E, sp_parts_of ds Q E → ds.length = 2) (law : ∀ ds Q E, sp_parts_of ds Q E → d_parts_of { nx := fun _ => Q .non, rt := Q, ex := E } (dstart 6 ds)) : GFn P w K mg base (k + 1) f fd ["pile", "paid"] sp_parts_of := by
  exact gfn_mk F sc_parts_of len (fun cdv A outer s H E hr hgd => (ds_cons (ds_setO 2 (dn_lst da_nil) sc_parts_of.nd) (ds_cons (ds_set 3 (de_var 1) sc_parts_of.nd) (ds_cons (ds_for (passes_of rfl) rfl (di_seq (de_var 0)) (dg_tup (n := 2) rfl (dgs_cons (dg_name 4 sc_parts_of.nd) (dgs_cons (dg_name 5 sc_parts_of.nd) dgs_nil))) (ds_cons (ds_append 2 (de_min rfl rfl G.g_min (da_cons (de_var 5) (da_cons (de_var 3) da_nil)))) (ds_one (ds_set 3 (de_sub (de_var 3) (de_lend 2 (de_ix (de_var 2) (de_neg de_int)))) sc_parts_of.nd)))) (ds_one (ds_frz 2 (ds_ret (de_tuple rfl G.g_tuple (da_cons (de_var 2) da_nil))))))))) law
/-! slips_paid -/
abbrev N_slips_paid : List Str := ["book", "payments", "purse", "pile", "paid"]
theorem sc_slips_paid : FnScope N_slips_paid ["book", "payments"] (defScope s_slips_paid) := ⟨rfl, rfl, rfl, by decide +kernel, rfl, by decide +kernel, by decide +kernel⟩
def d_slips_paid_0 : DS_ := (dRet (dCB oTuple (dCons (dFrz (dLc (dZip (dCons (dVar 0) (dCons (dVar 1) dNil))) (dgTup 2 (dgCons (dgTup 2 (dgCons (dgName 2) (dgCons (dgName 3) dgNil))) (dgCons (dgName 4) dgNil))) dYes (dCall sp_parts_of (dCons (dVar 3) (dCons (dVar 4) dNil))) [2, 3, 4])) dNil)))
def r_slips_paid_0 : DS_ := d_slips_paid_0
def d_slips_paid : DS_ := r_slips_paid_0
theorem w_slips_paid {f : Addr} {fd : FuncData} {k : Nat} (F : Fun K "slips_paid" "slips_paid" s_slips_paid f fd) (G : Gs mg) (hsys : ∃ o, base.get? sysModules = some o) (C_parts_of : Cal P w K mg base k "parts_of" ["pile", "paid"] sp_parts_of)
    (len : ∀ ds Q E, sp_slips_paid ds Q E → ds.length = 2) (law : ∀ ds Q E, sp_slips_paid ds Q E → d_slips_paid { nx := fun _ => Q .non, rt := Q, ex := E } (dstart 5 ds)) : GFn P w K mg base (k + 1) f fd ["book", "payments"] sp_slips_paid := by
  exact gfn_mk F sc_slips_paid len (fun cdv A outer s H E hr hgd => (ds_one (ds_ret (de_tuple rfl G.g_tuple (da_cons (DN.toDE (dn_lc rfl sc_slips_paid.nd (di_zip rfl G.g_zip (da_cons (de_var 0) (da_cons (de_var 1) da_nil))) (own := [("purse", 2), ("pile", 3), ("paid", 4)]) (blkOk_by (by show blkC N_slips_paid (defScope s_slips_paid) _ _ = true; decide +kernel)) (vsg := [2, 3, 4]) (by decide) (fun s H C cl fp => (dg_tup (n := 2) rfl (dgs_cons (dg_tup (n := 2) rfl (dgs_cons (dg_name 2 sc_slips_paid.nd) (dgs_cons (dg_name 3 sc_slips_paid.nd) dgs_nil))) (dgs_cons (dg_name 4 sc_slips_paid.nd) dgs_nil)))) (fun s H C cl fp => dts_nil) (fun s H C cl fp => (de_call C_parts_of hr hgd passL rfl (da_cons (de_var 3) (da_cons (de_var 4) da_nil)))))) da_nil))))) law
/-! received -/
abbrev N_received : List Str := ["book", "payments", "found", "purse", "pile", "parts", "to", "amount", "part", "house"]
theorem sc_received : FnScope N_received ["book", "payments"] (defScope s_received) := ⟨rfl, rfl, rfl, by decide +kernel, rfl, by decide +kernel, by decide +kernel⟩
def d_received_2 : DS_ := (dFrzS 2 (dRet (dCB oTuple (dCons (dVar 2) dNil))))
def r_received_2 : DS_ := d_received_2
def d_received_1 : DS_ := (dFor (dZip (dCons (dVar 0) (dCons (dCall sp_slips_paid (dCons (dVar 0) (dCons (dVar 1) dNil))) dNil))) (dgTup 2 (dgCons (dgTup 2 (dgCons (dgName 3) (dgCons (dgName 4) dgNil))) (dgCons (dgName 5) dgNil))) (dFor (dZip (dCons (dVar 4) (dCons (dVar 5) dNil))) (dgTup 2 (dgCons (dgTup 2 (dgCons (dgName 6) (dgCons (dgName 7) dgNil))) (dgCons (dgName 8) dgNil))) (dSetIx 2 (dVar 6) (dOp oAdd (dLend 2 (dOp oIx (dVar 2) (dVar 6))) (dVar 8)))))
def r_received_1 : DS_ := dSeq d_received_1 r_received_2
def d_received_0 : DS_ := (dSetO 2 (dLc (dSeqI (dVar 0)) (dgName 9) dYes (dC (.it 0)) [9]))
def r_received_0 : DS_ := dSeq d_received_0 r_received_1
def d_received : DS_ := r_received_0
theorem w_received {f : Addr} {fd : FuncData} {k : Nat} (F : Fun K "received" "received" s_received f fd) (G : Gs mg) (hsys : ∃ o, base.get? sysModules = some o) (C_slips_paid : Cal P w K mg base k "slips_paid" ["book", "payments"] sp_slips_paid)
    (len : ∀ ds Q E, sp_received ds Q E → ds.length = 2) (law : ∀ ds Q E, sp_received ds Q E → d_received { nx := fun _ => Q .non, rt := Q, ex := E } (dstart 10 ds)) : GFn P w K mg base (k + 1) f fd ["book", "payments"] sp_received := by
  exact gfn_mk F sc_received len (fun cdv A outer s H E hr hgd => (ds_cons (ds_setLcO 2 rfl sc_received.nd (di_seq (de_var 0)) (own := [("house", 9)]) (blkOk_by (by show blkC N_received (defScope s_received) _ _ = true; decide +kernel)) (vsg := [9]) (by decide) (fun s H C cl fp => (dg_name 9 sc_received.nd)) (fun s H C cl fp => dts_nil) (fun s H C cl fp => de_int) rfl) (ds_cons (ds_for (passes_of rfl) rfl (di_zip rfl G.g_zip (da_cons (de_var 0) (da_cons (de_call C_slips_paid hr hgd passD rfl (da_cons (de_var 0) (da_cons (de_var 1) da_nil))) da_nil))) (dg_tup (n := 2) rfl (dgs_cons (dg_tup (n := 2) rfl (dgs_cons (dg_name 3 sc_received.nd) (dgs_cons (dg_name 4 sc_received.nd) dgs_nil))) (dgs_cons (dg_name 5 sc_received.nd) dgs_nil))) (ds_one (ds_for (passes_of rfl) rfl (di_zip rfl G.g_zip (da_cons (de_var 4) (da_cons (de_var 5) da_nil))) (dg_tup (n := 2) rfl (dgs_cons (dg_tup (n := 2) rfl (dgs_cons (dg_name 6 sc_received.nd) (dgs_cons (dg_name 7 sc_received.nd) dgs_nil))) (dgs_cons (dg_name 8 sc_received.nd) dgs_nil))) (ds_one (ds_setix 2 (de_add (de_lend 2 (de_ix (de_var 2) (de_var 6))) (de_var 8)) (de_var 6)))))) (ds_one (ds_frz 2 (ds_ret (de_tuple rfl G.g_tuple (da_cons (de_var 2) da_nil)))))))) law
/-! settlement_error -/
abbrev N_settlement_error : List Str := ["book", "value", "limits", "more", "house", "paid", "due"]
theorem sc_settlement_error : FnScope N_settlement_error ["book", "value"] (defScope s_settlement_error) := ⟨rfl, rfl, rfl, by decide +kernel, rfl, by decide +kernel, by decide +kernel⟩
def d_settlement_error_2b_1 : DS_ := (dIfS (dTst (dOp oNe (dVar 5) (dVar 6))) (dRet (dTup (dCons (dVar 4) (dCons (dIf (dTst (dOp oLt (dVar 5) (dVar 6))) (dC (.st "less")) (dC (.st "more"))) dNil)))) dNext)
def r_settlement_error_2b_1 : DS_ := d_settlement_error_2b_1
def d_settlement_error_2b_0 : DS_ := (dSet 6 (dCB oMinL (dCons (dOp oIx (dVar 2) (dVar 4)) (dCons (dOp oAdd (dOp oIx (dOp oIx (dVar 0) (dVar 4)) (dC (.it 0))) (dOp oIx (dVar 3) (dVar 4))) dNil))))
def r_settlement_error_2b_0 : DS_ := dSeq d_settlement_error_2b_0 r_settlement_error_2b_1
def d_settlement_error_3 : DS_ := (dRet (dC .non))
def r_settlement_error_3 : DS_ := d_settlement_error_3
def d_settlement_error_2 : DS_ := (dFor (dEnum (dCons (dVar 1) dNil)) (dgTup 2 (dgCons (dgName 4) (dgCons (dgName 5) dgNil))) r_settlement_error_2b_0)
def r_settlement_error_2 : DS_ := dSeq d_settlement_error_2 r_settlement_error_3
def d_settlement_error_1 : DS_ := (dPar 2 3 (dCons (dCall sp_debts (dCons (dVar 0) dNil)) (dCons (dCall sp_received (dCons (dVar 0) (dCons (dVar 1) dNil))) dNil)))
def r_settlement_error_1 : DS_ := dSeq d_settlement_error_1 r_settlement_error_2
def d_settlement_error_0 : DS_ := (dIfS (dNot (dTst (dCall sp_is_payments (dCons (dVar 0) (dCons (dVar 1) dNil))))) (dRet (dTup (dCons (dC .non) (dCons (dC (.st "payments")) dNil)))) dNext)
def r_settlement_error_0 : DS_ := dSeq d_settlement_error_0 r_settlement_error_1
def d_settlement_error : DS_ := r_settlement_error_0
theorem w_settlement_error {f : Addr} {fd : FuncData} {k : Nat} (F : Fun K "settlement_error" "settlement_error" s_settlement_error f fd) (G : Gs mg) (hsys : ∃ o, base.get? sysModules = some o) (C_debts : Cal P w K mg base k "debts" ["book"] sp_debts) (C_is_payments : Cal P w K mg base k "is_payments" ["book", "value"] sp_is_payments) (C_received : Cal P w K mg base k "received" ["book", "payments"] sp_received)
    (len : ∀ ds Q E, sp_settlement_error ds Q E → ds.length = 2) (law : ∀ ds Q E, sp_settlement_error ds Q E → d_settlement_error { nx := fun _ => Q .non, rt := Q, ex := E } (dstart 7 ds)) : GFn P w K mg base (k + 1) f fd ["book", "value"] sp_settlement_error := by
  exact gfn_mk F sc_settlement_error len (fun cdv A outer s H E hr hgd => (ds_cons (ds_if (db_not (db_val (de_call C_is_payments hr hgd passD rfl (da_cons (de_var 0) (da_cons (de_var 1) da_nil))))) (ds_one (ds_ret (de_tup (da_cons de_non (da_cons de_str da_nil))))) ds_nil) (ds_cons (ds_par (i := 2) (j := 3) rfl sc_settlement_error.nd (da_cons (de_call C_debts hr hgd passD rfl (da_cons (de_var 0) da_nil)) (da_cons (de_call C_received hr hgd passD rfl (da_cons (de_var 0) (da_cons (de_var 1) da_nil))) da_nil)) rfl) (ds_cons (ds_for (passes_of rfl) rfl (di_enum rfl G.g_enumerate (da_cons (de_var 1) da_nil)) (dg_tup (n := 2) rfl (dgs_cons (dg_name 4 sc_settlement_error.nd) (dgs_cons (dg_name 5 sc_settlement_error.nd) dgs_nil))) (ds_cons (ds_set 6 (de_min rfl rfl G.g_min (da_cons (de_ix (de_var 2) (de_var 4)) (da_cons (de_add (de_ix (de_ix (de_var 0) (de_var 4)) de_int) (de_ix (de_var 3) (de_var 4))) da_nil))) sc_settlement_error.nd) (ds_one (ds_if (db_ne hr (de_var 5) (de_var 6)) (ds_one (ds_ret (de_tup (da_cons (de_var 4) (da_cons (de_ifExp (db_lt (de_var 5) (de_var 6)) de_str de_str) da_nil))))) ds_nil)))) (ds_one (ds_ret de_non)))))) law
/-! is_settlement -/
abbrev N_is_settlement : List Str := ["book", "value"]
theorem sc_is_settlement : FnScope N_is_settlement ["book", "value"] (defScope s_is_settlement) := ⟨rfl, rfl, rfl, by decide +kernel, rfl, by decide +kernel, by decide +kernel⟩
def d_is_settlement_0 : DS_ := (dRet (dIsN (dCall sp_settlement_error (dCons (dVar 0) (dCons (dVar 1) dNil)))))
def r_is_settlement_0 : DS_ := d_is_settlement_0
def d_is_settlement : DS_ := r_is_settlement_0
theorem w_is_settlement {f : Addr} {fd : FuncData} {k : Nat} (F : Fun K "is_settlement" "is_settlement" s_is_settlement f fd) (G : Gs mg) (hsys : ∃ o, base.get? sysModules = some o) (C_settlement_error : Cal P w K mg base k "settlement_error" ["book", "value"] sp_settlement_error)
    (len : ∀ ds Q E, sp_is_settlement ds Q E → ds.length = 2) (law : ∀ ds Q E, sp_is_settlement ds Q E → d_is_settlement { nx := fun _ => Q .non, rt := Q, ex := E } (dstart 2 ds)) : GFn P w K mg base (k + 1) f fd ["book", "value"] sp_is_settlement := by
  exact gfn_mk F sc_is_settlement len (fun cdv A outer s H E hr hgd => (ds_one (ds_ret (de_isN (de_call C_settlement_error hr hgd passD rfl (da_cons (de_var 0) (da_cons (de_var 1) da_nil))))))) law
/-! _law_drum -/
abbrev N__law_drum : List Str := ["_law_script", "_law_cells", "_law_mixed", "_law_cell"]
theorem sc__law_drum : FnScope N__law_drum ["_law_script"] (defScope s__law_drum) := ⟨rfl, rfl, rfl, by decide +kernel, rfl, by decide +kernel, by decide +kernel⟩
def d__law_drum_2 : DS_ := (dRet (dLst (dCons (dFrz (dLc (dSeqI (dVar 1)) (dgName 3) (dTst (dOp oGe (dVar 3) (dOp oPow (dC (.it 10)) (dC (.it 18))))) (dVar 3) [3])) (dCons (dVar 2) (dCons (dC (.it 0)) dNil)))))
def r__law_drum_2 : DS_ := d__law_drum_2
def d__law_drum_1 : DS_ := (dFor (dSeqI (dVar 1)) (dgName 3) (dSet 2 (dOp oMod (dOp oAdd (dOp oMulA (dVar 2) (dC (.it 1000003))) (dVar 3)) (dC (.it 4294967291)))))
def r__law_drum_1 : DS_ := dSeq d__law_drum_1 r__law_drum_2
def d__law_drum_0 : DS_ := (dPar 1 2 (dCons (dFrz (dLc (dSeqI (dSl (dVar 0) dNoPart (dPart (dC (.it 60))))) (dgName 3) dYes (dCB oAbs (dCons (dVar 3) dNil)) [3])) (dCons (dC (.it 7)) dNil)))
def r__law_drum_0 : DS_ := dSeq d__law_drum_0 r__law_drum_1
def d__law_drum : DS_ := r__law_drum_0
theorem w__law_drum {f : Addr} {fd : FuncData} {k : Nat} (F : Fun K "_law_drum" "_law_drum" s__law_drum f fd) (G : Gs mg) (hsys : ∃ o, base.get? sysModules = some o)
    (len : ∀ ds Q E, sp__law_drum ds Q E → ds.length = 1) (law : ∀ ds Q E, sp__law_drum ds Q E → d__law_drum { nx := fun _ => Q .non, rt := Q, ex := E } (dstart 4 ds)) : GFn P w K mg base (k + 1) f fd ["_law_script"] sp__law_drum := by
  exact gfn_mk F sc__law_drum len (fun cdv A outer s H E hr hgd => (ds_cons (ds_par (i := 1) (j := 2) rfl sc__law_drum.nd (da_cons (DN.toDE (dn_lc rfl sc__law_drum.nd (di_seq (de_slice (de_var 0) do_none (do_some de_int))) (own := [("_law_cell", 3)]) (blkOk_by (by show blkC N__law_drum (defScope s__law_drum) _ _ = true; decide +kernel)) (vsg := [3]) (by decide) (fun s H C cl fp => (dg_name 3 sc__law_drum.nd)) (fun s H C cl fp => dts_nil) (fun s H C cl fp => (de_abs rfl G.g_abs (da_cons (de_var 3) da_nil))))) (da_cons de_int da_nil)) rfl) (ds_cons (ds_for (passes_of rfl) rfl (di_seq (de_var 1)) (dg_name 3 sc__law_drum.nd) (ds_one (ds_set 2 (de_mod (de_add (de_mulA (de_var 2) de_int) (de_var 3)) de_int) sc__law_drum.nd))) (ds_one (ds_ret (de_lst (da_cons (DN.toDE (dn_lc rfl sc__law_drum.nd (di_seq (de_var 1)) (own := [("_law_cell", 3)]) (blkOk_by (by show blkC N__law_drum (defScope s__law_drum) _ _ = true; decide +kernel)) (vsg := [3]) (by decide) (fun s H C cl fp => (dg_name 3 sc__law_drum.nd)) (fun s H C cl fp => (dts_one (db_ge (de_var 3) (de_pow de_int de_int)))) (fun s H C cl fp => (de_var 3)))) (da_cons (de_var 2) (da_cons de_int da_nil))))))))) law
/-! _law_book -/
abbrev N__law_book : List Str := ["_law_drum_here", "_law_most", "_law_slips", "_law_top", "_law_many", "_law_found", "_law_house", "_law_purse", "_law_pile", "_law_k", "_law_step"]
theorem sc__law_book : FnScope N__law_book ["_law_drum_here", "_law_most", "_law_slips", "_law_top"] (defScope s__law_book) := ⟨rfl, rfl, rfl, by decide +kernel, rfl, by decide +kernel, by decide +kernel⟩
def d__law_book_1b_1b_1 : DS_ := (dApp 8 (dTup (dCons (dOp oMod (dOp oAdd (dOp oAdd (dVar 6) (dC (.it 1))) (dVar 10)) (dVar 4)) (dCons (dOp oAdd (dC (.it 1)) (dCall sp__law_beat (dCons (dVar 0) (dCons (dVar 3) dNil)))) dNil))))
def r__law_book_1b_1b_1 : DS_ := d__law_book_1b_1b_1
def d__law_book_1b_1b_0 : DS_ := (dSet 10 (dOp oIx (dLst (dCons (dC (.it 0)) (dCons (dCall sp__law_beat (dCons (dVar 0) (dCons (dOp oSub (dVar 4) (dC (.it 1))) dNil))) dNil))) (dCall sp__law_beat (dCons (dVar 0) (dCons (dC (.it 2)) dNil)))))
def r__law_book_1b_1b_0 : DS_ := dSeq d__law_book_1b_1b_0 r__law_book_1b_1b_1
def d__law_book_1b_2 : DS_ := (dApp 5 (dTup (dCons (dVar 7) (dCons (dLend 8 (dCB oTuple (dCons (dVar 8) dNil))) dNil))))
def r__law_book_1b_2 : DS_ := d__law_book_1b_2
def d__law_book_1b_1 : DS_ := (dFor (dRng1 (dCons (dOp oMulA (dCall sp__law_beat (dCons (dVar 0) (dCons (dOp oAdd (dVar 2) (dC (.it 1))) dNil))) (dCB oInt (dCons (dOp oGt (dVar 4) (dC (.it 1))) dNil))) dNil)) (dgName 9) r__law_book_1b_1b_0)
def r__law_book_1b_1 : DS_ := dSeq d__law_book_1b_1 r__law_book_1b_2
def d__law_book_1b_0 : DS_ := (dParP 7 8 (dOp oIx (dLst (dCons (dC (.it 0)) (dCons (dC (.it 0)) (dCons (dCall sp__law_beat (dCons (dVar 0) (dCons (dC (.it 3)) dNil))) (dCons (dCall sp__law_beat (dCons (dVar 0) (dCons (dOp oAdd (dVar 3) (dC (.it 1))) dNil))) dNil))))) (dCall sp__law_beat (dCons (dVar 0) (dCons (dC (.it 4)) dNil)))) (dLstN dNil))
def r__law_book_1b_0 : DS_ := dSeq d__law_book_1b_0 r__law_book_1b_1
def d__law_book_2 : DS_ := (dFrzS 5 (dRet (dCB oTuple (dCons (dVar 5) dNil))))
def r__law_book_2 : DS_ := d__law_book_2
def d__law_book_1 : DS_ := (dFor (dRng1 (dCons (dVar 4) dNil)) (dgName 6) r__law_book_1b_0)
def r__law_book_1 : DS_ := dSeq d__law_book_1 r__law_book_2
def d__law_book_0 : DS_ := (dParP 4 5 (dOp oAdd (dC (.it 1)) (dCall sp__law_beat (dCons (dVar 0) (dCons (dVar 1) dNil)))) (dLstN dNil))
def r__law_book_0 : DS_ := dSeq d__law_book_0 r__law_book_1
def d__law_book : DS_ := r__law_book_0
theorem w__law_book {f : Addr} {fd : FuncData} {k : Nat} (F : Fun K "_law_book" "_law_book" s__law_book f fd) (G : Gs mg) (hsys : ∃ o, base.get? sysModules = some o) (C__law_beat : Cal P w K mg base k "_law_beat" ["_law_drum_here", "_law_many"] sp__law_beat)
    (len : ∀ ds Q E, sp__law_book ds Q E → ds.length = 4) (law : ∀ ds Q E, sp__law_book ds Q E → d__law_book { nx := fun _ => Q .non, rt := Q, ex := E } (dstart 11 ds)) : GFn P w K mg base (k + 1) f fd ["_law_drum_here", "_law_most", "_law_slips", "_law_top"] sp__law_book := by
  exact gfn_mk F sc__law_book len (fun cdv A outer s H E hr hgd => (ds_cons (ds_parP (i := 4) (j := 5) rfl sc__law_book.nd (de_add de_int (de_call C__law_beat hr hgd passD rfl (da_cons (de_var 0) (da_cons (de_var 1) da_nil)))) (dn_lst da_nil) rfl) (ds_cons (ds_for (passes_of rfl) rfl (di_range1 rfl G.g_range (da_cons (de_var 4) da_nil)) (dg_name 6 sc__law_book.nd) (ds_cons (ds_parP (i := 7) (j := 8) rfl sc__law_book.nd (de_ix (de_lst (da_cons de_int (da_cons de_int (da_cons (de_call C__law_beat hr hgd passD rfl (da_cons (de_var 0) (da_cons de_int da_nil))) (da_cons (de_call C__law_beat hr hgd passD rfl (da_cons (de_var 0) (da_cons (de_add (de_var 3) de_int) da_nil))) da_nil))))) (de_call C__law_beat hr hgd passD rfl (da_cons (de_var 0) (da_cons de_int da_nil)))) (dn_lst da_nil) rfl) (ds_cons (ds_for (passes_of rfl) rfl (di_range1 rfl G.g_range (da_cons (de_mulA (de_call C__law_beat hr hgd passD rfl (da_cons (de_var 0) (da_cons (de_add (de_var 2) de_int) da_nil))) (de_int1 rfl G.g_int (da_cons (de_gt (de_var 4) de_int) da_nil))) da_nil)) (dg_name 9 sc__law_book.nd) (ds_cons (ds_set 10 (de_ix (de_lst (da_cons de_int (da_cons (de_call C__law_beat hr hgd passD rfl (da_cons (de_var 0) (da_cons (de_sub (de_var 4) de_int) da_nil))) da_nil))) (de_call C__law_beat hr hgd passD rfl (da_cons (de_var 0) (da_cons de_int da_nil)))) sc__law_book.nd) (ds_one (ds_append 8 (de_tup (da_cons (de_mod (de_add (de_add (de_var 6) de_int) (de_var 10)) (de_var 4)) (da_cons (de_add de_int (de_call C__law_beat hr hgd passD rfl (da_cons (de_var 0) (da_cons (de_var 3) da_nil)))) da_nil))))))) (ds_one (ds_append 5 (de_tup (da_cons (de_var 7) (da_cons (de_lend 8 (de_tuple rfl G.g_tuple (da_cons (de_var 8) da_nil))) da_nil)))))))) (ds_one (ds_frz 5 (ds_ret (de_tuple rfl G.g_tuple (da_cons (de_var 5) da_nil)))))))) law
/-! _law_debts -/
abbrev N__law_debts : List Str := ["_law_book_here", "_law_purse", "_law_pile", "_law_to", "_law_amount"]
theorem sc__law_debts : FnScope N__law_debts ["_law_book_here"] (defScope s__law_debts) := ⟨rfl, rfl, rfl, by decide +kernel, rfl, by decide +kernel, by decide +kernel⟩
def d__law_debts_0 : DS_ := (dRet (dFrz (dLc (dSeqI (dVar 0)) (dgTup 2 (dgCons (dgName 1) (dgCons (dgName 2) dgNil))) dYes (dCB oSumA (dCons (dFrz (dLc (dSeqI (dVar 2)) (dgTup 2 (dgCons (dgName 3) (dgCons (dgName 4) dgNil))) dYes (dVar 4) [3, 4])) dNil)) [1, 2])))
def r__law_debts_0 : DS_ := d__law_debts_0
def d__law_debts : DS_ := r__law_debts_0
theorem w__law_debts {f : Addr} {fd : FuncData} {k : Nat} (F : Fun K "_law_debts" "_law_debts" s__law_debts f fd) (G : Gs mg) (hsys : ∃ o, base.get? sysModules = some o)
    (len : ∀ ds Q E, sp__law_debts ds Q E → ds.length = 1) (law : ∀ ds Q E, sp__law_debts ds Q E → d__law_debts { nx := fun _ => Q .non, rt := Q, ex := E } (dstart 5 ds)) : GFn P w K mg base (k + 1) f fd ["_law_book_here"] sp__law_debts := by
  exact gfn_mk F sc__law_debts len (fun cdv A outer s H E hr hgd => (ds_one (ds_ret (DN.toDE (dn_lc rfl sc__law_debts.nd (di_seq (de_var 0)) (own := [("_law_purse", 1), ("_law_pile", 2)]) (blkOk_by (by show blkC N__law_debts (defScope s__law_debts) _ _ = true; decide +kernel)) (vsg := [1, 2]) (by decide) (fun s H C cl fp => (dg_tup (n := 2) rfl (dgs_cons (dg_name 1 sc__law_debts.nd) (dgs_cons (dg_name 2 sc__law_debts.nd) dgs_nil)))) (fun s H C cl fp => dts_nil) (fun s H C cl fp => (de_sumA rfl rfl G.g_sum (da_cons (DN.toDE (dn_lc rfl sc__law_debts.nd (di_seq (de_var 2)) (own := [("_law_to", 3), ("_law_amount", 4)]) (blkOk_by (by with_unfolding_all rfl)) (vsg := [3, 4]) (by decide) (fun s H C cl fp => (dg_tup (n := 2) rfl (dgs_cons (dg_name 3 sc__law_debts.nd) (dgs_cons (dg_name 4 sc__law_debts.nd) dgs_nil)))) (fun s H C cl fp => dts_nil) (fun s H C cl fp => (de_var 4)))) da_nil)))))))) law
/-! _law_parts -/
abbrev N__law_parts : List Str := ["_law_pile", "_law_paid", "_law_found", "_law_left", "_law_to", "_law_amount"]
theorem sc__law_parts : FnScope N__law_parts ["_law_pile", "_law_paid"] (defScope s__law_parts) := ⟨rfl, rfl, rfl, by decide +kernel, rfl, by decide +kernel, by decide +kernel⟩
def d__law_parts_1b_1 : DS_ := (dSet 3 (dOp oSub (dVar 3) (dLend 2 (dOp oIx (dVar 2) (dNeg (dC (.it 1)))))))
def r__law_parts_1b_1 : DS_ := d__law_parts_1b_1
def d__law_parts_1b_0 : DS_ := (dApp 2 (dCB oMinL (dCons (dVar 5) (dCons (dVar 3) dNil))))
def r__law_parts_1b_0 : DS_ := dSeq d__law_parts_1b_0 r__law_parts_1b_1
def d__law_parts_2 : DS_ := (dFrzS 2 (dRet (dVar 2)))
def r__law_parts_2 : DS_ := d__law_parts_2
def d__law_parts_1 : DS_ := (dFor (dSeqI (dVar 0)) (dgTup 2 (dgCons (dgName 4) (dgCons (dgName 5) dgNil))) r__law_parts_1b_0)
def r__law_parts_1 : DS_ := dSeq d__law_parts_1 r__law_parts_2
def d__law_parts_0 : DS_ := (dParO 2 3 (dLstN dNil) (dVar 1))
def r__law_parts_0 : DS_ := dSeq d__law_parts_0 r__law_parts_1
def d__law_parts : DS_ := r__law_parts_0
theorem w__law_parts {f : Addr} {fd : FuncData} {k : Nat} (F : Fun K "_law_parts" "_law_parts" s__law_parts f fd) (G : Gs mg) (hsys : ∃ o, base.get? sysModules = some o)
    (len : ∀ ds Q E, sp__law_parts ds Q E → ds.length = 2) (law : ∀ ds Q E, sp__law_parts ds Q E → d__law_parts { nx := fun _ => Q .non, rt := Q, ex := E } (dstart 6 ds)) : GFn P w K mg base (k + 1) f fd ["_law_pile", "_law_paid"] sp__law_parts := by
  exact gfn_mk F sc__law_parts len (fun cdv A outer s H E hr hgd => (ds_cons (ds_parO (i := 2) (j := 3) rfl sc__law_parts.nd (dn_lst da_nil) (de_var 1) rfl) (ds_cons (ds_for (passes_of rfl) rfl (di_seq (de_var 0)) (dg_tup (n := 2) rfl (dgs_cons (dg_name 4 sc__law_parts.nd) (dgs_cons (dg_name 5 sc__law_parts.nd) dgs_nil))) (ds_cons (ds_append 2 (de_min rfl rfl G.g_min (da_cons (de_var 5) (da_cons (de_var 3) da_nil)))) (ds_one (ds_set 3 (de_sub (de_var 3) (de_lend 2 (de_ix (de_var 2) (de_neg de_int)))) sc__law_parts.nd)))) (ds_one (ds_frz 2 (ds_ret (de_var 2))))))) law
/-! _law_got -/
abbrev N__law_got : List Str := ["_law_book_here", "_law_payments", "_law_found", "_law_purse", "_law_pile", "_law_paid", "_law_to", "_law_amount", "_law_part"]
theorem sc__law_got : FnScope N__law_got ["_law_book_here", "_law_payments"] (defScope s__law_got) := ⟨rfl, rfl, rfl, by decide +kernel, rfl, by decide +kernel, by decide +kernel⟩
def d__law_got_2 : DS_ := (dFrzS 2 (dRet (dVar 2)))
def r__law_got_2 : DS_ := d__law_got_2
def d__law_got_1 : DS_ := (dFor (dZip (dCons (dVar 0) (dCons (dVar 1) dNil))) (dgTup 2 (dgCons (dgTup 2 (dgCons (dgName 3) (dgCons (dgName 4) dgNil))) (dgCons (dgName 5) dgNil))) (dFor (dZip (dCons (dVar 4) (dCons (dCall sp__law_parts (dCons (dVar 4) (dCons (dVar 5) dNil))) dNil))) (dgTup 2 (dgCons (dgTup 2 (dgCons (dgName 6) (dgCons (dgName 7) dgNil))) (dgCons (dgName 8) dgNil))) (dSetIx 2 (dVar 6) (dOp oAdd (dLend 2 (dOp oIx (dVar 2) (dVar 6))) (dVar 8)))))
def r__law_got_1 : DS_ := dSeq d__law_got_1 r__law_got_2
def d__law_got_0 : DS_ := (dSetO 2 (dRepN (dLst (dCons (dC (.it 0)) dNil)) (dCB oLen (dCons (dVar 0) dNil))))
def r__law_got_0 : DS_ := dSeq d__law_got_0 r__law_got_1
def d__law_got : DS_ := r__law_got_0
theorem w__law_got {f : Addr} {fd : FuncData} {k : Nat} (F : Fun K "_law_got" "_law_got" s__law_got f fd) (G : Gs mg) (hsys : ∃ o, base.get? sysModules = some o) (C__law_parts : Cal P w K mg base k "_law_parts" ["_law_pile", "_law_paid"] sp__law_parts)
    (len : ∀ ds Q E, sp__law_got ds Q E → ds.length = 2) (law : ∀ ds Q E, sp__law_got ds Q E → d__law_got { nx := fun _ => Q .non, rt := Q, ex := E } (dstart 9 ds)) : GFn P w K mg base (k + 1) f fd ["_law_book_here", "_law_payments"] sp__law_got := by
  exact gfn_mk F sc__law_got len (fun cdv A outer s H E hr hgd => (ds_cons (ds_setO 2 (dn_rep (de_lst (da_cons de_int da_nil)) (de_len rfl G.g_len (da_cons (de_var 0) da_nil))) sc__law_got.nd) (ds_cons (ds_for (passes_of rfl) rfl (di_zip rfl G.g_zip (da_cons (de_var 0) (da_cons (de_var 1) da_nil))) (dg_tup (n := 2) rfl (dgs_cons (dg_tup (n := 2) rfl (dgs_cons (dg_name 3 sc__law_got.nd) (dgs_cons (dg_name 4 sc__law_got.nd) dgs_nil))) (dgs_cons (dg_name 5 sc__law_got.nd) dgs_nil))) (ds_one (ds_for (passes_of rfl) rfl (di_zip rfl G.g_zip (da_cons (de_var 4) (da_cons (de_call C__law_parts hr hgd passD rfl (da_cons (de_var 4) (da_cons (de_var 5) da_nil))) da_nil))) (dg_tup (n := 2) rfl (dgs_cons (dg_tup (n := 2) rfl (dgs_cons (dg_name 6 sc__law_got.nd) (dgs_cons (dg_name 7 sc__law_got.nd) dgs_nil))) (dgs_cons (dg_name 8 sc__law_got.nd) dgs_nil))) (ds_one (ds_setix 2 (de_add (de_lend 2 (de_ix (de_var 2) (de_var 6))) (de_var 8)) (de_var 6)))))) (ds_one (ds_frz 2 (ds_ret (de_var 2))))))) law
/-! _law_held -/
abbrev N__law_held : List Str := ["_law_book_here", "_law_payments", "_law_got_here", "_law_house"]
theorem sc__law_held : FnScope N__law_held ["_law_book_here", "_law_payments"] (defScope s__law_held) := ⟨rfl, rfl, rfl, by decide +kernel, rfl, by decide +kernel, by decide +kernel⟩
def d__law_held_1 : DS_ := (dRet (dFrz (dLc (dRng1 (dCons (dCB oLen (dCons (dVar 0) dNil)) dNil)) (dgName 3) dYes (dOp oSub (dOp oAdd (dOp oIx (dOp oIx (dVar 0) (dVar 3)) (dC (.it 0))) (dOp oIx (dVar 2) (dVar 3))) (dOp oIx (dVar 1) (dVar 3))) [3])))
def r__law_held_1 : DS_ := d__law_held_1
def d__law_held_0 : DS_ := (dSet 2 (dCall sp__law_got (dCons (dVar 0) (dCons (dVar 1) dNil))))
def r__law_held_0 : DS_ := dSeq d__law_held_0 r__law_held_1
def d__law_held : DS_ := r__law_held_0
theorem w__law_held {f : Addr} {fd : FuncData} {k : Nat} (F : Fun K "_law_held" "_law_held" s__law_held f fd) (G : Gs mg) (hsys : ∃ o, base.get? sysModules = some o) (C__law_got : Cal P w K mg base k "_law_got" ["_law_book_here", "_law_payments"] sp__law_got)
    (len : ∀ ds Q E, sp__law_held ds Q E → ds.length = 2) (law : ∀ ds Q E, sp__law_held ds Q E → d__law_held { nx := fun _ => Q .non, rt := Q, ex := E } (dstart 4 ds)) : GFn P w K mg base (k + 1) f fd ["_law_book_here", "_law_payments"] sp__law_held := by
  exact gfn_mk F sc__law_held len (fun cdv A outer s H E hr hgd => (ds_cons (ds_set 2 (de_call C__law_got hr hgd passD rfl (da_cons (de_var 0) (da_cons (de_var 1) da_nil))) sc__law_held.nd) (ds_one (ds_ret (DN.toDE (dn_lc rfl sc__law_held.nd (di_range1 rfl G.g_range (da_cons (de_len rfl G.g_len (da_cons (de_var 0) da_nil)) da_nil)) (own := [("_law_house", 3)]) (blkOk_by (by show blkC N__law_held (defScope s__law_held) _ _ = true; decide +kernel)) (vsg := [3]) (by decide) (fun s H C cl fp => (dg_name 3 sc__law_held.nd)) (fun s H C cl fp => dts_nil) (fun s H C cl fp => (de_sub (de_add (de_ix (de_ix (de_var 0) (de_var 3)) de_int) (de_ix (de_var 2) (de_var 3))) (de_ix (de_var 1) (de_var 3)))))))))) law
/-! _law_is_int -/
abbrev N__law_is_int : List Str := ["_law_value", "_law_low", "_law_high"]
theorem sc__law_is_int : FnScope N__law_is_int ["_law_value", "_law_low", "_law_high"] (defScope s__law_is_int) := ⟨rfl, rfl, rfl, by decide +kernel, rfl, by decide +kernel, by decide +kernel⟩
def d__law_is_int_0 : DS_ := (dRet (dAndV (dIsi "int" (dVar 0)) (dAndV (dNotV (dIsi "bool" (dVar 0))) (dChain oLe oLe (dVar 1) (dVar 0) (dVar 2)))))
def r__law_is_int_0 : DS_ := d__law_is_int_0
def d__law_is_int : DS_ := r__law_is_int_0
theorem w__law_is_int {f : Addr} {fd : FuncData} {k : Nat} (F : Fun K "_law_is_int" "_law_is_int" s__law_is_int f fd) (G : Gs mg) (hsys : ∃ o, base.get? sysModules = some o)
    (len : ∀ ds Q E, sp__law_is_int ds Q E → ds.length = 3) (law : ∀ ds Q E, sp__law_is_int ds Q E → d__law_is_int { nx := fun _ => Q .non, rt := Q, ex := E } (dstart 3 ds)) : GFn P w K mg base (k + 1) f fd ["_law_value", "_law_low", "_law_high"] sp__law_is_int := by
  exact gfn_mk F sc__law_is_int len (fun cdv A outer s H E hr hgd => (ds_one (ds_ret (de_and (de_isi rfl G.g_isinstance rfl G.g_int (by decide +kernel) kit_int (de_var 0)) (de_and (de_not (de_isi rfl G.g_isinstance rfl G.g_bool (by decide +kernel) kit_bool (de_var 0))) (de_one (de_chain op_le od_B0 op_le od_B0 (de_var 1) (de_var 0) (de_var 2)))))))) law
/-! _law_error -/
abbrev N__law_error : List Str := ["_law_book_here", "_law_value", "_law_limits", "_law_got_here", "_law_house", "_law_own", "_law_could", "_law_debt"]
theorem sc__law_error : FnScope N__law_error ["_law_book_here", "_law_value"] (defScope s__law_error) := ⟨rfl, rfl, rfl, by decide +kernel, rfl, by decide +kernel, by decide +kernel⟩
def d__law_error_4b_1 : DS_ := (dIfS (dTst (dOp oNe (dVar 5) (dVar 6))) (dRet (dTup (dCons (dVar 4) (dCons (dIf (dTst (dOp oLt (dVar 5) (dVar 6))) (dC (.st "less")) (dC (.st "more"))) dNil)))) dNext)
def r__law_error_4b_1 : DS_ := d__law_error_4b_1
def d__law_error_4b_0 : DS_ := (dSet 6 (dCB oMinL (dCons (dOp oIx (dVar 2) (dVar 4)) (dCons (dOp oAdd (dOp oIx (dOp oIx (dVar 0) (dVar 4)) (dC (.it 0))) (dOp oIx (dVar 3) (dVar 4))) dNil))))
def r__law_error_4b_0 : DS_ := dSeq d__law_error_4b_0 r__law_error_4b_1
def d__law_error_5 : DS_ := (dRet (dC .non))
def r__law_error_5 : DS_ := d__law_error_5
def d__law_error_4 : DS_ := (dFor (dEnum (dCons (dVar 1) dNil)) (dgTup 2 (dgCons (dgName 4) (dgCons (dgName 5) dgNil))) r__law_error_4b_0)
def r__law_error_4 : DS_ := dSeq d__law_error_4 r__law_error_5
def d__law_error_3 : DS_ := (dSet 3 (dCall sp__law_got (dCons (dVar 0) (dCons (dVar 1) dNil))))
def r__law_error_3 : DS_ := dSeq d__law_error_3 r__law_error_4
def d__law_error_2 : DS_ := (dIfS (dTst (dOp oNe (dFrz (dLc (dZip (dCons (dVar 1) (dCons (dVar 2) dNil))) (dgTup 2 (dgCons (dgName 5) (dgCons (dgName 7) dgNil))) (dNot (dTst (dCall sp__law_is_int (dCons (dVar 5) (dCons (dC (.it 0)) (dCons (dVar 7) dNil)))))) (dC (.it 1)) [5, 7])) (dLst dNil))) (dRet (dTup (dCons (dC .non) (dCons (dC (.st "payments")) dNil)))) dNext)
def r__law_error_2 : DS_ := dSeq d__law_error_2 r__law_error_3
def d__law_error_1 : DS_ := (dIfS (dOr (dNot (dTst (dIsi "tuple" (dVar 1)))) (dTst (dOp oNe (dCB oLen (dCons (dVar 1) dNil)) (dCB oLen (dCons (dVar 0) dNil))))) (dRet (dTup (dCons (dC .non) (dCons (dC (.st "payments")) dNil)))) dNext)
def r__law_error_1 : DS_ := dSeq d__law_error_1 r__law_error_2
def d__law_error_0 : DS_ := (dSet 2 (dCall sp__law_debts (dCons (dVar 0) dNil)))
def r__law_error_0 : DS_ := dSeq d__law_error_0 r__law_error_1
def d__law_error : DS_ := r__law_error_0
theorem w__law_error {f : Addr} {fd : FuncData} {k : Nat} (F : Fun K "_law_error" "_law_error" s__law_error f fd) (G : Gs mg) (hsys : ∃ o, base.get? sysModules = some o) (C__law_debts : Cal P w K mg base k "_law_debts" ["_law_book_here"] sp__law_debts) (C__law_got : Cal P w K mg base k "_law_got" ["_law_book_here", "_law_payments"] sp__law_got) (C__law_is_int : Cal P w K mg base k "_law_is_int" ["_law_value", "_law_low", "_law_high"] sp__law_is_int)
    (len : ∀ ds Q E, sp__law_error ds Q E → ds.length = 2) (law : ∀ ds Q E, sp__law_error ds Q E → d__law_error { nx := fun _ => Q .non, rt := Q, ex := E } (dstart 8 ds)) : GFn P w K mg base (k + 1) f fd ["_law_book_here", "_law_value"] sp__law_error := by
  exact gfn_mk F sc__law_error len (fun cdv A outer s H E hr hgd => (ds_cons (ds_set 2 (de_call C__law_debts hr hgd passD rfl (da_cons (de_var 0) da_nil)) sc__law_error.nd) (ds_cons (ds_if (DW.toDB (dw_or (db_not (db_val (de_isi rfl G.g_isinstance rfl G.g_tuple (by decide +kernel) kit_tuple (de_var 1)))) (dw_or1 (db_ne hr (de_len rfl G.g_len (da_cons (de_var 1) da_nil)) (de_len rfl G.g_len (da_cons (de_var 0) da_nil)))))) (ds_one (ds_ret (de_tup (da_cons de_non (da_cons de_str da_nil))))) ds_nil) (ds_cons (ds_if (db_ne hr (DN.toDE (dn_lc rfl sc__law_error.nd (di_zip rfl G.g_zip (da_cons (de_var 1) (da_cons (de_var 2) da_nil))) (own := [("_law_own", 5), ("_law_debt", 7)]) (blkOk_by (by show blkC N__law_error (defScope s__law_error) _ _ = true; decide +kernel)) (vsg := [5, 7]) (by decide) (fun s H C cl fp => (dg_tup (n := 2) rfl (dgs_cons (dg_name 5 sc__law_error.nd) (dgs_cons (dg_name 7 sc__law_error.nd) dgs_nil)))) (fun s H C cl fp => (dts_one (db_not (db_val (de_call C__law_is_int hr hgd passL rfl (da_cons (de_var 5) (da_cons de_int (da_cons (de_var 7) da_nil)))))))) (fun s H C cl fp => de_int))) (de_lst da_nil)) (ds_one (ds_ret (de_tup (da_cons de_non (da_cons de_str da_nil))))) ds_nil) (ds_cons (ds_set 3 (de_call C__law_got hr hgd passD rfl (da_cons (de_var 0) (da_cons (de_var 1) da_nil))) sc__law_error.nd) (ds_cons (ds_for (passes_of rfl) rfl (di_enum rfl G.g_enumerate (da_cons (de_var 1) da_nil)) (dg_tup (n := 2) rfl (dgs_cons (dg_name 4 sc__law_error.nd) (dgs_cons (dg_name 5 sc__law_error.nd) dgs_nil))) (ds_cons (ds_set 6 (de_min rfl rfl G.g_min (da_cons (de_ix (de_var 2) (de_var 4)) (da_cons (de_add (de_ix (de_ix (de_var 0) (de_var 4)) de_int) (de_ix (de_var 3) (de_var 4))) da_nil))) sc__law_error.nd) (ds_one (ds_if (db_ne hr (de_var 5) (de_var 6)) (ds_one (ds_ret (de_tup (da_cons (de_var 4) (da_cons (de_ifExp (db_lt (de_var 5) (de_var 6)) de_str de_str) da_nil))))) ds_nil)))) (ds_one (ds_ret de_non)))))))) law
/-! _law_every -/
abbrev N__law_every : List Str := ["_law_book_here", "_law_rows", "_law_debt", "_law_longer", "_law_row", "_law_paid"]
theorem sc__law_every : FnScope N__law_every ["_law_book_here"] (defScope s__law_every) := ⟨rfl, rfl, rfl, by decide +kernel, rfl, by decide +kernel, by decide +kernel⟩
def d__law_every_1b_2 : DS_ := (dFrzS 3 (dSet 1 (dVar 3)))
def r__law_every_1b_2 : DS_ := d__law_every_1b_2
def d__law_every_1b_1 : DS_ := (dFor (dSeqI (dVar 1)) (dgName 4) (dExt 3 (dFrz (dLc (dRng1 (dCons (dOp oAdd (dVar 2) (dC (.it 1))) dNil)) (dgName 5) dYes (dOp oAdd (dVar 4) (dTup (dCons (dVar 5) dNil))) [5]))))
def r__law_every_1b_1 : DS_ := dSeq d__law_every_1b_1 r__law_every_1b_2
def d__law_every_1b_0 : DS_ := (dSetO 3 (dLstN dNil))
def r__law_every_1b_0 : DS_ := dSeq d__law_every_1b_0 r__law_every_1b_1
def d__law_every_2 : DS_ := (dRet (dVar 1))
def r__law_every_2 : DS_ := d__law_every_2
def d__law_every_1 : DS_ := (dFor (dSeqI (dCall sp__law_debts (dCons (dVar 0) dNil))) (dgName 2) r__law_every_1b_0)
def r__law_every_1 : DS_ := dSeq d__law_every_1 r__law_every_2
def d__law_every_0 : DS_ := (dSet 1 (dLst (dCons (dTup dNil) dNil)))
def r__law_every_0 : DS_ := dSeq d__law_every_0 r__law_every_1
def d__law_every : DS_ := r__law_every_0
theorem w__law_every {f : Addr} {fd : FuncData} {k : Nat} (F : Fun K "_law_every" "_law_every" s__law_every f fd) (G : Gs mg) (hsys : ∃ o, base.get? sysModules = some o) (C__law_debts : Cal P w K mg base k "_law_debts" ["_law_book_here"] sp__law_debts)
    (len : ∀ ds Q E, sp__law_every ds Q E → ds.length = 1) (law : ∀ ds Q E, sp__law_every ds Q E → d__law_every { nx := fun _ => Q .non, rt := Q, ex := E } (dstart 6 ds)) : GFn P w K mg base (k + 1) f fd ["_law_book_here"] sp__law_every := by
  exact gfn_mk F sc__law_every len (fun cdv A outer s H E hr hgd => (ds_cons (ds_set 1 (de_lst (da_cons (de_tup da_nil) da_nil)) sc__law_every.nd) (ds_cons (ds_for (passes_of rfl) rfl (di_seq (de_call C__law_debts hr hgd passD rfl (da_cons (de_var 0) da_nil))) (dg_name 2 sc__law_every.nd) (ds_cons (ds_setO 3 (dn_lst da_nil) sc__law_every.nd) (ds_cons (ds_for (passes_of rfl) rfl (di_seq (de_var 1)) (dg_name 4 sc__law_every.nd) (ds_one (ds_extend 3 (DN.toDE (dn_lc rfl sc__law_every.nd (di_range1 rfl G.g_range (da_cons (de_add (de_var 2) de_int) da_nil)) (own := [("_law_paid", 5)]) (blkOk_by (by show blkC N__law_every (defScope s__law_every) _ _ = true; decide +kernel)) (vsg := [5]) (by decide) (fun s H C cl fp => (dg_name 5 sc__law_every.nd)) (fun s H C cl fp => dts_nil) (fun s H C cl fp => (de_add (de_var 4) (de_tup (da_cons (de_var 5) da_nil))))))))) (ds_one (ds_frz 3 (ds_set 1 (de_var 3) sc__law_every.nd)))))) (ds_one (ds_ret (de_var 1)))))) law
/-! _law_next -/
abbrev N__law_next : List Str := ["_law_book_here", "_law_payments", "_law_house", "_law_pile", "_law_to", "_law_amount", "_law_part"]
theorem sc__law_next : FnScope N__law_next ["_law_book_here", "_law_payments", "_law_house"] (defScope s__law_next) := ⟨rfl, rfl, rfl, by decide +kernel, rfl, by decide +kernel, by decide +kernel⟩
def d__law_next_2 : DS_ := (dRet (dC .non))
def r__law_next_2 : DS_ := d__law_next_2
def d__law_next_1 : DS_ := (dFor (dZip (dCons (dVar 3) (dCons (dCall sp__law_parts (dCons (dVar 3) (dCons (dOp oIx (dVar 1) (dVar 2)) dNil))) dNil))) (dgTup 2 (dgCons (dgTup 2 (dgCons (dgName 4) (dgCons (dgName 5) dgNil))) (dgCons (dgName 6) dgNil))) (dIfS (dTst (dOp oLt (dVar 6) (dVar 5))) (dRet (dTup (dCons (dVar 4) (dCons (dOp oSub (dVar 5) (dVar 6)) dNil)))) dNext))
def r__law_next_1 : DS_ := dSeq d__law_next_1 r__law_next_2
def d__law_next_0 : DS_ := (dSet 3 (dOp oIx (dOp oIx (dVar 0) (dVar 2)) (dC (.it 1))))
def r__law_next_0 : DS_ := dSeq d__law_next_0 r__law_next_1
def d__law_next : DS_ := r__law_next_0
theorem w__law_next {f : Addr} {fd : FuncData} {k : Nat} (F : Fun K "_law_next" "_law_next" s__law_next f fd) (G : Gs mg) (hsys : ∃ o, base.get? sysModules = some o) (C__law_parts : Cal P w K mg base k "_law_parts" ["_law_pile", "_law_paid"] sp__law_parts)
    (len : ∀ ds Q E, sp__law_next ds Q E → ds.length = 3) (law : ∀ ds Q E, sp__law_next ds Q E → d__law_next { nx := fun _ => Q .non, rt := Q, ex := E } (dstart 7 ds)) : GFn P w K mg base (k + 1) f fd ["_law_book_here", "_law_payments", "_law_house"] sp__law_next := by
  exact gfn_mk F sc__law_next len (fun cdv A outer s H E hr hgd => (ds_cons (ds_set 3 (de_ix (de_ix (de_var 0) (de_var 2)) de_int) sc__law_next.nd) (ds_cons (ds_for (passes_of rfl) rfl (di_zip rfl G.g_zip (da_cons (de_var 3) (da_cons (de_call C__law_parts hr hgd passD rfl (da_cons (de_var 3) (da_cons (de_ix (de_var 1) (de_var 2)) da_nil))) da_nil))) (dg_tup (n := 2) rfl (dgs_cons (dg_tup (n := 2) rfl (dgs_cons (dg_name 4 sc__law_next.nd) (dgs_cons (dg_name 5 sc__law_next.nd) dgs_nil))) (dgs_cons (dg_name 6 sc__law_next.nd) dgs_nil))) (ds_one (ds_if (db_lt (de_var 6) (de_var 5)) (ds_one (ds_ret (de_tup (da_cons (de_var 4) (da_cons (de_sub (de_var 5) (de_var 6)) da_nil))))) ds_nil))) (ds_one (ds_ret de_non))))) law
/-! _law_ring -/
abbrev N__law_ring : List Str := ["_law_book_here", "_law_payments", "_law_house", "_law_way", "_law_turn", "_law_slip", "_law_spot"]
theorem sc__law_ring : FnScope N__law_ring ["_law_book_here", "_law_payments", "_law_house"] (defScope s__law_ring) := ⟨rfl, rfl, rfl, by decide +kernel, rfl, by decide +kernel, by decide +kernel⟩
def d__law_ring_1b_3 : DS_ := (dApp 3 (dOp oIx (dVar 5) (dC (.it 0))))
def r__law_ring_1b_3 : DS_ := d__law_ring_1b_3
def d__law_ring_1b_2 : DS_ := (dIfS (dTst (dOp oEq (dOp oIx (dVar 5) (dC (.it 0))) (dVar 2))) (dSeq (dSet 6 (dLend 3 (dIndex (dVar 3) (dLend 3 (dCB oMinL (dCons (dVar 3) dNil)))))) (dFrzS 3 (dRet (dCB oTuple (dCons (dOp oAdd (dSl (dVar 3) (dPart (dVar 6)) dNoPart) (dSl (dVar 3) dNoPart (dPart (dVar 6)))) dNil))))) dNext)
def r__law_ring_1b_2 : DS_ := dSeq d__law_ring_1b_2 r__law_ring_1b_3
def d__law_ring_1b_1 : DS_ := (dIfS (dTst (dIsN (dVar 5))) (dRet (dC .non)) dNext)
def r__law_ring_1b_1 : DS_ := dSeq d__law_ring_1b_1 r__law_ring_1b_2
def d__law_ring_1b_0 : DS_ := (dSet 5 (dCall sp__law_next (dCons (dVar 0) (dCons (dVar 1) (dCons (dLend 3 (dOp oIx (dVar 3) (dNeg (dC (.it 1))))) dNil)))))
def r__law_ring_1b_0 : DS_ := dSeq d__law_ring_1b_0 r__law_ring_1b_1
def d__law_ring_2 : DS_ := (dRet (dC .non))
def r__law_ring_2 : DS_ := d__law_ring_2
def d__law_ring_1 : DS_ := (dFor (dRng1 (dCons (dCB oLen (dCons (dVar 0) dNil)) dNil)) (dgName 4) r__law_ring_1b_0)
def r__law_ring_1 : DS_ := dSeq d__law_ring_1 r__law_ring_2
def d__law_ring_0 : DS_ := (dSetO 3 (dLstN (dCons (dVar 2) dNil)))
def r__law_ring_0 : DS_ := dSeq d__law_ring_0 r__law_ring_1
def d__law_ring : DS_ := r__law_ring_0
theorem w__law_ring {f : Addr} {fd : FuncData} {k : Nat} (F : Fun K "_law_ring" "_law_ring" s__law_ring f fd) (G : Gs mg) (hsys : ∃ o, base.get? sysModules = some o) (C__law_next : Cal P w K mg base k "_law_next" ["_law_book_here", "_law_payments", "_law_house"] sp__law_next)
    (len : ∀ ds Q E, sp__law_ring ds Q E → ds.length = 3) (law : ∀ ds Q E, sp__law_ring ds Q E → d__law_ring { nx := fun _ => Q .non, rt := Q, ex := E } (dstart 7 ds)) : GFn P w K mg base (k + 1) f fd ["_law_book_here", "_law_payments", "_law_house"] sp__law_ring := by
  exact gfn_mk F sc__law_ring len (fun cdv A outer s H E hr hgd => (ds_cons (ds_setO 3 (dn_lst (da_cons (de_var 2) da_nil)) sc__law_ring.nd) (ds_cons (ds_for (passes_of rfl) rfl (di_range1 rfl G.g_range (da_cons (de_len rfl G.g_len (da_cons (de_var 0) da_nil)) da_nil)) (dg_name 4 sc__law_ring.nd) (ds_cons (ds_set 5 (de_call C__law_next hr hgd passD rfl (da_cons (de_var 0) (da_cons (de_var 1) (da_cons (de_lend 3 (de_ix (de_var 3) (de_neg de_int))) da_nil)))) sc__law_ring.nd) (ds_cons (ds_if (db_isN (de_var 5)) (ds_one (ds_ret de_non)) ds_nil) (ds_cons (ds_if (db_eq hr (de_ix (de_var 5) de_int) (de_var 2)) (ds_cons (ds_set 6 (de_lend 3 (de_index (de_var 3) (de_lend 3 (de_min rfl rfl G.g_min (da_cons (de_var 3) da_nil))))) sc__law_ring.nd) (ds_one (ds_frz 3 (ds_ret (de_tuple rfl G.g_tuple (da_cons (de_add (de_slice (de_var 3) (do_some (de_var 6)) do_none) (de_slice (de_var 3) do_none (do_some (de_var 6)))) da_nil)))))) ds_nil) (ds_one (ds_append 3 (de_ix (de_var 5) de_int))))))) (ds_one (ds_ret de_non))))) law
/-! _law_rest -/
abbrev N__law_rest : List Str := ["_law_book_here", "_law_payments", "_law_ring_here", "_law_house"]
theorem sc__law_rest : FnScope N__law_rest ["_law_book_here", "_law_payments", "_law_ring_here"] (defScope s__law_rest) := ⟨rfl, rfl, rfl, by decide +kernel, rfl, by decide +kernel, by decide +kernel⟩
def d__law_rest_0 : DS_ := (dRet (dCB oMinL (dCons (dFrz (dLc (dSeqI (dVar 2)) (dgName 3) dYes (dOp oIx (dCall sp__law_next (dCons (dVar 0) (dCons (dVar 1) (dCons (dVar 3) dNil)))) (dC (.it 1))) [3])) dNil)))
def r__law_rest_0 : DS_ := d__law_rest_0
def d__law_rest : DS_ := r__law_rest_0
theorem w__law_rest {f : Addr} {fd : FuncData} {k : Nat} (F : Fun K "_law_rest" "_law_rest" s__law_rest f fd) (G : Gs mg) (hsys : ∃ o, base.get? sysModules = some o) (C__law_next : Cal P w K mg base k "_law_next" ["_law_book_here", "_law_payments", "_law_house"] sp__law_next)
    (len : ∀ ds Q E, sp__law_rest ds Q E → ds.length = 3) (law : ∀ ds Q E, sp__law_rest ds Q E → d__law_rest { nx := fun _ => Q .non, rt := Q, ex := E } (dstart 4 ds)) : GFn P w K mg base (k + 1) f fd ["_law_book_here", "_law_payments", "_law_ring_here"] sp__law_rest := by
  exact gfn_mk F sc__law_rest len (fun cdv A outer s H E hr hgd => (ds_one (ds_ret (de_min rfl rfl G.g_min (da_cons (DN.toDE (dn_lc rfl sc__law_rest.nd (di_seq (de_var 2)) (own := [("_law_house", 3)]) (blkOk_by (by show blkC N__law_rest (defScope s__law_rest) _ _ = true; decide +kernel)) (vsg := [3]) (by decide) (fun s H C cl fp => (dg_name 3 sc__law_rest.nd)) (fun s H C cl fp => dts_nil) (fun s H C cl fp => (de_ix (de_call C__law_next hr hgd passL rfl (da_cons (de_var 0) (da_cons (de_var 1) (da_cons (de_var 3) da_nil)))) de_int)))) da_nil))))) law
/-! _law_more -/
abbrev N__law_more : List Str := ["_law_payments", "_law_houses", "_law_amount", "_law_house", "_law_paid"]
theorem sc__law_more : FnScope N__law_more ["_law_payments", "_law_houses", "_law_amount"] (defScope s__law_more) := ⟨rfl, rfl, rfl, by decide +kernel, rfl, by decide +kernel, by decide +kernel⟩
def d__law_more_0 : DS_ := (dRet (dCB oTuple (dCons (dFrz (dLc (dEnum (dCons (dVar 0) dNil)) (dgTup 2 (dgCons (dgName 3) (dgCons (dgName 4) dgNil))) dYes (dOp oAdd (dVar 4) (dOp oMulA (dVar 2) (dCB oInt (dCons (dOp oIn (dVar 3) (dVar 1)) dNil)))) [3, 4])) dNil)))
def r__law_more_0 : DS_ := d__law_more_0
def d__law_more : DS_ := r__law_more_0
theorem w__law_more {f : Addr} {fd : FuncData} {k : Nat} (F : Fun K "_law_more" "_law_more" s__law_more f fd) (G : Gs mg) (hsys : ∃ o, base.get? sysModules = some o)
    (len : ∀ ds Q E, sp__law_more ds Q E → ds.length = 3) (law : ∀ ds Q E, sp__law_more ds Q E → d__law_more { nx := fun _ => Q .non, rt := Q, ex := E } (dstart 5 ds)) : GFn P w K mg base (k + 1) f fd ["_law_payments", "_law_houses", "_law_amount"] sp__law_more := by
  exact gfn_mk F sc__law_more len (fun cdv A outer s H E hr hgd => (ds_one (ds_ret (de_tuple rfl G.g_tuple (da_cons (DN.toDE (dn_lc rfl sc__law_more.nd (di_enum rfl G.g_enumerate (da_cons (de_var 0) da_nil)) (own := [("_law_house", 3), ("_law_paid", 4)]) (blkOk_by (by show blkC N__law_more (defScope s__law_more) _ _ = true; decide +kernel)) (vsg := [3, 4]) (by decide) (fun s H C cl fp => (dg_tup (n := 2) rfl (dgs_cons (dg_name 3 sc__law_more.nd) (dgs_cons (dg_name 4 sc__law_more.nd) dgs_nil)))) (fun s H C cl fp => dts_nil) (fun s H C cl fp => (de_add (de_var 4) (de_mulA (de_var 2) (de_int1 rfl G.g_int (da_cons (de_in hr (de_var 3) (de_var 1)) da_nil))))))) da_nil))))) law
/-! _law_after -/
abbrev N__law_after : List Str := ["_law_book_here", "_law_payments", "_law_step", "_law_word", "_law_house", "_law_amount", "_law_wealth", "_law_slip", "_law_is_fine", "_law_ring_here", "_law_one"]
theorem sc__law_after : FnScope N__law_after ["_law_book_here", "_law_payments", "_law_step"] (defScope s__law_after) := ⟨rfl, rfl, rfl, by decide +kernel, rfl, by decide +kernel, by decide +kernel⟩
def d__law_after_7 : DS_ := (dRet (dCall sp__law_more (dCons (dVar 1) (dCons (dVar 9) (dCons (dVar 5) dNil)))))
def r__law_after_7 : DS_ := d__law_after_7
def d__law_after_6 : DS_ := (dIfS (dOr (dTst (dIsN (dVar 9))) (dOr (dTst (dOp oGt (dVar 5) (dCall sp__law_rest (dCons (dVar 0) (dCons (dVar 1) (dCons (dVar 9) dNil)))))) (dTst (dOp oLt (dCB oMaxL (dCons (dFrz (dLc (dSeqI (dVar 9)) (dgName 10) dYes (dOp oIx (dVar 6) (dVar 10)) [10])) dNil)) (dC (.it 1)))))) (dRet (dC .non)) dNext)
def r__law_after_6 : DS_ := dSeq d__law_after_6 r__law_after_7
def d__law_after_5 : DS_ := (dSet 9 (dIf (dTst (dOp oEq (dVar 3) (dC (.st "ring")))) (dCall sp__law_ring (dCons (dVar 0) (dCons (dVar 1) (dCons (dVar 4) dNil)))) (dC .non)))
def r__law_after_5 : DS_ := dSeq d__law_after_5 r__law_after_6
def d__law_after_4 : DS_ := (dIfS (dTst (dOp oEq (dVar 3) (dC (.st "pay")))) (dSeq (dSet 8 (dAndV (dNotN (dVar 7)) (dOp oLe (dVar 5) (dCB oMinL (dCons (dOp oIx (dVar 6) (dVar 4)) (dCons (dOp oIx (dVar 7) (dC (.it 1))) dNil)))))) (dRet (dIf (dTst (dVar 8)) (dCall sp__law_more (dCons (dVar 1) (dCons (dTup (dCons (dVar 4) dNil)) (dCons (dVar 5) dNil)))) (dC .non)))) dNext)
def r__law_after_4 : DS_ := dSeq d__law_after_4 r__law_after_5
def d__law_after_3 : DS_ := (dAsg (dTup (dCons (dCall sp__law_held (dCons (dVar 0) (dCons (dVar 1) dNil))) (dCons (dCall sp__law_next (dCons (dVar 0) (dCons (dVar 1) (dCons (dVar 4) dNil)))) dNil))) (dgTup 2 (dgCons (dgName 6) (dgCons (dgName 7) dgNil))))
def r__law_after_3 : DS_ := dSeq d__law_after_3 r__law_after_4
def d__law_after_2 : DS_ := (dIfS (dOr (dNot (dTst (dCall sp__law_is_int (dCons (dVar 4) (dCons (dC (.it 0)) (dCons (dOp oSub (dCB oLen (dCons (dVar 0) dNil)) (dC (.it 1))) dNil)))))) (dNot (dTst (dCall sp__law_is_int (dCons (dVar 5) (dCons (dC (.it 1)) (dCons (dOp oPow (dC (.it 10)) (dC (.it 30))) dNil))))))) (dRet (dC .non)) dNext)
def r__law_after_2 : DS_ := dSeq d__law_after_2 r__law_after_3
def d__law_after_1 : DS_ := (dAsg (dVar 2) (dgTup 3 (dgCons (dgName 3) (dgCons (dgName 4) (dgCons (dgName 5) dgNil)))))
def r__law_after_1 : DS_ := dSeq d__law_after_1 r__law_after_2
def d__law_after_0 : DS_ := (dIfS (dOr (dNot (dTst (dIsi "tuple" (dVar 2)))) (dOr (dTst (dOp oNe (dCB oLen (dCons (dVar 2) dNil)) (dC (.it 3)))) (dNot (dTst (dIsi "str" (dOp oIx (dVar 2) (dC (.it 0)))))))) (dRet (dC .non)) dNext)
def r__law_after_0 : DS_ := dSeq d__law_after_0 r__law_after_1
def d__law_after : DS_ := r__law_after_0
theorem w__law_after {f : Addr} {fd : FuncData} {k : Nat} (F : Fun K "_law_after" "_law_after" s__law_after f fd) (G : Gs mg) (hsys : ∃ o, base.get? sysModules = some o) (C__law_held : Cal P w K mg base k "_law_held" ["_law_book_here", "_law_payments"] sp__law_held) (C__law_is_int : Cal P w K mg base k "_law_is_int" ["_law_value", "_law_low", "_law_high"] sp__law_is_int) (C__law_more : Cal P w K mg base k "_law_more" ["_law_payments", "_law_houses", "_law_amount"] sp__law_more) (C__law_next : Cal P w K mg base k "_law_next" ["_law_book_here", "_law_payments", "_law_house"] sp__law_next) (C__law_rest : Cal P w K mg base k "_law_rest" ["_law_book_here", "_law_payments", "_law_ring_here"] sp__law_rest) (C__law_ring : Cal P w K mg base k "_law_ring" ["_law_book_here", "_law_payments", "_law_house"] sp__law_ring)
    (len : ∀ ds Q E, sp__law_after ds Q E → ds.length = 3) (law : ∀ ds Q E, sp__law_after ds Q E → d__law_after { nx := fun _ => Q .non, rt := Q, ex := E } (dstart 11 ds)) : GFn P w K mg base (k + 1) f fd ["_law_book_here", "_law_payments", "_law_step"] sp__law_after := by
  exact gfn_mk F sc__law_after len (fun cdv A outer s H E hr hgd => (ds_cons (ds_if (DW.toDB (dw_or (db_not (db_val (de_isi rfl G.g_isinstance rfl G.g_tuple (by decide +kernel) kit_tuple (de_var 2)))) (dw_or (db_ne hr (de_len rfl G.g_len (da_cons (de_var 2) da_nil)) de_int) (dw_or1 (db_not (db_val (de_isi rfl G.g_isinstance rfl G.g_str (by decide +kernel) kit_str (de_ix (de_var 2) de_int)))))))) (ds_one (ds_ret de_non)) ds_nil) (ds_cons (ds_asg (de_var 2) (dg_tup (n := 3) rfl (dgs_cons (dg_name 3 sc__law_after.nd) (dgs_cons (dg_name 4 sc__law_after.nd) (dgs_cons (dg_name 5 sc__law_after.nd) dgs_nil))))) (ds_cons (ds_if (DW.toDB (dw_or (db_not (db_val (de_call C__law_is_int hr hgd passD rfl (da_cons (de_var 4) (da_cons de_int (da_cons (de_sub (de_len rfl G.g_len (da_cons (de_var 0) da_nil)) de_int) da_nil)))))) (dw_or1 (db_not (db_val (de_call C__law_is_int hr hgd passD rfl (da_cons (de_var 5) (da_cons de_int (da_cons (de_pow de_int de_int) da_nil))))))))) (ds_one (ds_ret de_non)) ds_nil) (ds_cons (ds_asg (de_tup (da_cons (de_call C__law_held hr hgd passD rfl (da_cons (de_var 0) (da_cons (de_var 1) da_nil))) (da_cons (de_call C__law_next hr hgd passD rfl (da_cons (de_var 0) (da_cons (de_var 1) (da_cons (de_var 4) da_nil)))) da_nil))) (dg_tup (n := 2) rfl (dgs_cons (dg_name 6 sc__law_after.nd) (dgs_cons (dg_name 7 sc__law_after.nd) dgs_nil)))) (ds_cons (ds_if (db_eq hr (de_var 3) de_str) (ds_cons (ds_set 8 (de_and (de_notN (de_var 7)) (de_one (de_le (de_var 5) (de_min rfl rfl G.g_min (da_cons (de_ix (de_var 6) (de_var 4)) (da_cons (de_ix (de_var 7) de_int) da_nil)))))) sc__law_after.nd) (ds_one (ds_ret (de_ifExp (db_val (de_var 8)) (de_call C__law_more hr hgd passD rfl (da_cons (de_var 1) (da_cons (de_tup (da_cons (de_var 4) da_nil)) (da_cons (de_var 5) da_nil)))) de_non)))) ds_nil) (ds_cons (ds_set 9 (de_ifExp (db_eq hr (de_var 3) de_str) (de_call C__law_ring hr hgd passD rfl (da_cons (de_var 0) (da_cons (de_var 1) (da_cons (de_var 4) da_nil)))) de_non) sc__law_after.nd) (ds_cons (ds_if (DW.toDB (dw_or (db_isN (de_var 9)) (dw_or (db_gt (de_var 5) (de_call C__law_rest hr hgd passD rfl (da_cons (de_var 0) (da_cons (de_var 1) (da_cons (de_var 9) da_nil))))) (dw_or1 (db_lt (de_max rfl rfl G.g_max (da_cons (DN.toDE (dn_lc rfl sc__law_after.nd (di_seq (de_var 9)) (own := [("_law_one", 10)]) (blkOk_by (by show blkC N__law_after (defScope s__law_after) _ _ = true; decide +kernel)) (vsg := [10]) (by decide) (fun s H C cl fp => (dg_name 10 sc__law_after.nd)) (fun s H C cl fp => dts_nil) (fun s H C cl fp => (de_ix (de_var 6) (de_var 10))))) da_nil)) de_int))))) (ds_one (ds_ret de_non)) ds_nil) (ds_one (ds_ret (de_call C__law_more hr hgd passD rfl (da_cons (de_var 1) (da_cons (de_var 9) (da_cons (de_var 5) da_nil)))))))))))))) law
/-! _law_end -/
abbrev N__law_end : List Str := ["_law_book_here", "_law_value", "_law_payments", "_law_step"]
theorem sc__law_end : FnScope N__law_end ["_law_book_here", "_law_value"] (defScope s__law_end) := ⟨rfl, rfl, rfl, by decide +kernel, rfl, by decide +kernel, by decide +kernel⟩
def d__law_end_2 : DS_ := (dRet (dVar 2))
def r__law_end_2 : DS_ := d__law_end_2
def d__law_end_1 : DS_ := (dFor (dSeqI (dIf (dTst (dNotN (dVar 2))) (dVar 1) (dTup dNil))) (dgName 3) (dIfS (dTst (dNotN (dVar 2))) (dSet 2 (dCall sp__law_after (dCons (dVar 0) (dCons (dVar 2) (dCons (dVar 3) dNil))))) dNext))
def r__law_end_1 : DS_ := dSeq d__law_end_1 r__law_end_2
def d__law_end_0 : DS_ := (dSet 2 (dIf (dTst (dIsi "tuple" (dVar 1))) (dOp oMulA (dTup (dCons (dC (.it 0)) dNil)) (dCB oLen (dCons (dVar 0) dNil))) (dC .non)))
def r__law_end_0 : DS_ := dSeq d__law_end_0 r__law_end_1
def d__law_end : DS_ := r__law_end_0
theorem w__law_end {f : Addr} {fd : FuncData} {k : Nat} (F : Fun K "_law_end" "_law_end" s__law_end f fd) (G : Gs mg) (hsys : ∃ o, base.get? sysModules = some o) (C__law_after : Cal P w K mg base k "_law_after" ["_law_book_here", "_law_payments", "_law_step"] sp__law_after)
    (len : ∀ ds Q E, sp__law_end ds Q E → ds.length = 2) (law : ∀ ds Q E, sp__law_end ds Q E → d__law_end { nx := fun _ => Q .non, rt := Q, ex := E } (dstart 4 ds)) : GFn P w K mg base (k + 1) f fd ["_law_book_here", "_law_value"] sp__law_end := by
  exact gfn_mk F sc__law_end len (fun cdv A outer s H E hr hgd => (ds_cons (ds_set 2 (de_ifExp (db_val (de_isi rfl G.g_isinstance rfl G.g_tuple (by decide +kernel) kit_tuple (de_var 1))) (de_mulA (de_tup (da_cons de_int da_nil)) (de_len rfl G.g_len (da_cons (de_var 0) da_nil))) de_non) sc__law_end.nd) (ds_cons (ds_for (passes_of rfl) rfl (di_seq (de_ifExp (db_notN (de_var 2)) (de_var 1) (de_tup da_nil))) (dg_name 3 sc__law_end.nd) (ds_one (ds_if (db_notN (de_var 2)) (ds_one (ds_set 2 (de_call C__law_after hr hgd passD rfl (da_cons (de_var 0) (da_cons (de_var 2) (da_cons (de_var 3) da_nil)))) sc__law_end.nd)) ds_nil))) (ds_one (ds_ret (de_var 2)))))) law
/-! _law_rich -/
abbrev N__law_rich : List Str := ["_law_book_here", "_law_payments", "_law_wealth", "_law_found", "_law_house"]
theorem sc__law_rich : FnScope N__law_rich ["_law_book_here", "_law_payments"] (defScope s__law_rich) := ⟨rfl, rfl, rfl, by decide +kernel, rfl, by decide +kernel, by decide +kernel⟩
def d__law_rich_2 : DS_ := (dRet (dFrz (dLc (dSeqI (dVar 3)) (dgName 4) (dTst (dNotN (dCall sp__law_next (dCons (dVar 0) (dCons (dVar 1) (dCons (dVar 4) dNil)))))) (dVar 4) [4])))
def r__law_rich_2 : DS_ := d__law_rich_2
def d__law_rich_1 : DS_ := (dSetN 3 (dLc (dRng1 (dCons (dCB oLen (dCons (dVar 0) dNil)) dNil)) (dgName 4) (dTst (dOp oGt (dOp oIx (dVar 2) (dVar 4)) (dC (.it 0)))) (dVar 4) [4]))
def r__law_rich_1 : DS_ := dSeq d__law_rich_1 r__law_rich_2
def d__law_rich_0 : DS_ := (dSet 2 (dCall sp__law_held (dCons (dVar 0) (dCons (dVar 1) dNil))))
def r__law_rich_0 : DS_ := dSeq d__law_rich_0 r__law_rich_1
def d__law_rich : DS_ := r__law_rich_0
theorem w__law_rich {f : Addr} {fd : FuncData} {k : Nat} (F : Fun K "_law_rich" "_law_rich" s__law_rich f fd) (G : Gs mg) (hsys : ∃ o, base.get? sysModules = some o) (C__law_held : Cal P w K mg base k "_law_held" ["_law_book_here", "_law_payments"] sp__law_held) (C__law_next : Cal P w K mg base k "_law_next" ["_law_book_here", "_law_payments", "_law_house"] sp__law_next)
    (len : ∀ ds Q E, sp__law_rich ds Q E → ds.length = 2) (law : ∀ ds Q E, sp__law_rich ds Q E → d__law_rich { nx := fun _ => Q .non, rt := Q, ex := E } (dstart 5 ds)) : GFn P w K mg base (k + 1) f fd ["_law_book_here", "_law_payments"] sp__law_rich := by
  exact gfn_mk F sc__law_rich len (fun cdv A outer s H E hr hgd => (ds_cons (ds_set 2 (de_call C__law_held hr hgd passD rfl (da_cons (de_var 0) (da_cons (de_var 1) da_nil))) sc__law_rich.nd) (ds_cons (ds_setLcN 3 rfl sc__law_rich.nd (di_range1 rfl G.g_range (da_cons (de_len rfl G.g_len (da_cons (de_var 0) da_nil)) da_nil)) (own := [("_law_house", 4)]) (blkOk_by (by show blkC N__law_rich (defScope s__law_rich) _ _ = true; decide +kernel)) (vsg := [4]) (by decide) (fun s H C cl fp => (dg_name 4 sc__law_rich.nd)) (fun s H C cl fp => (dts_one (db_gt (de_ix (de_var 2) (de_var 4)) de_int))) (fun s H C cl fp => (de_var 4)) rfl) (ds_one (ds_ret (DN.toDE (dn_lc rfl sc__law_rich.nd (di_seq (de_var 3)) (own := [("_law_house", 4)]) (blkOk_by (by show blkC N__law_rich (defScope s__law_rich) _ _ = true; decide +kernel)) (vsg := [4]) (by decide) (fun s H C cl fp => (dg_name 4 sc__law_rich.nd)) (fun s H C cl fp => (dts_one (db_notN (de_call C__law_next hr hgd passL rfl (da_cons (de_var 0) (da_cons (de_var 1) (da_cons (de_var 4) da_nil))))))) (fun s H C cl fp => (de_var 4))))))))) law
/-! _law_finish -/
abbrev N__law_finish : List Str := ["_law_book_here", "_law_run", "_law_found", "_law_payments", "_law_rich_here", "_law_ring_here", "_law_house", "_law_step"]
theorem sc__law_finish : FnScope N__law_finish ["_law_book_here", "_law_run"] (defScope s__law_finish) := ⟨rfl, rfl, rfl, by decide +kernel, rfl, by decide +kernel, by decide +kernel⟩
def d__law_finish_2b_5 : DS_ := (dSet 4 (dCall sp__law_rich (dCons (dVar 0) (dCons (dVar 3) dNil))))
def r__law_finish_2b_5 : DS_ := d__law_finish_2b_5
def d__law_finish_2b_4 : DS_ := (dSet 3 (dCall sp__law_after (dCons (dVar 0) (dCons (dVar 3) (dCons (dVar 7) dNil)))))
def r__law_finish_2b_4 : DS_ := dSeq d__law_finish_2b_4 r__law_finish_2b_5
def d__law_finish_2b_3 : DS_ := (dApp 2 (dVar 7))
def r__law_finish_2b_3 : DS_ := dSeq d__law_finish_2b_3 r__law_finish_2b_4
def d__law_finish_2b_2 : DS_ := (dIfS (dTst (dNotN (dVar 5))) (dSet 7 (dTup (dCons (dC (.st "ring")) (dCons (dVar 6) (dCons (dCall sp__law_rest (dCons (dVar 0) (dCons (dVar 3) (dCons (dVar 5) dNil)))) dNil))))) dNext)
def r__law_finish_2b_2 : DS_ := dSeq d__law_finish_2b_2 r__law_finish_2b_3
def d__law_finish_2b_1 : DS_ := (dSet 7 (dTup (dCons (dC (.st "pay")) (dCons (dVar 6) (dCons (dCB oMinL (dCons (dOp oIx (dCall sp__law_held (dCons (dVar 0) (dCons (dVar 3) dNil))) (dVar 6)) (dCons (dOp oIx (dCall sp__law_next (dCons (dVar 0) (dCons (dVar 3) (dCons (dVar 6) dNil)))) (dC (.it 1))) dNil))) dNil)))))
def r__law_finish_2b_1 : DS_ := dSeq d__law_finish_2b_1 r__law_finish_2b_2
def d__law_finish_2b_0 : DS_ := (dPar 5 6 (dCons (dCall sp__law_ring (dCons (dVar 0) (dCons (dVar 3) (dCons (dOp oIx (dVar 4) (dC (.it 0))) dNil)))) (dCons (dOp oIx (dVar 4) (dC (.it 0))) dNil)))
def r__law_finish_2b_0 : DS_ := dSeq d__law_finish_2b_0 r__law_finish_2b_1
def d__law_finish_3 : DS_ := (dFrzS 2 (dRet (dCB oTuple (dCons (dVar 2) dNil))))
def r__law_finish_3 : DS_ := d__law_finish_3
def d__law_finish_2 : DS_ := (dWhile (dTst (dOp oNe (dVar 4) (dLst dNil))) r__law_finish_2b_0)
def r__law_finish_2 : DS_ := dSeq d__law_finish_2 r__law_finish_3
def d__law_finish_1 : DS_ := (dSet 4 (dCall sp__law_rich (dCons (dVar 0) (dCons (dVar 3) dNil))))
def r__law_finish_1 : DS_ := dSeq d__law_finish_1 r__law_finish_2
def d__law_finish_0 : DS_ := (dParO 2 3 (dListN (dCons (dVar 1) dNil)) (dCall sp__law_end (dCons (dVar 0) (dCons (dVar 1) dNil))))
def r__law_finish_0 : DS_ := dSeq d__law_finish_0 r__law_finish_1
def d__law_finish : DS_ := r__law_finish_0
theorem w__law_finish {f : Addr} {fd : FuncData} {k : Nat} (F : Fun K "_law_finish" "_law_finish" s__law_finish f fd) (G : Gs mg) (hsys : ∃ o, base.get? sysModules = some o) (C__law_after : Cal P w K mg base k "_law_after" ["_law_book_here", "_law_payments", "_law_step"] sp__law_after) (C__law_end : Cal P w K mg base k "_law_end" ["_law_book_here", "_law_value"] sp__law_end) (C__law_held : Cal P w K mg base k "_law_held" ["_law_book_here", "_law_payments"] sp__law_held) (C__law_next : Cal P w K mg base k "_law_next" ["_law_book_here", "_law_payments", "_law_house"] sp__law_next) (C__law_rest : Cal P w K mg base k "_law_rest" ["_law_book_here", "_law_payments", "_law_ring_here"] sp__law_rest) (C__law_rich : Cal P w K mg base k "_law_rich" ["_law_book_here", "_law_payments"] sp__law_rich) (C__law_ring : Cal P w K mg base k "_law_ring" ["_law_book_here", "_law_payments", "_law_house"] sp__law_ring)
    (len : ∀ ds Q E, sp__law_finish ds Q E → ds.length = 2) (law : ∀ ds Q E, sp__law_finish ds Q E → d__law_finish { nx := fun _ => Q .non, rt := Q, ex := E } (dstart 8 ds)) : GFn P w K mg base (k + 1) f fd ["_law_book_here", "_law_run"] sp__law_finish := by
  exact gfn_mk F sc__law_finish len (fun cdv A outer s H E hr hgd => (ds_cons (ds_parO (i := 2) (j := 3) rfl sc__law_finish.nd (dn_list rfl G.g_list (da_cons (de_var 1) da_nil)) (de_call C__law_end hr hgd passD rfl (da_cons (de_var 0) (da_cons (de_var 1) da_nil))) rfl) (ds_cons (ds_set 4 (de_call C__law_rich hr hgd passD rfl (da_cons (de_var 0) (da_cons (de_var 3) da_nil))) sc__law_finish.nd) (ds_cons (ds_while (passes_of rfl) (db_ne hr (de_var 4) (de_lst da_nil)) (ds_cons (ds_par (i := 5) (j := 6) rfl sc__law_finish.nd (da_cons (de_call C__law_ring hr hgd passD rfl (da_cons (de_var 0) (da_cons (de_var 3) (da_cons (de_ix (de_var 4) de_int) da_nil)))) (da_cons (de_ix (de_var 4) de_int) da_nil)) rfl) (ds_cons (ds_set 7 (de_tup (da_cons de_str (da_cons (de_var 6) (da_cons (de_min rfl rfl G.g_min (da_cons (de_ix (de_call C__law_held hr hgd passD rfl (da_cons (de_var 0) (da_cons (de_var 3) da_nil))) (de_var 6)) (da_cons (de_ix (de_call C__law_next hr hgd passD rfl (da_cons (de_var 0) (da_cons (de_var 3) (da_cons (de_var 6) da_nil)))) de_int) da_nil))) da_nil)))) sc__law_finish.nd) (ds_cons (ds_if (db_notN (de_var 5)) (ds_one (ds_set 7 (de_tup (da_cons de_str (da_cons (de_var 6) (da_cons (de_call C__law_rest hr hgd passD rfl (da_cons (de_var 0) (da_cons (de_var 3) (da_cons (de_var 5) da_nil)))) da_nil)))) sc__law_finish.nd)) ds_nil) (ds_cons (ds_append 2 (de_var 7)) (ds_cons (ds_set 3 (de_call C__law_after hr hgd passD rfl (da_cons (de_var 0) (da_cons (de_var 3) (da_cons (de_var 7) da_nil)))) sc__law_finish.nd) (ds_one (ds_set 4 (de_call C__law_rich hr hgd passD rfl (da_cons (de_var 0) (da_cons (de_var 3) da_nil))) sc__law_finish.nd)))))))) (ds_one (ds_frz 2 (ds_ret (de_tuple rfl G.g_tuple (da_cons (de_var 2) da_nil))))))))) law
/-! _law_least -/
abbrev N__law_least : List Str := ["_law_book_here"]
theorem sc__law_least : FnScope N__law_least ["_law_book_here"] (defScope s__law_least) := ⟨rfl, rfl, rfl, by decide +kernel, rfl, by decide +kernel, by decide +kernel⟩
def d__law_least_0 : DS_ := (dRet (dCall sp__law_end (dCons (dVar 0) (dCons (dCall sp__law_finish (dCons (dVar 0) (dCons (dTup dNil) dNil))) dNil))))
def r__law_least_0 : DS_ := d__law_least_0
def d__law_least : DS_ := r__law_least_0
theorem w__law_least {f : Addr} {fd : FuncData} {k : Nat} (F : Fun K "_law_least" "_law_least" s__law_least f fd) (G : Gs mg) (hsys : ∃ o, base.get? sysModules = some o) (C__law_end : Cal P w K mg base k "_law_end" ["_law_book_here", "_law_value"] sp__law_end) (C__law_finish : Cal P w K mg base k "_law_finish" ["_law_book_here", "_law_run"] sp__law_finish)
    (len : ∀ ds Q E, sp__law_least ds Q E → ds.length = 1) (law : ∀ ds Q E, sp__law_least ds Q E → d__law_least { nx := fun _ => Q .non, rt := Q, ex := E } (dstart 1 ds)) : GFn P w K mg base (k + 1) f fd ["_law_book_here"] sp__law_least := by
  exact gfn_mk F sc__law_least len (fun cdv A outer s H E hr hgd => (ds_one (ds_ret (de_call C__law_end hr hgd passD rfl (da_cons (de_var 0) (da_cons (de_call C__law_finish hr hgd passD rfl (da_cons (de_var 0) (da_cons (de_tup da_nil) da_nil))) da_nil)))))) law
/-! _law_odd -/
abbrev N__law_odd : List Str := ["_law_drum_here", "_law_some_here"]
theorem sc__law_odd : FnScope N__law_odd ["_law_drum_here"] (defScope s__law_odd) := ⟨rfl, rfl, rfl, by decide +kernel, rfl, by decide +kernel, by decide +kernel⟩
def d__law_odd_1 : DS_ := (dRet (dOp oIx (dVar 1) (dCall sp__law_beat (dCons (dVar 0) (dCons (dC (.it 19)) dNil)))))
def r__law_odd_1 : DS_ := d__law_odd_1
def d__law_odd_0 : DS_ := (dSet 1 (dLst (dCons (dC .non) (dCons (dC (.bl true)) (dCons (dC (.bl false)) (dCons (dNeg (dC (.it 1))) (dCons (dC (.it 0)) (dCons (dC (.it 1)) (dCons (dC (.it 5)) (dCons (dC (.it 6)) (dCons (dOp oPow (dC (.it 10)) (dC (.it 39))) (dCons (dC (.st "")) (dCons (dC (.st "pay")) (dCons (dC (.st "0")) (dCons (dTup dNil) (dCons (dLst dNil) (dCons dDic0 (dCons (dTup (dCons (dC (.it 0)) dNil)) (dCons (dLst (dCons (dC (.it 0)) dNil)) (dCons (dTup (dCons (dC (.it 0)) (dCons (dC (.it 0)) dNil))) (dCons (dTup (dCons (dC (.bl true)) dNil)) dNil)))))))))))))))))))))
def r__law_odd_0 : DS_ := dSeq d__law_odd_0 r__law_odd_1
def d__law_odd : DS_ := r__law_odd_0
theorem w__law_odd {f : Addr} {fd : FuncData} {k : Nat} (F : Fun K "_law_odd" "_law_odd" s__law_odd f fd) (G : Gs mg) (hsys : ∃ o, base.get? sysModules = some o) (C__law_beat : Cal P w K mg base k "_law_beat" ["_law_drum_here", "_law_many"] sp__law_beat)
    (len : ∀ ds Q E, sp__law_odd ds Q E → ds.length = 1) (law : ∀ ds Q E, sp__law_odd ds Q E → d__law_odd { nx := fun _ => Q .non, rt := Q, ex := E } (dstart 2 ds)) : GFn P w K mg base (k + 1) f fd ["_law_drum_here"] sp__law_odd := by
  exact gfn_mk F sc__law_odd len (fun cdv A outer s H E hr hgd => (ds_cons (ds_set 1 (de_lst (da_cons de_non (da_cons de_bl (da_cons de_bl (da_cons (de_neg de_int) (da_cons de_int (da_cons de_int (da_cons de_int (da_cons de_int (da_cons (de_pow de_int de_int) (da_cons de_str (da_cons de_str (da_cons de_str (da_cons (de_tup da_nil) (da_cons (de_lst da_nil) (da_cons de_dic0 (da_cons (de_tup (da_cons de_int da_nil)) (da_cons (de_lst (da_cons de_int da_nil)) (da_cons (de_tup (da_cons de_int (da_cons de_int da_nil))) (da_cons (de_tup (da_cons de_bl da_nil)) da_nil)))))))))))))))))))) sc__law_odd.nd) (ds_one (ds_ret (de_ix (de_var 1) (de_call C__law_beat hr hgd passD rfl (da_cons (de_var 0) (da_cons de_int da_nil)))))))) law
/-! _law_bent -/
abbrev N__law_bent : List Str := ["_law_drum_here", "_law_payments", "_law_spot", "_law_own", "_law_any_amount", "_law_strange", "_law_new", "_law_some_here"]
theorem sc__law_bent : FnScope N__law_bent ["_law_drum_here", "_law_payments"] (defScope s__law_bent) := ⟨rfl, rfl, rfl, by decide +kernel, rfl, by decide +kernel, by decide +kernel⟩
def d__law_bent_4 : DS_ := (dRet (dOp oIx (dOp oAdd (dOp oAdd (dOp oMulA (dSl (dVar 7) dNoPart (dPart (dC (.it 1)))) (dC (.it 5))) (dVar 7)) (dLst (dCons (dCB oList (dCons (dVar 1) dNil)) (dCons (dOp oAdd (dVar 1) (dSl (dVar 1) (dPart (dVar 2)) dNoPart)) dNil)))) (dCall sp__law_beat (dCons (dVar 0) (dCons (dC (.it 10)) dNil)))))
def r__law_bent_4 : DS_ := d__law_bent_4
def d__law_bent_3 : DS_ := (dSet 7 (dLst (dCons (dOp oAdd (dOp oAdd (dSl (dVar 1) dNoPart (dPart (dVar 2))) (dTup (dCons (dVar 6) dNil))) (dSl (dVar 1) (dPart (dOp oAdd (dVar 2) (dC (.it 1)))) dNoPart)) (dCons (dOp oAdd (dSl (dVar 1) dNoPart (dPart (dVar 2))) (dSl (dVar 1) (dPart (dOp oAdd (dVar 2) (dC (.it 1)))) dNoPart)) (dCons (dRev (dVar 1)) dNil)))))
def r__law_bent_3 : DS_ := dSeq d__law_bent_3 r__law_bent_4
def d__law_bent_2 : DS_ := (dSet 6 (dOp oIx (dLst (dCons (dOp oAdd (dVar 3) (dC (.it 1))) (dCons (dOp oSub (dVar 3) (dC (.it 1))) (dCons (dOp oEq (dVar 3) (dC (.it 1))) (dCons (dCB oStr (dCons (dVar 3) dNil)) (dCons (dC .non) (dCons (dVar 4) (dCons (dTup (dCons (dVar 3) dNil)) (dCons (dVar 5) dNil))))))))) (dCall sp__law_beat (dCons (dVar 0) (dCons (dC (.it 8)) dNil)))))
def r__law_bent_2 : DS_ := dSeq d__law_bent_2 r__law_bent_3
def d__law_bent_1 : DS_ := (dPar3 3 4 5 (dCons (dOp oIx (dVar 1) (dVar 2)) (dCons (dCall sp__law_beat (dCons (dVar 0) (dCons (dOp oPow (dC (.it 10)) (dC (.it 9))) dNil))) (dCons (dCall sp__law_odd (dCons (dVar 0) dNil)) dNil))))
def r__law_bent_1 : DS_ := dSeq d__law_bent_1 r__law_bent_2
def d__law_bent_0 : DS_ := (dSet 2 (dCall sp__law_beat (dCons (dVar 0) (dCons (dCB oLen (dCons (dVar 1) dNil)) dNil))))
def r__law_bent_0 : DS_ := dSeq d__law_bent_0 r__law_bent_1
def d__law_bent : DS_ := r__law_bent_0
theorem w__law_bent {f : Addr} {fd : FuncData} {k : Nat} (F : Fun K "_law_bent" "_law_bent" s__law_bent f fd) (G : Gs mg) (hsys : ∃ o, base.get? sysModules = some o) (C__law_beat : Cal P w K mg base k "_law_beat" ["_law_drum_here", "_law_many"] sp__law_beat) (C__law_odd : Cal P w K mg base k "_law_odd" ["_law_drum_here"] sp__law_odd)
    (len : ∀ ds Q E, sp__law_bent ds Q E → ds.length = 2) (law : ∀ ds Q E, sp__law_bent ds Q E → d__law_bent { nx := fun _ => Q .non, rt := Q, ex := E } (dstart 8 ds)) : GFn P w K mg base (k + 1) f fd ["_law_drum_here", "_law_payments"] sp__law_bent := by
  exact gfn_mk F sc__law_bent len (fun cdv A outer s H E hr hgd => (ds_cons (ds_set 2 (de_call C__law_beat hr hgd passD rfl (da_cons (de_var 0) (da_cons (de_len rfl G.g_len (da_cons (de_var 1) da_nil)) da_nil))) sc__law_bent.nd) (ds_cons (ds_par3 (i := 3) (j := 4) (l := 5) rfl sc__law_bent.nd (da_cons (de_ix (de_var 1) (de_var 2)) (da_cons (de_call C__law_beat hr hgd passD rfl (da_cons (de_var 0) (da_cons (de_pow de_int de_int) da_nil))) (da_cons (de_call C__law_odd hr hgd passD rfl (da_cons (de_var 0) da_nil)) da_nil))) rfl) (ds_cons (ds_set 6 (de_ix (de_lst (da_cons (de_add (de_var 3) de_int) (da_cons (de_sub (de_var 3) de_int) (da_cons (de_eq hr (de_var 3) de_int) (da_cons (de_str1 rfl G.g_str (da_cons (de_var 3) da_nil)) (da_cons de_non (da_cons (de_var 4) (da_cons (de_tup (da_cons (de_var 3) da_nil)) (da_cons (de_var 5) da_nil))))))))) (de_call C__law_beat hr hgd passD rfl (da_cons (de_var 0) (da_cons de_int da_nil)))) sc__law_bent.nd) (ds_cons (ds_set 7 (de_lst (da_cons (de_add (de_add (de_slice (de_var 1) do_none (do_some (de_var 2))) (de_tup (da_cons (de_var 6) da_nil))) (de_slice (de_var 1) (do_some (de_add (de_var 2) de_int)) do_none)) (da_cons (de_add (de_slice (de_var 1) do_none (do_some (de_var 2))) (de_slice (de_var 1) (do_some (de_add (de_var 2) de_int)) do_none)) (da_cons (de_rev (de_var 1)) da_nil)))) sc__law_bent.nd) (ds_one (ds_ret (de_ix (de_add (de_add (de_mulA (de_slice (de_var 7) do_none (do_some de_int)) de_int) (de_var 7)) (de_lst (da_cons (de_list rfl G.g_list (da_cons (de_var 1) da_nil)) (da_cons (de_add (de_var 1) (de_slice (de_var 1) (do_some (de_var 2)) do_none)) da_nil)))) (de_call C__law_beat hr hgd passD rfl (da_cons (de_var 0) (da_cons de_int da_nil))))))))))) law
/-! _law_some -/
abbrev N__law_some : List Str := ["_law_drum_here", "_law_book_here", "_law_found", "_law_debt"]
theorem sc__law_some : FnScope N__law_some ["_law_drum_here", "_law_book_here"] (defScope s__law_some) := ⟨rfl, rfl, rfl, by decide +kernel, rfl, by decide +kernel, by decide +kernel⟩
def d__law_some_2 : DS_ := (dFrzS 2 (dRet (dCB oTuple (dCons (dVar 2) dNil))))
def r__law_some_2 : DS_ := d__law_some_2
def d__law_some_1 : DS_ := (dFor (dSeqI (dCall sp__law_debts (dCons (dVar 1) dNil))) (dgName 3) (dApp 2 (dOp oIx (dLst (dCons (dC (.it 0)) (dCons (dVar 3) (dCons (dCall sp__law_beat (dCons (dVar 0) (dCons (dOp oAdd (dVar 3) (dC (.it 1))) dNil))) dNil)))) (dCall sp__law_beat (dCons (dVar 0) (dCons (dC (.it 3)) dNil))))))
def r__law_some_1 : DS_ := dSeq d__law_some_1 r__law_some_2
def d__law_some_0 : DS_ := (dSetO 2 (dLstN dNil))
def r__law_some_0 : DS_ := dSeq d__law_some_0 r__law_some_1
def d__law_some : DS_ := r__law_some_0
theorem w__law_some {f : Addr} {fd : FuncData} {k : Nat} (F : Fun K "_law_some" "_law_some" s__law_some f fd) (G : Gs mg) (hsys : ∃ o, base.get? sysModules = some o) (C__law_beat : Cal P w K mg base k "_law_beat" ["_law_drum_here", "_law_many"] sp__law_beat) (C__law_debts : Cal P w K mg base k "_law_debts" ["_law_book_here"] sp__law_debts)
    (len : ∀ ds Q E, sp__law_some ds Q E → ds.length = 2) (law : ∀ ds Q E, sp__law_some ds Q E → d__law_some { nx := fun _ => Q .non, rt := Q, ex := E } (dstart 4 ds)) : GFn P w K mg base (k + 1) f fd ["_law_drum_here", "_law_book_here"] sp__law_some := by
  exact gfn_mk F sc__law_some len (fun cdv A outer s H E hr hgd => (ds_cons (ds_setO 2 (dn_lst da_nil) sc__law_some.nd) (ds_cons (ds_for (passes_of rfl) rfl (di_seq (de_call C__law_debts hr hgd passD rfl (da_cons (de_var 1) da_nil))) (dg_name 3 sc__law_some.nd) (ds_one (ds_append 2 (de_ix (de_lst (da_cons de_int (da_cons (de_var 3) (da_cons (de_call C__law_beat hr hgd passD rfl (da_cons (de_var 0) (da_cons (de_add (de_var 3) de_int) da_nil))) da_nil)))) (de_call C__law_beat hr hgd passD rfl (da_cons (de_var 0) (da_cons de_int da_nil))))))) (ds_one (ds_frz 2 (ds_ret (de_tuple rfl G.g_tuple (da_cons (de_var 2) da_nil)))))))) law
/-! the law, behind its first row -/
abbrev N_law : List Str := ["_law_script", "_law_drum_here", "_law_turn", "_law_book_here", "_law_payments", "_law_due", "_law_good", "_law_values", "_law_value", "_law_shown", "_law_again", "_law_found", "_law_some_here", "_law_k"]
theorem sc_law : FnScope N_law ["_law_script"] (defScope s_law) := ⟨rfl, rfl, rfl, by decide +kernel, rfl, by decide +kernel, by decide +kernel⟩
def d_law_0b_1b_1 : DS_ := (dIfS (dTst (dOp oNe (dCB oRepr (dCons (dLst (dCons (dCall sp_settlement_error (dCons (dVar 3) (dCons (dVar 4) dNil))) (dCons (dCall sp_is_settlement (dCons (dVar 3) (dCons (dVar 4) dNil))) dNil))) dNil)) (dCB oRepr (dCons (dLst (dCons (dVar 5) (dCons (dIsN (dVar 5)) dNil))) dNil)))) (dRet (dC (.bl false))) dNext)
def r_law_0b_1b_1 : DS_ := d_law_0b_1b_1
def d_law_0b_1b_0 : DS_ := (dSet 5 (dCall sp__law_error (dCons (dVar 3) (dCons (dVar 4) dNil))))
def r_law_0b_1b_0 : DS_ := dSeq d_law_0b_1b_0 r_law_0b_1b_1
def d_law_0b_1 : DS_ := (dFor (dSeqI (dCall sp__law_every (dCons (dVar 3) dNil))) (dgName 4) r_law_0b_1b_0)
def r_law_0b_1 : DS_ := d_law_0b_1
def d_law_0b_0 : DS_ := (dSet 3 (dCall sp__law_book (dCons (dVar 1) (dCons (dC (.it 3)) (dCons (dC (.it 2)) (dCons (dC (.it 2)) dNil))))))
def r_law_0b_0 : DS_ := dSeq d_law_0b_0 r_law_0b_1
def d_law_1b_4b_1b_1 : DS_ := (dIfS (dOr (dTst (dOp oNe (dCB oRepr (dCons (dVar 11) dNil)) (dCB oRepr (dCons (dLst (dCons (dVar 5) (dCons (dIsN (dVar 5)) dNil))) dNil)))) (dTst (dOp oNe (dCB oRepr (dCons (dLst (dCons (dVar 3) (dCons (dVar 8) dNil))) dNil)) (dVar 9)))) (dRet (dC (.bl false))) dNext)
def r_law_1b_4b_1b_1 : DS_ := d_law_1b_4b_1b_1
def d_law_1b_4b_1b_0 : DS_ := (dSet 11 (dLst (dCons (dCall sp_settlement_error (dCons (dVar 3) (dCons (dVar 8) dNil))) (dCons (dCall sp_is_settlement (dCons (dVar 3) (dCons (dVar 8) dNil))) dNil))))
def r_law_1b_4b_1b_0 : DS_ := dSeq d_law_1b_4b_1b_0 r_law_1b_4b_1b_1
def d_law_1b_4b_1 : DS_ := (dFor (dRng1 (dCons (dC (.it 2)) dNil)) (dgName 10) r_law_1b_4b_1b_0)
def r_law_1b_4b_1 : DS_ := d_law_1b_4b_1
def d_law_1b_4b_0 : DS_ := (dPar 9 5 (dCons (dCB oRepr (dCons (dLst (dCons (dVar 3) (dCons (dVar 8) dNil))) dNil)) (dCons (dCall sp__law_error (dCons (dVar 3) (dCons (dVar 8) dNil))) dNil)))
def r_law_1b_4b_0 : DS_ := dSeq d_law_1b_4b_0 r_law_1b_4b_1
def d_law_1b_4 : DS_ := (dFor (dSeqI (dVar 7)) (dgName 8) r_law_1b_4b_0)
def r_law_1b_4 : DS_ := d_law_1b_4
def d_law_1b_3 : DS_ := (dSet 7 (dOp oAdd (dOp oAdd (dVar 7) (dFrz (dLc (dRng1 (dCons (dC (.it 10)) dNil)) (dgName 13) dYes (dCall sp__law_bent (dCons (dVar 1) (dCons (dVar 6) dNil))) [13]))) (dLst (dCons (dCall sp__law_some (dCons (dVar 1) (dCons (dVar 3) dNil))) (dCons (dCall sp__law_odd (dCons (dVar 1) dNil)) dNil)))))
def r_law_1b_3 : DS_ := dSeq d_law_1b_3 r_law_1b_4
def d_law_1b_2 : DS_ := (dSet 7 (dLst (dCons (dVar 6) (dCons (dOp oMulA (dTup (dCons (dC (.it 0)) dNil)) (dCB oLen (dCons (dVar 3) dNil))) (dCons (dCB oTuple (dCons (dCall sp__law_debts (dCons (dVar 3) dNil)) dNil)) (dCons (dCB oList (dCons (dVar 6) dNil)) (dCons (dOp oAdd (dVar 6) (dTup (dCons (dC (.it 0)) dNil))) (dCons (dTup dNil) (dCons (dC .non) (dCons (dTup (dCons (dVar 6) dNil)) dNil))))))))))
def r_law_1b_2 : DS_ := dSeq d_law_1b_2 r_law_1b_3
def d_law_1b_1 : DS_ := (dSet 6 (dCall sp__law_least (dCons (dVar 3) dNil)))
def r_law_1b_1 : DS_ := dSeq d_law_1b_1 r_law_1b_2
def d_law_1b_0 : DS_ := (dSet 3 (dCall sp__law_book (dCons (dVar 1) (dCons (dC (.it 6)) (dCons (dC (.it 6)) (dCons (dOp oIx (dLst (dCons (dC (.it 9)) (dCons (dOp oPow (dC (.it 10)) (dC (.it 9))) dNil))) (dOp oMod (dVar 2) (dC (.it 2)))) dNil))))))
def r_law_1b_0 : DS_ := dSeq d_law_1b_0 r_law_1b_1
def d_law_5 : DS_ := (dRet (dOp oEq (dFrz (dLc (dSeqI (dVar 12)) (dgName 8) dYes (dCall sp_settlement_error (dCons (dVar 3) (dCons (dVar 8) dNil))) [8])) (dVar 5)))
def r_law_5 : DS_ := d_law_5
def d_law_4 : DS_ := (dSet 5 (dLst (dCons (dC .non) (dCons (dTup (dCons (dC (.it 0)) (dCons (dC (.st "less")) dNil))) (dCons (dTup (dCons (dC (.it 0)) (dCons (dC (.st "more")) dNil))) (dCons (dTup (dCons (dC .non) (dCons (dC (.st "payments")) dNil))) (dCons (dTup (dCons (dC .non) (dCons (dC (.st "payments")) dNil))) (dCons (dC .non) dNil))))))))
def r_law_4 : DS_ := dSeq d_law_4 r_law_5
def d_law_3 : DS_ := (dSet 12 (dLst (dCons (dTup (dCons (dC (.it 2)) (dCons (dC (.it 2)) dNil))) (dCons (dTup (dCons (dC (.it 1)) (dCons (dC (.it 2)) dNil))) (dCons (dTup (dCons (dC (.it 3)) (dCons (dC (.it 2)) dNil))) (dCons (dTup (dCons (dC (.it 4)) (dCons (dC (.it 4)) dNil))) (dCons (dTup (dCons (dC (.bl true)) (dCons (dC (.it 1)) dNil))) (dCons (dTup (dCons (dC (.it 3)) (dCons (dC (.it 3)) dNil))) dNil))))))))
def r_law_3 : DS_ := dSeq d_law_3 r_law_4
def d_law_2 : DS_ := (dSet 3 (dTup (dCons (dTup (dCons (dC (.it 0)) (dCons (dTup (dCons (dTup (dCons (dC (.it 1)) (dCons (dC (.it 5)) dNil))) dNil)) dNil))) (dCons (dTup (dCons (dC (.it 0)) (dCons (dTup (dCons (dTup (dCons (dC (.it 0)) (dCons (dC (.it 3)) dNil))) dNil)) dNil))) dNil))))
def r_law_2 : DS_ := dSeq d_law_2 r_law_3
def d_law_1 : DS_ := (dFor (dRng1 (dCons (dC (.it 6)) dNil)) (dgName 2) r_law_1b_0)
def r_law_1 : DS_ := dSeq d_law_1 r_law_2
def d_law_0 : DS_ := (dFor (dRng1 (dCons (dC (.it 4)) dNil)) (dgName 2) r_law_0b_0)
def r_law_0 : DS_ := dSeq d_law_0 r_law_1
def d_law : DS_ := r_law_0
theorem w_law {f : Addr} {k : Nat} (G : Gs mg) (hsys : ∃ o, base.get? sysModules = some o) (C__law_bent : Cal P w K mg base k "_law_bent" ["_law_drum_here", "_law_payments"] sp__law_bent) (C__law_book : Cal P w K mg base k "_law_book" ["_law_drum_here", "_law_most", "_law_slips", "_law_top"] sp__law_book) (C__law_debts : Cal P w K mg base k "_law_debts" ["_law_book_here"] sp__law_debts) (C__law_error : Cal P w K mg base k "_law_error" ["_law_book_here", "_law_value"] sp__law_error) (C__law_every : Cal P w K mg base k "_law_every" ["_law_book_here"] sp__law_every) (C__law_least : Cal P w K mg base k "_law_least" ["_law_book_here"] sp__law_least) (C__law_odd : Cal P w K mg base k "_law_odd" ["_law_drum_here"] sp__law_odd) (C__law_some : Cal P w K mg base k "_law_some" ["_law_drum_here", "_law_book_here"] sp__law_some) (C_is_settlement : Cal P w K mg base k "is_settlement" ["book", "value"] sp_is_settlement) (C_settlement_error : Cal P w K mg base k "settlement_error" ["book", "value"] sp_settlement_error) (cdv : Value) (A : Around) (outer : List Env) (s : Shared) (H : Hp) (E : XK) (hr : Room k (A.deeper (envOfC "law" (defScope s_law) s.heap.objs.size f cdv))) (hgd : A.guards = some []) :
    DSs (cxD P w K mg base N_law "law" (defScope s_law) f cdv A outer s H E) E ((defBody s_law).drop 1) d_law := by
  have h : DSs (cxD P w K mg base N_law "law" (defScope s_law) f cdv A outer s H E) E ((defBody s_law).drop 1) _ := (ds_cons (ds_for (passes_of rfl) rfl (di_range1 rfl G.g_range (da_cons de_int da_nil)) (dg_name 2 sc_law.nd) (ds_cons (ds_set 3 (de_call C__law_book hr hgd passD rfl (da_cons (de_var 1) (da_cons de_int (da_cons de_int (da_cons de_int da_nil))))) sc_law.nd) (ds_one (ds_for (passes_of rfl) rfl (di_seq (de_call C__law_every hr hgd passD rfl (da_cons (de_var 3) da_nil))) (dg_name 4 sc_law.nd) (ds_cons (ds_set 5 (de_call C__law_error hr hgd passD rfl (da_cons (de_var 3) (da_cons (de_var 4) da_nil))) sc_law.nd) (ds_one (ds_if (db_ne hr (de_repr hr hgd hsys rfl G.g_repr (da_cons (de_lst (da_cons (de_call C_settlement_error hr hgd passD rfl (da_cons (de_var 3) (da_cons (de_var 4) da_nil))) (da_cons (de_call C_is_settlement hr hgd passD rfl (da_cons (de_var 3) (da_cons (de_var 4) da_nil))) da_nil))) da_nil)) (de_repr hr hgd hsys rfl G.g_repr (da_cons (de_lst (da_cons (de_var 5) (da_cons (de_isN (de_var 5)) da_nil))) da_nil))) (ds_one (ds_ret de_bl)) ds_nil))))))) (ds_cons (ds_for (passes_of rfl) rfl (di_range1 rfl G.g_range (da_cons de_int da_nil)) (dg_name 2 sc_law.nd) (ds_cons (ds_set 3 (de_call C__law_book hr hgd passD rfl (da_cons (de_var 1) (da_cons de_int (da_cons de_int (da_cons (de_ix (de_lst (da_cons de_int (da_cons (de_pow de_int de_int) da_nil))) (de_mod (de_var 2) de_int)) da_nil))))) sc_law.nd) (ds_cons (ds_set 6 (de_call C__law_least hr hgd passD rfl (da_cons (de_var 3) da_nil)) sc_law.nd) (ds_cons (ds_set 7 (de_lst (da_cons (de_var 6) (da_cons (de_mulA (de_tup (da_cons de_int da_nil)) (de_len rfl G.g_len (da_cons (de_var 3) da_nil))) (da_cons (de_tuple rfl G.g_tuple (da_cons (de_call C__law_debts hr hgd passD rfl (da_cons (de_var 3) da_nil)) da_nil)) (da_cons (de_list rfl G.g_list (da_cons (de_var 6) da_nil)) (da_cons (de_add (de_var 6) (de_tup (da_cons de_int da_nil))) (da_cons (de_tup da_nil) (da_cons de_non (da_cons (de_tup (da_cons (de_var 6) da_nil)) da_nil))))))))) sc_law.nd) (ds_cons (ds_set 7 (de_add (de_add (de_var 7) (DN.toDE (dn_lc rfl sc_law.nd (di_range1 rfl G.g_range (da_cons de_int da_nil)) (own := [("_law_k", 13)]) (blkOk_by (by show blkC N_law (defScope s_law) _ _ = true; decide +kernel)) (vsg := [13]) (by decide) (fun s H C cl fp => (dg_name 13 sc_law.nd)) (fun s H C cl fp => dts_nil) (fun s H C cl fp => (de_call C__law_bent hr hgd passL rfl (da_cons (de_var 1) (da_cons (de_var 6) da_nil))))))) (de_lst (da_cons (de_call C__law_some hr hgd passD rfl (da_cons (de_var 1) (da_cons (de_var 3) da_nil))) (da_cons (de_call C__law_odd hr hgd passD rfl (da_cons (de_var 1) da_nil)) da_nil)))) sc_law.nd) (ds_one (ds_for (passes_of rfl) rfl (di_seq (de_var 7)) (dg_name 8 sc_law.nd) (ds_cons (ds_par (i := 9) (j := 5) rfl sc_law.nd (da_cons (de_repr hr hgd hsys rfl G.g_repr (da_cons (de_lst (da_cons (de_var 3) (da_cons (de_var 8) da_nil))) da_nil)) (da_cons (de_call C__law_error hr hgd passD rfl (da_cons (de_var 3) (da_cons (de_var 8) da_nil))) da_nil)) rfl) (ds_one (ds_for (passes_of rfl) rfl (di_range1 rfl G.g_range (da_cons de_int da_nil)) (dg_name 10 sc_law.nd) (ds_cons (ds_set 11 (de_lst (da_cons (de_call C_settlement_error hr hgd passD rfl (da_cons (de_var 3) (da_cons (de_var 8) da_nil))) (da_cons (de_call C_is_settlement hr hgd passD rfl (da_cons (de_var 3) (da_cons (de_var 8) da_nil))) da_nil))) sc_law.nd) (ds_one (ds_if (DW.toDB (dw_or (db_ne hr (de_repr hr hgd hsys rfl G.g_repr (da_cons (de_var 11) da_nil)) (de_repr hr hgd hsys rfl G.g_repr (da_cons (de_lst (da_cons (de_var 5) (da_cons (de_isN (de_var 5)) da_nil))) da_nil))) (dw_or1 (db_ne hr (de_repr hr hgd hsys rfl G.g_repr (da_cons (de_lst (da_cons (de_var 3) (da_cons (de_var 8) da_nil))) da_nil)) (de_var 9))))) (ds_one (ds_ret de_bl)) ds_nil))))))))))))) (ds_cons (ds_set 3 (de_tup (da_cons (de_tup (da_cons de_int (da_cons (de_tup (da_cons (de_tup (da_cons de_int (da_cons de_int da_nil))) da_nil)) da_nil))) (da_cons (de_tup (da_cons de_int (da_cons (de_tup (da_cons (de_tup (da_cons de_int (da_cons de_int da_nil))) da_nil)) da_nil))) da_nil))) sc_law.nd) (ds_cons (ds_set 12 (de_lst (da_cons (de_tup (da_cons de_int (da_cons de_int da_nil))) (da_cons (de_tup (da_cons de_int (da_cons de_int da_nil))) (da_cons (de_tup (da_cons de_int (da_cons de_int da_nil))) (da_cons (de_tup (da_cons de_int (da_cons de_int da_nil))) (da_cons (de_tup (da_cons de_bl (da_cons de_int da_nil))) (da_cons (de_tup (da_cons de_int (da_cons de_int da_nil))) da_nil))))))) sc_law.nd) (ds_cons (ds_set 5 (de_lst (da_cons de_non (da_cons (de_tup (da_cons de_int (da_cons de_str da_nil))) (da_cons (de_tup (da_cons de_int (da_cons de_str da_nil))) (da_cons (de_tup (da_cons de_non (da_cons de_str da_nil))) (da_cons (de_tup (da_cons de_non (da_cons de_str da_nil))) (da_cons de_non da_nil))))))) sc_law.nd) (ds_one (ds_ret (de_eq hr (DN.toDE (dn_lc rfl sc_law.nd (di_seq (de_var 12)) (own := [("_law_value", 8)]) (blkOk_by (by show blkC N_law (defScope s_law) _ _ = true; decide +kernel)) (vsg := [8]) (by decide) (fun s H C cl fp => (dg_name 8 sc_law.nd)) (fun s H C cl fp => dts_nil) (fun s H C cl fp => (de_call C_settlement_error hr hgd passL rfl (da_cons (de_var 3) (da_cons (de_var 8) da_nil)))))) (de_var 5)))))))))
  exact h
end
end Dl

set_option Elab.async false
set_option linter.all false
set_option maxRecDepth 100000
set_option maxHeartbeats 4000000
namespace Dl
open PySem PySem.Spec PyProof.Rows L2
theorem law_is_integer : ∀ ds Q E, sp_is_integer ds Q E → d_is_integer { nx := fun _ => Q .non, rt := Q, ex := E } (dstart 3 ds) := by
  rintro ds Qd E ⟨value_1, low_2, high_3, Q, rfl, hr, q⟩
  have m : Me [some (.v (eA value_1)), some (.v (eI low_2)), some (.v (eI high_3))] [.v (eA value_1), .v (eI low_2), .v (eI high_3)] := (me_of [.v (eA value_1), .v (eI low_2), .v (eI high_3)]).sub (by repeat (first | exact True.intro | refine And.intro rfl ?_))
  have h : TS [some (.v (eA value_1)), some (.v (eI low_2)), some (.v (eI high_3))] d_is_integer { nx := fun _ => Qd .non, rt := Qd, ex := E } (((bindW (bindW (pureW value_1) fun x => pureW (isT "int" (eA x))) fun c => ifW c (bindW (bindW (bindW (pureW value_1) fun x => pureW (isT "bool" (eA x))) fun c => pureW (!c)) fun c => ifW c (bindW (pureW low_2) fun x => bindW (bindW (pureW value_1) (asW eI)) fun y => bindW (leI x y) fun c => ifW c (bindW (pureW high_3) fun z => leI y z) (pureW false)) (pureW false)) (pureW false)) Q E)) := by
    simp only [d_is_integer, d_is_integer_0, r_is_integer_0]
    exact (ts_ret hr (te_and (te_isi (te_var 0 (x := value_1) (e := eA) rfl)) (te_and (te_not (te_isi (te_var 0 (x := value_1) (e := eA) rfl))) (te_chain o_le o_le (te_var 1 (x := low_2) (e := eI) rfl) (te_as (te_var 0 (x := value_1) (e := eA) rfl)) (te_var 2 (x := high_3) (e := eI) rfl)))))
  exact h _ m (u_is_integer value_1 low_2 high_3 Q E q)
theorem law_debt_of : ∀ ds Q E, sp_debt_of ds Q E → d_debt_of { nx := fun _ => Q .non, rt := Q, ex := E } (dstart 3 ds) := by
  rintro ds Qd E ⟨pile_4, Q, rfl, hr, q⟩
  have m : Me [some (.v ((eT (eP eI eI)) pile_4)), none, none] [.v ((eT (eP eI eI)) pile_4), .no, .no] := (me_of [.v ((eT (eP eI eI)) pile_4), .no, .no]).sub (by repeat (first | exact True.intro | refine And.intro rfl ?_))
  have h : TS [some (.v ((eT (eP eI eI)) pile_4)), none, none] d_debt_of { nx := fun _ => Qd .non, rt := Qd, ex := E } (((bindW (bindW (pureW pile_4) fun xs => lcW (fun a_5 => (pureW true)) (fun a_5 => (pureW a_5.2)) xs) sumW) Q E)) := by
    simp only [d_debt_of, d_debt_of_0, r_debt_of_0]
    exact (ts_ret hr (te_cb1 o_sumAL (te_frz (tn_lc (ps1 := fun a_5 => [some (.v ((eT (eP eI eI)) pile_4)), some (.v (eI a_5.1)), some (.v (eI a_5.2))]) (ti_T (te_var 0 (x := pile_4) (e := (eT (eP eI eI))) rfl)) (fun a_5 => (tg_tup rfl (tgs_cons (tg_name 1) (tgs_cons (tg_name 2) tgs_nil)))) (fun a_5 => tb_yes) (fun a_5 => (te_var 2 (x := a_5.2) (e := eI) rfl))))))
  exact h _ m (u_debt_of pile_4 Q E q)
theorem law_debts : ∀ ds Q E, sp_debts ds Q E → d_debts { nx := fun _ => Q .non, rt := Q, ex := E } (dstart 3 ds) := by
  rintro ds Qd E ⟨book_6, Q, rfl, hr, q⟩
  have m : Me [some (.v ((eT (eP eI (eT (eP eI eI)))) book_6)), none, none] [.v ((eT (eP eI (eT (eP eI eI)))) book_6), .no, .no] := (me_of [.v ((eT (eP eI (eT (eP eI eI)))) book_6), .no, .no]).sub (by repeat (first | exact True.intro | refine And.intro rfl ?_))
  have h : TS [some (.v ((eT (eP eI (eT (eP eI eI)))) book_6)), none, none] d_debts { nx := fun _ => Qd .non, rt := Qd, ex := E } (((bindW (bindW (pureW book_6) fun xs => lcW (fun a_7 => (pureW true)) (fun a_7 => (bindW (pureW a_7.2) fun x0 => t_debt_of x0)) xs) sameW) Q E)) := by
    simp only [d_debts, d_debts_0, r_debts_0]
    exact (ts_ret hr (te_cb1 o_tupleL (te_frz (tn_lc (ps1 := fun a_7 => [some (.v ((eT (eP eI (eT (eP eI eI)))) book_6)), some (.v (eI a_7.1)), some (.v ((eT (eP eI eI)) a_7.2))]) (ti_T (te_var 0 (x := book_6) (e := (eT (eP eI (eT (eP eI eI))))) rfl)) (fun a_7 => (tg_tup rfl (tgs_cons (tg_name 1) (tgs_cons (tg_name 2) tgs_nil)))) (fun a_7 => tb_yes) (fun a_7 => (te_call1 c_debt_of (te_var 2 (x := a_7.2) (e := (eT (eP eI eI))) rfl)))))))
  exact h _ m (u_debts t_debt_of book_6 Q E q)
theorem law_is_payments : ∀ ds Q E, sp_is_payments ds Q E → d_is_payments { nx := fun _ => Q .non, rt := Q, ex := E } (dstart 4 ds) := by
  rintro ds Qd E ⟨book_8, value_9, Q, rfl, hr, q⟩
  have m : Me [some (.v ((eT (eP eI (eT (eP eI eI)))) book_8)), some (.v (eA value_9)), none, none] [.v ((eT (eP eI (eT (eP eI eI)))) book_8), .v (eA value_9), .no, .no] := (me_of [.v ((eT (eP eI (eT (eP eI eI)))) book_8), .v (eA value_9), .no, .no]).sub (by repeat (first | exact True.intro | refine And.intro rfl ?_))
  have h : TS [some (.v ((eT (eP eI (eT (eP eI eI)))) book_8)), some (.v (eA value_9)), none, none] d_is_payments { nx := fun _ => Qd .non, rt := Qd, ex := E } (bindP (bindW (bindW (bindW (pureW value_9) fun x => pureW (isT "tuple" (eA x))) fun c => pureW (!c)) fun c => ifW c (pureW true) (bindW (bindW (pureW value_9) lenA) fun x => bindW (bindW (pureW book_8) lenW) fun y => neI x y)) (fun b => ifP b (((pureW false) Q E)) (((bindW (bindW (bindW (bindW (pureW value_9) (asW (eT eA))) fun xs => bindW (bindW (pureW book_8) fun x0 => t_debts x0) fun ys => pureW (xs.zip ys)) fun xs => lcW (fun a_10 => (pureW true)) (fun a_10 => (bindW (pureW a_10.1) fun x0 => bindW (pureW (0 : Int)) fun x1 => bindW (pureW a_10.2) fun x2 => t_is_integer x0 x1 x2)) xs) allW) Q E))) E) := by
    simp only [d_is_payments, d_is_payments_1, r_is_payments_1, d_is_payments_0, r_is_payments_0]
    exact (ts_seq0 (ts_if (tb_or (tb_not (tb_tst (te_isi (te_var 1 (x := value_9) (e := eA) rfl)))) (tb_tst (te_op o_neI (te_cb1 o_lenA (te_var 1 (x := value_9) (e := eA) rfl)) (te_cb1 o_lenT (te_var 0 (x := book_8) (e := (eT (eP eI (eT (eP eI eI))))) rfl))))) (ts_ret hr (te_bl false)) (ts_via (ts_ret hr (te_cb1 o_all (te_frz (tn_lc (ps1 := fun a_10 => [some (.v ((eT (eP eI (eT (eP eI eI)))) book_8)), some (.v (eA value_9)), some (.v (eA a_10.1)), some (.v (eI a_10.2))]) (ti_zip sq_T sq_T (te_as (te_var 1 (x := value_9) (e := eA) rfl)) (te_call1 c_debts (te_var 0 (x := book_8) (e := (eT (eP eI (eT (eP eI eI))))) rfl))) (fun a_10 => (tg_tup rfl (tgs_cons (tg_name 2) (tgs_cons (tg_name 3) tgs_nil)))) (fun a_10 => tb_yes) (fun a_10 => (te_call3 c_is_integer (te_var 2 (x := a_10.1) (e := eA) rfl) (te_int 0) (te_var 3 (x := a_10.2) (e := eI) rfl))))))))))
  exact h _ m (u_is_payments t_debts t_is_integer book_8 value_9 Q E q)
theorem law_parts_of : ∀ ds Q E, sp_parts_of ds Q E → d_parts_of { nx := fun _ => Q .non, rt := Q, ex := E } (dstart 6 ds) := by
  rintro ds Qd E ⟨pile_11, paid_12, Q, rfl, hr, q⟩
  have m : Me [some (.v ((eT (eP eI eI)) pile_11)), some (.v (eI paid_12)), none, none, none, none] [.v ((eT (eP eI eI)) pile_11), .v (eI paid_12), .no, .no, .no, .no] := (me_of [.v ((eT (eP eI eI)) pile_11), .v (eI paid_12), .no, .no, .no, .no]).sub (by repeat (first | exact True.intro | refine And.intro rfl ?_))
  have h : TS [some (.v ((eT (eP eI eI)) pile_11)), some (.v (eI paid_12)), none, none, none, none] d_parts_of { nx := fun _ => Qd .non, rt := Qd, ex := E } (bindP (bindW (pureW []) szW) (fun found_13 => bindP (pureW paid_12) (fun left_14 => bindP (pureW pile_11) (fun xs => forP (fun x_20 (s_19 : (List Int) × Int) N_21 B_22 => bindP (bindW (pureW x_20.2) fun x => bindW (pureW s_19.2) fun y => min2 x y) (fun z_26 => appP s_19.1 (bindP (bindW (pureW s_19.2) fun x => bindW (bindW (pureW (s_19.1 ++ [z_26])) fun x => bindW (bindW (pureW (1 : Int)) fun i => pureW (-i)) fun y => ixW x y) fun y => subI x y) (fun left_27 => N_21 ((s_19.1 ++ [z_26]), left_27)) E)) E) (fun (s_19 : (List Int) × Int) => ((bindW (pureW s_19.1) sameW) Q E)) xs (found_13, left_14)) E) E) E) := by
    simp only [d_parts_of, d_parts_of_2b_1, r_parts_of_2b_1, d_parts_of_2b_0, r_parts_of_2b_0, d_parts_of_3, r_parts_of_3, d_parts_of_2, r_parts_of_2, d_parts_of_1, r_parts_of_1, d_parts_of_0, r_parts_of_0]
    exact (ts_setO 2 (tn_lst (tl_nil : TL _ _ eI _)) (fun found_13 => (ts_set 3 (te_var 1 (x := paid_12) (e := eI) rfl) (fun left_14 => (ts_for (fun (s_19 : (List Int) × Int) => [some (.v ((eT (eP eI eI)) pile_11)), some (.v (eI paid_12)), some (.own ((s_19.1 : (List Int)).map eI)), some (.v (eI s_19.2)), none, none]) (found_13, left_14) (ps1 := fun x_20 s_19 => [some (.v ((eT (eP eI eI)) pile_11)), some (.v (eI paid_12)), some (.own ((s_19.1 : (List Int)).map eI)), some (.v (eI s_19.2)), some (.v (eI x_20.1)), some (.v (eI x_20.2))]) (ti_T (te_var 0 (x := pile_11) (e := (eT (eP eI eI))) rfl)) (by repeat (first | exact True.intro | refine And.intro rfl ?_)) (fun x_20 s_19 => (tg_tup rfl (tgs_cons (tg_name 4) (tgs_cons (tg_name 5) tgs_nil)))) (fun x_20 s_19 N_21 nx_24 hN_23 => (ts_app 2 (xs := s_19.1) rfl (te_cb2 o_min2 (te_var 5 (x := x_20.2) (e := eI) rfl) (te_var 3 (x := s_19.2) (e := eI) rfl)) (fun z_26 => (ts_last (ts_set 3 (te_op o_sub (te_var 3 (x := s_19.2) (e := eI) rfl) (te_lend 2 (xs := (s_19.1 ++ [z_26])) rfl lf_I (fun _ _ _ h => h) (te_op o_ixL (te_var 2 (x := (s_19.1 ++ [z_26])) (e := (eL eI)) rfl) (te_neg (te_int 1))))) (fun left_27 => (ts_fall hN_23 ((s_19.1 ++ [z_26]), left_27) (by repeat (first | exact True.intro | refine And.intro rfl ?_))))))))) (fun s_19 => (ts_frz1 2 (xs := s_19.1) rfl (ts_ret hr (te_cb1 o_tupleL (te_var 2 (x := s_19.1) (e := (eL eI)) rfl))))))))))
  exact h _ m (u_parts_of pile_11 paid_12 Q E q)
theorem law_slips_paid : ∀ ds Q E, sp_slips_paid ds Q E → d_slips_paid { nx := fun _ => Q .non, rt := Q, ex := E } (dstart 5 ds) := by
  rintro ds Qd E ⟨book_28, payments_29, Q, rfl, hr, q⟩
  have m : Me [some (.v ((eT (eP eI (eT (eP eI eI)))) book_28)), some (.v ((eT eI) payments_29)), none, none, none] [.v ((eT (eP eI (eT (eP eI eI)))) book_28), .v ((eT eI) payments_29), .no, .no, .no] := (me_of [.v ((eT (eP eI (eT (eP eI eI)))) book_28), .v ((eT eI) payments_29), .no, .no, .no]).sub (by repeat (first | exact True.intro | refine And.intro rfl ?_))
  have h : TS [some (.v ((eT (eP eI (eT (eP eI eI)))) book_28)), some (.v ((eT eI) payments_29)), none, none, none] d_slips_paid { nx := fun _ => Qd .non, rt := Qd, ex := E } (((bindW (bindW (bindW (pureW book_28) fun xs => bindW (pureW payments_29) fun ys => pureW (xs.zip ys)) fun xs => lcW (fun a_30 => (pureW true)) (fun a_30 => (bindW (pureW a_30.1.2) fun x0 => bindW (pureW a_30.2) fun x1 => t_parts_of x0 x1)) xs) sameW) Q E)) := by
    simp only [d_slips_paid, d_slips_paid_0, r_slips_paid_0]
    exact (ts_ret hr (te_cb1 o_tupleL (te_frz (tn_lc (ps1 := fun a_30 => [some (.v ((eT (eP eI (eT (eP eI eI)))) book_28)), some (.v ((eT eI) payments_29)), some (.v (eI a_30.1.1)), some (.v ((eT (eP eI eI)) a_30.1.2)), some (.v (eI a_30.2))]) (ti_zip sq_T sq_T (te_var 0 (x := book_28) (e := (eT (eP eI (eT (eP eI eI))))) rfl) (te_var 1 (x := payments_29) (e := (eT eI)) rfl)) (fun a_30 => (tg_tup rfl (tgs_cons (tg_tup rfl (tgs_cons (tg_name 2) (tgs_cons (tg_name 3) tgs_nil))) (tgs_cons (tg_name 4) tgs_nil)))) (fun a_30 => tb_yes) (fun a_30 => (te_call2 c_parts_of (te_var 3 (x := a_30.1.2) (e := (eT (eP eI eI))) rfl) (te_var 4 (x := a_30.2) (e := eI) rfl)))))))
  exact h _ m (u_slips_paid t_parts_of book_28 payments_29 Q E q)
theorem law_received : ∀ ds Q E, sp_received ds Q E → d_received { nx := fun _ => Q .non, rt := Q, ex := E } (dstart 10 ds) := by
  rintro ds Qd E ⟨book_31, payments_32, Q, rfl, hr, q⟩
  have m : Me [some (.v ((eT (eP eI (eT (eP eI eI)))) book_31)), some (.v ((eT eI) payments_32)), none, none, none, none, none, none, none, none] [.v ((eT (eP eI (eT (eP eI eI)))) book_31), .v ((eT eI) payments_32), .no, .no, .no, .no, .no, .no, .no, .no] := (me_of [.v ((eT (eP eI (eT (eP eI eI)))) book_31), .v ((eT eI) payments_32), .no, .no, .no, .no, .no, .no, .no, .no]).sub (by repeat (first | exact True.intro | refine And.intro rfl ?_))
  have h : TS [some (.v ((eT (eP eI (eT (eP eI eI)))) book_31)), some (.v ((eT eI) payments_32)), none, none, none, none, none, none, none, none] d_received { nx := fun _ => Qd .non, rt := Qd, ex := E } (bindP (bindW (pureW book_31) fun xs => lcW (fun a_34 => (pureW true)) (fun a_34 => (pureW (0 : Int))) xs) (fun found_33 => bindP (bindW (pureW book_31) fun xs => bindW (bindW (pureW book_31) fun x0 => bindW (pureW payments_32) fun x1 => t_slips_paid x0 x1) fun ys => pureW (xs.zip ys)) (fun xs => forP (fun x_53 (s_52 : (List Int)) N_54 B_55 => bindP (bindW (pureW x_53.1.2) fun xs => bindW (pureW x_53.2) fun ys => pureW (xs.zip ys)) (fun xs => forP (fun x_65 (s_64 : (List Int)) N_66 B_67 => bindP (bindW (bindW (pureW s_64) fun x => bindW (pureW x_65.1.1) fun y => ixW x y) fun x => bindW (pureW x_65.2) fun y => addI x y) (fun y_72 => bindP (pureW x_65.1.1) (fun j_73 => setixP s_64 j_73 y_72 (fun found_71 => N_66 found_71)) E) E) (fun (s_64 : (List Int)) => N_54 s_64) xs s_52) E) (fun (s_52 : (List Int)) => ((bindW (pureW s_52) sameW) Q E)) xs found_33) E) E) := by
    simp only [d_received, d_received_2, r_received_2, d_received_1, r_received_1, d_received_0, r_received_0]
    exact (ts_setO 2 (tn_lc (ps1 := fun a_34 => [some (.v ((eT (eP eI (eT (eP eI eI)))) book_31)), some (.v ((eT eI) payments_32)), none, none, none, none, none, none, none, some (.v ((eP eI (eT (eP eI eI))) a_34))]) (ti_T (te_var 0 (x := book_31) (e := (eT (eP eI (eT (eP eI eI))))) rfl)) (fun a_34 => (tg_name 9)) (fun a_34 => tb_yes) (fun a_34 => (te_int 0))) (fun found_33 => (ts_for (fun (s_52 : (List Int)) => [some (.v ((eT (eP eI (eT (eP eI eI)))) book_31)), some (.v ((eT eI) payments_32)), some (.own ((s_52 : (List Int)).map eI)), none, none, none, none, none, none, none]) found_33 (ps1 := fun x_53 s_52 => [some (.v ((eT (eP eI (eT (eP eI eI)))) book_31)), some (.v ((eT eI) payments_32)), some (.own ((s_52 : (List Int)).map eI)), some (.v (eI x_53.1.1)), some (.v ((eT (eP eI eI)) x_53.1.2)), some (.v ((eT eI) x_53.2)), none, none, none, none]) (ti_zip sq_T sq_T (te_var 0 (x := book_31) (e := (eT (eP eI (eT (eP eI eI))))) rfl) (te_call2 c_slips_paid (te_var 0 (x := book_31) (e := (eT (eP eI (eT (eP eI eI))))) rfl) (te_var 1 (x := payments_32) (e := (eT eI)) rfl))) (by repeat (first | exact True.intro | refine And.intro rfl ?_)) (fun x_53 s_52 => (tg_tup rfl (tgs_cons (tg_tup rfl (tgs_cons (tg_name 3) (tgs_cons (tg_name 4) tgs_nil))) (tgs_cons (tg_name 5) tgs_nil)))) (fun x_53 s_52 N_54 nx_57 hN_56 => (ts_last (ts_for (fun (s_64 : (List Int)) => [some (.v ((eT (eP eI (eT (eP eI eI)))) book_31)), some (.v ((eT eI) payments_32)), some (.own ((s_64 : (List Int)).map eI)), some (.v (eI x_53.1.1)), some (.v ((eT (eP eI eI)) x_53.1.2)), some (.v ((eT eI) x_53.2)), none, none, none, none]) s_52 (ps1 := fun x_65 s_64 => [some (.v ((eT (eP eI (eT (eP eI eI)))) book_31)), some (.v ((eT eI) payments_32)), some (.own ((s_64 : (List Int)).map eI)), some (.v (eI x_53.1.1)), some (.v ((eT (eP eI eI)) x_53.1.2)), some (.v ((eT eI) x_53.2)), some (.v (eI x_65.1.1)), some (.v (eI x_65.1.2)), some (.v (eI x_65.2)), none]) (ti_zip sq_T sq_T (te_var 4 (x := x_53.1.2) (e := (eT (eP eI eI))) rfl) (te_var 5 (x := x_53.2) (e := (eT eI)) rfl)) (by repeat (first | exact True.intro | refine And.intro rfl ?_)) (fun x_65 s_64 => (tg_tup rfl (tgs_cons (tg_tup rfl (tgs_cons (tg_name 6) (tgs_cons (tg_name 7) tgs_nil))) (tgs_cons (tg_name 8) tgs_nil)))) (fun x_65 s_64 N_66 nx_69 hN_68 => (ts_last (ts_setix 2 (xs := s_64) rfl (te_op o_add (te_lend 2 (xs := s_64) rfl lf_I (fun _ _ _ h => h) (te_op o_ixL (te_var 2 (x := s_64) (e := (eL eI)) rfl) (te_var 6 (x := x_65.1.1) (e := eI) rfl))) (te_var 8 (x := x_65.2) (e := eI) rfl)) (te_var 6 (x := x_65.1.1) (e := eI) rfl) (fun found_71 => (ts_fall hN_68 found_71 (by repeat (first | exact True.intro | refine And.intro rfl ?_))))))) (fun s_64 => (ts_fall hN_56 s_64 (by repeat (first | exact True.intro | refine And.intro rfl ?_))))))) (fun s_52 => (ts_frz1 2 (xs := s_52) rfl (ts_ret hr (te_cb1 o_tupleL (te_var 2 (x := s_52) (e := (eL eI)) rfl))))))))
  exact h _ m (u_received t_slips_paid book_31 payments_32 Q E q)
theorem law_settlement_error : ∀ ds Q E, sp_settlement_error ds Q E → d_settlement_error { nx := fun _ => Q .non, rt := Q, ex := E } (dstart 7 ds) := by
  rintro ds Qd E ⟨book_74, value_75, Q, rfl, hr, q⟩
  have m : Me [some (.v ((eT (eP eI (eT (eP eI eI)))) book_74)), some (.v (eA value_75)), none, none, none, none, none] [.v ((eT (eP eI (eT (eP eI eI)))) book_74), .v (eA value_75), .no, .no, .no, .no, .no] := (me_of [.v ((eT (eP eI (eT (eP eI eI)))) book_74), .v (eA value_75), .no, .no, .no, .no, .no]).sub (by repeat (first | exact True.intro | refine And.intro rfl ?_))
  have h : TS [some (.v ((eT (eP eI (eT (eP eI eI)))) book_74)), some (.v (eA value_75)), none, none, none, none, none] d_settlement_error { nx := fun _ => Qd .non, rt := Qd, ex := E } (bindP (bindW (bindW (pureW book_74) fun x0 => bindW (pureW value_75) fun x1 => t_is_payments x0 x1) fun c => pureW (!c)) (fun b => ifP b (((bindW (bindW (pureW ()) fun x => bindW (pureW ("payments" : Str)) fun y => pureW (x, y)) fun x => pureW ((eP eN eS) x)) Q E)) (bindP (bindW (pureW book_74) fun x0 => t_debts x0) (fun limits_76 => bindP (bindW (pureW book_74) fun x0 => bindW (bindW (pureW value_75) (asW (eT eI))) fun x1 => t_received x0 x1) (fun more_77 => bindP (bindW (bindW (pureW value_75) (asW (eT eA))) fun xs => pureW (enI xs)) (fun xs => forP (fun x_82 (s_81 : Unit) N_83 B_84 => bindP (bindW (bindW (pureW limits_76) fun x => bindW (pureW x_82.1) fun y => ixW x y) fun x => bindW (bindW (bindW (bindW (pureW book_74) fun x => bindW (pureW x_82.1) fun y => ixW x y) fun p => pureW p.1) fun x => bindW (bindW (pureW more_77) fun x => bindW (pureW x_82.1) fun y => ixW x y) fun y => addI x y) fun y => min2 x y) (fun due_88 => bindP (bindW (pureW x_82.2) fun x => bindW (bindW (pureW due_88) fun x => pureW (eI x)) fun y => neA x y) (fun b => ifP b (((bindW (bindW (pureW x_82.1) fun x => bindW (bindW (bindW (bindW (pureW x_82.2) (asW eI)) fun x => bindW (pureW due_88) fun y => ltI x y) fun c => ifW c (pureW ("less" : Str)) (pureW ("more" : Str))) fun y => pureW (x, y)) fun x => pureW ((eP eI eS) x)) Q E)) (N_83 ())) E) E) (fun (s_81 : Unit) => ((bindW (pureW ()) fun x => pureW (eN x)) Q E)) xs ()) E) E) E)) E) := by
    simp only [d_settlement_error, d_settlement_error_2b_1, r_settlement_error_2b_1, d_settlement_error_2b_0, r_settlement_error_2b_0, d_settlement_error_3, r_settlement_error_3, d_settlement_error_2, r_settlement_error_2, d_settlement_error_1, r_settlement_error_1, d_settlement_error_0, r_settlement_error_0]
    exact (ts_seq0 (ts_if (tb_not (tb_tst (te_call2 c_is_payments (te_var 0 (x := book_74) (e := (eT (eP eI (eT (eP eI eI))))) rfl) (te_var 1 (x := value_75) (e := eA) rfl)))) (ts_ret hr (te_co (eP eN eS) (fun _ => rfl) (te_tup2 te_non (te_str "payments")))) (ts_via (ts_par 2 3 (te_call1 c_debts (te_var 0 (x := book_74) (e := (eT (eP eI (eT (eP eI eI))))) rfl)) (te_call2 c_received (te_var 0 (x := book_74) (e := (eT (eP eI (eT (eP eI eI))))) rfl) (te_as (te_var 1 (x := value_75) (e := eA) rfl))) (fun limits_76 more_77 => (ts_for (fun (s_81 : Unit) => [some (.v ((eT (eP eI (eT (eP eI eI)))) book_74)), some (.v (eA value_75)), some (.v ((eT eI) limits_76)), some (.v ((eT eI) more_77)), none, none, none]) () (ps1 := fun x_82 s_81 => [some (.v ((eT (eP eI (eT (eP eI eI)))) book_74)), some (.v (eA value_75)), some (.v ((eT eI) limits_76)), some (.v ((eT eI) more_77)), some (.v (eI x_82.1)), some (.v (eA x_82.2)), none]) (ti_enT (te_as (te_var 1 (x := value_75) (e := eA) rfl))) (by repeat (first | exact True.intro | refine And.intro rfl ?_)) (fun x_82 s_81 => (tg_tup rfl (tgs_cons (tg_name 4) (tgs_cons (tg_name 5) tgs_nil)))) (fun x_82 s_81 N_83 nx_86 hN_85 => (ts_set 6 (te_cb2 o_min2 (te_op o_ixT (te_var 2 (x := limits_76) (e := (eT eI)) rfl) (te_var 4 (x := x_82.1) (e := eI) rfl)) (te_op o_add (te_prj (e := (eP eI (eT (eP eI eI)))) (k := 0) (e' := eI) (fun p => p.1) (fun _ _ q => q) (te_op o_ixT (te_var 0 (x := book_74) (e := (eT (eP eI (eT (eP eI eI))))) rfl) (te_var 4 (x := x_82.1) (e := eI) rfl))) (te_op o_ixT (te_var 3 (x := more_77) (e := (eT eI)) rfl) (te_var 4 (x := x_82.1) (e := eI) rfl)))) (fun due_88 => (ts_last (ts_seq0 (ts_if (tb_tst (te_op o_neA (te_var 5 (x := x_82.2) (e := eA) rfl) (te_co eI (fun _ => rfl) (te_var 6 (x := due_88) (e := eI) rfl)))) (ts_ret hr (te_co (eP eI eS) (fun _ => rfl) (te_tup2 (te_var 4 (x := x_82.1) (e := eI) rfl) (te_if (tb_tst (te_op o_lt (te_as (te_var 5 (x := x_82.2) (e := eA) rfl)) (te_var 6 (x := due_88) (e := eI) rfl))) (te_str "less") (te_str "more"))))) (ts_via (ts_fall hN_85 () (by repeat (first | exact True.intro | refine And.intro rfl ?_)))))))))) (fun s_81 => (ts_ret hr (te_co eN (fun _ => rfl) te_non)))))))))
  exact h _ m (u_settlement_error t_is_payments t_debts t_received book_74 value_75 Q E q)
theorem law_is_settlement : ∀ ds Q E, sp_is_settlement ds Q E → d_is_settlement { nx := fun _ => Q .non, rt := Q, ex := E } (dstart 2 ds) := by
  rintro ds Qd E ⟨book_89, value_90, Q, rfl, hr, q⟩
  have m : Me [some (.v ((eT (eP eI (eT (eP eI eI)))) book_89)), some (.v (eA value_90))] [.v ((eT (eP eI (eT (eP eI eI)))) book_89), .v (eA value_90)] := (me_of [.v ((eT (eP eI (eT (eP eI eI)))) book_89), .v (eA value_90)]).sub (by repeat (first | exact True.intro | refine And.intro rfl ?_))
  have h : TS [some (.v ((eT (eP eI (eT (eP eI eI)))) book_89)), some (.v (eA value_90))] d_is_settlement { nx := fun _ => Qd .non, rt := Qd, ex := E } (((bindW (bindW (pureW book_89) fun x0 => bindW (pureW value_90) fun x1 => t_settlement_error x0 x1) fun x => pureW (isNon (eA x))) Q E)) := by
    simp only [d_is_settlement, d_is_settlement_0, r_is_settlement_0]
    exact (ts_ret hr (te_isN (te_call2 c_settlement_error (te_var 0 (x := book_89) (e := (eT (eP eI (eT (eP eI eI))))) rfl) (te_var 1 (x := value_90) (e := eA) rfl))))
  exact h _ m (u_is_settlement t_settlement_error book_89 value_90 Q E q)
theorem law__law_book : ∀ ds Q E, sp__law_book ds Q E → d__law_book { nx := fun _ => Q .non, rt := Q, ex := E } (dstart 11 ds) := by
  rintro ds Qd E ⟨drum_here_91, most_92, slips_93, top_94, Q, rfl, hr, q⟩
  have m : Me [some (.v (eDr drum_here_91)), some (.v (eI most_92)), some (.v (eI slips_93)), some (.v (eI top_94)), none, none, none, none, none, none, none] [.v (eDr drum_here_91), .v (eI most_92), .v (eI slips_93), .v (eI top_94), .no, .no, .no, .no, .no, .no, .no] := (me_of [.v (eDr drum_here_91), .v (eI most_92), .v (eI slips_93), .v (eI top_94), .no, .no, .no, .no, .no, .no, .no]).sub (by repeat (first | exact True.intro | refine And.intro rfl ?_))
  have h : TS [some (.v (eDr drum_here_91)), some (.v (eI most_92)), some (.v (eI slips_93)), some (.v (eI top_94)), none, none, none, none, none, none, none] d__law_book { nx := fun _ => Qd .non, rt := Qd, ex := E } (bindP (bindW (pureW (1 : Int)) fun x => bindW (bindW (pureW drum_here_91) fun x0 => bindW (pureW most_92) fun x1 => t__law_beat x0 x1) fun y => addI x y) (fun many_95 => bindP (bindW (pureW []) szW) (fun found_96 => bindP (bindW (pureW many_95) rng1W) (fun xs => forP (fun x_116 (s_115 : (List (Int × (List (Int × Int))))) N_117 B_118 => bindP (bindW (bindW (bindW (pureW (0 : Int)) fun x => bindW (bindW (pureW (0 : Int)) fun x => bindW (bindW (bindW (pureW drum_here_91) fun x0 => bindW (pureW (3 : Int)) fun x1 => t__law_beat x0 x1) fun x => bindW (bindW (bindW (pureW drum_here_91) fun x0 => bindW (bindW (pureW top_94) fun x => bindW (pureW (1 : Int)) fun y => addI x y) fun x1 => t__law_beat x0 x1) fun x => bindW (pureW []) fun xs => pureW (x :: xs)) fun xs => pureW (x :: xs)) fun xs => pureW (x :: xs)) fun xs => pureW (x :: xs)) szW) fun x => bindW (bindW (pureW drum_here_91) fun x0 => bindW (pureW (4 : Int)) fun x1 => t__law_beat x0 x1) fun y => ixW x y) (fun purse_122 => bindP (bindW (pureW []) szW) (fun pile_123 => bindP (bindW (bindW (bindW (pureW drum_here_91) fun x0 => bindW (bindW (pureW slips_93) fun x => bindW (pureW (1 : Int)) fun y => addI x y) fun x1 => t__law_beat x0 x1) fun x => bindW (bindW (bindW (pureW many_95) fun x => bindW (pureW (1 : Int)) fun y => gtI x y) intB) fun y => mulI x y) rng1W) (fun xs => forP (fun x_129 (s_128 : (List (Int × Int))) N_130 B_131 => bindP (bindW (bindW (bindW (pureW (0 : Int)) fun x => bindW (bindW (bindW (pureW drum_here_91) fun x0 => bindW (bindW (pureW many_95) fun x => bindW (pureW (1 : Int)) fun y => subI x y) fun x1 => t__law_beat x0 x1) fun x => bindW (pureW []) fun xs => pureW (x :: xs)) fun xs => pureW (x :: xs)) szW) fun x => bindW (bindW (pureW drum_here_91) fun x0 => bindW (pureW (2 : Int)) fun x1 => t__law_beat x0 x1) fun y => ixW x y) (fun step_135 => bindP (bindW (bindW (bindW (bindW (pureW x_116) fun x => bindW (pureW (1 : Int)) fun y => addI x y) fun x => bindW (pureW step_135) fun y => addI x y) fun x => bindW (pureW many_95) fun y => modI x y) fun x => bindW (bindW (pureW (1 : Int)) fun x => bindW (bindW (pureW drum_here_91) fun x0 => bindW (pureW top_94) fun x1 => t__law_beat x0 x1) fun y => addI x y) fun y => pureW (x, y)) (fun z_136 => appP s_128 (N_130 (s_128 ++ [z_136]))) E) E) (fun (s_128 : (List (Int × Int))) => bindP (bindW (pureW purse_122) fun x => bindW (bindW (pureW s_128) sameW) fun y => pureW (x, y)) (fun z_137 => appP s_115 (N_117 (s_115 ++ [z_137]))) E) xs pile_123) E) E) E) (fun (s_115 : (List (Int × (List (Int × Int))))) => ((bindW (pureW s_115) sameW) Q E)) xs found_96) E) E) E) := by
    simp only [d__law_book, d__law_book_1b_1b_1, r__law_book_1b_1b_1, d__law_book_1b_1b_0, r__law_book_1b_1b_0, d__law_book_1b_2, r__law_book_1b_2, d__law_book_1b_1, r__law_book_1b_1, d__law_book_1b_0, r__law_book_1b_0, d__law_book_2, r__law_book_2, d__law_book_1, r__law_book_1, d__law_book_0, r__law_book_0]
    exact (ts_parP 4 5 (te_op o_add (te_int 1) (te_call2 c__law_beat (te_var 0 (x := drum_here_91) (e := eDr) rfl) (te_var 1 (x := most_92) (e := eI) rfl))) (tn_lst (tl_nil : TL _ _ (eP eI (eT (eP eI eI))) _)) (fun many_95 found_96 => (ts_for (fun (s_115 : (List (Int × (List (Int × Int))))) => [some (.v (eDr drum_here_91)), some (.v (eI most_92)), some (.v (eI slips_93)), some (.v (eI top_94)), some (.v (eI many_95)), some (.own ((s_115 : (List (Int × (List (Int × Int))))).map (eP eI (eT (eP eI eI))))), none, none, none, none, none]) found_96 (ps1 := fun x_116 s_115 => [some (.v (eDr drum_here_91)), some (.v (eI most_92)), some (.v (eI slips_93)), some (.v (eI top_94)), some (.v (eI many_95)), some (.own ((s_115 : (List (Int × (List (Int × Int))))).map (eP eI (eT (eP eI eI))))), some (.v (eI x_116)), none, none, none, none]) (ti_rng1 (te_var 4 (x := many_95) (e := eI) rfl)) (by repeat (first | exact True.intro | refine And.intro rfl ?_)) (fun x_116 s_115 => (tg_name 6)) (fun x_116 s_115 N_117 nx_120 hN_119 => (ts_parP 7 8 (te_op o_ixL (te_lstL (tl_cons (te_int 0) (tl_cons (te_int 0) (tl_cons (te_call2 c__law_beat (te_var 0 (x := drum_here_91) (e := eDr) rfl) (te_int 3)) (tl_cons (te_call2 c__law_beat (te_var 0 (x := drum_here_91) (e := eDr) rfl) (te_op o_add (te_var 3 (x := top_94) (e := eI) rfl) (te_int 1))) tl_nil))))) (te_call2 c__law_beat (te_var 0 (x := drum_here_91) (e := eDr) rfl) (te_int 4))) (tn_lst (tl_nil : TL _ _ (eP eI eI) _)) (fun purse_122 pile_123 => (ts_for (fun (s_128 : (List (Int × Int))) => [some (.v (eDr drum_here_91)), some (.v (eI most_92)), some (.v (eI slips_93)), some (.v (eI top_94)), some (.v (eI many_95)), some (.own ((s_115 : (List (Int × (List (Int × Int))))).map (eP eI (eT (eP eI eI))))), some (.v (eI x_116)), some (.v (eI purse_122)), some (.own ((s_128 : (List (Int × Int))).map (eP eI eI))), none, none]) pile_123 (ps1 := fun x_129 s_128 => [some (.v (eDr drum_here_91)), some (.v (eI most_92)), some (.v (eI slips_93)), some (.v (eI top_94)), some (.v (eI many_95)), some (.own ((s_115 : (List (Int × (List (Int × Int))))).map (eP eI (eT (eP eI eI))))), some (.v (eI x_116)), some (.v (eI purse_122)), some (.own ((s_128 : (List (Int × Int))).map (eP eI eI))), some (.v (eI x_129)), none]) (ti_rng1 (te_op o_mul (te_call2 c__law_beat (te_var 0 (x := drum_here_91) (e := eDr) rfl) (te_op o_add (te_var 2 (x := slips_93) (e := eI) rfl) (te_int 1))) (te_cb1 o_intB (te_op o_gt (te_var 4 (x := many_95) (e := eI) rfl) (te_int 1))))) (by repeat (first | exact True.intro | refine And.intro rfl ?_)) (fun x_129 s_128 => (tg_name 9)) (fun x_129 s_128 N_130 nx_133 hN_132 => (ts_set 10 (te_op o_ixL (te_lstL (tl_cons (te_int 0) (tl_cons (te_call2 c__law_beat (te_var 0 (x := drum_here_91) (e := eDr) rfl) (te_op o_sub (te_var 4 (x := many_95) (e := eI) rfl) (te_int 1))) tl_nil))) (te_call2 c__law_beat (te_var 0 (x := drum_here_91) (e := eDr) rfl) (te_int 2))) (fun step_135 => (ts_last (ts_app 8 (xs := s_128) rfl (te_tup2 (te_op o_mod (te_op o_add (te_op o_add (te_var 6 (x := x_116) (e := eI) rfl) (te_int 1)) (te_var 10 (x := step_135) (e := eI) rfl)) (te_var 4 (x := many_95) (e := eI) rfl)) (te_op o_add (te_int 1) (te_call2 c__law_beat (te_var 0 (x := drum_here_91) (e := eDr) rfl) (te_var 3 (x := top_94) (e := eI) rfl)))) (fun z_136 => (ts_fall hN_132 (s_128 ++ [z_136]) (by repeat (first | exact True.intro | refine And.intro rfl ?_))))))))) (fun s_128 => (ts_last (ts_app 5 (xs := s_115) rfl (te_tup2 (te_var 7 (x := purse_122) (e := eI) rfl) (te_lend 8 (xs := s_128) rfl (lf_T (lf_P lf_I lf_I)) (fun _ _ _ h => h) (te_cb1 o_tupleL (te_var 8 (x := s_128) (e := (eL (eP eI eI))) rfl)))) (fun z_137 => (ts_fall hN_119 (s_115 ++ [z_137]) (by repeat (first | exact True.intro | refine And.intro rfl ?_))))))))))) (fun s_115 => (ts_frz1 5 (xs := s_115) rfl (ts_ret hr (te_cb1 o_tupleL (te_var 5 (x := s_115) (e := (eL (eP eI (eT (eP eI eI))))) rfl))))))))
  exact h _ m (u__law_book t__law_beat drum_here_91 most_92 slips_93 top_94 Q E q)
theorem law__law_debts : ∀ ds Q E, sp__law_debts ds Q E → d__law_debts { nx := fun _ => Q .non, rt := Q, ex := E } (dstart 5 ds) := by
  rintro ds Qd E ⟨book_here_138, Q, rfl, hr, q⟩
  have m : Me [some (.v ((eT (eP eI (eT (eP eI eI)))) book_here_138)), none, none, none, none] [.v ((eT (eP eI (eT (eP eI eI)))) book_here_138), .no, .no, .no, .no] := (me_of [.v ((eT (eP eI (eT (eP eI eI)))) book_here_138), .no, .no, .no, .no]).sub (by repeat (first | exact True.intro | refine And.intro rfl ?_))
  have h : TS [some (.v ((eT (eP eI (eT (eP eI eI)))) book_here_138)), none, none, none, none] d__law_debts { nx := fun _ => Qd .non, rt := Qd, ex := E } (((bindW (pureW book_here_138) fun xs => lcW (fun a_139 => (pureW true)) (fun a_139 => (bindW (bindW (pureW a_139.2) fun xs => lcW (fun a_140 => (pureW true)) (fun a_140 => (pureW a_140.2)) xs) sumW)) xs) Q E)) := by
    simp only [d__law_debts, d__law_debts_0, r__law_debts_0]
    exact (ts_ret hr (te_frz (tn_lc (ps1 := fun a_139 => [some (.v ((eT (eP eI (eT (eP eI eI)))) book_here_138)), some (.v (eI a_139.1)), some (.v ((eT (eP eI eI)) a_139.2)), none, none]) (ti_T (te_var 0 (x := book_here_138) (e := (eT (eP eI (eT (eP eI eI))))) rfl)) (fun a_139 => (tg_tup rfl (tgs_cons (tg_name 1) (tgs_cons (tg_name 2) tgs_nil)))) (fun a_139 => tb_yes) (fun a_139 => (te_cb1 o_sumAL (te_frz (tn_lc (ps1 := fun a_140 => [some (.v ((eT (eP eI (eT (eP eI eI)))) book_here_138)), some (.v (eI a_139.1)), some (.v ((eT (eP eI eI)) a_139.2)), some (.v (eI a_140.1)), some (.v (eI a_140.2))]) (ti_T (te_var 2 (x := a_139.2) (e := (eT (eP eI eI))) rfl)) (fun a_140 => (tg_tup rfl (tgs_cons (tg_name 3) (tgs_cons (tg_name 4) tgs_nil)))) (fun a_140 => tb_yes) (fun a_140 => (te_var 4 (x := a_140.2) (e := eI) rfl)))))))))
  exact h _ m (u__law_debts book_here_138 Q E q)
theorem law__law_parts : ∀ ds Q E, sp__law_parts ds Q E → d__law_parts { nx := fun _ => Q .non, rt := Q, ex := E } (dstart 6 ds) := by
  rintro ds Qd E ⟨pile_141, paid_142, Q, rfl, hr, q⟩
  have m : Me [some (.v ((eT (eP eI eI)) pile_141)), some (.v (eI paid_142)), none, none, none, none] [.v ((eT (eP eI eI)) pile_141), .v (eI paid_142), .no, .no, .no, .no] := (me_of [.v ((eT (eP eI eI)) pile_141), .v (eI paid_142), .no, .no, .no, .no]).sub (by repeat (first | exact True.intro | refine And.intro rfl ?_))
  have h : TS [some (.v ((eT (eP eI eI)) pile_141)), some (.v (eI paid_142)), none, none, none, none] d__law_parts { nx := fun _ => Qd .non, rt := Qd, ex := E } (bindP (bindW (pureW []) szW) (fun found_143 => bindP (pureW paid_142) (fun left_144 => bindP (pureW pile_141) (fun xs => forP (fun x_150 (s_149 : (List Int) × Int) N_151 B_152 => bindP (bindW (pureW x_150.2) fun x => bindW (pureW s_149.2) fun y => min2 x y) (fun z_156 => appP s_149.1 (bindP (bindW (pureW s_149.2) fun x => bindW (bindW (pureW (s_149.1 ++ [z_156])) fun x => bindW (bindW (pureW (1 : Int)) fun i => pureW (-i)) fun y => ixW x y) fun y => subI x y) (fun left_157 => N_151 ((s_149.1 ++ [z_156]), left_157)) E)) E) (fun (s_149 : (List Int) × Int) => ((pureW s_149.1) Q E)) xs (found_143, left_144)) E) E) E) := by
    simp only [d__law_parts, d__law_parts_1b_1, r__law_parts_1b_1, d__law_parts_1b_0, r__law_parts_1b_0, d__law_parts_2, r__law_parts_2, d__law_parts_1, r__law_parts_1, d__law_parts_0, r__law_parts_0]
    exact (ts_parO 2 3 (tn_lst (tl_nil : TL _ _ eI _)) (te_var 1 (x := paid_142) (e := eI) rfl) (fun found_143 left_144 => (ts_for (fun (s_149 : (List Int) × Int) => [some (.v ((eT (eP eI eI)) pile_141)), some (.v (eI paid_142)), some (.own ((s_149.1 : (List Int)).map eI)), some (.v (eI s_149.2)), none, none]) (found_143, left_144) (ps1 := fun x_150 s_149 => [some (.v ((eT (eP eI eI)) pile_141)), some (.v (eI paid_142)), some (.own ((s_149.1 : (List Int)).map eI)), some (.v (eI s_149.2)), some (.v (eI x_150.1)), some (.v (eI x_150.2))]) (ti_T (te_var 0 (x := pile_141) (e := (eT (eP eI eI))) rfl)) (by repeat (first | exact True.intro | refine And.intro rfl ?_)) (fun x_150 s_149 => (tg_tup rfl (tgs_cons (tg_name 4) (tgs_cons (tg_name 5) tgs_nil)))) (fun x_150 s_149 N_151 nx_154 hN_153 => (ts_app 2 (xs := s_149.1) rfl (te_cb2 o_min2 (te_var 5 (x := x_150.2) (e := eI) rfl) (te_var 3 (x := s_149.2) (e := eI) rfl)) (fun z_156 => (ts_last (ts_set 3 (te_op o_sub (te_var 3 (x := s_149.2) (e := eI) rfl) (te_lend 2 (xs := (s_149.1 ++ [z_156])) rfl lf_I (fun _ _ _ h => h) (te_op o_ixL (te_var 2 (x := (s_149.1 ++ [z_156])) (e := (eL eI)) rfl) (te_neg (te_int 1))))) (fun left_157 => (ts_fall hN_153 ((s_149.1 ++ [z_156]), left_157) (by repeat (first | exact True.intro | refine And.intro rfl ?_))))))))) (fun s_149 => (ts_frz1 2 (xs := s_149.1) rfl (ts_ret hr (te_var 2 (x := s_149.1) (e := (eL eI)) rfl)))))))
  exact h _ m (u__law_parts pile_141 paid_142 Q E q)
theorem law__law_got : ∀ ds Q E, sp__law_got ds Q E → d__law_got { nx := fun _ => Q .non, rt := Q, ex := E } (dstart 9 ds) := by
  rintro ds Qd E ⟨book_here_158, payments_159, Q, rfl, hr, q⟩
  have m : Me [some (.v ((eT (eP eI (eT (eP eI eI)))) book_here_158)), some (.v ((eT eI) payments_159)), none, none, none, none, none, none, none] [.v ((eT (eP eI (eT (eP eI eI)))) book_here_158), .v ((eT eI) payments_159), .no, .no, .no, .no, .no, .no, .no] := (me_of [.v ((eT (eP eI (eT (eP eI eI)))) book_here_158), .v ((eT eI) payments_159), .no, .no, .no, .no, .no, .no, .no]).sub (by repeat (first | exact True.intro | refine And.intro rfl ?_))
  have h : TS [some (.v ((eT (eP eI (eT (eP eI eI)))) book_here_158)), some (.v ((eT eI) payments_159)), none, none, none, none, none, none, none] d__law_got { nx := fun _ => Qd .non, rt := Qd, ex := E } (bindP (bindW (bindW (bindW (pureW (0 : Int)) fun x => bindW (pureW []) fun xs => pureW (x :: xs)) szW) fun x => bindW (bindW (pureW book_here_158) lenW) fun y => repL x y) (fun found_160 => bindP (bindW (pureW book_here_158) fun xs => bindW (pureW payments_159) fun ys => pureW (xs.zip ys)) (fun xs => forP (fun x_179 (s_178 : (List Int)) N_180 B_181 => bindP (bindW (pureW x_179.1.2) fun xs => bindW (bindW (pureW x_179.1.2) fun x0 => bindW (pureW x_179.2) fun x1 => t__law_parts x0 x1) fun ys => pureW (xs.zip ys)) (fun xs => forP (fun x_191 (s_190 : (List Int)) N_192 B_193 => bindP (bindW (bindW (pureW s_190) fun x => bindW (pureW x_191.1.1) fun y => ixW x y) fun x => bindW (pureW x_191.2) fun y => addI x y) (fun y_198 => bindP (pureW x_191.1.1) (fun j_199 => setixP s_190 j_199 y_198 (fun found_197 => N_192 found_197)) E) E) (fun (s_190 : (List Int)) => N_180 s_190) xs s_178) E) (fun (s_178 : (List Int)) => ((pureW s_178) Q E)) xs found_160) E) E) := by
    simp only [d__law_got, d__law_got_2, r__law_got_2, d__law_got_1, r__law_got_1, d__law_got_0, r__law_got_0]
    exact (ts_setO 2 (tn_rep (te_lstL (tl_cons (te_int 0) tl_nil)) (te_cb1 o_lenT (te_var 0 (x := book_here_158) (e := (eT (eP eI (eT (eP eI eI))))) rfl))) (fun found_160 => (ts_for (fun (s_178 : (List Int)) => [some (.v ((eT (eP eI (eT (eP eI eI)))) book_here_158)), some (.v ((eT eI) payments_159)), some (.own ((s_178 : (List Int)).map eI)), none, none, none, none, none, none]) found_160 (ps1 := fun x_179 s_178 => [some (.v ((eT (eP eI (eT (eP eI eI)))) book_here_158)), some (.v ((eT eI) payments_159)), some (.own ((s_178 : (List Int)).map eI)), some (.v (eI x_179.1.1)), some (.v ((eT (eP eI eI)) x_179.1.2)), some (.v (eI x_179.2)), none, none, none]) (ti_zip sq_T sq_T (te_var 0 (x := book_here_158) (e := (eT (eP eI (eT (eP eI eI))))) rfl) (te_var 1 (x := payments_159) (e := (eT eI)) rfl)) (by repeat (first | exact True.intro | refine And.intro rfl ?_)) (fun x_179 s_178 => (tg_tup rfl (tgs_cons (tg_tup rfl (tgs_cons (tg_name 3) (tgs_cons (tg_name 4) tgs_nil))) (tgs_cons (tg_name 5) tgs_nil)))) (fun x_179 s_178 N_180 nx_183 hN_182 => (ts_last (ts_for (fun (s_190 : (List Int)) => [some (.v ((eT (eP eI (eT (eP eI eI)))) book_here_158)), some (.v ((eT eI) payments_159)), some (.own ((s_190 : (List Int)).map eI)), some (.v (eI x_179.1.1)), some (.v ((eT (eP eI eI)) x_179.1.2)), some (.v (eI x_179.2)), none, none, none]) s_178 (ps1 := fun x_191 s_190 => [some (.v ((eT (eP eI (eT (eP eI eI)))) book_here_158)), some (.v ((eT eI) payments_159)), some (.own ((s_190 : (List Int)).map eI)), some (.v (eI x_179.1.1)), some (.v ((eT (eP eI eI)) x_179.1.2)), some (.v (eI x_179.2)), some (.v (eI x_191.1.1)), some (.v (eI x_191.1.2)), some (.v (eI x_191.2))]) (ti_zip sq_T sq_L (te_var 4 (x := x_179.1.2) (e := (eT (eP eI eI))) rfl) (te_call2 c__law_parts (te_var 4 (x := x_179.1.2) (e := (eT (eP eI eI))) rfl) (te_var 5 (x := x_179.2) (e := eI) rfl))) (by repeat (first | exact True.intro | refine And.intro rfl ?_)) (fun x_191 s_190 => (tg_tup rfl (tgs_cons (tg_tup rfl (tgs_cons (tg_name 6) (tgs_cons (tg_name 7) tgs_nil))) (tgs_cons (tg_name 8) tgs_nil)))) (fun x_191 s_190 N_192 nx_195 hN_194 => (ts_last (ts_setix 2 (xs := s_190) rfl (te_op o_add (te_lend 2 (xs := s_190) rfl lf_I (fun _ _ _ h => h) (te_op o_ixL (te_var 2 (x := s_190) (e := (eL eI)) rfl) (te_var 6 (x := x_191.1.1) (e := eI) rfl))) (te_var 8 (x := x_191.2) (e := eI) rfl)) (te_var 6 (x := x_191.1.1) (e := eI) rfl) (fun found_197 => (ts_fall hN_194 found_197 (by repeat (first | exact True.intro | refine And.intro rfl ?_))))))) (fun s_190 => (ts_fall hN_182 s_190 (by repeat (first | exact True.intro | refine And.intro rfl ?_))))))) (fun s_178 => (ts_frz1 2 (xs := s_178) rfl (ts_ret hr (te_var 2 (x := s_178) (e := (eL eI)) rfl)))))))
  exact h _ m (u__law_got t__law_parts book_here_158 payments_159 Q E q)
theorem law__law_held : ∀ ds Q E, sp__law_held ds Q E → d__law_held { nx := fun _ => Q .non, rt := Q, ex := E } (dstart 4 ds) := by
  rintro ds Qd E ⟨book_here_200, payments_201, Q, rfl, hr, q⟩
  have m : Me [some (.v ((eT (eP eI (eT (eP eI eI)))) book_here_200)), some (.v ((eT eI) payments_201)), none, none] [.v ((eT (eP eI (eT (eP eI eI)))) book_here_200), .v ((eT eI) payments_201), .no, .no] := (me_of [.v ((eT (eP eI (eT (eP eI eI)))) book_here_200), .v ((eT eI) payments_201), .no, .no]).sub (by repeat (first | exact True.intro | refine And.intro rfl ?_))
  have h : TS [some (.v ((eT (eP eI (eT (eP eI eI)))) book_here_200)), some (.v ((eT eI) payments_201)), none, none] d__law_held { nx := fun _ => Qd .non, rt := Qd, ex := E } (bindP (bindW (pureW book_here_200) fun x0 => bindW (pureW payments_201) fun x1 => t__law_got x0 x1) (fun got_here_202 => ((bindW (bindW (bindW (pureW book_here_200) lenW) rng1W) fun xs => lcW (fun a_203 => (pureW true)) (fun a_203 => (bindW (bindW (bindW (bindW (pureW book_here_200) fun x => bindW (pureW a_203) fun y => ixW x y) fun p => pureW p.1) fun x => bindW (bindW (pureW got_here_202) fun x => bindW (pureW a_203) fun y => ixW x y) fun y => addI x y) fun x => bindW (bindW (pureW payments_201) fun x => bindW (pureW a_203) fun y => ixW x y) fun y => subI x y)) xs) Q E)) E) := by
    simp only [d__law_held, d__law_held_1, r__law_held_1, d__law_held_0, r__law_held_0]
    exact (ts_set 2 (te_call2 c__law_got (te_var 0 (x := book_here_200) (e := (eT (eP eI (eT (eP eI eI))))) rfl) (te_var 1 (x := payments_201) (e := (eT eI)) rfl)) (fun got_here_202 => (ts_ret hr (te_frz (tn_lc (ps1 := fun a_203 => [some (.v ((eT (eP eI (eT (eP eI eI)))) book_here_200)), some (.v ((eT eI) payments_201)), some (.v ((eL eI) got_here_202)), some (.v (eI a_203))]) (ti_rng1 (te_cb1 o_lenT (te_var 0 (x := book_here_200) (e := (eT (eP eI (eT (eP eI eI))))) rfl))) (fun a_203 => (tg_name 3)) (fun a_203 => tb_yes) (fun a_203 => (te_op o_sub (te_op o_add (te_prj (e := (eP eI (eT (eP eI eI)))) (k := 0) (e' := eI) (fun p => p.1) (fun _ _ q => q) (te_op o_ixT (te_var 0 (x := book_here_200) (e := (eT (eP eI (eT (eP eI eI))))) rfl) (te_var 3 (x := a_203) (e := eI) rfl))) (te_op o_ixL (te_var 2 (x := got_here_202) (e := (eL eI)) rfl) (te_var 3 (x := a_203) (e := eI) rfl))) (te_op o_ixT (te_var 1 (x := payments_201) (e := (eT eI)) rfl) (te_var 3 (x := a_203) (e := eI) rfl)))))))))
  exact h _ m (u__law_held t__law_got book_here_200 payments_201 Q E q)
theorem law__law_is_int : ∀ ds Q E, sp__law_is_int ds Q E → d__law_is_int { nx := fun _ => Q .non, rt := Q, ex := E } (dstart 3 ds) := by
  rintro ds Qd E ⟨value_204, low_205, high_206, Q, rfl, hr, q⟩
  have m : Me [some (.v (eA value_204)), some (.v (eI low_205)), some (.v (eI high_206))] [.v (eA value_204), .v (eI low_205), .v (eI high_206)] := (me_of [.v (eA value_204), .v (eI low_205), .v (eI high_206)]).sub (by repeat (first | exact True.intro | refine And.intro rfl ?_))
  have h : TS [some (.v (eA value_204)), some (.v (eI low_205)), some (.v (eI high_206))] d__law_is_int { nx := fun _ => Qd .non, rt := Qd, ex := E } (((bindW (bindW (pureW value_204) fun x => pureW (isT "int" (eA x))) fun c => ifW c (bindW (bindW (bindW (pureW value_204) fun x => pureW (isT "bool" (eA x))) fun c => pureW (!c)) fun c => ifW c (bindW (pureW low_205) fun x => bindW (bindW (pureW value_204) (asW eI)) fun y => bindW (leI x y) fun c => ifW c (bindW (pureW high_206) fun z => leI y z) (pureW false)) (pureW false)) (pureW false)) Q E)) := by
    simp only [d__law_is_int, d__law_is_int_0, r__law_is_int_0]
    exact (ts_ret hr (te_and (te_isi (te_var 0 (x := value_204) (e := eA) rfl)) (te_and (te_not (te_isi (te_var 0 (x := value_204) (e := eA) rfl))) (te_chain o_le o_le (te_var 1 (x := low_205) (e := eI) rfl) (te_as (te_var 0 (x := value_204) (e := eA) rfl)) (te_var 2 (x := high_206) (e := eI) rfl)))))
  exact h _ m (u__law_is_int value_204 low_205 high_206 Q E q)
theorem law__law_error : ∀ ds Q E, sp__law_error ds Q E → d__law_error { nx := fun _ => Q .non, rt := Q, ex := E } (dstart 8 ds) := by
  rintro ds Qd E ⟨book_here_207, value_208, Q, rfl, hr, q⟩
  have m : Me [some (.v ((eT (eP eI (eT (eP eI eI)))) book_here_207)), some (.v (eA value_208)), none, none, none, none, none, none] [.v ((eT (eP eI (eT (eP eI eI)))) book_here_207), .v (eA value_208), .no, .no, .no, .no, .no, .no] := (me_of [.v ((eT (eP eI (eT (eP eI eI)))) book_here_207), .v (eA value_208), .no, .no, .no, .no, .no, .no]).sub (by repeat (first | exact True.intro | refine And.intro rfl ?_))
  have h : TS [some (.v ((eT (eP eI (eT (eP eI eI)))) book_here_207)), some (.v (eA value_208)), none, none, none, none, none, none] d__law_error { nx := fun _ => Qd .non, rt := Qd, ex := E } (bindP (bindW (pureW book_here_207) fun x0 => t__law_debts x0) (fun limits_209 => bindP (bindW (bindW (bindW (pureW value_208) fun x => pureW (isT "tuple" (eA x))) fun c => pureW (!c)) fun c => ifW c (pureW true) (bindW (bindW (pureW value_208) lenA) fun x => bindW (bindW (pureW book_here_207) lenW) fun y => neI x y)) (fun b => ifP b (((bindW (bindW (pureW ()) fun x => bindW (pureW ("payments" : Str)) fun y => pureW (x, y)) fun x => pureW ((eP eN eS) x)) Q E)) (bindP (bindW (bindW (bindW (bindW (pureW value_208) (asW (eT eA))) fun xs => bindW (pureW limits_209) fun ys => pureW (xs.zip ys)) fun xs => lcW (fun a_210 => (bindW (bindW (pureW a_210.1) fun x0 => bindW (pureW (0 : Int)) fun x1 => bindW (pureW a_210.2) fun x2 => t__law_is_int x0 x1 x2) fun c => pureW (!c))) (fun a_210 => (pureW (1 : Int))) xs) fun x => bindW (bindW (pureW []) szW) fun y => neW x y) (fun b => ifP b (((bindW (bindW (pureW ()) fun x => bindW (pureW ("payments" : Str)) fun y => pureW (x, y)) fun x => pureW ((eP eN eS) x)) Q E)) (bindP (bindW (pureW book_here_207) fun x0 => bindW (bindW (pureW value_208) (asW (eT eI))) fun x1 => t__law_got x0 x1) (fun got_here_211 => bindP (bindW (bindW (pureW value_208) (asW (eT eA))) fun xs => pureW (enI xs)) (fun xs => forP (fun x_216 (s_215 : Unit) N_217 B_218 => bindP (bindW (bindW (pureW limits_209) fun x => bindW (pureW x_216.1) fun y => ixW x y) fun x => bindW (bindW (bindW (bindW (pureW book_here_207) fun x => bindW (pureW x_216.1) fun y => ixW x y) fun p => pureW p.1) fun x => bindW (bindW (pureW got_here_211) fun x => bindW (pureW x_216.1) fun y => ixW x y) fun y => addI x y) fun y => min2 x y) (fun could_222 => bindP (bindW (pureW x_216.2) fun x => bindW (bindW (pureW could_222) fun x => pureW (eI x)) fun y => neA x y) (fun b => ifP b (((bindW (bindW (pureW x_216.1) fun x => bindW (bindW (bindW (bindW (pureW x_216.2) (asW eI)) fun x => bindW (pureW could_222) fun y => ltI x y) fun c => ifW c (pureW ("less" : Str)) (pureW ("more" : Str))) fun y => pureW (x, y)) fun x => pureW ((eP eI eS) x)) Q E)) (N_217 ())) E) E) (fun (s_215 : Unit) => ((bindW (pureW ()) fun x => pureW (eN x)) Q E)) xs ()) E) E)) E)) E) E) := by
    simp only [d__law_error, d__law_error_4b_1, r__law_error_4b_1, d__law_error_4b_0, r__law_error_4b_0, d__law_error_5, r__law_error_5, d__law_error_4, r__law_error_4, d__law_error_3, r__law_error_3, d__law_error_2, r__law_error_2, d__law_error_1, r__law_error_1, d__law_error_0, r__law_error_0]
    exact (ts_set 2 (te_call1 c__law_debts (te_var 0 (x := book_here_207) (e := (eT (eP eI (eT (eP eI eI))))) rfl)) (fun limits_209 => (ts_seq0 (ts_if (tb_or (tb_not (tb_tst (te_isi (te_var 1 (x := value_208) (e := eA) rfl)))) (tb_tst (te_op o_neI (te_cb1 o_lenA (te_var 1 (x := value_208) (e := eA) rfl)) (te_cb1 o_lenT (te_var 0 (x := book_here_207) (e := (eT (eP eI (eT (eP eI eI))))) rfl))))) (ts_ret hr (te_co (eP eN eS) (fun _ => rfl) (te_tup2 te_non (te_str "payments")))) (ts_via (ts_seq0 (ts_if (tb_tst (te_op (o_ne (eq_L eq_I) (by decide) ni_L) (te_frz (tn_lc (ps1 := fun a_210 => [some (.v ((eT (eP eI (eT (eP eI eI)))) book_here_207)), some (.v (eA value_208)), some (.v ((eL eI) limits_209)), none, none, some (.v (eA a_210.1)), none, some (.v (eI a_210.2))]) (ti_zip sq_T sq_L (te_as (te_var 1 (x := value_208) (e := eA) rfl)) (te_var 2 (x := limits_209) (e := (eL eI)) rfl)) (fun a_210 => (tg_tup rfl (tgs_cons (tg_name 5) (tgs_cons (tg_name 7) tgs_nil)))) (fun a_210 => (tb_not (tb_tst (te_call3 c__law_is_int (te_var 5 (x := a_210.1) (e := eA) rfl) (te_int 0) (te_var 7 (x := a_210.2) (e := eI) rfl))))) (fun a_210 => (te_int 1)))) (te_lstL (tl_nil : TL _ _ eI _)))) (ts_ret hr (te_co (eP eN eS) (fun _ => rfl) (te_tup2 te_non (te_str "payments")))) (ts_via (ts_set 3 (te_call2 c__law_got (te_var 0 (x := book_here_207) (e := (eT (eP eI (eT (eP eI eI))))) rfl) (te_as (te_var 1 (x := value_208) (e := eA) rfl))) (fun got_here_211 => (ts_for (fun (s_215 : Unit) => [some (.v ((eT (eP eI (eT (eP eI eI)))) book_here_207)), some (.v (eA value_208)), some (.v ((eL eI) limits_209)), some (.v ((eL eI) got_here_211)), none, none, none, none]) () (ps1 := fun x_216 s_215 => [some (.v ((eT (eP eI (eT (eP eI eI)))) book_here_207)), some (.v (eA value_208)), some (.v ((eL eI) limits_209)), some (.v ((eL eI) got_here_211)), some (.v (eI x_216.1)), some (.v (eA x_216.2)), none, none]) (ti_enT (te_as (te_var 1 (x := value_208) (e := eA) rfl))) (by repeat (first | exact True.intro | refine And.intro rfl ?_)) (fun x_216 s_215 => (tg_tup rfl (tgs_cons (tg_name 4) (tgs_cons (tg_name 5) tgs_nil)))) (fun x_216 s_215 N_217 nx_220 hN_219 => (ts_set 6 (te_cb2 o_min2 (te_op o_ixL (te_var 2 (x := limits_209) (e := (eL eI)) rfl) (te_var 4 (x := x_216.1) (e := eI) rfl)) (te_op o_add (te_prj (e := (eP eI (eT (eP eI eI)))) (k := 0) (e' := eI) (fun p => p.1) (fun _ _ q => q) (te_op o_ixT (te_var 0 (x := book_here_207) (e := (eT (eP eI (eT (eP eI eI))))) rfl) (te_var 4 (x := x_216.1) (e := eI) rfl))) (te_op o_ixL (te_var 3 (x := got_here_211) (e := (eL eI)) rfl) (te_var 4 (x := x_216.1) (e := eI) rfl)))) (fun could_222 => (ts_last (ts_seq0 (ts_if (tb_tst (te_op o_neA (te_var 5 (x := x_216.2) (e := eA) rfl) (te_co eI (fun _ => rfl) (te_var 6 (x := could_222) (e := eI) rfl)))) (ts_ret hr (te_co (eP eI eS) (fun _ => rfl) (te_tup2 (te_var 4 (x := x_216.1) (e := eI) rfl) (te_if (tb_tst (te_op o_lt (te_as (te_var 5 (x := x_216.2) (e := eA) rfl)) (te_var 6 (x := could_222) (e := eI) rfl))) (te_str "less") (te_str "more"))))) (ts_via (ts_fall hN_219 () (by repeat (first | exact True.intro | refine And.intro rfl ?_)))))))))) (fun s_215 => (ts_ret hr (te_co eN (fun _ => rfl) te_non))))))))))))))
  exact h _ m (u__law_error t__law_debts t__law_is_int t__law_got book_here_207 value_208 Q E q)
theorem law__law_every : ∀ ds Q E, sp__law_every ds Q E → d__law_every { nx := fun _ => Q .non, rt := Q, ex := E } (dstart 6 ds) := by
  rintro ds Qd E ⟨book_here_223, Q, rfl, hr, q⟩
  have m : Me [some (.v ((eT (eP eI (eT (eP eI eI)))) book_here_223)), none, none, none, none, none] [.v ((eT (eP eI (eT (eP eI eI)))) book_here_223), .no, .no, .no, .no, .no] := (me_of [.v ((eT (eP eI (eT (eP eI eI)))) book_here_223), .no, .no, .no, .no, .no]).sub (by repeat (first | exact True.intro | refine And.intro rfl ?_))
  have h : TS [some (.v ((eT (eP eI (eT (eP eI eI)))) book_here_223)), none, none, none, none, none] d__law_every { nx := fun _ => Qd .non, rt := Qd, ex := E } (bindP (bindW (bindW (bindW (pureW []) szW) fun x => bindW (pureW []) fun xs => pureW (x :: xs)) szW) (fun rows_224 => bindP (bindW (pureW book_here_223) fun x0 => t__law_debts x0) (fun xs => forP (fun x_243 (s_242 : (List (List Int))) N_244 B_245 => bindP (bindW (pureW []) szW) (fun longer_249 => bindP (pureW s_242) (fun xs => forP (fun x_255 (s_254 : (List (List Int))) N_256 B_257 => bindP (bindW (bindW (bindW (pureW x_243) fun x => bindW (pureW (1 : Int)) fun y => addI x y) rng1W) fun xs => lcW (fun a_261 => (pureW true)) (fun a_261 => (bindW (pureW x_255) fun x => bindW (bindW (bindW (pureW a_261) fun x => bindW (pureW []) fun xs => pureW (x :: xs)) szW) fun y => catW x y)) xs) (fun z_262 => extP s_254 z_262 (N_256 (s_254 ++ z_262))) E) (fun (s_254 : (List (List Int))) => bindP (pureW s_254) (fun rows_263 => N_244 rows_263) E) xs longer_249) E) E) (fun (s_242 : (List (List Int))) => ((pureW s_242) Q E)) xs rows_224) E) E) := by
    simp only [d__law_every, d__law_every_1b_2, r__law_every_1b_2, d__law_every_1b_1, r__law_every_1b_1, d__law_every_1b_0, r__law_every_1b_0, d__law_every_2, r__law_every_2, d__law_every_1, r__law_every_1, d__law_every_0, r__law_every_0]
    exact (ts_set 1 (te_lstL (tl_cons (te_tupL (tl_nil : TL _ _ eI _)) tl_nil)) (fun rows_224 => (ts_for (fun (s_242 : (List (List Int))) => [some (.v ((eT (eP eI (eT (eP eI eI)))) book_here_223)), some (.v ((eL (eT eI)) s_242)), none, none, none, none]) rows_224 (ps1 := fun x_243 s_242 => [some (.v ((eT (eP eI (eT (eP eI eI)))) book_here_223)), some (.v ((eL (eT eI)) s_242)), some (.v (eI x_243)), none, none, none]) (ti_L (te_call1 c__law_debts (te_var 0 (x := book_here_223) (e := (eT (eP eI (eT (eP eI eI))))) rfl))) (by repeat (first | exact True.intro | refine And.intro rfl ?_)) (fun x_243 s_242 => (tg_name 2)) (fun x_243 s_242 N_244 nx_247 hN_246 => (ts_setO 3 (tn_lst (tl_nil : TL _ _ (eT eI) _)) (fun longer_249 => (ts_for (fun (s_254 : (List (List Int))) => [some (.v ((eT (eP eI (eT (eP eI eI)))) book_here_223)), some (.v ((eL (eT eI)) s_242)), some (.v (eI x_243)), some (.own ((s_254 : (List (List Int))).map (eT eI))), none, none]) longer_249 (ps1 := fun x_255 s_254 => [some (.v ((eT (eP eI (eT (eP eI eI)))) book_here_223)), some (.v ((eL (eT eI)) s_242)), some (.v (eI x_243)), some (.own ((s_254 : (List (List Int))).map (eT eI))), some (.v ((eT eI) x_255)), none]) (ti_L (te_var 1 (x := s_242) (e := (eL (eT eI))) rfl)) (by repeat (first | exact True.intro | refine And.intro rfl ?_)) (fun x_255 s_254 => (tg_name 4)) (fun x_255 s_254 N_256 nx_259 hN_258 => (ts_last (ts_ext 3 (xs := s_254) rfl (te_frz (tn_lc (ps1 := fun a_261 => [some (.v ((eT (eP eI (eT (eP eI eI)))) book_here_223)), some (.v ((eL (eT eI)) s_242)), some (.v (eI x_243)), some (.own ((s_254 : (List (List Int))).map (eT eI))), some (.v ((eT eI) x_255)), some (.v (eI a_261))]) (ti_rng1 (te_op o_add (te_var 2 (x := x_243) (e := eI) rfl) (te_int 1))) (fun a_261 => (tg_name 5)) (fun a_261 => tb_yes) (fun a_261 => (te_op o_catT (te_var 4 (x := x_255) (e := (eT eI)) rfl) (te_tupL (tl_cons (te_var 5 (x := a_261) (e := eI) rfl) tl_nil)))))) (fun z_262 => (ts_fall hN_258 (s_254 ++ z_262) (by repeat (first | exact True.intro | refine And.intro rfl ?_))))))) (fun s_254 => (ts_last (ts_frz 3 (xs := s_254) rfl (ts_set 1 (te_var 3 (x := s_254) (e := (eL (eT eI))) rfl) (fun rows_263 => (ts_fall hN_246 rows_263 (by repeat (first | exact True.intro | refine And.intro rfl ?_)))))))))))) (fun s_242 => (ts_ret hr (te_var 1 (x := s_242) (e := (eL (eT eI))) rfl))))))
  exact h _ m (u__law_every t__law_debts book_here_223 Q E q)
theorem law__law_next : ∀ ds Q E, sp__law_next ds Q E → d__law_next { nx := fun _ => Q .non, rt := Q, ex := E } (dstart 7 ds) := by
  rintro ds Qd E ⟨book_here_264, payments_265, house_266, Q, rfl, hr, q⟩
  have m : Me [some (.v ((eT (eP eI (eT (eP eI eI)))) book_here_264)), some (.v ((eT eI) payments_265)), some (.v (eI house_266)), none, none, none, none] [.v ((eT (eP eI (eT (eP eI eI)))) book_here_264), .v ((eT eI) payments_265), .v (eI house_266), .no, .no, .no, .no] := (me_of [.v ((eT (eP eI (eT (eP eI eI)))) book_here_264), .v ((eT eI) payments_265), .v (eI house_266), .no, .no, .no, .no]).sub (by repeat (first | exact True.intro | refine And.intro rfl ?_))
  have h : TS [some (.v ((eT (eP eI (eT (eP eI eI)))) book_here_264)), some (.v ((eT eI) payments_265)), some (.v (eI house_266)), none, none, none, none] d__law_next { nx := fun _ => Qd .non, rt := Qd, ex := E } (bindP (bindW (bindW (pureW book_here_264) fun x => bindW (pureW house_266) fun y => ixW x y) fun p => pureW p.2) (fun pile_267 => bindP (bindW (pureW pile_267) fun xs => bindW (bindW (pureW pile_267) fun x0 => bindW (bindW (pureW payments_265) fun x => bindW (pureW house_266) fun y => ixW x y) fun x1 => t__law_parts x0 x1) fun ys => pureW (xs.zip ys)) (fun xs => forP (fun x_271 (s_270 : Unit) N_272 B_273 => bindP (bindW (pureW x_271.2) fun x => bindW (pureW x_271.1.2) fun y => ltI x y) (fun b => ifP b (((bindW (bindW (pureW x_271.1.1) fun x => bindW (bindW (pureW x_271.1.2) fun x => bindW (pureW x_271.2) fun y => subI x y) fun y => pureW (x, y)) fun x => pureW (some x)) Q E)) (N_272 ())) E) (fun (s_270 : Unit) => ((bindW (pureW ()) fun _ => pureW (none : (Option (Int × Int)))) Q E)) xs ()) E) E) := by
    simp only [d__law_next, d__law_next_2, r__law_next_2, d__law_next_1, r__law_next_1, d__law_next_0, r__law_next_0]
    exact (ts_set 3 (te_prj (e := (eP eI (eT (eP eI eI)))) (k := 1) (e' := (eT (eP eI eI))) (fun p => p.2) (fun _ _ q => q) (te_op o_ixT (te_var 0 (x := book_here_264) (e := (eT (eP eI (eT (eP eI eI))))) rfl) (te_var 2 (x := house_266) (e := eI) rfl))) (fun pile_267 => (ts_for (fun (s_270 : Unit) => [some (.v ((eT (eP eI (eT (eP eI eI)))) book_here_264)), some (.v ((eT eI) payments_265)), some (.v (eI house_266)), some (.v ((eT (eP eI eI)) pile_267)), none, none, none]) () (ps1 := fun x_271 s_270 => [some (.v ((eT (eP eI (eT (eP eI eI)))) book_here_264)), some (.v ((eT eI) payments_265)), some (.v (eI house_266)), some (.v ((eT (eP eI eI)) pile_267)), some (.v (eI x_271.1.1)), some (.v (eI x_271.1.2)), some (.v (eI x_271.2))]) (ti_zip sq_T sq_L (te_var 3 (x := pile_267) (e := (eT (eP eI eI))) rfl) (te_call2 c__law_parts (te_var 3 (x := pile_267) (e := (eT (eP eI eI))) rfl) (te_op o_ixT (te_var 1 (x := payments_265) (e := (eT eI)) rfl) (te_var 2 (x := house_266) (e := eI) rfl)))) (by repeat (first | exact True.intro | refine And.intro rfl ?_)) (fun x_271 s_270 => (tg_tup rfl (tgs_cons (tg_tup rfl (tgs_cons (tg_name 4) (tgs_cons (tg_name 5) tgs_nil))) (tgs_cons (tg_name 6) tgs_nil)))) (fun x_271 s_270 N_272 nx_275 hN_274 => (ts_last (ts_seq0 (ts_if (tb_tst (te_op o_lt (te_var 6 (x := x_271.2) (e := eI) rfl) (te_var 5 (x := x_271.1.2) (e := eI) rfl))) (ts_ret hr (te_co (e' := (eO (eP eI eI))) (fun x => some x) (fun _ => rfl) (te_tup2 (te_var 4 (x := x_271.1.1) (e := eI) rfl) (te_op o_sub (te_var 5 (x := x_271.1.2) (e := eI) rfl) (te_var 6 (x := x_271.2) (e := eI) rfl))))) (ts_via (ts_fall hN_274 () (by repeat (first | exact True.intro | refine And.intro rfl ?_)))))))) (fun s_270 => (ts_ret hr (te_co (e' := (eO (eP eI eI))) (fun _ => none) (fun _ => rfl) te_non))))))
  exact h _ m (u__law_next t__law_parts book_here_264 payments_265 house_266 Q E q)
theorem law__law_ring : ∀ ds Q E, sp__law_ring ds Q E → d__law_ring { nx := fun _ => Q .non, rt := Q, ex := E } (dstart 7 ds) := by
  rintro ds Qd E ⟨book_here_277, payments_278, house_279, Q, rfl, hr, q⟩
  have m : Me [some (.v ((eT (eP eI (eT (eP eI eI)))) book_here_277)), some (.v ((eT eI) payments_278)), some (.v (eI house_279)), none, none, none, none] [.v ((eT (eP eI (eT (eP eI eI)))) book_here_277), .v ((eT eI) payments_278), .v (eI house_279), .no, .no, .no, .no] := (me_of [.v ((eT (eP eI (eT (eP eI eI)))) book_here_277), .v ((eT eI) payments_278), .v (eI house_279), .no, .no, .no, .no]).sub (by repeat (first | exact True.intro | refine And.intro rfl ?_))
  have h : TS [some (.v ((eT (eP eI (eT (eP eI eI)))) book_here_277)), some (.v ((eT eI) payments_278)), some (.v (eI house_279)), none, none, none, none] d__law_ring { nx := fun _ => Qd .non, rt := Qd, ex := E } (bindP (bindW (bindW (pureW house_279) fun x => bindW (pureW []) fun xs => pureW (x :: xs)) szW) (fun way_280 => bindP (bindW (bindW (pureW book_here_277) lenW) rng1W) (fun xs => forP (fun x_287 (s_286 : (List Int)) N_288 B_289 => bindP (bindW (pureW book_here_277) fun x0 => bindW (pureW payments_278) fun x1 => bindW (bindW (pureW s_286) fun x => bindW (bindW (pureW (1 : Int)) fun i => pureW (-i)) fun y => ixW x y) fun x2 => t__law_next x0 x1 x2) (fun slip_293 => bindP (bindW (pureW slip_293) fun x => pureW x.isNone) (fun b => ifP b (((bindW (pureW ()) fun _ => pureW (none : (Option (List Int)))) Q E)) (bindP (bindW (bindW (bindW (pureW slip_293) getW) fun p => pureW p.1) fun x => bindW (pureW house_279) fun y => eqI x y) (fun b => ifP b (bindP (bindW (pureW s_286) fun xs => bindW (bindW (pureW s_286) minL) fun v => idxW xs v) (fun spot_294 => ((bindW (bindW (bindW (bindW (pureW s_286) fun xs => bindW (bindW (pureW spot_294) fun i => pureW (some i)) fun l => bindW (pureW none) fun h => pureW (cutT xs l h)) fun x => bindW (bindW (pureW s_286) fun xs => bindW (pureW none) fun l => bindW (bindW (pureW spot_294) fun i => pureW (some i)) fun h => pureW (cutT xs l h)) fun y => catW x y) sameW) fun x => pureW (some x)) Q E)) E) (bindP (bindW (bindW (pureW slip_293) getW) fun p => pureW p.1) (fun z_295 => appP s_286 (N_288 (s_286 ++ [z_295]))) E)) E)) E) E) (fun (s_286 : (List Int)) => ((bindW (pureW ()) fun _ => pureW (none : (Option (List Int)))) Q E)) xs way_280) E) E) := by
    simp only [d__law_ring, d__law_ring_1b_3, r__law_ring_1b_3, d__law_ring_1b_2, r__law_ring_1b_2, d__law_ring_1b_1, r__law_ring_1b_1, d__law_ring_1b_0, r__law_ring_1b_0, d__law_ring_2, r__law_ring_2, d__law_ring_1, r__law_ring_1, d__law_ring_0, r__law_ring_0]
    exact (ts_setO 3 (tn_lst (tl_cons (te_var 2 (x := house_279) (e := eI) rfl) tl_nil)) (fun way_280 => (ts_for (fun (s_286 : (List Int)) => [some (.v ((eT (eP eI (eT (eP eI eI)))) book_here_277)), some (.v ((eT eI) payments_278)), some (.v (eI house_279)), some (.own ((s_286 : (List Int)).map eI)), none, none, none]) way_280 (ps1 := fun x_287 s_286 => [some (.v ((eT (eP eI (eT (eP eI eI)))) book_here_277)), some (.v ((eT eI) payments_278)), some (.v (eI house_279)), some (.own ((s_286 : (List Int)).map eI)), some (.v (eI x_287)), none, none]) (ti_rng1 (te_cb1 o_lenT (te_var 0 (x := book_here_277) (e := (eT (eP eI (eT (eP eI eI))))) rfl))) (by repeat (first | exact True.intro | refine And.intro rfl ?_)) (fun x_287 s_286 => (tg_name 4)) (fun x_287 s_286 N_288 nx_291 hN_290 => (ts_set 5 (te_call3 c__law_next (te_var 0 (x := book_here_277) (e := (eT (eP eI (eT (eP eI eI))))) rfl) (te_var 1 (x := payments_278) (e := (eT eI)) rfl) (te_lend 3 (xs := s_286) rfl lf_I (fun _ _ _ h => h) (te_op o_ixL (te_var 3 (x := s_286) (e := (eL eI)) rfl) (te_neg (te_int 1))))) (fun slip_293 => (ts_seq0 (ts_if (tb_tst (te_isNO nn_P (te_var 5 (x := slip_293) (e := (eO (eP eI eI))) rfl))) (ts_ret hr (te_co (e' := (eO (eT eI))) (fun _ => none) (fun _ => rfl) te_non)) (ts_via (ts_seq0 (ts_if (tb_tst (te_op o_eqI (te_prj (e := (eP eI eI)) (k := 0) (e' := eI) (fun p => p.1) (fun _ _ q => q) (te_get (te_var 5 (x := slip_293) (e := (eO (eP eI eI))) rfl))) (te_var 2 (x := house_279) (e := eI) rfl))) (ts_set 6 (te_lend 3 (xs := s_286) rfl lf_I (fun _ _ _ h => h) (te_index (te_var 3 (x := s_286) (e := (eL eI)) rfl) (te_lendV 3 (d := (eL eI) s_286) rfl (te_cb1 o_minL (te_var 3 (x := s_286) (e := (eL eI)) rfl))))) (fun spot_294 => (ts_frz1 3 (xs := s_286) rfl (ts_ret hr (te_co (e' := (eO (eT eI))) (fun x => some x) (fun _ => rfl) (te_cb1 o_tupleL (te_op o_catL (te_slL (te_var 3 (x := s_286) (e := (eL eI)) rfl) (tp_some (te_var 6 (x := spot_294) (e := eI) rfl)) tp_none) (te_slL (te_var 3 (x := s_286) (e := (eL eI)) rfl) tp_none (tp_some (te_var 6 (x := spot_294) (e := eI) rfl)))))))))) (ts_via (ts_last (ts_app 3 (xs := s_286) rfl (te_prj (e := (eP eI eI)) (k := 0) (e' := eI) (fun p => p.1) (fun _ _ q => q) (te_get (te_var 5 (x := slip_293) (e := (eO (eP eI eI))) rfl))) (fun z_295 => (ts_fall hN_290 (s_286 ++ [z_295]) (by repeat (first | exact True.intro | refine And.intro rfl ?_))))))))))))))) (fun s_286 => (ts_ret hr (te_co (e' := (eO (eT eI))) (fun _ => none) (fun _ => rfl) te_non))))))
  exact h _ m (u__law_ring t__law_next book_here_277 payments_278 house_279 Q E q)
theorem law__law_rest : ∀ ds Q E, sp__law_rest ds Q E → d__law_rest { nx := fun _ => Q .non, rt := Q, ex := E } (dstart 4 ds) := by
  rintro ds Qd E ⟨book_here_296, payments_297, ring_here_298, Q, rfl, hr, q⟩
  have m : Me [some (.v ((eT (eP eI (eT (eP eI eI)))) book_here_296)), some (.v ((eT eI) payments_297)), some (.v ((eT eI) ring_here_298)), none] [.v ((eT (eP eI (eT (eP eI eI)))) book_here_296), .v ((eT eI) payments_297), .v ((eT eI) ring_here_298), .no] := (me_of [.v ((eT (eP eI (eT (eP eI eI)))) book_here_296), .v ((eT eI) payments_297), .v ((eT eI) ring_here_298), .no]).sub (by repeat (first | exact True.intro | refine And.intro rfl ?_))
  have h : TS [some (.v ((eT (eP eI (eT (eP eI eI)))) book_here_296)), some (.v ((eT eI) payments_297)), some (.v ((eT eI) ring_here_298)), none] d__law_rest { nx := fun _ => Qd .non, rt := Qd, ex := E } (((bindW (bindW (pureW ring_here_298) fun xs => lcW (fun a_299 => (pureW true)) (fun a_299 => (bindW (bindW (bindW (pureW book_here_296) fun x0 => bindW (pureW payments_297) fun x1 => bindW (pureW a_299) fun x2 => t__law_next x0 x1 x2) getW) fun p => pureW p.2)) xs) minL) Q E)) := by
    simp only [d__law_rest, d__law_rest_0, r__law_rest_0]
    exact (ts_ret hr (te_cb1 o_minL (te_frz (tn_lc (ps1 := fun a_299 => [some (.v ((eT (eP eI (eT (eP eI eI)))) book_here_296)), some (.v ((eT eI) payments_297)), some (.v ((eT eI) ring_here_298)), some (.v (eI a_299))]) (ti_T (te_var 2 (x := ring_here_298) (e := (eT eI)) rfl)) (fun a_299 => (tg_name 3)) (fun a_299 => tb_yes) (fun a_299 => (te_prj (e := (eP eI eI)) (k := 1) (e' := eI) (fun p => p.2) (fun _ _ q => q) (te_get (te_call3 c__law_next (te_var 0 (x := book_here_296) (e := (eT (eP eI (eT (eP eI eI))))) rfl) (te_var 1 (x := payments_297) (e := (eT eI)) rfl) (te_var 3 (x := a_299) (e := eI) rfl)))))))))
  exact h _ m (u__law_rest t__law_next book_here_296 payments_297 ring_here_298 Q E q)
theorem law__law_more : ∀ ds Q E, sp__law_more ds Q E → d__law_more { nx := fun _ => Q .non, rt := Q, ex := E } (dstart 5 ds) := by
  rintro ds Qd E ⟨payments_300, houses_301, amount_302, Q, rfl, hr, q⟩
  have m : Me [some (.v ((eT eI) payments_300)), some (.v ((eT eI) houses_301)), some (.v (eI amount_302)), none, none] [.v ((eT eI) payments_300), .v ((eT eI) houses_301), .v (eI amount_302), .no, .no] := (me_of [.v ((eT eI) payments_300), .v ((eT eI) houses_301), .v (eI amount_302), .no, .no]).sub (by repeat (first | exact True.intro | refine And.intro rfl ?_))
  have h : TS [some (.v ((eT eI) payments_300)), some (.v ((eT eI) houses_301)), some (.v (eI amount_302)), none, none] d__law_more { nx := fun _ => Qd .non, rt := Qd, ex := E } (((bindW (bindW (bindW (pureW payments_300) fun xs => pureW (enI xs)) fun xs => lcW (fun a_303 => (pureW true)) (fun a_303 => (bindW (pureW a_303.2) fun x => bindW (bindW (pureW amount_302) fun x => bindW (bindW (bindW (pureW a_303.1) fun x => bindW (pureW houses_301) fun y => inW x y) intB) fun y => mulI x y) fun y => addI x y)) xs) sameW) Q E)) := by
    simp only [d__law_more, d__law_more_0, r__law_more_0]
    exact (ts_ret hr (te_cb1 o_tupleL (te_frz (tn_lc (ps1 := fun a_303 => [some (.v ((eT eI) payments_300)), some (.v ((eT eI) houses_301)), some (.v (eI amount_302)), some (.v (eI a_303.1)), some (.v (eI a_303.2))]) (ti_enT (te_var 0 (x := payments_300) (e := (eT eI)) rfl)) (fun a_303 => (tg_tup rfl (tgs_cons (tg_name 3) (tgs_cons (tg_name 4) tgs_nil)))) (fun a_303 => tb_yes) (fun a_303 => (te_op o_add (te_var 4 (x := a_303.2) (e := eI) rfl) (te_op o_mul (te_var 2 (x := amount_302) (e := eI) rfl) (te_cb1 o_intB (te_op (o_inT eq_I (by decide)) (te_var 3 (x := a_303.1) (e := eI) rfl) (te_var 1 (x := houses_301) (e := (eT eI)) rfl))))))))))
  exact h _ m (u__law_more payments_300 houses_301 amount_302 Q E q)
theorem law__law_after : ∀ ds Q E, sp__law_after ds Q E → d__law_after { nx := fun _ => Q .non, rt := Q, ex := E } (dstart 11 ds) := by
  rintro ds Qd E ⟨book_here_304, payments_305, step_306, Q, rfl, hr, q⟩
  have m : Me [some (.v ((eT (eP eI (eT (eP eI eI)))) book_here_304)), some (.v ((eT eI) payments_305)), some (.v (eA step_306)), none, none, none, none, none, none, none, none] [.v ((eT (eP eI (eT (eP eI eI)))) book_here_304), .v ((eT eI) payments_305), .v (eA step_306), .no, .no, .no, .no, .no, .no, .no, .no] := (me_of [.v ((eT (eP eI (eT (eP eI eI)))) book_here_304), .v ((eT eI) payments_305), .v (eA step_306), .no, .no, .no, .no, .no, .no, .no, .no]).sub (by repeat (first | exact True.intro | refine And.intro rfl ?_))
  have h : TS [some (.v ((eT (eP eI (eT (eP eI eI)))) book_here_304)), some (.v ((eT eI) payments_305)), some (.v (eA step_306)), none, none, none, none, none, none, none, none] d__law_after { nx := fun _ => Qd .non, rt := Qd, ex := E } (bindP (bindW (bindW (bindW (pureW step_306) fun x => pureW (isT "tuple" (eA x))) fun c => pureW (!c)) fun c => ifW c (pureW true) (bindW (bindW (bindW (pureW step_306) lenA) fun x => bindW (pureW (3 : Int)) fun y => neI x y) fun c => ifW c (pureW true) (bindW (bindW (bindW (pureW step_306) fun x => bindW (pureW (0 : Int)) fun y => ixA x y) fun x => pureW (isT "str" (eA x))) fun c => pureW (!c)))) (fun b => ifP b (((bindW (pureW ()) fun _ => pureW (none : (Option (List Int)))) Q E)) (bindP (bindW (pureW step_306) (asW (e3 eA eA eA))) (fun z_307 => bindP (bindW (bindW (bindW (pureW z_307.2.1) fun x0 => bindW (pureW (0 : Int)) fun x1 => bindW (bindW (bindW (pureW book_here_304) lenW) fun x => bindW (pureW (1 : Int)) fun y => subI x y) fun x2 => t__law_is_int x0 x1 x2) fun c => pureW (!c)) fun c => ifW c (pureW true) (bindW (bindW (pureW z_307.2.2) fun x0 => bindW (pureW (1 : Int)) fun x1 => bindW (bindW (pureW (10 : Int)) fun x => bindW (pureW (30 : Int)) fun y => powI x y) fun x2 => t__law_is_int x0 x1 x2) fun c => pureW (!c))) (fun b => ifP b (((bindW (pureW ()) fun _ => pureW (none : (Option (List Int)))) Q E)) (bindP (bindW (bindW (pureW book_here_304) fun x0 => bindW (pureW payments_305) fun x1 => t__law_held x0 x1) fun x => bindW (bindW (pureW book_here_304) fun x0 => bindW (pureW payments_305) fun x1 => bindW (bindW (pureW z_307.2.1) (asW eI)) fun x2 => t__law_next x0 x1 x2) fun y => pureW (x, y)) (fun z_308 => bindP (bindW (pureW z_307.1) fun x => bindW (bindW (pureW ("pay" : Str)) fun x => pureW (eS x)) fun y => eqA x y) (fun b => ifP b (bindP (bindW (bindW (pureW z_308.2) fun x => pureW x.isSome) fun c => ifW c (bindW (bindW (pureW z_307.2.2) (asW eI)) fun x => bindW (bindW (bindW (pureW z_308.1) fun x => bindW (bindW (pureW z_307.2.1) (asW eI)) fun y => ixW x y) fun x => bindW (bindW (bindW (pureW z_308.2) getW) fun p => pureW p.2) fun y => min2 x y) fun y => leI x y) (pureW false)) (fun is_fine_309 => ((bindW (pureW is_fine_309) fun c => ifW c (bindW (bindW (pureW payments_305) fun x0 => bindW (bindW (bindW (bindW (pureW z_307.2.1) (asW eI)) fun x => bindW (pureW []) fun xs => pureW (x :: xs)) szW) fun x1 => bindW (bindW (pureW z_307.2.2) (asW eI)) fun x2 => t__law_more x0 x1 x2) fun x => pureW (some x)) (bindW (pureW ()) fun _ => pureW (none : (Option (List Int))))) Q E)) E) (bindP (bindW (bindW (pureW z_307.1) fun x => bindW (bindW (pureW ("ring" : Str)) fun x => pureW (eS x)) fun y => eqA x y) fun c => ifW c (bindW (pureW book_here_304) fun x0 => bindW (pureW payments_305) fun x1 => bindW (bindW (pureW z_307.2.1) (asW eI)) fun x2 => t__law_ring x0 x1 x2) (bindW (pureW ()) fun _ => pureW (none : (Option (List Int))))) (fun ring_here_310 => bindP (bindW (bindW (pureW ring_here_310) fun x => pureW x.isNone) fun c => ifW c (pureW true) (bindW (bindW (bindW (pureW z_307.2.2) (asW eI)) fun x => bindW (bindW (pureW book_here_304) fun x0 => bindW (pureW payments_305) fun x1 => bindW (bindW (pureW ring_here_310) getW) fun x2 => t__law_rest x0 x1 x2) fun y => gtI x y) fun c => ifW c (pureW true) (bindW (bindW (bindW (bindW (pureW ring_here_310) getW) fun xs => lcW (fun a_311 => (pureW true)) (fun a_311 => (bindW (pureW z_308.1) fun x => bindW (pureW a_311) fun y => ixW x y)) xs) maxL) fun x => bindW (pureW (1 : Int)) fun y => ltI x y))) (fun b => ifP b (((bindW (pureW ()) fun _ => pureW (none : (Option (List Int)))) Q E)) (((bindW (bindW (pureW payments_305) fun x0 => bindW (bindW (pureW ring_here_310) getW) fun x1 => bindW (bindW (pureW z_307.2.2) (asW eI)) fun x2 => t__law_more x0 x1 x2) fun x => pureW (some x)) Q E))) E) E)) E) E)) E) E)) E) := by
    simp only [d__law_after, d__law_after_7, r__law_after_7, d__law_after_6, r__law_after_6, d__law_after_5, r__law_after_5, d__law_after_4, r__law_after_4, d__law_after_3, r__law_after_3, d__law_after_2, r__law_after_2, d__law_after_1, r__law_after_1, d__law_after_0, r__law_after_0]
    exact (ts_seq0 (ts_if (tb_or (tb_not (tb_tst (te_isi (te_var 2 (x := step_306) (e := eA) rfl)))) (tb_or (tb_tst (te_op o_neI (te_cb1 o_lenA (te_var 2 (x := step_306) (e := eA) rfl)) (te_int 3))) (tb_not (tb_tst (te_isi (te_op o_ixA (te_var 2 (x := step_306) (e := eA) rfl) (te_int 0))))))) (ts_ret hr (te_co (e' := (eO (eT eI))) (fun _ => none) (fun _ => rfl) te_non)) (ts_via (ts_asg (ps1 := fun z_307 => [some (.v ((eT (eP eI (eT (eP eI eI)))) book_here_304)), some (.v ((eT eI) payments_305)), some (.v (eA step_306)), some (.v (eA z_307.1)), some (.v (eA z_307.2.1)), some (.v (eA z_307.2.2)), none, none, none, none, none]) (te_as (te_var 2 (x := step_306) (e := eA) rfl)) (fun z_307 => (tg_tup rfl (tgs_cons (tg_name 3) (tgs_cons (tg_name 4) (tgs_cons (tg_name 5) tgs_nil))))) (fun z_307 => (ts_seq0 (ts_if (tb_or (tb_not (tb_tst (te_call3 c__law_is_int (te_var 4 (x := z_307.2.1) (e := eA) rfl) (te_int 0) (te_op o_sub (te_cb1 o_lenT (te_var 0 (x := book_here_304) (e := (eT (eP eI (eT (eP eI eI))))) rfl)) (te_int 1))))) (tb_not (tb_tst (te_call3 c__law_is_int (te_var 5 (x := z_307.2.2) (e := eA) rfl) (te_int 1) (te_op o_pow (te_int 10) (te_int 30)))))) (ts_ret hr (te_co (e' := (eO (eT eI))) (fun _ => none) (fun _ => rfl) te_non)) (ts_via (ts_asg (ps1 := fun z_308 => [some (.v ((eT (eP eI (eT (eP eI eI)))) book_here_304)), some (.v ((eT eI) payments_305)), some (.v (eA step_306)), some (.v (eA z_307.1)), some (.v (eA z_307.2.1)), some (.v (eA z_307.2.2)), some (.v ((eL eI) z_308.1)), some (.v ((eO (eP eI eI)) z_308.2)), none, none, none]) (te_tup2 (te_call2 c__law_held (te_var 0 (x := book_here_304) (e := (eT (eP eI (eT (eP eI eI))))) rfl) (te_var 1 (x := payments_305) (e := (eT eI)) rfl)) (te_call3 c__law_next (te_var 0 (x := book_here_304) (e := (eT (eP eI (eT (eP eI eI))))) rfl) (te_var 1 (x := payments_305) (e := (eT eI)) rfl) (te_as (te_var 4 (x := z_307.2.1) (e := eA) rfl)))) (fun z_308 => (tg_tup rfl (tgs_cons (tg_name 6) (tgs_cons (tg_name 7) tgs_nil)))) (fun z_308 => (ts_seq0 (ts_if (tb_tst (te_op o_eqA (te_var 3 (x := z_307.1) (e := eA) rfl) (te_co eS (fun _ => rfl) (te_str "pay")))) (ts_set 8 (te_and (te_notNO nn_P (te_var 7 (x := z_308.2) (e := (eO (eP eI eI))) rfl)) (te_op o_le (te_as (te_var 5 (x := z_307.2.2) (e := eA) rfl)) (te_cb2 o_min2 (te_op o_ixL (te_var 6 (x := z_308.1) (e := (eL eI)) rfl) (te_as (te_var 4 (x := z_307.2.1) (e := eA) rfl))) (te_prj (e := (eP eI eI)) (k := 1) (e' := eI) (fun p => p.2) (fun _ _ q => q) (te_get (te_var 7 (x := z_308.2) (e := (eO (eP eI eI))) rfl)))))) (fun is_fine_309 => (ts_ret hr (te_if (tb_tst (te_var 8 (x := is_fine_309) (e := eB) rfl)) (te_co (e' := (eO (eT eI))) (fun x => some x) (fun _ => rfl) (te_call3 c__law_more (te_var 1 (x := payments_305) (e := (eT eI)) rfl) (te_tupL (tl_cons (te_as (te_var 4 (x := z_307.2.1) (e := eA) rfl)) tl_nil)) (te_as (te_var 5 (x := z_307.2.2) (e := eA) rfl)))) (te_co (e' := (eO (eT eI))) (fun _ => none) (fun _ => rfl) te_non))))) (ts_via (ts_set 9 (te_if (tb_tst (te_op o_eqA (te_var 3 (x := z_307.1) (e := eA) rfl) (te_co eS (fun _ => rfl) (te_str "ring")))) (te_call3 c__law_ring (te_var 0 (x := book_here_304) (e := (eT (eP eI (eT (eP eI eI))))) rfl) (te_var 1 (x := payments_305) (e := (eT eI)) rfl) (te_as (te_var 4 (x := z_307.2.1) (e := eA) rfl))) (te_co (e' := (eO (eT eI))) (fun _ => none) (fun _ => rfl) te_non)) (fun ring_here_310 => (ts_seq0 (ts_if (tb_or (tb_tst (te_isNO nn_T (te_var 9 (x := ring_here_310) (e := (eO (eT eI))) rfl))) (tb_or (tb_tst (te_op o_gt (te_as (te_var 5 (x := z_307.2.2) (e := eA) rfl)) (te_call3 c__law_rest (te_var 0 (x := book_here_304) (e := (eT (eP eI (eT (eP eI eI))))) rfl) (te_var 1 (x := payments_305) (e := (eT eI)) rfl) (te_get (te_var 9 (x := ring_here_310) (e := (eO (eT eI))) rfl))))) (tb_tst (te_op o_lt (te_cb1 o_maxL (te_frz (tn_lc (ps1 := fun a_311 => [some (.v ((eT (eP eI (eT (eP eI eI)))) book_here_304)), some (.v ((eT eI) payments_305)), some (.v (eA step_306)), some (.v (eA z_307.1)), some (.v (eA z_307.2.1)), some (.v (eA z_307.2.2)), some (.v ((eL eI) z_308.1)), some (.v ((eO (eP eI eI)) z_308.2)), none, some (.v ((eO (eT eI)) ring_here_310)), some (.v (eI a_311))]) (ti_T (te_get (te_var 9 (x := ring_here_310) (e := (eO (eT eI))) rfl))) (fun a_311 => (tg_name 10)) (fun a_311 => tb_yes) (fun a_311 => (te_op o_ixL (te_var 6 (x := z_308.1) (e := (eL eI)) rfl) (te_var 10 (x := a_311) (e := eI) rfl)))))) (te_int 1))))) (ts_ret hr (te_co (e' := (eO (eT eI))) (fun _ => none) (fun _ => rfl) te_non)) (ts_via (ts_ret hr (te_co (e' := (eO (eT eI))) (fun x => some x) (fun _ => rfl) (te_call3 c__law_more (te_var 1 (x := payments_305) (e := (eT eI)) rfl) (te_get (te_var 9 (x := ring_here_310) (e := (eO (eT eI))) rfl)) (te_as (te_var 5 (x := z_307.2.2) (e := eA) rfl)))))))))))))))))))))))
  exact h _ m (u__law_after t__law_is_int t__law_held t__law_next t__law_more t__law_ring t__law_rest book_here_304 payments_305 step_306 Q E q)
theorem law__law_end : ∀ ds Q E, sp__law_end ds Q E → d__law_end { nx := fun _ => Q .non, rt := Q, ex := E } (dstart 4 ds) := by
  rintro ds Qd E ⟨book_here_312, value_313, Q, rfl, hr, q⟩
  have m : Me [some (.v ((eT (eP eI (eT (eP eI eI)))) book_here_312)), some (.v (eA value_313)), none, none] [.v ((eT (eP eI (eT (eP eI eI)))) book_here_312), .v (eA value_313), .no, .no] := (me_of [.v ((eT (eP eI (eT (eP eI eI)))) book_here_312), .v (eA value_313), .no, .no]).sub (by repeat (first | exact True.intro | refine And.intro rfl ?_))
  have h : TS [some (.v ((eT (eP eI (eT (eP eI eI)))) book_here_312)), some (.v (eA value_313)), none, none] d__law_end { nx := fun _ => Qd .non, rt := Qd, ex := E } (bindP (bindW (bindW (pureW value_313) fun x => pureW (isT "tuple" (eA x))) fun c => ifW c (bindW (bindW (bindW (bindW (pureW (0 : Int)) fun x => bindW (pureW []) fun xs => pureW (x :: xs)) szW) fun x => bindW (bindW (pureW book_here_312) lenW) fun y => repT x y) fun x => pureW (some x)) (bindW (pureW ()) fun _ => pureW (none : (Option (List Int))))) (fun payments_314 => bindP (bindW (bindW (bindW (pureW payments_314) fun x => pureW x.isSome) fun c => ifW c (pureW value_313) (bindW (bindW (pureW []) szW) fun x => pureW ((eT eI) x))) (asW (eT eA))) (fun xs => forP (fun x_323 (s_322 : (Option (List Int))) N_324 B_325 => joinP (fun (K_331 : (Option (List Int)) → Prop) => bindP (bindW (pureW s_322) fun x => pureW x.isSome) (fun b => ifP b (bindP (bindW (pureW book_here_312) fun x0 => bindW (bindW (pureW s_322) getW) fun x1 => bindW (pureW x_323) fun x2 => t__law_after x0 x1 x2) (fun payments_333 => K_331 payments_333) E) (K_331 s_322)) E) (fun (s_330 : (Option (List Int))) => N_324 s_330)) (fun (s_322 : (Option (List Int))) => ((pureW s_322) Q E)) xs payments_314) E) E) := by
    simp only [d__law_end, d__law_end_2, r__law_end_2, d__law_end_1, r__law_end_1, d__law_end_0, r__law_end_0]
    exact (ts_set 2 (te_if (tb_tst (te_isi (te_var 1 (x := value_313) (e := eA) rfl))) (te_co (e' := (eO (eT eI))) (fun x => some x) (fun _ => rfl) (te_op o_repT (te_tupL (tl_cons (te_int 0) tl_nil)) (te_cb1 o_lenT (te_var 0 (x := book_here_312) (e := (eT (eP eI (eT (eP eI eI))))) rfl)))) (te_co (e' := (eO (eT eI))) (fun _ => none) (fun _ => rfl) te_non)) (fun payments_314 => (ts_for (fun (s_322 : (Option (List Int))) => [some (.v ((eT (eP eI (eT (eP eI eI)))) book_here_312)), some (.v (eA value_313)), some (.v ((eO (eT eI)) s_322)), none]) payments_314 (ps1 := fun x_323 s_322 => [some (.v ((eT (eP eI (eT (eP eI eI)))) book_here_312)), some (.v (eA value_313)), some (.v ((eO (eT eI)) s_322)), some (.v (eA x_323))]) (ti_T (te_as (te_if (tb_tst (te_notNO nn_T (te_var 2 (x := payments_314) (e := (eO (eT eI))) rfl))) (te_var 1 (x := value_313) (e := eA) rfl) (te_co (eT eI) (fun _ => rfl) (te_tupL (tl_nil : TL _ _ eI _)))))) (by repeat (first | exact True.intro | refine And.intro rfl ?_)) (fun x_323 s_322 => (tg_name 3)) (fun x_323 s_322 N_324 nx_327 hN_326 => (ts_last (ts_join (fun (K_331 : (Option (List Int)) → Prop) => bindP (bindW (pureW s_322) fun x => pureW x.isSome) (fun b => ifP b (bindP (bindW (pureW book_here_312) fun x0 => bindW (bindW (pureW s_322) getW) fun x1 => bindW (pureW x_323) fun x2 => t__law_after x0 x1 x2) (fun payments_333 => K_331 payments_333) E) (K_331 s_322)) E) (fun (s_330 : (Option (List Int))) => [some (.v ((eT (eP eI (eT (eP eI eI)))) book_here_312)), some (.v (eA value_313)), some (.v ((eO (eT eI)) s_330)), some (.v (eA x_323))]) (fun s_330 => (ts_fall hN_326 s_330 (by repeat (first | exact True.intro | refine And.intro rfl ?_)))) (fun K_331 hK_332 => ts_if (tb_tst (te_notNO nn_T (te_var 2 (x := s_322) (e := (eO (eT eI))) rfl))) (ts_last (ts_set 2 (te_call3 c__law_after (te_var 0 (x := book_here_312) (e := (eT (eP eI (eT (eP eI eI))))) rfl) (te_get (te_var 2 (x := s_322) (e := (eO (eT eI))) rfl)) (te_var 3 (x := x_323) (e := eA) rfl)) (fun payments_333 => (ts_fall hK_332 payments_333 (by repeat (first | exact True.intro | refine And.intro rfl ?_)))))) (ts_fall hK_332 s_322 (by repeat (first | exact True.intro | refine And.intro rfl ?_))))))) (fun s_322 => (ts_ret hr (te_var 2 (x := s_322) (e := (eO (eT eI))) rfl))))))
  exact h _ m (u__law_end t__law_after book_here_312 value_313 Q E q)
theorem law__law_rich : ∀ ds Q E, sp__law_rich ds Q E → d__law_rich { nx := fun _ => Q .non, rt := Q, ex := E } (dstart 5 ds) := by
  rintro ds Qd E ⟨book_here_334, payments_335, Q, rfl, hr, q⟩
  have m : Me [some (.v ((eT (eP eI (eT (eP eI eI)))) book_here_334)), some (.v ((eT eI) payments_335)), none, none, none] [.v ((eT (eP eI (eT (eP eI eI)))) book_here_334), .v ((eT eI) payments_335), .no, .no, .no] := (me_of [.v ((eT (eP eI (eT (eP eI eI)))) book_here_334), .v ((eT eI) payments_335), .no, .no, .no]).sub (by repeat (first | exact True.intro | refine And.intro rfl ?_))
  have h : TS [some (.v ((eT (eP eI (eT (eP eI eI)))) book_here_334)), some (.v ((eT eI) payments_335)), none, none, none] d__law_rich { nx := fun _ => Qd .non, rt := Qd, ex := E } (bindP (bindW (pureW book_here_334) fun x0 => bindW (pureW payments_335) fun x1 => t__law_held x0 x1) (fun wealth_336 => bindP (bindW (bindW (bindW (pureW book_here_334) lenW) rng1W) fun xs => lcW (fun a_338 => (bindW (bindW (pureW wealth_336) fun x => bindW (pureW a_338) fun y => ixW x y) fun x => bindW (pureW (0 : Int)) fun y => gtI x y)) (fun a_338 => (pureW a_338)) xs) (fun found_337 => ((bindW (pureW found_337) fun xs => lcW (fun a_339 => (bindW (bindW (pureW book_here_334) fun x0 => bindW (pureW payments_335) fun x1 => bindW (pureW a_339) fun x2 => t__law_next x0 x1 x2) fun x => pureW x.isSome)) (fun a_339 => (pureW a_339)) xs) Q E)) E) E) := by
    simp only [d__law_rich, d__law_rich_2, r__law_rich_2, d__law_rich_1, r__law_rich_1, d__law_rich_0, r__law_rich_0]
    exact (ts_set 2 (te_call2 c__law_held (te_var 0 (x := book_here_334) (e := (eT (eP eI (eT (eP eI eI))))) rfl) (te_var 1 (x := payments_335) (e := (eT eI)) rfl)) (fun wealth_336 => (ts_setN 3 (tn_lc (ps1 := fun a_338 => [some (.v ((eT (eP eI (eT (eP eI eI)))) book_here_334)), some (.v ((eT eI) payments_335)), some (.v ((eL eI) wealth_336)), none, some (.v (eI a_338))]) (ti_rng1 (te_cb1 o_lenT (te_var 0 (x := book_here_334) (e := (eT (eP eI (eT (eP eI eI))))) rfl))) (fun a_338 => (tg_name 4)) (fun a_338 => (tb_tst (te_op o_gt (te_op o_ixL (te_var 2 (x := wealth_336) (e := (eL eI)) rfl) (te_var 4 (x := a_338) (e := eI) rfl)) (te_int 0)))) (fun a_338 => (te_var 4 (x := a_338) (e := eI) rfl))) (fun found_337 => (ts_ret hr (te_frz (tn_lc (ps1 := fun a_339 => [some (.v ((eT (eP eI (eT (eP eI eI)))) book_here_334)), some (.v ((eT eI) payments_335)), some (.v ((eL eI) wealth_336)), some (.v ((eL eI) found_337)), some (.v (eI a_339))]) (ti_L (te_var 3 (x := found_337) (e := (eL eI)) rfl)) (fun a_339 => (tg_name 4)) (fun a_339 => (tb_tst (te_notNO nn_P (te_call3 c__law_next (te_var 0 (x := book_here_334) (e := (eT (eP eI (eT (eP eI eI))))) rfl) (te_var 1 (x := payments_335) (e := (eT eI)) rfl) (te_var 4 (x := a_339) (e := eI) rfl))))) (fun a_339 => (te_var 4 (x := a_339) (e := eI) rfl)))))))))
  exact h _ m (u__law_rich t__law_held t__law_next book_here_334 payments_335 Q E q)
theorem law__law_finish : ∀ ds Q E, sp__law_finish ds Q E → d__law_finish { nx := fun _ => Q .non, rt := Q, ex := E } (dstart 8 ds) := by
  rintro ds Qd E ⟨book_here_340, run_341, Q, rfl, hr, q⟩
  have m : Me [some (.v ((eT (eP eI (eT (eP eI eI)))) book_here_340)), some (.v ((eT (e3 eS eI eI)) run_341)), none, none, none, none, none, none] [.v ((eT (eP eI (eT (eP eI eI)))) book_here_340), .v ((eT (e3 eS eI eI)) run_341), .no, .no, .no, .no, .no, .no] := (me_of [.v ((eT (eP eI (eT (eP eI eI)))) book_here_340), .v ((eT (e3 eS eI eI)) run_341), .no, .no, .no, .no, .no, .no]).sub (by repeat (first | exact True.intro | refine And.intro rfl ?_))
  have h : TS [some (.v ((eT (eP eI (eT (eP eI eI)))) book_here_340)), some (.v ((eT (e3 eS eI eI)) run_341)), none, none, none, none, none, none] d__law_finish { nx := fun _ => Qd .non, rt := Qd, ex := E } (bindP (pureW run_341) (fun found_342 => bindP (bindW (pureW book_here_340) fun x0 => bindW (bindW (pureW run_341) fun x => pureW ((eT (e3 eS eI eI)) x)) fun x1 => t__law_end x0 x1) (fun payments_343 => bindP (bindW (pureW book_here_340) fun x0 => bindW (bindW (pureW payments_343) getW) fun x1 => t__law_rich x0 x1) (fun rich_here_344 => whileP (fun (s_358 : (List (Str × Int × Int)) × (Option (List Int)) × (List Int)) => (bindW (pureW s_358.2.2) fun x => bindW (bindW (pureW []) szW) fun y => neW x y)) (fun (s_358 : (List (Str × Int × Int)) × (Option (List Int)) × (List Int)) N_360 B_361 => bindP (bindW (pureW book_here_340) fun x0 => bindW (bindW (pureW s_358.2.1) getW) fun x1 => bindW (bindW (pureW s_358.2.2) fun x => bindW (pureW (0 : Int)) fun y => ixW x y) fun x2 => t__law_ring x0 x1 x2) (fun ring_here_365 => bindP (bindW (pureW s_358.2.2) fun x => bindW (pureW (0 : Int)) fun y => ixW x y) (fun house_366 => bindP (bindW (pureW ("pay" : Str)) fun x => bindW (pureW house_366) fun y => bindW (bindW (bindW (bindW (pureW book_here_340) fun x0 => bindW (bindW (pureW s_358.2.1) getW) fun x1 => t__law_held x0 x1) fun x => bindW (pureW house_366) fun y => ixW x y) fun x => bindW (bindW (bindW (bindW (pureW book_here_340) fun x0 => bindW (bindW (pureW s_358.2.1) getW) fun x1 => bindW (pureW house_366) fun x2 => t__law_next x0 x1 x2) getW) fun p => pureW p.2) fun y => min2 x y) fun z => pureW (x, y, z)) (fun step_367 => joinP (fun (K_370 : (Str × Int × Int) → Prop) => bindP (bindW (pureW ring_here_365) fun x => pureW x.isSome) (fun b => ifP b (bindP (bindW (pureW ("ring" : Str)) fun x => bindW (pureW house_366) fun y => bindW (bindW (pureW book_here_340) fun x0 => bindW (bindW (pureW s_358.2.1) getW) fun x1 => bindW (bindW (pureW ring_here_365) getW) fun x2 => t__law_rest x0 x1 x2) fun z => pureW (x, y, z)) (fun step_372 => K_370 step_372) E) (K_370 step_367)) E) (fun (s_369 : (Str × Int × Int)) => bindP (pureW s_369) (fun z_373 => appP s_358.1 (bindP (bindW (pureW book_here_340) fun x0 => bindW (bindW (pureW s_358.2.1) getW) fun x1 => bindW (bindW (pureW s_369) fun x => pureW ((e3 eS eI eI) x)) fun x2 => t__law_after x0 x1 x2) (fun payments_374 => bindP (bindW (pureW book_here_340) fun x0 => bindW (bindW (pureW payments_374) getW) fun x1 => t__law_rich x0 x1) (fun rich_here_375 => N_360 ((s_358.1 ++ [z_373]), payments_374, rich_here_375)) E) E)) E)) E) E) E) (fun (s_358 : (List (Str × Int × Int)) × (Option (List Int)) × (List Int)) => ((bindW (pureW s_358.1) sameW) Q E)) E (found_342, payments_343, rich_here_344)) E) E) E) := by
    simp only [d__law_finish, d__law_finish_2b_5, r__law_finish_2b_5, d__law_finish_2b_4, r__law_finish_2b_4, d__law_finish_2b_3, r__law_finish_2b_3, d__law_finish_2b_2, r__law_finish_2b_2, d__law_finish_2b_1, r__law_finish_2b_1, d__law_finish_2b_0, r__law_finish_2b_0, d__law_finish_3, r__law_finish_3, d__law_finish_2, r__law_finish_2, d__law_finish_1, r__law_finish_1, d__law_finish_0, r__law_finish_0]
    exact (ts_parO 2 3 (tn_listT (te_var 1 (x := run_341) (e := (eT (e3 eS eI eI))) rfl)) (te_call2 c__law_end (te_var 0 (x := book_here_340) (e := (eT (eP eI (eT (eP eI eI))))) rfl) (te_co (eT (e3 eS eI eI)) (fun _ => rfl) (te_var 1 (x := run_341) (e := (eT (e3 eS eI eI))) rfl))) (fun found_342 payments_343 => (ts_set 4 (te_call2 c__law_rich (te_var 0 (x := book_here_340) (e := (eT (eP eI (eT (eP eI eI))))) rfl) (te_get (te_var 3 (x := payments_343) (e := (eO (eT eI))) rfl))) (fun rich_here_344 => (ts_while (fun (s_358 : (List (Str × Int × Int)) × (Option (List Int)) × (List Int)) => [some (.v ((eT (eP eI (eT (eP eI eI)))) book_here_340)), some (.v ((eT (e3 eS eI eI)) run_341)), some (.own ((s_358.1 : (List (Str × Int × Int))).map (e3 eS eI eI))), some (.v ((eO (eT eI)) s_358.2.1)), some (.v ((eL eI) s_358.2.2)), none, none, none]) (found_342, payments_343, rich_here_344) (by repeat (first | exact True.intro | refine And.intro rfl ?_)) (fun s_358 => (tb_tst (te_op (o_ne (eq_L eq_I) (by decide) ni_L) (te_var 4 (x := s_358.2.2) (e := (eL eI)) rfl) (te_lstL (tl_nil : TL _ _ eI _))))) (fun s_358 N_360 nx_363 hN_362 => (ts_par 5 6 (te_call3 c__law_ring (te_var 0 (x := book_here_340) (e := (eT (eP eI (eT (eP eI eI))))) rfl) (te_get (te_var 3 (x := s_358.2.1) (e := (eO (eT eI))) rfl)) (te_op o_ixL (te_var 4 (x := s_358.2.2) (e := (eL eI)) rfl) (te_int 0))) (te_op o_ixL (te_var 4 (x := s_358.2.2) (e := (eL eI)) rfl) (te_int 0)) (fun ring_here_365 house_366 => (ts_set 7 (te_tup3 (te_str "pay") (te_var 6 (x := house_366) (e := eI) rfl) (te_cb2 o_min2 (te_op o_ixL (te_call2 c__law_held (te_var 0 (x := book_here_340) (e := (eT (eP eI (eT (eP eI eI))))) rfl) (te_get (te_var 3 (x := s_358.2.1) (e := (eO (eT eI))) rfl))) (te_var 6 (x := house_366) (e := eI) rfl)) (te_prj (e := (eP eI eI)) (k := 1) (e' := eI) (fun p => p.2) (fun _ _ q => q) (te_get (te_call3 c__law_next (te_var 0 (x := book_here_340) (e := (eT (eP eI (eT (eP eI eI))))) rfl) (te_get (te_var 3 (x := s_358.2.1) (e := (eO (eT eI))) rfl)) (te_var 6 (x := house_366) (e := eI) rfl)))))) (fun step_367 => (ts_join (fun (K_370 : (Str × Int × Int) → Prop) => bindP (bindW (pureW ring_here_365) fun x => pureW x.isSome) (fun b => ifP b (bindP (bindW (pureW ("ring" : Str)) fun x => bindW (pureW house_366) fun y => bindW (bindW (pureW book_here_340) fun x0 => bindW (bindW (pureW s_358.2.1) getW) fun x1 => bindW (bindW (pureW ring_here_365) getW) fun x2 => t__law_rest x0 x1 x2) fun z => pureW (x, y, z)) (fun step_372 => K_370 step_372) E) (K_370 step_367)) E) (fun (s_369 : (Str × Int × Int)) => [some (.v ((eT (eP eI (eT (eP eI eI)))) book_here_340)), some (.v ((eT (e3 eS eI eI)) run_341)), some (.own ((s_358.1 : (List (Str × Int × Int))).map (e3 eS eI eI))), some (.v ((eO (eT eI)) s_358.2.1)), some (.v ((eL eI) s_358.2.2)), some (.v ((eO (eT eI)) ring_here_365)), some (.v (eI house_366)), some (.v ((e3 eS eI eI) s_369))]) (fun s_369 => (ts_app 2 (xs := s_358.1) rfl (te_var 7 (x := s_369) (e := (e3 eS eI eI)) rfl) (fun z_373 => (ts_set 3 (te_call3 c__law_after (te_var 0 (x := book_here_340) (e := (eT (eP eI (eT (eP eI eI))))) rfl) (te_get (te_var 3 (x := s_358.2.1) (e := (eO (eT eI))) rfl)) (te_co (e3 eS eI eI) (fun _ => rfl) (te_var 7 (x := s_369) (e := (e3 eS eI eI)) rfl))) (fun payments_374 => (ts_last (ts_set 4 (te_call2 c__law_rich (te_var 0 (x := book_here_340) (e := (eT (eP eI (eT (eP eI eI))))) rfl) (te_get (te_var 3 (x := payments_374) (e := (eO (eT eI))) rfl))) (fun rich_here_375 => (ts_fall hN_362 ((s_358.1 ++ [z_373]), payments_374, rich_here_375) (by repeat (first | exact True.intro | refine And.intro rfl ?_))))))))))) (fun K_370 hK_371 => ts_if (tb_tst (te_notNO nn_T (te_var 5 (x := ring_here_365) (e := (eO (eT eI))) rfl))) (ts_last (ts_set 7 (te_tup3 (te_str "ring") (te_var 6 (x := house_366) (e := eI) rfl) (te_call3 c__law_rest (te_var 0 (x := book_here_340) (e := (eT (eP eI (eT (eP eI eI))))) rfl) (te_get (te_var 3 (x := s_358.2.1) (e := (eO (eT eI))) rfl)) (te_get (te_var 5 (x := ring_here_365) (e := (eO (eT eI))) rfl)))) (fun step_372 => (ts_fall hK_371 step_372 (by repeat (first | exact True.intro | refine And.intro rfl ?_)))))) (ts_fall hK_371 step_367 (by repeat (first | exact True.intro | refine And.intro rfl ?_)))))))))) (fun s_358 => (ts_frz1 2 (xs := s_358.1) rfl (ts_ret hr (te_cb1 o_tupleL (te_var 2 (x := s_358.1) (e := (eL (e3 eS eI eI))) rfl))))))))))
  exact h _ m (u__law_finish t__law_end t__law_rich t__law_ring t__law_held t__law_next t__law_rest t__law_after book_here_340 run_341 Q E q)
theorem law__law_least : ∀ ds Q E, sp__law_least ds Q E → d__law_least { nx := fun _ => Q .non, rt := Q, ex := E } (dstart 1 ds) := by
  rintro ds Qd E ⟨book_here_376, Q, rfl, hr, q⟩
  have m : Me [some (.v ((eT (eP eI (eT (eP eI eI)))) book_here_376))] [.v ((eT (eP eI (eT (eP eI eI)))) book_here_376)] := (me_of [.v ((eT (eP eI (eT (eP eI eI)))) book_here_376)]).sub (by repeat (first | exact True.intro | refine And.intro rfl ?_))
  have h : TS [some (.v ((eT (eP eI (eT (eP eI eI)))) book_here_376))] d__law_least { nx := fun _ => Qd .non, rt := Qd, ex := E } (((bindW (bindW (pureW book_here_376) fun x0 => bindW (bindW (bindW (pureW book_here_376) fun x0 => bindW (bindW (pureW []) szW) fun x1 => t__law_finish x0 x1) fun x => pureW ((eT (e3 eS eI eI)) x)) fun x1 => t__law_end x0 x1) getW) Q E)) := by
    simp only [d__law_least, d__law_least_0, r__law_least_0]
    exact (ts_ret hr (te_get (te_call2 c__law_end (te_var 0 (x := book_here_376) (e := (eT (eP eI (eT (eP eI eI))))) rfl) (te_co (eT (e3 eS eI eI)) (fun _ => rfl) (te_call2 c__law_finish (te_var 0 (x := book_here_376) (e := (eT (eP eI (eT (eP eI eI))))) rfl) (te_tupL (tl_nil : TL _ _ (e3 eS eI eI) _)))))))
  exact h _ m (u__law_least t__law_finish t__law_end book_here_376 Q E q)
theorem law__law_odd : ∀ ds Q E, sp__law_odd ds Q E → d__law_odd { nx := fun _ => Q .non, rt := Q, ex := E } (dstart 2 ds) := by
  rintro ds Qd E ⟨drum_here_377, Q, rfl, hr, q⟩
  have m : Me [some (.v (eDr drum_here_377)), none] [.v (eDr drum_here_377), .no] := (me_of [.v (eDr drum_here_377), .no]).sub (by repeat (first | exact True.intro | refine And.intro rfl ?_))
  have h : TS [some (.v (eDr drum_here_377)), none] d__law_odd { nx := fun _ => Qd .non, rt := Qd, ex := E } (bindP (bindW (bindW (bindW (pureW ()) fun x => pureW (eN x)) fun x => bindW (bindW (bindW (pureW true) fun x => pureW (eB x)) fun x => bindW (bindW (bindW (pureW false) fun x => pureW (eB x)) fun x => bindW (bindW (bindW (bindW (pureW (1 : Int)) fun i => pureW (-i)) fun x => pureW (eI x)) fun x => bindW (bindW (bindW (pureW (0 : Int)) fun x => pureW (eI x)) fun x => bindW (bindW (bindW (pureW (1 : Int)) fun x => pureW (eI x)) fun x => bindW (bindW (bindW (pureW (5 : Int)) fun x => pureW (eI x)) fun x => bindW (bindW (bindW (pureW (6 : Int)) fun x => pureW (eI x)) fun x => bindW (bindW (bindW (bindW (pureW (10 : Int)) fun x => bindW (pureW (39 : Int)) fun y => powI x y) fun x => pureW (eI x)) fun x => bindW (bindW (bindW (pureW ("" : Str)) fun x => pureW (eS x)) fun x => bindW (bindW (bindW (pureW ("pay" : Str)) fun x => pureW (eS x)) fun x => bindW (bindW (bindW (pureW ("0" : Str)) fun x => pureW (eS x)) fun x => bindW (bindW (bindW (bindW (pureW []) szW) fun x => pureW ((eT eI) x)) fun x => bindW (bindW (bindW (bindW (pureW []) szW) fun x => pureW ((eL eI) x)) fun x => bindW (bindW (pureW (D.dc [])) fun x => bindW (bindW (bindW (bindW (bindW (pureW (0 : Int)) fun x => bindW (pureW []) fun xs => pureW (x :: xs)) szW) fun x => pureW ((eT eI) x)) fun x => bindW (bindW (bindW (bindW (bindW (pureW (0 : Int)) fun x => bindW (pureW []) fun xs => pureW (x :: xs)) szW) fun x => pureW ((eL eI) x)) fun x => bindW (bindW (bindW (bindW (pureW (0 : Int)) fun x => bindW (pureW (0 : Int)) fun y => pureW (x, y)) fun x => pureW ((eP eI eI) x)) fun x => bindW (bindW (bindW (bindW (bindW (pureW true) fun x => bindW (pureW []) fun xs => pureW (x :: xs)) szW) fun x => pureW ((eT eB) x)) fun x => bindW (pureW []) fun xs => pureW (x :: xs)) fun xs => pureW (x :: xs)) fun xs => pureW (x :: xs)) fun xs => pureW (x :: xs)) fun xs => pureW (x :: xs)) fun xs => pureW (x :: xs)) fun xs => pureW (x :: xs)) fun xs => pureW (x :: xs)) fun xs => pureW (x :: xs)) fun xs => pureW (x :: xs)) fun xs => pureW (x :: xs)) fun xs => pureW (x :: xs)) fun xs => pureW (x :: xs)) fun xs => pureW (x :: xs)) fun xs => pureW (x :: xs)) fun xs => pureW (x :: xs)) fun xs => pureW (x :: xs)) fun xs => pureW (x :: xs)) fun xs => pureW (x :: xs)) szW) (fun some_here_378 => ((bindW (pureW some_here_378) fun x => bindW (bindW (pureW drum_here_377) fun x0 => bindW (pureW (19 : Int)) fun x1 => t__law_beat x0 x1) fun y => ixW x y) Q E)) E) := by
    simp only [d__law_odd, d__law_odd_1, r__law_odd_1, d__law_odd_0, r__law_odd_0]
    exact (ts_set 1 (te_lstL (tl_cons (te_co eN (fun _ => rfl) te_non) (tl_cons (te_co eB (fun _ => rfl) (te_bl true)) (tl_cons (te_co eB (fun _ => rfl) (te_bl false)) (tl_cons (te_co eI (fun _ => rfl) (te_neg (te_int 1))) (tl_cons (te_co eI (fun _ => rfl) (te_int 0)) (tl_cons (te_co eI (fun _ => rfl) (te_int 1)) (tl_cons (te_co eI (fun _ => rfl) (te_int 5)) (tl_cons (te_co eI (fun _ => rfl) (te_int 6)) (tl_cons (te_co eI (fun _ => rfl) (te_op o_pow (te_int 10) (te_int 39))) (tl_cons (te_co eS (fun _ => rfl) (te_str "")) (tl_cons (te_co eS (fun _ => rfl) (te_str "pay")) (tl_cons (te_co eS (fun _ => rfl) (te_str "0")) (tl_cons (te_co (eT eI) (fun _ => rfl) (te_tupL (tl_nil : TL _ _ eI _))) (tl_cons (te_co (eL eI) (fun _ => rfl) (te_lstL (tl_nil : TL _ _ eI _))) (tl_cons te_dic0 (tl_cons (te_co (eT eI) (fun _ => rfl) (te_tupL (tl_cons (te_int 0) tl_nil))) (tl_cons (te_co (eL eI) (fun _ => rfl) (te_lstL (tl_cons (te_int 0) tl_nil))) (tl_cons (te_co (eP eI eI) (fun _ => rfl) (te_tup2 (te_int 0) (te_int 0))) (tl_cons (te_co (eT eB) (fun _ => rfl) (te_tupL (tl_cons (te_bl true) tl_nil))) tl_nil)))))))))))))))))))) (fun some_here_378 => (ts_ret hr (te_op o_ixL (te_var 1 (x := some_here_378) (e := (eL eA)) rfl) (te_call2 c__law_beat (te_var 0 (x := drum_here_377) (e := eDr) rfl) (te_int 19))))))
  exact h _ m (u__law_odd t__law_beat drum_here_377 Q E q)
theorem law__law_bent : ∀ ds Q E, sp__law_bent ds Q E → d__law_bent { nx := fun _ => Q .non, rt := Q, ex := E } (dstart 8 ds) := by
  rintro ds Qd E ⟨drum_here_379, payments_380, Q, rfl, hr, q⟩
  have m : Me [some (.v (eDr drum_here_379)), some (.v ((eT eI) payments_380)), none, none, none, none, none, none] [.v (eDr drum_here_379), .v ((eT eI) payments_380), .no, .no, .no, .no, .no, .no] := (me_of [.v (eDr drum_here_379), .v ((eT eI) payments_380), .no, .no, .no, .no, .no, .no]).sub (by repeat (first | exact True.intro | refine And.intro rfl ?_))
  have h : TS [some (.v (eDr drum_here_379)), some (.v ((eT eI) payments_380)), none, none, none, none, none, none] d__law_bent { nx := fun _ => Qd .non, rt := Qd, ex := E } (bindP (bindW (pureW drum_here_379) fun x0 => bindW (bindW (pureW payments_380) lenW) fun x1 => t__law_beat x0 x1) (fun spot_381 => bindP (bindW (pureW payments_380) fun x => bindW (pureW spot_381) fun y => ixW x y) (fun own_382 => bindP (bindW (pureW drum_here_379) fun x0 => bindW (bindW (pureW (10 : Int)) fun x => bindW (pureW (9 : Int)) fun y => powI x y) fun x1 => t__law_beat x0 x1) (fun any_amount_383 => bindP (bindW (pureW drum_here_379) fun x0 => t__law_odd x0) (fun strange_384 => bindP (bindW (bindW (bindW (bindW (bindW (pureW own_382) fun x => bindW (pureW (1 : Int)) fun y => addI x y) fun x => pureW (eI x)) fun x => bindW (bindW (bindW (bindW (pureW own_382) fun x => bindW (pureW (1 : Int)) fun y => subI x y) fun x => pureW (eI x)) fun x => bindW (bindW (bindW (bindW (pureW own_382) fun x => bindW (pureW (1 : Int)) fun y => eqI x y) fun x => pureW (eB x)) fun x => bindW (bindW (bindW (bindW (pureW own_382) strW) fun x => pureW (eS x)) fun x => bindW (bindW (bindW (pureW ()) fun x => pureW (eN x)) fun x => bindW (bindW (bindW (pureW any_amount_383) fun x => pureW (eI x)) fun x => bindW (bindW (bindW (bindW (bindW (pureW own_382) fun x => bindW (pureW []) fun xs => pureW (x :: xs)) szW) fun x => pureW ((eT eI) x)) fun x => bindW (bindW (pureW strange_384) fun x => bindW (pureW []) fun xs => pureW (x :: xs)) fun xs => pureW (x :: xs)) fun xs => pureW (x :: xs)) fun xs => pureW (x :: xs)) fun xs => pureW (x :: xs)) fun xs => pureW (x :: xs)) fun xs => pureW (x :: xs)) fun xs => pureW (x :: xs)) szW) fun x => bindW (bindW (pureW drum_here_379) fun x0 => bindW (pureW (8 : Int)) fun x1 => t__law_beat x0 x1) fun y => ixW x y) (fun new_385 => bindP (bindW (bindW (bindW (bindW (bindW (bindW (bindW (pureW payments_380) fun xs => bindW (pureW none) fun l => bindW (bindW (pureW spot_381) fun i => pureW (some i)) fun h => pureW (cutT xs l h)) fun xs => pureW (xs.map eI)) fun x => bindW (bindW (bindW (pureW new_385) fun x => bindW (pureW []) fun xs => pureW (x :: xs)) szW) fun y => catW x y) fun x => bindW (bindW (bindW (pureW payments_380) fun xs => bindW (bindW (bindW (pureW spot_381) fun x => bindW (pureW (1 : Int)) fun y => addI x y) fun i => pureW (some i)) fun l => bindW (pureW none) fun h => pureW (cutT xs l h)) fun xs => pureW (xs.map eI)) fun y => catW x y) fun x => pureW ((eT eA) x)) fun x => bindW (bindW (bindW (bindW (bindW (pureW payments_380) fun xs => bindW (pureW none) fun l => bindW (bindW (pureW spot_381) fun i => pureW (some i)) fun h => pureW (cutT xs l h)) fun x => bindW (bindW (pureW payments_380) fun xs => bindW (bindW (bindW (pureW spot_381) fun x => bindW (pureW (1 : Int)) fun y => addI x y) fun i => pureW (some i)) fun l => bindW (pureW none) fun h => pureW (cutT xs l h)) fun y => catW x y) fun x => pureW ((eT eI) x)) fun x => bindW (bindW (bindW (bindW (pureW payments_380) fun xs => pureW xs.reverse) fun x => pureW ((eT eI) x)) fun x => bindW (pureW []) fun xs => pureW (x :: xs)) fun xs => pureW (x :: xs)) fun xs => pureW (x :: xs)) szW) (fun some_here_386 => ((bindW (bindW (bindW (bindW (bindW (pureW some_here_386) fun xs => bindW (pureW none) fun l => bindW (bindW (pureW (1 : Int)) fun i => pureW (some i)) fun h => pureW (cutT xs l h)) fun x => bindW (pureW (5 : Int)) fun y => repL x y) fun x => bindW (pureW some_here_386) fun y => catW x y) fun x => bindW (bindW (bindW (bindW (bindW (pureW payments_380) sameW) fun x => pureW ((eL eI) x)) fun x => bindW (bindW (bindW (bindW (pureW payments_380) fun x => bindW (bindW (pureW payments_380) fun xs => bindW (bindW (pureW spot_381) fun i => pureW (some i)) fun l => bindW (pureW none) fun h => pureW (cutT xs l h)) fun y => catW x y) fun x => pureW ((eT eI) x)) fun x => bindW (pureW []) fun xs => pureW (x :: xs)) fun xs => pureW (x :: xs)) szW) fun y => catW x y) fun x => bindW (bindW (pureW drum_here_379) fun x0 => bindW (pureW (10 : Int)) fun x1 => t__law_beat x0 x1) fun y => ixW x y) Q E)) E) E) E) E) E) E) := by
    simp only [d__law_bent, d__law_bent_4, r__law_bent_4, d__law_bent_3, r__law_bent_3, d__law_bent_2, r__law_bent_2, d__law_bent_1, r__law_bent_1, d__law_bent_0, r__law_bent_0]
    exact (ts_set 2 (te_call2 c__law_beat (te_var 0 (x := drum_here_379) (e := eDr) rfl) (te_cb1 o_lenT (te_var 1 (x := payments_380) (e := (eT eI)) rfl))) (fun spot_381 => (ts_par3 3 4 5 (te_op o_ixT (te_var 1 (x := payments_380) (e := (eT eI)) rfl) (te_var 2 (x := spot_381) (e := eI) rfl)) (te_call2 c__law_beat (te_var 0 (x := drum_here_379) (e := eDr) rfl) (te_op o_pow (te_int 10) (te_int 9))) (te_call1 c__law_odd (te_var 0 (x := drum_here_379) (e := eDr) rfl)) (fun own_382 any_amount_383 strange_384 => (ts_set 6 (te_op o_ixL (te_lstL (tl_cons (te_co eI (fun _ => rfl) (te_op o_add (te_var 3 (x := own_382) (e := eI) rfl) (te_int 1))) (tl_cons (te_co eI (fun _ => rfl) (te_op o_sub (te_var 3 (x := own_382) (e := eI) rfl) (te_int 1))) (tl_cons (te_co eB (fun _ => rfl) (te_op o_eqI (te_var 3 (x := own_382) (e := eI) rfl) (te_int 1))) (tl_cons (te_co eS (fun _ => rfl) (te_cb1 o_str (te_var 3 (x := own_382) (e := eI) rfl))) (tl_cons (te_co eN (fun _ => rfl) te_non) (tl_cons (te_co eI (fun _ => rfl) (te_var 4 (x := any_amount_383) (e := eI) rfl)) (tl_cons (te_co (eT eI) (fun _ => rfl) (te_tupL (tl_cons (te_var 3 (x := own_382) (e := eI) rfl) tl_nil))) (tl_cons (te_var 5 (x := strange_384) (e := eA) rfl) tl_nil))))))))) (te_call2 c__law_beat (te_var 0 (x := drum_here_379) (e := eDr) rfl) (te_int 8))) (fun new_385 => (ts_set 7 (te_lstL (tl_cons (te_co (eT eA) (fun _ => rfl) (te_op o_catT (te_op o_catT (te_co (e' := (eT eA)) (fun xs => xs.map eI) co_mapT (te_slT (te_var 1 (x := payments_380) (e := (eT eI)) rfl) tp_none (tp_some (te_var 2 (x := spot_381) (e := eI) rfl)))) (te_tupL (tl_cons (te_var 6 (x := new_385) (e := eA) rfl) tl_nil))) (te_co (e' := (eT eA)) (fun xs => xs.map eI) co_mapT (te_slT (te_var 1 (x := payments_380) (e := (eT eI)) rfl) (tp_some (te_op o_add (te_var 2 (x := spot_381) (e := eI) rfl) (te_int 1))) tp_none)))) (tl_cons (te_co (eT eI) (fun _ => rfl) (te_op o_catT (te_slT (te_var 1 (x := payments_380) (e := (eT eI)) rfl) tp_none (tp_some (te_var 2 (x := spot_381) (e := eI) rfl))) (te_slT (te_var 1 (x := payments_380) (e := (eT eI)) rfl) (tp_some (te_op o_add (te_var 2 (x := spot_381) (e := eI) rfl) (te_int 1))) tp_none))) (tl_cons (te_co (eT eI) (fun _ => rfl) (te_revT (te_var 1 (x := payments_380) (e := (eT eI)) rfl))) tl_nil)))) (fun some_here_386 => (ts_ret hr (te_op o_ixL (te_op o_catL (te_op o_catL (te_op o_repL (te_slL (te_var 7 (x := some_here_386) (e := (eL eA)) rfl) tp_none (tp_some (te_int 1))) (te_int 5)) (te_var 7 (x := some_here_386) (e := (eL eA)) rfl)) (te_lstL (tl_cons (te_co (eL eI) (fun _ => rfl) (te_cb1 o_listT (te_var 1 (x := payments_380) (e := (eT eI)) rfl))) (tl_cons (te_co (eT eI) (fun _ => rfl) (te_op o_catT (te_var 1 (x := payments_380) (e := (eT eI)) rfl) (te_slT (te_var 1 (x := payments_380) (e := (eT eI)) rfl) (tp_some (te_var 2 (x := spot_381) (e := eI) rfl)) tp_none))) tl_nil)))) (te_call2 c__law_beat (te_var 0 (x := drum_here_379) (e := eDr) rfl) (te_int 10))))))))))))
  exact h _ m (u__law_bent t__law_beat t__law_odd drum_here_379 payments_380 Q E q)
theorem law__law_some : ∀ ds Q E, sp__law_some ds Q E → d__law_some { nx := fun _ => Q .non, rt := Q, ex := E } (dstart 4 ds) := by
  rintro ds Qd E ⟨drum_here_387, book_here_388, Q, rfl, hr, q⟩
  have m : Me [some (.v (eDr drum_here_387)), some (.v ((eT (eP eI (eT (eP eI eI)))) book_here_388)), none, none] [.v (eDr drum_here_387), .v ((eT (eP eI (eT (eP eI eI)))) book_here_388), .no, .no] := (me_of [.v (eDr drum_here_387), .v ((eT (eP eI (eT (eP eI eI)))) book_here_388), .no, .no]).sub (by repeat (first | exact True.intro | refine And.intro rfl ?_))
  have h : TS [some (.v (eDr drum_here_387)), some (.v ((eT (eP eI (eT (eP eI eI)))) book_here_388)), none, none] d__law_some { nx := fun _ => Qd .non, rt := Qd, ex := E } (bindP (bindW (pureW []) szW) (fun found_389 => bindP (bindW (pureW book_here_388) fun x0 => t__law_debts x0) (fun xs => forP (fun x_394 (s_393 : (List Int)) N_395 B_396 => bindP (bindW (bindW (bindW (pureW (0 : Int)) fun x => bindW (bindW (pureW x_394) fun x => bindW (bindW (bindW (pureW drum_here_387) fun x0 => bindW (bindW (pureW x_394) fun x => bindW (pureW (1 : Int)) fun y => addI x y) fun x1 => t__law_beat x0 x1) fun x => bindW (pureW []) fun xs => pureW (x :: xs)) fun xs => pureW (x :: xs)) fun xs => pureW (x :: xs)) szW) fun x => bindW (bindW (pureW drum_here_387) fun x0 => bindW (pureW (3 : Int)) fun x1 => t__law_beat x0 x1) fun y => ixW x y) (fun z_400 => appP s_393 (N_395 (s_393 ++ [z_400]))) E) (fun (s_393 : (List Int)) => ((bindW (pureW s_393) sameW) Q E)) xs found_389) E) E) := by
    simp only [d__law_some, d__law_some_2, r__law_some_2, d__law_some_1, r__law_some_1, d__law_some_0, r__law_some_0]
    exact (ts_setO 2 (tn_lst (tl_nil : TL _ _ eI _)) (fun found_389 => (ts_for (fun (s_393 : (List Int)) => [some (.v (eDr drum_here_387)), some (.v ((eT (eP eI (eT (eP eI eI)))) book_here_388)), some (.own ((s_393 : (List Int)).map eI)), none]) found_389 (ps1 := fun x_394 s_393 => [some (.v (eDr drum_here_387)), some (.v ((eT (eP eI (eT (eP eI eI)))) book_here_388)), some (.own ((s_393 : (List Int)).map eI)), some (.v (eI x_394))]) (ti_L (te_call1 c__law_debts (te_var 1 (x := book_here_388) (e := (eT (eP eI (eT (eP eI eI))))) rfl))) (by repeat (first | exact True.intro | refine And.intro rfl ?_)) (fun x_394 s_393 => (tg_name 3)) (fun x_394 s_393 N_395 nx_398 hN_397 => (ts_last (ts_app 2 (xs := s_393) rfl (te_op o_ixL (te_lstL (tl_cons (te_int 0) (tl_cons (te_var 3 (x := x_394) (e := eI) rfl) (tl_cons (te_call2 c__law_beat (te_var 0 (x := drum_here_387) (e := eDr) rfl) (te_op o_add (te_var 3 (x := x_394) (e := eI) rfl) (te_int 1))) tl_nil)))) (te_call2 c__law_beat (te_var 0 (x := drum_here_387) (e := eDr) rfl) (te_int 3))) (fun z_400 => (ts_fall hN_397 (s_393 ++ [z_400]) (by repeat (first | exact True.intro | refine And.intro rfl ?_))))))) (fun s_393 => (ts_frz1 2 (xs := s_393) rfl (ts_ret hr (te_cb1 o_tupleL (te_var 2 (x := s_393) (e := (eL eI)) rfl))))))))
  exact h _ m (u__law_some t__law_debts t__law_beat drum_here_387 book_here_388 Q E q)
theorem tlaw_law (q : t_law (fun b => b = true) (fun _ => False)) : ∀ s0, d_law { nx := fun _ => False, rt := fun x => x = .bl true, ex := fun _ => False } [s0, .v (dDrum), .no, .no, .no, .no, .no, .no, .no, .no, .no, .no, .no, .no] := by
  intro s0
  have m : Me [none, some (.v (eDr ())), none, none, none, none, none, none, none, none, none, none, none, none] [s0, .v (eDr ()), .no, .no, .no, .no, .no, .no, .no, .no, .no, .no, .no, .no] := (me_of [s0, .v (eDr ()), .no, .no, .no, .no, .no, .no, .no, .no, .no, .no, .no, .no]).sub (by repeat (first | exact True.intro | refine And.intro rfl ?_))
  let Q : Bool → Prop := fun b => b = true
  let E : EK := fun _ => False
  have hr : ∀ r, Q r → (fun x => x = D.bl true) (eB r) := fun r h => by show D.bl r = D.bl true; rw [show r = true from h]
  have h : TS [none, some (.v (eDr ())), none, none, none, none, none, none, none, none, none, none, none, none] d_law { nx := fun _ => False, rt := fun x => x = .bl true, ex := E } (bindP (bindW (pureW (4 : Int)) rng1W) (fun xs => forP (fun x_416 (s_415 : Unit) N_417 B_418 => bindP (bindW (pureW ()) fun x0 => bindW (pureW (3 : Int)) fun x1 => bindW (pureW (2 : Int)) fun x2 => bindW (pureW (2 : Int)) fun x3 => t__law_book x0 x1 x2 x3) (fun book_here_422 => bindP (bindW (pureW book_here_422) fun x0 => t__law_every x0) (fun xs => forP (fun x_427 (s_426 : Unit) N_428 B_429 => bindP (bindW (pureW book_here_422) fun x0 => bindW (bindW (pureW x_427) fun x => pureW ((eT eI) x)) fun x1 => t__law_error x0 x1) (fun due_433 => bindP (bindW (bindW (bindW (bindW (bindW (pureW book_here_422) fun x0 => bindW (bindW (pureW x_427) fun x => pureW ((eT eI) x)) fun x1 => t_settlement_error x0 x1) fun x => bindW (bindW (bindW (bindW (pureW book_here_422) fun x0 => bindW (bindW (pureW x_427) fun x => pureW ((eT eI) x)) fun x1 => t_is_settlement x0 x1) fun x => pureW (eB x)) fun x => bindW (pureW []) fun xs => pureW (x :: xs)) fun xs => pureW (x :: xs)) szW) (fun x => reprW ((eL eA) x))) fun x => bindW (bindW (bindW (bindW (pureW due_433) fun x => bindW (bindW (bindW (bindW (pureW due_433) fun x => pureW (isNon (eA x))) fun x => pureW (eB x)) fun x => bindW (pureW []) fun xs => pureW (x :: xs)) fun xs => pureW (x :: xs)) szW) (fun x => reprW ((eL eA) x))) fun y => neW x y) (fun b => ifP b (((pureW false) Q E)) (N_428 ())) E) E) (fun (s_426 : Unit) => N_417 ()) xs ()) E) E) (fun (s_415 : Unit) => bindP (bindW (pureW (6 : Int)) rng1W) (fun xs => forP (fun x_477 (s_476 : Unit) N_478 B_479 => bindP (bindW (pureW ()) fun x0 => bindW (pureW (6 : Int)) fun x1 => bindW (pureW (6 : Int)) fun x2 => bindW (bindW (bindW (bindW (pureW (9 : Int)) fun x => bindW (bindW (bindW (pureW (10 : Int)) fun x => bindW (pureW (9 : Int)) fun y => powI x y) fun x => bindW (pureW []) fun xs => pureW (x :: xs)) fun xs => pureW (x :: xs)) szW) fun x => bindW (bindW (pureW x_477) fun x => bindW (pureW (2 : Int)) fun y => modI x y) fun y => ixW x y) fun x3 => t__law_book x0 x1 x2 x3) (fun book_here_483 => bindP (bindW (pureW book_here_483) fun x0 => t__law_least x0) (fun good_484 => bindP (bindW (bindW (bindW (pureW good_484) fun x => pureW ((eT eI) x)) fun x => bindW (bindW (bindW (bindW (bindW (bindW (pureW (0 : Int)) fun x => bindW (pureW []) fun xs => pureW (x :: xs)) szW) fun x => bindW (bindW (pureW book_here_483) lenW) fun y => repT x y) fun x => pureW ((eT eI) x)) fun x => bindW (bindW (bindW (bindW (bindW (pureW book_here_483) fun x0 => t__law_debts x0) sameW) fun x => pureW ((eT eI) x)) fun x => bindW (bindW (bindW (bindW (pureW good_484) sameW) fun x => pureW ((eL eI) x)) fun x => bindW (bindW (bindW (bindW (pureW good_484) fun x => bindW (bindW (bindW (pureW (0 : Int)) fun x => bindW (pureW []) fun xs => pureW (x :: xs)) szW) fun y => catW x y) fun x => pureW ((eT eI) x)) fun x => bindW (bindW (bindW (bindW (pureW []) szW) fun x => pureW ((eT eI) x)) fun x => bindW (bindW (bindW (pureW ()) fun x => pureW (eN x)) fun x => bindW (bindW (bindW (bindW (bindW (pureW good_484) fun x => bindW (pureW []) fun xs => pureW (x :: xs)) szW) fun x => pureW ((eT (eT eI)) x)) fun x => bindW (pureW []) fun xs => pureW (x :: xs)) fun xs => pureW (x :: xs)) fun xs => pureW (x :: xs)) fun xs => pureW (x :: xs)) fun xs => pureW (x :: xs)) fun xs => pureW (x :: xs)) fun xs => pureW (x :: xs)) fun xs => pureW (x :: xs)) szW) (fun values_485 => bindP (bindW (bindW (pureW values_485) fun x => bindW (bindW (bindW (pureW (10 : Int)) rng1W) fun xs => lcW (fun a_487 => (pureW true)) (fun a_487 => (bindW (pureW ()) fun x0 => bindW (pureW good_484) fun x1 => t__law_bent x0 x1)) xs) fun y => catW x y) fun x => bindW (bindW (bindW (bindW (bindW (pureW ()) fun x0 => bindW (pureW book_here_483) fun x1 => t__law_some x0 x1) fun x => pureW ((eT eI) x)) fun x => bindW (bindW (bindW (pureW ()) fun x0 => t__law_odd x0) fun x => bindW (pureW []) fun xs => pureW (x :: xs)) fun xs => pureW (x :: xs)) szW) fun y => catW x y) (fun values_486 => bindP (pureW values_486) (fun xs => forP (fun x_504 (s_503 : Unit) N_505 B_506 => bindP (bindW (bindW (bindW (bindW (pureW book_here_483) fun x => pureW ((eT (eP eI (eT (eP eI eI)))) x)) fun x => bindW (bindW (pureW x_504) fun x => bindW (pureW []) fun xs => pureW (x :: xs)) fun xs => pureW (x :: xs)) szW) (fun x => reprW ((eL eA) x))) (fun shown_510 => bindP (bindW (pureW book_here_483) fun x0 => bindW (pureW x_504) fun x1 => t__law_error x0 x1) (fun due_511 => bindP (bindW (pureW (2 : Int)) rng1W) (fun xs => forP (fun x_516 (s_515 : Unit) N_517 B_518 => bindP (bindW (bindW (bindW (pureW book_here_483) fun x0 => bindW (pureW x_504) fun x1 => t_settlement_error x0 x1) fun x => bindW (bindW (bindW (bindW (pureW book_here_483) fun x0 => bindW (pureW x_504) fun x1 => t_is_settlement x0 x1) fun x => pureW (eB x)) fun x => bindW (pureW []) fun xs => pureW (x :: xs)) fun xs => pureW (x :: xs)) szW) (fun found_522 => bindP (bindW (bindW (bindW (pureW found_522) (fun x => reprW ((eL eA) x))) fun x => bindW (bindW (bindW (bindW (pureW due_511) fun x => bindW (bindW (bindW (bindW (pureW due_511) fun x => pureW (isNon (eA x))) fun x => pureW (eB x)) fun x => bindW (pureW []) fun xs => pureW (x :: xs)) fun xs => pureW (x :: xs)) szW) (fun x => reprW ((eL eA) x))) fun y => neW x y) fun c => ifW c (pureW true) (bindW (bindW (bindW (bindW (bindW (pureW book_here_483) fun x => pureW ((eT (eP eI (eT (eP eI eI)))) x)) fun x => bindW (bindW (pureW x_504) fun x => bindW (pureW []) fun xs => pureW (x :: xs)) fun xs => pureW (x :: xs)) szW) (fun x => reprW ((eL eA) x))) fun x => bindW (pureW shown_510) fun y => neW x y)) (fun b => ifP b (((pureW false) Q E)) (N_517 ())) E) E) (fun (s_515 : Unit) => N_505 ()) xs ()) E) E) E) (fun (s_503 : Unit) => N_478 ()) xs ()) E) E) E) E) E) (fun (s_476 : Unit) => bindP (bindW (bindW (bindW (pureW (0 : Int)) fun x => bindW (bindW (bindW (bindW (pureW (1 : Int)) fun x => bindW (pureW (5 : Int)) fun y => pureW (x, y)) fun x => bindW (pureW []) fun xs => pureW (x :: xs)) szW) fun y => pureW (x, y)) fun x => bindW (bindW (bindW (pureW (0 : Int)) fun x => bindW (bindW (bindW (bindW (pureW (0 : Int)) fun x => bindW (pureW (3 : Int)) fun y => pureW (x, y)) fun x => bindW (pureW []) fun xs => pureW (x :: xs)) szW) fun y => pureW (x, y)) fun x => bindW (pureW []) fun xs => pureW (x :: xs)) fun xs => pureW (x :: xs)) szW) (fun book_here_523 => bindP (bindW (bindW (bindW (bindW (pureW (2 : Int)) fun x => bindW (pureW (2 : Int)) fun y => pureW (x, y)) fun x => pureW ((eP eI eI) x)) fun x => bindW (bindW (bindW (bindW (pureW (1 : Int)) fun x => bindW (pureW (2 : Int)) fun y => pureW (x, y)) fun x => pureW ((eP eI eI) x)) fun x => bindW (bindW (bindW (bindW (pureW (3 : Int)) fun x => bindW (pureW (2 : Int)) fun y => pureW (x, y)) fun x => pureW ((eP eI eI) x)) fun x => bindW (bindW (bindW (bindW (pureW (4 : Int)) fun x => bindW (pureW (4 : Int)) fun y => pureW (x, y)) fun x => pureW ((eP eI eI) x)) fun x => bindW (bindW (bindW (bindW (pureW true) fun x => bindW (pureW (1 : Int)) fun y => pureW (x, y)) fun x => pureW ((eP eB eI) x)) fun x => bindW (bindW (bindW (bindW (pureW (3 : Int)) fun x => bindW (pureW (3 : Int)) fun y => pureW (x, y)) fun x => pureW ((eP eI eI) x)) fun x => bindW (pureW []) fun xs => pureW (x :: xs)) fun xs => pureW (x :: xs)) fun xs => pureW (x :: xs)) fun xs => pureW (x :: xs)) fun xs => pureW (x :: xs)) fun xs => pureW (x :: xs)) szW) (fun some_here_524 => bindP (bindW (bindW (bindW (pureW ()) fun x => pureW (eN x)) fun x => bindW (bindW (bindW (bindW (pureW (0 : Int)) fun x => bindW (pureW ("less" : Str)) fun y => pureW (x, y)) fun x => pureW ((eP eI eS) x)) fun x => bindW (bindW (bindW (bindW (pureW (0 : Int)) fun x => bindW (pureW ("more" : Str)) fun y => pureW (x, y)) fun x => pureW ((eP eI eS) x)) fun x => bindW (bindW (bindW (bindW (pureW ()) fun x => bindW (pureW ("payments" : Str)) fun y => pureW (x, y)) fun x => pureW ((eP eN eS) x)) fun x => bindW (bindW (bindW (bindW (pureW ()) fun x => bindW (pureW ("payments" : Str)) fun y => pureW (x, y)) fun x => pureW ((eP eN eS) x)) fun x => bindW (bindW (bindW (pureW ()) fun x => pureW (eN x)) fun x => bindW (pureW []) fun xs => pureW (x :: xs)) fun xs => pureW (x :: xs)) fun xs => pureW (x :: xs)) fun xs => pureW (x :: xs)) fun xs => pureW (x :: xs)) fun xs => pureW (x :: xs)) szW) (fun due_525 => ((bindW (bindW (bindW (pureW some_here_524) fun xs => lcW (fun a_526 => (pureW true)) (fun a_526 => (bindW (pureW book_here_523) fun x0 => bindW (pureW a_526) fun x1 => t_settlement_error x0 x1)) xs) fun x => pureW ((eL eA) x)) fun x => bindW (bindW (pureW due_525) fun x => pureW ((eL eA) x)) fun y => eqA x y) Q E)) E) E) E) xs ()) E) xs ()) E) := by
    simp only [d_law, d_law_0b_1b_1, r_law_0b_1b_1, d_law_0b_1b_0, r_law_0b_1b_0, d_law_0b_1, r_law_0b_1, d_law_0b_0, r_law_0b_0, d_law_1b_4b_1b_1, r_law_1b_4b_1b_1, d_law_1b_4b_1b_0, r_law_1b_4b_1b_0, d_law_1b_4b_1, r_law_1b_4b_1, d_law_1b_4b_0, r_law_1b_4b_0, d_law_1b_4, r_law_1b_4, d_law_1b_3, r_law_1b_3, d_law_1b_2, r_law_1b_2, d_law_1b_1, r_law_1b_1, d_law_1b_0, r_law_1b_0, d_law_5, r_law_5, d_law_4, r_law_4, d_law_3, r_law_3, d_law_2, r_law_2, d_law_1, r_law_1, d_law_0, r_law_0]
    exact (ts_for (fun (s_415 : Unit) => [none, some (.v (eDr ())), none, none, none, none, none, none, none, none, none, none, none, none]) () (ps1 := fun x_416 s_415 => [none, some (.v (eDr ())), some (.v (eI x_416)), none, none, none, none, none, none, none, none, none, none, none]) (ti_rng1 (te_int 4)) (by repeat (first | exact True.intro | refine And.intro rfl ?_)) (fun x_416 s_415 => (tg_name 2)) (fun x_416 s_415 N_417 nx_420 hN_419 => (ts_set 3 (te_call4 c__law_book (te_var 1 (x := ()) (e := eDr) rfl) (te_int 3) (te_int 2) (te_int 2)) (fun book_here_422 => (ts_last (ts_for (fun (s_426 : Unit) => [none, some (.v (eDr ())), some (.v (eI x_416)), some (.v ((eT (eP eI (eT (eP eI eI)))) book_here_422)), none, none, none, none, none, none, none, none, none, none]) () (ps1 := fun x_427 s_426 => [none, some (.v (eDr ())), some (.v (eI x_416)), some (.v ((eT (eP eI (eT (eP eI eI)))) book_here_422)), some (.v ((eT eI) x_427)), none, none, none, none, none, none, none, none, none]) (ti_L (te_call1 c__law_every (te_var 3 (x := book_here_422) (e := (eT (eP eI (eT (eP eI eI))))) rfl))) (by repeat (first | exact True.intro | refine And.intro rfl ?_)) (fun x_427 s_426 => (tg_name 4)) (fun x_427 s_426 N_428 nx_431 hN_430 => (ts_set 5 (te_call2 c__law_error (te_var 3 (x := book_here_422) (e := (eT (eP eI (eT (eP eI eI))))) rfl) (te_co (eT eI) (fun _ => rfl) (te_var 4 (x := x_427) (e := (eT eI)) rfl))) (fun due_433 => (ts_last (ts_seq0 (ts_if (tb_tst (te_op (o_ne eq_S (by decide) ni_S) (te_cb1 o_repr (te_lstL (tl_cons (te_call2 c_settlement_error (te_var 3 (x := book_here_422) (e := (eT (eP eI (eT (eP eI eI))))) rfl) (te_co (eT eI) (fun _ => rfl) (te_var 4 (x := x_427) (e := (eT eI)) rfl))) (tl_cons (te_co eB (fun _ => rfl) (te_call2 c_is_settlement (te_var 3 (x := book_here_422) (e := (eT (eP eI (eT (eP eI eI))))) rfl) (te_co (eT eI) (fun _ => rfl) (te_var 4 (x := x_427) (e := (eT eI)) rfl)))) tl_nil)))) (te_cb1 o_repr (te_lstL (tl_cons (te_var 5 (x := due_433) (e := eA) rfl) (tl_cons (te_co eB (fun _ => rfl) (te_isN (te_var 5 (x := due_433) (e := eA) rfl))) tl_nil)))))) (ts_ret hr (te_bl false)) (ts_via (ts_fall hN_430 () (by repeat (first | exact True.intro | refine And.intro rfl ?_)))))))))) (fun s_426 => (ts_fall hN_419 () (by repeat (first | exact True.intro | refine And.intro rfl ?_))))))))) (fun s_415 => (ts_for (fun (s_476 : Unit) => [none, some (.v (eDr ())), none, none, none, none, none, none, none, none, none, none, none, none]) () (ps1 := fun x_477 s_476 => [none, some (.v (eDr ())), some (.v (eI x_477)), none, none, none, none, none, none, none, none, none, none, none]) (ti_rng1 (te_int 6)) (by repeat (first | exact True.intro | refine And.intro rfl ?_)) (fun x_477 s_476 => (tg_name 2)) (fun x_477 s_476 N_478 nx_481 hN_480 => (ts_set 3 (te_call4 c__law_book (te_var 1 (x := ()) (e := eDr) rfl) (te_int 6) (te_int 6) (te_op o_ixL (te_lstL (tl_cons (te_int 9) (tl_cons (te_op o_pow (te_int 10) (te_int 9)) tl_nil))) (te_op o_mod (te_var 2 (x := x_477) (e := eI) rfl) (te_int 2)))) (fun book_here_483 => (ts_set 6 (te_call1 c__law_least (te_var 3 (x := book_here_483) (e := (eT (eP eI (eT (eP eI eI))))) rfl)) (fun good_484 => (ts_set 7 (te_lstL (tl_cons (te_co (eT eI) (fun _ => rfl) (te_var 6 (x := good_484) (e := (eT eI)) rfl)) (tl_cons (te_co (eT eI) (fun _ => rfl) (te_op o_repT (te_tupL (tl_cons (te_int 0) tl_nil)) (te_cb1 o_lenT (te_var 3 (x := book_here_483) (e := (eT (eP eI (eT (eP eI eI))))) rfl)))) (tl_cons (te_co (eT eI) (fun _ => rfl) (te_cb1 o_tupleL (te_call1 c__law_debts (te_var 3 (x := book_here_483) (e := (eT (eP eI (eT (eP eI eI))))) rfl)))) (tl_cons (te_co (eL eI) (fun _ => rfl) (te_cb1 o_listT (te_var 6 (x := good_484) (e := (eT eI)) rfl))) (tl_cons (te_co (eT eI) (fun _ => rfl) (te_op o_catT (te_var 6 (x := good_484) (e := (eT eI)) rfl) (te_tupL (tl_cons (te_int 0) tl_nil)))) (tl_cons (te_co (eT eI) (fun _ => rfl) (te_tupL (tl_nil : TL _ _ eI _))) (tl_cons (te_co eN (fun _ => rfl) te_non) (tl_cons (te_co (eT (eT eI)) (fun _ => rfl) (te_tupL (tl_cons (te_var 6 (x := good_484) (e := (eT eI)) rfl) tl_nil))) tl_nil))))))))) (fun values_485 => (ts_set 7 (te_op o_catL (te_op o_catL (te_var 7 (x := values_485) (e := (eL eA)) rfl) (te_frz (tn_lc (ps1 := fun a_487 => [none, some (.v (eDr ())), some (.v (eI x_477)), some (.v ((eT (eP eI (eT (eP eI eI)))) book_here_483)), none, none, some (.v ((eT eI) good_484)), some (.v ((eL eA) values_485)), none, none, none, none, none, some (.v (eI a_487))]) (ti_rng1 (te_int 10)) (fun a_487 => (tg_name 13)) (fun a_487 => tb_yes) (fun a_487 => (te_call2 c__law_bent (te_var 1 (x := ()) (e := eDr) rfl) (te_var 6 (x := good_484) (e := (eT eI)) rfl)))))) (te_lstL (tl_cons (te_co (eT eI) (fun _ => rfl) (te_call2 c__law_some (te_var 1 (x := ()) (e := eDr) rfl) (te_var 3 (x := book_here_483) (e := (eT (eP eI (eT (eP eI eI))))) rfl))) (tl_cons (te_call1 c__law_odd (te_var 1 (x := ()) (e := eDr) rfl)) tl_nil)))) (fun values_486 => (ts_last (ts_for (fun (s_503 : Unit) => [none, some (.v (eDr ())), some (.v (eI x_477)), some (.v ((eT (eP eI (eT (eP eI eI)))) book_here_483)), none, none, some (.v ((eT eI) good_484)), some (.v ((eL eA) values_486)), none, none, none, none, none, none]) () (ps1 := fun x_504 s_503 => [none, some (.v (eDr ())), some (.v (eI x_477)), some (.v ((eT (eP eI (eT (eP eI eI)))) book_here_483)), none, none, some (.v ((eT eI) good_484)), some (.v ((eL eA) values_486)), some (.v (eA x_504)), none, none, none, none, none]) (ti_L (te_var 7 (x := values_486) (e := (eL eA)) rfl)) (by repeat (first | exact True.intro | refine And.intro rfl ?_)) (fun x_504 s_503 => (tg_name 8)) (fun x_504 s_503 N_505 nx_508 hN_507 => (ts_par 9 5 (te_cb1 o_repr (te_lstL (tl_cons (te_co (eT (eP eI (eT (eP eI eI)))) (fun _ => rfl) (te_var 3 (x := book_here_483) (e := (eT (eP eI (eT (eP eI eI))))) rfl)) (tl_cons (te_var 8 (x := x_504) (e := eA) rfl) tl_nil)))) (te_call2 c__law_error (te_var 3 (x := book_here_483) (e := (eT (eP eI (eT (eP eI eI))))) rfl) (te_var 8 (x := x_504) (e := eA) rfl)) (fun shown_510 due_511 => (ts_last (ts_for (fun (s_515 : Unit) => [none, some (.v (eDr ())), some (.v (eI x_477)), some (.v ((eT (eP eI (eT (eP eI eI)))) book_here_483)), none, some (.v (eA due_511)), some (.v ((eT eI) good_484)), some (.v ((eL eA) values_486)), some (.v (eA x_504)), some (.v (eS shown_510)), none, none, none, none]) () (ps1 := fun x_516 s_515 => [none, some (.v (eDr ())), some (.v (eI x_477)), some (.v ((eT (eP eI (eT (eP eI eI)))) book_here_483)), none, some (.v (eA due_511)), some (.v ((eT eI) good_484)), some (.v ((eL eA) values_486)), some (.v (eA x_504)), some (.v (eS shown_510)), some (.v (eI x_516)), none, none, none]) (ti_rng1 (te_int 2)) (by repeat (first | exact True.intro | refine And.intro rfl ?_)) (fun x_516 s_515 => (tg_name 10)) (fun x_516 s_515 N_517 nx_520 hN_519 => (ts_set 11 (te_lstL (tl_cons (te_call2 c_settlement_error (te_var 3 (x := book_here_483) (e := (eT (eP eI (eT (eP eI eI))))) rfl) (te_var 8 (x := x_504) (e := eA) rfl)) (tl_cons (te_co eB (fun _ => rfl) (te_call2 c_is_settlement (te_var 3 (x := book_here_483) (e := (eT (eP eI (eT (eP eI eI))))) rfl) (te_var 8 (x := x_504) (e := eA) rfl))) tl_nil))) (fun found_522 => (ts_last (ts_seq0 (ts_if (tb_or (tb_tst (te_op (o_ne eq_S (by decide) ni_S) (te_cb1 o_repr (te_var 11 (x := found_522) (e := (eL eA)) rfl)) (te_cb1 o_repr (te_lstL (tl_cons (te_var 5 (x := due_511) (e := eA) rfl) (tl_cons (te_co eB (fun _ => rfl) (te_isN (te_var 5 (x := due_511) (e := eA) rfl))) tl_nil)))))) (tb_tst (te_op (o_ne eq_S (by decide) ni_S) (te_cb1 o_repr (te_lstL (tl_cons (te_co (eT (eP eI (eT (eP eI eI)))) (fun _ => rfl) (te_var 3 (x := book_here_483) (e := (eT (eP eI (eT (eP eI eI))))) rfl)) (tl_cons (te_var 8 (x := x_504) (e := eA) rfl) tl_nil)))) (te_var 9 (x := shown_510) (e := eS) rfl)))) (ts_ret hr (te_bl false)) (ts_via (ts_fall hN_519 () (by repeat (first | exact True.intro | refine And.intro rfl ?_)))))))))) (fun s_515 => (ts_fall hN_507 () (by repeat (first | exact True.intro | refine And.intro rfl ?_))))))))) (fun s_503 => (ts_fall hN_480 () (by repeat (first | exact True.intro | refine And.intro rfl ?_))))))))))))))) (fun s_476 => (ts_set 3 (te_tupL (tl_cons (te_tup2 (te_int 0) (te_tupL (tl_cons (te_tup2 (te_int 1) (te_int 5)) tl_nil))) (tl_cons (te_tup2 (te_int 0) (te_tupL (tl_cons (te_tup2 (te_int 0) (te_int 3)) tl_nil))) tl_nil))) (fun book_here_523 => (ts_set 12 (te_lstL (tl_cons (te_co (eP eI eI) (fun _ => rfl) (te_tup2 (te_int 2) (te_int 2))) (tl_cons (te_co (eP eI eI) (fun _ => rfl) (te_tup2 (te_int 1) (te_int 2))) (tl_cons (te_co (eP eI eI) (fun _ => rfl) (te_tup2 (te_int 3) (te_int 2))) (tl_cons (te_co (eP eI eI) (fun _ => rfl) (te_tup2 (te_int 4) (te_int 4))) (tl_cons (te_co (eP eB eI) (fun _ => rfl) (te_tup2 (te_bl true) (te_int 1))) (tl_cons (te_co (eP eI eI) (fun _ => rfl) (te_tup2 (te_int 3) (te_int 3))) tl_nil))))))) (fun some_here_524 => (ts_set 5 (te_lstL (tl_cons (te_co eN (fun _ => rfl) te_non) (tl_cons (te_co (eP eI eS) (fun _ => rfl) (te_tup2 (te_int 0) (te_str "less"))) (tl_cons (te_co (eP eI eS) (fun _ => rfl) (te_tup2 (te_int 0) (te_str "more"))) (tl_cons (te_co (eP eN eS) (fun _ => rfl) (te_tup2 te_non (te_str "payments"))) (tl_cons (te_co (eP eN eS) (fun _ => rfl) (te_tup2 te_non (te_str "payments"))) (tl_cons (te_co eN (fun _ => rfl) te_non) tl_nil))))))) (fun due_525 => (ts_ret hr (te_op o_eqA (te_co (eL eA) (fun _ => rfl) (te_frz (tn_lc (ps1 := fun a_526 => [none, some (.v (eDr ())), none, some (.v ((eT (eP eI (eT (eP eI eI)))) book_here_523)), none, some (.v ((eL eA) due_525)), none, none, some (.v (eA a_526)), none, none, none, some (.v ((eL eA) some_here_524)), none]) (ti_L (te_var 12 (x := some_here_524) (e := (eL eA)) rfl)) (fun a_526 => (tg_name 8)) (fun a_526 => tb_yes) (fun a_526 => (te_call2 c_settlement_error (te_var 3 (x := book_here_523) (e := (eT (eP eI (eT (eP eI eI))))) rfl) (te_var 8 (x := a_526) (e := eA) rfl)))))) (te_co (eL eA) (fun _ => rfl) (te_var 5 (x := due_525) (e := (eL eA)) rfl))))))))))))))
  exact h _ m (u_law t__law_book t__law_every t__law_error t_settlement_error t_is_settlement t__law_least t__law_debts t__law_bent t__law_some t__law_odd Q E q)
end Dl

set_option Elab.async false
set_option linter.all false
set_option maxRecDepth 100000
set_option maxHeartbeats 4000000
/-! Ul: plain laws of the typed combinators. -/
namespace Dl
open PySem PySem.Spec PyProof.Rows L2
section
variable {α β σ : Type}
theorem szle {n : Nat} (h : n ≤ 16000000) : szOk n := by show n ≤ sizeLine; rw [sizeLine_eq]; omega
theorem szlt {n : Nat} (h : n ≤ 16000000) : n < sizeLine := by rw [sizeLine_eq]; omega
theorem szle' {n : Nat} (h : n ≤ 16000000) : n ≤ sizeLine := by rw [sizeLine_eq]; omega
theorem szOk_small {n : Nat} (h : n ≤ 1000) : szOk n = True := eq_true (szle (by omega))
theorem pureW_d (x : α) : pureW x = fun (Q : α → Prop) (_ : EK) => Q x := rfl
theorem bindW_d (m : W α) (f : α → W β) : bindW m f = fun (Q : β → Prop) (E : EK) => m (fun x => f x Q E) E := rfl
theorem ifW_d (c : Bool) (a b : W α) : ifW c a b = fun (Q : α → Prop) (E : EK) => if c = true then a Q E else b Q E := rfl
/-! comprehensions -/
theorem lcP_pure (p : α → Bool) (g : α → β) (E : EK) : ∀ (xs : List α) (acc : List β) (Q : List β → Prop), Q (acc ++ (xs.filter p).map g) → lcP (fun x => pureW (p x)) (fun x => pureW (g x)) E xs acc Q
  | [], acc, Q, h => by simpa [lcP] using h
  | x :: xs, acc, Q, h => by
    simp only [lcP, pureW]
    by_cases hp : p x = true
    · simp only [hp, if_true]; refine lcP_pure p g E xs _ Q ?_; rw [List.filter_cons_of_pos hp] at h; simpa using h
    · simp only [hp, if_false]; refine lcP_pure p g E xs _ Q ?_; rw [List.filter_cons_of_neg hp] at h; exact h
/-- each item's value by a function -/
theorem lcP_map {h : α → W β} {E : EK} (g : α → β) : ∀ (xs : List α) (acc : List β) {Q : List β → Prop}, (∀ x ∈ xs, ∀ Y : β → Prop, Y (g x) → h x Y E) → Q (acc ++ xs.map g) → lcP (fun _ Q' _ => Q' true) h E xs acc Q
  | [], acc, Q, _, k => by simpa [lcP] using k
  | x :: xs, acc, Q, hh, k => by
    show h x _ E
    refine hh x (by simp) _ (lcP_map g xs _ (fun y hy => hh y (List.mem_cons_of_mem _ hy)) (by simpa using k))
theorem lc_map {h : α → W β} {xs : List α} {Q : List β → Prop} (g : α → β) (hl : xs.length ≤ 16000000) (hh : ∀ x ∈ xs, ∀ Y : β → Prop, Y (g x) → h x Y (fun _ => False)) (k : Q (xs.map g)) :
    xs.length ≤ sizeLine ∧ lcP (fun _ Q' _ => Q' true) h (fun _ => False) xs [] Q := ⟨szle' hl, lcP_map g xs [] hh (by simpa using k)⟩
theorem lcP_filter {t : α → W Bool} {h : α → W β} {E : EK} (g : α → Option β) : ∀ (xs : List α) (acc : List β) {Q : List β → Prop},
    (∀ x ∈ xs, ∀ (Y : β → Prop) (N : Prop), (∀ y, g x = some y → Y y) → (g x = none → N) → t x (fun b => if b = true then h x Y E else N) E) → Q (acc ++ xs.filterMap g) → lcP t h E xs acc Q
  | [], acc, Q, _, k => by simpa [lcP] using k
  | x :: xs, acc, Q, hh, k => by
    simp only [lcP]
    refine hh x (by simp) _ _ (fun y e => lcP_filter g xs _ (fun y hy => hh y (List.mem_cons_of_mem _ hy)) ?_) (fun e => lcP_filter g xs _ (fun y hy => hh y (List.mem_cons_of_mem _ hy)) ?_)
    · rw [List.filterMap_cons, e] at k; simpa using k
    · rw [List.filterMap_cons, e] at k; simpa using k
theorem lc_filter {t : α → W Bool} {h : α → W β} {xs : List α} {Q : List β → Prop} (g : α → Option β) (hl : xs.length ≤ 16000000) (hh : ∀ x ∈ xs, ∀ (Y : β → Prop) (N : Prop), (∀ y, g x = some y → Y y) → (g x = none → N) → t x (fun b => if b = true then h x Y (fun _ => False) else N) (fun _ => False))
    (k : Q (xs.filterMap g)) : xs.length ≤ sizeLine ∧ lcP t h (fun _ => False) xs [] Q := ⟨szle' hl, lcP_filter g xs [] hh (by simpa using k)⟩
theorem lc_pure {xs : List α} {Q : List β → Prop} (p : α → Bool) (g : α → β) (hl : xs.length ≤ 16000000) (k : Q ((xs.filter p).map g)) : xs.length ≤ sizeLine ∧ lcP (fun x Q' _ => Q' (p x)) (fun x Q' _ => Q' (g x)) (fun _ => False) xs [] Q :=
  ⟨szle' hl, lcP_pure p g _ xs [] Q (by simpa using k)⟩
/-- items that are only related to what is walked -/
inductive F2 (R : α → β → Prop) : List α → List β → Prop where
  | nil : F2 R [] []
  | cons {x : α} {y : β} {xs : List α} {ys : List β} : R x y → F2 R xs ys → F2 R (x :: xs) (y :: ys)
theorem F2.length {R : α → β → Prop} : ∀ {xs : List α} {ys : List β}, F2 R xs ys → ys.length = xs.length
  | _, _, .nil => rfl
  | _, _, .cons _ t => by rw [List.length_cons, List.length_cons, t.length]
theorem F2.mem {R : α → β → Prop} : ∀ {xs : List α} {ys : List β}, F2 R xs ys → ∀ y ∈ ys, ∃ x ∈ xs, R x y
  | _, _, .nil, y, h => by cases h
  | _, _, .cons (x := x) r t, y, h => by
    rcases List.mem_cons.mp h with rfl | h
    · exact ⟨x, by simp, r⟩
    · obtain ⟨z, hz, q⟩ := t.mem y h; exact ⟨z, List.mem_cons_of_mem _ hz, q⟩
theorem F2.get {R : α → β → Prop} : ∀ {xs : List α} {ys : List β}, F2 R xs ys → ∀ {i : Nat} {y : β}, ys[i]? = some y → ∃ x, xs[i]? = some x ∧ R x y
  | _, _, .nil, i, y, h => by simp at h
  | _, _, .cons (x := x) r t, 0, y, h => by simp at h; subst h; exact ⟨x, rfl, r⟩
  | _, _, .cons r t, i + 1, y, h => by simpa using t.get (i := i) (by simpa using h)
theorem lcP_rel {h : α → W β} {E : EK} (R : α → β → Prop) : ∀ (xs : List α) (acc : List β) {Q : List β → Prop}, (∀ x ∈ xs, ∀ Y : β → Prop, (∀ y, R x y → Y y) → h x Y E) → (∀ ys, F2 R xs ys → Q (acc ++ ys)) → lcP (fun _ Q' _ => Q' true) h E xs acc Q
  | [], acc, Q, _, k => by simpa [lcP] using k [] .nil
  | x :: xs, acc, Q, hh, k => by
    show h x _ E
    refine hh x (by simp) _ fun y r => lcP_rel R xs _ (fun y hy => hh y (List.mem_cons_of_mem _ hy)) fun ys q => ?_
    have := k (y :: ys) (.cons r q)
    simpa using this
theorem lc_rel {h : α → W β} {xs : List α} {Q : List β → Prop} (R : α → β → Prop) (hl : xs.length ≤ 16000000) (hh : ∀ x ∈ xs, ∀ Y : β → Prop, (∀ y, R x y → Y y) → h x Y (fun _ => False)) (k : ∀ ys, F2 R xs ys → Q ys) :
    xs.length ≤ sizeLine ∧ lcP (fun _ Q' _ => Q' true) h (fun _ => False) xs [] Q := ⟨szle' hl, lcP_rel R xs [] hh (by simpa using k)⟩
/-! loops -/
theorem forP_ind {body : α → σ → (σ → Prop) → (σ → Prop) → Prop} {K : σ → Prop} (I : List α → σ → Prop) (h0 : ∀ s, I [] s → K s) (hs : ∀ x r s, I (x :: r) s → ∀ N : σ → Prop, (∀ s', I r s' → N s') → body x s N K) : ∀ xs s, I xs s → forP body K xs s
  | [], s, h => h0 s h
  | x :: r, s, h => hs x r s h _ fun s' h' => forP_ind I h0 hs r s' h'
/-- .. that carries nothing -/
theorem forP_all {body : α → Unit → (Unit → Prop) → (Unit → Prop) → Prop} {K : Unit → Prop} (xs : List α) (hs : ∀ x ∈ xs, ∀ N : Unit → Prop, N () → body x () N K) (h0 : K ()) : forP body K xs () := by
  refine forP_ind (fun r _ => ∀ x ∈ r, x ∈ xs) (fun _ _ => h0) (fun x r s h N k => ?_) xs () (fun x h => h)
  exact hs x (h x (by simp)) N (k () fun y hy => h y (List.mem_cons_of_mem _ hy))
/-- a fold -/
theorem forP_fold {body : α → σ → (σ → Prop) → (σ → Prop) → Prop} {K : σ → Prop} (f : σ → α → σ) (I : Nat → σ → Prop) : ∀ (xs : List α) (s : σ) (n : Nat), I n s → (∀ n x s, x ∈ xs → I n s → I (n + 1) (f s x) ∧ ∀ N : σ → Prop, N (f s x) → body x s N K) → K (xs.foldl f s) → forP body K xs s
  | [], s, n, _, _, k => k
  | x :: r, s, n, h, hs, k => (hs n x s (by simp) h).2 _ (forP_fold f I r (f s x) (n + 1) (hs n x s (by simp) h).1 (fun n y s hy => hs n y s (List.mem_cons_of_mem _ hy)) k)
/-! items -/
theorem atI_app (xs : List α) (a : α) : atI (xs ++ [a]) (-1) = some a := by
  unfold atI ixN
  rw [if_neg (by omega), if_pos (by simp; omega)]
  have e : ((-1 : Int) + ((xs ++ [a]).length : Int)).toNat = xs.length := by simp; omega
  rw [e]; simp
theorem atI_int {xs : List α} {r : Int} (h0 : 0 ≤ r) (h1 : r < xs.length) : atI xs r = some (xs[r.toNat]'(by omega)) := by
  obtain ⟨j, rfl⟩ : ∃ j : Nat, r = (j : Int) := ⟨r.toNat, by omega⟩
  exact atI_nat (List.getElem?_eq_getElem (by omega))
theorem atI_mem {xs : List α} {r : Int} (h0 : 0 ≤ r) (h1 : r < xs.length) : ∃ y, atI xs r = some y ∧ y ∈ xs := ⟨_, atI_int h0 h1, List.getElem_mem _⟩
theorem atI_neg1 (xs : List α) : atI xs (-1) = xs.getLast? := by
  rcases List.eq_nil_or_concat xs with rfl | ⟨ys, a, rfl⟩
  · rfl
  · simp only [List.concat_eq_append]; rw [atI_app]; simp
theorem ixN_int {n : Nat} {r : Int} (h0 : 0 ≤ r) (h1 : r < n) : ixN n r = some r.toNat := by unfold ixN; rw [if_pos h0, if_pos h1]
theorem cutT_to (xs : List α) (j : Int) (h0 : 0 ≤ j) : cutT xs none (some j) = xs.take j.toNat := by
  unfold cutT
  show (xs.drop 0).take ((if j < 0 then (j + (xs.length : Int)).toNat else min j.toNat xs.length) - 0) = _
  rw [if_neg (by omega), List.drop_zero, Nat.sub_zero]
  by_cases h : j.toNat ≤ xs.length
  · rw [Nat.min_eq_left h]
  · rw [Nat.min_eq_right (by omega), List.take_of_length_le (Nat.le_refl _), List.take_of_length_le (by omega)]
theorem cutT_from (xs : List α) (j : Int) (h0 : 0 ≤ j) : cutT xs (some j) none = xs.drop j.toNat := by
  unfold cutT
  show (xs.drop (if j < 0 then (j + (xs.length : Int)).toNat else min j.toNat xs.length)).take (xs.length - (if j < 0 then (j + (xs.length : Int)).toNat else min j.toNat xs.length)) = _
  rw [if_neg (by omega)]
  by_cases h : j.toNat ≤ xs.length
  · rw [Nat.min_eq_left h, List.take_of_length_le (by rw [List.length_drop]; omega)]
  · rw [Nat.min_eq_right (by omega), List.drop_of_length_le (Nat.le_refl _), List.drop_of_length_le (by omega)]; simp
theorem enI_length (xs : List α) : (enI xs).length = xs.length := by simp [enI]
theorem rgI_length (lo : Int) (n : Nat) : (rgI lo n).length = n := by simp [rgI]
theorem mem_rgI {lo x : Int} {n : Nat} : x ∈ rgI lo n ↔ lo ≤ x ∧ x < lo + n := by
  unfold rgI
  rw [List.mem_map]
  constructor
  · rintro ⟨a, ha, rfl⟩; rw [List.mem_range] at ha; omega
  · rintro ⟨h1, h2⟩; exact ⟨(x - lo).toNat, by rw [List.mem_range]; omega, by omega⟩
theorem mem_enI {xs : List α} {p : Int × α} : p ∈ enI xs ↔ ∃ i : Nat, p.1 = (i : Int) ∧ xs[i]? = some p.2 := by
  unfold enI
  rw [List.mem_map]
  constructor
  · rintro ⟨⟨a, i⟩, h, rfl⟩; exact ⟨i, rfl, List.mem_zipIdx_iff_getElem?.mp h⟩
  · rintro ⟨i, h1, h2⟩; exact ⟨(p.2, i), List.mem_zipIdx_iff_getElem?.mpr h2, by rw [← h1]⟩
end
/-! sizes of values -/
theorem sm_T {α : Type} {e : α → D} {n m h : Nat} {xs : List α} (hl : xs.length ≤ n) (hx : ∀ x ∈ xs, Sm m h (e x)) : Sm (1 + n * m) (h + 1) (eT e xs) :=
  (SmL.of n (by rw [List.length_map]; exact hl) fun d hd => by obtain ⟨x, hx', rfl⟩ := List.mem_map.mp hd; exact hx x hx').tp
theorem sm_L {α : Type} {e : α → D} {n m h : Nat} {xs : List α} (hl : xs.length ≤ n) (hx : ∀ x ∈ xs, Sm m h (e x)) : Sm (1 + n * m) (h + 1) (eL e xs) :=
  (SmL.of n (by rw [List.length_map]; exact hl) fun d hd => by obtain ⟨x, hx', rfl⟩ := List.mem_map.mp hd; exact hx x hx').ls
theorem eT_A (xs : List D) : eT eA xs = .tp xs := by unfold eT; rw [show (eA : D → D) = id from rfl, List.map_id]
theorem eL_A (xs : List D) : eL eA xs = .ls xs := by unfold eL; rw [show (eA : D → D) = id from rfl, List.map_id]
theorem sm_I {i : Int} {h : Nat} (h1 : -1000000000000000 ≤ i) (h2 : i ≤ 1000000000000000) : Sm 1 h (eI i) := .it (by omega) (by omega)
theorem sm_O {α : Type} {e : α → D} {m h : Nat} {x : Option α} (h0 : 1 ≤ m) (hx : ∀ y, x = some y → Sm m h (e y)) : Sm m h (eO e x) := by
  cases x with
  | none => exact Sm.non.le h0 (Nat.le_refl _)
  | some y => exact hx y rfl
theorem sm_P {α β : Type} {e : α → D} {f : β → D} {m m' h : Nat} {p : α × β} (h1 : Sm m h (e p.1)) (h2 : Sm m' h (f p.2)) : Sm (1 + (m + m')) (h + 1) (eP e f p) := (SmL.cons h1 (.one h2)).tp
/-! small facts -/
theorem in62_of {i : Int} (h : 0 ≤ i) (h2 : i ≤ 1000000000000) : in62 i := by constructor <;> omega
theorem cpow_dec {i j : Int} (h : (decide (0 ≤ j) && decide (j ≤ 1000000) && decide (i.natAbs < 2 ^ 64)) = true) : CPow i j := by
  simp only [Bool.and_eq_true, decide_eq_true_eq] at h
  exact ⟨h.1.1, h.1.2, h.2⟩
theorem cdiv_dec {i j : Int} (h : (decide (0 < j) && decide (j.natAbs.log2 < 9000)) = true) : CDivW i j := by
  simp only [Bool.and_eq_true, decide_eq_true_eq] at h
  exact h
/-- the same shown, or not -/
theorem shown_ne {x y : D} {P Q : Prop} (h : x = y) (q : Q) : if ¬ x.py.shown = y.py.shown then P else Q := by rw [h, if_neg (fun z => z rfl)]; exact q
end Dl

set_option Elab.async false
set_option linter.all false
namespace Dl
open PySem PySem.Spec PyProof.Rows L2
/-! loops by places -/
theorem forP_drop {α σ : Type} {body : α → σ → (σ → Prop) → (σ → Prop) → Prop} {K : σ → Prop} (I : Nat → σ → Prop) {xs : List α} (h0 : ∀ s, I xs.length s → K s)
    (hs : ∀ (i : Nat) x s, xs[i]? = some x → I i s → ∀ N : σ → Prop, (∀ s', I (i + 1) s' → N s') → body x s N K) : ∀ (n i : Nat) s, i + n = xs.length → I i s → forP body K (xs.drop i) s
  | 0, i, s, e, h => by
    rw [List.drop_of_length_le (by omega)]
    have : i = xs.length := by omega
    subst this; exact h0 s h
  | n + 1, i, s, e, h => by
    have hi : i < xs.length := by omega
    rw [List.drop_eq_getElem_cons hi]
    exact hs i _ s (List.getElem?_eq_getElem hi) h _ fun s' h' => forP_drop I h0 hs n (i + 1) s' (by omega) h'
theorem forP_ix {α σ : Type} {body : α → σ → (σ → Prop) → (σ → Prop) → Prop} {K : σ → Prop} (I : Nat → σ → Prop) {xs : List α} {s : σ} (h : I 0 s) (h0 : ∀ s, I xs.length s → K s)
    (hs : ∀ (i : Nat) x s, xs[i]? = some x → I i s → ∀ N : σ → Prop, (∀ s', I (i + 1) s' → N s') → body x s N K) : forP body K xs s :=
  forP_drop I h0 hs xs.length 0 s (by omega) h
theorem rgI_cons (lo : Int) (n : Nat) : rgI lo (n + 1) = lo :: rgI (lo + 1) n := by
  unfold rgI
  rw [List.range_succ_eq_map, List.map_cons, List.map_map]
  congr 1
  · omega
  · apply List.map_congr_left; intro a _; simp only [Function.comp_apply]; omega
theorem rgI_get {lo : Int} {n i : Nat} {x : Int} (h : (rgI lo n)[i]? = some x) : x = lo + i ∧ i < n := by
  unfold rgI at h
  rw [List.getElem?_map] at h
  by_cases hi : i < n
  · rw [List.getElem?_range hi] at h; simp at h; exact ⟨h.symm, hi⟩
  · rw [List.getElem?_eq_none_iff.mpr (by simpa using hi)] at h; simp at h
theorem rgI_at {lo : Int} {n i : Nat} (h : i < n) : (rgI lo n)[i]? = some (lo + i) := by
  unfold rgI; rw [List.getElem?_map, List.getElem?_range h]; rfl
/-- a range's loop -/
theorem forP_rg {σ : Type} {body : Int → σ → (σ → Prop) → (σ → Prop) → Prop} {K : σ → Prop} (I : Int → σ → Prop) {n : Nat} {s : σ} (h : I 0 s) (h0 : ∀ s, I n s → K s)
    (hs : ∀ (i : Int) s, 0 ≤ i → i < n → I i s → ∀ N : σ → Prop, (∀ s', I (i + 1) s' → N s') → body i s N K) : forP body K (rgI 0 n) s := by
  refine forP_ix (fun i => I i) h (fun s h => h0 s (by rw [rgI_length] at h; exact h)) (fun i x s hx h N k => ?_)
  obtain ⟨e, hi⟩ := rgI_get hx
  have e' : x = (i : Int) := by omega
  subst e'
  exact hs _ s (by omega) (by omega) h N k
theorem enI_get {α : Type} {xs : List α} {i : Nat} {p : Int × α} (h : (enI xs)[i]? = some p) : p.1 = i ∧ xs[i]? = some p.2 := by
  unfold enI at h
  rw [List.getElem?_map, List.getElem?_zipIdx] at h
  cases e : xs[i]? with
  | none => rw [e] at h; simp at h
  | some y => rw [e] at h; simp at h; subst h; simp
theorem enI_at {α : Type} {xs : List α} {i : Nat} {x : α} (h : xs[i]? = some x) : (enI xs)[i]? = some ((i : Int), x) := by
  unfold enI
  rw [List.getElem?_map, List.getElem?_zipIdx, h]; simp
/-- the first place -/
theorem find_rg {p : Int → Bool} : ∀ {n : Nat} {lo i : Int}, lo ≤ i → i < lo + n → (∀ j, lo ≤ j → j < i → p j = false) → p i = true → (rgI lo n).find? p = some i
  | 0, lo, i, h0, h1, _, _ => by omega
  | n + 1, lo, i, h0, h1, hb, hi => by
    rw [rgI_cons, List.find?_cons]
    by_cases e : lo = i
    · subst e; rw [hi]
    · rw [hb lo (by omega) (by omega)]
      exact find_rg (by omega) (by omega) (fun j j0 j1 => hb j (by omega) j1) hi
theorem find_rg_none {p : Int → Bool} {n : Nat} {lo : Int} (h : ∀ j, lo ≤ j → j < lo + n → p j = false) : (rgI lo n).find? p = none := by
  rw [List.find?_eq_none]
  intro x hx
  rw [mem_rgI] at hx
  rw [h x hx.1 hx.2]; simp
theorem mod_ne {h d n : Int} (h0 : 0 ≤ h) (h1 : h < n) (d0 : 1 ≤ d) (d1 : d < n) : 0 ≤ (h + d) % n ∧ (h + d) % n < n ∧ (h + d) % n ≠ h := by
  by_cases c : h + d < n
  · rw [Int.emod_eq_of_lt (by omega) c]; omega
  · have e : (h + d) % n = h + d - n := by
      rw [show h + d = (h + d - n) + n * 1 by omega, Int.add_mul_emod_self_left, Int.emod_eq_of_lt (by omega) (by omega)]; omega
    rw [e]; omega
theorem get_snoc {α : Type} {xs : List α} {a x : α} {i : Nat} (h : (xs ++ [a])[i]? = some x) : (i < xs.length ∧ xs[i]? = some x) ∨ (i = xs.length ∧ x = a) := by
  by_cases c : i < xs.length
  · left; rw [List.getElem?_append_left c] at h; exact ⟨c, h⟩
  · right
    rw [List.getElem?_append_right (by omega)] at h
    have : i - xs.length = 0 := by
      rcases Nat.eq_zero_or_pos (i - xs.length) with e | e
      · exact e
      · rw [List.getElem?_eq_none_iff.mpr (by simp; omega)] at h; cases h
    rw [this] at h; simp at h; exact ⟨by omega, h.symm⟩
theorem join1 {σ : Type} {v : σ} {k : σ → Prop} (h : k v) : joinP (fun K => K v) k := h
theorem mem_rep {α : Type} {x : α} {n : Nat} {xs : List α} (h : x ∈ (List.replicate n xs).flatten) : x ∈ xs := by
  rw [List.mem_flatten] at h
  obtain ⟨l, hl, hx⟩ := h
  rw [(List.mem_replicate.mp hl).2] at hx; exact hx
theorem rep_length {α : Type} (n : Nat) (xs : List α) : (List.replicate n xs).flatten.length = n * xs.length := by
  induction n with
  | zero => simp
  | succ n ih => rw [List.replicate_succ, List.flatten_cons, List.length_append, ih, Nat.succ_mul]; omega
end Dl

set_option Elab.async false
set_option linter.all false
/-! St: the typed readings, one step at a time. -/
namespace Dl
open PySem PySem.Spec PyProof.Rows L2
theorem s_bindP {α : Type} {m : W α} {K : α → Prop} {E : EK} (h : m K E) : bindP m K E := h
theorem s_bindW {α β : Type} {m : W α} {f : α → W β} {K : β → Prop} {E : EK} (h : m (fun x => f x K E) E) : bindW m f K E := h
theorem s_pureW {α : Type} {x : α} {K : α → Prop} {E : EK} (h : K x) : pureW x K E := h
theorem s_szW {α : Type} {xs : List α} {K : List α → Prop} {E : EK} (h0 : szOk xs.length) (h : K xs) : szW xs K E := ⟨h0, h⟩
theorem s_rng1 {j : Int} {K : List Int → Prop} {E : EK} (h : in62 j ∧ K (rgI 0 j.toNat)) : rng1W j K E := h
theorem s_addI {x y : Int} {K : Int → Prop} {E : EK} (h : K (x + y)) : addI x y K E := h
theorem s_subI {x y : Int} {K : Int → Prop} {E : EK} (h : K (x - y)) : subI x y K E := h
theorem s_mulI {x y : Int} {K : Int → Prop} {E : EK} (h : CMul x y ∧ K (x * y)) : mulI x y K E := h
theorem s_modI {x y : Int} {K : Int → Prop} {E : EK} (h : 0 < y ∧ K (x % y)) : modI x y K E := h
theorem s_powI {x y : Int} {K : Int → Prop} {E : EK} (h : CPow x y ∧ K (x ^ y.toNat)) : powI x y K E := h
theorem s_gtI {x y : Int} {K : Bool → Prop} {E : EK} (h : K (decide (y < x))) : gtI x y K E := h
theorem s_ltI {x y : Int} {K : Bool → Prop} {E : EK} (h : K (decide (x < y))) : ltI x y K E := h
theorem s_leI {x y : Int} {K : Bool → Prop} {E : EK} (h : K (decide (x ≤ y))) : leI x y K E := h
theorem s_geI {x y : Int} {K : Bool → Prop} {E : EK} (h : K (decide (y ≤ x))) : geI x y K E := h
theorem s_eqI {x y : Int} {K : Bool → Prop} {E : EK} (h : K (decide (x = y))) : eqI x y K E := h
theorem s_neI {x y : Int} {K : Bool → Prop} {E : EK} (h : K (!decide (x = y))) : neI x y K E := h
theorem s_intB {b : Bool} {K : Int → Prop} {E : EK} (h : K (if b = true then 1 else 0)) : intB b K E := h
theorem s_lenW {α : Type} {xs : List α} {K : Int → Prop} {E : EK} (h : K (xs.length : Int)) : lenW xs K E := h
theorem s_sameW {α : Type} {x : α} {K : α → Prop} {E : EK} (h : K x) : sameW x K E := h
theorem s_getW {α : Type} {o : Option α} {K : α → Prop} {E : EK} (h : ∃ x, o = some x ∧ K x) : getW o K E := h
theorem s_asW {α : Type} {e : α → D} {x : D} {K : α → Prop} {E : EK} (h : ∃ y, x = e y ∧ K y) : asW e x K E := h
theorem s_ixW {α : Type} {xs : List α} {i : Int} {K : α → Prop} {E : EK} (h : ∃ x, atI xs i = some x ∧ K x) : ixW xs i K E := h
theorem s_catW {α : Type} {x y : List α} {K : List α → Prop} {E : EK} (h : szOk (x.length + y.length) ∧ K (x ++ y)) : catW x y K E := h
theorem s_repT {α : Type} {x : List α} {j : Int} {K : List α → Prop} {E : EK} (h : (-(2 ^ 63) ≤ j ∧ j ≤ 1000 ∧ x.length ≤ 1000) ∧ K (List.replicate j.toNat x).flatten) : repT x j K E := h
theorem s_strW {i : Int} {K : Str → Prop} {E : EK} (h : i.natAbs.log2 < 1920 ∧ K (strI i)) : strW i K E := h
end Dl

set_option Elab.async false
set_option linter.all false
set_option maxRecDepth 100000
set_option maxHeartbeats 4000000
/-! Th1: what is paid on the slips of a pile, which one is next. -/
namespace Dl
open PySem PySem.Spec PyProof.Rows L2
/-- what is paid on each slip -/
def parts : List Slip → Int → List Int
  | [], _ => []
  | s :: r, p => min s.2 p :: parts r (p - min s.2 p)
/-- the first slip that is not paid in full -/
def nextI : Int → List Slip → Int → Option Int
  | _, [], _ => none
  | i, s :: r, p => if p < s.2 then some i else nextI (i + 1) r (p - s.2)
def wholeD (v : D) (lo hi : Int) : Bool := match v with | .it i => decide (lo ≤ i) && decide (i ≤ hi) | _ => false
def payAll : List House → List D → Bool
  | h :: b, x :: xs => wholeD x 0 (sumA h.2) && payAll b xs
  | _, _ => true
def isPay (b : List House) (v : D) : Bool := match v with | .tp xs => decide (xs.length = b.length) && payAll b xs | _ => false
abbrev debtsL (b : List House) : List Int := b.map fun h => sumA h.2
theorem parts_length : ∀ (ss : List Slip) (p : Int), (parts ss p).length = ss.length
  | [], _ => rfl
  | s :: r, p => by simp only [parts, List.length_cons, parts_length r]
def AmOk (ss : List Slip) : Prop := ∀ s ∈ ss, 1 ≤ s.2 ∧ s.2 ≤ 1000000000
theorem sumA_ge {ss : List Slip} (h : AmOk ss) : 0 ≤ sumA ss := (sumA_nonneg h).1
theorem parts_zero : ∀ {r : List Slip}, AmOk r → parts r 0 = r.map fun _ => 0
  | [], _ => rfl
  | s :: r, h => by
    have h1 := h s (by simp)
    have ih := parts_zero (r := r) fun x hx => h x (List.mem_cons_of_mem _ hx)
    have e : min s.2 (0 : Int) = 0 := by omega
    simp only [parts, List.map_cons, e, Int.sub_zero, ih]
theorem sumA_take (ss : List Slip) (i : Nat) (h : i < ss.length) : sumA (ss.take (i + 1)) = sumA (ss.take i) + ss[i].2 := by
  rw [List.take_succ_eq_append_getElem h, sumA_append]; simp [sumA]
theorem parts_get : ∀ {ss : List Slip} {p : Int} (i : Nat) (_ : AmOk ss) (_ : 0 ≤ p) (h : i < ss.length), (parts ss p)[i]? = some (max 0 (min ss[i].2 (p - sumA (ss.take i))))
  | s :: r, p, 0, ha, hp, _ => by
    have := ha s (by simp)
    simp only [parts, List.getElem?_cons_zero, List.take_zero, sumA_nil, List.getElem_cons_zero]
    congr 1; omega
  | s :: r, p, i + 1, ha, hp, h => by
    have h1 := ha s (by simp)
    have hr : AmOk r := fun x hx => ha x (List.mem_cons_of_mem _ hx)
    have hi : i < r.length := by simpa using h
    simp only [parts, List.getElem?_cons_succ, List.take_succ_cons, sumA_cons, List.getElem_cons_succ]
    rw [parts_get i hr (by omega) hi]
    have hs : 0 ≤ sumA (r.take i) := sumA_ge fun x hx => hr x (List.mem_of_mem_take hx)
    have h2 := hr r[i] (List.getElem_mem _)
    congr 1
    by_cases hc : s.2 ≤ p
    · rw [show min s.2 p = s.2 by omega]; congr 2; omega
    · rw [show min s.2 p = p by omega]; omega
theorem nextI_ge : ∀ {ss : List Slip} {i p : Int} {j : Int}, nextI i ss p = some j → i ≤ j ∧ j < i + ss.length
  | [], _, _, _, h => by simp [nextI] at h
  | s :: r, i, p, j, h => by
    simp only [nextI] at h
    split at h
    · cases h; simp only [List.length_cons]; omega
    · have := nextI_ge h; simp only [List.length_cons]; omega
theorem nextI_none : ∀ {ss : List Slip} {i p : Int}, nextI i ss p = none → 0 ≤ p → sumA ss ≤ p
  | [], _, _, _, hp => by simpa [sumA_nil] using hp
  | s :: r, i, p, h, hp => by
    simp only [nextI] at h
    split at h
    · cases h
    · next hc =>
      by_cases h0 : 0 ≤ p - s.2
      · have := nextI_none h h0; rw [sumA_cons]; omega
      · omega
/-- what is paid before the next slip, and with it -/
theorem nextI_some : ∀ {ss : List Slip} {i p : Int} {j : Int}, AmOk ss → 0 ≤ p → nextI i ss p = some j → sumA (ss.take (j - i).toNat) ≤ p ∧ p < sumA (ss.take ((j - i).toNat + 1))
  | [], _, _, _, _, _, h => by simp [nextI] at h
  | s :: r, i, p, j, ha, hp, h => by
    simp only [nextI] at h
    split at h
    · cases h; rw [Int.sub_self]; simp [sumA_cons, sumA_nil]; omega
    · next hc =>
      have hj := nextI_ge h
      have e : (j - i).toNat = (j - (i + 1)).toNat + 1 := by omega
      have := nextI_some (fun x hx => ha x (List.mem_cons_of_mem _ hx)) (by omega) h
      rw [e, List.take_succ_cons, List.take_succ_cons, sumA_cons, sumA_cons]; omega
end Dl

set_option Elab.async false
set_option linter.all false
set_option maxRecDepth 100000
set_option maxHeartbeats 4000000
/-! Th2: what is received and held. -/
namespace Dl
open PySem PySem.Spec PyProof.Rows L2
def slipsTo : List Slip → List Int → Int → Int
  | s :: ss, q :: qs, h => (if s.1 = h then q else 0) + slipsTo ss qs h
  | _, _, _ => 0
abbrev paidTo (ss : List Slip) (p : Int) (h : Int) : Int := slipsTo ss (parts ss p) h
def recvH : List House → List Int → Int → Int
  | x :: b, p :: ps, h => paidTo x.2 p h + recvH b ps h
  | _, _, _ => 0
def recvL (b : List House) (ps : List Int) : List Int := (rgI 0 b.length).map (recvH b ps)
def heldL (b : List House) (ps : List Int) : List Int := (zip3 b (recvL b ps) ps).map fun x => x.1.1 + x.2.1 - x.2.2
/-- a number is added at each place -/
def addF (g : Int → Int) : Int → List Int → List Int
  | _, [] => []
  | i, x :: r => (x + g i) :: addF g (i + 1) r
theorem addF_length (g : Int → Int) : ∀ (i : Int) (xs : List Int), (addF g i xs).length = xs.length
  | _, [] => rfl
  | i, x :: r => by simp [addF, addF_length g (i + 1) r]
theorem addF_addF (g k : Int → Int) : ∀ (i : Int) (xs : List Int), addF k i (addF g i xs) = addF (fun h => g h + k h) i xs
  | _, [] => rfl
  | i, x :: r => by simp [addF, addF_addF g k (i + 1) r]; omega
theorem addF_zero : ∀ (i : Int) (xs : List Int), addF (fun _ => 0) i xs = xs
  | _, [] => rfl
  | i, x :: r => by simp [addF, addF_zero (i + 1) r]
theorem addF_congr {g k : Int → Int} : ∀ {i : Int} {xs : List Int}, (∀ h, i ≤ h → h < i + xs.length → g h = k h) → addF g i xs = addF k i xs
  | _, [], _ => rfl
  | i, x :: r, h => by
    simp only [addF]
    rw [h i (by omega) (by simp; omega), addF_congr (i := i + 1) (xs := r) fun j h1 h2 => h j (by omega) (by simp at h2 ⊢; omega)]
theorem addF_below {g k : Int → Int} {i : Int} {xs : List Int} (h : ∀ j, i ≤ j → g j = k j) : addF g i xs = addF k i xs := addF_congr fun j h1 _ => h j h1
theorem addF_at (v : Int) : ∀ (xs : List Int) (i : Int) (j : Nat) (h : j < xs.length), xs.set j (xs[j] + v) = addF (fun k => if i + (j : Int) = k then v else 0) i xs
  | x :: r, i, 0, _ => by
    simp only [List.set_cons_zero, List.getElem_cons_zero, addF]
    rw [if_pos (by omega)]
    congr 1
    rw [addF_below (k := fun _ => 0) (fun k hk => if_neg (by omega)), addF_zero]
  | x :: r, i, j + 1, h => by
    simp only [List.set_cons_succ, List.getElem_cons_succ, addF]
    rw [if_neg (by omega), Int.add_zero, addF_at v r (i + 1) j (by simpa using h)]
    congr 2
    funext k
    have : (i + 1 + (j : Int) = k) = (i + ((j + 1 : Nat) : Int) = k) := by rw [show i + 1 + (j : Int) = i + ((j + 1 : Nat) : Int) by omega]
    simp only [this]
theorem addF_rep (g : Int → Int) : ∀ (n : Nat) (i : Int), addF g i (List.replicate n 0) = (List.range n).map fun (j : Nat) => g (i + (j : Int))
  | 0, _ => rfl
  | n + 1, i => by
    rw [List.replicate_succ, List.range_succ_eq_map]
    simp only [addF, List.map_cons, List.map_map, addF_rep g n (i + 1)]
    congr 1
    · simp
    · apply List.map_congr_left; intro j _; simp only [Function.comp_apply]; congr 1; omega
theorem addF_get (g : Int → Int) : ∀ (xs : List Int) (i : Int) (j : Nat), (addF g i xs)[j]? = xs[j]?.map fun x => x + g (i + (j : Int))
  | [], _, _ => by simp [addF]
  | x :: r, i, 0 => by simp [addF]
  | x :: r, i, j + 1 => by
    simp only [addF, List.getElem?_cons_succ]
    rw [addF_get g r (i + 1) j]
    congr 2
    funext y; congr 2; omega
theorem recvL_length (b : List House) (ps : List Int) : (recvL b ps).length = b.length := by unfold recvL; rw [List.length_map, rgI_length]
theorem recvL_addF (b : List House) (ps : List Int) : recvL b ps = addF (recvH b ps) 0 (List.replicate b.length 0) := by
  rw [addF_rep]; unfold recvL rgI
  rw [List.map_map]; rfl
theorem heldL_length {b : List House} {ps : List Int} (h : ps.length = b.length) : (heldL b ps).length = b.length := by
  unfold heldL zip3
  rw [List.length_map, List.length_zip, List.length_zip, recvL_length, h]; omega
theorem recvL_get {b : List House} {ps : List Int} {i : Nat} (h : i < b.length) : (recvL b ps)[i]? = some (recvH b ps i) := by
  unfold recvL rgI
  rw [List.map_map, List.getElem?_map, List.getElem?_range h]; simp
theorem heldL_get {b : List House} {ps : List Int} (hl : ps.length = b.length) {i : Nat} (h : i < b.length) : (heldL b ps)[i]? = some (b[i].1 + recvH b ps i - ps[i]'(by omega)) := by
  unfold heldL zip3
  have hr : i < (recvL b ps).length := by rw [recvL_length]; exact h
  have hz : i < (b.zip ((recvL b ps).zip ps)).length := by rw [List.length_zip, List.length_zip, recvL_length]; omega
  have e : (recvL b ps)[i] = recvH b ps i := by
    have := recvL_get (ps := ps) h
    rw [List.getElem?_eq_getElem hr] at this
    exact Option.some.inj this
  rw [List.getElem?_map, List.getElem?_eq_getElem hz, List.getElem_zip, List.getElem_zip, e]; rfl
/-! ### one pile -/
theorem paidTo_nil (p h : Int) : paidTo [] p h = 0 := rfl
theorem paidTo_cons (s : Slip) (r : List Slip) (p h : Int) : paidTo (s :: r) p h = (if s.1 = h then min s.2 p else 0) + paidTo r (p - min s.2 p) h := rfl
theorem paidTo_zero {ss : List Slip} (ha : AmOk ss) (h : Int) : paidTo ss 0 h = 0 := by
  induction ss with
  | nil => rfl
  | cons s r ih =>
    have h1 := ha s (by simp)
    rw [paidTo_cons, show min s.2 (0 : Int) = 0 by omega, Int.sub_zero, ih fun x hx => ha x (List.mem_cons_of_mem _ hx)]
    split <;> rfl
theorem paidTo_nonneg {ss : List Slip} (ha : AmOk ss) {p : Int} (hp : 0 ≤ p) (h : Int) : 0 ≤ paidTo ss p h := by
  induction ss generalizing p with
  | nil => simp [slipsTo]
  | cons s r ih =>
    have h1 := ha s (by simp)
    have := ih (fun x hx => ha x (List.mem_cons_of_mem _ hx)) (p := p - min s.2 p) (by omega)
    rw [paidTo_cons]; split <;> omega
theorem paidTo_mono {ss : List Slip} (ha : AmOk ss) {p q : Int} (hp : 0 ≤ p) (hq : p ≤ q) (h : Int) : paidTo ss p h ≤ paidTo ss q h := by
  induction ss generalizing p q with
  | nil => simp [slipsTo]
  | cons s r ih =>
    have h1 := ha s (by simp)
    have := ih (fun x hx => ha x (List.mem_cons_of_mem _ hx)) (p := p - min s.2 p) (q := q - min s.2 q) (by omega) (by omega)
    rw [paidTo_cons, paidTo_cons]; split <;> omega
/-- the next slip gets what is paid more -/
theorem paidTo_step {ss : List Slip} (ha : AmOk ss) {p a i j : Int} (hp : 0 ≤ p) (ha0 : 0 ≤ a) (hn : nextI i ss p = some j) (hr : a ≤ sumA (ss.take ((j - i).toNat + 1)) - p) (h : Int) :
    paidTo ss (p + a) h = paidTo ss p h + (if (ss.getD (j - i).toNat (0, 0)).1 = h then a else 0) := by
  induction ss generalizing p i with
  | nil => simp [nextI] at hn
  | cons s r ih =>
    have h1 := ha s (by simp)
    simp only [nextI] at hn
    split at hn
    · next hlt =>
      cases hn
      rw [Int.sub_self] at hr ⊢
      simp [sumA_cons, sumA_nil] at hr
      rw [paidTo_cons, paidTo_cons, show min s.2 (p + a) = p + a by omega, show min s.2 p = p by omega, Int.sub_self, Int.sub_self]
      simp only [Int.toNat_zero, List.getD_cons_zero]
      split <;> omega
    · next hge =>
      have hj := nextI_ge hn
      have e : (j - i).toNat = (j - (i + 1)).toNat + 1 := by omega
      rw [e] at hr ⊢
      rw [List.take_succ_cons, sumA_cons] at hr
      have := ih (fun x hx => ha x (List.mem_cons_of_mem _ hx)) (p := p - s.2) (by omega) hn (by omega)
      rw [paidTo_cons, paidTo_cons, show min s.2 (p + a) = s.2 by omega, show min s.2 p = s.2 by omega, show p + a - s.2 = p - s.2 + a by omega, this, List.getD_cons_succ]
      omega
theorem paidTo_le {ss : List Slip} (ha : AmOk ss) {p : Int} (hp : 0 ≤ p) (h : Int) : paidTo ss p h ≤ p := by
  induction ss generalizing p with
  | nil => simp [slipsTo]; omega
  | cons s r ih =>
    have h1 := ha s (by simp)
    have := ih (fun x hx => ha x (List.mem_cons_of_mem _ hx)) (p := p - min s.2 p) (by omega)
    rw [paidTo_cons]; split <;> omega
/-! sums over the houses -/
abbrev sumN (n : Nat) (f : Int → Int) : Int := ((rgI 0 n).map f).sum
theorem sumN_succ (n : Nat) (f : Int → Int) : sumN (n + 1) f = sumN n f + f n := by
  unfold sumN rgI
  rw [List.range_succ]; simp
theorem sumN_zero (f : Int → Int) : sumN 0 f = 0 := rfl
theorem sumN_add (f g : Int → Int) : ∀ n, sumN n (fun h => f h + g h) = sumN n f + sumN n g
  | 0 => rfl
  | n + 1 => by rw [sumN_succ, sumN_succ, sumN_succ, sumN_add f g n]; omega
theorem sumN_const0 : ∀ n, sumN n (fun _ => 0) = 0
  | 0 => rfl
  | n + 1 => by rw [sumN_succ, sumN_const0 n]; rfl
theorem sumN_congr {f g : Int → Int} : ∀ {n : Nat}, (∀ h : Int, 0 ≤ h → h < n → f h = g h) → sumN n f = sumN n g
  | 0, _ => rfl
  | n + 1, k => by rw [sumN_succ, sumN_succ, sumN_congr fun h h0 h1 => k h h0 (by omega), k n (by omega) (by omega)]
theorem sumN_one (k v : Int) : ∀ (n : Nat), 0 ≤ k → k < n → sumN n (fun h => if k = h then v else 0) = v
  | 0, h0, h1 => by omega
  | n + 1, h0, h1 => by
    rw [sumN_succ]
    by_cases hk : k = n
    · rw [if_pos hk, sumN_congr (g := fun _ => 0) fun h _ hh => if_neg (by omega), sumN_const0]; omega
    · rw [if_neg hk, sumN_one k v n h0 (by omega)]; omega
theorem sumN_le {f g : Int → Int} : ∀ {n : Nat}, (∀ h : Int, 0 ≤ h → h < n → f h ≤ g h) → sumN n f ≤ sumN n g
  | 0, _ => by rw [sumN_zero, sumN_zero]; exact Int.le_refl _
  | n + 1, k => by
    rw [sumN_succ, sumN_succ]
    have := sumN_le (n := n) fun h h0 h1 => k h h0 (by omega)
    have := k n (by omega) (by omega)
    omega
theorem paidTo_sum {n : Nat} : ∀ {ss : List Slip} {p : Int}, AmOk ss → (∀ s ∈ ss, 0 ≤ s.1 ∧ s.1 < n) → 0 ≤ p → p ≤ sumA ss → sumN n (paidTo ss p) = p
  | [], p, _, _, h0, h1 => by
    rw [sumA_nil] at h1
    have : sumN n (paidTo [] p) = 0 := sumN_const0 n
    omega
  | s :: r, p, ha, ht, h0, h1 => by
    have a := ha s (by simp)
    have t := ht s (by simp)
    rw [sumA_cons] at h1
    have ih := paidTo_sum (n := n) (ss := r) (p := p - min s.2 p) (fun x hx => ha x (List.mem_cons_of_mem _ hx)) (fun x hx => ht x (List.mem_cons_of_mem _ hx)) (by omega) (by have := sumA_ge (ss := r) fun x hx => ha x (List.mem_cons_of_mem _ hx); omega)
    have e : sumN n (paidTo (s :: r) p) = sumN n (fun h => (if s.1 = h then min s.2 p else 0) + paidTo r (p - min s.2 p) h) := rfl
    rw [e, sumN_add, sumN_one _ _ _ t.1 t.2, ih]; omega
theorem recv_total_ : ∀ {n : Nat} {b : List House} {ps : List Int}, (∀ x ∈ b, ∀ s ∈ x.2, 0 ≤ s.1 ∧ s.1 < n) → (∀ x ∈ b, AmOk x.2) → PayOf b ps → sumN n (recvH b ps) = ps.sum
  | n, [], [], _, _, _ => sumN_const0 n
  | n, x :: b, p :: ps, h1, h2, hp => by
    have e : sumN n (recvH (x :: b) (p :: ps)) = sumN n (fun h => paidTo x.2 p h + recvH b ps h) := rfl
    rw [e, sumN_add, paidTo_sum (h2 x (by simp)) (h1 x (by simp)) hp.1 hp.2.1, recv_total_ (fun y hy => h1 y (List.mem_cons_of_mem _ hy)) (fun y hy => h2 y (List.mem_cons_of_mem _ hy)) hp.2.2, List.sum_cons]
  | _, [], _ :: _, _, _, h => h.elim
  | _, _ :: _, [], _, _, h => h.elim
theorem recv_total {b : List House} {ps : List Int} (h1 : ∀ x ∈ b, ∀ s ∈ x.2, 0 ≤ s.1 ∧ s.1 < b.length) (h2 : ∀ x ∈ b, AmOk x.2) (hp : PayOf b ps) : ((rgI 0 b.length).map (recvH b ps)).sum = ps.sum := recv_total_ h1 h2 hp
end Dl

set_option Elab.async false
set_option linter.all false
set_option maxRecDepth 100000
set_option maxHeartbeats 4000000
/-! Th3: next slips with their rests; steps; how many steps there can be. -/
namespace Dl
open PySem PySem.Spec PyProof.Rows L2
def nextS : List Slip → Int → Option Slip
  | [], _ => none
  | s :: r, p => if p < s.2 then some (s.1, s.2 - p) else nextS r (p - s.2)
/-- how many slips are not paid in full -/
def cntU : List Slip → Int → Nat
  | [], _ => 0
  | s :: r, p => if p < s.2 then r.length + 1 else cntU r (p - s.2)
theorem AmOk.tail {s : Slip} {r : List Slip} (h : AmOk (s :: r)) : AmOk r := fun x hx => h x (List.mem_cons_of_mem _ hx)
theorem nextS_some : ∀ {ss : List Slip} {p : Int} {x : Slip}, AmOk ss → 0 ≤ p → nextS ss p = some x → 1 ≤ x.2 ∧ x.2 ≤ 1000000000 ∧ p + x.2 ≤ sumA ss ∧ ∃ s ∈ ss, s.1 = x.1
  | [], _, _, _, _, h => by simp [nextS] at h
  | s :: r, p, x, ha, hp, h => by
    have h1 := ha s (by simp)
    have hs := sumA_ge ha.tail
    simp only [nextS] at h
    rw [sumA_cons]
    split at h
    · cases h; exact ⟨by simp; omega, by simp; omega, by simp; omega, s, by simp, rfl⟩
    · obtain ⟨a, b, c, z, hz, e⟩ := nextS_some ha.tail (by omega) h
      exact ⟨a, b, by omega, z, List.mem_cons_of_mem _ hz, e⟩
theorem nextS_none : ∀ {ss : List Slip} {p : Int}, 0 ≤ p → nextS ss p = none → sumA ss ≤ p
  | [], _, hp, _ => by simpa [sumA_nil] using hp
  | s :: r, p, hp, h => by
    simp only [nextS] at h
    split at h
    · cases h
    · next hc =>
      rw [sumA_cons]
      by_cases h0 : 0 ≤ p - s.2
      · have := nextS_none h0 h; omega
      · omega
theorem nextS_lt {ss : List Slip} {p : Int} (ha : AmOk ss) (hp : 0 ≤ p) (h : p < sumA ss) : ∃ x, nextS ss p = some x := by
  cases e : nextS ss p with
  | none => have := nextS_none hp e; omega
  | some x => exact ⟨x, rfl⟩
theorem nextS_add : ∀ {ss : List Slip} {p a : Int} {x : Slip}, nextS ss p = some x → 0 ≤ a → a < x.2 → nextS ss (p + a) = some (x.1, x.2 - a)
  | [], _, _, _, h, _, _ => by simp [nextS] at h
  | s :: r, p, a, x, h, h0, h1 => by
    simp only [nextS] at h ⊢
    split at h
    · cases h; simp only at h1; rw [if_pos (by omega)]; congr 2; omega
    · next hc =>
      rw [if_neg (by omega), show p + a - s.2 = p - s.2 + a by omega]
      exact nextS_add h h0 h1
theorem cntU_le : ∀ (ss : List Slip) (p : Int), cntU ss p ≤ ss.length
  | [], _ => by simp [cntU]
  | s :: r, p => by
    simp only [cntU, List.length_cons]
    split
    · omega
    · have := cntU_le r (p - s.2); omega
theorem cntU_mono : ∀ (ss : List Slip) {p q : Int}, p ≤ q → cntU ss q ≤ cntU ss p
  | [], _, _, _ => by simp [cntU]
  | s :: r, p, q, h => by
    simp only [cntU]
    split
    · rw [if_pos (by omega)]; exact Nat.le_refl _
    · split
      · have := cntU_le r (q - s.2); omega
      · exact cntU_mono r (by omega)
theorem cntU_full : ∀ {ss : List Slip} {p : Int} {x : Slip}, nextS ss p = some x → cntU ss (p + x.2) + 1 ≤ cntU ss p
  | [], _, _, h => by simp [nextS] at h
  | s :: r, p, x, h => by
    simp only [nextS] at h
    simp only [cntU]
    split at h
    · next hc =>
      cases h
      simp only
      rw [if_pos hc, if_neg (by omega)]
      have := cntU_le r (p + (s.2 - p) - s.2); omega
    · next hc =>
      rw [if_neg hc]
      by_cases h0 : p + x.2 < s.2
      · exfalso
        have : ∀ {ss : List Slip} {p : Int} {x : Slip}, nextS ss p = some x → 0 < x.2 := by
          intro ss
          induction ss with
          | nil => intro p x h; simp [nextS] at h
          | cons s r ih =>
            intro p x h
            simp only [nextS] at h
            split at h
            · cases h; simp; omega
            · exact ih h
        have := this h
        omega
      · rw [if_neg h0, show p + x.2 - s.2 = p - s.2 + x.2 by omega]
        exact cntU_full h
theorem paidTo_stepS {ss : List Slip} {p a : Int} {x : Slip} (ha : AmOk ss) (hp : 0 ≤ p) (h : nextS ss p = some x) (h0 : 0 ≤ a) (h1 : a ≤ x.2) (k : Int) : paidTo ss (p + a) k = paidTo ss p k + (if x.1 = k then a else 0) := by
  induction ss generalizing p with
  | nil => simp [nextS] at h
  | cons s r ih =>
    have hs := ha s (by simp)
    simp only [nextS] at h
    rw [paidTo_cons, paidTo_cons]
    split at h
    · next hc =>
      cases h
      simp only at h1
      rw [show min s.2 (p + a) = p + a by omega, show min s.2 p = p by omega, Int.sub_self, Int.sub_self]
      simp only
      split <;> omega
    · next hc =>
      rw [show min s.2 (p + a) = s.2 by omega, show min s.2 p = s.2 by omega, show p + a - s.2 = p - s.2 + a by omega, ih ha.tail (by omega) h]
      omega
/-! houses by their numbers -/
def gp (ps : List Int) (i : Int) : Int := ps.getD i.toNat 0
def gh (b : List House) (i : Int) : House := b.getD i.toNat (0, [])
def headH (b : List House) (ps : List Int) (i : Int) : Option Slip := nextS (gh b i).2 (gp ps i)
def nx (b : List House) (ps : List Int) (i : Int) : Option Int := (headH b ps i).map (·.1)
def heldI (b : List House) (ps : List Int) (i : Int) : Int := (gh b i).1 + recvH b ps i - gp ps i
theorem gp_nat {ps : List Int} {k : Nat} (h : k < ps.length) : gp ps (k : Int) = ps[k] := by unfold gp; simp [h]
theorem gh_nat {b : List House} {k : Nat} (h : k < b.length) : gh b (k : Int) = b[k] := by unfold gh; simp [h]
/-- a book as the laws' draw it: nobody owes itself -/
structure GoodB (b : List House) : Prop extends OkBook b where
  ns : ∀ i : Int, 0 ≤ i → ∀ s ∈ (gh b i).2, s.1 ≠ i
theorem GoodB.gpile {b : List House} (hb : GoodB b) {i : Int} (h0 : 0 ≤ i) (h1 : i < b.length) : gh b i ∈ b := by
  obtain ⟨k, rfl⟩ : ∃ k : Nat, i = (k : Int) := ⟨i.toNat, by omega⟩
  rw [gh_nat (by omega)]; exact List.getElem_mem _
theorem GoodB.am {b : List House} (hb : GoodB b) (i : Int) : AmOk (gh b i).2 := by
  by_cases h : i.toNat < b.length
  · have : gh b i ∈ b := by unfold gh; simp [h]
    exact (hb.pile _ this).am
  · unfold gh; simp [List.getD, List.getElem?_eq_none_iff.mpr (Nat.le_of_not_lt h)]
    intro s hs; cases hs
theorem GoodB.to_ {b : List House} (hb : GoodB b) (i : Int) : ∀ s ∈ (gh b i).2, 0 ≤ s.1 ∧ s.1 < b.length := by
  by_cases h : i.toNat < b.length
  · have : gh b i ∈ b := by unfold gh; simp [h]
    exact (hb.pile _ this).to
  · unfold gh; simp [List.getD, List.getElem?_eq_none_iff.mpr (Nat.le_of_not_lt h)]
/-- payments, by the numbers -/
structure PayI (b : List House) (ps : List Int) : Prop where
  len : ps.length = b.length
  ge : ∀ i : Int, 0 ≤ i → i < b.length → 0 ≤ gp ps i ∧ gp ps i ≤ sumA (gh b i).2
theorem PayI.ge0 {b : List House} {ps : List Int} (h : PayI b ps) {i : Int} (h0 : 0 ≤ i) : 0 ≤ gp ps i := by
  by_cases h1 : i < b.length
  · exact (h.ge i h0 h1).1
  · unfold gp
    rw [List.getD_eq_getElem?_getD, List.getElem?_eq_none_iff.mpr (by rw [h.len]; omega)]; exact Int.le_refl _
theorem payI_iff : ∀ {b : List House} {ps : List Int}, PayOf b ps ↔ PayI b ps
  | [], [] => ⟨fun _ => ⟨rfl, fun i h0 h1 => by simp at h1; omega⟩, fun _ => trivial⟩
  | [], _ :: _ => ⟨fun h => h.elim, fun h => by have := h.len; simp at this⟩
  | _ :: _, [] => ⟨fun h => h.elim, fun h => by have := h.len; simp at this⟩
  | x :: b, p :: ps => by
    have ih := payI_iff (b := b) (ps := ps)
    constructor
    · rintro ⟨h1, h2, h3⟩
      have k := ih.mp h3
      refine ⟨by simp [k.len], fun i h0 hi => ?_⟩
      by_cases hz : i = 0
      · subst hz; exact ⟨h1, h2⟩
      · have e : i.toNat = (i - 1).toNat + 1 := by omega
        have := k.ge (i - 1) (by omega) (by simp at hi; omega)
        unfold gp gh at this ⊢
        rw [e, List.getD_cons_succ, List.getD_cons_succ]; exact this
    · intro k
      refine ⟨(k.ge 0 (by omega) (by simp)).1, (k.ge 0 (by omega) (by simp)).2, ih.mpr ⟨by have := k.len; simpa using this, fun i h0 hi => ?_⟩⟩
      have := k.ge (i + 1) (by omega) (by simp; omega)
      unfold gp gh at this ⊢
      rw [show (i + 1).toNat = i.toNat + 1 by omega, List.getD_cons_succ, List.getD_cons_succ] at this
      exact this
end Dl

set_option Elab.async false
set_option linter.all false
set_option maxRecDepth 100000
set_option maxHeartbeats 4000000
/-! Th4: going along next slips; how often one can pay or turn. -/
namespace Dl
open PySem PySem.Spec PyProof.Rows L2
open Classical
/-! going along a function -/
def itr (f : Int → Option Int) : Nat → Int → Option Int
  | 0, i => some i
  | k + 1, i => (f i).bind (itr f k)
def reach (f : Int → Option Int) (i j : Int) : Prop := ∃ k, itr f k i = some j
def onRing (f : Int → Option Int) (i : Int) : Prop := ∃ k, itr f (k + 1) i = some i
theorem reach_self (f : Int → Option Int) (i : Int) : reach f i i := ⟨0, rfl⟩
theorem reach_step {f : Int → Option Int} {i j k : Int} (h : f i = some j) (r : reach f j k) : reach f i k := by
  obtain ⟨n, hn⟩ := r
  exact ⟨n + 1, by simp [itr, h, hn]⟩
theorem not_back {f : Int → Option Int} {i j : Int} (h : f i = some j) (hr : ¬ onRing f i) : ¬ reach f j i := fun ⟨n, hn⟩ => hr ⟨n, by simp [itr, h, hn]⟩
theorem itr_add (f : Int → Option Int) : ∀ (a c : Nat) (i : Int), itr f (a + c) i = (itr f a i).bind (itr f c)
  | 0, c, i => by simp [itr]
  | a + 1, c, i => by
    rw [show a + 1 + c = a + c + 1 by omega]
    simp only [itr]
    cases f i with
    | none => rfl
    | some j => simp [itr_add f a c j]
/-! sizes -/
noncomputable def b01 (P : Prop) : Int := if P then 1 else 0
theorem b01_range (P : Prop) : 0 ≤ b01 P ∧ b01 P ≤ 1 := by unfold b01; split <;> omega
theorem b01_mono {P Q : Prop} (h : P → Q) : b01 P ≤ b01 Q := by
  unfold b01
  split
  · next hp => rw [if_pos (h hp)]; exact Int.le_refl _
  · split <;> omega
theorem sumN_nonneg {f : Int → Int} {n : Nat} (h : ∀ k : Int, 0 ≤ k → k < n → 0 ≤ f k) : 0 ≤ sumN n f := by
  have := sumN_le (f := fun _ => 0) (g := f) (n := n) h
  rwa [sumN_const0] at this
theorem sumN_const (c : Int) : ∀ n, sumN n (fun _ => c) = n * c
  | 0 => by simp [sumN_zero]
  | n + 1 => by rw [sumN_succ, sumN_const c n, Int.natCast_add, Int.add_mul]; omega
theorem sumN_lt {f g : Int → Int} {n : Nat} {i : Int} (h0 : 0 ≤ i) (h1 : i < n) (h : ∀ k : Int, 0 ≤ k → k < n → f k ≤ g k) (hi : f i < g i) : sumN n f < sumN n g := by
  have a := sumN_le (n := n) (f := fun k => f k + (if i = k then g i - f i else 0)) (g := g) fun k k0 k1 => by
    have := h k k0 k1
    split
    · next e => subst e; omega
    · omega
  rw [sumN_add, sumN_one _ _ _ h0 h1] at a
  omega
noncomputable def size (f : Int → Option Int) (n : Nat) (i : Int) : Int := sumN n fun j => b01 (reach f i j)
theorem size_range (f : Int → Option Int) (n : Nat) (i : Int) : 0 ≤ size f n i ∧ size f n i ≤ n := by
  refine ⟨sumN_nonneg fun k _ _ => (b01_range _).1, ?_⟩
  have := sumN_le (n := n) (f := fun j => b01 (reach f i j)) (g := fun _ => 1) fun k _ _ => (b01_range _).2
  rw [sumN_const] at this
  unfold size; omega
theorem size_lt {f : Int → Option Int} {n : Nat} {i j : Int} (h0 : 0 ≤ i) (h1 : i < n) (h : f i = some j) (hr : ¬ onRing f i) : size f n j < size f n i := by
  refine sumN_lt h0 h1 (fun k _ _ => b01_mono fun r => reach_step h r) ?_
  unfold b01
  rw [if_neg (not_back h hr), if_pos (reach_self f i)]; omega
/-! the measure -/
noncomputable def phi (f : Int → Option Int) (n : Nat) (rich : Int → Prop) : Int := sumN n fun i => if rich i then size f n i else 0
theorem phi_range (f : Int → Option Int) (n : Nat) (rich : Int → Prop) : 0 ≤ phi f n rich ∧ phi f n rich ≤ n * n := by
  have h : ∀ i, 0 ≤ (if rich i then size f n i else 0) ∧ (if rich i then size f n i else 0) ≤ n := fun i => by
    have := size_range f n i
    split <;> omega
  refine ⟨sumN_nonneg fun k _ _ => (h k).1, ?_⟩
  have := sumN_le (n := n) (f := fun i => if rich i then size f n i else 0) (g := fun _ => (n : Int)) fun k _ _ => (h k).2
  rw [sumN_const] at this
  exact this
theorem phi_lt {f : Int → Option Int} {n : Nat} {rich rich' : Int → Prop} {i j : Int} (h0 : 0 ≤ i) (h1 : i < n) (j0 : 0 ≤ j) (j1 : j < n) (h : f i = some j) (hr : ¬ onRing f i) (hi : rich i) (hi' : ¬ rich' i)
    (ho : ∀ k, k ≠ i → k ≠ j → rich' k → rich k) : phi f n rich' < phi f n rich := by
  have hs := size_lt h0 h1 h hr
  have sr := fun k => size_range f n k
  have a := sumN_le (n := n) (f := fun k => (if rich' k then size f n k else 0) + (if i = k then size f n i else 0)) (g := fun k => (if rich k then size f n k else 0) + (if j = k then size f n j else 0)) fun k k0 k1 => by
    have hk := sr k
    by_cases e1 : k = i
    · subst e1
      rw [if_neg hi', if_pos rfl, if_pos hi]
      have := sr j
      split <;> omega
    · rw [if_neg (show ¬ i = k from fun z => e1 z.symm)]
      by_cases e2 : k = j
      · subst e2
        rw [if_pos rfl]
        split <;> split <;> omega
      · rw [if_neg (show ¬ j = k from fun z => e2 z.symm)]
        have := ho k e1 e2
        split
        · next r => rw [if_pos (this r)]; omega
        · split <;> omega
  rw [sumN_add, sumN_add, sumN_one _ _ _ h0 h1, sumN_one _ _ _ j0 j1] at a
  unfold phi; omega
/-! sums from the left -/
theorem sumN_left (f : Int → Int) : ∀ n, sumN (n + 1) f = f 0 + sumN n fun i => f (i + 1)
  | 0 => by rw [sumN_succ, sumN_zero, sumN_zero]; simp
  | n + 1 => by
    rw [sumN_succ, sumN_left f n, sumN_succ]
    have : ((n + 1 : Nat) : Int) = (n : Int) + 1 := by omega
    rw [this]; omega
theorem recvH_eq : ∀ {b : List House} {ps : List Int} (h : Int), ps.length = b.length → recvH b ps h = sumN b.length fun i => paidTo (gh b i).2 (gp ps i) h
  | [], [], h, _ => rfl
  | x :: b, p :: ps, h, hl => by
    rw [List.length_cons, sumN_left]
    simp only [recvH]
    rw [recvH_eq (b := b) (ps := ps) h (by simpa using hl)]
    congr 1
    refine sumN_congr fun i i0 i1 => ?_
    unfold gh gp
    rw [show (i + 1).toNat = i.toNat + 1 by omega, List.getD_cons_succ, List.getD_cons_succ]
  | [], _ :: _, _, hl => by simp at hl
  | _ :: _, [], _, hl => by simp at hl
/-! steps -/
def rich (b : List House) (ps : List Int) (i : Int) : Prop := 0 < heldI b ps i ∧ (nx b ps i).isSome = true
def unp (b : List House) (ps : List Int) : Int := sumN b.length fun i => (cntU (gh b i).2 (gp ps i) : Int)
noncomputable def meas (b : List House) (ps : List Int) : Int := 37 * unp b ps + phi (nx b ps) b.length (rich b ps)
theorem unp_range {b : List House} (hb : GoodB b) (ps : List Int) : 0 ≤ unp b ps ∧ unp b ps ≤ 36 := by
  refine ⟨sumN_nonneg fun k _ _ => Int.natCast_nonneg _, ?_⟩
  have := sumN_le (n := b.length) (f := fun i => (cntU (gh b i).2 (gp ps i) : Int)) (g := fun _ => 6) fun k k0 k1 => by
    have a := cntU_le (gh b k).2 (gp ps k)
    have c := (hb.pile _ (hb.gpile k0 k1)).len
    omega
  rw [sumN_const] at this
  have := hb.len
  unfold unp; omega
theorem meas_range {b : List House} (hb : GoodB b) (ps : List Int) : 0 ≤ meas b ps ∧ meas b ps ≤ 1368 := by
  have u := unp_range hb ps
  have p := phi_range (nx b ps) b.length (rich b ps)
  have l := hb.len
  have : (b.length : Int) * b.length ≤ 36 := by
    have : b.length = 0 ∨ b.length = 1 ∨ b.length = 2 ∨ b.length = 3 ∨ b.length = 4 ∨ b.length = 5 ∨ b.length = 6 := by omega
    rcases this with h | h | h | h | h | h | h <;> rw [h] <;> decide
  unfold meas; omega
theorem meas_full {b : List House} (hb : GoodB b) {ps qs : List Int} (h : unp b qs + 1 ≤ unp b ps) : meas b qs < meas b ps := by
  have p := phi_range (nx b ps) b.length (rich b ps)
  have q := phi_range (nx b qs) b.length (rich b qs)
  have l := hb.len
  have : (b.length : Int) * b.length ≤ 36 := by
    have : b.length = 0 ∨ b.length = 1 ∨ b.length = 2 ∨ b.length = 3 ∨ b.length = 4 ∨ b.length = 5 ∨ b.length = 6 := by omega
    rcases this with h | h | h | h | h | h | h <;> rw [h] <;> decide
  unfold meas; omega
end Dl

set_option Elab.async false
set_option linter.all false
set_option maxRecDepth 100000
set_option maxHeartbeats 4000000
/-! Th5: paying, turning rings. -/
namespace Dl
open PySem PySem.Spec PyProof.Rows L2
open Classical
/-- some houses pay so much more -/
def moreL (ps : List Int) (hs : List Int) (a : Int) : List Int := (enI ps).map fun p => p.2 + a * (if p.1 ∈ hs then 1 else 0)
theorem moreL_length (ps hs : List Int) (a : Int) : (moreL ps hs a).length = ps.length := by unfold moreL; rw [List.length_map, enI_length]
theorem moreL_gp {ps hs : List Int} {a k : Int} (h0 : 0 ≤ k) (h1 : k < ps.length) : gp (moreL ps hs a) k = gp ps k + (if k ∈ hs then a else 0) := by
  obtain ⟨j, rfl⟩ : ∃ j : Nat, k = (j : Int) := ⟨k.toNat, by omega⟩
  have hj : j < ps.length := by omega
  rw [gp_nat hj, gp_nat (by rw [moreL_length]; exact hj)]
  have : (moreL ps hs a)[j]? = some (ps[j] + a * (if (j : Int) ∈ hs then 1 else 0)) := by
    unfold moreL enI
    rw [List.getElem?_map, List.getElem?_map, List.getElem?_zipIdx, List.getElem?_eq_getElem hj]; simp
  rw [List.getElem?_eq_getElem (by rw [moreL_length]; exact hj)] at this
  rw [Option.some.inj this]
  split <;> omega
/-- payments behind: some houses have paid so much more -/
structure Paid (b : List House) (ps qs : List Int) (w : Int → Prop) (a : Int) : Prop where
  len : qs.length = ps.length
  gp : ∀ k : Int, 0 ≤ k → k < b.length → gp qs k = gp ps k + (if w k then a else 0)
theorem paid_more {b : List House} {ps : List Int} (hp : PayI b ps) (hs : List Int) (a : Int) : Paid b ps (moreL ps hs a) (fun k => k ∈ hs) a :=
  ⟨moreL_length _ _ _, fun k h0 h1 => by rw [moreL_gp h0 (by rw [hp.len]; exact h1)]; by_cases h : k ∈ hs <;> simp [h]⟩
section
variable {b : List House} {ps qs : List Int} {w : Int → Prop} {a : Int}
/-- each of the houses has a next slip on which so much can be paid -/
def CanPay (b : List House) (ps : List Int) (w : Int → Prop) (a : Int) : Prop := ∀ k : Int, w k → (0 ≤ k ∧ k < b.length) ∧ ∃ x, headH b ps k = some x ∧ a ≤ x.2
theorem Paid.payI (hb : GoodB b) (hp : PayI b ps) (P : Paid b ps qs w a) (h0 : 0 ≤ a) (hc : CanPay b ps w a) : PayI b qs := by
  refine ⟨P.len.trans hp.len, fun k k0 k1 => ?_⟩
  rw [P.gp k k0 k1]
  have := hp.ge k k0 k1
  split
  · next hw =>
    obtain ⟨_, x, hx, hax⟩ := hc k hw
    have := nextS_some (hb.am k) this.1 hx
    omega
  · omega
theorem Paid.unp (P : Paid b ps qs w a) (h0 : 0 ≤ a) : Dl.unp b qs ≤ Dl.unp b ps := by
  refine sumN_le fun k k0 k1 => ?_
  rw [P.gp k k0 k1]
  have := cntU_mono (gh b k).2 (p := Dl.gp ps k) (q := Dl.gp ps k + (if w k then a else 0)) (by split <;> omega)
  omega
/-- a slip is paid in full -/
theorem Paid.unp_full (P : Paid b ps qs w a) (h0 : 0 ≤ a) {i : Int} {x : Slip} (i0 : 0 ≤ i) (i1 : i < b.length) (hw : w i) (hx : headH b ps i = some x) (hax : a = x.2) : Dl.unp b qs + 1 ≤ Dl.unp b ps := by
  have : Dl.unp b qs < Dl.unp b ps := by
    refine sumN_lt i0 i1 (fun k k0 k1 => ?_) ?_
    · rw [P.gp k k0 k1]
      have := cntU_mono (gh b k).2 (p := Dl.gp ps k) (q := Dl.gp ps k + (if w k then a else 0)) (by split <;> omega)
      omega
    · rw [P.gp i i0 i1, if_pos hw, hax]
      have := cntU_full hx
      omega
  omega
theorem Paid.recv (hb : GoodB b) (hp : PayI b ps) (P : Paid b ps qs w a) (h0 : 0 ≤ a) (hc : CanPay b ps w a) (h : Int) : recvH b qs h = recvH b ps h + sumN b.length fun k => if w k ∧ nx b ps k = some h then a else 0 := by
  rw [recvH_eq h (P.len.trans hp.len), recvH_eq h hp.len, ← sumN_add]
  refine sumN_congr fun k k0 k1 => ?_
  rw [P.gp k k0 k1]
  by_cases hw : w k
  · obtain ⟨_, x, hx, hax⟩ := hc k hw
    rw [if_pos hw, paidTo_stepS (hb.am k) (hp.ge k k0 k1).1 hx h0 hax]
    have e : nx b ps k = some x.1 := by unfold nx; rw [hx]; rfl
    rw [e]
    by_cases hxh : x.1 = h
    · rw [if_pos hxh, if_pos ⟨hw, by rw [hxh]⟩]
    · rw [if_neg hxh, if_neg (fun z => hxh (Option.some.inj z.2))]
  · rw [if_neg hw, if_neg (fun z => hw z.1), Int.add_zero]; omega
/-- one house pays -/
theorem pay_recv {i : Int} (hb : GoodB b) (hp : PayI b ps) (P : Paid b ps qs (fun k => k = i) a) (i0 : 0 ≤ i) (i1 : i < b.length) {x : Slip} (hx : headH b ps i = some x) (h0 : 0 ≤ a) (hax : a ≤ x.2) (h : Int) :
    recvH b qs h = recvH b ps h + (if x.1 = h then a else 0) := by
  rw [P.recv hb hp h0 (fun k e => by subst e; exact ⟨⟨i0, i1⟩, x, hx, hax⟩) h]
  congr 1
  have e : nx b ps i = some x.1 := by unfold nx; rw [hx]; rfl
  rw [sumN_congr (g := fun k => if i = k then (if x.1 = h then a else 0) else 0) fun k _ _ => ?_, sumN_one _ _ _ i0 i1]
  by_cases hk : k = i
  · subst hk
    rw [if_pos rfl, e]
    by_cases hxh : x.1 = h
    · rw [if_pos hxh, if_pos ⟨rfl, by rw [hxh]⟩]
    · rw [if_neg hxh, if_neg (fun z => hxh (Option.some.inj z.2))]
  · rw [if_neg (show ¬ i = k from fun z => hk z.symm), if_neg (fun z => hk z.1)]
theorem head_to (hb : GoodB b) (hp : PayI b ps) {i : Int} (i0 : 0 ≤ i) {x : Slip} (hx : headH b ps i = some x) : 0 ≤ x.1 ∧ x.1 < b.length ∧ x.1 ≠ i ∧ 1 ≤ x.2 ∧ x.2 ≤ 1000000000 := by
  obtain ⟨h1, h1', _, s, hs, e⟩ := nextS_some (hb.am i) (hp.ge0 i0) hx
  have := hb.to_ i s hs
  have := hb.ns i i0 s hs
  rw [← e]
  exact ⟨by omega, by omega, this, h1, h1'⟩
theorem pay_meas {i : Int} (hb : GoodB b) (hp : PayI b ps) (i0 : 0 ≤ i) (i1 : i < b.length) {x : Slip} (hx : headH b ps i = some x) (hh : 0 < heldI b ps i) (hr : ¬ onRing (nx b ps) i) (ha : a = min (heldI b ps i) x.2)
    (P : Paid b ps qs (fun k => k = i) a) : meas b qs < meas b ps := by
  have hx2 := head_to hb hp i0 hx
  have a0 : 0 < a := by omega
  by_cases hf : a = x.2
  · exact meas_full hb (P.unp_full (by omega) i0 i1 rfl hx hf)
  · have hlt : a < x.2 := by omega
    have hah : a = heldI b ps i := by omega
    have hu := P.unp (by omega)
    have hnx : ∀ k : Int, 0 ≤ k → k < b.length → nx b qs k = nx b ps k := fun k k0 k1 => by
      unfold nx headH
      rw [P.gp k k0 k1]
      by_cases hk : k = i
      · subst hk
        rw [if_pos rfl]
        unfold headH at hx
        rw [nextS_add hx (by omega) hlt, hx]; rfl
      · rw [if_neg hk, Int.add_zero]
    have hheld : ∀ k : Int, 0 ≤ k → k < b.length → heldI b qs k = heldI b ps k + (if x.1 = k then a else 0) - (if k = i then a else 0) := fun k k0 k1 => by
      unfold heldI
      rw [pay_recv hb hp P i0 i1 hx (by omega) (by omega) k, P.gp k k0 k1]; omega
    have e : nx b ps i = some x.1 := by unfold nx; rw [hx]; rfl
    have hphi : phi (nx b ps) b.length (rich b qs) < phi (nx b ps) b.length (rich b ps) := by
      have q := phi_lt (f := nx b ps) (n := b.length) (rich := fun k => (0 ≤ k ∧ k < b.length) ∧ rich b ps k) (rich' := fun k => (0 ≤ k ∧ k < b.length) ∧ rich b qs k) i0 i1 hx2.1 hx2.2.1 e hr ⟨⟨i0, i1⟩, hh, by rw [e]; rfl⟩
        (fun z => by
          have := hheld i i0 i1
          rw [if_neg hx2.2.2.1, if_pos rfl] at this
          have := z.2.1
          omega)
        (fun k k1 k2 z => ⟨z.1, by
          have := hheld k z.1.1 z.1.2
          rw [if_neg (show ¬ x.1 = k from fun w => k2 w.symm), if_neg k1] at this
          have h1 := z.2.1
          refine ⟨by omega, ?_⟩
          have h2 := z.2.2
          rwa [hnx k z.1.1 z.1.2] at h2⟩)
      have c : ∀ (R : Int → Prop), phi (nx b ps) b.length (fun k => (0 ≤ k ∧ k < b.length) ∧ R k) = phi (nx b ps) b.length R := fun R => sumN_congr fun k k0 k1 => by
        by_cases hR : R k
        · rw [if_pos hR, if_pos ⟨⟨k0, k1⟩, hR⟩]
        · rw [if_neg hR, if_neg (fun z => hR z.2)]
      rw [c, c] at q
      exact q
    have heq : phi (nx b qs) b.length (rich b qs) = phi (nx b ps) b.length (rich b qs) := by
      have hitr : ∀ (k : Nat) (i : Int), 0 ≤ i → i < b.length → itr (nx b qs) k i = itr (nx b ps) k i := by
        intro k
        induction k with
        | zero => intro i _ _; rfl
        | succ k ih =>
          intro i i0 i1
          simp only [itr]
          rw [hnx i i0 i1]
          cases hn : nx b ps i with
          | none => rfl
          | some j =>
            unfold nx at hn
            cases hy : headH b ps i with
            | none => rw [hy] at hn; cases hn
            | some y =>
              rw [hy] at hn
              have := head_to hb hp i0 hy
              cases hn
              exact ih y.1 this.1 this.2.1
      refine sumN_congr fun k k0 k1 => ?_
      have : size (nx b qs) b.length k = size (nx b ps) b.length k := sumN_congr fun j _ _ => by
        unfold b01 reach
        have : (∃ m, itr (nx b qs) m k = some j) = (∃ m, itr (nx b ps) m k = some j) := by
          apply propext
          constructor
          · rintro ⟨m, h⟩; exact ⟨m, by rw [← hitr m k k0 k1]; exact h⟩
          · rintro ⟨m, h⟩; exact ⟨m, by rw [hitr m k k0 k1]; exact h⟩
        simp only [this]
      rw [this]
    unfold meas
    rw [heq]; omega
end
end Dl

set_option Elab.async false
set_option linter.all false
set_option maxRecDepth 100000
set_option maxHeartbeats 4000000
/-! Th6: rings. -/
namespace Dl
open PySem PySem.Spec PyProof.Rows L2
def ringGo (f : Int → Option Int) (i : Int) : Nat → List Int → Option (List Int)
  | 0, _ => none
  | k + 1, way => match way.getLast?.bind f with
    | none => none
    | some j => if j = i then some way else ringGo f i k (way ++ [j])
def minOf : List Int → Int
  | [] => 0
  | x :: r => r.foldl min x
theorem foldl_min_le : ∀ (r : List Int) (x : Int), r.foldl min x ≤ x ∧ ∀ y ∈ r, r.foldl min x ≤ y
  | [], x => ⟨Int.le_refl _, by simp⟩
  | a :: r, x => by
    obtain ⟨h1, h2⟩ := foldl_min_le r (min x a)
    refine ⟨by simp only [List.foldl_cons]; omega, fun y hy => ?_⟩
    simp only [List.foldl_cons]
    rcases List.mem_cons.mp hy with rfl | hy
    · omega
    · exact h2 y hy
theorem foldl_min_mem : ∀ (r : List Int) (x : Int), r.foldl min x = x ∨ r.foldl min x ∈ r
  | [], x => .inl rfl
  | a :: r, x => by
    simp only [List.foldl_cons]
    rcases foldl_min_mem r (min x a) with h | h
    · by_cases hx : x ≤ a
      · left; rw [h]; omega
      · right; rw [h, show min x a = a by omega]; simp
    · right; exact List.mem_cons_of_mem _ h
theorem minOf_mem {w : List Int} (h : w ≠ []) : minOf w ∈ w := by
  cases w with
  | nil => exact (h rfl).elim
  | cons x r => rcases foldl_min_mem r x with e | e <;> simp [minOf, e]
theorem minOf_le {w : List Int} : ∀ y ∈ w, minOf w ≤ y := by
  cases w with
  | nil => simp
  | cons x r =>
    intro y hy
    have := foldl_min_le r x
    rcases List.mem_cons.mp hy with rfl | hy
    · exact this.1
    · exact this.2 y hy
theorem minOf_eq {w : List Int} {m : Int} (h1 : m ∈ w) (h2 : ∀ y ∈ w, m ≤ y) : m = minOf w := by
  have a := minOf_le m h1
  have c := h2 _ (minOf_mem (fun z => by rw [z] at h1; cases h1))
  omega
def rotMin (w : List Int) : List Int := w.drop (w.idxOf (minOf w)) ++ w.take (w.idxOf (minOf w))
theorem rotMin_mem {w : List Int} {x : Int} : x ∈ rotMin w ↔ x ∈ w := by
  unfold rotMin
  rw [List.mem_append, Or.comm, ← List.mem_append, List.take_append_drop]
theorem rotMin_length (w : List Int) : (rotMin w).length = w.length := by
  unfold rotMin; rw [List.length_append, List.length_drop, List.length_take]; omega
def ringL (f : Int → Option Int) (n : Nat) (i : Int) : Option (List Int) := (ringGo f i n [i]).map rotMin
/-- a way that goes along f from i on -/
structure Along (f : Int → Option Int) (i : Int) (way : List Int) : Prop where
  ne : way ≠ []
  at_ : ∀ t : Nat, t < way.length → itr f t i = way[t]?
theorem itr_succ (f : Int → Option Int) (k : Nat) (i : Int) : itr f (k + 1) i = (itr f k i).bind f := by
  rw [itr_add f k 1 i]
  congr 1
  funext j
  simp only [itr]
  cases f j <;> rfl
theorem along_one (f : Int → Option Int) (i : Int) : Along f i [i] := ⟨by simp, fun t ht => by
  have : t = 0 := by simp at ht; omega
  subst this; rfl⟩
theorem Along.last {f : Int → Option Int} {i : Int} {way : List Int} (h : Along f i way) : itr f way.length i = way.getLast?.bind f := by
  have hl : 0 < way.length := List.length_pos_iff.mpr h.ne
  have e : way.length = way.length - 1 + 1 := by omega
  rw [e, itr_succ, h.at_ _ (by omega), ← List.getLast?_eq_getElem?]
theorem Along.snoc {f : Int → Option Int} {i j : Int} {way : List Int} (h : Along f i way) (hj : way.getLast?.bind f = some j) : Along f i (way ++ [j]) := ⟨by simp, fun t ht => by
  by_cases hlt : t < way.length
  · rw [List.getElem?_append_left hlt]; exact h.at_ t hlt
  · have e : t = way.length := by simp at ht; omega
    subst e
    rw [h.last, hj]; simp⟩
theorem ringGo_some {f : Int → Option Int} {i : Int} : ∀ {k : Nat} {way w : List Int}, Along f i way → ringGo f i k way = some w → Along f i w ∧ w.getLast?.bind f = some i
  | 0, _, _, _, h => by simp [ringGo] at h
  | k + 1, way, w, ha, h => by
    simp only [ringGo] at h
    split at h
    · cases h
    · next j hj =>
      split at h
      · next hij => cases h; subst hij; exact ⟨ha, hj⟩
      · exact ringGo_some (ha.snoc hj) h
theorem itr_none {f : Int → Option Int} {i : Int} {k : Nat} (h : itr f k i = none) (m : Nat) : itr f (k + m) i = none := by rw [itr_add, h]; rfl
theorem itr_period {f : Int → Option Int} {i : Int} {m : Nat} (h : itr f m i = some i) : ∀ q, itr f (q * m) i = some i
  | 0 => by simp [itr]
  | q + 1 => by rw [Nat.succ_mul, itr_add, itr_period h q]; exact h
/-- .. if there is none, the house stands on no ring -/
theorem ringGo_none {f : Int → Option Int} {i : Int} : ∀ {k : Nat} {way : List Int}, Along f i way → (∀ t, 1 ≤ t → t < way.length → itr f t i ≠ some i) → ringGo f i k way = none → (∃ t, itr f t i = none) ∨ ∀ t, 1 ≤ t → t < way.length + k → itr f t i ≠ some i
  | 0, way, ha, hn, h => .inr fun t h1 h2 => hn t h1 (by omega)
  | k + 1, way, ha, hn, h => by
    simp only [ringGo] at h
    split at h
    · next e => exact .inl ⟨way.length, by rw [ha.last, e]⟩
    · next j hj =>
      split at h
      · cases h
      · next hij =>
        rcases ringGo_none (ha.snoc hj) (fun t h1 h2 => by
          by_cases hlt : t < way.length
          · exact hn t h1 hlt
          · have e : t = way.length := by simp at h2; omega
            subst e
            rw [ha.last, hj]; exact fun z => hij (Option.some.inj z)) h with q | q
        · exact .inl q
        · exact .inr fun t h1 h2 => q t h1 (by simp; omega)
theorem nodup_le {n : Nat} : ∀ {xs : List Int}, xs.Nodup → (∀ x ∈ xs, 0 ≤ x ∧ x < n) → xs.length ≤ n := by
  intro xs hd hr
  have key : ∀ {xs : List Int}, xs.Nodup → (∀ x ∈ xs, 0 ≤ x ∧ x < n) → sumN n (fun h => if h ∈ xs then 1 else 0) = xs.length := by
    intro xs
    induction xs with
    | nil => intro _ _; simp; exact sumN_const0 n
    | cons x r ih =>
      intro hd hr
      have hd' := List.nodup_cons.mp hd
      have h0 := hr x (by simp)
      have e : sumN n (fun h => if h ∈ x :: r then 1 else 0) = sumN n (fun h => (if x = h then 1 else 0) + (if h ∈ r then 1 else 0)) := sumN_congr fun h _ _ => by
        by_cases hx : x = h
        · subst hx; simp [hd'.1]
        · have : ¬ h = x := fun z => hx z.symm
          simp [this, hx]
      rw [e, sumN_add, sumN_one _ _ _ h0.1 h0.2, ih hd'.2 fun y hy => hr y (List.mem_cons_of_mem _ hy), List.length_cons]
      omega
  have a := key hd hr
  have c := sumN_le (n := n) (f := fun h => if h ∈ xs then 1 else 0) (g := fun _ => 1) fun h _ _ => by split <;> omega
  rw [sumN_const, a] at c
  omega
/-- a least number -/
theorem least_nat {P : Nat → Prop} (h : ∃ n, P n) : ∃ n, P n ∧ ∀ m, m < n → ¬ P m := by
  obtain ⟨n, hn⟩ := h
  induction n using Nat.strongRecOn with
  | ind n ih =>
    by_cases hm : ∃ m, m < n ∧ P m
    · obtain ⟨m, h1, h2⟩ := hm; exact ih m h1 h2
    · exact ⟨n, hn, fun m h1 h2 => hm ⟨m, h1, h2⟩⟩
theorem ring_period {f : Int → Option Int} {n : Nat} (hf : ∀ i j : Int, 0 ≤ i → i < n → f i = some j → 0 ≤ j ∧ j < n) {i : Int} (i0 : 0 ≤ i) (i1 : i < n) (h : onRing f i) : ∃ t, 1 ≤ t ∧ t ≤ n ∧ itr f t i = some i := by
  obtain ⟨k, hk⟩ := h
  obtain ⟨m, ⟨hm1, hm⟩, hmin⟩ := least_nat (P := fun t => 1 ≤ t ∧ itr f t i = some i) ⟨k + 1, by omega, hk⟩
  refine ⟨m, hm1, ?_, hm⟩
  have dfd : ∀ t, t ≤ m → ∃ x, itr f t i = some x := fun t ht => by
    cases e : itr f t i with
    | some x => exact ⟨x, rfl⟩
    | none =>
      have := itr_none e (m - t)
      rw [show t + (m - t) = m by omega, hm] at this; cases this
  have rng : ∀ t, ∀ x, itr f t i = some x → 0 ≤ x ∧ x < n := by
    intro t
    induction t with
    | zero => intro x hx; cases hx; exact ⟨i0, i1⟩
    | succ t ih =>
      intro x hx
      rw [itr_succ] at hx
      cases e : itr f t i with
      | none => rw [e] at hx; cases hx
      | some y => rw [e] at hx; exact hf y x (ih y e).1 (ih y e).2 hx
  let xs := (List.range m).map fun t => (itr f t i).getD 0
  have hnd : xs.Nodup := by
    refine List.nodup_iff_pairwise_ne.mpr ?_
    refine List.pairwise_map.mpr (List.Pairwise.imp_of_mem ?_ List.pairwise_lt_range)
    intro a c ha hc hac e
    rw [List.mem_range] at ha hc
    obtain ⟨x, hx⟩ := dfd a (by omega)
    obtain ⟨y, hy⟩ := dfd c (by omega)
    rw [hx, hy] at e
    simp at e
    subst e
    have h1 : itr f (c + (m - c)) i = some i := by rw [show c + (m - c) = m by omega]; exact hm
    rw [itr_add, hy] at h1
    have h2 : itr f (a + (m - c)) i = some i := by rw [itr_add, hx]; exact h1
    exact hmin (a + (m - c)) (by omega) ⟨by omega, h2⟩
  have := nodup_le hnd (n := n) fun x hx => by
    obtain ⟨t, ht, rfl⟩ := List.mem_map.mp hx
    rw [List.mem_range] at ht
    obtain ⟨y, hy⟩ := dfd t (by omega)
    rw [hy]; exact rng t y hy
  simpa [xs] using this
theorem ringL_none {f : Int → Option Int} {n : Nat} (hf : ∀ i j : Int, 0 ≤ i → i < n → f i = some j → 0 ≤ j ∧ j < n) {i : Int} (i0 : 0 ≤ i) (i1 : i < n) (h : ringL f n i = none) : ¬ onRing f i := fun hr => by
  have h' : ringGo f i n [i] = none := by
    unfold ringL at h
    cases e : ringGo f i n [i] with
    | none => rfl
    | some w => rw [e] at h; cases h
  obtain ⟨t, t1, t2, ht⟩ := ring_period hf i0 i1 hr
  rcases ringGo_none (along_one f i) (fun t h1 h2 => by simp at h2; omega) h' with ⟨k, hk⟩ | q
  · have := itr_none hk (k * t - k)
    have hge : k ≤ k * t := Nat.le_mul_of_pos_right k (by omega)
    rw [show k + (k * t - k) = k * t by omega, itr_period ht k] at this
    cases this
  · exact q t t1 (by simp; omega) ht
/-- the houses of a ring -/
theorem ringL_some {f : Int → Option Int} {n : Nat} {i : Int} {w : List Int} (h : ringL f n i = some w) : i ∈ w ∧ (∀ x ∈ w, (f x).isSome = true) ∧ ∃ v, Along f i v ∧ v.getLast?.bind f = some i ∧ w = rotMin v := by
  unfold ringL at h
  cases e : ringGo f i n [i] with
  | none => rw [e] at h; cases h
  | some v =>
    rw [e] at h
    cases h
    obtain ⟨ha, hl⟩ := ringGo_some (along_one f i) e
    have hpos : 0 < v.length := List.length_pos_iff.mpr ha.ne
    refine ⟨rotMin_mem.mpr ?_, fun x hx => ?_, v, ha, hl, rfl⟩
    · have := ha.at_ 0 hpos
      exact List.mem_of_getElem? this.symm
    · rw [rotMin_mem] at hx
      obtain ⟨t, ht⟩ := List.getElem?_of_mem hx
      have htl := (List.getElem?_eq_some_iff.mp ht).1
      have h1 := ha.at_ t htl
      rw [ht] at h1
      have h2 := itr_succ f t i
      rw [h1] at h2
      simp only [Option.bind_some] at h2
      by_cases hlast : t + 1 < v.length
      · rw [← h2, ha.at_ _ hlast, List.getElem?_eq_getElem hlast]; rfl
      · have e2 : t + 1 = v.length := by omega
        rw [e2, ha.last, hl] at h2
        rw [← h2]; rfl
end Dl

set_option Elab.async false
set_option linter.all false
set_option maxRecDepth 100000
set_option maxHeartbeats 4000000
namespace Dl
open PySem PySem.Spec PyProof.Rows L2
theorem F_is_integer (v : D) (lo hi : Int) {Q : Bool → Prop} {E : EK} (h : Q (wholeD v lo hi)) : t_is_integer v lo hi Q E := by
  simp only [t_is_integer, eqB, inB, bindP, bindW_d, pureW_d, ifW_d, ifP, joinP, lenW, lenA, lenS, sameW, addI, subI, mulI, fdivI, modI, powI, ltI, leI, gtI, geI, eqI, neI, catW, catS, repT, repL, szW, appP, ixW, ixA, getW, asW, lcW, rng1W, rng2W, eqW, neW, eqA, neA, inW, niW, inA, min2, max2, minL, maxL, sumW, absI, intB, anyW, allW, reprW, setixP, augixP, failW, extP, popP, idxW, strW, lrgW, sortW, decide_eq_true_eq, Bool.not_eq_true', Bool.not_eq_eq_eq_not, Bool.not_true, Bool.not_false, decide_eq_false_iff_not, ite_true, ite_false, if_true, if_false, Bool.false_eq_true, true_and, and_true, reduceIte, not_true_eq_false, not_false_eq_true, szOk_small, Nat.reduceAdd, Nat.reduceLeDiff, Nat.zero_add, Int.reduceLT, Int.reduceLE, Int.reduceAdd, Int.reduceMul, Int.reduceNeg, List.length_cons, List.length_nil, List.length_append, List.length_map, isT_int, isT_bool]
  cases v with
  | it i =>
    simp only [isInt, isBool, if_true, Bool.not_false]
    refine ⟨i, rfl, ?_⟩
    simp only [wholeD] at h
    split
    · next h1 => simpa only [h1, decide_true, Bool.true_and] using h
    · next h1 => simpa only [h1, decide_false, Bool.false_and] using h
  | _ => simpa [isInt, isBool, wholeD] using h
theorem F_debt_of {ss : List Slip} (hl : ss.length ≤ 1000) {Q : Int → Prop} {E : EK} (h : Q (sumA ss)) : t_debt_of ss Q E := by
  simp only [t_debt_of, eqB, inB, bindP, bindW_d, pureW_d, ifW_d, ifP, joinP, lenW, lenA, lenS, sameW, addI, subI, mulI, fdivI, modI, powI, ltI, leI, gtI, geI, eqI, neI, catW, catS, repT, repL, szW, appP, ixW, ixA, getW, asW, lcW, rng1W, rng2W, eqW, neW, eqA, neA, inW, niW, inA, min2, max2, minL, maxL, sumW, absI, intB, anyW, allW, reprW, setixP, augixP, failW, extP, popP, idxW, strW, lrgW, sortW, decide_eq_true_eq, Bool.not_eq_true', Bool.not_eq_eq_eq_not, Bool.not_true, Bool.not_false, decide_eq_false_iff_not, ite_true, ite_false, if_true, if_false, Bool.false_eq_true, true_and, and_true, reduceIte, not_true_eq_false, not_false_eq_true, szOk_small, Nat.reduceAdd, Nat.reduceLeDiff, Nat.zero_add, Int.reduceLT, Int.reduceLE, Int.reduceAdd, Int.reduceMul, Int.reduceNeg, List.length_cons, List.length_nil, List.length_append, List.length_map]
  exact lc_map (fun s : Slip => s.2) (by omega) (fun x _ Y h => h) h
theorem F_debts {b : List House} (hb : OkBook b) {Q : List Int → Prop} {E : EK} (h : Q (debtsL b)) : t_debts b Q E := by
  simp only [t_debts, eqB, inB, bindP, bindW_d, pureW_d, ifW_d, ifP, joinP, lenW, lenA, lenS, sameW, addI, subI, mulI, fdivI, modI, powI, ltI, leI, gtI, geI, eqI, neI, catW, catS, repT, repL, szW, appP, ixW, ixA, getW, asW, lcW, rng1W, rng2W, eqW, neW, eqA, neA, inW, niW, inA, min2, max2, minL, maxL, sumW, absI, intB, anyW, allW, reprW, setixP, augixP, failW, extP, popP, idxW, strW, lrgW, sortW, decide_eq_true_eq, Bool.not_eq_true', Bool.not_eq_eq_eq_not, Bool.not_true, Bool.not_false, decide_eq_false_iff_not, ite_true, ite_false, if_true, if_false, Bool.false_eq_true, true_and, and_true, reduceIte, not_true_eq_false, not_false_eq_true, szOk_small, Nat.reduceAdd, Nat.reduceLeDiff, Nat.zero_add, Int.reduceLT, Int.reduceLE, Int.reduceAdd, Int.reduceMul, Int.reduceNeg, List.length_cons, List.length_nil, List.length_append, List.length_map]
  have := hb.len
  exact lc_map (fun h : House => sumA h.2) (by omega) (fun x hx Y h => F_debt_of (by have := (hb.pile x hx).len; omega) h) h
theorem payAll_zip : ∀ (b : List House) (xs : List D), ((List.zip xs (debtsL b)).map fun p => wholeD p.1 0 p.2).all id = payAll b xs
  | [], xs => by simp [payAll]
  | h :: b, [] => by simp [payAll]
  | h :: b, x :: xs => by
    have ih := payAll_zip b xs
    simp only [List.map_cons, List.zip_cons_cons, List.all_cons, id, payAll, ih]
theorem F_is_payments {b : List House} (hb : OkBook b) (v : D) {Q : Bool → Prop} {E : EK} (h : Q (isPay b v)) : t_is_payments b v Q E := by
  simp only [t_is_payments, eqB, inB, bindP, bindW_d, pureW_d, ifW_d, ifP, joinP, lenW, lenA, lenS, sameW, addI, subI, mulI, fdivI, modI, powI, ltI, leI, gtI, geI, eqI, neI, catW, catS, repT, repL, szW, appP, ixW, ixA, getW, asW, lcW, rng1W, rng2W, eqW, neW, eqA, neA, inW, niW, inA, min2, max2, minL, maxL, sumW, absI, intB, anyW, allW, reprW, setixP, augixP, failW, extP, popP, idxW, strW, lrgW, sortW, decide_eq_true_eq, Bool.not_eq_true', Bool.not_eq_eq_eq_not, Bool.not_true, Bool.not_false, decide_eq_false_iff_not, ite_true, ite_false, if_true, if_false, Bool.false_eq_true, true_and, and_true, reduceIte, not_true_eq_false, not_false_eq_true, szOk_small, Nat.reduceAdd, Nat.reduceLeDiff, Nat.zero_add, Int.reduceLT, Int.reduceLE, Int.reduceAdd, Int.reduceMul, Int.reduceNeg, List.length_cons, List.length_nil, List.length_append, List.length_map, isT_tuple]
  have := hb.len
  cases v with
  | tp xs =>
    simp only [isTup, if_false, if_true, Bool.false_eq_true]
    by_cases hl : xs.length = b.length
    · have hl' : (xs.length : Int) = b.length := by omega
      simp only [hl', decide_true, Bool.not_true, Bool.false_eq_true, if_false, not_true]
      refine ⟨xs, by simp [eT], F_debts hb ?_⟩
      refine lc_map (fun p : D × Int => wholeD p.1 0 p.2) (by rw [List.length_zip, List.length_map]; omega) (fun x _ Y h => F_is_integer _ _ _ h) ?_
      rw [payAll_zip]
      simpa [isPay, hl] using h
    · have hl' : ¬ (xs.length : Int) = b.length := by omega
      simp only [hl', decide_false, Bool.not_false, if_true, not_false_eq_true]
      simpa [isPay, hl] using h
  | _ => simpa [isTup, isPay] using h
theorem F_parts_of {ss : List Slip} (hl : ss.length ≤ 1000) (p : Int) {Q : List Int → Prop} {E : EK} (h : Q (parts ss p)) : t_parts_of ss p Q E := by
  simp only [t_parts_of, eqB, inB, bindP, bindW_d, pureW_d, ifW_d, ifP, joinP, lenW, lenA, lenS, sameW, addI, subI, mulI, fdivI, modI, powI, ltI, leI, gtI, geI, eqI, neI, catW, catS, repT, repL, szW, appP, ixW, ixA, getW, asW, lcW, rng1W, rng2W, eqW, neW, eqA, neA, inW, niW, inA, min2, max2, minL, maxL, sumW, absI, intB, anyW, allW, reprW, setixP, augixP, failW, extP, popP, idxW, strW, lrgW, sortW, decide_eq_true_eq, Bool.not_eq_true', Bool.not_eq_eq_eq_not, Bool.not_true, Bool.not_false, decide_eq_false_iff_not, ite_true, ite_false, if_true, if_false, Bool.false_eq_true, true_and, and_true, reduceIte, not_true_eq_false, not_false_eq_true, szOk_small, Nat.reduceAdd, Nat.reduceLeDiff, Nat.zero_add, Int.reduceLT, Int.reduceLE, Int.reduceAdd, Int.reduceMul, Int.reduceNeg, List.length_cons, List.length_nil, List.length_append, List.length_map]
  refine forP_ind (fun r s => s.1.length + r.length ≤ 1000 ∧ Q (s.1 ++ parts r s.2)) (fun s h => by simpa [parts] using h.2) (fun x r s h N k => ?_) _ _ ⟨by simpa using hl, h⟩
  have h1 := h.1
  simp only [List.length_cons] at h1
  refine ⟨szlt (by omega), _, atI_app _ _, k _ ⟨by simp; omega, by simpa [parts] using h.2⟩⟩
theorem F_slips_paid {b : List House} (hb : OkBook b) {ps : List Int} (hl : ps.length = b.length) {Q : List (List Int) → Prop} {E : EK} (h : Q ((b.zip ps).map fun x => parts x.1.2 x.2)) : t_slips_paid b ps Q E := by
  simp only [t_slips_paid, eqB, inB, bindP, bindW_d, pureW_d, ifW_d, ifP, joinP, lenW, lenA, lenS, sameW, addI, subI, mulI, fdivI, modI, powI, ltI, leI, gtI, geI, eqI, neI, catW, catS, repT, repL, szW, appP, ixW, ixA, getW, asW, lcW, rng1W, rng2W, eqW, neW, eqA, neA, inW, niW, inA, min2, max2, minL, maxL, sumW, absI, intB, anyW, allW, reprW, setixP, augixP, failW, extP, popP, idxW, strW, lrgW, sortW, decide_eq_true_eq, Bool.not_eq_true', Bool.not_eq_eq_eq_not, Bool.not_true, Bool.not_false, decide_eq_false_iff_not, ite_true, ite_false, if_true, if_false, Bool.false_eq_true, true_and, and_true, reduceIte, not_true_eq_false, not_false_eq_true, szOk_small, Nat.reduceAdd, Nat.reduceLeDiff, Nat.zero_add, Int.reduceLT, Int.reduceLE, Int.reduceAdd, Int.reduceMul, Int.reduceNeg, List.length_cons, List.length_nil, List.length_append, List.length_map]
  have := hb.len
  refine lc_map (fun x : House × Int => parts x.1.2 x.2) (by rw [List.length_zip]; omega) (fun x hx Y h => F_parts_of (by have := (hb.pile x.1 (List.of_mem_zip hx).1).len; omega) _ h) h
theorem enI_cons {α : Type} (i : Nat) (x : α) (r : List α) : ((x :: r).zipIdx i).map (fun p => ((p.2 : Int), p.1)) = ((i : Int), x) :: (r.zipIdx (i + 1)).map (fun p => ((p.2 : Int), p.1)) := rfl
/-- piles that are no longer than six, with amounts as allowed -/
def OkBookL (b : List House) : Prop := ∀ h ∈ b, h.2.length ≤ 6 ∧ AmOk h.2
theorem OkBook.l {b : List House} (h : OkBook b) : OkBookL b := fun x hx => ⟨(h.pile x hx).len, (h.pile x hx).am⟩
theorem PayOf.mem : ∀ {b : List House} {ps : List Int}, PayOf b ps → OkBookL b → ∀ p ∈ ps, 0 ≤ p ∧ p ≤ 6000000000
  | [], [], _, _, p, hp => by cases hp
  | h :: b, q :: ps, k, ho, p, hp => by
    rcases List.mem_cons.mp hp with rfl | hp
    · have := ho h (by simp)
      have s := sumA_nonneg (ss := h.2) this.2
      have := this.1
      exact ⟨k.1, by have := k.2.1; omega⟩
    · exact PayOf.mem k.2.2 (fun x hx => ho x (List.mem_cons_of_mem _ hx)) p hp
  | [], _ :: _, k, _, _, _ => k.elim
  | _ :: _, [], k, _, _, _ => k.elim
theorem sm_pay {b : List House} (hb : OkBook b) {ps : List Int} (hp : PayOf b ps) : Sm 7 1 (eT eI ps) :=
  (sm_T (n := 6) (m := 1) (h := 0) (by rw [hp.length]; exact hb.len) fun x hx => sm_I (by have := hp.mem hb.l x hx; omega) (by have := hp.mem hb.l x hx; omega)).le (by omega) (by omega)
theorem smint {xs : List Int} {n : Nat} (hl : xs.length ≤ n) (hx : ∀ x ∈ xs, -1 ≤ x ∧ x ≤ 6000000001) : SmL n 0 (xs.map eI) := sm_ints hl fun x h => by have := hx x h; omega
theorem debts_mem {b : List House} (hb : OkBook b) : ∀ x ∈ debtsL b, 0 ≤ x ∧ x ≤ 6000000000 := fun x hx => by
  obtain ⟨h, hh, rfl⟩ := List.mem_map.mp hx
  have := hb.l h hh
  have s := sumA_nonneg (ss := h.2) this.2
  have := this.1
  exact ⟨s.1, by omega⟩
theorem parts_range : ∀ {ss : List Slip} {p : Int}, AmOk ss → 0 ≤ p → ∀ x ∈ parts ss p, 0 ≤ x ∧ x ≤ 1000000000
  | [], _, _, _, x, hx => by cases hx
  | s :: r, p, ha, hp, x, hx => by
    have := ha s (by simp)
    simp only [parts] at hx
    rcases List.mem_cons.mp hx with rfl | hx
    · omega
    · exact parts_range (fun z hz => ha z (List.mem_cons_of_mem _ hz)) (by omega) x hx
theorem sm_book {b : List House} (hb : OkBook b) : Sm 127 4 (eT (eP eI (eT (eP eI eI))) b) := by
  have := sm_bookP hb
  have e : bookP b = eT (eP eI (eT (eP eI eI))) b := rfl
  rwa [e] at this
/-! received, held -/
/-- what is paid on the slips of a pile is added at their houses -/
theorem forP_slips {K : List Int → Prop} {n : Nat} : ∀ (ss : List Slip) (qs : List Int) (xs : List Int), qs.length = ss.length → (∀ s ∈ ss, 0 ≤ s.1 ∧ s.1 < n) → xs.length = n → K (addF (slipsTo ss qs) 0 xs) →
    forP (fun (x : Slip × Int) (s : List Int) N B => ∃ y, atI s x.1.1 = some y ∧ ∃ j, ixN s.length x.1.1 = some j ∧ N (s.set j (y + x.2))) (fun s => K s) (ss.zip qs) xs
  | [], _, xs, _, _, _, h => by
    show K xs
    have e : ∀ qs, addF (slipsTo [] qs) 0 xs = xs := fun qs => addF_zero 0 xs
    rw [e] at h; exact h
  | s :: ss, [], xs, hl, _, _, _ => by simp at hl
  | s :: ss, q :: qs, xs, hl, ht, hx, h => by
    have h0 := ht s (by simp)
    have hi : s.1.toNat < xs.length := by omega
    show ∃ y, atI xs s.1 = some y ∧ ∃ j, ixN xs.length s.1 = some j ∧ _
    refine ⟨xs[s.1.toNat], atI_int h0.1 (by omega), s.1.toNat, ixN_int h0.1 (by omega), ?_⟩
    rw [addF_at q xs 0 s.1.toNat hi]
    refine forP_slips ss qs _ (by simpa using hl) (fun z hz => ht z (List.mem_cons_of_mem _ hz)) (by rw [addF_length]; exact hx) ?_
    rw [addF_addF]
    have e : (fun k => (if (0 : Int) + (s.1.toNat : Int) = k then q else 0) + slipsTo ss qs k) = slipsTo (s :: ss) (q :: qs) := by
      funext k
      simp only [slipsTo]
      rw [show (0 : Int) + (s.1.toNat : Int) = s.1 by omega]
    rw [e]; exact h
def ToOk (n : Nat) (ss : List Slip) : Prop := ∀ s ∈ ss, 0 ≤ s.1 ∧ s.1 < n
theorem OkBook.to {b : List House} (hb : OkBook b) : ∀ x ∈ b, ToOk b.length x.2 := fun x hx s hs => (hb.pile x hx).to s hs
/-- .. of all houses -/
theorem forP_recv {K : List Int → Prop} {α : Type} (pp : α → List Slip × List Int) (body : α → List Int → (List Int → Prop) → (List Int → Prop) → Prop) (n : Nat) (hbody : ∀ x s N B, (pp x).2.length = (pp x).1.length → ToOk n (pp x).1 → (pp x).1.length ≤ 1000 → s.length = n → N (addF (slipsTo (pp x).1 (pp x).2) 0 s) → body x s N B) :
    ∀ (l : List α) (xs : List Int), (∀ x ∈ l, (pp x).2.length = (pp x).1.length ∧ ToOk n (pp x).1 ∧ (pp x).1.length ≤ 1000) → xs.length = n → K (addF (fun h => (l.map fun x => slipsTo (pp x).1 (pp x).2 h).sum) 0 xs) → forP body K l xs
  | [], xs, _, _, h => by
    show K xs
    have e : addF (fun h => (([] : List α).map fun x => slipsTo (pp x).1 (pp x).2 h).sum) 0 xs = xs := addF_zero 0 xs
    rw [e] at h; exact h
  | x :: l, xs, hl, hx, h => by
    have h0 := hl x (by simp)
    refine hbody x xs _ _ h0.1 h0.2.1 h0.2.2 hx ?_
    refine forP_recv pp body n hbody l _ (fun y hy => hl y (List.mem_cons_of_mem _ hy)) (by rw [addF_length]; exact hx) ?_
    rw [addF_addF]
    simpa only [List.map_cons, List.sum_cons] using h
theorem recvH_sum : ∀ (b : List House) (ps : List Int) (h : Int), ((b.zip ps).map fun x => paidTo x.1.2 x.2 h).sum = recvH b ps h
  | [], _, _ => by simp [recvH]
  | _ :: _, [], _ => by simp [recvH]
  | x :: b, p :: ps, h => by simp only [List.zip_cons_cons, List.map_cons, List.sum_cons, recvH, recvH_sum b ps h]
theorem F_received {b : List House} (hb : OkBook b) {ps : List Int} (hl : ps.length = b.length) {Q : List Int → Prop} {E : EK} (h : Q (recvL b ps)) : t_received b ps Q E := by
  simp only [t_received, eqB, inB, bindP, bindW_d, pureW_d, ifW_d, ifP, joinP, lenW, lenA, lenS, sameW, addI, subI, mulI, fdivI, modI, powI, ltI, leI, gtI, geI, eqI, neI, catW, catS, repT, repL, szW, appP, ixW, ixA, getW, asW, lcW, rng1W, rng2W, eqW, neW, eqA, neA, inW, niW, inA, min2, max2, minL, maxL, sumW, absI, intB, anyW, allW, reprW, setixP, augixP, failW, extP, popP, idxW, strW, lrgW, sortW, decide_eq_true_eq, Bool.not_eq_true', Bool.not_eq_eq_eq_not, Bool.not_true, Bool.not_false, decide_eq_false_iff_not, ite_true, ite_false, if_true, if_false, Bool.false_eq_true, true_and, and_true, reduceIte, not_true_eq_false, not_false_eq_true, szOk_small, Nat.reduceAdd, Nat.reduceLeDiff, Nat.zero_add, Int.reduceLT, Int.reduceLE, Int.reduceAdd, Int.reduceMul, Int.reduceNeg, List.length_cons, List.length_nil, List.length_append, List.length_map]
  have hbl := hb.len
  refine lc_map (fun _ => (0 : Int)) (by omega) (fun _ _ _ h => h) ?_
  refine F_slips_paid hb hl ?_
  have e0 : b.map (fun _ => (0 : Int)) = List.replicate b.length 0 := by rw [List.map_const']
  rw [e0]
  refine forP_recv (fun x : House × List Int => (x.1.2, x.2)) _ b.length (fun x s N B h1 h2 _ h3 h4 => forP_slips _ _ _ h1 h2 h3 h4) _ _ (fun x hx => ?_) (by simp) ?_
  · obtain ⟨i, h1, h2⟩ := List.mem_iff_getElem.mp hx
    rw [List.getElem_zip, List.getElem_map, List.getElem_zip] at h2
    subst h2
    exact ⟨parts_length _ _, hb.to _ (List.getElem_mem _), by
      have hi : i < b.length := by rw [List.length_zip] at h1; omega
      have := (hb.pile _ (List.getElem_mem hi)).len
      show b[i].2.length ≤ 1000
      omega⟩
  · have e : (fun h : Int => ((b.zip ((b.zip ps).map fun x => parts x.1.2 x.2)).map fun x : House × List Int => slipsTo x.1.2 x.2 h).sum) = recvH b ps := by
      funext k
      rw [← recvH_sum]
      congr 1
      apply List.ext_getElem
      · simp
      · intro i h1 h2; simp
    rw [e, ← recvL_addF]; exact h
/-! helpers of the laws with the drum -/
theorem F__law_is_int (v : D) (lo hi : Int) {Q : Bool → Prop} {E : EK} (h : Q (wholeD v lo hi)) : t__law_is_int v lo hi Q E := F_is_integer (E := E) v lo hi h
theorem F__law_debts {b : List House} (hb : OkBook b) {Q : List Int → Prop} {E : EK} (h : Q (debtsL b)) : t__law_debts b Q E := by
  simp only [t__law_debts, eqB, inB, bindP, bindW_d, pureW_d, ifW_d, ifP, joinP, lenW, lenA, lenS, sameW, addI, subI, mulI, fdivI, modI, powI, ltI, leI, gtI, geI, eqI, neI, catW, catS, repT, repL, szW, appP, ixW, ixA, getW, asW, lcW, rng1W, rng2W, eqW, neW, eqA, neA, inW, niW, inA, min2, max2, minL, maxL, sumW, absI, intB, anyW, allW, reprW, setixP, augixP, failW, extP, popP, idxW, strW, lrgW, sortW, decide_eq_true_eq, Bool.not_eq_true', Bool.not_eq_eq_eq_not, Bool.not_true, Bool.not_false, decide_eq_false_iff_not, ite_true, ite_false, if_true, if_false, Bool.false_eq_true, true_and, and_true, reduceIte, not_true_eq_false, not_false_eq_true, szOk_small, Nat.reduceAdd, Nat.reduceLeDiff, Nat.zero_add, Int.reduceLT, Int.reduceLE, Int.reduceAdd, Int.reduceMul, Int.reduceNeg, List.length_cons, List.length_nil, List.length_append, List.length_map]
  have := hb.len
  refine lc_map (fun h : House => sumA h.2) (by omega) (fun x hx Y h => ?_) h
  exact lc_map (fun s : Slip => s.2) (by have := (hb.pile x hx).len; omega) (fun _ _ _ h => h) h
theorem F__law_parts {ss : List Slip} (hl : ss.length ≤ 1000) (p : Int) {Q : List Int → Prop} {E : EK} (h : Q (parts ss p)) : t__law_parts ss p Q E := by
  simp only [t__law_parts, eqB, inB, bindP, bindW_d, pureW_d, ifW_d, ifP, joinP, lenW, lenA, lenS, sameW, addI, subI, mulI, fdivI, modI, powI, ltI, leI, gtI, geI, eqI, neI, catW, catS, repT, repL, szW, appP, ixW, ixA, getW, asW, lcW, rng1W, rng2W, eqW, neW, eqA, neA, inW, niW, inA, min2, max2, minL, maxL, sumW, absI, intB, anyW, allW, reprW, setixP, augixP, failW, extP, popP, idxW, strW, lrgW, sortW, decide_eq_true_eq, Bool.not_eq_true', Bool.not_eq_eq_eq_not, Bool.not_true, Bool.not_false, decide_eq_false_iff_not, ite_true, ite_false, if_true, if_false, Bool.false_eq_true, true_and, and_true, reduceIte, not_true_eq_false, not_false_eq_true, szOk_small, Nat.reduceAdd, Nat.reduceLeDiff, Nat.zero_add, Int.reduceLT, Int.reduceLE, Int.reduceAdd, Int.reduceMul, Int.reduceNeg, List.length_cons, List.length_nil, List.length_append, List.length_map]
  refine forP_ind (fun r s => s.1.length + r.length ≤ 1000 ∧ Q (s.1 ++ parts r s.2)) (fun s h => by simpa [parts] using h.2) (fun x r s h N k => ?_) _ _ ⟨by simpa using hl, h⟩
  have h1 := h.1
  simp only [List.length_cons] at h1
  refine ⟨szlt (by omega), _, atI_app _ _, k _ ⟨by simp; omega, by simpa [parts] using h.2⟩⟩
theorem rep_flat {α : Type} (n : Nat) (x : α) : (List.replicate n [x]).flatten = List.replicate n x := by
  induction n with
  | zero => rfl
  | succ n ih => rw [List.replicate_succ, List.flatten_cons, ih, List.replicate_succ]; rfl
theorem F__law_got {b : List House} (hb : OkBook b) {ps : List Int} (hl : ps.length = b.length) {Q : List Int → Prop} {E : EK} (h : Q (recvL b ps)) : t__law_got b ps Q E := by
  simp only [t__law_got, eqB, inB, bindP, bindW_d, pureW_d, ifW_d, ifP, joinP, lenW, lenA, lenS, sameW, addI, subI, mulI, fdivI, modI, powI, ltI, leI, gtI, geI, eqI, neI, catW, catS, repT, repL, szW, appP, ixW, ixA, getW, asW, lcW, rng1W, rng2W, eqW, neW, eqA, neA, inW, niW, inA, min2, max2, minL, maxL, sumW, absI, intB, anyW, allW, reprW, setixP, augixP, failW, extP, popP, idxW, strW, lrgW, sortW, decide_eq_true_eq, Bool.not_eq_true', Bool.not_eq_eq_eq_not, Bool.not_true, Bool.not_false, decide_eq_false_iff_not, ite_true, ite_false, if_true, if_false, Bool.false_eq_true, true_and, and_true, reduceIte, not_true_eq_false, not_false_eq_true, szOk_small, Nat.reduceAdd, Nat.reduceLeDiff, Nat.zero_add, Int.reduceLT, Int.reduceLE, Int.reduceAdd, Int.reduceMul, Int.reduceNeg, List.length_cons, List.length_nil, List.length_append, List.length_map]
  have hbl := hb.len
  refine ⟨⟨by omega, by omega, szle (by omega)⟩, ?_⟩
  rw [rep_flat, show ((b.length : Int)).toNat = b.length by omega]
  refine forP_recv (fun x : House × Int => (x.1.2, parts x.1.2 x.2)) _ b.length (fun x s N B h1 h2 h0 h3 h4 => F__law_parts (ss := x.1.2) h0 x.2 (forP_slips x.1.2 (parts x.1.2 x.2) s h1 h2 h3 h4)) _ _ (fun x hx => ?_) (by simp) ?_
  · exact ⟨parts_length _ _, hb.to _ (List.of_mem_zip hx).1, by
      have := (hb.pile _ (List.of_mem_zip hx).1).len
      show x.1.2.length ≤ 1000
      omega⟩
  · have e : (fun h : Int => ((b.zip ps).map fun x : House × Int => slipsTo x.1.2 (parts x.1.2 x.2) h).sum) = recvH b ps := by
      funext k; exact recvH_sum b ps k
    rw [e, ← recvL_addF]; exact h
theorem heldL_I {b : List House} {ps : List Int} (hl : ps.length = b.length) : heldL b ps = (rgI 0 b.length).map (heldI b ps) := by
  apply List.ext_getElem?
  intro i
  by_cases hi : i < b.length
  · rw [heldL_get hl hi]
    unfold rgI
    rw [List.map_map, List.getElem?_map, List.getElem?_range hi]
    simp only [Option.map_some, Function.comp_apply, Int.zero_add]
    unfold heldI
    rw [gh_nat hi, gp_nat (by omega)]
  · rw [List.getElem?_eq_none_iff.mpr (by rw [heldL_length hl]; omega), List.getElem?_eq_none_iff.mpr (by rw [List.length_map, rgI_length]; omega)]
theorem atI_gp {ps : List Int} {i : Int} (h0 : 0 ≤ i) (h1 : i < ps.length) : atI ps i = some (gp ps i) := by
  rw [atI_int h0 h1]; unfold gp
  have : i.toNat < ps.length := by omega
  simp [this]
theorem atI_gh {b : List House} {i : Int} (h0 : 0 ≤ i) (h1 : i < b.length) : atI b i = some (gh b i) := by
  rw [atI_int h0 h1]; unfold gh
  have : i.toNat < b.length := by omega
  simp [this]
theorem atI_map_rg {n : Nat} (f : Int → Int) {i : Int} (h0 : 0 ≤ i) (h1 : i < n) : atI ((rgI 0 n).map f) i = some (f i) := by
  obtain ⟨k, rfl⟩ : ∃ k : Nat, i = (k : Int) := ⟨i.toNat, by omega⟩
  refine atI_nat ?_
  unfold rgI
  rw [List.map_map, List.getElem?_map, List.getElem?_range (by omega)]; simp
theorem F__law_held {b : List House} (hb : OkBook b) {ps : List Int} (hl : ps.length = b.length) {Q : List Int → Prop} {E : EK} (h : Q (heldL b ps)) : t__law_held b ps Q E := by
  have hbl := hb.len
  have e : t__law_held b ps Q E = t__law_got b ps (fun got => in62 (b.length : Int) ∧ (rgI 0 (b.length : Int).toNat).length ≤ sizeLine ∧ lcP (fun _ Q' _ => Q' true) (fun (a : Int) Q' E => ∃ x, atI b a = some x ∧ ∃ y, atI got a = some y ∧ ∃ z, atI ps a = some z ∧ Q' (x.1 + y - z)) (fun _ => False) (rgI 0 (b.length : Int).toNat) [] Q) E := by
    simp only [t__law_held, eqB, inB, bindP, bindW_d, pureW_d, ifW_d, ifP, joinP, lenW, lenA, lenS, sameW, addI, subI, mulI, fdivI, modI, powI, ltI, leI, gtI, geI, eqI, neI, catW, catS, repT, repL, szW, appP, ixW, ixA, getW, asW, lcW, rng1W, rng2W, eqW, neW, eqA, neA, inW, niW, inA, min2, max2, minL, maxL, sumW, absI, intB, anyW, allW, reprW, setixP, augixP, failW, extP, popP, idxW, strW, lrgW, sortW, decide_eq_true_eq, Bool.not_eq_true', Bool.not_eq_eq_eq_not, Bool.not_true, Bool.not_false, decide_eq_false_iff_not, ite_true, ite_false, if_true, if_false, Bool.false_eq_true, true_and, and_true, reduceIte, not_true_eq_false, not_false_eq_true, szOk_small, Nat.reduceAdd, Nat.reduceLeDiff, Nat.zero_add, Int.reduceLT, Int.reduceLE, Int.reduceAdd, Int.reduceMul, Int.reduceNeg, List.length_cons, List.length_nil, List.length_append, List.length_map]
  rw [e]
  refine F__law_got hb hl ⟨in62_of (by omega) (by omega), ?_⟩
  rw [heldL_I hl] at h
  rw [show ((b.length : Int)).toNat = b.length by omega]
  refine lc_map (heldI b ps) (by rw [rgI_length]; omega) (fun k hk Y hY => ?_) h
  rw [mem_rgI] at hk
  refine ⟨_, atI_gh hk.1 (by omega), recvH b ps k, ?_, _, atI_gp hk.1 (by omega), hY⟩
  unfold recvL
  exact atI_map_rg _ hk.1 (by omega)
/-- the first slip that is not paid in full, with its rest -/
theorem forP_next {Q : Option Slip → Prop} : ∀ (ss : List Slip) (p : Int), AmOk ss → 0 ≤ p → Q (nextS ss p) →
    forP (fun (x : Slip × Int) (_ : Unit) N B => if x.2 < x.1.2 then Q (some (x.1.1, x.1.2 - x.2)) else N ()) (fun _ => Q none) (ss.zip (parts ss p)) ()
  | [], p, _, _, h => h
  | s :: r, p, ha, hp, h => by
    have h1 := ha s (by simp)
    simp only [nextS] at h
    show if min s.2 p < s.2 then _ else _
    by_cases hc : p < s.2
    · rw [if_pos (by omega), show s.2 - min s.2 p = s.2 - p by omega]
      rwa [if_pos hc] at h
    · rw [if_neg (by omega), show p - min s.2 p = p - s.2 by omega]
      rw [if_neg hc] at h
      exact forP_next r (p - s.2) ha.tail (by omega) h
theorem F__law_next {b : List House} (hb : GoodB b) {ps : List Int} (hp : PayI b ps) {i : Int} (i0 : 0 ≤ i) (i1 : i < b.length) {Q : Option Slip → Prop} {E : EK} (h : Q (headH b ps i)) : t__law_next b ps i Q E := by
  have e : t__law_next b ps i Q E = ∃ x, atI b i = some x ∧ ∃ y, atI ps i = some y ∧ t__law_parts x.2 y (fun q => forP (fun (x : Slip × Int) (_ : Unit) N B => if x.2 < x.1.2 then Q (some (x.1.1, x.1.2 - x.2)) else N ()) (fun _ => Q none) (x.2.zip q) ()) E := by
    simp only [t__law_next, eqB, inB, bindP, bindW_d, pureW_d, ifW_d, ifP, joinP, lenW, lenA, lenS, sameW, addI, subI, mulI, fdivI, modI, powI, ltI, leI, gtI, geI, eqI, neI, catW, catS, repT, repL, szW, appP, ixW, ixA, getW, asW, lcW, rng1W, rng2W, eqW, neW, eqA, neA, inW, niW, inA, min2, max2, minL, maxL, sumW, absI, intB, anyW, allW, reprW, setixP, augixP, failW, extP, popP, idxW, strW, lrgW, sortW, decide_eq_true_eq, Bool.not_eq_true', Bool.not_eq_eq_eq_not, Bool.not_true, Bool.not_false, decide_eq_false_iff_not, ite_true, ite_false, if_true, if_false, Bool.false_eq_true, true_and, and_true, reduceIte, not_true_eq_false, not_false_eq_true, szOk_small, Nat.reduceAdd, Nat.reduceLeDiff, Nat.zero_add, Int.reduceLT, Int.reduceLE, Int.reduceAdd, Int.reduceMul, Int.reduceNeg, List.length_cons, List.length_nil, List.length_append, List.length_map]
  rw [e]
  refine ⟨_, atI_gh i0 i1, _, atI_gp i0 (by rw [hp.len]; exact i1), F__law_parts (by have := (hb.pile _ (hb.gpile i0 i1)).len; omega) _ ?_⟩
  exact forP_next _ _ (hb.am i) (hp.ge i i0 i1).1 h
theorem F__law_more {ps hs : List Int} (hl : ps.length ≤ 1000) (a : Int) {Q : List Int → Prop} {E : EK} (h : Q (moreL ps hs a)) : t__law_more ps hs a Q E := by
  simp only [t__law_more, eqB, inB, bindP, bindW_d, pureW_d, ifW_d, ifP, joinP, lenW, lenA, lenS, sameW, addI, subI, mulI, fdivI, modI, powI, ltI, leI, gtI, geI, eqI, neI, catW, catS, repT, repL, szW, appP, ixW, ixA, getW, asW, lcW, rng1W, rng2W, eqW, neW, eqA, neA, inW, niW, inA, min2, max2, minL, maxL, sumW, absI, intB, anyW, allW, reprW, setixP, augixP, failW, extP, popP, idxW, strW, lrgW, sortW, decide_eq_true_eq, Bool.not_eq_true', Bool.not_eq_eq_eq_not, Bool.not_true, Bool.not_false, decide_eq_false_iff_not, ite_true, ite_false, if_true, if_false, Bool.false_eq_true, true_and, and_true, reduceIte, not_true_eq_false, not_false_eq_true, szOk_small, Nat.reduceAdd, Nat.reduceLeDiff, Nat.zero_add, Int.reduceLT, Int.reduceLE, Int.reduceAdd, Int.reduceMul, Int.reduceNeg, List.length_cons, List.length_nil, List.length_append, List.length_map]
  refine lc_map (fun p : Int × Int => p.2 + a * (if p.1 ∈ hs then 1 else 0)) (by rw [enI_length]; omega) (fun x _ Y hY => ⟨.inr (by split <;> omega), hY⟩) h
theorem headH_none {b : List House} {ps : List Int} {i : Int} : (nx b ps i) = none ↔ headH b ps i = none := by unfold nx; simp
theorem nx_some {b : List House} {ps : List Int} {i : Int} {x : Slip} (h : headH b ps i = some x) : nx b ps i = some x.1 := by unfold nx; rw [h]; rfl
theorem nx_range {b : List House} (hb : GoodB b) {ps : List Int} (hp : PayI b ps) : ∀ i j : Int, 0 ≤ i → i < b.length → nx b ps i = some j → 0 ≤ j ∧ j < b.length := fun i j i0 _ h => by
  unfold nx at h
  cases hx : headH b ps i with
  | none => rw [hx] at h; cases h
  | some x => rw [hx] at h; cases h; exact ⟨(head_to hb hp i0 hx).1, (head_to hb hp i0 hx).2.1⟩
theorem idx_no : ∀ (w : List Int) (m : Int) (k : Nat), k < w.idxOf m → w[k]? ≠ some m
  | [], m, k, h => by simp
  | a :: w, m, k, h => by
    rw [List.idxOf_cons] at h
    by_cases e : a = m
    · simp [e] at h
    · rw [show (a == m) = false by simpa using e] at h
      simp only [cond_false] at h
      cases k with
      | zero => simpa using e
      | succ k => rw [List.getElem?_cons_succ]; exact idx_no w m k (by omega)
theorem idx_first {w : List Int} {m : Int} (h : m ∈ w) : w[w.idxOf m]? = some m ∧ ∀ k, k < w.idxOf m → w[k]? ≠ some m := by
  have hl := List.idxOf_lt_length_of_mem h
  exact ⟨by rw [List.getElem?_eq_getElem hl, List.getElem_idxOf hl], idx_no w m⟩
theorem F__law_ring {b : List House} (hb : GoodB b) {ps : List Int} (hp : PayI b ps) {i : Int} (i0 : 0 ≤ i) (i1 : i < b.length) {Q : Option (List Int) → Prop} {E : EK} (h : Q (ringL (nx b ps) b.length i)) : t__law_ring b ps i Q E := by
  have hbl := hb.len
  have e : t__law_ring b ps i Q E = (in62 (b.length : Int) ∧ forP (fun (_ : Int) (way : List Int) N B => ∃ z, atI way (-1) = some z ∧ t__law_next b ps z (fun sl => if sl.isNone = true then Q none else ∃ x, sl = some x ∧
      (if x.1 = i then way ≠ [] ∧ ∀ m : Int, m ∈ way → (∀ y : Int, y ∈ way → m ≤ y) → ∃ j : Nat, (way[j]? = some m ∧ ∀ k : Nat, k < j → way[k]? ≠ some m) ∧ szOk ((cutT way (some (j : Int)) none).length + (cutT way none (some (j : Int))).length) ∧ Q (some (cutT way (some (j : Int)) none ++ cutT way none (some (j : Int))))
       else ∃ x, sl = some x ∧ way.length < sizeLine ∧ N (way ++ [x.1]))) E) (fun _ => Q none) (rgI 0 (b.length : Int).toNat) [i]) := by
    simp only [t__law_ring, eqB, inB, bindP, bindW_d, pureW_d, ifW_d, ifP, joinP, lenW, lenA, lenS, sameW, addI, subI, mulI, fdivI, modI, powI, ltI, leI, gtI, geI, eqI, neI, catW, catS, repT, repL, szW, appP, ixW, ixA, getW, asW, lcW, rng1W, rng2W, eqW, neW, eqA, neA, inW, niW, inA, min2, max2, minL, maxL, sumW, absI, intB, anyW, allW, reprW, setixP, augixP, failW, extP, popP, idxW, strW, lrgW, sortW, decide_eq_true_eq, Bool.not_eq_true', Bool.not_eq_eq_eq_not, Bool.not_true, Bool.not_false, decide_eq_false_iff_not, ite_true, ite_false, if_true, if_false, Bool.false_eq_true, true_and, and_true, reduceIte, not_true_eq_false, not_false_eq_true, szOk_small, Nat.reduceAdd, Nat.reduceLeDiff, Nat.zero_add, Int.reduceLT, Int.reduceLE, Int.reduceAdd, Int.reduceMul, Int.reduceNeg, List.length_cons, List.length_nil, List.length_append, List.length_map]
  rw [e]
  refine ⟨in62_of (by omega) (by omega), ?_⟩
  rw [show ((b.length : Int)).toNat = b.length by omega]
  have key : ∀ (l : List Int) (way : List Int), way ≠ [] → way.length + l.length ≤ 20 → (∀ z ∈ way, 0 ≤ z ∧ z < b.length) → Q ((ringGo (nx b ps) i l.length way).map rotMin) → forP (fun (_ : Int) (way : List Int) N B => ∃ z, atI way (-1) = some z ∧ t__law_next b ps z (fun sl => if sl.isNone = true then Q none else ∃ x, sl = some x ∧
      (if x.1 = i then way ≠ [] ∧ ∀ m : Int, m ∈ way → (∀ y : Int, y ∈ way → m ≤ y) → ∃ j : Nat, (way[j]? = some m ∧ ∀ k : Nat, k < j → way[k]? ≠ some m) ∧ szOk ((cutT way (some (j : Int)) none).length + (cutT way none (some (j : Int))).length) ∧ Q (some (cutT way (some (j : Int)) none ++ cutT way none (some (j : Int))))
       else ∃ x, sl = some x ∧ way.length < sizeLine ∧ N (way ++ [x.1]))) E) (fun _ => Q none) l way := by
    intro l
    induction l with
    | nil => intro way _ _ _ h; exact h
    | cons c l ih =>
      intro way hne hlen hr h
      obtain ⟨z, hz⟩ : ∃ z, way.getLast? = some z := ⟨_, List.getLast?_eq_some_getLast hne⟩
      have hzm := hr z (List.mem_of_getLast? hz)
      refine ⟨z, by rw [atI_neg1, hz], F__law_next hb hp hzm.1 hzm.2 ?_⟩
      rw [List.length_cons] at h hlen
      simp only [ringGo, hz, Option.bind_some] at h
      cases hx : headH b ps z with
      | none =>
        rw [headH_none.mpr hx] at h
        simp only [Option.isNone_none, if_true]
        exact h
      | some x =>
        rw [nx_some hx] at h
        simp only [Option.isNone_some, Bool.false_eq_true, if_false]
        refine ⟨x, rfl, ?_⟩
        by_cases hxi : x.1 = i
        · rw [if_pos hxi]
          simp only [hxi, if_true, Option.map_some] at h
          refine ⟨hne, fun m hm hle => ?_⟩
          have em := minOf_eq hm hle
          obtain ⟨f1, f2⟩ := idx_first hm
          have hil := List.idxOf_lt_length_of_mem hm
          refine ⟨_, ⟨f1, f2⟩, ?_⟩
          rw [cutT_from _ _ (by omega), cutT_to _ _ (by omega), show ((way.idxOf m : Nat) : Int).toNat = way.idxOf m by omega]
          refine ⟨szle (by rw [List.length_drop, List.length_take]; omega), ?_⟩
          unfold rotMin at h
          rw [← em] at h
          exact h
        · rw [if_neg hxi]
          simp only [if_neg hxi] at h
          have ht := head_to hb hp hzm.1 hx
          exact ⟨x, rfl, szlt (by omega), ih (way ++ [x.1]) (by simp) (by simp; omega) (fun y hy => by
            rcases List.mem_append.mp hy with hy | hy
            · exact hr y hy
            · rw [List.mem_singleton] at hy; subst hy; exact ⟨ht.1, ht.2.1⟩) h⟩
  refine key _ _ (by simp) (by rw [rgI_length]; simp; omega) (fun z hz => by rw [List.mem_singleton] at hz; subst hz; exact ⟨i0, i1⟩) ?_
  rw [rgI_length]; exact h
end Dl

set_option Elab.async false
set_option linter.all false
set_option maxRecDepth 100000
set_option maxHeartbeats 4000000
namespace Dl
open PySem PySem.Spec PyProof.Rows L2
/-! steps -/
def restH (b : List House) (ps : List Int) (i : Int) : Int := ((headH b ps i).getD (0, 0)).2
def restL (b : List House) (ps w : List Int) : Int := minOf (w.map (restH b ps))
theorem F__law_rest {b : List House} (hb : GoodB b) {ps : List Int} (hp : PayI b ps) {w : List Int} (hn : w ≠ []) (hl : w.length ≤ 1000) (hw : ∀ x ∈ w, (0 ≤ x ∧ x < b.length) ∧ (nx b ps x).isSome = true) {Q : Int → Prop} {E : EK} (h : Q (restL b ps w)) : t__law_rest b ps w Q E := by
  simp only [t__law_rest, eqB, inB, bindP, bindW_d, pureW_d, ifW_d, ifP, joinP, lenW, lenA, lenS, sameW, addI, subI, mulI, fdivI, modI, powI, ltI, leI, gtI, geI, eqI, neI, catW, catS, repT, repL, szW, appP, ixW, ixA, getW, asW, lcW, rng1W, rng2W, eqW, neW, eqA, neA, inW, niW, inA, min2, max2, minL, maxL, sumW, absI, intB, anyW, allW, reprW, setixP, augixP, failW, extP, popP, idxW, strW, lrgW, sortW, decide_eq_true_eq, Bool.not_eq_true', Bool.not_eq_eq_eq_not, Bool.not_true, Bool.not_false, decide_eq_false_iff_not, ite_true, ite_false, if_true, if_false, Bool.false_eq_true, true_and, and_true, reduceIte, not_true_eq_false, not_false_eq_true, szOk_small, Nat.reduceAdd, Nat.reduceLeDiff, Nat.zero_add, Int.reduceLT, Int.reduceLE, Int.reduceAdd, Int.reduceMul, Int.reduceNeg, List.length_cons, List.length_nil, List.length_append, List.length_map]
  refine lc_map (restH b ps) (by omega) (fun x hx Y hY => ?_) ?_
  · obtain ⟨⟨x0, x1⟩, x2⟩ := hw x hx
    refine F__law_next hb hp x0 x1 ?_
    cases hh : headH b ps x with
    | none => unfold nx at x2; rw [hh] at x2; cases x2
    | some y => unfold restH at hY; rw [hh] at hY; exact ⟨y, rfl, hY⟩
  · refine ⟨by simpa using hn, fun m hm hle => ?_⟩
    rw [minOf_eq hm hle]; exact h
def richL (b : List House) (ps : List Int) : List Int := (((rgI 0 b.length).filter fun k => decide (0 < heldI b ps k)).map id).filter (fun k => (headH b ps k).isSome)
theorem heldL_at {b : List House} {ps : List Int} (hp : PayI b ps) {k : Int} (k0 : 0 ≤ k) (k1 : k < b.length) : atI (heldL b ps) k = some (heldI b ps k) := by
  rw [heldL_I hp.len]; exact atI_map_rg _ k0 k1
theorem F__law_rich {b : List House} (hb : GoodB b) {ps : List Int} (hp : PayI b ps) {Q : List Int → Prop} {E : EK} (h : Q (richL b ps)) : t__law_rich b ps Q E := by
  have hbl := hb.len
  simp -implicitDefEqProofs only [t__law_rich, eqB, inB, bindP, bindW_d, pureW_d, ifW_d, ifP, joinP, lenW, lenA, lenS, sameW, addI, subI, mulI, fdivI, modI, powI, ltI, leI, gtI, geI, eqI, neI, catW, catS, repT, repL, szW, appP, ixW, ixA, getW, asW, lcW, rng1W, rng2W, eqW, neW, eqA, neA, inW, niW, inA, min2, max2, minL, maxL, sumW, absI, intB, anyW, allW, reprW, setixP, augixP, failW, extP, popP, idxW, strW, lrgW, sortW, decide_eq_true_eq, Bool.not_eq_true', Bool.not_eq_eq_eq_not, Bool.not_true, Bool.not_false, decide_eq_false_iff_not, ite_true, ite_false, if_true, if_false, Bool.false_eq_true, true_and, and_true, reduceIte, not_true_eq_false, not_false_eq_true, szOk_small, Nat.reduceAdd, Nat.reduceLeDiff, Nat.zero_add, Int.reduceLT, Int.reduceLE, Int.reduceAdd, Int.reduceMul, Int.reduceNeg, List.length_cons, List.length_nil, List.length_append, List.length_map]
  refine F__law_held hb.toOkBook hp.len ⟨in62_of (by omega) (by omega), ?_⟩
  rw [show ((b.length : Int)).toNat = b.length by omega]
  refine lc_filter (fun k => if 0 < heldI b ps k then some k else none) (by rw [rgI_length]; omega) (fun k hk Y N hY hN => ?_) ?_
  · rw [mem_rgI] at hk
    refine ⟨_, heldL_at hp hk.1 (by omega), ?_⟩
    show ite _ _ _
    by_cases hc : 0 < heldI b ps k
    · rw [if_pos (by simpa using hc)]; exact hY k (by simp [hc])
    · rw [if_neg (by simpa using hc)]; exact hN (by simp [hc])
  · have e1 : (rgI 0 b.length).filterMap (fun k => if 0 < heldI b ps k then some k else none) = ((rgI 0 b.length).filter fun k => decide (0 < heldI b ps k)).map id := by
      rw [List.map_id]
      generalize rgI 0 b.length = l
      induction l with
      | nil => rfl
      | cons x l ih => by_cases hc : 0 < heldI b ps x <;> simp [List.filterMap_cons, List.filter_cons, hc, ih]
    rw [e1]
    have hm : ∀ k ∈ ((rgI 0 b.length).filter fun k => decide (0 < heldI b ps k)).map id, 0 ≤ k ∧ k < b.length := fun k hk => by
      rw [List.map_id] at hk
      have := (List.mem_filter.mp hk).1
      rw [mem_rgI] at this; omega
    have hlen : (((rgI 0 b.length).filter fun k => decide (0 < heldI b ps k)).map id).length ≤ 6 := by
      rw [List.length_map]
      have := List.length_filter_le (fun k => decide (0 < heldI b ps k)) (rgI 0 b.length)
      rw [rgI_length] at this; omega
    unfold richL at h
    revert h hm hlen
    generalize ((rgI 0 b.length).filter fun k => decide (0 < heldI b ps k)).map id = l
    intro h hm hlen
    refine lc_filter (fun k => if (headH b ps k).isSome then some k else none) (by omega) (fun k hk Y N hY hN => ?_) ?_
    · refine F__law_next hb hp (hm k hk).1 (hm k hk).2 ?_
      show ite _ _ _
      cases hc : (headH b ps k).isSome
      · rw [if_neg (by simp)]; exact hN (by simp [hc])
      · rw [if_pos rfl]; exact hY k (by simp [hc])
    · have e2 : ∀ l : List Int, l.filterMap (fun k => if (headH b ps k).isSome then some k else none) = l.filter (fun k => (headH b ps k).isSome) := fun l => by
        induction l with
        | nil => rfl
        | cons x l ih => cases hc : (headH b ps x).isSome <;> simp [List.filterMap_cons, List.filter_cons, hc, ih]
      rw [e2]; exact h
theorem mem_richL {b : List House} {ps : List Int} {k : Int} : k ∈ richL b ps ↔ (0 ≤ k ∧ k < b.length) ∧ 0 < heldI b ps k ∧ (nx b ps k).isSome = true := by
  unfold richL nx
  rw [List.map_id, List.mem_filter, List.mem_filter, mem_rgI]
  simp [and_assoc]
/-- what a step of a run does -/
def StepOk (b : List House) (ps : List Int) (s : Str × Int × Int) (qs : List Int) : Prop := ∀ (Q : Option (List Int) → Prop) (E : EK), Q (some qs) → t__law_after b ps (e3 eS eI eI s) Q E
theorem e3_eq (s : Str) (i a : Int) : e3 eS eI eI (s, i, a) = .tp [.st s, .it i, .it a] := rfl
theorem isT_tp (xs : List D) : isT "tuple" (eA (.tp xs)) = true := rfl
theorem isT_st (x : Str) : isT "str" (eA (.st x)) = true := rfl
theorem oIx_0 (d : D) (ds : List D) (Q : DK) (h : Q d) : oIx (.tp (d :: ds)) (.it 0) Q := by
  show (match atI (d :: ds) 0 with | some d => Q d | none => False)
  rw [show atI (d :: ds) 0 = some d from atI_nat (j := 0) rfl]; exact h
theorem cmp_pp : cmpOk (.st (Str.ofString "pay")) (eS (Str.ofString "pay")) := ⟨rfl, rfl, by decide⟩
theorem cmp_rp : cmpOk (.st (Str.ofString "ring")) (eS (Str.ofString "pay")) := ⟨rfl, rfl, by decide⟩
theorem cmp_rr : cmpOk (.st (Str.ofString "ring")) (eS (Str.ofString "ring")) := ⟨rfl, rfl, by decide⟩
theorem eq_pp : eqD (.st (Str.ofString "pay")) (eS (Str.ofString "pay")) = true := by decide
theorem eq_rp : eqD (.st (Str.ofString "ring")) (eS (Str.ofString "pay")) = false := by decide
theorem eq_rr : eqD (.st (Str.ofString "ring")) (eS (Str.ofString "ring")) = true := by decide
theorem whole_in {i lo hi : Int} (h0 : lo ≤ i) (h1 : i ≤ hi) : wholeD (.it i) lo hi = true := by simp [wholeD, h0, h1]
theorem step_pay {b : List House} (hb : GoodB b) {ps : List Int} (hp : PayI b ps) {i a : Int} (i0 : 0 ≤ i) (i1 : i < b.length) {x : Slip} (hx : headH b ps i = some x) (a1 : 1 ≤ a) (ah : a ≤ heldI b ps i) (ax : a ≤ x.2) : StepOk b ps (Str.ofString "pay", i, a) (moreL ps [i] a) := fun Q E h => by
  have hx2 := head_to hb hp i0 hx
  have hbl := hb.len
  simp only [t__law_after, eqB, inB, bindP, bindW_d, pureW_d, ifW_d, ifP, joinP, lenW, lenA, lenS, sameW, addI, subI, mulI, fdivI, modI, powI, ltI, leI, gtI, geI, eqI, neI, catW, catS, repT, repL, szW, appP, ixW, ixA, getW, asW, lcW, rng1W, rng2W, eqW, neW, eqA, neA, inW, niW, inA, min2, max2, minL, maxL, sumW, absI, intB, anyW, allW, reprW, setixP, augixP, failW, extP, popP, idxW, strW, lrgW, sortW, decide_eq_true_eq, Bool.not_eq_true', Bool.not_eq_eq_eq_not, Bool.not_true, Bool.not_false, decide_eq_false_iff_not, ite_true, ite_false, if_true, if_false, Bool.false_eq_true, true_and, and_true, reduceIte, not_true_eq_false, not_false_eq_true, szOk_small, Nat.reduceAdd, Nat.reduceLeDiff, Nat.zero_add, Int.reduceLT, Int.reduceLE, Int.reduceAdd, Int.reduceMul, Int.reduceNeg, List.length_cons, List.length_nil, List.length_append, List.length_map]
  rw [e3_eq, isT_tp]
  rw [if_neg (by decide)]
  show ite (¬ _) _ _
  rw [if_neg (fun h => h rfl)]
  refine oIx_0 _ _ _ ?_
  rw [isT_st]
  rw [if_neg (by decide)]
  refine ⟨(.st (Str.ofString "pay"), .it i, .it a), rfl, F__law_is_int _ _ _ ?_⟩
  rw [whole_in i0 (by omega)]
  rw [if_neg (by decide)]
  refine ⟨cpow_dec (by decide), F__law_is_int _ _ _ ?_⟩
  rw [whole_in a1 (by have : (1000000000 : Int) ≤ 10 ^ Int.toNat 30 := by decide
                      omega), if_neg (by decide)]
  refine F__law_held hb.toOkBook hp.len ⟨i, rfl, F__law_next hb hp i0 i1 ⟨cmp_pp, ?_⟩⟩
  rw [if_pos eq_pp, hx]
  rw [if_pos (show (some x).isSome = true from rfl)]
  refine ⟨a, rfl, i, rfl, _, heldL_at hp i0 i1, x, rfl, ?_⟩
  rw [if_pos (by omega)]
  exact ⟨i, rfl, a, rfl, F__law_more (by rw [hp.len]; omega) _ h⟩

theorem Along.in {f : Int → Option Int} {n : Nat} (hf : ∀ i j : Int, 0 ≤ i → i < n → f i = some j → 0 ≤ j ∧ j < n) {i : Int} (i0 : 0 ≤ i) (i1 : i < n) {w : List Int} (h : Along f i w) : ∀ x ∈ w, 0 ≤ x ∧ x < n := by
  have key : ∀ k x, itr f k i = some x → 0 ≤ x ∧ x < n := by
    intro k
    induction k with
    | zero => intro x hx; cases hx; exact ⟨i0, i1⟩
    | succ k ih =>
      intro x hx
      rw [itr_succ] at hx
      cases e : itr f k i with
      | none => rw [e] at hx; cases hx
      | some y => rw [e] at hx; exact hf y x (ih y e).1 (ih y e).2 hx
  intro x hx
  obtain ⟨k, hk, e⟩ := List.getElem_of_mem hx
  exact key k x (by rw [h.at_ k hk, List.getElem?_eq_getElem hk, e])
theorem ringGo_len {f : Int → Option Int} {i : Int} : ∀ {k : Nat} {way w : List Int}, ringGo f i k way = some w → w.length ≤ way.length + k
  | 0, _, _, h => by simp [ringGo] at h
  | k + 1, way, w, h => by
    simp only [ringGo] at h
    split at h
    · cases h
    · next j _ =>
      by_cases hj : j = i
      · rw [if_pos hj] at h; cases h; omega
      · rw [if_neg hj] at h
        have := ringGo_len h
        simp at this; omega
theorem ringL_facts {b : List House} (hb : GoodB b) {ps : List Int} (hp : PayI b ps) {i : Int} (i0 : 0 ≤ i) (i1 : i < b.length) {w : List Int} (h : ringL (nx b ps) b.length i = some w) : i ∈ w ∧ w.length ≤ 1000 ∧ ∀ x ∈ w, (0 ≤ x ∧ x < b.length) ∧ (nx b ps x).isSome = true := by
  obtain ⟨h1, h2, v, ha, _, rfl⟩ := ringL_some h
  refine ⟨h1, ?_, fun x hx => ⟨ha.in (nx_range hb hp) i0 i1 x (rotMin_mem.mp hx), h2 x hx⟩⟩
  unfold ringL at h
  cases e : ringGo (nx b ps) i b.length [i] with
  | none => rw [e] at h; cases h
  | some u =>
    rw [e] at h
    have := ringGo_len e
    have hbl := hb.len
    have hu : rotMin u = rotMin v := by simpa using h
    rw [← hu, rotMin_length]; simp at this; omega
theorem restL_le {b : List House} {ps w : List Int} {x : Int} (hx : x ∈ w) : restL b ps w ≤ restH b ps x := minOf_le _ (List.mem_map_of_mem hx)
theorem restL_mem {b : List House} {ps w : List Int} (hn : w ≠ []) : ∃ x ∈ w, restL b ps w = restH b ps x := by
  have := minOf_mem (w := w.map (restH b ps)) (by simpa using hn)
  rw [List.mem_map] at this
  obtain ⟨x, hx, e⟩ := this
  exact ⟨x, hx, e.symm⟩
theorem restH_pos {b : List House} (hb : GoodB b) {ps : List Int} (hp : PayI b ps) {x : Int} (x0 : 0 ≤ x) (h : (nx b ps x).isSome = true) : ∃ s, headH b ps x = some s ∧ restH b ps x = s.2 ∧ 1 ≤ s.2 ∧ s.2 ≤ 1000000000 := by
  unfold nx at h
  cases e : headH b ps x with
  | none => rw [e] at h; cases h
  | some s => exact ⟨s, rfl, by unfold restH; rw [e]; rfl, (head_to hb hp x0 e).2.2.2⟩
theorem step_ring {b : List House} (hb : GoodB b) {ps : List Int} (hp : PayI b ps) {i a : Int} (i0 : 0 ≤ i) (i1 : i < b.length) {w : List Int} (hw : ringL (nx b ps) b.length i = some w) (a1 : 1 ≤ a) (ar : a ≤ restL b ps w) {o : Int} (ho : o ∈ w) (hh : 1 ≤ heldI b ps o) : StepOk b ps (Str.ofString "ring", i, a) (moreL ps w a) := fun Q E h => by
  have hbl := hb.len
  obtain ⟨w1, w2, w3⟩ := ringL_facts hb hp i0 i1 hw
  have hwn : w ≠ [] := List.ne_nil_of_mem w1
  obtain ⟨s, hs, hs2⟩ := restH_pos hb hp i0 (w3 i w1).2
  have hri := restL_le (b := b) (ps := ps) w1
  simp only [t__law_after, eqB, inB, bindP, bindW_d, pureW_d, ifW_d, ifP, joinP, lenW, lenA, lenS, sameW, addI, subI, mulI, fdivI, modI, powI, ltI, leI, gtI, geI, eqI, neI, catW, catS, repT, repL, szW, appP, ixW, ixA, getW, asW, lcW, rng1W, rng2W, eqW, neW, eqA, neA, inW, niW, inA, min2, max2, minL, maxL, sumW, absI, intB, anyW, allW, reprW, setixP, augixP, failW, extP, popP, idxW, strW, lrgW, sortW, decide_eq_true_eq, Bool.not_eq_true', Bool.not_eq_eq_eq_not, Bool.not_true, Bool.not_false, decide_eq_false_iff_not, ite_true, ite_false, if_true, if_false, Bool.false_eq_true, true_and, and_true, reduceIte, not_true_eq_false, not_false_eq_true, szOk_small, Nat.reduceAdd, Nat.reduceLeDiff, Nat.zero_add, Int.reduceLT, Int.reduceLE, Int.reduceAdd, Int.reduceMul, Int.reduceNeg, List.length_cons, List.length_nil, List.length_append, List.length_map]
  rw [e3_eq, isT_tp]
  rw [if_neg (by decide)]
  show ite (¬ _) _ _
  rw [if_neg (fun h => h rfl)]
  refine oIx_0 _ _ _ ?_
  rw [isT_st]
  rw [if_neg (by decide)]
  refine ⟨(.st (Str.ofString "ring"), .it i, .it a), rfl, F__law_is_int _ _ _ ?_⟩
  rw [whole_in i0 (by omega)]
  rw [if_neg (by decide)]
  refine ⟨cpow_dec (by decide), F__law_is_int _ _ _ ?_⟩
  rw [whole_in a1 (by have : (1000000000 : Int) ≤ 10 ^ Int.toNat 30 := by decide
                      omega), if_neg (by decide)]
  refine F__law_held hb.toOkBook hp.len ⟨i, rfl, F__law_next hb hp i0 i1 ⟨cmp_rp, ?_⟩⟩
  rw [if_neg (by rw [eq_rp]; decide)]
  refine ⟨cmp_rr, ?_⟩
  rw [if_pos eq_rr]
  refine ⟨i, rfl, F__law_ring hb hp i0 i1 ?_⟩
  rw [hw]
  rw [if_neg (by simp)]
  refine ⟨a, rfl, w, rfl, F__law_rest hb hp hwn w2 w3 ?_⟩
  rw [if_neg (by omega)]
  refine ⟨w, rfl, lc_map (heldI b ps) (by omega) (fun x hx Y hY => ⟨_, heldL_at hp (w3 x hx).1.1 (w3 x hx).1.2, hY⟩) ⟨by simpa using hwn, fun m hm hle => ?_⟩⟩
  have : heldI b ps o ≤ m := hle _ (List.mem_map_of_mem ho)
  rw [if_neg (by omega)]
  exact ⟨w, rfl, a, rfl, F__law_more (by rw [hp.len]; omega) _ h⟩
end Dl

set_option Elab.async false
set_option linter.all false
set_option maxRecDepth 100000
set_option maxHeartbeats 4000000
namespace Dl
open PySem PySem.Spec PyProof.Rows L2
/-! runs -/
inductive Steps (b : List House) : List Int → List (Str × Int × Int) → List Int → Prop where
  | nil (ps : List Int) : Steps b ps [] ps
  | cons {ps qs rs : List Int} {s : Str × Int × Int} {r : List (Str × Int × Int)} : StepOk b ps s qs → Steps b qs r rs → Steps b ps (s :: r) rs
theorem Steps.snoc {b : List House} {ps qs rs : List Int} {s : Str × Int × Int} {r : List (Str × Int × Int)} (h : Steps b ps r qs) (k : StepOk b qs s rs) : Steps b ps (r ++ [s]) rs := by
  induction h with
  | nil ps => exact .cons k (.nil _)
  | cons h1 _ ih => exact .cons h1 (ih k)
def zeroL (b : List House) : List Int := List.replicate b.length 0
theorem zero_pay {b : List House} (hb : GoodB b) : PayI b (zeroL b) := by
  refine ⟨List.length_replicate, fun i i0 i1 => ?_⟩
  have : gp (zeroL b) i = 0 := by
    obtain ⟨k, rfl⟩ : ∃ k : Nat, i = (k : Int) := ⟨i.toNat, by omega⟩
    have hk : k < (zeroL b).length := by unfold zeroL; rw [List.length_replicate]; omega
    rw [gp_nat hk]
    unfold zeroL; exact List.getElem_replicate _
  rw [this]
  exact ⟨Int.le_refl _, (sumA_nonneg (hb.am i)).1⟩
theorem forP_steps {b : List House} {Q : Option (List Int) → Prop} {E : EK} {ps qs : List Int} {run : List (Str × Int × Int)} (h : Steps b ps run qs) (k : Q (some qs)) :
    forP (fun (x : D) (s : Option (List Int)) N B => if s.isSome = true then ∃ x', s = some x' ∧ t__law_after b x' x (fun p => N p) E else N s) (fun s => Q s) (run.map (e3 eS eI eI)) (some ps) := by
  induction h with
  | nil ps => exact k
  | @cons ps qs rs s r h1 _ ih =>
    simp only [List.map_cons, forP]
    rw [if_pos (show (some ps).isSome = true from rfl)]
    exact ⟨ps, rfl, h1 _ _ (ih k)⟩
theorem F__law_end {b : List House} (hb : GoodB b) {ps : List Int} {run : List (Str × Int × Int)} (hs : Steps b (zeroL b) run ps) {Q : Option (List Int) → Prop} {E : EK} (h : Q (some ps)) : t__law_end b (eT (e3 eS eI eI) run) Q E := by
  have hbl := hb.len
  simp only [t__law_end, eqB, inB, bindP, bindW_d, pureW_d, ifW_d, ifP, joinP, lenW, lenA, lenS, sameW, addI, subI, mulI, fdivI, modI, powI, ltI, leI, gtI, geI, eqI, neI, catW, catS, repT, repL, szW, appP, ixW, ixA, getW, asW, lcW, rng1W, rng2W, eqW, neW, eqA, neA, inW, niW, inA, min2, max2, minL, maxL, sumW, absI, intB, anyW, allW, reprW, setixP, augixP, failW, extP, popP, idxW, strW, lrgW, sortW, decide_eq_true_eq, Bool.not_eq_true', Bool.not_eq_eq_eq_not, Bool.not_true, Bool.not_false, decide_eq_false_iff_not, ite_true, ite_false, if_true, if_false, Bool.false_eq_true, true_and, and_true, reduceIte, not_true_eq_false, not_false_eq_true, szOk_small, Nat.reduceAdd, Nat.reduceLeDiff, Nat.zero_add, Int.reduceLT, Int.reduceLE, Int.reduceAdd, Int.reduceMul, Int.reduceNeg, List.length_cons, List.length_nil, List.length_append, List.length_map]
  rw [if_pos (show isT "tuple" (eA (eT (e3 eS eI eI) run)) = true from rfl)]
  refine ⟨⟨by omega, by omega⟩, ?_⟩
  rw [if_pos (show (some _).isSome = true from rfl), rep_flat, show ((b.length : Int)).toNat = b.length by omega]
  exact ⟨run.map (e3 eS eI eI), by rw [eT_A]; rfl, forP_steps hs h⟩
theorem F__law_finish {b : List House} (hb : GoodB b) {ps0 : List Int} {r : List (Str × Int × Int)} (hs : Steps b (zeroL b) r ps0) (hp : PayI b ps0) (hl : r.length ≤ 100000) {Q : List (Str × Int × Int) → Prop} {E : EK}
    (h : ∀ run ps, Steps b (zeroL b) run ps → PayI b ps → richL b ps = [] → run.length ≤ r.length + 1368 → Q run) : t__law_finish b r Q E := by
  have hbl := hb.len
  simp only [t__law_finish, eqB, inB, bindP, bindW_d, pureW_d, ifW_d, ifP, joinP, lenW, lenA, lenS, sameW, addI, subI, mulI, fdivI, modI, powI, ltI, leI, gtI, geI, eqI, neI, catW, catS, repT, repL, szW, appP, ixW, ixA, getW, asW, lcW, rng1W, rng2W, eqW, neW, eqA, neA, inW, niW, inA, min2, max2, minL, maxL, sumW, absI, intB, anyW, allW, reprW, setixP, augixP, failW, extP, popP, idxW, strW, lrgW, sortW, decide_eq_true_eq, Bool.not_eq_true', Bool.not_eq_eq_eq_not, Bool.not_true, Bool.not_false, decide_eq_false_iff_not, ite_true, ite_false, if_true, if_false, Bool.false_eq_true, true_and, and_true, reduceIte, not_true_eq_false, not_false_eq_true, szOk_small, Nat.reduceAdd, Nat.reduceLeDiff, Nat.zero_add, Int.reduceLT, Int.reduceLE, Int.reduceAdd, Int.reduceMul, Int.reduceNeg, List.length_cons, List.length_nil, List.length_append, List.length_map]
  refine F__law_end hb hs ⟨ps0, rfl, F__law_rich hb hp ?_⟩
  refine ⟨fun m s => ∃ ps, s.2.1 = some ps ∧ s.2.2 = richL b ps ∧ PayI b ps ∧ Steps b (zeroL b) s.1 ps ∧ (m : Int) = meas b ps ∧ s.1.length + m ≤ r.length + 1368, ⟨(meas b ps0).toNat, ps0, rfl, rfl, hp, hs, ?_, ?_⟩, fun m s hM => ?_⟩
  · have := (meas_range hb ps0).1; omega
  · have := (meas_range hb ps0); show r.length + _ ≤ _; omega
  · obtain ⟨run, op, ri⟩ := s
    obtain ⟨ps, e1, e2, hp, hs, hm, hlen⟩ := hM
    simp only at e1 e2 hs hlen
    subst e1
    cases hr : richL b ps with
    | nil =>
      rw [hr] at e2; subst e2
      show ite _ _ _
      rw [if_neg (by simp)]
      exact h run ps hs hp hr (by omega)
    | cons i t =>
      rw [hr] at e2; subst e2
      show ite _ _ _
      rw [if_pos (by simp)]
      have hi : i ∈ richL b ps := by rw [hr]; simp
      obtain ⟨⟨i0, i1⟩, hh, hn⟩ := mem_richL.mp hi
      obtain ⟨x, hx, hx2, hx3, hx4⟩ := restH_pos hb hp i0 hn
      have a0 : atI (i :: t) 0 = some i := atI_nat (j := 0) rfl
      refine ⟨ps, rfl, i, a0, F__law_ring hb hp i0 i1 ?_⟩
      refine ⟨i, a0, ps, rfl, F__law_held hb.toOkBook hp.len ⟨_, heldL_at hp i0 i1, ps, rfl, F__law_next hb hp i0 i1 ⟨x, hx, ?_⟩⟩⟩
      have hsz : run.length < sizeLine := szlt (by omega)
      cases hg : ringL (nx b ps) b.length i with
      | none =>
        rw [if_neg (by simp)]
        have hno := ringL_none (nx_range hb hp) i0 i1 hg
        generalize ha : min (heldI b ps i) x.2 = a
        have P := paid_more hp [i] a
        have P' : Paid b ps (moreL ps [i] a) (fun k => k = i) a := by simpa using P
        have hq : PayI b (moreL ps [i] a) := P.payI hb hp (by omega) (fun k hk => by
          rw [List.mem_singleton] at hk; subst hk
          exact ⟨⟨i0, i1⟩, x, hx, by omega⟩)
        have hst := step_pay hb hp i0 i1 hx (a := a) (by omega) (by omega) (by omega)
        have hlt := pay_meas hb hp i0 i1 hx hh hno ha.symm P'
        have h0 := (meas_range hb (moreL ps [i] a)).1
        refine ⟨hsz, ps, rfl, hst _ _ ⟨_, rfl, F__law_rich hb hq ⟨(meas b (moreL ps [i] a)).toNat, by omega, _, rfl, rfl, hq, hs.snoc hst, by omega, ?_⟩⟩⟩
        show (run ++ [_]).length + _ ≤ _
        rw [List.length_append, List.length_singleton]; omega
      | some w =>
        rw [if_pos (by simp)]
        obtain ⟨w1, w2, w3⟩ := ringL_facts hb hp i0 i1 hg
        have hwn : w ≠ [] := List.ne_nil_of_mem w1
        refine ⟨ps, rfl, w, rfl, F__law_rest hb hp hwn w2 w3 ?_⟩
        generalize ha : restL b ps w = a
        obtain ⟨o, ho, hoe⟩ := restL_mem (b := b) (ps := ps) hwn
        obtain ⟨y, hy, hy2, hy3, hy4⟩ := restH_pos hb hp (w3 o ho).1.1 (w3 o ho).2
        have P := paid_more hp w a
        have hq : PayI b (moreL ps w a) := P.payI hb hp (by omega) (fun k hk => by
          obtain ⟨z, hz, hz2, _, _⟩ := restH_pos hb hp (w3 k hk).1.1 (w3 k hk).2
          have := restL_le (b := b) (ps := ps) hk
          exact ⟨(w3 k hk).1, z, hz, by omega⟩)
        have hst := step_ring hb hp i0 i1 hg (a := a) (by omega) (by omega) w1 (by omega)
        have hlt : meas b (moreL ps w a) < meas b ps := meas_full hb (P.unp_full (by omega) (w3 o ho).1.1 (w3 o ho).1.2 ho hy (by omega))
        have h0 := (meas_range hb (moreL ps w a)).1
        refine ⟨hsz, ps, rfl, hst _ _ ⟨_, rfl, F__law_rich hb hq ⟨(meas b (moreL ps w a)).toNat, by omega, _, rfl, rfl, hq, hs.snoc hst, by omega, ?_⟩⟩⟩
        show (run ++ [_]).length + _ ≤ _
        rw [List.length_append, List.length_singleton]; omega
theorem F__law_least {b : List House} (hb : GoodB b) {Q : List Int → Prop} {E : EK} (h : ∀ run ps, Steps b (zeroL b) run ps → PayI b ps → richL b ps = [] → Q ps) : t__law_least b Q E := by
  simp only [t__law_least, eqB, inB, bindP, bindW_d, pureW_d, ifW_d, ifP, joinP, lenW, lenA, lenS, sameW, addI, subI, mulI, fdivI, modI, powI, ltI, leI, gtI, geI, eqI, neI, catW, catS, repT, repL, szW, appP, ixW, ixA, getW, asW, lcW, rng1W, rng2W, eqW, neW, eqA, neA, inW, niW, inA, min2, max2, minL, maxL, sumW, absI, intB, anyW, allW, reprW, setixP, augixP, failW, extP, popP, idxW, strW, lrgW, sortW, decide_eq_true_eq, Bool.not_eq_true', Bool.not_eq_eq_eq_not, Bool.not_true, Bool.not_false, decide_eq_false_iff_not, ite_true, ite_false, if_true, if_false, Bool.false_eq_true, true_and, and_true, reduceIte, not_true_eq_false, not_false_eq_true, szOk_small, Nat.reduceAdd, Nat.reduceLeDiff, Nat.zero_add, Int.reduceLT, Int.reduceLE, Int.reduceAdd, Int.reduceMul, Int.reduceNeg, List.length_cons, List.length_nil, List.length_append, List.length_map]
  refine F__law_finish hb (.nil _) (zero_pay hb) (by simp) (fun run ps hs hp hr _ => ?_)
  exact F__law_end hb hs ⟨ps, rfl, h run ps hs hp hr⟩
end Dl

set_option Elab.async false
set_option linter.all false
set_option maxRecDepth 100000
set_option maxHeartbeats 4000000
namespace Dl
open PySem PySem.Spec PyProof.Rows L2
/-! drawn things -/
theorem beat_in {u : Unit} {m : Int} {Q : Int → Prop} {E : EK} (h0 : 0 < m) (h1 : m ≤ 1000000000000000000) (h : ∀ r, 0 ≤ r → r < m → Q r) : t__law_beat u m Q E :=
  ⟨⟨h0, Int.lt_of_le_of_lt h1 (by decide)⟩, h⟩
theorem at2 (a b : Int) {r : Int} (r0 : 0 ≤ r) (r1 : r < 2) : ∃ x, atI [a, b] r = some x ∧ (x = a ∨ x = b) := by
  rcases (show r = 0 ∨ r = 1 by omega) with h | h <;> subst h
  · exact ⟨a, atI_nat (j := 0) rfl, .inl rfl⟩
  · exact ⟨b, atI_nat (j := 1) rfl, .inr rfl⟩
theorem at3 (a b c : Int) {r : Int} (r0 : 0 ≤ r) (r1 : r < 3) : ∃ x, atI [a, b, c] r = some x ∧ (x = a ∨ x = b ∨ x = c) := by
  rcases (show r = 0 ∨ r = 1 ∨ r = 2 by omega) with h | h | h <;> subst h
  · exact ⟨a, atI_nat (j := 0) rfl, .inl rfl⟩
  · exact ⟨b, atI_nat (j := 1) rfl, .inr (.inl rfl)⟩
  · exact ⟨c, atI_nat (j := 2) rfl, .inr (.inr rfl)⟩
theorem at4 (a b c d : Int) {r : Int} (r0 : 0 ≤ r) (r1 : r < 4) : ∃ x, atI [a, b, c, d] r = some x ∧ (x = a ∨ x = b ∨ x = c ∨ x = d) := by
  rcases (show r = 0 ∨ r = 1 ∨ r = 2 ∨ r = 3 by omega) with h | h | h | h <;> subst h
  · exact ⟨a, atI_nat (j := 0) rfl, .inl rfl⟩
  · exact ⟨b, atI_nat (j := 1) rfl, .inr (.inl rfl)⟩
  · exact ⟨c, atI_nat (j := 2) rfl, .inr (.inr (.inl rfl))⟩
  · exact ⟨d, atI_nat (j := 3) rfl, .inr (.inr (.inr rfl))⟩
theorem debtsL_range {b : List House} (hb : OkBook b) : ∀ x ∈ debtsL b, 0 ≤ x ∧ x ≤ 6000000000 := fun x hx => by
  unfold debtsL at hx
  rw [List.mem_map] at hx
  obtain ⟨h, hh, rfl⟩ := hx
  have p := hb.pile h hh
  have := sumA_nonneg p.am
  have := p.len
  omega
theorem F__law_some {b : List House} (hb : OkBook b) (u : Unit) {Q : List Int → Prop} {E : EK} (h : ∀ ps : List Int, ps.length = b.length → (∀ x ∈ ps, 0 ≤ x ∧ x ≤ 6000000000) → Q ps) : t__law_some u b Q E := by
  have hbl := hb.len
  unfold t__law_some
  refine ⟨szle (by omega), F__law_debts hb ?_⟩
  refine forP_ind (fun r s => s.length + r.length = b.length ∧ (∀ x ∈ r, 0 ≤ x ∧ x ≤ 6000000000) ∧ ∀ x ∈ s, 0 ≤ x ∧ x ≤ 6000000000) (fun s hs => h s (by simpa using hs.1) hs.2.2) (fun x r s hs N k => ?_) _ _ ⟨by simp [debtsL], debtsL_range hb, by simp⟩
  have hx := hs.2.1 x (by simp)
  have hl := hs.1
  rw [List.length_cons] at hl
  refine beat_in (by omega) (by omega) (fun c c0 c1 => ⟨szle (by omega), beat_in (by omega) (by omega) (fun d d0 d1 => ?_)⟩)
  obtain ⟨y, hy, hy2⟩ := at3 0 x c d0 d1
  refine ⟨y, hy, szlt (by omega), k _ ⟨by simp; omega, fun z hz => hs.2.1 z (by simp [hz]), fun z hz => ?_⟩⟩
  rcases List.mem_append.mp hz with hz | hz
  · exact hs.2.2 z hz
  · rw [List.mem_singleton] at hz; subst hz; omega
end Dl

set_option Elab.async false
set_option linter.all false
set_option maxRecDepth 100000
set_option maxHeartbeats 4000000
namespace Dl
open PySem PySem.Spec PyProof.Rows L2
/-- a house as it is drawn -/
structure HOk (n i s t : Int) (h : House) : Prop where
  p0 : 0 ≤ h.1
  p1 : h.1 ≤ 1000000000000
  len : (h.2.length : Int) ≤ s
  sl : ∀ y ∈ h.2, (0 ≤ y.1 ∧ y.1 < n) ∧ y.1 ≠ i ∧ 1 ≤ y.2 ∧ y.2 ≤ t
theorem goodB_of {n s t : Int} {b : List House} (hn : (b.length : Int) = n) (n1 : 1 ≤ n) (n6 : n ≤ 6) (s6 : s ≤ 6) (t9 : t ≤ 1000000000) (h : ∀ (i : Nat) x, b[i]? = some x → HOk n i s t x) : GoodB b := by
  have hx : ∀ x ∈ b, ∃ i : Nat, HOk n i s t x := fun x hx => by
    obtain ⟨i, hi, e⟩ := List.getElem_of_mem hx
    exact ⟨i, h i x (by rw [List.getElem?_eq_getElem hi, e])⟩
  refine { pos := by omega, len := by omega, purse := fun x hb => ?_, pile := fun x hb => ?_, ns := fun i i0 y hy => ?_ }
  · obtain ⟨i, k⟩ := hx x hb; exact ⟨k.p0, k.p1⟩
  · obtain ⟨i, k⟩ := hx x hb
    exact ⟨by have := k.len; omega, fun y hy => by rw [hn]; exact (k.sl y hy).1, fun y hy => ⟨(k.sl y hy).2.2.1, by have := (k.sl y hy).2.2.2; omega⟩⟩
  · unfold gh at hy
    rw [List.getD_eq_getElem?_getD] at hy
    cases e : b[i.toNat]? with
    | none => rw [e] at hy; simp at hy
    | some x =>
      rw [e] at hy
      have := (h _ x e).sl y (by simpa using hy)
      rw [show ((i.toNat : Nat) : Int) = i by omega] at this
      exact this.2.1
theorem F__law_book (u : Unit) {m s t : Int} (m0 : 0 < m) (m1 : m ≤ 6) (s0 : 0 ≤ s) (s1 : s ≤ 6) (t0 : 0 < t) (t1 : t ≤ 1000000000) {Q : List House → Prop} {E : EK}
    (h : ∀ b, GoodB b → (b.length : Int) ≤ m → (∀ (i : Nat) x, b[i]? = some x → HOk b.length i s t x) → Q b) : t__law_book u m s t Q E := by
  unfold t__law_book
  refine beat_in m0 (by omega) (fun c c0 c1 => ⟨szle (by omega), in62_of (by omega) (by omega), ?_⟩)
  have en : (((1 : Int) + c).toNat : Int) = 1 + c := by omega
  refine forP_rg (fun i x => (x.length : Int) = i ∧ ∀ (j : Nat) y, x[j]? = some y → HOk (1 + c) j s t y) ⟨rfl, by simp⟩ (fun x hx => ?_) (fun i x i0 i1 hx N k => ?_)
  · have e : (x.length : Int) = 1 + c := by have := hx.1; omega
    exact h x (goodB_of e (by omega) (by omega) s1 t1 hx.2) (by omega) (by rw [e]; exact hx.2)
  · refine beat_in (by omega) (by omega) (fun r2 a0 a1 => beat_in (by omega) (by omega) (fun r3 b0 b1 => ⟨szle (by omega), beat_in (by omega) (by omega) (fun r4 d0 d1 => ?_)⟩))
    obtain ⟨p, hp, hp'⟩ := at4 0 0 r2 r3 d0 d1
    refine ⟨p, hp, szle (by omega), beat_in (by omega) (by omega) (fun r5 e0 e1 => ⟨.inr (by split <;> omega), ?_⟩)⟩
    generalize hk : r5 * (if decide ((1 : Int) < (1 : Int) + c) = true then 1 else 0 : Int) = q
    have hk' : 0 ≤ q ∧ q ≤ s ∧ (0 < q → 0 < c) := by
      subst hk
      by_cases z : (1 : Int) < 1 + c
      · rw [if_pos (by simpa using z)]; omega
      · rw [if_neg (by simpa using z)]; omega
    refine ⟨in62_of (by omega) (by omega), forP_ix (fun j y => y.length = j ∧ ∀ z ∈ y, (0 ≤ z.1 ∧ z.1 < 1 + c) ∧ z.1 ≠ i ∧ 1 ≤ z.2 ∧ z.2 ≤ t) ⟨rfl, by simp⟩ (fun y hy => ?_) (fun j z y hz hy N2 k2 => ?_)⟩
    · have hl := hx.1
      refine ⟨szlt (by omega), k _ ⟨by simp; omega, fun j z hz => ?_⟩⟩
      rcases get_snoc hz with ⟨_, hz⟩ | ⟨ej, ez⟩
      · exact hx.2 j z hz
      · subst ez; subst ej
        have hy1 := hy.1
        rw [rgI_length] at hy1
        exact ⟨by show 0 ≤ p; omega, by show p ≤ _; omega, by show (y.length : Int) ≤ s; omega, by rw [show ((x.length : Nat) : Int) = i from hx.1]; exact hy.2⟩
    · have hj := (rgI_get hz).2
      refine beat_in (by omega) (by omega) (fun r6 f0 f1 => ⟨szle (by omega), beat_in (by omega) (by omega) (fun r7 g0 g1 => ?_)⟩)
      obtain ⟨v, hv, hv'⟩ := at2 0 r6 g0 g1
      refine ⟨v, hv, by omega, beat_in t0 (by omega) (fun r8 l0 l1 => ⟨szlt (by omega), k2 _ ⟨by simp [hy.1], fun w hw => ?_⟩⟩)⟩
      rcases List.mem_append.mp hw with hw | hw
      · exact hy.2 w hw
      · rw [List.mem_singleton] at hw; subst hw
        have := mod_ne (h := i) (d := 1 + v) (n := 1 + c) i0 (by omega) (by omega) (by omega)
        rw [show i + 1 + v = i + (1 + v) by omega]
        exact ⟨⟨this.1, this.2.1⟩, this.2.2, by show 1 ≤ 1 + r8; omega, by show 1 + r8 ≤ t; omega⟩
theorem sm_strI {x : Int} {h : Nat} (hx : x.natAbs < 10 ^ 15) : Sm 18 h (eS (strI x)) := by
  refine ⟨?_, ?_, by show 0 ≤ h; omega⟩
  · show okStr (strI x)
    intro c hc
    unfold strI at hc
    rw [PySem.Str.ofString_eq_toList] at hc
    simp only [List.mem_map] at hc
    obtain ⟨ch, _, rfl⟩ := hc
    have := ch.val.toNat_lt
    show ch.val.toNat < _
    exact Nat.lt_of_lt_of_le this (by decide)
  · show 1 + (strI x).length ≤ 18
    unfold strI
    rw [PySem.ofString_length]
    have := int_text_length_le10 (k := 15) (by decide) hx
    omega
theorem F__law_odd (u : Unit) {Q : D → Prop} {E : EK} (h : ∀ d, Sm 60 3 d → Q d) : t__law_odd u Q E := by
  unfold t__law_odd
  refine ⟨cpow_dec (by decide), szle (by omega), szle (by omega), szle (by omega), szle (by omega), szle (by omega), szle (by omega), beat_in (by omega) (by omega) (fun r r0 r1 => ?_)⟩
  obtain ⟨x, hx, hm⟩ := atI_mem (xs := [eN (), eB true, eB false, eI (-(1 : Int)), eI (0 : Int), eI (1 : Int), eI (5 : Int), eI (6 : Int), eI ((10 : Int) ^ (39 : Int).toNat), eS ("" : Str), eS ("pay" : Str), eS ("0" : Str), eT eI [], eL eI [], D.dc [], eT eI [(0 : Int)], eL eI [(0 : Int)], eP eI eI ((0 : Int), (0 : Int)), eT eB [true]]) r0 r1
  refine ⟨x, hx, h x (SmL.mem (m := 60) (h := 3) (sml_dec ?_) hm)⟩
  decide +kernel
theorem bent_tail {v v2 : List D} (hv : v.length = 3) (h2 : v2.length = 2) {r : Int} (r0 : 0 ≤ r) (r1 : r < 10) : ∃ x, atI (((List.replicate (5 : Int).toNat (cutT v none (some (1 : Int)))).flatten) ++ v ++ v2) r = some x ∧ (x ∈ v ∨ x ∈ v2) := by
  have e : cutT v none (some (1 : Int)) = v.take 1 := cutT_to v 1 (by omega)
  rw [e]
  have hl : (((List.replicate (5 : Int).toNat (v.take 1)).flatten) ++ v ++ v2).length = 10 := by
    rw [List.length_append, List.length_append, rep_length, List.length_take, hv, h2]; rfl
  obtain ⟨x, hx, hm⟩ := atI_mem r0 (by rw [hl]; exact r1)
  refine ⟨x, hx, ?_⟩
  rcases List.mem_append.mp hm with hm | hm
  · rcases List.mem_append.mp hm with hm | hm
    · exact .inl (List.mem_of_mem_take (mem_rep hm))
    · exact .inl hm
  · exact .inr hm
theorem F__law_bent (u : Unit) {ps : List Int} (hn : ps ≠ []) (hl : ps.length ≤ 6) (hp : ∀ x ∈ ps, 0 ≤ x ∧ x ≤ 6000000000) {Q : D → Prop} {E : EK} (h : ∀ d, Sm 200 6 d → Q d) : t__law_bent u ps Q E := by
  unfold t__law_bent
  have hpos : 0 < ps.length := List.length_pos_iff.mpr hn
  refine beat_in (by omega) (by omega) (fun r r0 r1 => ?_)
  obtain ⟨x, hx, hxm⟩ := atI_mem r0 r1
  have hxr := hp x hxm
  refine ⟨x, hx, cpow_dec (by decide), beat_in (by decide) (by decide) (fun r2 a0 a1 => F__law_odd u (fun d hd => ?_))⟩
  have h9 : (10 : Int) ^ (9 : Int).toNat = 1000000000 := by decide
  rw [h9] at a1
  refine ⟨log19 ⟨by omega, by omega⟩, szle (by omega), szle (by omega), beat_in (by omega) (by omega) (fun r4 b0 b1 => ?_)⟩
  obtain ⟨y, hy, hym⟩ := atI_mem (xs := [eI (x + (1 : Int)), eI (x - (1 : Int)), eB (decide (x = (1 : Int))), eS (strI x), eN (), eI r2, eT eI [x], d]) b0 b1
  have hyS : Sm 60 3 y := by
    simp only [List.mem_cons, List.not_mem_nil, or_false] at hym
    rcases hym with rfl | rfl | rfl | rfl | rfl | rfl | rfl | rfl
    · exact (sm_I (h := 0) (by omega) (by omega)).le (by omega) (by omega)
    · exact (sm_I (h := 0) (by omega) (by omega)).le (by omega) (by omega)
    · exact (Sm.bl (h := 0)).le (by omega) (by omega)
    · exact (sm_strI (h := 0) (by omega)).le (by omega) (by omega)
    · exact (Sm.non (h := 0)).le (by omega) (by omega)
    · exact (sm_I (h := 0) (by omega) (by omega)).le (by omega) (by omega)
    · exact (sm_T (n := 1) (m := 1) (h := 0) (by simp) (fun z hz => by rw [List.mem_singleton] at hz; subst hz; exact sm_I (by omega) (by omega))).le (by omega) (by omega)
    · exact hd
  refine ⟨y, hy, ?_⟩
  rw [cutT_to ps r r0, cutT_from ps (r + 1) (by omega), cutT_from ps r r0]
  refine ⟨szle (by omega), szle (by simp; omega), szle (by simp; omega), szle (by simp; omega), szle (by omega), join1 ?_⟩
  have sps : ∀ z ∈ ps, Sm 1 0 (eI z) := fun z hz => sm_I (by have := hp z hz; omega) (by have := hp z hz; omega)
  have sT : ∀ l : List Int, l.length ≤ 12 → (∀ z ∈ l, z ∈ ps) → Sm 200 6 (eT eI l) := fun l h1 h2 => (sm_T (n := 12) (m := 1) (h := 0) h1 fun z hz => sps z (h2 z hz)).le (by omega) (by omega)
  refine ⟨⟨by decide, by decide, szle (by rw [cutT_to _ _ (by omega)]; simp)⟩, szle (by rw [cutT_to _ _ (by omega)]; simp), szle (by simp; omega), szle (by omega), join1 ⟨szle (by rw [cutT_to _ _ (by omega)]; simp), beat_in (by omega) (by omega) (fun r5 c0 c1 => ?_)⟩⟩
  obtain ⟨z, hz, hm⟩ := bent_tail (v := [eT eA ((ps.take r.toNat).map eI ++ [y] ++ (ps.drop (r + 1).toNat).map eI), eT eI (ps.take r.toNat ++ ps.drop (r + 1).toNat), eT eI ps.reverse]) (v2 := [eL eI ps, eT eI (ps ++ ps.drop r.toNat)]) rfl rfl c0 c1
  refine ⟨z, hz, h z ?_⟩
  simp only [List.mem_cons, List.not_mem_nil, or_false] at hm
  rcases hm with (rfl | rfl | rfl) | (rfl | rfl)
  · rw [eT_A]
    have s1 : SmL 12 3 ((ps.take r.toNat).map eI) := (SmL.of (m := 1) (h := 0) 12 (by simp; omega) fun d hd => by obtain ⟨w, hw, rfl⟩ := List.mem_map.mp hd; exact sps w (List.mem_of_mem_take hw)).le (by omega) (by omega)
    have s3 : SmL 12 3 ((ps.drop (r + 1).toNat).map eI) := (SmL.of (m := 1) (h := 0) 12 (by simp; omega) fun d hd => by obtain ⟨w, hw, rfl⟩ := List.mem_map.mp hd; exact sps w (List.mem_of_mem_drop hw)).le (by omega) (by omega)
    exact (((s1.app (.one hyS)).app s3).tp).le (by omega) (by omega)
  · exact sT _ (by simp; omega) fun w hw => by
      rcases List.mem_append.mp hw with hw | hw
      · exact List.mem_of_mem_take hw
      · exact List.mem_of_mem_drop hw
  · exact sT _ (by simp; omega) fun w hw => List.mem_reverse.mp hw
  · exact (sm_L (n := 12) (m := 1) (h := 0) (by omega) fun w hw => sps w hw).le (by omega) (by omega)
  · exact sT _ (by simp; omega) fun w hw => by
      rcases List.mem_append.mp hw with hw | hw
      · exact hw
      · exact List.mem_of_mem_drop hw
end Dl

set_option Elab.async false
set_option linter.all false
set_option maxRecDepth 100000
set_option maxHeartbeats 4000000
namespace Dl
open PySem PySem.Spec PyProof.Rows L2
/-! errors of settlements -/
theorem atI_mapf {α β : Type} (f : α → β) (xs : List α) (i : Int) : atI (xs.map f) i = (atI xs i).map f := by
  unfold atI
  rw [List.length_map]
  cases ixN xs.length i with
  | none => rfl
  | some j => simp
def dueI (b : List House) (ps : List Int) (i : Int) : Int := min (sumA (gh b i).2) ((gh b i).1 + recvH b ps i)
def errP (b : List House) (ps : List Int) : D := match (rgI 0 b.length).find? (fun i => !decide (gp ps i = dueI b ps i)) with
  | none => .non
  | some i => eP eI eS (i, if gp ps i < dueI b ps i then ("less" : Str) else ("more" : Str))
def intsOf : D → List Int
  | .tp xs => xs.map fun x => match x with | .it i => i | _ => 0
  | _ => []
def errM (b : List House) (v : D) : D := if isPay b v = true then errP b (intsOf v) else eP eN eS ((), ("payments" : Str))
theorem intsOf_eT (ps : List Int) : intsOf (eT eI ps) = ps := by
  unfold eT
  show (ps.map eI).map _ = ps
  rw [List.map_map]
  exact List.map_id' ps
theorem payAll_ints : ∀ {b : List House} {xs : List D}, xs.length = b.length → payAll b xs = true → ∃ ps : List Int, xs = ps.map eI ∧ PayOf b ps
  | [], [], _, _ => ⟨[], rfl, trivial⟩
  | [], _ :: _, h, _ => by simp at h
  | _ :: _, [], h, _ => by simp at h
  | h :: b, x :: xs, hl, hp => by
    simp only [payAll, Bool.and_eq_true] at hp
    obtain ⟨ps, e, k⟩ := payAll_ints (b := b) (xs := xs) (by simpa using hl) hp.2
    cases x with
    | it i =>
      have := hp.1
      simp only [wholeD, Bool.and_eq_true, decide_eq_true_eq] at this
      exact ⟨i :: ps, by rw [e]; rfl, this.1, this.2, k⟩
    | _ => exact absurd hp.1 (by simp [wholeD])
theorem payAll_of : ∀ {b : List House} {ps : List Int}, PayOf b ps → payAll b (ps.map eI) = true
  | [], [], _ => rfl
  | h :: b, p :: ps, k => by
    simp only [List.map_cons, payAll, payAll_of k.2.2, Bool.and_true, wholeD, k.1, k.2.1, decide_true]
  | [], _ :: _, h => h.elim
  | _ :: _, [], h => h.elim
theorem isPay_of {b : List House} {v : D} (h : isPay b v = true) : ∃ ps : List Int, v = eT eI ps ∧ PayI b ps := by
  cases v with
  | tp xs =>
    simp only [isPay, Bool.and_eq_true, decide_eq_true_eq] at h
    obtain ⟨ps, e, k⟩ := payAll_ints h.1 h.2
    exact ⟨ps, by rw [e]; rfl, payI_iff.mp k⟩
  | _ => simp [isPay] at h
theorem isPay_eT {b : List House} {ps : List Int} (h : PayI b ps) : isPay b (eT eI ps) = true := by
  show (decide ((ps.map eI).length = b.length) && payAll b (ps.map eI)) = true
  rw [List.length_map, h.len, decide_eq_true rfl, payAll_of (payI_iff.mpr h)]; rfl
theorem err_loop {b : List House} {ps : List Int} (hp : PayI b ps) {Q : D → Prop} {E : EK} (h : Q (errP b ps)) :
    forP (fun (x : Int × D) (_ : Unit) N B => ∃ x2, atI (debtsL b) x.1 = some x2 ∧ ∃ x3, atI b x.1 = some x3 ∧ ∃ x4, atI (recvL b ps) x.1 = some x4 ∧ neA x.2 (eI (min x2 (x3.1 + x4))) (fun r4 => (if r4 = true then ∃ y3, x.2 = eI y3 ∧ (if decide (y3 < min x2 (x3.1 + x4)) = true then Q (eP eI eS (x.1, ("less" : Str))) else Q (eP eI eS (x.1, ("more" : Str)))) else N ())) E) (fun _ => Q (eN ())) (enI (ps.map eI)) () := by
  have hpl := hp.len
  refine forP_ix (fun i _ => ∀ j : Int, 0 ≤ j → j < i → gp ps j = dueI b ps j) (fun j j0 j1 => by omega) (fun _ hI => ?_) (fun i x s hx hI N k => ?_)
  · rw [enI_length, List.length_map, hpl] at hI
    have e : errP b ps = .non := by
      unfold errP
      rw [find_rg_none (fun j j0 j1 => by rw [hI j j0 (by omega)]; simp)]
    rw [e] at h; exact h
  · obtain ⟨e1, e2⟩ := enI_get hx
    rw [List.getElem?_map] at e2
    cases ei : ps[i]? with
    | none => rw [ei] at e2; cases e2
    | some p =>
      rw [ei] at e2
      have ex : x.2 = .it p := by simp at e2; exact e2.symm
      have hi : i < ps.length := (List.getElem?_eq_some_iff.mp ei).1
      have ep : gp ps i = p := by rw [gp_nat hi]; exact (List.getElem?_eq_some_iff.mp ei).2
      rw [e1, ex]
      refine ⟨_, by rw [atI_mapf, atI_gh (by omega) (by omega)]; rfl, _, atI_gh (by omega) (by omega), recvH b ps i, by unfold recvL; exact atI_map_rg _ (by omega) (by omega), ?_⟩
      show isBxDc (.it p) = false ∧ _
      refine ⟨rfl, ?_⟩
      show if (!(p == dueI b ps i)) = true then _ else _
      by_cases hd : p = dueI b ps i
      · rw [if_neg (by simp [hd])]
        refine k () fun j j0 j1 => ?_
        by_cases ej : j = i
        · rw [ej, ep]; exact hd
        · exact hI j j0 (by omega)
      · rw [if_pos (by simpa using hd)]
        have e : errP b ps = eP eI eS ((i : Int), if p < dueI b ps i then ("less" : Str) else ("more" : Str)) := by
          unfold errP
          rw [find_rg (i := (i : Int)) (by omega) (by omega) (fun j j0 j1 => by rw [hI j j0 j1]; simp) (by rw [ep]; simpa using hd), ← ep]
        rw [e] at h
        refine ⟨p, rfl, ?_⟩
        show if decide (p < dueI b ps i) = true then _ else _
        by_cases hlt : p < dueI b ps i
        · rw [if_pos (by simpa using hlt)]; rw [if_pos hlt] at h; exact h
        · rw [if_neg (by simpa using hlt)]; rw [if_neg hlt] at h; exact h
theorem F_settlement_error {b : List House} (hb : OkBook b) (v : D) {Q : D → Prop} {E : EK} (h : Q (errM b v)) : t_settlement_error b v Q E := by
  unfold t_settlement_error
  refine F_is_payments hb v ?_
  unfold errM at h
  by_cases hp : isPay b v = true
  · rw [if_pos hp] at h
    rw [if_neg (by simp [hp])]
    obtain ⟨ps, rfl, hp'⟩ := isPay_of hp
    rw [intsOf_eT] at h
    exact F_debts hb ⟨ps, rfl, F_received hb hp'.len ⟨ps.map eI, by rw [eT_A]; rfl, err_loop hp' h⟩⟩
  · rw [if_neg hp] at h
    rw [if_pos (by simpa using hp)]
    exact h
theorem F_is_settlement {b : List House} (hb : OkBook b) (v : D) {Q : Bool → Prop} {E : EK} (h : Q (isNon (errM b v))) : t_is_settlement b v Q E := F_settlement_error hb v h
theorem bad_nil : ∀ (b : List House) (xs : List D), (xs.zip (debtsL b)).filterMap (fun x => if wholeD x.1 0 x.2 = true then none else some (1 : Int)) = [] ↔ payAll b xs = true
  | [], xs => by cases xs <;> simp [payAll]
  | _ :: _, [] => by simp [payAll]
  | h :: b, x :: xs => by
    have ih := bad_nil b xs
    rw [show debtsL (h :: b) = sumA h.2 :: debtsL b from rfl, List.zip_cons_cons, List.filterMap_cons]
    by_cases e : wholeD x 0 (sumA h.2) = true
    · simp only [e, if_true, payAll, Bool.true_and]; exact ih
    · simp only [e, payAll]; simp
theorem F__law_error {b : List House} (hb : OkBook b) (v : D) {Q : D → Prop} {E : EK} (h : Q (errM b v)) : t__law_error b v Q E := by
  unfold t__law_error
  refine F__law_debts hb ?_
  unfold errM at h
  have hbl := hb.len
  cases v with
  | tp xs =>
    rw [if_neg (by rw [isT_tp]; simp)]
    show if (!(decide ((xs.length : Int) = (b.length : Int)))) = true then _ else _
    by_cases hl : xs.length = b.length
    · rw [if_neg (by simp [hl])]
      refine ⟨xs, by rw [eT_A], ?_⟩
      refine lc_filter (fun x => if wholeD x.1 0 x.2 = true then none else some (1 : Int)) (by rw [List.length_zip, List.length_map]; omega) (fun x hx Y N hY hN => ?_) ?_
      · refine F__law_is_int _ _ _ ?_
        show ite _ _ _
        cases e : wholeD x.1 0 x.2
        · exact hY 1 (by simp [e])
        · exact hN (by simp [e])
      · refine ⟨szle (by omega), ?_⟩
        by_cases hp : payAll b xs = true
        · rw [if_neg (by rw [(bad_nil b xs).mpr hp]; simp [eqB])]
          have hi : isPay b (.tp xs) = true := by
            show (decide (xs.length = b.length) && payAll b xs) = true
            rw [hp, hl]; simp
          rw [if_pos hi] at h
          obtain ⟨ps, e, hp'⟩ := isPay_of hi
          rw [e, intsOf_eT] at h
          have e' : xs = ps.map eI := by unfold eT at e; injection e
          subst e'
          exact ⟨ps, rfl, F__law_got hb hp'.len ⟨ps.map eI, by rw [eT_A], err_loop hp' h⟩⟩
        · rw [if_pos (by
            have : ¬ (xs.zip (debtsL b)).filterMap (fun x => if wholeD x.1 0 x.2 = true then none else some (1 : Int)) = [] := fun z => hp ((bad_nil b xs).mp z)
            simp [eqB, this])]
          rw [if_neg (by simp [isPay, hp])] at h
          exact h
    · rw [if_pos (by simp; omega)]
      rw [if_neg (by simp [isPay, hl])] at h
      exact h
  | _ => first | exact h | (rw [if_pos (by rw [isT_tuple]; rfl)]; exact h)
theorem errM_sm {b : List House} (hb : OkBook b) (v : D) {m h : Nat} (hm : 20 ≤ m) (hh : 2 ≤ h) : Sm m h (errM b v) := by
  have hbl := hb.len
  have l : Sm 9 1 (eS ("less" : Str)) := sm_dec (by decide +kernel)
  have k : Sm 9 1 (eS ("more" : Str)) := sm_dec (by decide +kernel)
  unfold errM
  split
  · unfold errP
    cases e : (rgI 0 b.length).find? (fun i => !decide (gp (intsOf v) i = dueI b (intsOf v) i)) with
    | none => exact (Sm.non (h := 0)).le (by omega) (by omega)
    | some i =>
      have := List.mem_of_find?_eq_some e
      rw [mem_rgI] at this
      refine (sm_P (m := 1) (m' := 9) (h := 1) (sm_I (by show _ ≤ i; omega) (by show i ≤ _; omega)) ?_).le (by omega) (by omega)
      show Sm 9 1 (eS (if _ then _ else _))
      split
      · exact l
      · exact k
  · exact (sm_dec (m := 20) (h := 2) (by decide +kernel)).le hm hh
/-! all payments -/
def prodN : List Int → Nat
  | [] => 1
  | d :: r => (d + 1).toNat * prodN r
def rowsStep (rows : List (List Int)) (d : Int) : List (List Int) := rows.flatMap fun r => (rgI 0 (d + 1).toNat).map fun p => r ++ [p]
def everyL (ds : List Int) : List (List Int) := ds.foldl rowsStep [[]]
theorem rowsStep_length (rows : List (List Int)) (d : Int) : (rowsStep rows d).length = rows.length * (d + 1).toNat := by
  unfold rowsStep
  rw [List.length_flatMap]
  induction rows with
  | nil => simp
  | cons r rows ih => rw [List.map_cons, List.sum_cons, ih, List.length_map, rgI_length, List.length_cons, Nat.succ_mul]; omega
theorem prodN_pos : ∀ {ds : List Int}, (∀ d ∈ ds, 0 ≤ d) → 1 ≤ prodN ds
  | [], _ => Nat.le_refl _
  | d :: r, h => by
    have := h d (by simp)
    exact Nat.mul_pos (by omega) (prodN_pos fun x hx => h x (by simp [hx]))
theorem forP_rows {K : List (List Int) → Prop} (d : Int) (d0 : 0 ≤ d) (d1 : d ≤ 1000000) : ∀ (rows acc : List (List Int)), acc.length + rows.length * (d + 1).toNat ≤ 1000000 → (∀ r ∈ rows, r.length ≤ 1000) → K (acc ++ rowsStep rows d) →
    forP (fun (x2 : List Int) (s2 : List (List Int)) N2 B2 => in62 (d + (1 : Int)) ∧ (rgI 0 (d + (1 : Int)).toNat).length ≤ sizeLine ∧ lcP (fun a Q E => Q true) (fun a Q E => szOk 1 ∧ szOk (x2.length + [a].length) ∧ Q (x2 ++ [a])) (fun _ => False) (rgI 0 (d + (1 : Int)).toNat) [] (fun ys => szOk (s2.length + ys.length) ∧ N2 (s2 ++ ys))) K rows acc
  | [], acc, _, _, h => by simp only [rowsStep, List.flatMap_nil, List.append_nil] at h; exact h
  | r :: rows, acc, hl, hr, h => by
    rw [List.length_cons, Nat.succ_mul] at hl
    have h1 := hr r (by simp)
    refine ⟨in62_of (by omega) (by omega), lc_map (fun p => r ++ [p]) (by rw [rgI_length]; omega) (fun x _ Y hY => ⟨szle (by omega), szle (by simp; omega), hY⟩) ⟨szle (by rw [List.length_map, rgI_length]; omega), ?_⟩⟩
    refine forP_rows d d0 d1 rows _ (by rw [List.length_append, List.length_map, rgI_length]; omega) (fun x hx => hr x (by simp [hx])) ?_
    unfold rowsStep at h ⊢
    rw [List.flatMap_cons] at h
    rw [List.append_assoc]; exact h
theorem forP_every {K : List (List Int) → Prop} : ∀ (ds : List Int) (rows : List (List Int)), rows.length * prodN ds ≤ 1000000 → (∀ d ∈ ds, 0 ≤ d ∧ d ≤ 1000000) → (∀ r ∈ rows, r.length + ds.length ≤ 1000) → K (ds.foldl rowsStep rows) →
    forP (fun (x : Int) (s : List (List Int)) N B => szOk 0 ∧ forP (fun (x2 : List Int) (s2 : List (List Int)) N2 B2 => in62 (x + (1 : Int)) ∧ (rgI 0 (x + (1 : Int)).toNat).length ≤ sizeLine ∧ lcP (fun a Q E => Q true) (fun a Q E => szOk 1 ∧ szOk (x2.length + [a].length) ∧ Q (x2 ++ [a])) (fun _ => False) (rgI 0 (x + (1 : Int)).toNat) [] (fun ys => szOk (s2.length + ys.length) ∧ N2 (s2 ++ ys))) (fun s2 => N s2) s []) K ds rows
  | [], rows, _, _, _, h => h
  | d :: ds, rows, hl, hd, hr, h => by
    have h1 := hd d (by simp)
    have hp := prodN_pos (ds := ds) fun x hx => (hd x (by simp [hx])).1
    have e : rows.length * prodN (d :: ds) = rows.length * (d + 1).toNat * prodN ds := by show rows.length * ((d + 1).toNat * prodN ds) = _; rw [Nat.mul_assoc]
    rw [e] at hl
    have hle : rows.length * (d + 1).toNat ≤ 1000000 := Nat.le_trans (Nat.le_mul_of_pos_right _ hp) hl
    refine ⟨szle (by omega), forP_rows d h1.1 h1.2 rows [] (by simpa using hle) (fun r hx => by have := hr r hx; rw [List.length_cons] at this; omega) ?_⟩
    rw [List.nil_append]
    refine forP_every ds (rowsStep rows d) (by rw [rowsStep_length]; exact hl) (fun x hx => hd x (by simp [hx])) (fun r hx => ?_) h
    unfold rowsStep at hx
    rw [List.mem_flatMap] at hx
    obtain ⟨r0, h0, h2⟩ := hx
    rw [List.mem_map] at h2
    obtain ⟨p, _, rfl⟩ := h2
    have := hr r0 h0
    rw [List.length_cons] at this
    simp; omega
theorem F__law_every {b : List House} (hb : OkBook b) (hN : prodN (debtsL b) ≤ 1000000) (hd : ∀ d ∈ debtsL b, d ≤ 1000000) {Q : List (List Int) → Prop} {E : EK} (h : Q (everyL (debtsL b))) : t__law_every b Q E := by
  unfold t__law_every
  have hbl := hb.len
  refine ⟨szle (by omega), szle (by omega), F__law_debts hb ?_⟩
  exact forP_every (debtsL b) [[]] (by simpa using hN) (fun d hx => ⟨(debtsL_range hb d hx).1, hd d hx⟩) (by simp; omega) h
theorem mem_rowsFold : ∀ (ds : List Int) (rows : List (List Int)) (r : List Int), r ∈ ds.foldl rowsStep rows ↔ ∃ r0 ∈ rows, ∃ q, r = r0 ++ q ∧ F2 (fun d p => 0 ≤ p ∧ p ≤ d) ds q
  | [], rows, r => by
    constructor
    · intro h; exact ⟨r, h, [], by simp, .nil⟩
    · rintro ⟨r0, h, q, rfl, k⟩; cases k; simpa using h
  | d :: ds, rows, r => by
    rw [List.foldl_cons, mem_rowsFold ds]
    constructor
    · rintro ⟨r1, h1, q, rfl, k⟩
      unfold rowsStep at h1
      rw [List.mem_flatMap] at h1
      obtain ⟨r0, h0, h2⟩ := h1
      rw [List.mem_map] at h2
      obtain ⟨p, hp, rfl⟩ := h2
      rw [mem_rgI] at hp
      exact ⟨r0, h0, p :: q, by simp, .cons ⟨by omega, by omega⟩ k⟩
    · rintro ⟨r0, h0, q, rfl, k⟩
      cases k with
      | @cons _ p _ q hp k =>
        refine ⟨r0 ++ [p], ?_, q, by simp, k⟩
        unfold rowsStep
        rw [List.mem_flatMap]
        exact ⟨r0, h0, List.mem_map.mpr ⟨p, by rw [mem_rgI]; omega, rfl⟩⟩
theorem f2_pay : ∀ {b : List House} {q : List Int}, F2 (fun d p => 0 ≤ p ∧ p ≤ d) (debtsL b) q ↔ PayOf b q
  | [], [] => ⟨fun _ => trivial, fun _ => .nil⟩
  | [], _ :: _ => ⟨fun h => (by cases h), fun h => h.elim⟩
  | _ :: _, [] => ⟨fun h => (by cases h), fun h => h.elim⟩
  | h :: b, p :: q => ⟨fun k => by cases k with | cons a c => exact ⟨a.1, a.2, f2_pay.mp c⟩, fun k => .cons ⟨k.1, k.2.1⟩ (f2_pay.mpr k.2.2)⟩
theorem mem_everyL {b : List House} {r : List Int} : r ∈ everyL (debtsL b) ↔ PayI b r := by
  unfold everyL
  rw [mem_rowsFold, ← payI_iff, ← f2_pay]
  constructor
  · rintro ⟨r0, h0, q, rfl, k⟩
    rw [List.mem_singleton] at h0; subst h0; simpa using k
  · intro k; exact ⟨[], by simp, r, by simp, k⟩
theorem prodN_le {c : Nat} : ∀ {ds : List Int}, (∀ d ∈ ds, 0 ≤ d ∧ d + 1 ≤ c) → prodN ds ≤ c ^ ds.length
  | [], _ => Nat.le_refl _
  | d :: r, h => by
    have h1 := h d (by simp)
    have h2 := prodN_le (c := c) (ds := r) fun x hx => h x (by simp [hx])
    rw [List.length_cons, Nat.pow_succ, Nat.mul_comm]
    exact Nat.mul_le_mul (by omega) h2
theorem sumA_le {t : Int} : ∀ {ss : List Slip}, (∀ y ∈ ss, y.2 ≤ t) → sumA ss ≤ t * ss.length
  | [], _ => by simp [sumA]
  | s :: r, h => by
    have h1 := h s (by simp)
    have h2 := sumA_le (t := t) (ss := r) fun x hx => h x (by simp [hx])
    rw [sumA_cons, List.length_cons, Int.natCast_add, Int.mul_add]
    show _ ≤ _ + t * 1
    omega
theorem debts_small {b : List House} (hb : OkBook b) {n s t D : Int} (hh : ∀ (i : Nat) x, b[i]? = some x → HOk n i s t x) (t0 : 0 ≤ t) (hD : t * s ≤ D) : ∀ d ∈ debtsL b, 0 ≤ d ∧ d ≤ D := fun d hd => by
  have h0 := (debtsL_range hb d hd).1
  unfold debtsL at hd
  rw [List.mem_map] at hd
  obtain ⟨x, hx, rfl⟩ := hd
  obtain ⟨i, hi, e⟩ := List.getElem_of_mem hx
  have k := hh i x (by rw [List.getElem?_eq_getElem hi, e])
  have h1 := sumA_le (t := t) (ss := x.2) fun y hy => (k.sl y hy).2.2.2
  have h2 := Int.mul_le_mul_of_nonneg_left k.len t0
  exact ⟨h0, by omega⟩
theorem sm_ps {ps : List Int} {n : Nat} (hl : ps.length ≤ n) (h : ∀ x ∈ ps, -1000000000000 ≤ x ∧ x ≤ 1000000000000) : Sm (1 + n * 1) 1 (eT eI ps) := sm_T (m := 1) (h := 0) hl fun z hz => sm_I (by have := h z hz; omega) (by have := h z hz; omega)
theorem PayI.mem {b : List House} (hb : OkBook b) {ps : List Int} (hp : PayI b ps) : ∀ x ∈ ps, 0 ≤ x ∧ x ≤ 6000000000 := fun x hx => by
  obtain ⟨i, hi, e⟩ := List.getElem_of_mem hx
  have hpl := hp.len
  have k := hp.ge i (by omega) (by omega)
  rw [gp_nat hi, e] at k
  have := debtsL_range hb (sumA (gh b i).2) (by
    unfold debtsL
    rw [gh_nat (by omega)]
    exact List.mem_map_of_mem (List.getElem_mem _))
  omega
end Dl

set_option Elab.async false
set_option linter.all false
set_option maxRecDepth 100000
set_option maxHeartbeats 4000000
namespace Dl
open PySem PySem.Spec PyProof.Rows L2
theorem fit2 {x y : D} {m h m' h' : Nat} (a : Sm m h x) (c : Sm m' h' y) (e : m + m' ≤ 4000) (f : h ≤ 100) (g : h' ≤ 100) : Fit (eL eA [x, y]) :=
  ((SmL.cons (a.le (Nat.le_refl _) f) (.one (c.le (Nat.le_refl _) g))).ls).fit (by omega) (by omega)
theorem ne_self {x : Str} {P Q : Prop} (q : Q) : if (!(eqB x x)) = true then P else Q := by rw [if_neg (by simp [eqB])]; exact q
theorem tl : t_law (fun b => b = true) (fun _ => False) := by
  unfold t_law
  refine ⟨in62_of (by omega) (by omega), forP_all _ (fun x _ N k => ?_) ?_⟩
  · refine F__law_book () (by omega) (by omega) (by omega) (by omega) (by omega) (by omega) (fun b hb hbl hh => ?_)
    have hd := debts_small hb.toOkBook (D := 4) hh (by omega) (by omega)
    have hp : prodN (debtsL b) ≤ 1000000 := by
      have h1 := prodN_le (c := 5) (ds := debtsL b) fun d hx => by have := hd d hx; omega
      have h2 : 5 ^ (debtsL b).length ≤ 5 ^ 3 := Nat.pow_le_pow_right (by omega) (by rw [List.length_map]; omega)
      have : (5 : Nat) ^ 3 = 125 := by decide
      omega
    refine F__law_every hb.toOkBook hp (fun d hx => by have := hd d hx; omega) ?_
    refine forP_all _ (fun r _ N2 k2 => ?_) k
    have sm := errM_sm hb.toOkBook (eT eI r) (m := 20) (h := 2) (by omega) (by omega)
    refine F__law_error hb.toOkBook _ (F_settlement_error hb.toOkBook _ (F_is_settlement hb.toOkBook _ ⟨szle (by omega), fit2 sm (Sm.bl (h := 0)) (by omega) (by omega) (by omega), szle (by omega), fit2 sm (Sm.bl (h := 0)) (by omega) (by omega) (by omega), ne_self k2⟩))
  · refine ⟨in62_of (by omega) (by omega), forP_all _ (fun x hx N k => ?_) ?_⟩
    · have h9 : (10 : Int) ^ (9 : Int).toNat = 1000000000 := by decide
      obtain ⟨t, ht, htt⟩ := at2 9 ((10 : Int) ^ (9 : Int).toNat) (r := x % 2) (by omega) (by omega)
      rw [h9] at htt
      refine ⟨cpow_dec (by decide), szle (by omega), by omega, t, ht, F__law_book () (by omega) (by omega) (by omega) (by omega) (by omega) (by omega) (fun b hb hbl hh => ?_)⟩
      refine F__law_least hb (fun run ps hs hp hr => ?_)
      have hpl := hp.len
      have hbp := hb.pos
      have hm := hp.mem hb.toOkBook
      have dr := debtsL_range hb.toOkBook
      have sps : ∀ l : List Int, l.length ≤ 10 → (∀ x ∈ l, 0 ≤ x ∧ x ≤ 6000000000) → Sm 11 1 (eT eI l) := fun l h1 h2 => sm_ps (n := 10) h1 fun x hx => by have := h2 x hx; omega
      refine ⟨szle (by omega), ⟨by omega, by omega, by simp⟩, F__law_debts hb.toOkBook ⟨szle (by omega), szle (by simp; omega), szle (by omega), szle (by omega), szle (by omega), join1 ⟨in62_of (by omega) (by omega), ?_⟩⟩⟩
      refine lc_rel (fun _ y => Sm 200 6 y) (by rw [rgI_length]; omega) (fun _ _ Y hY => F__law_bent () (fun e => by rw [e] at hpl; simp at hpl; omega) (by omega) hm hY) (fun ys hys => ?_)
      have hyl := hys.length
      rw [rgI_length] at hyl
      refine ⟨szle (by simp; omega), F__law_some hb.toOkBook () (fun p4 l4 m4 => F__law_odd () (fun d5 h5 => ⟨szle (by omega), szle (by simp; omega), forP_all _ (fun v hv N2 k2 => ?_) k⟩))⟩
      have hvs : Sm 400 10 v := by
        simp only [List.mem_append, List.mem_cons, List.not_mem_nil, or_false] at hv
        rcases hv with ((rfl | rfl | rfl | rfl | rfl | rfl | rfl | rfl) | hv) | (rfl | rfl)
        · exact (sps ps (by omega) hm).le (by omega) (by omega)
        · rw [rep_flat]
          exact (sps _ (by rw [List.length_replicate]; omega) (fun z hz => by rw [(List.mem_replicate.mp hz).2]; omega)).le (by omega) (by omega)
        · exact (sps _ (by rw [List.length_map]; omega) dr).le (by omega) (by omega)
        · exact (sm_L (n := 10) (m := 1) (h := 0) (by omega) fun z hz => sm_I (by have := hm z hz; omega) (by have := hm z hz; omega)).le (by omega) (by omega)
        · exact (sps _ (by simp; omega) (fun z hz => by
            rcases List.mem_append.mp hz with hz | hz
            · exact hm z hz
            · rw [List.mem_singleton] at hz; subst hz; omega)).le (by omega) (by omega)
        · exact (sps [] (by simp) (by simp)).le (by omega) (by omega)
        · exact (Sm.non (h := 0)).le (by omega) (by omega)
        · exact (sm_T (n := 1) (m := 11) (h := 1) (by simp) (fun z hz => by rw [List.mem_singleton] at hz; rw [hz]; exact sps ps (by omega) hm)).le (by omega) (by omega)
        · obtain ⟨_, _, h6⟩ := hys.mem v hv; exact h6.le (by omega) (by omega)
        · exact (sps _ (by omega) m4).le (by omega) (by omega)
        · exact h5.le (by omega) (by omega)
      have sm := errM_sm hb.toOkBook v (m := 20) (h := 2) (by omega) (by omega)
      have fb : Fit (eL eA [eT (eP eI (eT (eP eI eI))) b, v]) := fit2 (sm_bookP hb.toOkBook) hvs (by omega) (by omega) (by omega)
      refine ⟨szle (by omega), fb, F__law_error hb.toOkBook v ⟨in62_of (by omega) (by omega), forP_all _ (fun _ _ N3 k3 => ?_) k2⟩⟩
      refine F_settlement_error hb.toOkBook v (F_is_settlement hb.toOkBook v ⟨szle (by omega), fit2 sm (Sm.bl (h := 0)) (by omega) (by omega) (by omega), szle (by omega), fit2 sm (Sm.bl (h := 0)) (by omega) (by omega) (by omega), ne_self ⟨szle (by omega), fb, ne_self k3⟩⟩)
    · have hB : OkBook [((0 : Int), [((1 : Int), (5 : Int))]), ((0 : Int), [((0 : Int), (3 : Int))])] := by
        refine { pos := by simp, len := by simp, purse := fun x hx => ?_, pile := fun x hx => ?_ }
        · simp only [List.mem_cons, List.not_mem_nil, or_false] at hx
          rcases hx with rfl | rfl <;> simp
        · simp only [List.mem_cons, List.not_mem_nil, or_false] at hx
          rcases hx with rfl | rfl <;> exact ⟨by simp, by simp, by simp⟩
      refine ⟨szle (by omega), szle (by omega), szle (by omega), szle (by omega), join1 ⟨szle (by omega), lc_map (errM _) (by simp) (fun v _ Y hY => F_settlement_error hB v hY) ?_⟩⟩
      exact ⟨⟨by decide +kernel, by decide +kernel, by decide +kernel⟩, by decide +kernel⟩
end Dl

set_option Elab.async false
set_option linter.all false
set_option maxRecDepth 100000
set_option maxHeartbeats 4000000
namespace Dl
open PySem PySem.Spec PyProof.Rows L2
def spLaw (K : PySem.W.Frag) : Sp := fun vs H Q _ => ∃ (a : Addr) (ns : List Int), vs = [.ref a] ∧ SqL K H a (ns.map V.int) ∧ ∀ H', Q (.bl true) H'
def spOpen (K : PySem.W.Frag) : Sp := fun vs H Q _ => ∃ (a : Addr) (ns : List Int), vs = [.ref a] ∧ SqL K H a (ns.map V.int) ∧ ∀ H' b g gs m t, B2 b g H' gs m t → (∀ a o, H a = some o → H' a = some o) → H b = none → H g = none → Q (.ref b) H'
section
variable {P : Program} {w : World} {K : PySem.W.Frag} {mg : Str → Option Value} {base : Heap}
def tH (sp : Sp) (E : XK) (t : TA) : L2.TE := fun σ H Q => t σ H fun vs H1 => sp vs H1 Q E
theorem pe_hcall {X : Cx} {E : XK} {k : Nat} {f : Addr} {fd : FuncData} {ps : List Str} {sp : Sp} {x : Str} {p pos : Pos} {e : Expr} {es : List Expr} {t : TA} (F : HFn X.prog X.w X.K X.mg X.base k f fd ps sp) (hr : Room k X.A) (hgd : X.A.guards = some []) (hg : Gl X x) (hm : X.mg x = some (.ref f)) (kp : PySem.W.keepIn X.K (.ref f) = true)
    (hb : Binds X.K fd ps []) (hx : Passes (L2.CX X.prog X.w) X E) (ha : PA X (e :: es) t) (hdb : (x == ("__debug__" : Str)) = false := by decide) (he : starEach (e :: es) X.env = (false, eval e X.env) :: starEach es X.env := by rfl) (hpl : (backTo pos (starEach es X.env)).any (·.1) = false := by rfl) :
    PE X (.Call (.Name x p) (e :: es) [] pos) (tH sp E t) := by
  refine ⟨fun pins s σ H Q I h => wpAny_Call_Name_kw (ld_glob I hg hm ?_ hdb)⟩
  refine PySem.W.callWith_K (h₀ := X.base) I.ok.mod.kin kp (thn (ha.run pos pins s σ H _ I h) fun us s1 ⟨vs, H1, I1, r, hs⟩ => ⟨I1.kIn, ?_⟩) he hpl
  have hl : us.length = ps.length := by rw [← r.length]; exact F.len _ _ _ _ hs
  have b := hb s1 us I1.kIn (by rw [List.append_nil]; exact hl)
  rw [List.append_nil] at b
  refine wpAny_call (codeAny_mono (F.run X.A X.stack s1 H1 ⟨us, []⟩ us vs Q E hr hgd I1.env0 b r hs) fun res s' hq => ?_)
  match res, hq with
  | .error e, hq => exact hx pins σ H1 s1 e s' I1 hq
  | .ok (.ret u), hq => exact I1.after hq
  | .ok .next, hq => exact False.elim hq
  | .ok .brk, hq => exact False.elim hq
  | .ok .cont, hq => exact False.elim hq
theorem h_law {f fo : Addr} {fd fdo : FuncData} (F : Fun K "law" "law" s_law f fd) (G : Gs mg) (hsys : ∃ o, base.get? sysModules = some o) (O : HFn P w K mg base 1 fo fdo ["_law_script"] (spOpen K)) (mo : mg "_law_drum" = some (.ref fo)) (ko : PySem.W.keepIn K (.ref fo) = true) (bo : Binds K fdo ["_law_script"] []) (C__law_bent : Cal P w K mg base 7 "_law_bent" ["_law_drum_here", "_law_payments"] sp__law_bent) (C__law_book : Cal P w K mg base 7 "_law_book" ["_law_drum_here", "_law_most", "_law_slips", "_law_top"] sp__law_book) (C__law_debts : Cal P w K mg base 7 "_law_debts" ["_law_book_here"] sp__law_debts) (C__law_error : Cal P w K mg base 7 "_law_error" ["_law_book_here", "_law_value"] sp__law_error) (C__law_every : Cal P w K mg base 7 "_law_every" ["_law_book_here"] sp__law_every) (C__law_least : Cal P w K mg base 7 "_law_least" ["_law_book_here"] sp__law_least) (C__law_odd : Cal P w K mg base 7 "_law_odd" ["_law_drum_here"] sp__law_odd) (C__law_some : Cal P w K mg base 7 "_law_some" ["_law_drum_here", "_law_book_here"] sp__law_some) (C_is_settlement : Cal P w K mg base 7 "is_settlement" ["book", "value"] sp_is_settlement) (C_settlement_error : Cal P w K mg base 7 "settlement_error" ["book", "value"] sp_settlement_error) :
    HFn P w K mg base 8 f fd ["_law_script"] (spLaw K) := by
  refine hfn_mk F sc_law (fun vs H Q E ⟨_, _, e, _⟩ => by rw [e]; rfl) fun cdv A outer s0 H vs Q E hr hgd h => ?_
  obtain ⟨a, ns, rfl, hS, kq⟩ := h
  obtain ⟨t, p, q⟩ := (w_law G hsys C__law_bent C__law_book C__law_debts C__law_error C__law_every C__law_least C__law_odd C__law_some C_is_settlement C_settlement_error cdv A outer s0 H E hr hgd).run
  refine ⟨_, pss_cons (ps_set (i := 1) sc_law.nd rfl (by first | exact Or.inl rfl | exact Or.inr rfl) (pe_hcall O (hr.mono (by decide)) hgd rfl mo ko bo passD (pa_cons (pv 0) pa_nil))) p, ?_⟩
  refine ⟨_, rfl, a, ns, rfl, hS, fun H' b g gs m t' hB _ _ _ => ?_⟩
  have g1 : Good ⟨some (b2 b g), fun _ => none⟩ H' := ⟨fun _ _ e => (by have e' : (none : Option HO) = some _ := e; cases e'), fun x e => (by cases (show some (b2 b g) = some x from e); exact ⟨gs, m, t', hB⟩), fun _ _ => rfl⟩
  have r1 : Rel H' ⟨some (b2 b g), fun _ => none⟩ H' [some (.ref a), some (.ref b), none, none, none, none, none, none, none, none, none, none, none, none] [.no, .v dDrum, .no, .no, .no, .no, .no, .no, .no, .no, .no, .no, .no, .no] := (rel_no [some (.ref a), none, none, none, none, none, none, none, none, none, none, none, none, none]).put (i := 1) (x := .ref b) (Rp.bx (x := (b2 b g)) rfl ⟨b, g, rfl⟩)
  refine q ⟨⟨some (b2 b g), fun _ => none⟩, H', fun _ => none, some (b2 b g)⟩ { nx := fun _ => False, rt := fun x => x = .bl true, ex := fun _ => False } _ ⟨fun _ _ _ _ _ _ h => h.elim, fun _ _ _ _ _ _ h => h.elim, fun _ _ _ _ _ _ h => h.elim, fun S v d H2 _ rv hd => ?_, xl_none⟩ _ _ _ H' ⟨g1, .refl _ _, .refl _ _⟩ r1 (tlaw_law tl .no)
  subst hd
  cases rv
  exact kq H2
end
theorem all_mk {P : Program} {w : World} {K : PySem.W.Frag} {h : Heap} {mg : Str → Option Value} {fa : Addr} (X : K.In h) (N : h.Ns mainGlobals mg) (hfa : mg "law" = some (.ref fa))
    {f0 : Addr} {od0 an0 : Option Addr} {sl0 : Array (Option Value)} {oc0 kV0 dc0 pm0 cd0 ct0 : Value} (a0 : PySem.W.nsIn K mainGlobals "_law_beat" = some (some (.ref f0))) (l0 : K.lookup f0 = some ⟨oc0, od0, .func (PySem.W.fnOf "_law_beat" "_law_beat" (defArgs s__law_beat) (defBody s__law_beat) (defScope s__law_beat) .none kV0 dc0 pm0 an0 cd0 ct0), sl0⟩) (c0 : PySem.W.codeIn K cd0 "_law_beat" = true) (k0 : PySem.W.keepIn K (.ref f0) = true)
    {f1 : Addr} {od1 an1 : Option Addr} {sl1 : Array (Option Value)} {oc1 kV1 dc1 pm1 cd1 ct1 : Value} (a1 : PySem.W.nsIn K mainGlobals "_law_debts" = some (some (.ref f1))) (l1 : K.lookup f1 = some ⟨oc1, od1, .func (PySem.W.fnOf "_law_debts" "_law_debts" (defArgs s__law_debts) (defBody s__law_debts) (defScope s__law_debts) .none kV1 dc1 pm1 an1 cd1 ct1), sl1⟩) (c1 : PySem.W.codeIn K cd1 "_law_debts" = true) (k1 : PySem.W.keepIn K (.ref f1) = true)
    {f2 : Addr} {od2 an2 : Option Addr} {sl2 : Array (Option Value)} {oc2 kV2 dc2 pm2 cd2 ct2 : Value} (a2 : PySem.W.nsIn K mainGlobals "_law_is_int" = some (some (.ref f2))) (l2 : K.lookup f2 = some ⟨oc2, od2, .func (PySem.W.fnOf "_law_is_int" "_law_is_int" (defArgs s__law_is_int) (defBody s__law_is_int) (defScope s__law_is_int) .none kV2 dc2 pm2 an2 cd2 ct2), sl2⟩) (c2 : PySem.W.codeIn K cd2 "_law_is_int" = true) (k2 : PySem.W.keepIn K (.ref f2) = true)
    {f3 : Addr} {od3 an3 : Option Addr} {sl3 : Array (Option Value)} {oc3 kV3 dc3 pm3 cd3 ct3 : Value} (a3 : PySem.W.nsIn K mainGlobals "_law_more" = some (some (.ref f3))) (l3 : K.lookup f3 = some ⟨oc3, od3, .func (PySem.W.fnOf "_law_more" "_law_more" (defArgs s__law_more) (defBody s__law_more) (defScope s__law_more) .none kV3 dc3 pm3 an3 cd3 ct3), sl3⟩) (c3 : PySem.W.codeIn K cd3 "_law_more" = true) (k3 : PySem.W.keepIn K (.ref f3) = true)
    {f4 : Addr} {od4 an4 : Option Addr} {sl4 : Array (Option Value)} {oc4 kV4 dc4 pm4 cd4 ct4 : Value} (a4 : PySem.W.nsIn K mainGlobals "_law_parts" = some (some (.ref f4))) (l4 : K.lookup f4 = some ⟨oc4, od4, .func (PySem.W.fnOf "_law_parts" "_law_parts" (defArgs s__law_parts) (defBody s__law_parts) (defScope s__law_parts) .none kV4 dc4 pm4 an4 cd4 ct4), sl4⟩) (c4 : PySem.W.codeIn K cd4 "_law_parts" = true) (k4 : PySem.W.keepIn K (.ref f4) = true)
    {f5 : Addr} {od5 an5 : Option Addr} {sl5 : Array (Option Value)} {oc5 kV5 dc5 pm5 cd5 ct5 : Value} (a5 : PySem.W.nsIn K mainGlobals "debt_of" = some (some (.ref f5))) (l5 : K.lookup f5 = some ⟨oc5, od5, .func (PySem.W.fnOf "debt_of" "debt_of" (defArgs s_debt_of) (defBody s_debt_of) (defScope s_debt_of) .none kV5 dc5 pm5 an5 cd5 ct5), sl5⟩) (c5 : PySem.W.codeIn K cd5 "debt_of" = true) (k5 : PySem.W.keepIn K (.ref f5) = true)
    {f6 : Addr} {od6 an6 : Option Addr} {sl6 : Array (Option Value)} {oc6 kV6 dc6 pm6 cd6 ct6 : Value} (a6 : PySem.W.nsIn K mainGlobals "is_integer" = some (some (.ref f6))) (l6 : K.lookup f6 = some ⟨oc6, od6, .func (PySem.W.fnOf "is_integer" "is_integer" (defArgs s_is_integer) (defBody s_is_integer) (defScope s_is_integer) .none kV6 dc6 pm6 an6 cd6 ct6), sl6⟩) (c6 : PySem.W.codeIn K cd6 "is_integer" = true) (k6 : PySem.W.keepIn K (.ref f6) = true)
    {f7 : Addr} {od7 an7 : Option Addr} {sl7 : Array (Option Value)} {oc7 kV7 dc7 pm7 cd7 ct7 : Value} (a7 : PySem.W.nsIn K mainGlobals "parts_of" = some (some (.ref f7))) (l7 : K.lookup f7 = some ⟨oc7, od7, .func (PySem.W.fnOf "parts_of" "parts_of" (defArgs s_parts_of) (defBody s_parts_of) (defScope s_parts_of) .none kV7 dc7 pm7 an7 cd7 ct7), sl7⟩) (c7 : PySem.W.codeIn K cd7 "parts_of" = true) (k7 : PySem.W.keepIn K (.ref f7) = true)
    {f8 : Addr} {od8 an8 : Option Addr} {sl8 : Array (Option Value)} {oc8 kV8 dc8 pm8 cd8 ct8 : Value} (a8 : PySem.W.nsIn K mainGlobals "_law_book" = some (some (.ref f8))) (l8 : K.lookup f8 = some ⟨oc8, od8, .func (PySem.W.fnOf "_law_book" "_law_book" (defArgs s__law_book) (defBody s__law_book) (defScope s__law_book) .none kV8 dc8 pm8 an8 cd8 ct8), sl8⟩) (c8 : PySem.W.codeIn K cd8 "_law_book" = true) (k8 : PySem.W.keepIn K (.ref f8) = true)
    {f9 : Addr} {od9 an9 : Option Addr} {sl9 : Array (Option Value)} {oc9 kV9 dc9 pm9 cd9 ct9 : Value} (a9 : PySem.W.nsIn K mainGlobals "_law_every" = some (some (.ref f9))) (l9 : K.lookup f9 = some ⟨oc9, od9, .func (PySem.W.fnOf "_law_every" "_law_every" (defArgs s__law_every) (defBody s__law_every) (defScope s__law_every) .none kV9 dc9 pm9 an9 cd9 ct9), sl9⟩) (c9 : PySem.W.codeIn K cd9 "_law_every" = true) (k9 : PySem.W.keepIn K (.ref f9) = true)
    {f10 : Addr} {od10 an10 : Option Addr} {sl10 : Array (Option Value)} {oc10 kV10 dc10 pm10 cd10 ct10 : Value} (a10 : PySem.W.nsIn K mainGlobals "_law_got" = some (some (.ref f10))) (l10 : K.lookup f10 = some ⟨oc10, od10, .func (PySem.W.fnOf "_law_got" "_law_got" (defArgs s__law_got) (defBody s__law_got) (defScope s__law_got) .none kV10 dc10 pm10 an10 cd10 ct10), sl10⟩) (c10 : PySem.W.codeIn K cd10 "_law_got" = true) (k10 : PySem.W.keepIn K (.ref f10) = true)
    {f11 : Addr} {od11 an11 : Option Addr} {sl11 : Array (Option Value)} {oc11 kV11 dc11 pm11 cd11 ct11 : Value} (a11 : PySem.W.nsIn K mainGlobals "_law_next" = some (some (.ref f11))) (l11 : K.lookup f11 = some ⟨oc11, od11, .func (PySem.W.fnOf "_law_next" "_law_next" (defArgs s__law_next) (defBody s__law_next) (defScope s__law_next) .none kV11 dc11 pm11 an11 cd11 ct11), sl11⟩) (c11 : PySem.W.codeIn K cd11 "_law_next" = true) (k11 : PySem.W.keepIn K (.ref f11) = true)
    {f12 : Addr} {od12 an12 : Option Addr} {sl12 : Array (Option Value)} {oc12 kV12 dc12 pm12 cd12 ct12 : Value} (a12 : PySem.W.nsIn K mainGlobals "_law_odd" = some (some (.ref f12))) (l12 : K.lookup f12 = some ⟨oc12, od12, .func (PySem.W.fnOf "_law_odd" "_law_odd" (defArgs s__law_odd) (defBody s__law_odd) (defScope s__law_odd) .none kV12 dc12 pm12 an12 cd12 ct12), sl12⟩) (c12 : PySem.W.codeIn K cd12 "_law_odd" = true) (k12 : PySem.W.keepIn K (.ref f12) = true)
    {f13 : Addr} {od13 an13 : Option Addr} {sl13 : Array (Option Value)} {oc13 kV13 dc13 pm13 cd13 ct13 : Value} (a13 : PySem.W.nsIn K mainGlobals "_law_some" = some (some (.ref f13))) (l13 : K.lookup f13 = some ⟨oc13, od13, .func (PySem.W.fnOf "_law_some" "_law_some" (defArgs s__law_some) (defBody s__law_some) (defScope s__law_some) .none kV13 dc13 pm13 an13 cd13 ct13), sl13⟩) (c13 : PySem.W.codeIn K cd13 "_law_some" = true) (k13 : PySem.W.keepIn K (.ref f13) = true)
    {f14 : Addr} {od14 an14 : Option Addr} {sl14 : Array (Option Value)} {oc14 kV14 dc14 pm14 cd14 ct14 : Value} (a14 : PySem.W.nsIn K mainGlobals "debts" = some (some (.ref f14))) (l14 : K.lookup f14 = some ⟨oc14, od14, .func (PySem.W.fnOf "debts" "debts" (defArgs s_debts) (defBody s_debts) (defScope s_debts) .none kV14 dc14 pm14 an14 cd14 ct14), sl14⟩) (c14 : PySem.W.codeIn K cd14 "debts" = true) (k14 : PySem.W.keepIn K (.ref f14) = true)
    {f15 : Addr} {od15 an15 : Option Addr} {sl15 : Array (Option Value)} {oc15 kV15 dc15 pm15 cd15 ct15 : Value} (a15 : PySem.W.nsIn K mainGlobals "slips_paid" = some (some (.ref f15))) (l15 : K.lookup f15 = some ⟨oc15, od15, .func (PySem.W.fnOf "slips_paid" "slips_paid" (defArgs s_slips_paid) (defBody s_slips_paid) (defScope s_slips_paid) .none kV15 dc15 pm15 an15 cd15 ct15), sl15⟩) (c15 : PySem.W.codeIn K cd15 "slips_paid" = true) (k15 : PySem.W.keepIn K (.ref f15) = true)
    {f16 : Addr} {od16 an16 : Option Addr} {sl16 : Array (Option Value)} {oc16 kV16 dc16 pm16 cd16 ct16 : Value} (a16 : PySem.W.nsIn K mainGlobals "_law_bent" = some (some (.ref f16))) (l16 : K.lookup f16 = some ⟨oc16, od16, .func (PySem.W.fnOf "_law_bent" "_law_bent" (defArgs s__law_bent) (defBody s__law_bent) (defScope s__law_bent) .none kV16 dc16 pm16 an16 cd16 ct16), sl16⟩) (c16 : PySem.W.codeIn K cd16 "_law_bent" = true) (k16 : PySem.W.keepIn K (.ref f16) = true)
    {f17 : Addr} {od17 an17 : Option Addr} {sl17 : Array (Option Value)} {oc17 kV17 dc17 pm17 cd17 ct17 : Value} (a17 : PySem.W.nsIn K mainGlobals "_law_error" = some (some (.ref f17))) (l17 : K.lookup f17 = some ⟨oc17, od17, .func (PySem.W.fnOf "_law_error" "_law_error" (defArgs s__law_error) (defBody s__law_error) (defScope s__law_error) .none kV17 dc17 pm17 an17 cd17 ct17), sl17⟩) (c17 : PySem.W.codeIn K cd17 "_law_error" = true) (k17 : PySem.W.keepIn K (.ref f17) = true)
    {f18 : Addr} {od18 an18 : Option Addr} {sl18 : Array (Option Value)} {oc18 kV18 dc18 pm18 cd18 ct18 : Value} (a18 : PySem.W.nsIn K mainGlobals "_law_held" = some (some (.ref f18))) (l18 : K.lookup f18 = some ⟨oc18, od18, .func (PySem.W.fnOf "_law_held" "_law_held" (defArgs s__law_held) (defBody s__law_held) (defScope s__law_held) .none kV18 dc18 pm18 an18 cd18 ct18), sl18⟩) (c18 : PySem.W.codeIn K cd18 "_law_held" = true) (k18 : PySem.W.keepIn K (.ref f18) = true)
    {f19 : Addr} {od19 an19 : Option Addr} {sl19 : Array (Option Value)} {oc19 kV19 dc19 pm19 cd19 ct19 : Value} (a19 : PySem.W.nsIn K mainGlobals "_law_rest" = some (some (.ref f19))) (l19 : K.lookup f19 = some ⟨oc19, od19, .func (PySem.W.fnOf "_law_rest" "_law_rest" (defArgs s__law_rest) (defBody s__law_rest) (defScope s__law_rest) .none kV19 dc19 pm19 an19 cd19 ct19), sl19⟩) (c19 : PySem.W.codeIn K cd19 "_law_rest" = true) (k19 : PySem.W.keepIn K (.ref f19) = true)
    {f20 : Addr} {od20 an20 : Option Addr} {sl20 : Array (Option Value)} {oc20 kV20 dc20 pm20 cd20 ct20 : Value} (a20 : PySem.W.nsIn K mainGlobals "_law_ring" = some (some (.ref f20))) (l20 : K.lookup f20 = some ⟨oc20, od20, .func (PySem.W.fnOf "_law_ring" "_law_ring" (defArgs s__law_ring) (defBody s__law_ring) (defScope s__law_ring) .none kV20 dc20 pm20 an20 cd20 ct20), sl20⟩) (c20 : PySem.W.codeIn K cd20 "_law_ring" = true) (k20 : PySem.W.keepIn K (.ref f20) = true)
    {f21 : Addr} {od21 an21 : Option Addr} {sl21 : Array (Option Value)} {oc21 kV21 dc21 pm21 cd21 ct21 : Value} (a21 : PySem.W.nsIn K mainGlobals "is_payments" = some (some (.ref f21))) (l21 : K.lookup f21 = some ⟨oc21, od21, .func (PySem.W.fnOf "is_payments" "is_payments" (defArgs s_is_payments) (defBody s_is_payments) (defScope s_is_payments) .none kV21 dc21 pm21 an21 cd21 ct21), sl21⟩) (c21 : PySem.W.codeIn K cd21 "is_payments" = true) (k21 : PySem.W.keepIn K (.ref f21) = true)
    {f22 : Addr} {od22 an22 : Option Addr} {sl22 : Array (Option Value)} {oc22 kV22 dc22 pm22 cd22 ct22 : Value} (a22 : PySem.W.nsIn K mainGlobals "received" = some (some (.ref f22))) (l22 : K.lookup f22 = some ⟨oc22, od22, .func (PySem.W.fnOf "received" "received" (defArgs s_received) (defBody s_received) (defScope s_received) .none kV22 dc22 pm22 an22 cd22 ct22), sl22⟩) (c22 : PySem.W.codeIn K cd22 "received" = true) (k22 : PySem.W.keepIn K (.ref f22) = true)
    {f23 : Addr} {od23 an23 : Option Addr} {sl23 : Array (Option Value)} {oc23 kV23 dc23 pm23 cd23 ct23 : Value} (a23 : PySem.W.nsIn K mainGlobals "_law_after" = some (some (.ref f23))) (l23 : K.lookup f23 = some ⟨oc23, od23, .func (PySem.W.fnOf "_law_after" "_law_after" (defArgs s__law_after) (defBody s__law_after) (defScope s__law_after) .none kV23 dc23 pm23 an23 cd23 ct23), sl23⟩) (c23 : PySem.W.codeIn K cd23 "_law_after" = true) (k23 : PySem.W.keepIn K (.ref f23) = true)
    {f24 : Addr} {od24 an24 : Option Addr} {sl24 : Array (Option Value)} {oc24 kV24 dc24 pm24 cd24 ct24 : Value} (a24 : PySem.W.nsIn K mainGlobals "_law_rich" = some (some (.ref f24))) (l24 : K.lookup f24 = some ⟨oc24, od24, .func (PySem.W.fnOf "_law_rich" "_law_rich" (defArgs s__law_rich) (defBody s__law_rich) (defScope s__law_rich) .none kV24 dc24 pm24 an24 cd24 ct24), sl24⟩) (c24 : PySem.W.codeIn K cd24 "_law_rich" = true) (k24 : PySem.W.keepIn K (.ref f24) = true)
    {f25 : Addr} {od25 an25 : Option Addr} {sl25 : Array (Option Value)} {oc25 kV25 dc25 pm25 cd25 ct25 : Value} (a25 : PySem.W.nsIn K mainGlobals "settlement_error" = some (some (.ref f25))) (l25 : K.lookup f25 = some ⟨oc25, od25, .func (PySem.W.fnOf "settlement_error" "settlement_error" (defArgs s_settlement_error) (defBody s_settlement_error) (defScope s_settlement_error) .none kV25 dc25 pm25 an25 cd25 ct25), sl25⟩) (c25 : PySem.W.codeIn K cd25 "settlement_error" = true) (k25 : PySem.W.keepIn K (.ref f25) = true)
    {f26 : Addr} {od26 an26 : Option Addr} {sl26 : Array (Option Value)} {oc26 kV26 dc26 pm26 cd26 ct26 : Value} (a26 : PySem.W.nsIn K mainGlobals "_law_end" = some (some (.ref f26))) (l26 : K.lookup f26 = some ⟨oc26, od26, .func (PySem.W.fnOf "_law_end" "_law_end" (defArgs s__law_end) (defBody s__law_end) (defScope s__law_end) .none kV26 dc26 pm26 an26 cd26 ct26), sl26⟩) (c26 : PySem.W.codeIn K cd26 "_law_end" = true) (k26 : PySem.W.keepIn K (.ref f26) = true)
    {f27 : Addr} {od27 an27 : Option Addr} {sl27 : Array (Option Value)} {oc27 kV27 dc27 pm27 cd27 ct27 : Value} (a27 : PySem.W.nsIn K mainGlobals "is_settlement" = some (some (.ref f27))) (l27 : K.lookup f27 = some ⟨oc27, od27, .func (PySem.W.fnOf "is_settlement" "is_settlement" (defArgs s_is_settlement) (defBody s_is_settlement) (defScope s_is_settlement) .none kV27 dc27 pm27 an27 cd27 ct27), sl27⟩) (c27 : PySem.W.codeIn K cd27 "is_settlement" = true) (k27 : PySem.W.keepIn K (.ref f27) = true)
    {f28 : Addr} {od28 an28 : Option Addr} {sl28 : Array (Option Value)} {oc28 kV28 dc28 pm28 cd28 ct28 : Value} (a28 : PySem.W.nsIn K mainGlobals "_law_finish" = some (some (.ref f28))) (l28 : K.lookup f28 = some ⟨oc28, od28, .func (PySem.W.fnOf "_law_finish" "_law_finish" (defArgs s__law_finish) (defBody s__law_finish) (defScope s__law_finish) .none kV28 dc28 pm28 an28 cd28 ct28), sl28⟩) (c28 : PySem.W.codeIn K cd28 "_law_finish" = true) (k28 : PySem.W.keepIn K (.ref f28) = true)
    {f29 : Addr} {od29 an29 : Option Addr} {sl29 : Array (Option Value)} {oc29 kV29 dc29 pm29 cd29 ct29 : Value} (a29 : PySem.W.nsIn K mainGlobals "_law_least" = some (some (.ref f29))) (l29 : K.lookup f29 = some ⟨oc29, od29, .func (PySem.W.fnOf "_law_least" "_law_least" (defArgs s__law_least) (defBody s__law_least) (defScope s__law_least) .none kV29 dc29 pm29 an29 cd29 ct29), sl29⟩) (c29 : PySem.W.codeIn K cd29 "_law_least" = true) (k29 : PySem.W.keepIn K (.ref f29) = true)
    {f30 : Addr} {od30 an30 : Option Addr} {sl30 : Array (Option Value)} {oc30 kV30 dc30 pm30 cd30 ct30 : Value} (a30 : PySem.W.nsIn K mainGlobals "_law_drum" = some (some (.ref f30))) (l30 : K.lookup f30 = some ⟨oc30, od30, .func (PySem.W.fnOf "_law_drum" "_law_drum" (defArgs s__law_drum) (defBody s__law_drum) (defScope s__law_drum) .none kV30 dc30 pm30 an30 cd30 ct30), sl30⟩) (c30 : PySem.W.codeIn K cd30 "_law_drum" = true) (k30 : PySem.W.keepIn K (.ref f30) = true)
    {f31 : Addr} {od31 an31 : Option Addr} {sl31 : Array (Option Value)} {oc31 kV31 dc31 pm31 cd31 ct31 : Value} (a31 : PySem.W.nsIn K mainGlobals "law" = some (some (.ref f31))) (l31 : K.lookup f31 = some ⟨oc31, od31, .func (PySem.W.fnOf "law" "law" (defArgs s_law) (defBody s_law) (defScope s_law) .none kV31 dc31 pm31 an31 cd31 ct31), sl31⟩) (c31 : PySem.W.codeIn K cd31 "law" = true) (k31 : PySem.W.keepIn K (.ref f31) = true)
    (z_abs : PySem.W.nsIn K mainGlobals "abs" = some none) (z_all : PySem.W.nsIn K mainGlobals "all" = some none) (z_bool : PySem.W.nsIn K mainGlobals "bool" = some none) (z_enumerate : PySem.W.nsIn K mainGlobals "enumerate" = some none) (z_int : PySem.W.nsIn K mainGlobals "int" = some none) (z_isinstance : PySem.W.nsIn K mainGlobals "isinstance" = some none) (z_len : PySem.W.nsIn K mainGlobals "len" = some none) (z_list : PySem.W.nsIn K mainGlobals "list" = some none) (z_max : PySem.W.nsIn K mainGlobals "max" = some none) (z_min : PySem.W.nsIn K mainGlobals "min" = some none) (z_range : PySem.W.nsIn K mainGlobals "range" = some none) (z_repr : PySem.W.nsIn K mainGlobals "repr" = some none) (z_str : PySem.W.nsIn K mainGlobals "str" = some none) (z_sum : PySem.W.nsIn K mainGlobals "sum" = some none) (z_tuple : PySem.W.nsIn K mainGlobals "tuple" = some none) (z_zip : PySem.W.nsIn K mainGlobals "zip" = some none) :
    ∃ fd : FuncData, (∀ (s : Shared) (u : Value), BindsTo s fd ⟨[u], []⟩ [("_law_script", u)]) ∧ ∀ base : Heap, K.In base → base.Ns mainGlobals mg → (∃ o, base.get? sysModules = some o) → HFn P w K mg base 8 fa fd ["_law_script"] (spLaw K) := by
  have hl := PySem.W.mg_of X N a31
  rw [hfa] at hl
  cases hl
  have G : Gs mg := { g_abs := PySem.W.mg_none_of X N z_abs, g_all := PySem.W.mg_none_of X N z_all, g_bool := PySem.W.mg_none_of X N z_bool, g_enumerate := PySem.W.mg_none_of X N z_enumerate, g_int := PySem.W.mg_none_of X N z_int, g_isinstance := PySem.W.mg_none_of X N z_isinstance, g_len := PySem.W.mg_none_of X N z_len, g_list := PySem.W.mg_none_of X N z_list, g_max := PySem.W.mg_none_of X N z_max, g_min := PySem.W.mg_none_of X N z_min, g_range := PySem.W.mg_none_of X N z_range, g_repr := PySem.W.mg_none_of X N z_repr, g_str := PySem.W.mg_none_of X N z_str, g_sum := PySem.W.mg_none_of X N z_sum, g_tuple := PySem.W.mg_none_of X N z_tuple, g_zip := PySem.W.mg_none_of X N z_zip }
  have F0 := fun_mk (st := s__law_beat) l0 c0 k0
  have b0 := F0.binds (ps := ["_law_drum_here", "_law_many"]) fun _ _ _ _ _ _ us hl => match us, hl with | [_, _], _ => rfl
  have F1 := fun_mk (st := s__law_debts) l1 c1 k1
  have b1 := F1.binds (ps := ["_law_book_here"]) fun _ _ _ _ _ _ us hl => match us, hl with | [_], _ => rfl
  have F2 := fun_mk (st := s__law_is_int) l2 c2 k2
  have b2 := F2.binds (ps := ["_law_value", "_law_low", "_law_high"]) fun _ _ _ _ _ _ us hl => match us, hl with | [_, _, _], _ => rfl
  have F3 := fun_mk (st := s__law_more) l3 c3 k3
  have b3 := F3.binds (ps := ["_law_payments", "_law_houses", "_law_amount"]) fun _ _ _ _ _ _ us hl => match us, hl with | [_, _, _], _ => rfl
  have F4 := fun_mk (st := s__law_parts) l4 c4 k4
  have b4 := F4.binds (ps := ["_law_pile", "_law_paid"]) fun _ _ _ _ _ _ us hl => match us, hl with | [_, _], _ => rfl
  have F5 := fun_mk (st := s_debt_of) l5 c5 k5
  have b5 := F5.binds (ps := ["pile"]) fun _ _ _ _ _ _ us hl => match us, hl with | [_], _ => rfl
  have F6 := fun_mk (st := s_is_integer) l6 c6 k6
  have b6 := F6.binds (ps := ["value", "low", "high"]) fun _ _ _ _ _ _ us hl => match us, hl with | [_, _, _], _ => rfl
  have F7 := fun_mk (st := s_parts_of) l7 c7 k7
  have b7 := F7.binds (ps := ["pile", "paid"]) fun _ _ _ _ _ _ us hl => match us, hl with | [_, _], _ => rfl
  have F8 := fun_mk (st := s__law_book) l8 c8 k8
  have b8 := F8.binds (ps := ["_law_drum_here", "_law_most", "_law_slips", "_law_top"]) fun _ _ _ _ _ _ us hl => match us, hl with | [_, _, _, _], _ => rfl
  have F9 := fun_mk (st := s__law_every) l9 c9 k9
  have b9 := F9.binds (ps := ["_law_book_here"]) fun _ _ _ _ _ _ us hl => match us, hl with | [_], _ => rfl
  have F10 := fun_mk (st := s__law_got) l10 c10 k10
  have b10 := F10.binds (ps := ["_law_book_here", "_law_payments"]) fun _ _ _ _ _ _ us hl => match us, hl with | [_, _], _ => rfl
  have F11 := fun_mk (st := s__law_next) l11 c11 k11
  have b11 := F11.binds (ps := ["_law_book_here", "_law_payments", "_law_house"]) fun _ _ _ _ _ _ us hl => match us, hl with | [_, _, _], _ => rfl
  have F12 := fun_mk (st := s__law_odd) l12 c12 k12
  have b12 := F12.binds (ps := ["_law_drum_here"]) fun _ _ _ _ _ _ us hl => match us, hl with | [_], _ => rfl
  have F13 := fun_mk (st := s__law_some) l13 c13 k13
  have b13 := F13.binds (ps := ["_law_drum_here", "_law_book_here"]) fun _ _ _ _ _ _ us hl => match us, hl with | [_, _], _ => rfl
  have F14 := fun_mk (st := s_debts) l14 c14 k14
  have b14 := F14.binds (ps := ["book"]) fun _ _ _ _ _ _ us hl => match us, hl with | [_], _ => rfl
  have F15 := fun_mk (st := s_slips_paid) l15 c15 k15
  have b15 := F15.binds (ps := ["book", "payments"]) fun _ _ _ _ _ _ us hl => match us, hl with | [_, _], _ => rfl
  have F16 := fun_mk (st := s__law_bent) l16 c16 k16
  have b16 := F16.binds (ps := ["_law_drum_here", "_law_payments"]) fun _ _ _ _ _ _ us hl => match us, hl with | [_, _], _ => rfl
  have F17 := fun_mk (st := s__law_error) l17 c17 k17
  have b17 := F17.binds (ps := ["_law_book_here", "_law_value"]) fun _ _ _ _ _ _ us hl => match us, hl with | [_, _], _ => rfl
  have F18 := fun_mk (st := s__law_held) l18 c18 k18
  have b18 := F18.binds (ps := ["_law_book_here", "_law_payments"]) fun _ _ _ _ _ _ us hl => match us, hl with | [_, _], _ => rfl
  have F19 := fun_mk (st := s__law_rest) l19 c19 k19
  have b19 := F19.binds (ps := ["_law_book_here", "_law_payments", "_law_ring_here"]) fun _ _ _ _ _ _ us hl => match us, hl with | [_, _, _], _ => rfl
  have F20 := fun_mk (st := s__law_ring) l20 c20 k20
  have b20 := F20.binds (ps := ["_law_book_here", "_law_payments", "_law_house"]) fun _ _ _ _ _ _ us hl => match us, hl with | [_, _, _], _ => rfl
  have F21 := fun_mk (st := s_is_payments) l21 c21 k21
  have b21 := F21.binds (ps := ["book", "value"]) fun _ _ _ _ _ _ us hl => match us, hl with | [_, _], _ => rfl
  have F22 := fun_mk (st := s_received) l22 c22 k22
  have b22 := F22.binds (ps := ["book", "payments"]) fun _ _ _ _ _ _ us hl => match us, hl with | [_, _], _ => rfl
  have F23 := fun_mk (st := s__law_after) l23 c23 k23
  have b23 := F23.binds (ps := ["_law_book_here", "_law_payments", "_law_step"]) fun _ _ _ _ _ _ us hl => match us, hl with | [_, _, _], _ => rfl
  have F24 := fun_mk (st := s__law_rich) l24 c24 k24
  have b24 := F24.binds (ps := ["_law_book_here", "_law_payments"]) fun _ _ _ _ _ _ us hl => match us, hl with | [_, _], _ => rfl
  have F25 := fun_mk (st := s_settlement_error) l25 c25 k25
  have b25 := F25.binds (ps := ["book", "value"]) fun _ _ _ _ _ _ us hl => match us, hl with | [_, _], _ => rfl
  have F26 := fun_mk (st := s__law_end) l26 c26 k26
  have b26 := F26.binds (ps := ["_law_book_here", "_law_value"]) fun _ _ _ _ _ _ us hl => match us, hl with | [_, _], _ => rfl
  have F27 := fun_mk (st := s_is_settlement) l27 c27 k27
  have b27 := F27.binds (ps := ["book", "value"]) fun _ _ _ _ _ _ us hl => match us, hl with | [_, _], _ => rfl
  have F28 := fun_mk (st := s__law_finish) l28 c28 k28
  have b28 := F28.binds (ps := ["_law_book_here", "_law_run"]) fun _ _ _ _ _ _ us hl => match us, hl with | [_, _], _ => rfl
  have F29 := fun_mk (st := s__law_least) l29 c29 k29
  have b29 := F29.binds (ps := ["_law_book_here"]) fun _ _ _ _ _ _ us hl => match us, hl with | [_], _ => rfl
  have F30 := fun_mk (st := s__law_drum) l30 c30 k30
  have b30 := F30.binds (ps := ["_law_script"]) fun _ _ _ _ _ _ us hl => match us, hl with | [_], _ => rfl
  have F31 := fun_mk (st := s_law) l31 c31 k31
  have b31 := F31.binds (ps := ["_law_script"]) fun _ _ _ _ _ _ us hl => match us, hl with | [_], _ => rfl
  refine ⟨PySem.W.fnOf "law" "law" (defArgs s_law) (defBody s_law) (defScope s_law) .none kV31 dc31 pm31 an31 cd31 ct31, fun s v => .of_eq rfl, fun base kb nb hsys => ?_⟩
  have C__law_beat : Cal P w K mg base 1 "_law_beat" ["_law_drum_here", "_law_many"] sp__law_beat := ⟨_, _, d_beat F0, PySem.W.mg_of X N a0, k0, b0⟩
  have C__law_debts : Cal P w K mg base 1 "_law_debts" ["_law_book_here"] sp__law_debts := ⟨_, _, w__law_debts (k := 0) F1 G hsys  len__law_debts law__law_debts, PySem.W.mg_of X N a1, k1, b1⟩
  have C__law_is_int : Cal P w K mg base 1 "_law_is_int" ["_law_value", "_law_low", "_law_high"] sp__law_is_int := ⟨_, _, w__law_is_int (k := 0) F2 G hsys  len__law_is_int law__law_is_int, PySem.W.mg_of X N a2, k2, b2⟩
  have C__law_more : Cal P w K mg base 1 "_law_more" ["_law_payments", "_law_houses", "_law_amount"] sp__law_more := ⟨_, _, w__law_more (k := 0) F3 G hsys  len__law_more law__law_more, PySem.W.mg_of X N a3, k3, b3⟩
  have C__law_parts : Cal P w K mg base 1 "_law_parts" ["_law_pile", "_law_paid"] sp__law_parts := ⟨_, _, w__law_parts (k := 0) F4 G hsys  len__law_parts law__law_parts, PySem.W.mg_of X N a4, k4, b4⟩
  have C_debt_of : Cal P w K mg base 1 "debt_of" ["pile"] sp_debt_of := ⟨_, _, w_debt_of (k := 0) F5 G hsys  len_debt_of law_debt_of, PySem.W.mg_of X N a5, k5, b5⟩
  have C_is_integer : Cal P w K mg base 1 "is_integer" ["value", "low", "high"] sp_is_integer := ⟨_, _, w_is_integer (k := 0) F6 G hsys  len_is_integer law_is_integer, PySem.W.mg_of X N a6, k6, b6⟩
  have C_parts_of : Cal P w K mg base 1 "parts_of" ["pile", "paid"] sp_parts_of := ⟨_, _, w_parts_of (k := 0) F7 G hsys  len_parts_of law_parts_of, PySem.W.mg_of X N a7, k7, b7⟩
  have C__law_book : Cal P w K mg base 2 "_law_book" ["_law_drum_here", "_law_most", "_law_slips", "_law_top"] sp__law_book := ⟨_, _, w__law_book (k := 1) F8 G hsys (C__law_beat.mono (by decide)) len__law_book law__law_book, PySem.W.mg_of X N a8, k8, b8⟩
  have C__law_every : Cal P w K mg base 2 "_law_every" ["_law_book_here"] sp__law_every := ⟨_, _, w__law_every (k := 1) F9 G hsys (C__law_debts.mono (by decide)) len__law_every law__law_every, PySem.W.mg_of X N a9, k9, b9⟩
  have C__law_got : Cal P w K mg base 2 "_law_got" ["_law_book_here", "_law_payments"] sp__law_got := ⟨_, _, w__law_got (k := 1) F10 G hsys (C__law_parts.mono (by decide)) len__law_got law__law_got, PySem.W.mg_of X N a10, k10, b10⟩
  have C__law_next : Cal P w K mg base 2 "_law_next" ["_law_book_here", "_law_payments", "_law_house"] sp__law_next := ⟨_, _, w__law_next (k := 1) F11 G hsys (C__law_parts.mono (by decide)) len__law_next law__law_next, PySem.W.mg_of X N a11, k11, b11⟩
  have C__law_odd : Cal P w K mg base 2 "_law_odd" ["_law_drum_here"] sp__law_odd := ⟨_, _, w__law_odd (k := 1) F12 G hsys (C__law_beat.mono (by decide)) len__law_odd law__law_odd, PySem.W.mg_of X N a12, k12, b12⟩
  have C__law_some : Cal P w K mg base 2 "_law_some" ["_law_drum_here", "_law_book_here"] sp__law_some := ⟨_, _, w__law_some (k := 1) F13 G hsys (C__law_beat.mono (by decide)) (C__law_debts.mono (by decide)) len__law_some law__law_some, PySem.W.mg_of X N a13, k13, b13⟩
  have C_debts : Cal P w K mg base 2 "debts" ["book"] sp_debts := ⟨_, _, w_debts (k := 1) F14 G hsys (C_debt_of.mono (by decide)) len_debts law_debts, PySem.W.mg_of X N a14, k14, b14⟩
  have C_slips_paid : Cal P w K mg base 2 "slips_paid" ["book", "payments"] sp_slips_paid := ⟨_, _, w_slips_paid (k := 1) F15 G hsys (C_parts_of.mono (by decide)) len_slips_paid law_slips_paid, PySem.W.mg_of X N a15, k15, b15⟩
  have C__law_bent : Cal P w K mg base 3 "_law_bent" ["_law_drum_here", "_law_payments"] sp__law_bent := ⟨_, _, w__law_bent (k := 2) F16 G hsys (C__law_beat.mono (by decide)) (C__law_odd.mono (by decide)) len__law_bent law__law_bent, PySem.W.mg_of X N a16, k16, b16⟩
  have C__law_error : Cal P w K mg base 3 "_law_error" ["_law_book_here", "_law_value"] sp__law_error := ⟨_, _, w__law_error (k := 2) F17 G hsys (C__law_debts.mono (by decide)) (C__law_got.mono (by decide)) (C__law_is_int.mono (by decide)) len__law_error law__law_error, PySem.W.mg_of X N a17, k17, b17⟩
  have C__law_held : Cal P w K mg base 3 "_law_held" ["_law_book_here", "_law_payments"] sp__law_held := ⟨_, _, w__law_held (k := 2) F18 G hsys (C__law_got.mono (by decide)) len__law_held law__law_held, PySem.W.mg_of X N a18, k18, b18⟩
  have C__law_rest : Cal P w K mg base 3 "_law_rest" ["_law_book_here", "_law_payments", "_law_ring_here"] sp__law_rest := ⟨_, _, w__law_rest (k := 2) F19 G hsys (C__law_next.mono (by decide)) len__law_rest law__law_rest, PySem.W.mg_of X N a19, k19, b19⟩
  have C__law_ring : Cal P w K mg base 3 "_law_ring" ["_law_book_here", "_law_payments", "_law_house"] sp__law_ring := ⟨_, _, w__law_ring (k := 2) F20 G hsys (C__law_next.mono (by decide)) len__law_ring law__law_ring, PySem.W.mg_of X N a20, k20, b20⟩
  have C_is_payments : Cal P w K mg base 3 "is_payments" ["book", "value"] sp_is_payments := ⟨_, _, w_is_payments (k := 2) F21 G hsys (C_debts.mono (by decide)) (C_is_integer.mono (by decide)) len_is_payments law_is_payments, PySem.W.mg_of X N a21, k21, b21⟩
  have C_received : Cal P w K mg base 3 "received" ["book", "payments"] sp_received := ⟨_, _, w_received (k := 2) F22 G hsys (C_slips_paid.mono (by decide)) len_received law_received, PySem.W.mg_of X N a22, k22, b22⟩
  have C__law_after : Cal P w K mg base 4 "_law_after" ["_law_book_here", "_law_payments", "_law_step"] sp__law_after := ⟨_, _, w__law_after (k := 3) F23 G hsys (C__law_held.mono (by decide)) (C__law_is_int.mono (by decide)) (C__law_more.mono (by decide)) (C__law_next.mono (by decide)) (C__law_rest.mono (by decide)) (C__law_ring.mono (by decide)) len__law_after law__law_after, PySem.W.mg_of X N a23, k23, b23⟩
  have C__law_rich : Cal P w K mg base 4 "_law_rich" ["_law_book_here", "_law_payments"] sp__law_rich := ⟨_, _, w__law_rich (k := 3) F24 G hsys (C__law_held.mono (by decide)) (C__law_next.mono (by decide)) len__law_rich law__law_rich, PySem.W.mg_of X N a24, k24, b24⟩
  have C_settlement_error : Cal P w K mg base 4 "settlement_error" ["book", "value"] sp_settlement_error := ⟨_, _, w_settlement_error (k := 3) F25 G hsys (C_debts.mono (by decide)) (C_is_payments.mono (by decide)) (C_received.mono (by decide)) len_settlement_error law_settlement_error, PySem.W.mg_of X N a25, k25, b25⟩
  have C__law_end : Cal P w K mg base 5 "_law_end" ["_law_book_here", "_law_value"] sp__law_end := ⟨_, _, w__law_end (k := 4) F26 G hsys (C__law_after.mono (by decide)) len__law_end law__law_end, PySem.W.mg_of X N a26, k26, b26⟩
  have C_is_settlement : Cal P w K mg base 5 "is_settlement" ["book", "value"] sp_is_settlement := ⟨_, _, w_is_settlement (k := 4) F27 G hsys (C_settlement_error.mono (by decide)) len_is_settlement law_is_settlement, PySem.W.mg_of X N a27, k27, b27⟩
  have C__law_finish : Cal P w K mg base 6 "_law_finish" ["_law_book_here", "_law_run"] sp__law_finish := ⟨_, _, w__law_finish (k := 5) F28 G hsys (C__law_after.mono (by decide)) (C__law_end.mono (by decide)) (C__law_held.mono (by decide)) (C__law_next.mono (by decide)) (C__law_rest.mono (by decide)) (C__law_rich.mono (by decide)) (C__law_ring.mono (by decide)) len__law_finish law__law_finish, PySem.W.mg_of X N a28, k28, b28⟩
  have C__law_least : Cal P w K mg base 7 "_law_least" ["_law_book_here"] sp__law_least := ⟨_, _, w__law_least (k := 6) F29 G hsys (C__law_end.mono (by decide)) (C__law_finish.mono (by decide)) len__law_least law__law_least, PySem.W.mg_of X N a29, k29, b29⟩
  have O : HFn P w K mg base 1 f30 _ ["_law_script"] (spOpen K) := g_drum F30 (PySem.W.mg_none_of X N z_abs)
  exact h_law F31 G hsys O (PySem.W.mg_of X N a30) k30 b30 (C__law_bent.mono (by decide)) (C__law_book.mono (by decide)) (C__law_debts.mono (by decide)) (C__law_error.mono (by decide)) (C__law_every.mono (by decide)) (C__law_least.mono (by decide)) (C__law_odd.mono (by decide)) (C__law_some.mono (by decide)) (C_is_settlement.mono (by decide)) (C_settlement_error.mono (by decide))
end Dl
open PySem PySem.W PyProof.Rows in
set_option maxRecDepth 100000 in
set_option maxHeartbeats 0 in
theorem PySem.Challenge.cw_slipturns_k11_settlements_judged_holds : PySem.Challenge.rw_slipturns_k11_settlements_judged.Holds := by
  w_on; o_law; k_head; (case hw => w_witness2)
  k_fill
  refine Dl.walkD (l := PySem.Challenge.rw_slipturns_k11_settlements_judged) (n := 63) (k := 8) (x := "_law_script") (sp := fun w => Dl.spLaw _) rfl (by decide) rfl ⟨rfl, by decide, by decide⟩ (fun w h Y => PySem.W.kIn_of Y) ?Q ?F (fun w H a ns hl hS => ⟨a, ns, rfl, hS, fun _ => rfl⟩)
  case Q => decide +kernel
  case F =>
    intro w mg fa h KX N hmg
    refine' Dl.all_mk KX N hmg ?a0 ?l0 ?c0 ?k0 ?a1 ?l1 ?c1 ?k1 ?a2 ?l2 ?c2 ?k2 ?a3 ?l3 ?c3 ?k3 ?a4 ?l4 ?c4 ?k4 ?a5 ?l5 ?c5 ?k5 ?a6 ?l6 ?c6 ?k6 ?a7 ?l7 ?c7 ?k7 ?a8 ?l8 ?c8 ?k8 ?a9 ?l9 ?c9 ?k9 ?a10 ?l10 ?c10 ?k10 ?a11 ?l11 ?c11 ?k11 ?a12 ?l12 ?c12 ?k12 ?a13 ?l13 ?c13 ?k13 ?a14 ?l14 ?c14 ?k14 ?a15 ?l15 ?c15 ?k15 ?a16 ?l16 ?c16 ?k16 ?a17 ?l17 ?c17 ?k17 ?a18 ?l18 ?c18 ?k18 ?a19 ?l19 ?c19 ?k19 ?a20 ?l20 ?c20 ?k20 ?a21 ?l21 ?c21 ?k21 ?a22 ?l22 ?c22 ?k22 ?a23 ?l23 ?c23 ?k23 ?a24 ?l24 ?c24 ?k24 ?a25 ?l25 ?c25 ?k25 ?a26 ?l26 ?c26 ?k26 ?a27 ?l27 ?c27 ?k27 ?a28 ?l28 ?c28 ?k28 ?a29 ?l29 ?c29 ?k29 ?a30 ?l30 ?c30 ?k30 ?a31 ?l31 ?c31 ?k31 ?z_abs ?z_all ?z_bool ?z_enumerate ?z_int ?z_isinstance ?z_len ?z_list ?z_max ?z_min ?z_range ?z_repr ?z_str ?z_sum ?z_tuple ?z_zip
    (case a0 => k_is)
    (case l0 => k_is)
    (case c0 => k_is)
    (case k0 => k_is)
    (case a1 => k_is)
    (case l1 => k_is)
    (case c1 => k_is)
    (case k1 => k_is)
    (case a2 => k_is)
    (case l2 => k_is)
    (case c2 => k_is)
    (case k2 => k_is)
    (case a3 => k_is)
    (case l3 => k_is)
    (case c3 => k_is)
    (case k3 => k_is)
    (case a4 => k_is)
    (case l4 => k_is)
    (case c4 => k_is)
    (case k4 => k_is)
    (case a5 => k_is)
    (case l5 => k_is)
    (case c5 => k_is)
    (case k5 => k_is)
    (case a6 => k_is)
    (case l6 => k_is)
    (case c6 => k_is)
    (case k6 => k_is)
    (case a7 => k_is)
    (case l7 => k_is)
    (case c7 => k_is)
    (case k7 => k_is)
    (case a8 => k_is)
    (case l8 => k_is)
    (case c8 => k_is)
    (case k8 => k_is)
    (case a9 => k_is)
    (case l9 => k_is)
    (case c9 => k_is)
    (case k9 => k_is)
    (case a10 => k_is)
    (case l10 => k_is)
    (case c10 => k_is)
    (case k10 => k_is)
    (case a11 => k_is)
    (case l11 => k_is)
    (case c11 => k_is)
    (case k11 => k_is)
    (case a12 => k_is)
    (case l12 => k_is)
    (case c12 => k_is)
    (case k12 => k_is)
    (case a13 => k_is)
    (case l13 => k_is)
    (case c13 => k_is)
    (case k13 => k_is)
    (case a14 => k_is)
    (case l14 => k_is)
    (case c14 => k_is)
    (case k14 => k_is)
    (case a15 => k_is)
    (case l15 => k_is)
    (case c15 => k_is)
    (case k15 => k_is)
    (case a16 => k_is)
    (case l16 => k_is)
    (case c16 => k_is)
    (case k16 => k_is)
    (case a17 => k_is)
    (case l17 => k_is)
    (case c17 => k_is)
    (case k17 => k_is)
    (case a18 => k_is)
    (case l18 => k_is)
    (case c18 => k_is)
    (case k18 => k_is)
    (case a19 => k_is)
    (case l19 => k_is)
    (case c19 => k_is)
    (case k19 => k_is)
    (case a20 => k_is)
    (case l20 => k_is)
    (case c20 => k_is)
    (case k20 => k_is)
    (case a21 => k_is)
    (case l21 => k_is)
    (case c21 => k_is)
    (case k21 => k_is)
    (case a22 => k_is)
    (case l22 => k_is)
    (case c22 => k_is)
    (case k22 => k_is)
    (case a23 => k_is)
    (case l23 => k_is)
    (case c23 => k_is)
    (case k23 => k_is)
    (case a24 => k_is)
    (case l24 => k_is)
    (case c24 => k_is)
    (case k24 => k_is)
    (case a25 => k_is)
    (case l25 => k_is)
    (case c25 => k_is)
    (case k25 => k_is)
    (case a26 => k_is)
    (case l26 => k_is)
    (case c26 => k_is)
    (case k26 => k_is)
    (case a27 => k_is)
    (case l27 => k_is)
    (case c27 => k_is)
    (case k27 => k_is)
    (case a28 => k_is)
    (case l28 => k_is)
    (case c28 => k_is)
    (case k28 => k_is)
    (case a29 => k_is)
    (case l29 => k_is)
    (case c29 => k_is)
    (case k29 => k_is)
    (case a30 => k_is)
    (case l30 => k_is)
    (case c30 => k_is)
    (case k30 => k_is)
    (case a31 => k_is)
    (case l31 => k_is)
    (case c31 => k_is)
    (case k31 => k_is)
    (case z_abs => k_is)
    (case z_all => k_is)
    (case z_bool => k_is)
    (case z_enumerate => k_is)
    (case z_int => k_is)
    (case z_isinstance => k_is)
    (case z_len => k_is)
    (case z_list => k_is)
    (case z_max => k_is)
    (case z_min => k_is)
    (case z_range => k_is)
    (case z_repr => k_is)
    (case z_str => k_is)
    (case z_sum => k_is)
    (case z_tuple => k_is)
    (case z_zip => k_is)

