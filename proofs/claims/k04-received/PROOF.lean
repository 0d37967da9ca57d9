import PyProof.Rows.All
import Wide.All
import OpenK.AllK
import Wide.FinOn
import HandS.ForMost
import HandS.Exc
import HandS.TryOnly
import HandS.ExcOwn
import HandS.WordsExc
import HandS.IsInst
import HandS.Wide
import HandS.Star
import HandS.TupAny
import HandS.FStr
import HandS.Zip
import HandS.TupMul
import KE.DataIsa
import KE.DataEq
import KE.GoesNew
import HandS.RaiseMore
import HandS.Style
import HandS.Dict
import HandS.Ends
import HandS.Conv
import HandS.SortInts
import KE.DataMinMax
import HandS.Small
import PySem.Challenge.RW_slipturns_k04_received_and_held
set_option Elab.async false
set_option linter.all false
set_option maxRecDepth 100000
set_option maxHeartbeats 4000000
/-! Dl1: data over the hand layer. Values as plain data D, the heap hidden. -/
namespace Dl
open PySem PySem.Spec PyProof.Rows L2

/-- the law's box, from which it draws: the object that is handed on (k: a list, not a dict), all of its objects, what is true of them -/
structure Bx where
  b : Addr
  k : Bool
  own : List Addr
  inv : Hp → Prop
  mem : b ∈ own
  loc : ∀ H H' : Hp, (∀ a ∈ own, H' a = H a) → inv H → inv H'
  has : ∀ H : Hp, inv H → ∀ a ∈ own, ∃ o, H a = some o
  ty : ∀ H : Hp, inv H → if k = true then ∃ xs, H b = some (.lst xs) else ∃ kvs, H b = some (.dK kvs)
/-- plain data -/
inductive D where
  | non | bl (b : Bool) | it (i : Int) | st (s : Str) | tp (xs : List D) | ls (xs : List D) | dc (kvs : List (Key × D)) | bx (k : Bool) (P : Bx → Prop)
/-- what is frozen, and the box -/
structure Sta where
  bx : Option Bx
  F : Hp
mutual
inductive Rp (t : Option Bx) (F : Hp) : V → D → Prop where
  | non : Rp t F .non .non
  | bl (b : Bool) : Rp t F (.bl b) (.bl b)
  | it (i : Int) : Rp t F (.int i) (.it i)
  | st (s : Str) : Rp t F (.str s) (.st s)
  | tp {a : Addr} {vs : List V} {ds : List D} : F a = some (.tup vs) → RpL t F vs ds → Rp t F (.ref a) (.tp ds)
  | ls {a : Addr} {vs : List V} {ds : List D} : F a = some (.lst vs) → RpL t F vs ds → Rp t F (.ref a) (.ls ds)
  | dc {a : Addr} {vs : List (Key × V)} {ds : List (Key × D)} : F a = some (.dK vs) → RpK t F vs ds → Rp t F (.ref a) (.dc ds)
  | bx {x : Bx} {P : Bx → Prop} : t = some x → P x → Rp t F (.ref x.b) (.bx x.k P)
inductive RpL (t : Option Bx) (F : Hp) : List V → List D → Prop where
  | nil : RpL t F [] []
  | cons {v : V} {d : D} {vs : List V} {ds : List D} : Rp t F v d → RpL t F vs ds → RpL t F (v :: vs) (d :: ds)
inductive RpK (t : Option Bx) (F : Hp) : List (Key × V) → List (Key × D) → Prop where
  | nil : RpK t F [] []
  | cons {k : Key} {v : V} {d : D} {vs : List (Key × V)} {ds : List (Key × D)} : Rp t F v d → RpK t F vs ds → RpK t F ((k, v) :: vs) ((k, d) :: ds)
end
/-- what is known more -/
structure Le (t : Option Bx) (F : Hp) (t' : Option Bx) (F' : Hp) : Prop where
  f : ∀ a o, F a = some o → F' a = some o
  t : ∀ x, t = some x → t' = some x
mutual
theorem Rp.le {t t' : Option Bx} {F F' : Hp} (m : Le t F t' F') : ∀ {v : V} {d : D}, Rp t F v d → Rp t' F' v d
  | _, _, .non => .non
  | _, _, .bl b => .bl b
  | _, _, .it i => .it i
  | _, _, .st s => .st s
  | _, _, .tp e r => .tp (m.f _ _ e) (RpL.le m r)
  | _, _, .ls e r => .ls (m.f _ _ e) (RpL.le m r)
  | _, _, .dc e r => .dc (m.f _ _ e) (RpK.le m r)
  | _, _, .bx e p => .bx (m.t _ e) p
theorem RpL.le {t t' : Option Bx} {F F' : Hp} (m : Le t F t' F') : ∀ {vs : List V} {ds : List D}, RpL t F vs ds → RpL t' F' vs ds
  | _, _, .nil => .nil
  | _, _, .cons r s => .cons (Rp.le m r) (RpL.le m s)
theorem RpK.le {t t' : Option Bx} {F F' : Hp} (m : Le t F t' F') : ∀ {vs : List (Key × V)} {ds : List (Key × D)}, RpK t F vs ds → RpK t' F' vs ds
  | _, _, .nil => .nil
  | _, _, .cons r s => .cons (Rp.le m r) (RpK.le m s)
end
section
variable {t : Option Bx} {F : Hp}
theorem RpL.length : ∀ {vs : List V} {ds : List D}, RpL t F vs ds → vs.length = ds.length
  | _, _, .nil => rfl
  | _, _, .cons _ s => by rw [List.length_cons, List.length_cons, s.length]
theorem RpL.get : ∀ {vs : List V} {ds : List D} {i : Nat} {v : V}, RpL t F vs ds → vs[i]? = some v → ∃ d, ds[i]? = some d ∧ Rp t F v d
  | _, _, _, _, .nil, e => by simp at e
  | _, _, 0, _, .cons r _, e => by simp at e; subst e; exact ⟨_, rfl, r⟩
  | _, _, i + 1, v, .cons _ s, e => by
    obtain ⟨d, h1, h2⟩ := RpL.get (i := i) (v := v) s (by simpa using e)
    exact ⟨d, by simpa using h1, h2⟩
theorem RpL.getD : ∀ {vs : List V} {ds : List D} {i : Nat} {d : D}, RpL t F vs ds → ds[i]? = some d → ∃ v, vs[i]? = some v ∧ Rp t F v d
  | _, _, _, _, .nil, e => by simp at e
  | _, _, 0, _, .cons r _, e => by simp at e; subst e; exact ⟨_, rfl, r⟩
  | _, _, i + 1, v, .cons _ s, e => by
    obtain ⟨d, h1, h2⟩ := RpL.getD (i := i) (d := v) s (by simpa using e)
    exact ⟨d, by simpa using h1, h2⟩
theorem RpL.app : ∀ {vs ws : List V} {ds es : List D}, RpL t F vs ds → RpL t F ws es → RpL t F (vs ++ ws) (ds ++ es)
  | _, _, _, _, .nil, h => h
  | _, _, _, _, .cons r s, h => .cons r (RpL.app s h)
theorem RpL.take : ∀ {vs : List V} {ds : List D} (n : Nat), RpL t F vs ds → RpL t F (vs.take n) (ds.take n)
  | _, _, 0, _ => .nil
  | _, _, _ + 1, .nil => .nil
  | _, _, n + 1, .cons r s => .cons r (RpL.take n s)
theorem RpL.drop : ∀ {vs : List V} {ds : List D} (n : Nat), RpL t F vs ds → RpL t F (vs.drop n) (ds.drop n)
  | _, _, 0, r => r
  | _, _, _ + 1, .nil => .nil
  | _, _, n + 1, .cons _ s => RpL.drop n s
theorem RpL.set {v : V} {d : D} (r : Rp t F v d) : ∀ {vs : List V} {ds : List D} (i : Nat), RpL t F vs ds → RpL t F (vs.set i v) (ds.set i d)
  | _, _, _, .nil => .nil
  | _, _, 0, .cons _ s => .cons r s
  | _, _, i + 1, .cons q s => .cons q (RpL.set r i s)
theorem RpL.one {v : V} {d : D} (r : Rp t F v d) : RpL t F [v] [d] := .cons r .nil
theorem RpL.ints : ∀ (ns : List Int), RpL t F (ns.map V.int) (ns.map D.it)
  | [] => .nil
  | n :: r => .cons (.it n) (RpL.ints r)
end

/-- the box's own addresses -/
def InB (t : Option Bx) (a : Addr) : Prop := ∃ x, t = some x ∧ a ∈ x.own
structure Good (S : Sta) (H : Hp) : Prop where
  fz : ∀ a o, S.F a = some o → H a = some o
  bx : ∀ x, S.bx = some x → x.inv H
  nb : ∀ a, InB S.bx a → S.F a = none
theorem Good.box {S : Sta} {H : Hp} (g : Good S H) {a : Addr} (h : InB S.bx a) : ∃ o, H a = some o := by
  obtain ⟨x, e, h⟩ := h
  exact x.has H (g.bx x e) a h
/-- from one state to a later one: what stood stands, but the box's own -/
structure Stp (S : Sta) (H : Hp) (S' : Sta) (H' : Hp) : Prop where
  ext : ∀ a o, S.F a = some o → S'.F a = some o
  new : ∀ a o, S'.F a = some o → S.F a = some o ∨ H a = none
  box : S'.bx = S.bx
  keep : ∀ a o, H a = some o → ¬ InB S.bx a → H' a = some o
theorem Stp.refl (S : Sta) (H : Hp) : Stp S H S H := ⟨fun _ _ h => h, fun _ _ h => .inl h, rfl, fun _ _ h _ => h⟩
theorem Stp.le {S S' : Sta} {H H' : Hp} (p : Stp S H S' H') : Le S.bx S.F S'.bx S'.F := ⟨p.ext, fun x e => by rw [p.box]; exact e⟩
theorem none_of_keep {H : Hp} {a : Addr} (h : ∀ o, H a = some o → False) : H a = none := by
  cases e : H a with
  | none => rfl
  | some o => exact (h o e).elim
theorem Stp.free {S S' : Sta} {H H' : Hp} (p : Stp S H S' H') (g : Good S' H') {a : Addr} (h : H' a = none) : H a = none := none_of_keep fun o e => by
  by_cases b : InB S.bx a
  · obtain ⟨x, ex, _⟩ := id b
    have : S'.bx = S.bx := p.box
    obtain ⟨o', e'⟩ := g.box (a := a) (by rw [this]; exact b)
    rw [h] at e'; cases e'
  · rw [p.keep a o e b] at h; cases h
theorem Stp.inB {S S' : Sta} {H H' : Hp} (p : Stp S H S' H') {a : Addr} (h : InB S'.bx a) : InB S.bx a ∨ H a = none := .inl (by rw [p.box] at h; exact h)
theorem Stp.inB' {S S' : Sta} {H H' : Hp} (p : Stp S H S' H') {a : Addr} (h : InB S.bx a) : InB S'.bx a := by
  obtain ⟨x, e, h⟩ := h
  exact ⟨x, p.le.t x e, h⟩
theorem Stp.trans {S S1 S2 : Sta} {H H1 H2 : Hp} (p : Stp S H S1 H1) (g : Good S1 H1) (q : Stp S1 H1 S2 H2) : Stp S H S2 H2 where
  ext := fun a o h => q.ext a o (p.ext a o h)
  new := fun a o h => by
    rcases q.new a o h with h | h
    · exact p.new a o h
    · exact .inr (p.free g h)
  box := q.box.trans p.box
  keep := fun a o h b => q.keep a o (p.keep a o h b) fun z => by
    rcases p.inB z with z | z
    · exact b z
    · rw [h] at z; cases z
/-- a new object that is frozen at once -/
theorem step_new {S : Sta} {H : Hp} (g : Good S H) {p : Addr} {o : HO} (h : H p = none) :
    Stp S H ⟨S.bx, upd S.F p o⟩ (upd H p o) ∧ Good ⟨S.bx, upd S.F p o⟩ (upd H p o) := by
  have nf : ∀ a o, S.F a = some o → a ≠ p := fun a o e z => by
    have := g.fz a o e
    rw [z, h] at this; cases this
  have nb : ∀ a, InB S.bx a → a ≠ p := fun a e z => by
    obtain ⟨o, q⟩ := g.box e
    rw [z, h] at q; cases q
  refine ⟨⟨fun a u e => (by show upd S.F p o a = some u; rw [upd_ne (nf a u e)]; exact e), fun a u e => ?_, rfl, fun a u e _ => by rw [upd_ne (ne_of_none e h)]; exact e⟩, ⟨fun a u e => ?_, fun x e => ?_, fun a e => ?_⟩⟩
  · by_cases z : a = p
    · rw [z]; exact .inr h
    · have e' : upd S.F p o a = some u := e
      rw [upd_ne z] at e'
      exact .inl e'
  · by_cases z : a = p
    · subst z
      have e' : upd S.F a o a = some u := e
      rw [upd_same] at e' ⊢; exact e'
    · have e' : upd S.F p o a = some u := e
      rw [upd_ne z] at e' ⊢
      exact g.fz a u e'
  · exact x.loc H _ (fun a ha => upd_ne (nb a ⟨x, e, ha⟩)) (g.bx x e)
  · show upd S.F p o a = none
    rw [upd_ne (nb a e)]
    exact g.nb a e
/-- a new object that is not frozen yet -/
theorem step_own {S : Sta} {H : Hp} (g : Good S H) {p : Addr} {o : HO} (h : H p = none) : Stp S H S (upd H p o) ∧ Good S (upd H p o) := by
  have nb : ∀ a, InB S.bx a → a ≠ p := fun a e z => by
    obtain ⟨o, q⟩ := g.box e
    rw [z, h] at q; cases q
  refine ⟨⟨fun a u e => e, fun a u e => .inl e, rfl, fun a u e _ => by rw [upd_ne (ne_of_none e h)]; exact e⟩, ⟨fun a u e => by rw [upd_ne (ne_of_none (g.fz a u e) h)]; exact g.fz a u e, fun x e => ?_, g.nb⟩⟩
  exact x.loc H _ (fun a ha => upd_ne (nb a ⟨x, e, ha⟩)) (g.bx x e)
/-- an object of one's own changes -/
theorem good_mut {S : Sta} {H : Hp} (g : Good S H) {p : Addr} {o : HO} (hf : S.F p = none) (hb : ¬ InB S.bx p) : Good S (upd H p o) := by
  refine ⟨fun a u e => ?_, fun x e => ?_, g.nb⟩
  · have : a ≠ p := fun z => by rw [z, hf] at e; cases e
    rw [upd_ne this]; exact g.fz a u e
  · exact x.loc H _ (fun a ha => upd_ne fun z => hb ⟨x, e, by rw [← z]; exact ha⟩) (g.bx x e)
/-- what was one's own is frozen -/
theorem good_frz {S : Sta} {H : Hp} (g : Good S H) {p : Addr} {o : HO} (h : H p = some o) (hb : ¬ InB S.bx p) : Good ⟨S.bx, upd S.F p o⟩ H := by
  refine ⟨fun a u e => ?_, g.bx, fun a e => ?_⟩
  · by_cases z : a = p
    · subst z
      have e' : upd S.F a o a = some u := e
      rw [upd_same] at e'; cases e'; exact h
    · have e' : upd S.F p o a = some u := e
      rw [upd_ne z] at e'
      exact g.fz a u e'
  · have : a ≠ p := fun z => hb (by rw [← z]; exact e)
    show upd S.F p o a = none
    rw [upd_ne this]; exact g.nb a e

/-! ### slots -/
/-- a slot: not told; a value; a list of one's own that may still change -/
inductive Sl where
  | no | v (d : D) | own (ds : List D)
def SlOk (Z : Hp) (S : Sta) (H : Hp) (s : Option (Option V)) : Sl → Prop
  | .no => True
  | .v d => ∃ x, s = some (some x) ∧ Rp S.bx S.F x d
  | .own ds => ∃ a vs, s = some (some (.ref a)) ∧ H a = some (.lst vs) ∧ S.F a = none ∧ ¬ InB S.bx a ∧ Z a = none ∧ RpL S.bx S.F vs ds
abbrev Env' := List Sl
structure Rel (Z : Hp) (S : Sta) (H : Hp) (σ : L2.St) (env : Env') : Prop where
  len : σ.length = env.length
  at_ : ∀ (i : Nat) (s : Sl), env[i]? = some s → SlOk Z S H (σ[i]?) s
  sep : ∀ (i j : Nat) (xs ys : List D) (a : Addr), i ≠ j → env[i]? = some (.own xs) → env[j]? = some (.own ys) → σ[i]? = some (some (.ref a)) → σ[j]? ≠ some (some (.ref a))
theorem Rel.step {Z : Hp} {S S' : Sta} {H H' : Hp} {σ : L2.St} {env : Env'} (r : Rel Z S H σ env) (p : Stp S H S' H') : Rel Z S' H' σ env where
  len := r.len
  at_ := fun i s e => by
    have q := r.at_ i s e
    cases s with
    | no => trivial
    | v d => obtain ⟨x, h1, h2⟩ := q; exact ⟨x, h1, h2.le p.le⟩
    | own ds =>
      obtain ⟨a, vs, h1, h2, h3, h4, h5, h6⟩ := q
      refine ⟨a, vs, h1, p.keep a _ h2 h4, ?_, ?_, h5, h6.le p.le⟩
      · exact none_of_keep fun o e => by
          rcases p.new a o e with z | z
          · rw [h3] at z; cases z
          · rw [h2] at z; cases z
      · intro z
        rcases p.inB z with z | z
        · exact h4 z
        · rw [h2] at z; cases z
  sep := r.sep
/-- a slot gets a value -/
theorem Rel.put {Z : Hp} {S : Sta} {H : Hp} {σ : L2.St} {env : Env'} (r : Rel Z S H σ env) {i : Nat} {x : V} {d : D} (h : Rp S.bx S.F x d) : Rel Z S H (σ.set i (some x)) (env.set i (.v d)) where
  len := by rw [List.length_set, List.length_set]; exact r.len
  at_ := fun j s e => by
    by_cases hj : j = i
    · subst hj
      have hl : j < env.length := by
        have := (List.getElem?_eq_some_iff.mp e).1
        rwa [List.length_set] at this
      rw [List.getElem?_set_self hl] at e
      cases e
      exact ⟨x, by rw [List.getElem?_set_self (by rw [r.len]; exact hl)], h⟩
    · rw [List.getElem?_set_ne (Ne.symm hj)] at e ⊢
      exact r.at_ j s e
  sep := fun j k xs ys a hjk e1 e2 h1 => by
    have n1 : j ≠ i := fun z => by
      subst z
      by_cases hl : j < env.length
      · rw [List.getElem?_set_self hl] at e1; cases e1
      · rw [List.getElem?_eq_none_iff.mpr (by rw [List.length_set]; omega)] at e1; cases e1
    have n2 : k ≠ i := fun z => by
      subst z
      by_cases hl : k < env.length
      · rw [List.getElem?_set_self hl] at e2; cases e2
      · rw [List.getElem?_eq_none_iff.mpr (by rw [List.length_set]; omega)] at e2; cases e2
    rw [List.getElem?_set_ne (Ne.symm n1)] at e1 h1
    rw [List.getElem?_set_ne (Ne.symm n2)] at e2 ⊢
    exact r.sep j k xs ys a hjk e1 e2 h1
/-- a slot is forgotten -/
theorem Rel.drop_ {Z : Hp} {S : Sta} {H : Hp} {σ : L2.St} {env : Env'} (r : Rel Z S H σ env) (i : Nat) (z : Option V) : Rel Z S H (σ.set i z) (env.set i .no) where
  len := by rw [List.length_set, List.length_set]; exact r.len
  at_ := fun j s e => by
    by_cases hj : j = i
    · subst hj
      have hl : j < env.length := by
        have := (List.getElem?_eq_some_iff.mp e).1
        rwa [List.length_set] at this
      rw [List.getElem?_set_self hl] at e
      cases e
      trivial
    · rw [List.getElem?_set_ne (Ne.symm hj)] at e ⊢
      exact r.at_ j s e
  sep := fun j k xs ys a hjk e1 e2 h1 => by
    have n1 : j ≠ i := fun z => by
      subst z
      by_cases hl : j < env.length
      · rw [List.getElem?_set_self hl] at e1; cases e1
      · rw [List.getElem?_eq_none_iff.mpr (by rw [List.length_set]; omega)] at e1; cases e1
    have n2 : k ≠ i := fun z => by
      subst z
      by_cases hl : k < env.length
      · rw [List.getElem?_set_self hl] at e2; cases e2
      · rw [List.getElem?_eq_none_iff.mpr (by rw [List.length_set]; omega)] at e2; cases e2
    rw [List.getElem?_set_ne (Ne.symm n1)] at e1 h1
    rw [List.getElem?_set_ne (Ne.symm n2)] at e2 ⊢
    exact r.sep j k xs ys a hjk e1 e2 h1
/-- a slot gets a new list of one's own -/
theorem Rel.putOwn {Z : Hp} {S : Sta} {H : Hp} {σ : L2.St} {env : Env'} (r : Rel Z S H σ env) {i : Nat} {p : Addr} {vs : List V} {ds : List D} (h0 : Z p = none) (h1 : H p = some (.lst vs)) (h2 : S.F p = none) (h3 : ¬ InB S.bx p)
    (hn : ∀ (j : Nat) (ys : List D), env[j]? = some (Sl.own ys) → σ[j]? ≠ some (some (V.ref p))) (h : RpL S.bx S.F vs ds) : Rel Z S H (σ.set i (some (.ref p))) (env.set i (.own ds)) where
  len := by rw [List.length_set, List.length_set]; exact r.len
  at_ := fun j s e => by
    by_cases hj : j = i
    · subst hj
      have hl : j < env.length := by
        have := (List.getElem?_eq_some_iff.mp e).1
        rwa [List.length_set] at this
      rw [List.getElem?_set_self hl] at e
      cases e
      exact ⟨p, vs, by rw [List.getElem?_set_self (by rw [r.len]; exact hl)], h1, h2, h3, h0, h⟩
    · rw [List.getElem?_set_ne (Ne.symm hj)] at e ⊢
      exact r.at_ j s e
  sep := fun j k xs ys a hjk e1 e2 q => by
    by_cases hj : j = i
    · subst hj
      have hk : k ≠ j := Ne.symm hjk
      rw [List.getElem?_set_ne (Ne.symm hk)] at e2 ⊢
      have hl : j < σ.length := by
        have := (List.getElem?_eq_some_iff.mp q).1
        rwa [List.length_set] at this
      rw [List.getElem?_set_self hl] at q
      cases q
      exact hn k ys e2
    · rw [List.getElem?_set_ne (Ne.symm hj)] at e1 q
      by_cases hk : k = i
      · subst hk
        intro z
        have hl : k < σ.length := by
          have := (List.getElem?_eq_some_iff.mp z).1
          rwa [List.length_set] at this
        rw [List.getElem?_set_self hl] at z
        cases z
        exact hn j xs e1 q
      · rw [List.getElem?_set_ne (Ne.symm hk)] at e2 ⊢
        exact r.sep j k xs ys a hjk e1 e2 q
/-- a list of one's own changes -/
theorem Rel.mut {Z : Hp} {S : Sta} {H : Hp} {σ : L2.St} {env : Env'} (r : Rel Z S H σ env) {i : Nat} {a : Addr} {vs : List V} {ds es : List D} (he : env[i]? = some (.own es)) (hs : σ[i]? = some (some (.ref a))) (h : RpL S.bx S.F vs ds) :
    Rel Z S (upd H a (.lst vs)) σ (env.set i (.own ds)) where
  len := by rw [List.length_set]; exact r.len
  at_ := fun j s e => by
    by_cases hj : j = i
    · subst hj
      have hl := (List.getElem?_eq_some_iff.mp he).1
      rw [List.getElem?_set_self hl] at e
      cases e
      obtain ⟨a', ws, q1, q2, q3, q4, q5, q6⟩ := r.at_ j _ he
      rw [hs] at q1; cases q1
      exact ⟨a, vs, hs, upd_same, q3, q4, q5, h⟩
    · rw [List.getElem?_set_ne (Ne.symm hj)] at e
      have q := r.at_ j s e
      cases s with
      | no => trivial
      | v d => exact q
      | own us =>
        obtain ⟨b, ws, q1, q2, q3, q4, q5, q6⟩ := q
        have : b ≠ a := fun z => r.sep j i _ _ b hj e he q1 (by rw [z]; exact hs)
        exact ⟨b, ws, q1, by rw [upd_ne this]; exact q2, q3, q4, q5, q6⟩
  sep := fun j k xs ys b hjk e1 e2 q => by
    have own_of : ∀ (m : Nat) (zs : List D), (env.set i (Sl.own ds))[m]? = some (Sl.own zs) → ∃ us, env[m]? = some (Sl.own us) := fun m zs e => by
      by_cases hm : m = i
      · subst hm; exact ⟨_, he⟩
      · rw [List.getElem?_set_ne (Ne.symm hm)] at e; exact ⟨_, e⟩
    obtain ⟨us, e1⟩ := own_of j xs e1
    obtain ⟨ws, e2⟩ := own_of k ys e2
    exact r.sep j k us ws b hjk e1 e2 q
/-- a list of one's own is frozen -/
theorem Rel.frz {Z : Hp} {S : Sta} {H : Hp} {σ : L2.St} {env : Env'} (r : Rel Z S H σ env) (g : Good S H) {i : Nat} {es : List D} (he : env[i]? = some (.own es)) :
    ∃ a vs, σ[i]? = some (some (.ref a)) ∧ H a = some (.lst vs) ∧ Z a = none ∧ Good ⟨S.bx, upd S.F a (.lst vs)⟩ H ∧ Le S.bx S.F S.bx (upd S.F a (.lst vs)) ∧ S.F a = none ∧
      Rel Z ⟨S.bx, upd S.F a (.lst vs)⟩ H σ (env.set i (.v (.ls es))) := by
  obtain ⟨a, vs, q1, q2, q3, q4, q5, q6⟩ := r.at_ i _ he
  have le : Le S.bx S.F S.bx (upd S.F a (.lst vs)) := ⟨fun b o e => by
    have : b ≠ a := fun z => by rw [z, q3] at e; cases e
    rw [upd_ne this]; exact e, fun x e => e⟩
  refine ⟨a, vs, q1, q2, q5, good_frz g q2 q4, le, q3, ?_⟩
  refine ⟨by rw [List.length_set]; exact r.len, fun j s e => ?_, fun j k xs ys b hjk e1 e2 q => ?_⟩
  · by_cases hj : j = i
    · subst hj
      rw [List.getElem?_set_self (List.getElem?_eq_some_iff.mp he).1] at e
      cases e
      exact ⟨_, q1, .ls (by show upd S.F a (.lst vs) a = _; exact upd_same) (q6.le le)⟩
    · rw [List.getElem?_set_ne (Ne.symm hj)] at e
      have q := r.at_ j s e
      cases s with
      | no => trivial
      | v d => obtain ⟨x, h1, h2⟩ := q; exact ⟨x, h1, h2.le le⟩
      | own us =>
        obtain ⟨b, ws, p1, p2, p3, p4, p5, p6⟩ := q
        have : b ≠ a := fun z => r.sep j i _ _ b hj e he p1 (by rw [z]; exact q1)
        exact ⟨b, ws, p1, p2, by show upd S.F a (.lst vs) b = none; rw [upd_ne this]; exact p3, p4, p5, p6.le le⟩
  · have n1 : j ≠ i := fun z => by
      subst z
      rw [List.getElem?_set_self (List.getElem?_eq_some_iff.mp he).1] at e1; cases e1
    have n2 : k ≠ i := fun z => by
      subst z
      rw [List.getElem?_set_self (List.getElem?_eq_some_iff.mp he).1] at e2; cases e2
    rw [List.getElem?_set_ne (Ne.symm n1)] at e1
    rw [List.getElem?_set_ne (Ne.symm n2)] at e2
    exact r.sep j k xs ys b hjk e1 e2 q
end Dl

set_option Elab.async false
set_option linter.all false
set_option maxRecDepth 100000
set_option maxHeartbeats 4000000
/-! Dl2: expressions over data. -/
namespace Dl
open PySem PySem.Spec PyProof.Rows L2

/-- an error: its class's name, its fields -/
structure Exn where
  cls : Str
  fs : List (Str × D)
abbrev DK := D → Prop
abbrev EK := Exn → Prop
def XRep (mg : Str → Option Value) (S : Sta) (H : Hp) (C : Value) (dx : Option Addr) (x : Exn) : Prop :=
  mg x.cls = some C ∧ ((x.fs = [] ∧ dx = none) ∨ ∃ d fs, dx = some d ∧ H d = some (.xd fs) ∧ Paired (fun (p : Str × V) (q : Str × D) => p.1 = q.1 ∧ Rp S.bx S.F p.2 q.2) fs x.fs)
def XLink (mg : Str → Option Value) (S : Sta) (H : Hp) (Ed : EK) (E : XK) : Prop :=
  ∀ C dx H' S' x, Stp S H S' H' → Good S' H' → XRep mg S' H' C dx x → Ed x → E C dx H'
theorem XLink.step {mg : Str → Option Value} {S S' : Sta} {H H' : Hp} {Ed : EK} {E : XK} (l : XLink mg S H Ed E) (p : Stp S H S' H') (g : Good S' H') : XLink mg S' H' Ed E :=
  fun C dx H2 S2 x q g2 r h => l C dx H2 S2 x (p.trans g q) g2 r h
def Cont (S : Sta) (H : Hp) (Qd : DK) (Q : VK) : Prop := ∀ v H' S' x, Stp S H S' H' → Good S' H' → Rp S'.bx S'.F v x → Qd x → Q v H'
theorem Cont.step {S S' : Sta} {H H' : Hp} {Qd : DK} {Q : VK} (c : Cont S H Qd Q) (p : Stp S H S' H') (g : Good S' H') : Cont S' H' Qd Q :=
  fun v H2 S2 x q g2 r h => c v H2 S2 x (p.trans g q) g2 r h
theorem Cont.now {S : Sta} {H : Hp} {Qd : DK} {Q : VK} (c : Cont S H Qd Q) (g : Good S H) {v : V} {x : D} (r : Rp S.bx S.F v x) (h : Qd x) : Q v H := c v H S x (.refl S H) g r h
/-- a new tuple -/
theorem Cont.tup {S : Sta} {H : Hp} {Qd : DK} {Q : VK} (c : Cont S H Qd Q) (g : Good S H) {vs : List V} {ds : List D} (r : RpL S.bx S.F vs ds) (h : Qd (.tp ds)) : ∀ p, H p = none → Q (.ref p) (upd H p (.tup vs)) := fun p hp => by
  obtain ⟨s, g'⟩ := step_new g (o := .tup vs) hp
  exact c _ _ _ _ s g' (.tp (by show upd S.F p (.tup vs) p = _; exact upd_same) (r.le s.le)) h
theorem Cont.lst {S : Sta} {H : Hp} {Qd : DK} {Q : VK} (c : Cont S H Qd Q) (g : Good S H) {vs : List V} {ds : List D} (r : RpL S.bx S.F vs ds) (h : Qd (.ls ds)) : ∀ p, H p = none → Q (.ref p) (upd H p (.lst vs)) := fun p hp => by
  obtain ⟨s, g'⟩ := step_new g (o := .lst vs) hp
  exact c _ _ _ _ s g' (.ls (by show upd S.F p (.lst vs) p = _; exact upd_same) (r.le s.le)) h

abbrev DT_ := Env' → DK → EK → Prop
abbrev DB_ := Env' → (Bool → Prop) → EK → Prop
abbrev DA_ := Env' → (List D → Prop) → EK → Prop
structure DE (X : Cx) (E : XK) (e : Expr) (d : DT_) : Prop where
  run : ∃ t, PE X e t ∧ ∀ Z S H σ env Q Qd Ed, Good S H → Rel Z S H σ env → XLink X.mg S H Ed E → d env Qd Ed → Cont S H Qd Q → t σ H Q
def ContB (S : Sta) (H : Hp) (Qd : Bool → Prop) (Q : Bool → Hp → Prop) : Prop := ∀ b H' S', Stp S H S' H' → Good S' H' → Qd b → Q b H'
structure DB (X : Cx) (E : XK) (e : Expr) (d : DB_) : Prop where
  run : ∃ t, PT X e t ∧ ∀ Z S H σ env Q Qd Ed, Good S H → Rel Z S H σ env → XLink X.mg S H Ed E → d env Qd Ed → ContB S H Qd Q → t σ H Q
structure DW (X : Cx) (E : XK) (e : Expr) (d : DB_) : Prop where
  run : ∃ t, PW X e t ∧ ∀ Z S H σ env Q Qd Ed, Good S H → Rel Z S H σ env → XLink X.mg S H Ed E → d env Qd Ed → ContB S H Qd Q → t σ H Q
def ContL (S : Sta) (H : Hp) (Qd : List D → Prop) (Q : List V → Hp → Prop) : Prop := ∀ vs H' S' xs, Stp S H S' H' → Good S' H' → RpL S'.bx S'.F vs xs → Qd xs → Q vs H'
structure DA (X : Cx) (E : XK) (es : List Expr) (d : DA_) : Prop where
  run : ∃ t, PA X es t ∧ ∀ Z S H σ env Q Qd Ed, Good S H → Rel Z S H σ env → XLink X.mg S H Ed E → d env Qd Ed → ContL S H Qd Q → t σ H Q

section
variable {X : Cx} {E : XK} {pos : Pos} {a b c : Expr} {da db dc : DT_}
/-! ### names, constants -/
def dVar (i : Nat) : DT_ := fun env Q _ => match env[i]? with | some (.v d) => Q d | _ => False
theorem de_var (i : Nat) {x : Str} (hN : X.N[i]? = some x := by rfl) (hv : Vis X.env.scope x := by first | exact Or.inl rfl | exact Or.inr (Or.inl rfl) | exact Or.inr (Or.inr rfl)) (hd : (x == ("__debug__" : Str)) = false := by decide)
    (hcd : (x == ("__classdict__" : Str)) = false := by decide) : DE X E (.Name x pos) (dVar i) := by
  refine ⟨_, pe_var hN hv hd hcd, fun Z S H σ env Q Qd Ed g r _ h k => ?_⟩
  unfold dVar at h
  split at h
  · next d e =>
    obtain ⟨x, h1, h2⟩ := r.at_ i _ e
    exact ⟨x, h1, k.now g h2 h⟩
  · exact h.elim
def dC (d : D) : DT_ := fun _ Q _ => Q d
theorem de_int {i j} : DE X E (.Constant (.int i) j pos) (dC (.it i)) := ⟨_, pe_int, fun _ _ _ _ _ _ _ _ g _ _ h k => k.now g (.it i) h⟩
theorem de_bl {i j} : DE X E (.Constant (.bool i) j pos) (dC (.bl i)) := ⟨_, pe_bl, fun _ _ _ _ _ _ _ _ g _ _ h k => k.now g (.bl i) h⟩
theorem de_non {j} : DE X E (.Constant .none j pos) (dC .non) := ⟨_, pe_non, fun _ _ _ _ _ _ _ _ g _ _ h k => k.now g .non h⟩
theorem de_str {s j} : DE X E (.Constant (.str s) j pos) (dC (.st s)) := ⟨_, pe_str, fun _ _ _ _ _ _ _ _ g _ _ h k => k.now g (.st s) h⟩
theorem de_globI {x : Str} {i : Int} {u : Value} (hg : Gl X x) (hm : X.mg x = some u) (r : RelV (.int i) u) (hd : (x == ("__debug__" : Str)) = false := by decide) : DE X E (.Name x pos) (dC (.it i)) :=
  ⟨_, pe_glob hg hm r hd, fun _ _ _ _ _ _ _ _ g _ _ h k => k.now g (.it i) h⟩
theorem de_globS {x : Str} {i : Str} {u : Value} (hg : Gl X x) (hm : X.mg x = some u) (r : RelV (.str i) u) (hd : (x == ("__debug__" : Str)) = false := by decide) : DE X E (.Name x pos) (dC (.st i)) :=
  ⟨_, pe_glob hg hm r hd, fun _ _ _ _ _ _ _ _ g _ _ h k => k.now g (.st i) h⟩

/-! ### two-place operators -/
def OpD (S : Sta) (r : R2) (o : D → D → DK → Prop) : Prop := ∀ H x y dx dy Q Qd, Good S H → Rp S.bx S.F x dx → Rp S.bx S.F y dy → o dx dy Qd → Cont S H Qd Q → r x y H Q
def dOp (o : D → D → DK → Prop) (da db : DT_) : DT_ := fun env Q E => da env (fun x => db env (fun y => o x y Q) E) E
theorem de_bin {op : Operator} {r : R2} {o : D → D → DK → Prop} (ho : OpR X (binaryOp op) r) (od : ∀ S, OpD S r o) (ha : DE X E a da) (hb : DE X E b db) : DE X E (.BinOp a op b pos) (dOp o da db) := by
  obtain ⟨ta, pa, ra⟩ := ha.run
  obtain ⟨tb, pb, rb⟩ := hb.run
  refine ⟨_, pe_op ho pa pb, fun Z S H σ env Q Qd Ed g r l h k => ?_⟩
  refine ra Z S H σ env _ _ Ed g r l h fun x H1 S1 dx s1 g1 r1 h1 => ?_
  refine rb Z S1 H1 σ env _ _ Ed g1 (r.step s1) (l.step s1 g1) h1 fun y H2 S2 dy s2 g2 r2 h2 => ?_
  exact od S2 H2 x y dx dy Q Qd g2 (r1.le s2.le) r2 h2 ((k.step s1 g1).step s2 g2)
theorem de_cmp {op : CmpOp} {r : R2} {o : D → D → DK → Prop} (ho : OpR X (compareOp op) r) (od : ∀ S, OpD S r o) (ha : DE X E a da) (hb : DE X E b db) (hm : behindInMarks op b = false := by first | exact nobehind _ (by decide) (by decide) | rfl) :
    DE X E (.Compare a [op] [b] pos) (dOp o da db) := by
  obtain ⟨ta, pa, ra⟩ := ha.run
  obtain ⟨tb, pb, rb⟩ := hb.run
  refine ⟨_, pe_cmpR ho pa pb hm, fun Z S H σ env Q Qd Ed g r l h k => ?_⟩
  refine ra Z S H σ env _ _ Ed g r l h fun x H1 S1 dx s1 g1 r1 h1 => ?_
  refine rb Z S1 H1 σ env _ _ Ed g1 (r.step s1) (l.step s1 g1) h1 fun y H2 S2 dy s2 g2 r2 h2 => ?_
  exact od S2 H2 x y dx dy Q Qd g2 (r1.le s2.le) r2 h2 ((k.step s1 g1).step s2 g2)
/-- a test whose value is a bool -/
def dTst (d : DT_) : DB_ := fun env Q E => d env (fun x => match x with | .bl b => Q b | _ => False) E
theorem db_cmp {op : CmpOp} {r : R2} {o : D → D → DK → Prop} (ho : OpR X (compareOp op) r) (od : ∀ S, OpD S r o) (ha : DE X E a da) (hb : DE X E b db) (hm : behindInMarks op b = false := by first | exact nobehind _ (by decide) (by decide) | rfl) :
    DB X E (.Compare a [op] [b] pos) (dTst (dOp o da db)) := by
  obtain ⟨ta, pa, ra⟩ := ha.run
  obtain ⟨tb, pb, rb⟩ := hb.run
  refine ⟨_, pt_cmpR ho pa pb hm, fun Z S H σ env Q Qd Ed g r l h k => ?_⟩
  refine ra Z S H σ env _ _ Ed g r l h fun x H1 S1 dx s1 g1 r1 h1 => ?_
  refine rb Z S1 H1 σ env _ _ Ed g1 (r.step s1) (l.step s1 g1) h1 fun y H2 S2 dy s2 g2 r2 h2 => ?_
  refine od S2 H2 x y dx dy _ _ g2 (r1.le s2.le) r2 h2 fun v H3 S3 z s3 g3 r3 h3 => ?_
  split at h3
  · cases r3
    exact ⟨_, rfl, k _ _ _ ((s1.trans g1 s2).trans g2 s3) g3 h3⟩
  · exact h3.elim
theorem db_val {e : Expr} {d : DT_} (he : DE X E e d) (hs : ∀ whole, isTrue e X.env whole = (do let v ← whole; standAt e.pos; holding [v] (truthy v)) := by intro _; rfl) : DB X E e (dTst d) := by
  obtain ⟨t, p, q⟩ := he.run
  refine ⟨_, pt_val p hs, fun Z S H σ env Q Qd Ed g r l h k => ?_⟩
  refine q Z S H σ env _ _ Ed g r l h fun v H3 S3 z s3 g3 r3 h3 => ?_
  split at h3
  · cases r3
    exact ⟨_, rfl, k _ _ _ s3 g3 h3⟩
  · exact h3.elim
/-! ### and, or, not, if -/
variable {ta tb : DB_} {rest : List Expr}
def dAnd (t u : DB_) : DB_ := fun env Q E => t env (fun c => match c with | true => u env Q E | false => Q false) E
def dOr (t u : DB_) : DB_ := fun env Q E => t env (fun c => match c with | true => Q true | false => u env Q E) E
def dNot (t : DB_) : DB_ := fun env Q E => t env (fun c => Q (!c)) E
theorem dw_and1 (ha : DB X E a ta) : DW X E (.BoolOp .And [a] pos) ta := let ⟨t, p, q⟩ := ha.run; ⟨t, pw_and1 p, q⟩
theorem dw_or1 (ha : DB X E a ta) : DW X E (.BoolOp .Or [a] pos) ta := let ⟨t, p, q⟩ := ha.run; ⟨t, pw_or1 p, q⟩
theorem dw_and (ha : DB X E a ta) (hb : DW X E (.BoolOp .And (b :: rest) pos) tb) : DW X E (.BoolOp .And (a :: b :: rest) pos) (dAnd ta tb) := by
  obtain ⟨t, p, q⟩ := ha.run
  obtain ⟨t', p', q'⟩ := hb.run
  refine ⟨_, pw_and p p', fun Z S H σ env Q Qd Ed g r l h k => ?_⟩
  refine q Z S H σ env _ _ Ed g r l h fun c H1 S1 s1 g1 h1 => ?_
  cases c with
  | true => exact q' Z S1 H1 σ env _ _ Ed g1 (r.step s1) (l.step s1 g1) h1 fun d H2 S2 s2 g2 h2 => k d H2 S2 (s1.trans g1 s2) g2 h2
  | false => exact k false H1 S1 s1 g1 h1
theorem dw_or (ha : DB X E a ta) (hb : DW X E (.BoolOp .Or (b :: rest) pos) tb) : DW X E (.BoolOp .Or (a :: b :: rest) pos) (dOr ta tb) := by
  obtain ⟨t, p, q⟩ := ha.run
  obtain ⟨t', p', q'⟩ := hb.run
  refine ⟨_, pw_or p p', fun Z S H σ env Q Qd Ed g r l h k => ?_⟩
  refine q Z S H σ env _ _ Ed g r l h fun c H1 S1 s1 g1 h1 => ?_
  cases c with
  | false => exact q' Z S1 H1 σ env _ _ Ed g1 (r.step s1) (l.step s1 g1) h1 fun d H2 S2 s2 g2 h2 => k d H2 S2 (s1.trans g1 s2) g2 h2
  | true => exact k true H1 S1 s1 g1 h1
theorem DW.toDB {e : Expr} (h : DW X E e ta) : DB X E e ta := let ⟨t, p, q⟩ := h.run; ⟨t, p.pt, q⟩
theorem db_not (ha : DB X E a ta) : DB X E (.UnaryOp .Not a pos) (dNot ta) := by
  obtain ⟨t, p, q⟩ := ha.run
  exact ⟨_, pt_not p, fun Z S H σ env Q Qd Ed g r l h k => q Z S H σ env _ _ Ed g r l h fun c H1 S1 s1 g1 h1 => k _ H1 S1 s1 g1 h1⟩
/-- .. as values (bools) -/
def dAndV (da db : DT_) : DT_ := fun env Q E => da env (fun x => match x with | .bl true => db env Q E | .bl false => Q (.bl false) | _ => False) E
def dOrV (da db : DT_) : DT_ := fun env Q E => da env (fun x => match x with | .bl false => db env Q E | .bl true => Q (.bl true) | _ => False) E
def dNotV (da : DT_) : DT_ := fun env Q E => da env (fun x => match x with | .bl b => Q (.bl (!b)) | _ => False) E
theorem de_one {op} {d : DT_} (h : DE X E a d) : DE X E (.BoolOp op [a] pos) d := let ⟨t, p, q⟩ := h.run; ⟨t, pe_one p, q⟩
theorem de_and (ha : DE X E a da) (hb : DE X E (.BoolOp .And (b :: rest) pos) db) : DE X E (.BoolOp .And (a :: b :: rest) pos) (dAndV da db) := by
  obtain ⟨t, p, q⟩ := ha.run
  obtain ⟨t', p', q'⟩ := hb.run
  refine ⟨_, pe_and p p', fun Z S H σ env Q Qd Ed g r l h k => ?_⟩
  refine q Z S H σ env _ _ Ed g r l h fun v H1 S1 x s1 g1 r1 h1 => ?_
  split at h1
  · cases r1
    refine ⟨true, rfl, ?_⟩
    rw [if_pos rfl]
    exact q' Z S1 H1 σ env _ _ Ed g1 (r.step s1) (l.step s1 g1) h1 (k.step s1 g1)
  · cases r1
    refine ⟨false, rfl, ?_⟩
    rw [if_neg Bool.false_ne_true]
    exact k _ H1 S1 _ s1 g1 (.bl false) h1
  · exact h1.elim
theorem de_or (ha : DE X E a da) (hb : DE X E (.BoolOp .Or (b :: rest) pos) db) : DE X E (.BoolOp .Or (a :: b :: rest) pos) (dOrV da db) := by
  obtain ⟨t, p, q⟩ := ha.run
  obtain ⟨t', p', q'⟩ := hb.run
  refine ⟨_, pe_or p p', fun Z S H σ env Q Qd Ed g r l h k => ?_⟩
  refine q Z S H σ env _ _ Ed g r l h fun v H1 S1 x s1 g1 r1 h1 => ?_
  split at h1
  · cases r1
    refine ⟨false, rfl, ?_⟩
    rw [if_neg Bool.false_ne_true]
    exact q' Z S1 H1 σ env _ _ Ed g1 (r.step s1) (l.step s1 g1) h1 (k.step s1 g1)
  · cases r1
    refine ⟨true, rfl, ?_⟩
    rw [if_pos rfl]
    exact k _ H1 S1 _ s1 g1 (.bl true) h1
  · exact h1.elim
theorem de_not (ha : DE X E a da) : DE X E (.UnaryOp .Not a pos) (dNotV da) := by
  obtain ⟨t, p, q⟩ := ha.run
  refine ⟨_, pe_not p, fun Z S H σ env Q Qd Ed g r l h k => ?_⟩
  refine q Z S H σ env _ _ Ed g r l h fun v H1 S1 x s1 g1 r1 h1 => ?_
  split at h1
  · cases r1
    exact ⟨_, rfl, k _ H1 S1 _ s1 g1 (.bl _) h1⟩
  · exact h1.elim
def dIf (t : DB_) (da db : DT_) : DT_ := fun env Q E => t env (fun c => match c with | true => da env Q E | false => db env Q E) E
theorem de_ifExp {c : Expr} (hc : DB X E c ta) (ha : DE X E a da) (hb : DE X E b db) : DE X E (.IfExp c a b pos) (dIf ta da db) := by
  obtain ⟨t, p, q⟩ := hc.run
  obtain ⟨t1, p1, q1⟩ := ha.run
  obtain ⟨t2, p2, q2⟩ := hb.run
  refine ⟨_, pe_ifExp p p1 p2, fun Z S H σ env Q Qd Ed g r l h k => ?_⟩
  refine q Z S H σ env _ _ Ed g r l h fun c H1 S1 s1 g1 h1 => ?_
  cases c with
  | true =>
    show if true = true then t1 σ H1 Q else t2 σ H1 Q
    rw [if_pos rfl]
    exact q1 Z S1 H1 σ env _ _ Ed g1 (r.step s1) (l.step s1 g1) h1 (k.step s1 g1)
  | false =>
    show if false = true then t1 σ H1 Q else t2 σ H1 Q
    rw [if_neg Bool.false_ne_true]
    exact q2 Z S1 H1 σ env _ _ Ed g1 (r.step s1) (l.step s1 g1) h1 (k.step s1 g1)

/-! ### argument lists, displays -/
def dNil : DA_ := fun _ Q _ => Q []
def dCons (d : DT_) (u : DA_) : DA_ := fun env Q E => d env (fun x => u env (fun xs => Q (x :: xs)) E) E
theorem da_nil : DA X E [] dNil := ⟨_, pa_nil, fun _ S H _ _ _ _ _ g _ _ h k => k [] H S [] (.refl S H) g .nil h⟩
theorem da_cons {es : List Expr} {u : DA_} (ha : DE X E a da) (hr : DA X E es u) (hs : starEach (a :: es) X.env = (false, eval a X.env) :: starEach es X.env := by rfl) : DA X E (a :: es) (dCons da u) := by
  obtain ⟨t, p, q⟩ := ha.run
  obtain ⟨t', p', q'⟩ := hr.run
  refine ⟨_, pa_cons p p' hs, fun Z S H σ env Q Qd Ed g r l h k => ?_⟩
  refine q Z S H σ env _ _ Ed g r l h fun v H1 S1 x s1 g1 r1 h1 => ?_
  refine q' Z S1 H1 σ env _ _ Ed g1 (r.step s1) (l.step s1 g1) h1 fun vs H2 S2 xs s2 g2 r2 h2 => ?_
  exact k _ H2 S2 _ (s1.trans g1 s2) g2 (.cons (r1.le s2.le) r2) h2
def dStar (d : DT_) (u : DA_) : DA_ := fun env Q E => d env (fun x => match x with | .tp ys => u env (fun xs => Q (ys ++ xs)) E | .ls ys => u env (fun xs => Q (ys ++ xs)) E | _ => False) E
theorem da_star {es : List Expr} {u : DA_} {p : Pos} (ha : DE X E a da) (hr : DA X E es u) (hs : starEach (.Starred a p :: es) X.env = (true, eval a X.env) :: starEach es X.env := by rfl) : DA X E (.Starred a p :: es) (dStar da u) := by
  obtain ⟨t, p, q⟩ := ha.run
  obtain ⟨t', p', q'⟩ := hr.run
  refine ⟨_, StX.pa_star p p' hs, fun Z S H σ env Q Qd Ed g r l h k => ?_⟩
  refine q Z S H σ env _ _ Ed g r l h fun v H1 S1 x s1 g1 r1 h1 => ?_
  split at h1
  · next ys =>
    cases r1 with
    | tp e rr =>
      refine ⟨_, _, rfl, .inl (SqT.of (g1.fz _ _ e)), ?_⟩
      refine q' Z S1 H1 σ env _ _ Ed g1 (r.step s1) (l.step s1 g1) h1 fun vs H2 S2 xs s2 g2 r2 h2 => ?_
      exact k _ H2 S2 _ (s1.trans g1 s2) g2 ((rr.le s2.le).app r2) h2
  · next ys =>
    cases r1 with
    | ls e rr =>
      refine ⟨_, _, rfl, .inr (SqL.of (g1.fz _ _ e)), ?_⟩
      refine q' Z S1 H1 σ env _ _ Ed g1 (r.step s1) (l.step s1 g1) h1 fun vs H2 S2 xs s2 g2 r2 h2 => ?_
      exact k _ H2 S2 _ (s1.trans g1 s2) g2 ((rr.le s2.le).app r2) h2
  · exact h1.elim
abbrev szOk (n : Nat) : Prop := n ≤ sizeLine
def dTup (u : DA_) : DT_ := fun env Q E => u env (fun xs => szOk xs.length ∧ Q (.tp xs)) E
def dLst (u : DA_) : DT_ := fun env Q E => u env (fun xs => szOk xs.length ∧ Q (.ls xs)) E
theorem de_tup {es : List Expr} {u : DA_} {x1} (h : DA X E es u) : DE X E (.Tuple es x1 pos) (dTup u) := by
  obtain ⟨t, p, q⟩ := h.run
  refine ⟨_, pe_tup p, fun Z S H σ env Q Qd Ed g r l h k => ?_⟩
  refine q Z S H σ env _ _ Ed g r l h fun vs H1 S1 xs s1 g1 r1 h1 => ?_
  exact ⟨by rw [r1.length]; exact h1.1, (k.step s1 g1).tup g1 r1 h1.2⟩
theorem de_lst {es : List Expr} {u : DA_} (h : DA X E es u) : DE X E (.List es pos) (dLst u) := by
  obtain ⟨t, p, q⟩ := h.run
  refine ⟨_, pe_lst p, fun Z S H σ env Q Qd Ed g r l h k => ?_⟩
  refine q Z S H σ env _ _ Ed g r l h fun vs H1 S1 xs s1 g1 r1 h1 => ?_
  exact ⟨by rw [r1.length]; exact h1.1, (k.step s1 g1).lst g1 r1 h1.2⟩

/-! ### built-ins by values -/
def CallD (S : Sta) (r : List V → Hp → VK → Prop) (o : List D → DK → Prop) : Prop := ∀ H vs ds Q Qd, Good S H → RpL S.bx S.F vs ds → o ds Qd → Cont S H Qd Q → r vs H Q
def dCB (o : List D → DK → Prop) (u : DA_) : DT_ := fun env Q E => u env (fun xs => o xs Q) E
variable {x : Str} {p : Pos} {id T : String} {e : Expr} {es : List Expr} {u : DA_} {r : List V → Hp → VK → Prop} {o : List D → DK → Prop}
theorem de_callB (hc : CallR X (.builtin id) r) (od : ∀ S, CallD S r o) (hg : Gl X x) (hm : X.mg x = none) (hv : bootBuiltins x = some (.builtin id)) (ha : DA X E (e :: es) u) (hn : x ≠ "__name__" := by decide) (hdb : (x == ("__debug__" : Str)) = false := by decide)
    (he : starEach (e :: es) X.env = (false, eval e X.env) :: starEach es X.env := by rfl) (hpl : (backTo pos (starEach es X.env)).any (·.1) = false := by rfl) : DE X E (.Call (.Name x p) (e :: es) [] pos) (dCB o u) := by
  obtain ⟨t, p, q⟩ := ha.run
  refine ⟨_, pe_callB hc hg hm hv p hn hdb he hpl, fun Z S H σ env Q Qd Ed g r l h k => ?_⟩
  refine q Z S H σ env _ _ Ed g r l h fun vs H1 S1 xs s1 g1 r1 h1 => ?_
  exact od S1 H1 vs xs Q Qd g1 r1 h1 (k.step s1 g1)
theorem de_callTy (hc : CallR X (.type T) r) (od : ∀ S, CallD S r o) (hg : Gl X x) (hm : X.mg x = none) (hv : bootBuiltins x = some (.type T)) (ha : DA X E (e :: es) u) (hn : x ≠ "__name__" := by decide) (hdb : (x == ("__debug__" : Str)) = false := by decide)
    (he : starEach (e :: es) X.env = (false, eval e X.env) :: starEach es X.env := by rfl) (hpl : (backTo pos (starEach es X.env)).any (·.1) = false := by rfl) : DE X E (.Call (.Name x p) (e :: es) [] pos) (dCB o u) := by
  obtain ⟨t, p, q⟩ := ha.run
  refine ⟨_, pe_callTy hc hg hm hv p hn hdb he hpl, fun Z S H σ env Q Qd Ed g r l h k => ?_⟩
  refine q Z S H σ env _ _ Ed g r l h fun vs H1 S1 xs s1 g1 r1 h1 => ?_
  exact od S1 H1 vs xs Q Qd g1 r1 h1 (k.step s1 g1)
end
end Dl

set_option Elab.async false
set_option linter.all false
set_option maxRecDepth 100000
set_option maxHeartbeats 4000000
/-! Dl3: operators, built-ins, subscripts over data. -/
namespace Dl
open PySem PySem.Spec PyProof.Rows L2

/-! ### operators -/
def oAdd (x y : D) (Q : DK) : Prop := match x, y with
  | .it i, .it j => Q (.it (i + j))
  | .st i, .st j => szOk (i.length + j.length) ∧ Q (.st (i ++ j))
  | .tp i, .tp j => szOk (i.length + j.length) ∧ Q (.tp (i ++ j))
  | .ls i, .ls j => szOk (i.length + j.length) ∧ Q (.ls (i ++ j))
  | _, _ => False
def rAddA (K : PySem.W.Frag) : R2 := fun x y H Q => rI0 (fun i j => .int (i + j)) x y H Q ∨ (∃ i j, x = .str i ∧ y = .str j ∧ i.length + j.length ≤ sizeLine ∧ Q (.str (i ++ j)) H) ∨ rCatA K x y H Q ∨ rCat x y H Q
theorem or_addA {X : Cx} : OpR X (binaryOp .Add) (rAddA X.K) := op_add.or (op_add_str.or (op_catA.or op_cat))
theorem od_add {K : PySem.W.Frag} (S : Sta) : OpD S (rAddA K) oAdd := by
  intro H x y dx dy Q Qd g rx ry h k
  unfold oAdd at h
  split at h
  · cases rx; cases ry
    exact .inl ⟨_, _, rfl, rfl, k.now g (.it _) h⟩
  · cases rx; cases ry
    exact .inr (.inl ⟨_, _, rfl, rfl, h.1, k.now g (.st _) h.2⟩)
  · next ds es =>
    cases rx with
    | tp e1 r1 =>
      cases ry with
      | tp e2 r2 =>
        refine .inr (.inr (.inl ⟨_, _, _, _, rfl, rfl, SqT.of (g.fz _ _ e1), SqT.of (g.fz _ _ e2), by rw [r1.length, r2.length]; exact h.1, fun z => ?_, fun _ z => ?_, fun _ _ => k.tup g (r1.app r2) h.2⟩))
        · subst z
          cases r1
          exact k.now g (.tp e2 r2) h.2
        · subst z
          cases r2
          exact k.now g (.tp e1 r1) (by have := h.2; rwa [List.append_nil] at this)
  · next ds es =>
    cases rx with
    | ls e1 r1 =>
      cases ry with
      | ls e2 r2 =>
        exact .inr (.inr (.inr ⟨_, _, _, _, rfl, rfl, g.fz _ _ e1, g.fz _ _ e2, by rw [r1.length, r2.length]; exact h.1, k.lst g (r1.app r2) h.2⟩))
  · exact h.elim
/-- two ints, under C -/
def oI (C : Int → Int → Prop) (f : Int → Int → D) (x y : D) (Q : DK) : Prop := match x, y with | .it i, .it j => C i j ∧ Q (f i j) | _, _ => False
def oI0 (f : Int → Int → D) (x y : D) (Q : DK) : Prop := match x, y with | .it i, .it j => Q (f i j) | _, _ => False
theorem od_I {C : Int → Int → Prop} {f : Int → Int → Int} (S : Sta) : OpD S (rI C fun i j => .int (f i j)) (oI C fun i j => .it (f i j)) := by
  intro H x y dx dy Q Qd g rx ry h k
  unfold oI at h
  split at h
  · cases rx; cases ry
    exact ⟨_, _, rfl, rfl, h.1, k.now g (.it _) h.2⟩
  · exact h.elim
theorem od_I0 {f : Int → Int → Int} (S : Sta) : OpD S (rI0 fun i j => .int (f i j)) (oI0 fun i j => .it (f i j)) := by
  intro H x y dx dy Q Qd g rx ry h k
  unfold oI0 at h
  split at h
  · cases rx; cases ry
    exact ⟨_, _, rfl, rfl, k.now g (.it _) h⟩
  · exact h.elim
theorem od_B0 {f : Int → Int → Bool} (S : Sta) : OpD S (rI0 fun i j => .bl (f i j)) (oI0 fun i j => .bl (f i j)) := by
  intro H x y dx dy Q Qd g rx ry h k
  unfold oI0 at h
  split at h
  · cases rx; cases ry
    exact ⟨_, _, rfl, rfl, k.now g (.bl _) h⟩
  · exact h.elim
abbrev oSub := oI0 fun i j => .it (i - j)
abbrev oFdiv := oI CDivW fun i j => .it (i / j)
abbrev oMod := oI (fun _ j => 0 < j) fun i j => .it (i % j)
abbrev oPow := oI CPow fun i j => .it (i ^ j.toNat)
abbrev oLt := oI0 fun i j => .bl (decide (i < j))
abbrev oLe := oI0 fun i j => .bl (decide (i ≤ j))
abbrev oGt := oI0 fun i j => .bl (decide (j < i))
abbrev oGe := oI0 fun i j => .bl (decide (j ≤ i))
/-- *: ints (one of them small), a tuple or a list so many times -/
def oMul (x y : D) (Q : DK) : Prop := match x, y with
  | .it i, .it j => CMul i j ∧ Q (.it (i * j))
  | .tp i, .it j => i ≠ [] ∧ 2 ≤ j ∧ j ≤ 1000 ∧ i.length ≤ 1000 ∧ Q (.tp (List.replicate j.toNat i).flatten)
  | .ls i, .it j => -(2 ^ 63) ≤ j ∧ j < 2 ^ 63 ∧ szOk (i.length * j.toNat) ∧ Q (.ls (List.replicate j.toNat i).flatten)
  | _, _ => False
def rMulA (K : PySem.W.Frag) : R2 := fun x y H Q => rI CMul (fun i j => .int (i * j)) x y H Q ∨ rRepT K x y H Q ∨ rRep x y H Q
theorem or_mulA {X : Cx} : OpR X (binaryOp .Mult) (rMulA X.K) := op_mul.or (op_repT.or op_rep)
theorem RpL.rep {t : Option Bx} {F : Hp} {vs : List V} {ds : List D} (r : RpL t F vs ds) : ∀ n : Nat, RpL t F (List.replicate n vs).flatten (List.replicate n ds).flatten
  | 0 => .nil
  | n + 1 => by
    rw [List.replicate_succ, List.replicate_succ, List.flatten_cons, List.flatten_cons]
    exact r.app (RpL.rep r n)
theorem od_mul {K : PySem.W.Frag} (S : Sta) : OpD S (rMulA K) oMul := by
  intro H x y dx dy Q Qd g rx ry h k
  unfold oMul at h
  split at h
  · cases rx; cases ry
    exact .inl ⟨_, _, rfl, rfl, h.1, k.now g (.it _) h.2⟩
  · cases ry
    cases rx with
    | tp e1 r1 =>
      refine .inr (.inl ⟨_, _, _, rfl, rfl, SqT.of (g.fz _ _ e1), fun z => ?_, h.2.1, h.2.2.1, by rw [r1.length]; exact h.2.2.2.1, k.tup g (r1.rep _) h.2.2.2.2⟩)
      subst z
      cases r1
      exact h.1 rfl
  · cases ry
    cases rx with
    | ls e1 r1 => exact .inr (.inr ⟨_, _, _, rfl, rfl, g.fz _ _ e1, h.1, h.2.1, by rw [r1.length]; exact h.2.2.1, k.lst g (r1.rep _) h.2.2.2⟩)
  · exact h.elim
section
variable {X : Cx} {E : XK} {pos : Pos} {a b c : Expr} {da db dc : DT_}
theorem de_add (ha : DE X E a da) (hb : DE X E b db) : DE X E (.BinOp a .Add b pos) (dOp oAdd da db) := de_bin or_addA od_add ha hb
theorem de_sub (ha : DE X E a da) (hb : DE X E b db) : DE X E (.BinOp a .Sub b pos) (dOp oSub da db) := de_bin op_sub od_I0 ha hb
theorem de_mul (ha : DE X E a da) (hb : DE X E b db) : DE X E (.BinOp a .Mult b pos) (dOp oMul da db) := de_bin or_mulA od_mul ha hb
theorem de_fdiv (ha : DE X E a da) (hb : DE X E b db) : DE X E (.BinOp a .FloorDiv b pos) (dOp oFdiv da db) := de_bin op_fdivW od_I ha hb
theorem de_mod (ha : DE X E a da) (hb : DE X E b db) : DE X E (.BinOp a .Mod b pos) (dOp oMod da db) := de_bin op_mod od_I ha hb
theorem de_pow (ha : DE X E a da) (hb : DE X E b db) : DE X E (.BinOp a .Pow b pos) (dOp oPow da db) := de_bin op_pow od_I ha hb
theorem de_lt (ha : DE X E a da) (hb : DE X E b db) : DE X E (.Compare a [.Lt] [b] pos) (dOp oLt da db) := de_cmp op_lt od_B0 ha hb
theorem de_le (ha : DE X E a da) (hb : DE X E b db) : DE X E (.Compare a [.LtE] [b] pos) (dOp oLe da db) := de_cmp op_le od_B0 ha hb
theorem de_gt (ha : DE X E a da) (hb : DE X E b db) : DE X E (.Compare a [.Gt] [b] pos) (dOp oGt da db) := de_cmp op_gt od_B0 ha hb
theorem de_ge (ha : DE X E a da) (hb : DE X E b db) : DE X E (.Compare a [.GtE] [b] pos) (dOp oGe da db) := de_cmp op_ge od_B0 ha hb
theorem db_lt (ha : DE X E a da) (hb : DE X E b db) : DB X E (.Compare a [.Lt] [b] pos) (dTst (dOp oLt da db)) := db_cmp op_lt od_B0 ha hb
theorem db_le (ha : DE X E a da) (hb : DE X E b db) : DB X E (.Compare a [.LtE] [b] pos) (dTst (dOp oLe da db)) := db_cmp op_le od_B0 ha hb
theorem db_gt (ha : DE X E a da) (hb : DE X E b db) : DB X E (.Compare a [.Gt] [b] pos) (dTst (dOp oGt da db)) := db_cmp op_gt od_B0 ha hb
theorem db_ge (ha : DE X E a da) (hb : DE X E b db) : DB X E (.Compare a [.GtE] [b] pos) (dTst (dOp oGe da db)) := db_cmp op_ge od_B0 ha hb
/-- -n -/
def dNeg (da : DT_) : DT_ := fun env Q E => da env (fun x => match x with | .it i => Q (.it (-i)) | _ => False) E
theorem de_neg (ha : DE X E a da) : DE X E (.UnaryOp .USub a pos) (dNeg da) := by
  obtain ⟨t, p, q⟩ := ha.run
  refine ⟨_, pe_un un_neg p, fun Z S H σ env Q Qd Ed g r l h k => ?_⟩
  refine q Z S H σ env _ _ Ed g r l h fun v H1 S1 x s1 g1 r1 h1 => ?_
  split at h1
  · cases r1
    exact ⟨_, rfl, k _ H1 S1 _ s1 g1 (.it _) h1⟩
  · exact h1.elim
/-- a < b < c of ints -/
def dChain (o o' : D → D → DK → Prop) (da db dc : DT_) : DT_ := fun env Q E => da env (fun x => db env (fun y => o x y fun z => match z with | .bl true => dc env (fun w => o' y w Q) E | .bl false => Q (.bl false) | _ => False) E) E
theorem de_chain {op op' : CmpOp} {r r' : R2} {o o' : D → D → DK → Prop} (ho : OpR X (compareOp op) r) (od : ∀ S, OpD S r o) (ho' : OpR X (compareOp op') r') (od' : ∀ S, OpD S r' o') (ha : DE X E a da) (hb : DE X E b db) (hc : DE X E c dc)
    (hm : lastMarks [op, op'] [b, c] = false := by with_unfolding_all rfl) : DE X E (.Compare a [op, op'] [b, c] pos) (dChain o o' da db dc) := by
  obtain ⟨ta, pa, ra⟩ := ha.run
  obtain ⟨tb, pb, rb⟩ := hb.run
  obtain ⟨tc, pc, rc⟩ := hc.run
  refine ⟨_, pe_chain ho ho' pa pb pc hm, fun Z S H σ env Q Qd Ed g r l h k => ?_⟩
  refine ra Z S H σ env _ _ Ed g r l h fun x H1 S1 dx s1 g1 r1 h1 => ?_
  refine rb Z S1 H1 σ env _ _ Ed g1 (r.step s1) (l.step s1 g1) h1 fun y H2 S2 dy s2 g2 r2 h2 => ?_
  refine od S2 H2 x y dx dy _ _ g2 (r1.le s2.le) r2 h2 fun v H3 S3 z s3 g3 r3 h3 => ?_
  have s13 := (s1.trans g1 s2).trans g2 s3
  split at h3
  · cases r3
    refine ⟨true, rfl, ?_⟩
    rw [if_pos rfl]
    refine rc Z S3 H3 σ env _ _ Ed g3 (r.step s13) (l.step s13 g3) h3 fun w H4 S4 dw s4 g4 r4 h4 => ?_
    exact od' S4 H4 y w dy dw Q Qd g4 ((r2.le s3.le).le s4.le) r4 h4 ((k.step s13 g3).step s4 g4)
  · cases r3
    refine ⟨false, rfl, ?_⟩
    rw [if_neg Bool.false_ne_true]
    exact k _ H3 S3 _ s13 g3 (.bl false) h3
  · exact h3.elim
theorem db_chain {op op' : CmpOp} {r r' : R2} {o o' : D → D → DK → Prop} (ho : OpR X (compareOp op) r) (od : ∀ S, OpD S r o) (ho' : OpR X (compareOp op') r') (od' : ∀ S, OpD S r' o') (ha : DE X E a da) (hb : DE X E b db) (hc : DE X E c dc)
    (hm : lastMarks [op, op'] [b, c] = false := by with_unfolding_all rfl) : DB X E (.Compare a [op, op'] [b, c] pos) (dTst (dChain o o' da db dc)) := by
  obtain ⟨ta, pa, ra⟩ := ha.run
  obtain ⟨tb, pb, rb⟩ := hb.run
  obtain ⟨tc, pc, rc⟩ := hc.run
  refine ⟨_, pt_chain ho ho' pa pb pc hm, fun Z S H σ env Q Qd Ed g r l h k => ?_⟩
  refine ra Z S H σ env _ _ Ed g r l h fun x H1 S1 dx s1 g1 r1 h1 => ?_
  refine rb Z S1 H1 σ env _ _ Ed g1 (r.step s1) (l.step s1 g1) h1 fun y H2 S2 dy s2 g2 r2 h2 => ?_
  refine od S2 H2 x y dx dy _ _ g2 (r1.le s2.le) r2 h2 fun v H3 S3 z s3 g3 r3 h3 => ?_
  have s13 := (s1.trans g1 s2).trans g2 s3
  split at h3
  · cases r3
    refine ⟨true, rfl, ?_⟩
    rw [if_pos rfl]
    refine rc Z S3 H3 σ env _ _ Ed g3 (r.step s13) (l.step s13 g3) h3 fun w H4 S4 dw s4 g4 r4 h4 => ?_
    refine od' S4 H4 y w dy dw _ _ g4 ((r2.le s3.le).le s4.le) r4 h4 fun v' H5 S5 z' s5 g5 r5 h5 => ?_
    split at h5
    · cases r5
      exact ⟨_, rfl, k _ _ _ ((s13.trans g3 s4).trans g4 s5) g5 h5⟩
    · exact h5.elim
  · cases r3
    refine ⟨false, rfl, ?_⟩
    rw [if_neg Bool.false_ne_true]
    exact ⟨false, rfl, k _ H3 S3 s13 g3 h3⟩
  · exact h3.elim

/-! ### is None -/
def isNon : D → Bool | .non => true | _ => false
theorem rp_non {t : Option Bx} {F : Hp} {v : V} {d : D} (r : Rp t F v d) : decide (v = .non) = isNon d := by
  cases r <;> rfl
def dIsN (da : DT_) : DT_ := fun env Q E => da env (fun x => Q (.bl (isNon x))) E
def dNotN (da : DT_) : DT_ := fun env Q E => da env (fun x => Q (.bl (!isNon x))) E
theorem de_isN {j p} (ha : DE X E a da) : DE X E (.Compare a [.Is] [.Constant .none j p] pos) (dIsN da) := by
  obtain ⟨t, p, q⟩ := ha.run
  refine ⟨_, pe_cmp (pc_isN p) rfl, fun Z S H σ env Q Qd Ed g r l h k => ?_⟩
  refine q Z S H σ env _ _ Ed g r l h fun v H1 S1 x s1 g1 r1 h1 => ?_
  rw [rp_non r1]
  exact k _ H1 S1 _ s1 g1 (.bl _) h1
theorem de_notN {j p} (ha : DE X E a da) : DE X E (.Compare a [.IsNot] [.Constant .none j p] pos) (dNotN da) := by
  obtain ⟨t, p, q⟩ := ha.run
  refine ⟨_, pe_cmp (pc_notN p) rfl, fun Z S H σ env Q Qd Ed g r l h k => ?_⟩
  refine q Z S H σ env _ _ Ed g r l h fun v H1 S1 x s1 g1 r1 h1 => ?_
  rw [rp_non r1]
  exact k _ H1 S1 _ s1 g1 (.bl _) h1
theorem db_isN {j p} (ha : DE X E a da) : DB X E (.Compare a [.Is] [.Constant .none j p] pos) (dTst (dIsN da)) := by
  obtain ⟨t, p, q⟩ := ha.run
  refine ⟨_, pt_cmp (pc_isN p) rfl, fun Z S H σ env Q Qd Ed g r l h k => ?_⟩
  refine q Z S H σ env _ _ Ed g r l h fun v H1 S1 x s1 g1 r1 h1 => ?_
  rw [rp_non r1]
  exact ⟨_, rfl, k _ H1 S1 s1 g1 h1⟩
theorem db_notN {j p} (ha : DE X E a da) : DB X E (.Compare a [.IsNot] [.Constant .none j p] pos) (dTst (dNotN da)) := by
  obtain ⟨t, p, q⟩ := ha.run
  refine ⟨_, pt_cmp (pc_notN p) rfl, fun Z S H σ env Q Qd Ed g r l h k => ?_⟩
  refine q Z S H σ env _ _ Ed g r l h fun v H1 S1 x s1 g1 r1 h1 => ?_
  rw [rp_non r1]
  exact ⟨_, rfl, k _ H1 S1 s1 g1 h1⟩

/-! ### isinstance of built-in classes -/
def tyD : D → String
  | .non => "NoneType" | .bl _ => "bool" | .it _ => "int" | .st _ => "str" | .tp _ => "tuple" | .ls _ => "list" | .dc _ => "dict" | .bx k _ => if k then "list" else "dict"
def isT (T : String) (d : D) : Bool := (kitB (tyD d) T).getD false
def KitAll (T : String) : Prop := ∀ d : D, ∃ b, kitB (tyD d) T = some b
theorem kit_all {T : String} (h : (["NoneType", "bool", "int", "str", "tuple", "list", "dict"].all fun a => (kitB a T).isSome) = true) : KitAll T := by
  intro d
  have h' : ∀ a ∈ ["NoneType", "bool", "int", "str", "tuple", "list", "dict"], (kitB a T).isSome = true := by simpa only [List.all_eq_true] using h
  exact Option.isSome_iff_exists.mp (h' _ (by cases d <;> simp only [tyD] <;> (try split) <;> simp))
theorem ty_of {K : PySem.W.Frag} {S : Sta} {H : Hp} (g : Good S H) {v : V} {d : D} (r : Rp S.bx S.F v d) : TyX K H v (.type (tyD d)) := by
  cases r with
  | non => exact .base .non
  | bl b => exact .base (.bl b)
  | it i => exact .base (.int i)
  | st s => exact .base (.str s)
  | tp e _ => exact .base (.tup (g.fz _ _ e))
  | ls e _ => exact .base (.lst (g.fz _ _ e))
  | dc e _ => exact .base (.dK (g.fz _ _ e))
  | @bx x P e _ =>
    have h1 := x.ty H (g.bx _ e)
    simp only [tyD]
    split at h1
    · next hk => obtain ⟨xs, h1⟩ := h1; rw [if_pos hk]; exact .base (.lst h1)
    · next hk => obtain ⟨xs, h1⟩ := h1; rw [if_neg hk]; exact .base (.dK h1)
def dIsi (T : String) (da : DT_) : DT_ := fun env Q E => da env (fun x => Q (.bl (isT T x))) E
theorem de_isi {T : String} {y : Str} {p p2 : Pos} (hg : Gl X "isinstance") (hm : X.mg "isinstance" = none) (hg2 : Gl X y) (hm2 : X.mg y = none) (hv2 : bootBuiltins y = some (.type T)) (hk : KitAll T) (ha : DE X E a da)
    (hn : y ≠ "__name__" := by decide) (hdb : (y == ("__debug__" : Str)) = false := by decide) (he : starEach [a, .Name y p2] X.env = (false, eval a X.env) :: starEach [.Name y p2] X.env := by rfl)
    (he2 : starEach [.Name y p2] X.env = (false, eval (.Name y p2) X.env) :: starEach [] X.env := by rfl) (hpl : (backTo pos (starEach [.Name y p2] X.env)).any (·.1) = false := by rfl) :
    DE X E (.Call (.Name "isinstance" p) [a, .Name y p2] [] pos) (dIsi T da) := by
  obtain ⟨t, pa, q⟩ := ha.run
  refine ⟨_, pe_callB call_isi hg hm (by decide +kernel) (pa_cons pa (pa_cons (pe_bltn (v := .ty T) hg2 hm2 hv2 rfl hn hdb) pa_nil he2) he) (by decide) (by decide) he hpl, fun Z S H σ env Q Qd Ed g r l h k => ?_⟩
  refine q Z S H σ env _ _ Ed g r l h fun v H1 S1 x s1 g1 r1 h1 => ?_
  obtain ⟨b, eb⟩ := hk x
  refine ⟨v, .ty T, _, _, b, rfl, .ty T, ty_of g1 r1, kit_ty eb, ?_⟩
  refine k _ H1 S1 _ s1 g1 (.bl b) ?_
  have : isT T x = b := by unfold isT; rw [eb]; rfl
  rw [← this]; exact h1
theorem kit_int : KitAll "int" := kit_all (by decide +kernel)
theorem kit_bool : KitAll "bool" := kit_all (by decide +kernel)
theorem kit_str : KitAll "str" := kit_all (by decide +kernel)
theorem kit_tuple : KitAll "tuple" := kit_all (by decide +kernel)
theorem kit_list : KitAll "list" := kit_all (by decide +kernel)
theorem kit_dict : KitAll "dict" := kit_all (by decide +kernel)
def isInt : D → Bool | .bl _ => true | .it _ => true | _ => false
def isBool : D → Bool | .bl _ => true | _ => false
def isStr : D → Bool | .st _ => true | _ => false
def isTup : D → Bool | .tp _ => true | _ => false
def isLst : D → Bool | .ls _ => true | .bx true _ => true | _ => false
theorem isT_int : ∀ d : D, isT "int" d = isInt d
  | .non => show (kitB "NoneType" "int").getD false = false from by decide +kernel
  | .bl _ => show (kitB "bool" "int").getD false = true from by decide +kernel
  | .it _ => show (kitB "int" "int").getD false = true from by decide +kernel
  | .st _ => show (kitB "str" "int").getD false = false from by decide +kernel
  | .tp _ => show (kitB "tuple" "int").getD false = false from by decide +kernel
  | .ls _ => show (kitB "list" "int").getD false = false from by decide +kernel
  | .dc _ => show (kitB "dict" "int").getD false = false from by decide +kernel
  | .bx false _ => show (kitB "dict" "int").getD false = false from by decide +kernel
  | .bx true _ => show (kitB "list" "int").getD false = false from by decide +kernel
theorem isT_bool : ∀ d : D, isT "bool" d = isBool d
  | .non => show (kitB "NoneType" "bool").getD false = false from by decide +kernel
  | .bl _ => show (kitB "bool" "bool").getD false = true from by decide +kernel
  | .it _ => show (kitB "int" "bool").getD false = false from by decide +kernel
  | .st _ => show (kitB "str" "bool").getD false = false from by decide +kernel
  | .tp _ => show (kitB "tuple" "bool").getD false = false from by decide +kernel
  | .ls _ => show (kitB "list" "bool").getD false = false from by decide +kernel
  | .dc _ => show (kitB "dict" "bool").getD false = false from by decide +kernel
  | .bx false _ => show (kitB "dict" "bool").getD false = false from by decide +kernel
  | .bx true _ => show (kitB "list" "bool").getD false = false from by decide +kernel
theorem isT_str : ∀ d : D, isT "str" d = isStr d
  | .non => show (kitB "NoneType" "str").getD false = false from by decide +kernel
  | .bl _ => show (kitB "bool" "str").getD false = false from by decide +kernel
  | .it _ => show (kitB "int" "str").getD false = false from by decide +kernel
  | .st _ => show (kitB "str" "str").getD false = true from by decide +kernel
  | .tp _ => show (kitB "tuple" "str").getD false = false from by decide +kernel
  | .ls _ => show (kitB "list" "str").getD false = false from by decide +kernel
  | .dc _ => show (kitB "dict" "str").getD false = false from by decide +kernel
  | .bx false _ => show (kitB "dict" "str").getD false = false from by decide +kernel
  | .bx true _ => show (kitB "list" "str").getD false = false from by decide +kernel
theorem isT_tuple : ∀ d : D, isT "tuple" d = isTup d
  | .non => show (kitB "NoneType" "tuple").getD false = false from by decide +kernel
  | .bl _ => show (kitB "bool" "tuple").getD false = false from by decide +kernel
  | .it _ => show (kitB "int" "tuple").getD false = false from by decide +kernel
  | .st _ => show (kitB "str" "tuple").getD false = false from by decide +kernel
  | .tp _ => show (kitB "tuple" "tuple").getD false = true from by decide +kernel
  | .ls _ => show (kitB "list" "tuple").getD false = false from by decide +kernel
  | .dc _ => show (kitB "dict" "tuple").getD false = false from by decide +kernel
  | .bx false _ => show (kitB "dict" "tuple").getD false = false from by decide +kernel
  | .bx true _ => show (kitB "list" "tuple").getD false = false from by decide +kernel
theorem isT_list : ∀ d : D, isT "list" d = isLst d
  | .non => show (kitB "NoneType" "list").getD false = false from by decide +kernel
  | .bl _ => show (kitB "bool" "list").getD false = false from by decide +kernel
  | .it _ => show (kitB "int" "list").getD false = false from by decide +kernel
  | .st _ => show (kitB "str" "list").getD false = false from by decide +kernel
  | .tp _ => show (kitB "tuple" "list").getD false = false from by decide +kernel
  | .ls _ => show (kitB "list" "list").getD false = true from by decide +kernel
  | .dc _ => show (kitB "dict" "list").getD false = false from by decide +kernel
  | .bx false _ => show (kitB "dict" "list").getD false = false from by decide +kernel
  | .bx true _ => show (kitB "list" "list").getD false = true from by decide +kernel

/-! ### len, subscripts, slices -/
def oLen (xs : List D) (Q : DK) : Prop := match xs with
  | [.tp ys] => Q (.it ys.length)
  | [.ls ys] => Q (.it ys.length)
  | [.st z] => szOk z.length ∧ Q (.it z.length)
  | _ => False
theorem cd_len (S : Sta) {K : PySem.W.Frag} : CallD S (fun xs H Q => ∃ x n, xs = [x] ∧ LenV K x H n ∧ Q (.int (n : Nat)) H) oLen := by
  intro H vs ds Q Qd g r h k
  unfold oLen at h
  split at h
  · next ys =>
    cases r with
    | cons r1 r2 =>
      cases r2
      cases r1 with
      | tp e rr => exact ⟨_, _, rfl, .inr ⟨_, SqT.of (g.fz _ _ e), rfl⟩, by rw [rr.length]; exact k.now g (.it _) h⟩
  · next ys =>
    cases r with
    | cons r1 r2 =>
      cases r2
      cases r1 with
      | ls e rr => exact ⟨_, _, rfl, .inl ⟨_, SqL.of (g.fz _ _ e), rfl⟩, by rw [rr.length]; exact k.now g (.it _) h⟩
  · next z =>
    cases r with
    | cons r1 r2 =>
      cases r2
      cases r1
      exact ⟨_, _, rfl, ⟨h.1, rfl⟩, k.now g (.it _) h.2⟩
  · exact h.elim
theorem de_len {u : DA_} {e : Expr} {p : Pos} (hg : Gl X "len") (hm : X.mg "len" = none) (ha : DA X E [e] u) (he : starEach [e] X.env = (false, eval e X.env) :: starEach [] X.env := by rfl) : DE X E (.Call (.Name "len" p) [e] [] pos) (dCB oLen u) :=
  de_callB call_len (fun S => cd_len S) hg hm PySem.boot_len ha (by decide) (by decide) he rfl
/-- xs[i] -/
def oIx (x y : D) (Q : DK) : Prop := match x, y with
  | .tp xs, .it i => match atI xs i with | some d => Q d | none => False
  | .ls xs, .it i => match atI xs i with | some d => Q d | none => False
  | .st z, .it i => szOk z.length ∧ match atI z.cps.toList i with | some c => Q (.st ⟨#[c]⟩) | none => False
  | _, _ => False
theorem atI_rp {t : Option Bx} {F : Hp} {vs : List V} {ds : List D} (r : RpL t F vs ds) {i : Int} {d : D} (h : atI ds i = some d) : ∃ v, atI vs i = some v ∧ Rp t F v d := by
  unfold atI at h ⊢
  rw [← r.length] at h
  cases e : ixN vs.length i with
  | none => rw [e] at h; cases h
  | some j =>
    rw [e] at h
    obtain ⟨v, h1, h2⟩ := r.getD (i := j) h
    exact ⟨v, h1, h2⟩
theorem od_ix {K : PySem.W.Frag} (S : Sta) : OpD S (rIx K) oIx := by
  intro H x y dx dy Q Qd g rx ry h k
  unfold oIx at h
  split at h
  · cases ry
    cases rx with
    | tp e r =>
      split at h
      · next d ed =>
        obtain ⟨v, h1, h2⟩ := atI_rp r ed
        exact .inr (.inl ⟨_, _, _, v, rfl, rfl, SqT.of (g.fz _ _ e), h1, k.now g h2 h⟩)
      · exact h.elim
  · cases ry
    cases rx with
    | ls e r =>
      split at h
      · next d ed =>
        obtain ⟨v, h1, h2⟩ := atI_rp r ed
        exact .inl ⟨_, _, _, v, rfl, rfl, SqL.of (g.fz _ _ e), h1, k.now g h2 h⟩
      · exact h.elim
  · cases ry; cases rx
    obtain ⟨hz, h⟩ := h
    split at h
    · next c ec => exact .inr (.inr ⟨_, _, c, rfl, rfl, hz, ec, k.now g (.st _) h⟩)
    · exact h.elim
  · exact h.elim
theorem de_ix (ha : DE X E a da) (hb : DE X E b db) (hs : PlainIx b := by exact fun _ _ => rfl) : DE X E (.Subscript a b pos) (dOp oIx da db) := by
  obtain ⟨ta, pa, ra⟩ := ha.run
  obtain ⟨tb, pb, rb⟩ := hb.run
  refine ⟨_, pe_ix ix_seq pa pb hs, fun Z S H σ env Q Qd Ed g r l h k => ?_⟩
  refine ra Z S H σ env _ _ Ed g r l h fun x H1 S1 dx s1 g1 r1 h1 => ?_
  refine rb Z S1 H1 σ env _ _ Ed g1 (r.step s1) (l.step s1 g1) h1 fun y H2 S2 dy s2 g2 r2 h2 => ?_
  exact od_ix S2 H2 x y dx dy Q Qd g2 (r1.le s2.le) r2 h2 ((k.step s1 g1).step s2 g2)
/-- xs[lo:hi] -/
def cutD (xs : List D) (lo hi : Option Int) : List D := (xs.drop (HT.sIx xs.length 0 lo)).take (HT.sIx xs.length xs.length hi - HT.sIx xs.length 0 lo)
theorem RpL.cut {t : Option Bx} {F : Hp} {vs : List V} {ds : List D} (r : RpL t F vs ds) (lo hi : Option Int) : RpL t F (cutV vs lo hi) (cutD ds lo hi) := by
  unfold cutV cutD
  rw [r.length]
  exact (r.drop _).take _
def oSl (x : D) (lo hi : Option Int) (Q : DK) : Prop := match x with
  | .tp xs => Q (.tp (cutD xs lo hi))
  | .ls xs => Q (.ls (cutD xs lo hi))
  | .st z => szOk z.length ∧ Q (.st (cutS z lo hi))
  | _ => False
abbrev DO_ := Env' → (Option Int → Prop) → EK → Prop
def ContO (S : Sta) (H : Hp) (Qd : Option Int → Prop) (Q : Option Int → Hp → Prop) : Prop := ∀ b H' S', Stp S H S' H' → Good S' H' → Qd b → Q b H'
structure DO (X : Cx) (E : XK) (e : Option Expr) (d : DO_) : Prop where
  run : ∃ t, PO X e t ∧ ∀ Z S H σ env Q Qd Ed, Good S H → Rel Z S H σ env → XLink X.mg S H Ed E → d env Qd Ed → ContO S H Qd Q → t σ H Q
def dNoPart : DO_ := fun _ Q _ => Q none
def dPart (da : DT_) : DO_ := fun env Q E => da env (fun x => match x with | .it i => Q (some i) | _ => False) E
theorem do_none : DO X E none dNoPart := ⟨_, po_none, fun _ S H _ _ _ _ _ g _ _ h k => k none H S (.refl S H) g h⟩
theorem do_some (ha : DE X E a da) : DO X E (some a) (dPart da) := by
  obtain ⟨t, p, q⟩ := ha.run
  refine ⟨_, po_some p, fun Z S H σ env Q Qd Ed g r l h k => ?_⟩
  refine q Z S H σ env _ _ Ed g r l h fun v H1 S1 x s1 g1 r1 h1 => ?_
  split at h1
  · cases r1
    exact ⟨_, rfl, k _ H1 S1 s1 g1 h1⟩
  · exact h1.elim
def dSl (da : DT_) (dl dh : DO_) : DT_ := fun env Q E => da env (fun x => dl env (fun lo => dh env (fun hi => oSl x lo hi Q) E) E) E
def rSlAny (K : PySem.W.Frag) : V → Option Int → Option Int → Hp → VK → Prop := fun x lo hi H Q => rSlA K x lo hi H Q ∨ rSlL K x lo hi H Q ∨ rSlS x lo hi H Q
theorem sl_any : SlR X (rSlAny X.K) := sl_tupA.or (sl_list.or sl_str)
theorem cut_whole {xs : List D} {lo hi : Option Int} (h : HT.sIx xs.length 0 lo = 0 ∧ HT.sIx xs.length xs.length hi = xs.length) : cutD xs lo hi = xs := by
  unfold cutD
  rw [h.1, h.2, List.drop_zero, Nat.sub_zero, List.take_length]
theorem de_slice {lo hi : Option Expr} {dl dh : DO_} {p2 : Pos} (ha : DE X E a da) (hl : DO X E lo dl) (hh : DO X E hi dh) : DE X E (.Subscript a (.Slice lo hi none p2) pos) (dSl da dl dh) := by
  obtain ⟨ta, pa, ra⟩ := ha.run
  obtain ⟨tl, pl, rl⟩ := hl.run
  obtain ⟨th, ph, rh⟩ := hh.run
  refine ⟨_, pe_slice sl_any pa pl ph, fun Z S H σ env Q Qd Ed g r l h k => ?_⟩
  refine ra Z S H σ env _ _ Ed g r l h fun x H1 S1 dx s1 g1 r1 h1 => ?_
  refine rl Z S1 H1 σ env _ _ Ed g1 (r.step s1) (l.step s1 g1) h1 fun o1 H2 S2 s2 g2 h2 => ?_
  have s12 := s1.trans g1 s2
  refine rh Z S2 H2 σ env _ _ Ed g2 (r.step s12) (l.step s12 g2) h2 fun o2 H3 S3 s3 g3 h3 => ?_
  have s13 := s12.trans g2 s3
  have k3 := k.step s13 g3
  have r3 := (r1.le s2.le).le s3.le
  unfold oSl at h3
  split at h3
  · next ds =>
    cases r3 with
    | tp e rr =>
      refine .inl ⟨_, _, rfl, SqT.of (g3.fz _ _ e), fun w => ?_, fun _ => k3.tup g3 (rr.cut o1 o2) h3⟩
      rw [rr.length] at w
      rw [cut_whole w] at h3
      exact k3.now g3 (.tp e rr) h3
  · next ds =>
    cases r3 with
    | ls e rr => exact .inr (.inl ⟨_, _, rfl, SqL.of (g3.fz _ _ e), k3.lst g3 (rr.cut o1 o2) h3⟩)
  · cases r3
    exact .inr (.inr ⟨_, rfl, h3.1, k3.now g3 (.st _) h3.2⟩)
  · exact h3.elim
/-- list(x), tuple(x) -/
def oList (xs : List D) (Q : DK) : Prop := match xs with | [.tp ys] => Q (.ls ys) | [.ls ys] => Q (.ls ys) | _ => False
def oTuple (xs : List D) (Q : DK) : Prop := match xs with | [.tp ys] => Q (.tp ys) | [.ls ys] => Q (.tp ys) | _ => False
theorem de_list {u : DA_} {e : Expr} {p : Pos} (hg : Gl X "list") (hm : X.mg "list" = none) (ha : DA X E [e] u) (he : starEach [e] X.env = (false, eval e X.env) :: starEach [] X.env := by rfl) : DE X E (.Call (.Name "list" p) [e] [] pos) (dCB oList u) := by
  refine de_callTy call_list_of (fun S => ?_) hg hm (by decide +kernel) ha (by decide) (by decide) he rfl
  intro H vs ds Q Qd g r h k
  unfold oList at h
  split at h
  · cases r with
    | cons r1 r2 =>
      cases r2
      cases r1 with
      | tp e rr => exact ⟨_, _, rfl, .inr (SqT.of (g.fz _ _ e)), k.lst g rr h⟩
  · cases r with
    | cons r1 r2 =>
      cases r2
      cases r1 with
      | ls e rr => exact ⟨_, _, rfl, .inl (SqL.of (g.fz _ _ e)), k.lst g rr h⟩
  · exact h.elim
theorem de_tuple {u : DA_} {e : Expr} {p : Pos} (hg : Gl X "tuple") (hm : X.mg "tuple" = none) (ha : DA X E [e] u) (he : starEach [e] X.env = (false, eval e X.env) :: starEach [] X.env := by rfl) : DE X E (.Call (.Name "tuple" p) [e] [] pos) (dCB oTuple u) := by
  refine de_callTy call_tuple_of (fun S => ?_) hg hm (by decide +kernel) ha (by decide) (by decide) he rfl
  intro H vs ds Q Qd g r h k
  unfold oTuple at h
  split at h
  · cases r with
    | cons r1 r2 =>
      cases r2
      cases r1 with
      | tp e rr => exact ⟨_, _, rfl, .inr ⟨SqT.of (g.fz _ _ e), k.now g (.tp e rr) h⟩⟩
  · cases r with
    | cons r1 r2 =>
      cases r2
      cases r1 with
      | ls e rr => exact ⟨_, _, rfl, .inl ⟨SqL.of (g.fz _ _ e), k.tup g rr h⟩⟩
  · exact h.elim
end
end Dl

set_option Elab.async false
set_option linter.all false
set_option maxRecDepth 100000
set_option maxHeartbeats 4000000
/-! Dl4: statements, loops, comprehensions over data. -/
namespace Dl
open PySem PySem.Spec PyProof.Rows L2

structure Base where
  S0 : Sta
  H0 : Hp
  F : Hp
  T : Option Bx
structure At (B : Base) (S : Sta) (H : Hp) : Prop where
  g : Good S H
  p : Stp B.S0 B.H0 S H
  f : Le B.T B.F S.bx S.F
theorem Le.trans {t1 t2 t3 : Option Bx} {F1 F2 F3 : Hp} (a : Le t1 F1 t2 F2) (b : Le t2 F2 t3 F3) : Le t1 F1 t3 F3 := ⟨fun x o e => b.f x o (a.f x o e), fun x e => b.t x (a.t x e)⟩
theorem Le.refl (t : Option Bx) (F : Hp) : Le t F t F := ⟨fun _ _ e => e, fun _ e => e⟩
theorem At.step {B : Base} {S S' : Sta} {H H' : Hp} (a : At B S H) (p : Stp S H S' H') (g : Good S' H') : At B S' H' := ⟨g, a.p.trans a.g p, a.f.trans p.le⟩
/-- the base with what is frozen by now -/
def Base.now (B : Base) (S : Sta) : Base := { B with F := S.F, T := S.bx }
theorem At.now {B : Base} {S : Sta} {H : Hp} (a : At B S H) : At (B.now S) S H := ⟨a.g, a.p, .refl _ _⟩
theorem At.was {B : Base} {S S' : Sta} {H H' : Hp} (a : At B S H) (b : At (B.now S) S' H') : At B S' H' := ⟨b.g, b.p, a.f.trans b.f⟩
structure DEnds where
  nx : Env' → Prop
  rt : DK
  ex : EK
  bk : Env' → Prop := fun _ => False
  ct : Env' → Prop := fun _ => False
structure Lnk (mg : Str → Option Value) (E : XK) (B : Base) (De : DEnds) (Dn : Ends) : Prop where
  nx : ∀ S σ env H, At B S H → Rel B.H0 S H σ env → De.nx env → Dn.nx σ H
  bk : ∀ S σ env H, At B S H → Rel B.H0 S H σ env → De.bk env → Dn.bk σ H
  ct : ∀ S σ env H, At B S H → Rel B.H0 S H σ env → De.ct env → Dn.ct σ H
  rt : ∀ S v d H, At B S H → Rp S.bx S.F v d → De.rt d → Dn.rt v H
  ex : XLink mg B.S0 B.H0 De.ex E
theorem Lnk.xl {mg : Str → Option Value} {E : XK} {B : Base} {De : DEnds} {Dn : Ends} (l : Lnk mg E B De Dn) {S : Sta} {H : Hp} (a : At B S H) : XLink mg S H De.ex E := l.ex.step a.p a.g
abbrev DS_ := DEnds → Env' → Prop
structure DS (X : Cx) (E : XK) (st : Stmt) (d : DS_) : Prop where
  run : ∃ t, PS X st t ∧ ∀ B De Dn, Lnk X.mg E B De Dn → ∀ S σ env H, At B S H → Rel B.H0 S H σ env → d De env → t Dn σ H
structure DSs (X : Cx) (E : XK) (st : List Stmt) (d : DS_) : Prop where
  run : ∃ t, PSs X st t ∧ ∀ B De Dn, Lnk X.mg E B De Dn → ∀ S σ env H, At B S H → Rel B.H0 S H σ env → d De env → t Dn σ H

section
variable {X : Cx} {E : XK} {pos : Pos} {st : Stmt} {rest : List Stmt} {d u : DS_} {e : Expr} {de : DT_}
def dNext : DS_ := fun D env => D.nx env
def dSeq (d u : DS_) : DS_ := fun D env => d { D with nx := u D } env
theorem ds_nil : DSs X E [] dNext := ⟨_, pss_nil, fun _ _ _ l S σ env H a r h => l.nx S σ env H a r h⟩
theorem ds_cons (h1 : DS X E st d) (h2 : DSs X E rest u) : DSs X E (st :: rest) (dSeq d u) := by
  obtain ⟨t, p, q⟩ := h1.run
  obtain ⟨t', p', q'⟩ := h2.run
  refine ⟨_, pss_cons p p', fun B De Dn l S σ env H a r h => ?_⟩
  exact q B { De with nx := u De } { Dn with nx := t' Dn } ⟨fun S σ env H a r h => q' B De Dn l S σ env H a r h, l.bk, l.ct, l.rt, l.ex⟩ S σ env H a r h
theorem ds_one (h1 : DS X E st d) : DSs X E [st] d := let ⟨t, p, q⟩ := h1.run; ⟨t, pss_one p, q⟩
theorem ds_pass : DS X E (.Pass pos) dNext := ⟨_, ps_pass, fun _ _ _ l S σ env H a r h => l.nx S σ env H a r h⟩
theorem ds_doc {x j p} : DS X E (.Expr (.Constant (.str x) j p) pos) dNext := ⟨_, ps_doc, fun _ _ _ l S σ env H a r h => l.nx S σ env H a r h⟩
def dBreak : DS_ := fun D env => D.bk env
def dContinue : DS_ := fun D env => D.ct env
theorem ds_break : DS X E (.Break pos) dBreak := ⟨_, ps_break, fun _ _ _ l S σ env H a r h => l.bk S σ env H a r h⟩
theorem ds_continue : DS X E (.Continue pos) dContinue := ⟨_, ps_continue, fun _ _ _ l S σ env H a r h => l.ct S σ env H a r h⟩
def dRet (de : DT_) : DS_ := fun D env => de env D.rt D.ex
theorem ds_ret (he : DE X E e de) : DS X E (.Return (some e) pos) (dRet de) := by
  obtain ⟨t, p, q⟩ := he.run
  refine ⟨_, ps_ret p, fun B De Dn l S σ env H a r h => ?_⟩
  exact q _ S H σ env _ _ _ a.g r (l.xl a) h fun v H1 S1 x s1 g1 r1 h1 => l.rt S1 v x H1 (a.step s1 g1) r1 h1
def dRetN : DS_ := fun D _ => D.rt .non
theorem ds_retN : DS X E (.Return none pos) dRetN := ⟨_, ps_retN, fun _ _ _ l S σ env H a r h => l.rt S _ _ H a .non h⟩
def dDrop (de : DT_) : DS_ := fun D env => de env (fun _ => D.nx env) D.ex
theorem ds_expr (he : DE X E e de) (hs : swapsWith e none pos.line X.env = pure false := by rfl) : DS X E (.Expr e pos) (dDrop de) := by
  obtain ⟨t, p, q⟩ := he.run
  refine ⟨_, ps_expr p hs, fun B De Dn l S σ env H a r h => ?_⟩
  exact q _ S H σ env _ _ _ a.g r (l.xl a) h fun v H1 S1 x s1 g1 r1 h1 => l.nx S1 σ env H1 (a.step s1 g1) (r.step s1) h1
def dIfS (t : DB_) (d u : DS_) : DS_ := fun D env => t env (fun b => match b with | true => d D env | false => u D env) D.ex
theorem ds_if {c : Expr} {ss rs : List Stmt} {t : DB_} (hc : DB X E c t) (hd : DSs X E ss d) (hu : DSs X E rs u) : DS X E (.If c ss rs pos) (dIfS t d u) := by
  obtain ⟨tc, p, q⟩ := hc.run
  obtain ⟨t1, p1, q1⟩ := hd.run
  obtain ⟨t2, p2, q2⟩ := hu.run
  refine ⟨_, ps_if p p1 p2, fun B De Dn l S σ env H a r h => ?_⟩
  refine q _ S H σ env _ _ _ a.g r (l.xl a) h fun b H1 S1 s1 g1 h1 => ?_
  cases b with
  | true => rw [if_pos rfl]; exact q1 B De Dn l S1 σ env H1 (a.step s1 g1) (r.step s1) h1
  | false => rw [if_neg Bool.false_ne_true]; exact q2 B De Dn l S1 σ env H1 (a.step s1 g1) (r.step s1) h1

/-! ### targets -/
abbrev DG_ := D → Env' → (Env' → Prop) → Prop
/-- vs: the slots that the target may store to -/
structure DG (X : Cx) (tg : Expr) (vs : List Nat) (d : DG_) : Prop where
  run : ∃ g, PG X tg g ∧ ∀ Z S H σ env x dx Q Qd, Rel Z S H σ env → Good S H → Rp S.bx S.F x dx → d dx env Qd → (∀ σ2 env2, Rel Z S H σ2 env2 → Qd env2 → (∀ ws : List Nat, (∀ i ∈ vs, i ∈ ws) → wipe σ2 ws = wipe σ ws) → Q σ2 H) → g x σ H Q
structure DGs (X : Cx) (tg : List Expr) (vs : List Nat) (d : List D → Env' → (Env' → Prop) → Prop) : Prop where
  run : ∃ g, PGs X tg g ∧ ∀ Z S H σ env xs ds Q Qd, Rel Z S H σ env → Good S H → RpL S.bx S.F xs ds → d ds env Qd → (∀ σ2 env2, Rel Z S H σ2 env2 → Qd env2 → (∀ ws : List Nat, (∀ i ∈ vs, i ∈ ws) → wipe σ2 ws = wipe σ ws) → Q σ2 H) → g xs σ H Q
theorem wipe_set {σ : L2.St} {i : Nat} {v : Option V} : ∀ {ws : List Nat}, i ∈ ws → wipe (σ.set i v) ws = wipe σ ws
  | j :: ws, h => by
    unfold wipe
    by_cases e : i ∈ ws
    · rw [wipe_set e]
    · have : i = j := by
        rcases List.mem_cons.mp h with h | h
        · exact h
        · exact absurd h e
      subst this
      have wc : ∀ (ws : List Nat) (τ : L2.St) (w : Option V), i ∉ ws → wipe (τ.set i w) ws = (wipe τ ws).set i w := by
        intro ws
        induction ws with
        | nil => intro τ w _; rfl
        | cons k r ih =>
          intro τ w hk
          unfold wipe
          rw [ih τ w (fun z => hk (List.mem_cons_of_mem _ z))]
          have : i ≠ k := fun z => hk (by rw [z]; exact List.mem_cons_self)
          rw [List.set_comm _ _ this]
      rw [wc ws σ v e, List.set_set]
def dgName (i : Nat) : DG_ := fun x env Q => Q (env.set i (.v x))
theorem dg_name (i : Nat) {x : Str} (hN : X.N.Nodup) (hi : X.N[i]? = some x := by rfl) (hx : Loc X.env.scope x := by first | exact Or.inl rfl | exact Or.inr rfl) (hf : X.fn x = true ∨ X.env.scope.names.lookup x = some .local := by first | exact .inl rfl | exact .inr rfl | assumption) :
    DG X (.Name x pos) [i] (dgName i) := by
  refine ⟨_, pg_name hN hi hx hf, fun Z S H σ env x dx Q Qd r g rx h k => ?_⟩
  exact k _ _ (r.put rx) h fun ws hw => wipe_set (hw i (by simp))
def dgNil : List D → Env' → (Env' → Prop) → Prop := fun xs env Q => match xs with | [] => Q env | _ => False
def dgCons (d : DG_) (u : List D → Env' → (Env' → Prop) → Prop) : List D → Env' → (Env' → Prop) → Prop := fun xs env Q => match xs with | x :: r => d x env (fun env1 => u r env1 Q) | [] => False
theorem dgs_nil : DGs X [] [] dgNil := by
  refine ⟨_, pgs_nil, fun Z S H σ env xs ds Q Qd r g rx h k => ?_⟩
  cases rx with
  | nil => exact ⟨rfl, k σ env r h fun _ _ => rfl⟩
  | cons => exact h.elim
theorem dgs_cons {tgs : List Expr} {vs ws : List Nat} {d : DG_} {u : List D → Env' → (Env' → Prop) → Prop} (h1 : DG X e vs d) (h2 : DGs X tgs ws u) (hs : (assignEach (e :: tgs) X.env).map (·.2) = assign e X.env :: (assignEach tgs X.env).map (·.2) := by rfl) :
    DGs X (e :: tgs) (vs ++ ws) (dgCons d u) := by
  obtain ⟨g1, p1, q1⟩ := h1.run
  obtain ⟨g2, p2, q2⟩ := h2.run
  refine ⟨_, pgs_cons p1 p2 hs, fun Z S H σ env xs ds Q Qd r g rx h k => ?_⟩
  cases rx with
  | nil => exact h.elim
  | cons rx rs =>
    refine ⟨_, _, rfl, q1 Z S H σ env _ _ _ _ r g rx h fun σ2 env2 r2 h2 w2 => ?_⟩
    refine q2 Z S H σ2 env2 _ _ _ _ r2 g rs h2 fun σ3 env3 r3 h3 w3 => ?_
    exact k σ3 env3 r3 h3 fun l hl => (w3 l fun i hi => hl i (List.mem_append_right _ hi)).trans (w2 l fun i hi => hl i (List.mem_append_left _ hi))
def dgTup (n : Nat) (u : List D → Env' → (Env' → Prop) → Prop) : DG_ := fun x env Q => match x with | .tp xs => xs.length = n ∧ u xs env Q | _ => False
theorem dg_tup {tgs : List Expr} {k : Nat} {vs : List Nat} {n : Nat} {u : List D → Env' → (Env' → Prop) → Prop} (hc : X.calm = true) (h : DGs X tgs vs u) (hn : (assignEach tgs X.env).length = n := by rfl) (hst : (assignEach tgs X.env).findIdx? (·.1) = none := by rfl) :
    DG X (.Tuple tgs k pos) vs (dgTup n u) := by
  obtain ⟨g, p, q⟩ := h.run
  refine ⟨_, pg_tup hc p hn hst, fun Z S H σ env x dx Q Qd r g rx h k => ?_⟩
  unfold dgTup at h
  split at h
  · cases rx with
    | tp e rr => exact ⟨_, _, rfl, SqT.of (g.fz _ _ e), by rw [rr.length]; exact h.1, q Z S H σ env _ _ _ _ r g rr h.2 k⟩
  · exact h.elim
def dgLst (n : Nat) (u : List D → Env' → (Env' → Prop) → Prop) : DG_ := fun x env Q => match x with | .ls xs => xs.length = n ∧ u xs env Q | _ => False
theorem dg_lst {tgs : List Expr} {k : Nat} {vs : List Nat} {n : Nat} {u : List D → Env' → (Env' → Prop) → Prop} (hc : X.calm = true) (h : DGs X tgs vs u) (hn : (assignEach tgs X.env).length = n := by rfl) (hst : (assignEach tgs X.env).findIdx? (·.1) = none := by rfl) :
    DG X (.Tuple tgs k pos) vs (dgLst n u) := by
  obtain ⟨g, p, q⟩ := h.run
  refine ⟨_, pg_lst hc p hn hst, fun Z S H σ env x dx Q Qd r g rx h k => ?_⟩
  unfold dgLst at h
  split at h
  · cases rx with
    | ls e rr => exact ⟨_, _, rfl, SqL.of (g.fz _ _ e), by rw [rr.length]; exact h.1, q Z S H σ env _ _ _ _ r g rr h.2 k⟩
  · exact h.elim
/-- target = value -/
def dAsg (de : DT_) (dg : DG_) : DS_ := fun D env => de env (fun x => dg x env D.nx) D.ex
theorem ds_asg {tg : Expr} {vs : List Nat} {dg : DG_} (he : DE X E e de) (hg : DG X tg vs dg) (hs : swapsWithSole [tg] e pos.line X.env = pure false := by rfl) (hw : swappedStores [tg] e X.env = pure none := by rfl)
    (h1 : (assignEach [tg] X.env).map (·.2) = [assign tg X.env] := by rfl) : DS X E (.Assign [tg] e pos) (dAsg de dg) := by
  obtain ⟨t, p, q⟩ := he.run
  obtain ⟨g, pg, qg⟩ := hg.run
  refine ⟨_, ps_asg p pg hs hw h1, fun B De Dn l S σ env H a r h => ?_⟩
  refine q _ S H σ env _ _ _ a.g r (l.xl a) h fun v H1 S1 x s1 g1 r1 h1 => ?_
  exact qg _ S1 H1 σ env v x _ _ (r.step s1) g1 r1 h1 fun σ2 env2 r2 h2 _ => l.nx S1 σ2 env2 H1 (a.step s1 g1) r2 h2
def dSet (i : Nat) (de : DT_) : DS_ := fun D env => de env (fun x => D.nx (env.set i (.v x))) D.ex
theorem ds_set (i : Nat) {x : Str} {p' : Pos} (he : DE X E e de) (hN : X.N.Nodup) (hi : X.N[i]? = some x := by rfl) (hx : Loc X.env.scope x := by first | exact Or.inl rfl | exact Or.inr rfl) (hs : swapsWith e (some (.Name x p')) pos.line X.env = pure false := by rfl)
    (hf : X.fn x = true ∨ X.env.scope.names.lookup x = some .local := by first | exact .inl rfl | exact .inr rfl | assumption) : DS X E (.Assign [.Name x p'] e pos) (dSet i de) := by
  obtain ⟨t, p, q⟩ := he.run
  refine ⟨_, ps_set hN hi hx p hs hf, fun B De Dn l S σ env H a r h => ?_⟩
  refine q _ S H σ env _ _ _ a.g r (l.xl a) h fun v H1 S1 x s1 g1 r1 h1 => ?_
  exact l.nx S1 _ _ H1 (a.step s1 g1) ((r.step s1).put r1) h1
/-- a, b = x, y -/
def dPar (i j : Nat) (da : DA_) : DS_ := fun D env => da env (fun xs => match xs with | [x, y] => D.nx ((env.set i (.v x)).set j (.v y)) | _ => False) D.ex
theorem ds_par {i j : Nat} {x y : Str} {a b : Expr} {da : DA_} {px py pt : Pos} {kt k2 pt2} (hc : X.calm = true) (hN : X.N.Nodup) (ha : DA X E [a, b] da)
    (hw : swappedStores [.Tuple [.Name x px, .Name y py] kt pt] (.Tuple [a, b] k2 pt2) X.env = pure (some [x, y])) (hi : X.N[i]? = some x := by rfl) (hj : X.N[j]? = some y := by rfl) (hij : i ≠ j := by decide)
    (hx : X.env.scope.names.lookup x = some .local := by rfl) (hy : X.env.scope.names.lookup y = some .local := by rfl)
    (hs : swapsWithSole [.Tuple [.Name x px, .Name y py] kt pt] (.Tuple [a, b] k2 pt2) pos.line X.env = pure false := by rfl) :
    DS X E (.Assign [.Tuple [.Name x px, .Name y py] kt pt] (.Tuple [a, b] k2 pt2) pos) (dPar i j da) := by
  obtain ⟨t, p, q⟩ := ha.run
  refine ⟨_, ps_par hc hN hi hj hij hx hy p hw hs, fun B De Dn l S σ env H a r h => ?_⟩
  refine q _ S H σ env _ _ _ a.g r (l.xl a) h fun vs H1 S1 xs s1 g1 r1 h1 => ?_
  split at h1
  · cases r1 with
    | cons r1 r2 =>
      cases r2 with
      | cons r2 r3 =>
        cases r3
        exact ⟨_, _, rfl, l.nx S1 _ _ H1 (a.step s1 g1) (((r.step s1).put r1).put r2) h1⟩
  · exact h1.elim
/-- name op= e, ints -/
def dAug (i : Nat) (f : Int → Int → Int) (de : DT_) : DS_ := fun D env => match env[i]? with | some (.v (.it n)) => de env (fun x => match x with | .it m => D.nx (env.set i (.v (.it (f n m)))) | _ => False) D.ex | _ => False
theorem ds_aug {i : Nat} {x : Str} {op : Operator} {f : Int → Int → Int} {p' : Pos} (ho : PIp X op (ipI f)) (he : DE X E e de) (hN : X.N.Nodup) (hi : X.N[i]? = some x := by rfl) (hx : Loc X.env.scope x := by first | exact Or.inl rfl | exact Or.inr rfl)
    (hf : X.fn x = true ∨ X.env.scope.names.lookup x = some .local := by first | exact .inl rfl | exact .inr rfl | assumption) : DS X E (.AugAssign (.Name x p') op e pos) (dAug i f de) := by
  obtain ⟨t, p, q⟩ := he.run
  refine ⟨_, ps_aug hN hi hx p ho hf, fun B De Dn l S σ env H a r h => ?_⟩
  unfold dAug at h
  split at h
  · next n en =>
    obtain ⟨v, hv, rv⟩ := r.at_ i _ en
    cases rv
    refine ⟨_, hv, q _ S H σ env _ _ _ a.g r (l.xl a) h fun v H1 S1 x s1 g1 r1 h1 => ?_⟩
    split at h1
    · cases r1
      exact ⟨_, _, rfl, rfl, l.nx S1 _ _ H1 (a.step s1 g1) ((r.step s1).put (.it _)) h1⟩
    · exact h1.elim
  · exact h.elim

/-! ### lists of one's own -/
/-- a new list -/
structure DN (X : Cx) (E : XK) (e : Expr) (d : Env' → (List D → Prop) → EK → Prop) : Prop where
  run : ∃ t, PE X e t ∧ ∀ Z S H σ env Q (Qd : List D → Prop) Ed, Good S H → Rel Z S H σ env → XLink X.mg S H Ed E → d env Qd Ed →
    (∀ p H' S' vs xs, Stp S H S' H' → Good S' H' → H p = none → H' p = some (.lst vs) → S'.F p = none → ¬ InB S'.bx p → RpL S'.bx S'.F vs xs → Qd xs → Q (.ref p) H') → t σ H Q
abbrev DN_ := Env' → (List D → Prop) → EK → Prop
def dFrz (d : DN_) : DT_ := fun env Q E => d env (fun xs => Q (.ls xs)) E
theorem DN.toDE {d : DN_} (h : DN X E e d) : DE X E e (dFrz d) := by
  obtain ⟨t, p, q⟩ := h.run
  refine ⟨_, p, fun Z S H σ env Q Qd Ed g r l h k => ?_⟩
  refine q Z S H σ env _ _ Ed g r l h fun p H' S' vs xs s' g' h0 h1 h2 h3 r' h' => ?_
  have le : Le S'.bx S'.F S'.bx (upd S'.F p (.lst vs)) := ⟨fun b o e => by
    have : b ≠ p := fun z => by rw [z, h2] at e; cases e
    rw [upd_ne this]; exact e, fun x e => e⟩
  refine k _ H' ⟨S'.bx, upd S'.F p (.lst vs)⟩ (.ls xs) ⟨fun a o e => le.f a o (s'.ext a o e), fun a o e => ?_, s'.box, s'.keep⟩ (good_frz g' h1 h3) (.ls (by show upd S'.F p (.lst vs) p = _; exact upd_same) (r'.le le)) h'
  by_cases z : a = p
  · rw [z]; exact .inr h0
  · have e' : upd S'.F p (.lst vs) a = some o := e
    rw [upd_ne z] at e'
    exact s'.new a o e'
end
end Dl

set_option Elab.async false
set_option linter.all false
set_option maxRecDepth 100000
set_option maxHeartbeats 4000000
/-! Dl5: what is walked: lists, tuples, ranges, enumerate, zip of two and three, texts. -/
namespace Dl
open PySem PySem.Spec PyProof.Rows L2

/-! ### enumerate of anything, one argument -/
set_option maxHeartbeats 8000000 in
theorem enumNew1 {v : Value} {ob : Obj} {Hq : Heap → Prop} (B : Begins v ob Hq) :
    Meets (Builtin.«enumerate.__new__» ⟨[.type "enumerate", v], []⟩) (fun _ R s0 => Hq s0.heap ∧ R (.ok (.ret (.ref (s0.heap.push ob).objs.size)))
      { s0 with heap := (s0.heap.push ob).push { cls := .type "enumerate", data := .fields #[.none, .bool false, .ref s0.heap.objs.size, rawInt 0, .none, .none] } }) :=
  .of_wp fun P W A0 R0 s0 h0 => by
    obtain ⟨hh, gg, dd, tt, oo⟩ := s0; obtain ⟨hb, hr⟩ := h0
    have subE := sub_enumerate
    have begin_ : ∀ {A1 : Around} {E1 : Value → Shared → Prop} {Q1 : Value → Shared → Prop}, Q1 (.ref hh.objs.size) ⟨hh.push ob, gg, dd, tt, oo⟩ → wpAny (model P W) A1 (pyIter v) Q1 E1 ⟨hh, gg, dd, tt, oo⟩ :=
      fun z => B.iter P W _ _ ⟨hh, gg, dd, tt, oo⟩ _ hb z
    wp_walk using begin_
    refine wpAny_stack_any fun fr => wpAny_pure ?_
    split
    · rename_i cc _ _ _ _ _
      cases (cc == Value.type "enumerate") <;> (wp_walk using begin_; exact ⟨_, rfl, hr⟩)
    · wp_walk using begin_; exact ⟨_, rfl, hr⟩
section
variable {prog : Program} {w : World} {A : Around} {E : Value → Shared → Prop} {s : Shared}
theorem callEnum1 {v : Value} {ob : Obj} {Hq : Heap → Prop} {Q : Value → Shared → Prop} (B : Begins v ob Hq) (hb : Hq s.heap)
    (k : ∀ h', IsEnum h' (s.heap.objs.size + 1) s.heap.objs.size 0 .none → h'.get? s.heap.objs.size = some ob → (∀ b o, s.heap.get? b = some o → h'.get? b = some o) → Q (.ref (s.heap.objs.size + 1)) { s with heap := h' }) :
    wpAny (model prog w) A (call (.type "enumerate") [v]) Q E s := by
  refine callType_new F.called_enumerate (by decide) (F.typeCall_enumerate_1 _) (F.newCall_enumerate_1 _) (fun z => F.args_object_init_2 z _) F.entry_enumerate_new (enumNew1 B) ⟨hb, ?_⟩
  have sz : (s.heap.push ob).objs.size = s.heap.objs.size + 1 := Heap.size_push ..
  show _ ∧ _
  rw [sz]
  have isE : IsEnum ((s.heap.push ob).push { cls := .type "enumerate", data := .fields #[.none, .bool false, .ref s.heap.objs.size, rawInt 0, .none, .none] }) (s.heap.objs.size + 1) s.heap.objs.size 0 .none := by
    have q := Heap.get?_push_size (s.heap.push ob) (o := { cls := .type "enumerate", data := .fields #[.none, .bool false, .ref s.heap.objs.size, rawInt 0, .none, .none] }) rfl
    rw [sz] at q; exact q
  exact ⟨⟨_, isE, rfl⟩, k _ isE (Heap.get?_push_of_some _ (Heap.get?_push_size _ B.free)) fun b o z => Heap.get?_push_of_some _ (Heap.get?_push_of_some _ z)⟩
end

/-! ### an iterator of new tuples, from the library's -/
/-- src: what is asked of the heap that is walked; its: the items of the tuple at each turn -/
def Itg (src : Hp → Prop) (n : Nat) (its : Nat → List V) : It :=
  ⟨fun i H => i < n ∧ src H, fun i H x H' => ∃ T, x = .ref T ∧ H T = none ∧ H' = upd H T (.tup (its i)), fun i H => i = n ∧ src H⟩
theorem turn_g {P : Program} {w : World} {K : PySem.W.Frag} {tg : Expr} {I : Addr} {fp wr sp : List Addr} {n : Nat} {src : Hp → Prop} {its : Nat → List V} {tn : Nat → Heap → Prop} {Src : Heap → Prop}
    (hI : I ∈ fp) (hw : ∀ b ∈ wr, b ∈ fp) (hl : ∀ i, i < n → (its i).length ≤ sizeLine)
    (obj : ∀ i h, tn i h → ∀ b ∈ fp, ∃ o, h.get? b = some o ∧ ∀ v, o.data ≠ .cell v) (keep : ∀ i h h', tn i h → (∀ b ∈ fp, ∀ o, h.get? b = some o → h'.get? b = some o) → tn i h')
    (hs : ∀ (X : Cx), X.prog = P → X.w = w → X.K = K → ∀ pins s σ H, Inv X pins σ H s → src H → Src s.heap)
    (self : ∀ (A : Around) (i : Nat) (s : Shared) (Q E : Value → Shared → Prop), tn i s.heap → Q (.ref I) s → wpAny (model P w) A (pyIter (.ref I)) Q E s)
    (G : ∀ A : Around, A.handled = none → GoesN P w A tg I (fp ++ sp) wr n (fun i h0 v h => ∃ T us, v = Value.ref T ∧ h0.objs.size ≤ T ∧ Vals (its i) us ∧ h.IsTuple T us.toArray) (fun i h => tn i h ∧ Src h)) :
    Turn P w K tg (Itg src n its) fp I tn where
  mem := hI
  obj := obj
  keep := keep
  item := by
    intro X hP hw' hK hc i pins s σ H E IV hf st hg
    subst hP hw' hK
    refine (G X.A (IV.ok.hd hc)).goes i s _ E hg.1 ⟨st, hs X rfl rfl rfl pins s σ H IV hg.2⟩ fun v h' tk hY st' hk htk => ?_
    obtain ⟨T, us, rfl, hT, rv, o, ho, hcl, m, hd⟩ := hY
    have new : ObjOk X.prog X.w (upd H T (.tup (its i))) h' T (.tup (its i)) := ⟨hl i hg.1, us, rv, ⟨o, ho, hcl, m, hd⟩⟩
    have I1 := IV.turnedNew (t' := tk) (ch := fp) (fun b ob hb q => hk b ob (fun z => hb (hw b z)) q) hf hT new
    refine ⟨.ref T, _, I1, rfl, ⟨T, rfl, IV.hok.fresh hT, rfl⟩, st'.1, fun b hb => ?_⟩
    obtain ⟨ob, eo, _⟩ := obj i _ st b hb
    rw [upd_ne (Nat.ne_of_lt (Nat.lt_of_lt_of_le (Heap.lt_size eo) hT))]
    exact (hf b hb).1
  done := by
    intro X hP hw' hK hc i pins s σ H E IV hf st hg
    subst hP hw' hK
    obtain ⟨rfl, hsrc⟩ := hg
    refine wpAny_mono ((G X.A (IV.ok.hd hc)).stops s (fun s1 => Inv X pins σ H s1) E ⟨st, hs X rfl rfl rfl pins s σ H IV hsrc⟩ fun h' tk hk htk => IV.turnedL (t' := tk) (ch := fp) (fun b ob hb q => hk b ob (fun z => hb (hw b z)) q) hf) (fun _ _ z => z) fun _ _ z => z
  self := self

/-! ### lists and tuples alike -/
def ItIs (b : Bool) (h : Heap) (it l : Addr) (i : Nat) : Prop := if b = true then h.IsListIter it l i else h.IsTupleIter it l i
def SqIs (b : Bool) (h : Heap) (l : Addr) (us : Array Value) : Prop := if b = true then h.IsList l us else h.IsTuple l us
def ItOb (b : Bool) (l : Addr) : Obj := if b = true then { cls := .type "list_iterator", data := .fields #[.ref l, .int 0 0] } else { cls := .type "tuple_iterator", data := .fields #[.ref l, .int 0 0] }
def SqB (b : Bool) (K : PySem.W.Frag) (H : Hp) (l : Addr) (xs : List V) : Prop := if b = true then SqL K H l xs else SqT K H l xs
theorem itIs_obj {b : Bool} {h : Heap} {it l : Addr} {i : Nat} (st : ItIs b h it l i) : ∃ o, h.get? it = some o ∧ ∀ v, o.data ≠ .cell v := by
  cases b with
  | true => obtain ⟨o, e, _, d⟩ := (show h.IsListIter it l i from st); exact ⟨o, e, fun v z => by rw [d] at z; cases z⟩
  | false => obtain ⟨o, e, _, d⟩ := (show h.IsTupleIter it l i from st); exact ⟨o, e, fun v z => by rw [d] at z; cases z⟩
theorem itIs_keep {b : Bool} {h h' : Heap} {it l : Addr} {i : Nat} (st : ItIs b h it l i) (k : ∀ o, h.get? it = some o → h'.get? it = some o) : ItIs b h' it l i := by
  cases b with
  | true => exact Heap.IsListIter.at (show h.IsListIter it l i from st) k
  | false => exact Heap.IsTupleIter.at (show h.IsTupleIter it l i from st) k
theorem itIs_new {b : Bool} {h : Heap} {it l : Addr} (e : h.get? it = some (ItOb b l)) : ItIs b h it l 0 := by
  cases b with
  | true => exact ⟨_, e, rfl, rfl⟩
  | false => exact ⟨_, e, rfl, rfl⟩
theorem begins_b (b : Bool) (l : Addr) (us : Array Value) : Begins (.ref l) (ItOb b l) fun h => SqIs b h l us := by
  cases b with
  | true => exact begins_list l us
  | false => exact begins_tuple l us
theorem begins_s (b : Bool) (l : Addr) (xs : List V) : Begins (.ref l) (ItOb b l) fun h => ∃ us, Vals xs us ∧ SqIs b h l us.toArray where
  iter := fun P w A E s Q h q => let ⟨us, _, hs⟩ := h; (begins_b b l us.toArray).iter P w A E s Q hs q
  keeps := fun h h' ⟨us, r, hs⟩ k => ⟨us, r, (begins_b b l us.toArray).keeps h h' hs k⟩
  free := (begins_b b l #[]).free
theorem draws_b {prog : Program} {w : World} {A : Around} (hh : A.handled = none) (b : Bool) (it l : Addr) (hne : l ≠ it) (us : Array Value) :
    Draws prog w A it [it, l] us.size (fun i v => us[i]? = some v) (fun i h => ItIs b h it l i ∧ SqIs b h l us) := by
  cases b with
  | true => exact Draws.list hh it l hne us
  | false => exact Draws.tuple hh it l hne us
theorem draws_s {prog : Program} {w : World} {A : Around} (hh : A.handled = none) (b : Bool) (it l : Addr) (hne : l ≠ it) (xs : List V) :
    Draws prog w A it [it, l] xs.length (fun i v => ∃ x, xs[i]? = some x ∧ RelV x v) (fun i h => ItIs b h it l i ∧ ∃ us, Vals xs us ∧ SqIs b h l us.toArray) where
  live := fun i h st => let ⟨us, _, q⟩ := st.2; (draws_b (prog := prog) (w := w) hh b it l hne us.toArray).live i h ⟨st.1, q⟩
  frame := fun i h h' st k => by
    obtain ⟨us, r, q⟩ := st.2
    have z := (draws_b (prog := prog) (w := w) hh b it l hne us.toArray).frame i h h' ⟨st.1, q⟩ k
    exact ⟨z.1, us, r, z.2⟩
  item := fun i s Q E hi st hQ => by
    obtain ⟨us, r, q⟩ := st.2
    refine (draws_b (prog := prog) (w := w) hh b it l hne us.toArray).item i s Q E (by have := r.length; simp; omega) ⟨st.1, q⟩ fun x h' tk hx st' sb => ?_
    refine hQ x h' tk ?_ ⟨st'.1, us, r, st'.2⟩ sb
    have hx' : us[i]? = some x := by simpa using hx
    have : xs[i]? = some xs[i] := List.getElem?_eq_getElem hi
    obtain ⟨u, h1, h2⟩ := r.get this
    rw [h1] at hx'; cases hx'
    exact ⟨_, this, h2⟩
  done := fun s Q E st hE => by
    obtain ⟨us, r, q⟩ := st.2
    have e : us.toArray.size = xs.length := by have := r.length; simp; omega
    refine (draws_b (prog := prog) (w := w) hh b it l hne us.toArray).done s Q E ⟨?_, q⟩ hE
    rw [e]; exact st.1
theorem sq_src {X : Cx} {pins : List (Addr × Obj)} {s : Shared} {σ : L2.St} {H : Hp} {b : Bool} {l : Addr} {xs : List V} (I : Inv X pins σ H s) (h : SqB b X.K H l xs) : ∃ us, Vals xs us ∧ SqIs b s.heap l us.toArray := by
  cases b with
  | true => obtain ⟨us, r, p, _⟩ := I.list (show SqL X.K H l xs from h); exact ⟨us, r, p.isList⟩
  | false => obtain ⟨us, r, p, _⟩ := I.tuple (show SqT X.K H l xs from h); exact ⟨us, r, p⟩

/-! ### for i, x in enumerate(list or tuple) -/
def enIts (xs : List V) (i : Nat) : List V := [.int (i : Nat), xs.getD i .non]
theorem getD_of {xs : List V} {i : Nat} {x : V} (h : xs[i]? = some x) : xs.getD i .non = x := by
  rw [List.getD_eq_getElem?_getD, h]; rfl
def iEnumB (K : PySem.W.Frag) (ta : TA) : TI := fun σ H R => ta σ H fun vs H1 => ∃ a xs b, vs = [.ref a] ∧ SqB b K H1 a xs ∧ R (Itg (fun H => SqB b K H a xs) xs.length (enIts xs)) H1
theorem pi_enumB {X : Cx} {e : Expr} {ta : TA} {p pos tpos : Pos} {elts : List Expr} {kk : Nat} (hg : Gl X "enumerate") (hm : X.mg "enumerate" = none) (ha : PA X [e] ta) (hs : starEach [e] X.env = [(false, eval e X.env)] := by rfl) :
    PI X (.Tuple elts kk tpos) (.Call (.Name "enumerate" p) [e] [] pos) (iEnumB X.K ta) := by
  refine ⟨fun pins s σ H R I h => ?_⟩
  refine Call_ (ld_blt I hg hm boot_enumerate (PyProof.Rows.callWith_type1 (thn (ha.run pos pins s σ H _ I h) fun us s1 ⟨vs, H1, I1, r1, q1⟩ => ?_) hs rfl))
  obtain ⟨a, xs, b, ex, hq, q⟩ := q1
  subst ex
  cases r1 with
  | cons r rr =>
    cases rr
    cases r
    have src0 := sq_src I1 hq
    have la : a < s1.heap.objs.size := by
      obtain ⟨us, _, z⟩ := src0
      cases b with
      | true => obtain ⟨o, z, _⟩ := (show s1.heap.IsList a us.toArray from z); exact Heap.lt_size z
      | false => obtain ⟨o, z, _⟩ := (show s1.heap.IsTuple a us.toArray from z); exact Heap.lt_size z
    refine callEnum1 (begins_s b a xs) src0 fun h' he hit hk => wpAny_pyIter_enum he ?_
    have I2 : Inv X pins σ H1 { s1 with heap := h' } := I1.kept (t' := s1.toks) hk
    have hne : (s1.heap.objs.size + 1 : Nat) ≠ s1.heap.objs.size := Nat.succ_ne_self _
    have ena : (s1.heap.objs.size + 1 : Nat) ≠ a := Nat.ne_of_gt (Nat.lt_succ_of_lt la)
    have tu : Turn X.prog X.w X.K (.Tuple elts kk tpos) (Itg (fun H => SqB b X.K H a xs) xs.length (enIts xs)) [s1.heap.objs.size + 1, s1.heap.objs.size] (s1.heap.objs.size + 1)
        (fun i h => (∃ old, IsEnum h (s1.heap.objs.size + 1) s1.heap.objs.size (0 + ((i : Nat) : Int)) old) ∧ ItIs b h s1.heap.objs.size a i) := by
      refine turn_g (wr := [s1.heap.objs.size + 1, s1.heap.objs.size]) (sp := [a]) (Src := fun h => ∃ us, Vals xs us ∧ SqIs b h a us.toArray) (by simp) (fun b hb => hb) (fun i _ => by show 2 ≤ sizeLine; decide) (fun i h st c hc => ?_) (fun i h h' st k => ?_)
        (fun Y e1 e2 e3 pins s σ H J hsrc => by rw [← e3] at hsrc; exact sq_src J hsrc) (fun A i s Q E st hQ => let ⟨_, he⟩ := st.1; wpAny_pyIter_enum he hQ) (fun A hh => ?_)
      · have e' : c = s1.heap.objs.size + 1 ∨ c = s1.heap.objs.size := by simpa using hc
        obtain ⟨⟨old, he⟩, hi⟩ := st
        rcases e' with z | z
        · rw [z]; exact ⟨_, he, fun v q => nomatch q⟩
        · rw [z]; exact itIs_obj hi
      · obtain ⟨⟨old, he⟩, hi⟩ := st
        exact ⟨⟨old, k _ (by simp) _ he⟩, itIs_keep hi fun o z => k _ (by simp) o z⟩
      · have G := GoesN.enumFrom (prog := X.prog) (w := X.w) (A := A) (elts := elts) (x1 := kk) (pos := tpos) 0 (draws_s (prog := X.prog) (w := X.w) (A := A.in1) hh b s1.heap.objs.size a (Nat.ne_of_lt la) xs) (s1.heap.objs.size + 1) hne (by simp; exact ena) (by simp)
        refine ⟨G.sub, fun i h h' st k => ?_, fun i s Q E hi st hQ => ?_, fun s Q E st hQ => ?_, fun i s Q E st hQ => G.self i s Q E ⟨st.1.1, st.1.2, st.2⟩ hQ⟩
        · have z := G.frame i h h' ⟨st.1.1, st.1.2, st.2⟩ k
          exact ⟨⟨z.1, z.2.1⟩, z.2.2⟩
        · refine G.goes i s Q E hi ⟨st.1.1, st.1.2, st.2⟩ fun v h' tk hY st' hk htk => hQ v h' tk ?_ ⟨⟨st'.1, st'.2.1⟩, st'.2.2⟩ hk htk
          obtain ⟨T, t, x, ev, hT, ⟨y, hy, ry⟩, hTup⟩ := hY
          refine ⟨T, [.int (0 + (i : Int)) t, x], ev, hT, ?_, hTup⟩
          unfold enIts
          rw [getD_of hy]
          exact .cons ⟨t, by rw [Int.zero_add]⟩ (.cons ry .nil)
        · exact G.stops s Q E ⟨st.1.1, st.1.2, st.2⟩ hQ
    refine ⟨s1.heap.objs.size + 1, [s1.heap.objs.size + 1, s1.heap.objs.size], _, _, H1, rfl, I2, tu, ⟨⟨.none, ?_⟩, itIs_new hit⟩, fun c hc => ?_, q⟩
    · show IsEnum _ _ _ (0 + ((0 : Nat) : Int)) _
      exact he
    · have e' : c = s1.heap.objs.size + 1 ∨ c = s1.heap.objs.size := by simpa using hc
      have hle : s1.heap.objs.size ≤ c := by
        rcases e' with z | z
        · rw [z]; exact Nat.le_add_right _ _
        · rw [z]; exact Nat.le_refl _
      exact I1.fpOk hle (I1.hok.fresh hle)

theorem sq_lt {b : Bool} {h : Heap} {a : Addr} {us : Array Value} (z : SqIs b h a us) : a < h.objs.size := by
  cases b with
  | true => obtain ⟨o, z, _⟩ := (show h.IsList a us from z); exact Heap.lt_size z
  | false => obtain ⟨o, z, _⟩ := (show h.IsTuple a us from z); exact Heap.lt_size z
/-! ### for x, y in zip(v1, v2), each a list or a tuple -/
def zpIts (xs ys : List V) (i : Nat) : List V := [xs.getD i .non, ys.getD i .non]
def iZipB (K : PySem.W.Frag) (ta : TA) : TI := fun σ H R => ta σ H fun vs H1 => ∃ a b xs ys k l, vs = [.ref a, .ref b] ∧ SqB k K H1 a xs ∧ SqB l K H1 b ys ∧ R (Itg (fun H => SqB k K H a xs ∧ SqB l K H b ys) (min xs.length ys.length) (zpIts xs ys)) H1
theorem pi_zipB {X : Cx} {e e2 : Expr} {ta : TA} {p pos tpos : Pos} {elts : List Expr} {kk : Nat} (hg : Gl X "zip") (hm : X.mg "zip" = none) (ha : PA X [e, e2] ta)
    (hs : starEach [e, e2] X.env = (false, eval e X.env) :: starEach [e2] X.env := by rfl) (hpl : (backTo pos (starEach [e2] X.env)).any (·.1) = false := by rfl) :
    PI X (.Tuple elts kk tpos) (.Call (.Name "zip" p) [e, e2] [] pos) (iZipB X.K ta) := by
  refine ⟨fun pins s σ H R I h => ?_⟩
  refine Call_ (ld_blt I hg hm PyProof.Rows.boot_zip (PyProof.Rows.callWith_type1 (thn (ha.run pos pins s σ H _ I h) fun us s1 ⟨vs, H1, I1, r1, q1⟩ => ?_) hs hpl))
  obtain ⟨a, b, xs, ys, k, l, ex, hqx, hqy, q⟩ := q1
  subst ex
  cases r1 with
  | cons r rr =>
    cases rr with
    | cons r' rr =>
      cases rr
      cases r
      cases r'
      have src1 := sq_src I1 hqx
      have src2 := sq_src I1 hqy
      have la : a < s1.heap.objs.size := let ⟨_, _, z⟩ := src1; sq_lt z
      have lb : b < s1.heap.objs.size := let ⟨_, _, z⟩ := src2; sq_lt z
      refine zip_begins2 (begins_s k a xs) (begins_s l b ys) src1 src2 fun h' hz hTI hTO h1 h2 hsz hk => wpAny_pyIter_zip hz ?_
      have I2 : Inv X pins σ H1 { s1 with heap := h' } := I1.kept (t' := s1.toks) hk
      generalize hN : s1.heap.objs.size = N at *
      have sep : ZipSep2 (N + 4) (N + 2) (N + 3) N (N + 1) [N, a] [N + 1, b] := zip_sep2 (fun c hc => by have e : c = a := by simpa using hc
                                                                                                         rw [e]; exact la) (fun c hc => by have e : c = b := by simpa using hc
                                                                                                                                           rw [e]; exact lb)
      have tu : Turn X.prog X.w X.K (.Tuple elts kk tpos) (Itg (fun H => SqB k X.K H a xs ∧ SqB l X.K H b ys) (min xs.length ys.length) (zpIts xs ys)) [N + 4, N + 2, N + 3, N, N + 1] (N + 4)
          (fun i h => IsZip h (N + 4) (N + 2) (N + 3) .none ∧ IsTupOf2 h (N + 2) (.ref N) (.ref (N + 1)) ∧ (∃ a1 a2, IsTupOf2 h (N + 3) a1 a2) ∧ ItIs k h N a i ∧ ItIs l h (N + 1) b i) := by
        refine turn_g (wr := [N + 4, N + 3, N, N + 1]) (sp := [a, b]) (Src := fun h => (∃ us, Vals xs us ∧ SqIs k h a us.toArray) ∧ ∃ us, Vals ys us ∧ SqIs l h b us.toArray) (by simp) (fun c hc => ?_) (fun i _ => by show 2 ≤ sizeLine; decide) (fun i h st c hc => ?_) (fun i h h' st kp => ?_)
          (fun Y e1 e2 e3 pins s σ H J hsrc => by rw [← e3] at hsrc; exact ⟨sq_src J hsrc.1, sq_src J hsrc.2⟩) (fun A i s Q E st hQ => wpAny_pyIter_zip st.1 hQ) (fun A hh => ?_)
        · have e' : c = N + 4 ∨ c = N + 3 ∨ c = N ∨ c = N + 1 := by simpa using hc
          rcases e' with z | z | z | z <;> (rw [z]; simp)
        · obtain ⟨s1, s2, ⟨x1, x2, s3⟩, s4, s5⟩ := st
          have e' : c = N + 4 ∨ c = N + 2 ∨ c = N + 3 ∨ c = N ∨ c = N + 1 := by simpa using hc
          rcases e' with z | z | z | z | z
          · rw [z]; exact ⟨_, s1, fun v q => nomatch q⟩
          · rw [z]; exact ⟨_, s2, fun v q => nomatch q⟩
          · rw [z]; exact ⟨_, s3, fun v q => nomatch q⟩
          · rw [z]; exact itIs_obj s4
          · rw [z]; exact itIs_obj s5
        · obtain ⟨s1, s2, ⟨x1, x2, s3⟩, s4, s5⟩ := st
          exact ⟨kp _ (by simp) _ s1, kp _ (by simp) _ s2, ⟨x1, x2, kp _ (by simp) _ s3⟩, itIs_keep s4 fun o z => kp _ (by simp) o z, itIs_keep s5 fun o z => kp _ (by simp) o z⟩
        · have G := GoesN.zip2 (prog := X.prog) (w := X.w) (A := A) (elts := elts) (x1 := kk) (pos := tpos) sep (draws_s (prog := X.prog) (w := X.w) (A := A.in1) hh k N a (Nat.ne_of_lt la) xs) (draws_s (prog := X.prog) (w := X.w) (A := A.in1) hh l (N + 1) b (Nat.ne_of_lt (Nat.lt_succ_of_lt lb)) ys)
          refine ⟨fun c hc => List.mem_append_left _ ?_, fun i h h' st kp => ?_, fun i s Q E hi st hQ => ?_, fun s Q E st hQ => ?_, fun i s Q E st hQ => G.self i s Q E ⟨st.1.1, st.1.2.1, st.1.2.2.1, ⟨st.1.2.2.2.1, st.2.1⟩, st.1.2.2.2.2, st.2.2⟩ hQ⟩
          · have e' : c = N + 4 ∨ c = N + 3 ∨ c = N ∨ c = N + 1 := by simpa using hc
            rcases e' with z | z | z | z <;> (rw [z]; simp)
          · have z := G.frame i h h' ⟨st.1.1, st.1.2.1, st.1.2.2.1, ⟨st.1.2.2.2.1, st.2.1⟩, st.1.2.2.2.2, st.2.2⟩ fun c hc => kp c (by
              simp only [List.mem_cons, List.mem_append, List.not_mem_nil, or_false] at hc ⊢
              rcases hc with z | z | z | (z | z) | (z | z) <;> simp [z])
            exact ⟨⟨z.1, z.2.1, z.2.2.1, z.2.2.2.1.1, z.2.2.2.2.1⟩, z.2.2.2.1.2, z.2.2.2.2.2⟩
          · refine G.goes i s Q E hi ⟨st.1.1, st.1.2.1, st.1.2.2.1, ⟨st.1.2.2.2.1, st.2.1⟩, st.1.2.2.2.2, st.2.2⟩ fun v h' tk hY z hk htk => hQ v h' tk ?_ ⟨⟨z.1, z.2.1, z.2.2.1, z.2.2.2.1.1, z.2.2.2.2.1⟩, z.2.2.2.1.2, z.2.2.2.2.2⟩ hk htk
            obtain ⟨T, x, y, ev, hT, ⟨x', hx, rx⟩, ⟨y', hy, ry⟩, hTup⟩ := hY
            refine ⟨T, [x, y], ev, hT, ?_, hTup⟩
            unfold zpIts
            rw [getD_of hx, getD_of hy]
            exact .cons rx (.cons ry .nil)
          · exact G.stops s Q E ⟨st.1.1, st.1.2.1, st.1.2.2.1, ⟨st.1.2.2.2.1, st.2.1⟩, st.1.2.2.2.2, st.2.2⟩ hQ
      refine ⟨N + 4, [N + 4, N + 2, N + 3, N, N + 1], _, _, H1, rfl, I2, tu, ⟨hz, hTI, ⟨_, _, hTO⟩, itIs_new h1, itIs_new h2⟩, fun c hc => ?_, q⟩
      have e' : c = N + 4 ∨ c = N + 2 ∨ c = N + 3 ∨ c = N ∨ c = N + 1 := by simpa using hc
      have hle : s1.heap.objs.size ≤ c := by
        rw [hN]
        rcases e' with z | z | z | z | z <;> (rw [z]; first | exact Nat.le_add_right _ _ | exact Nat.le_refl _)
      exact I1.fpOk hle (I1.hok.fresh hle)
end Dl

set_option Elab.async false
set_option linter.all false
set_option maxRecDepth 100000
set_option maxHeartbeats 4000000
/-! Dl6: loops, comprehensions, lists of one's own. -/
namespace Dl
open PySem PySem.Spec PyProof.Rows L2

/-! ### what is walked -/
abbrev DI_ := Env' → (List D → Prop) → EK → Prop
def Wlk (t : Option Bx) (F : Hp) (J : It) (xs : List D) : Prop := ∀ S H, Le t F S.bx S.F → Good S H → ∀ i : Nat,
  (∀ d, xs[i]? = some d → J.go i H ∧ ∀ v H2, J.yld i H v H2 → ∃ S2, Stp S H S2 H2 ∧ Good S2 H2 ∧ Rp S2.bx S2.F v d) ∧ (i = xs.length → J.stop i H)
structure DI (X : Cx) (E : XK) (tg iter : Expr) (d : DI_) : Prop where
  run : ∃ wi, PI X tg iter wi ∧ ∀ Z S H σ env R Rd Ed, Good S H → Rel Z S H σ env → XLink X.mg S H Ed E → d env Rd Ed →
    (∀ J H' S' xs, Stp S H S' H' → Good S' H' → Wlk S'.bx S'.F J xs → Rd xs → R J H') → wi σ H R
section
variable {X : Cx} {E : XK} {tg a b : Expr} {da db : DT_}
/-- a list or a tuple -/
def iSeq (K : PySem.W.Frag) (tl : TE) : TI := fun σ H R => tl σ H fun x H1 => ∃ p, x = .ref p ∧ (((∃ xs, SqL K H1 p xs) ∧ R (Itl K p) H1) ∨ ((∃ xs, SqT K H1 p xs) ∧ R (Itt K p) H1))
theorem pi_seq {l : Expr} {tl : TE} (hl : PE X l tl) : PI X tg l (iSeq X.K tl) := by
  refine ⟨fun pins s σ H R I h => thn (hl.run pins s σ H _ I h) fun v s1 ⟨x, H1, I1, r1, q1⟩ => ?_⟩
  obtain ⟨p, e, q⟩ := q1
  subst e
  cases r1
  have fpk : ∀ b ∈ [s1.heap.objs.size], FpOk X pins H1 b := fun b hb => by
    have e : b = s1.heap.objs.size := by simpa using hb
    rw [e]
    exact I1.fpOk (Nat.le_refl _) (I1.hok.fresh (Nat.le_refl _))
  rcases q with ⟨⟨xs, hq⟩, q⟩ | ⟨⟨xs, hq⟩, q⟩
  · obtain ⟨us, _, pl, _⟩ := I1.list hq
    refine wpAny_pyIter_list pl.isList ⟨_, [s1.heap.objs.size], _, _, H1, rfl, ?_, turn_list p _, ⟨_, Heap.get?_push_size _ rfl, rfl, rfl⟩, fpk, q⟩
    exact I1.kept (t' := s1.toks) fun b o e => Heap.get?_push_of_some _ e
  · obtain ⟨us, _, pt, _⟩ := I1.tuple hq
    refine wpAny_pyIter_tuple (show s1.heap.IsTuple p us.toArray from pt) ⟨_, [s1.heap.objs.size], _, _, H1, rfl, ?_, turn_tuple p _, ⟨_, Heap.get?_push_size _ rfl, rfl, rfl⟩, fpk, q⟩
    exact I1.kept (t' := s1.toks) fun b o e => Heap.get?_push_of_some _ e
theorem wlk_l {K : PySem.W.Frag} {t : Option Bx} {F : Hp} {p : Addr} {vs : List V} {xs : List D} (e : F p = some (.lst vs)) (r : RpL t F vs xs) : Wlk t F (Itl K p) xs := by
  intro S H le g i
  have hp := g.fz _ _ (le.f _ _ e)
  refine ⟨fun d hd => ?_, fun hi => ⟨vs, SqL.of hp, by rw [r.length]; omega⟩⟩
  obtain ⟨v, h1, h2⟩ := r.getD hd
  refine ⟨⟨vs, v, SqL.of hp, h1⟩, fun v' H2 hy => ?_⟩
  obtain ⟨rfl, hy⟩ := hy
  have := hy vs (SqL.of hp)
  rw [h1] at this; cases this
  exact ⟨S, .refl _ _, g, h2.le le⟩
theorem wlk_t {K : PySem.W.Frag} {t : Option Bx} {F : Hp} {p : Addr} {vs : List V} {xs : List D} (e : F p = some (.tup vs)) (r : RpL t F vs xs) : Wlk t F (Itt K p) xs := by
  intro S H le g i
  have hp := g.fz _ _ (le.f _ _ e)
  refine ⟨fun d hd => ?_, fun hi => ⟨vs, SqT.of hp, by rw [r.length]; omega⟩⟩
  obtain ⟨v, h1, h2⟩ := r.getD hd
  refine ⟨⟨vs, v, SqT.of hp, h1⟩, fun v' H2 hy => ?_⟩
  obtain ⟨rfl, hy⟩ := hy
  have := hy vs (SqT.of hp)
  rw [h1] at this; cases this
  exact ⟨S, .refl _ _, g, h2.le le⟩
def dSeqI (da : DT_) : DI_ := fun env R E => da env (fun x => match x with | .tp xs => R xs | .ls xs => R xs | _ => False) E
theorem di_seq (ha : DE X E a da) : DI X E tg a (dSeqI da) := by
  obtain ⟨t, p, q⟩ := ha.run
  refine ⟨_, pi_seq p, fun Z S H σ env R Rd Ed g r l h k => ?_⟩
  refine q Z S H σ env _ _ Ed g r l h fun v H1 S1 x s1 g1 r1 h1 => ?_
  split at h1
  · cases r1 with
    | tp e rr => exact ⟨_, rfl, .inr ⟨⟨_, SqT.of (g1.fz _ _ e)⟩, k _ H1 S1 _ s1 g1 (wlk_t e rr) h1⟩⟩
  · cases r1 with
    | ls e rr => exact ⟨_, rfl, .inl ⟨⟨_, SqL.of (g1.fz _ _ e)⟩, k _ H1 S1 _ s1 g1 (wlk_l e rr) h1⟩⟩
  · exact h1.elim
theorem rgL_get {lo : Int} {n i : Nat} {d : D} (h : ((List.range n).map fun j => D.it (lo + (j : Nat)))[i]? = some d) : i < n ∧ d = .it (lo + (i : Nat)) := by
  rw [List.getElem?_map] at h
  by_cases hi : i < n
  · rw [List.getElem?_range hi] at h
    exact ⟨hi, (Option.some.inj h).symm⟩
  · rw [List.getElem?_eq_none_iff.mpr (by simpa using hi)] at h; cases h
theorem wlk_r {t : Option Bx} {F : Hp} {lo : Int} {n : Nat} : Wlk t F (Itr lo n) ((List.range n).map fun j => D.it (lo + (j : Nat))) := by
  intro S H le g i
  refine ⟨fun d hd => ?_, fun hi => by rw [List.length_map, List.length_range] at hi; show n ≤ i; omega⟩
  obtain ⟨hi, rfl⟩ := rgL_get hd
  refine ⟨hi, fun v H2 hy => ?_⟩
  obtain ⟨rfl, rfl⟩ := hy
  exact ⟨S, .refl _ _, g, .it _⟩
def rgD (lo : Int) (n : Nat) : List D := (List.range n).map fun j => D.it (lo + (j : Nat))
abbrev in62 (i : Int) : Prop := -(2 ^ 62) ≤ i ∧ i < 2 ^ 62
def dRng1 (da : DA_) : DI_ := fun env R E => da env (fun xs => match xs with | [.it j] => in62 j ∧ R (rgD 0 j.toNat) | _ => False) E
def dRng2 (da : DA_) : DI_ := fun env R E => da env (fun xs => match xs with | [.it i, .it j] => in62 i ∧ in62 j ∧ R (rgD i (j - i).toNat) | _ => False) E
theorem di_range1 {u : DA_} {p pos : Pos} (hg : Gl X "range") (hm : X.mg "range" = none) (ha : DA X E [a] u) (hs : starEach [a] X.env = [(false, eval a X.env)] := by rfl) : DI X E tg (.Call (.Name "range" p) [a] [] pos) (dRng1 u) := by
  obtain ⟨t, p, q⟩ := ha.run
  refine ⟨_, pi_range1 hg hm p hs, fun Z S H σ env R Rd Ed g r l h k => ?_⟩
  refine q Z S H σ env _ _ Ed g r l h fun vs H1 S1 xs s1 g1 r1 h1 => ?_
  split at h1
  · cases r1 with
    | cons r1 r2 =>
      cases r2; cases r1
      exact ⟨_, rfl, h1.1.1, h1.1.2, k _ H1 S1 _ s1 g1 wlk_r h1.2⟩
  · exact h1.elim
theorem di_range2 {u : DA_} {p pos : Pos} (hg : Gl X "range") (hm : X.mg "range" = none) (ha : DA X E [a, b] u) (hs : starEach [a, b] X.env = [(false, eval a X.env), (false, eval b X.env)] := by rfl) (hs2 : starEach [b] X.env = [(false, eval b X.env)] := by rfl) :
    DI X E tg (.Call (.Name "range" p) [a, b] [] pos) (dRng2 u) := by
  obtain ⟨t, p, q⟩ := ha.run
  refine ⟨_, pi_range2 hg hm p hs hs2, fun Z S H σ env R Rd Ed g r l h k => ?_⟩
  refine q Z S H σ env _ _ Ed g r l h fun vs H1 S1 xs s1 g1 r1 h1 => ?_
  split at h1
  · cases r1 with
    | cons r1 r2 =>
      cases r2 with
      | cons r2 r3 =>
        cases r3; cases r1; cases r2
        exact ⟨_, _, rfl, ⟨h1.1.1, h1.1.2, h1.2.1.1, h1.2.1.2⟩, k _ H1 S1 _ s1 g1 wlk_r h1.2.2⟩
  · exact h1.elim
/-- enumerate -/
def enD (xs : List D) : List D := (List.range xs.length).map fun i => D.tp [.it (i : Nat), xs.getD i .non]
theorem enD_get {xs : List D} {i : Nat} {d : D} (h : (enD xs)[i]? = some d) : ∃ x, xs[i]? = some x ∧ d = .tp [.it (i : Nat), x] := by
  unfold enD at h
  rw [List.getElem?_map] at h
  by_cases hi : i < xs.length
  · rw [List.getElem?_range hi] at h
    refine ⟨xs[i], List.getElem?_eq_getElem hi, ?_⟩
    have := (Option.some.inj h).symm
    rw [this]
    show D.tp [.it (i : Nat), xs.getD i .non] = _
    rw [List.getD_eq_getElem?_getD, List.getElem?_eq_getElem hi]; rfl
  · rw [List.getElem?_eq_none_iff.mpr (by simpa using hi)] at h; cases h
theorem wlk_e {t : Option Bx} {F : Hp} {src : Hp → Prop} {vs : List V} {xs : List D} (r : RpL t F vs xs) (hs : ∀ S H, Le t F S.bx S.F → Good S H → src H) : Wlk t F (Itg src vs.length (enIts vs)) (enD xs) := by
  intro S H le g i
  refine ⟨fun d hd => ?_, fun hi => ⟨by rw [hi, r.length]; unfold enD; rw [List.length_map, List.length_range], hs S H le g⟩⟩
  obtain ⟨x, hx, rfl⟩ := enD_get hd
  obtain ⟨v, h1, h2⟩ := r.getD hx
  refine ⟨⟨(List.getElem?_eq_some_iff.mp h1).1, hs S H le g⟩, fun v' H2 hy => ?_⟩
  obtain ⟨T, rfl, hT, rfl⟩ := hy
  obtain ⟨st, g2⟩ := step_new g (o := .tup (enIts vs i)) hT
  refine ⟨_, st, g2, .tp (by show upd S.F T _ T = _; exact upd_same) ?_⟩
  have q : RpL S.bx (upd S.F T (.tup (enIts vs i))) [V.int (i : Nat), v] [D.it (i : Nat), x] := .cons (.it _) (.cons ((h2.le le).le st.le) .nil)
  have e : enIts vs i = [V.int (i : Nat), v] := by unfold enIts; rw [getD_of h1]
  have q' : RpL S.bx (upd S.F T (.tup (enIts vs i))) (enIts vs i) [D.it (i : Nat), x] := Eq.mpr (congrArg (fun z => RpL S.bx (upd S.F T (.tup (enIts vs i))) z [D.it (i : Nat), x]) e) q
  exact q'
def dEnum (u : DA_) : DI_ := fun env R E => u env (fun ys => match ys with | [.tp xs] => R (enD xs) | [.ls xs] => R (enD xs) | _ => False) E
theorem di_enum {u : DA_} {p pos tpos : Pos} {elts : List Expr} {kk : Nat} (hg : Gl X "enumerate") (hm : X.mg "enumerate" = none) (ha : DA X E [a] u) (hs : starEach [a] X.env = [(false, eval a X.env)] := by rfl) :
    DI X E (.Tuple elts kk tpos) (.Call (.Name "enumerate" p) [a] [] pos) (dEnum u) := by
  obtain ⟨t, p, q⟩ := ha.run
  refine ⟨_, pi_enumB hg hm p hs, fun Z S H σ env R Rd Ed g r l h k => ?_⟩
  refine q Z S H σ env _ _ Ed g r l h fun vs H1 S1 xs s1 g1 r1 h1 => ?_
  split at h1
  · cases r1 with
    | cons r1 r2 =>
      cases r2
      cases r1 with
      | tp e rr => exact ⟨_, _, false, rfl, SqT.of (g1.fz _ _ e), k _ H1 S1 _ s1 g1 (wlk_e rr fun S H le g => SqT.of (g.fz _ _ (le.f _ _ e))) h1⟩
  · cases r1 with
    | cons r1 r2 =>
      cases r2
      cases r1 with
      | ls e rr => exact ⟨_, _, true, rfl, SqL.of (g1.fz _ _ e), k _ H1 S1 _ s1 g1 (wlk_e rr fun S H le g => SqL.of (g.fz _ _ (le.f _ _ e))) h1⟩
  · exact h1.elim
/-- zip of two -/
def zpD : List D → List D → List D
  | x :: xs, y :: ys => .tp [x, y] :: zpD xs ys
  | _, _ => []
theorem zpD_get : ∀ {xs ys : List D} {i : Nat} {d : D}, (zpD xs ys)[i]? = some d → ∃ x y, xs[i]? = some x ∧ ys[i]? = some y ∧ d = .tp [x, y]
  | [], _, _, _, h => by simp [zpD] at h
  | _ :: _, [], _, _, h => by simp [zpD] at h
  | x :: xs, y :: ys, 0, d, h => by simp [zpD] at h; exact ⟨x, y, rfl, rfl, h.symm⟩
  | x :: xs, y :: ys, i + 1, d, h => by simp [zpD] at h; simpa using zpD_get h
theorem zpD_len : ∀ xs ys : List D, (zpD xs ys).length = min xs.length ys.length
  | [], _ => by simp [zpD]
  | _ :: _, [] => by simp [zpD]
  | x :: xs, y :: ys => by simp only [zpD, List.length_cons, zpD_len xs ys]; omega
def sqD : D → Option (Bool × List D) | .tp xs => some (false, xs) | .ls xs => some (true, xs) | _ => none
theorem sqD_rp {S : Sta} {H : Hp} {K : PySem.W.Frag} {v : V} {d : D} {k : Bool} {xs : List D} (h : sqD d = some (k, xs)) (r : Rp S.bx S.F v d) : ∃ a vs, v = .ref a ∧ RpL S.bx S.F vs xs ∧ ∀ S' H', Le S.bx S.F S'.bx S'.F → Good S' H' → SqB k K H' a vs := by
  cases r with
  | tp e rr => simp [sqD] at h; obtain ⟨rfl, rfl⟩ := h; exact ⟨_, _, rfl, rr, fun S' H' le g => SqT.of (g.fz _ _ (le.f _ _ e))⟩
  | ls e rr => simp [sqD] at h; obtain ⟨rfl, rfl⟩ := h; exact ⟨_, _, rfl, rr, fun S' H' le g => SqL.of (g.fz _ _ (le.f _ _ e))⟩
  | non => cases h
  | bl => cases h
  | it => cases h
  | st => cases h
  | dc => cases h
  | bx => cases h
def dZip (u : DA_) : DI_ := fun env R E => u env (fun zs => match zs with | [x, y] => (match sqD x, sqD y with | some (_, xs), some (_, ys) => R (zpD xs ys) | _, _ => False) | _ => False) E
theorem di_zip {u : DA_} {p pos tpos : Pos} {elts : List Expr} {kk : Nat} (hg : Gl X "zip") (hm : X.mg "zip" = none) (ha : DA X E [a, b] u)
    (hs : starEach [a, b] X.env = (false, eval a X.env) :: starEach [b] X.env := by rfl) (hpl : (backTo pos (starEach [b] X.env)).any (·.1) = false := by rfl) : DI X E (.Tuple elts kk tpos) (.Call (.Name "zip" p) [a, b] [] pos) (dZip u) := by
  obtain ⟨t, p, q⟩ := ha.run
  refine ⟨_, pi_zipB hg hm p hs hpl, fun Z S H σ env R Rd Ed g r l h k => ?_⟩
  refine q Z S H σ env _ _ Ed g r l h fun vs H1 S1 zs s1 g1 r1 h1 => ?_
  split at h1
  · next x y =>
    split at h1
    · next k1 xs k2 ys e1 e2 =>
      cases r1 with
      | cons r1 r2 =>
        cases r2 with
        | cons r2 r3 =>
          cases r3
          obtain ⟨a1, vs1, rfl, rr1, q1⟩ := sqD_rp (K := X.K) (H := H1) e1 r1
          obtain ⟨a2, vs2, rfl, rr2, q2⟩ := sqD_rp (K := X.K) (H := H1) e2 r2
          refine ⟨a1, a2, vs1, vs2, k1, k2, rfl, q1 S1 H1 (.refl _ _) g1, q2 S1 H1 (.refl _ _) g1, k _ H1 S1 _ s1 g1 ?_ h1⟩
          intro S H le g i
          refine ⟨fun d hd => ?_, fun hi => ⟨by rw [hi, zpD_len, rr1.length, rr2.length], q1 S H le g, q2 S H le g⟩⟩
          obtain ⟨x, y, hx, hy, rfl⟩ := zpD_get hd
          obtain ⟨v, h1, h2⟩ := rr1.getD hx
          obtain ⟨w, h3, h4⟩ := rr2.getD hy
          have l1 := (List.getElem?_eq_some_iff.mp h1).1
          have l2 := (List.getElem?_eq_some_iff.mp h3).1
          refine ⟨⟨by omega, q1 S H le g, q2 S H le g⟩, fun v' H2 hy => ?_⟩
          obtain ⟨T, rfl, hT, rfl⟩ := hy
          obtain ⟨st, g2⟩ := step_new g (o := .tup (zpIts vs1 vs2 i)) hT
          refine ⟨_, st, g2, .tp (by show upd S.F T _ T = _; exact upd_same) ?_⟩
          have q : RpL S.bx (upd S.F T (.tup (zpIts vs1 vs2 i))) [v, w] [x, y] := .cons ((h2.le le).le st.le) (.cons ((h4.le le).le st.le) .nil)
          have e : zpIts vs1 vs2 i = [v, w] := by unfold zpIts; rw [getD_of h1, getD_of h3]
          exact Eq.mpr (congrArg (fun z => RpL S.bx (upd S.F T (.tup (zpIts vs1 vs2 i))) z [x, y]) e) q
    · exact h1.elim
  · exact h1.elim
end

/-! ### for -/
def forD (dg : DG_) (db : DS_) (De : DEnds) : List D → Env' → Prop
  | [] => De.nx
  | x :: xs => fun env => dg x env fun env1 => db { De with nx := forD dg db De xs, ct := forD dg db De xs, bk := De.nx } env1
def dFor (di : DI_) (dg : DG_) (db : DS_) : DS_ := fun D env => di env (fun xs => forD dg db D xs env) D.ex
theorem ds_for {X : Cx} {E : XK} {tg iter : Expr} {body : List Stmt} {pos : Pos} {di : DI_} {dg : DG_} {vs : List Nat} {db : DS_} (hp : PassesOwn (model X.prog X.w) X.A X.env X.xe) (hc : X.calm = true) (hi : DI X E tg iter di) (hg : DG X tg vs dg) (hb : DSs X E body db)
    (hs : ∀ x, foldedSetIterable iter X.env x = pure x := by intro _; rfl) : DS X E (.For tg iter body [] pos) (dFor di dg db) := by
  obtain ⟨wi, pi, qi⟩ := hi.run
  obtain ⟨g, pg, qg⟩ := hg.run
  obtain ⟨t, pb, qb⟩ := hb.run
  refine ⟨_, ps_for hp hc pi pg pb hs, fun B De Dn l S σ env H a r h => ?_⟩
  refine qi _ S H σ env _ _ _ a.g r (l.xl a) h fun J H1 S1 xs s1 g1 w1 h1 => ?_
  have a1 := a.step s1 g1
  refine ⟨fun i m σ H => m = xs.length - i ∧ i ≤ xs.length ∧ ∃ S env, At (B.now S1) S H ∧ Rel B.H0 S H σ env ∧ forD dg db De (xs.drop i) env, ⟨_, rfl, Nat.zero_le _, S1, env, a1.now, r.step s1, h1⟩, ?_⟩
  rintro i m σ H ⟨rfl, hle, S, env, a2, r2, h2⟩
  have w := w1 S H a2.f a2.g i
  by_cases hlt : i < xs.length
  · have ed : xs.drop i = xs[i] :: xs.drop (i + 1) := List.drop_eq_getElem_cons hlt
    rw [ed] at h2
    obtain ⟨go, yl⟩ := w.1 xs[i] (List.getElem?_eq_getElem hlt)
    obtain ⟨N, hN⟩ : ∃ N : L2.St → Hp → Prop, N = fun σ' H' => ∃ S env, At (B.now S1) S H' ∧ Rel B.H0 S H' σ' env ∧ forD dg db De (xs.drop (i + 1)) env := ⟨_, rfl⟩
    refine .inr ⟨go, N, fun σ' H' q => ⟨xs.length - (i + 1), by omega, rfl, hlt, by rw [hN] at q; exact q⟩, fun x H' hy => ?_⟩
    obtain ⟨S2, st, g2, rp⟩ := yl x H' hy
    refine qg _ S2 H' σ env x _ _ _ (r2.step st) g2 rp h2 fun σ2 env2 r3 h3 _ => ?_
    refine qb (B.now S1) { De with nx := forD dg db De (xs.drop (i + 1)), ct := forD dg db De (xs.drop (i + 1)), bk := De.nx } { Dn with nx := N, ct := N, bk := Dn.nx } ⟨fun S σ env H a r h => ?_, fun S σ env H a r h => l.nx S σ env H (a1.was a) r h, fun S σ env H a r h => ?_, fun S v d H a r h => l.rt S v d H (a1.was a) r h, l.ex⟩ S2 σ2 env2 H' (a2.step st g2) r3 h3
    · show N σ H
      rw [hN]; exact ⟨S, env, a, r, h⟩
    · show N σ H
      rw [hN]; exact ⟨S, env, a, r, h⟩
  · have e : i = xs.length := by omega
    subst e
    rw [List.drop_length] at h2
    exact .inl ⟨w.2 rfl, l.nx S σ env H (a1.was a2) r2 h2⟩
/-! ### while: an invariant and a measure -/
def dWhile (t : DB_) (db : DS_) : DS_ := fun D env => ∃ W : Nat → Env' → Prop, (∃ m, W m env) ∧ ∀ m env, W m env →
  t env (fun b => match b with | true => db { D with nx := fun env' => ∃ m', m' < m ∧ W m' env', ct := fun env' => ∃ m', m' < m ∧ W m' env', bk := D.nx } env | false => D.nx env) D.ex
theorem ds_while {X : Cx} {E : XK} {c : Expr} {body : List Stmt} {pos : Pos} {tb : DB_} {db : DS_} (hp : PassesOwn (model X.prog X.w) X.A X.env X.xe) (hc : DB X E c tb) (hb : DSs X E body db) : DS X E (.While c body [] pos) (dWhile tb db) := by
  obtain ⟨tc, pc, qc⟩ := hc.run
  obtain ⟨t, pb, qb⟩ := hb.run
  refine ⟨_, ps_while hp pc pb, fun B De Dn l S σ env H a r h => ?_⟩
  obtain ⟨W, ⟨m0, w0⟩, turn⟩ := h
  refine ⟨fun m σ H => ∃ S env, At B S H ∧ Rel B.H0 S H σ env ∧ W m env, ⟨m0, S, env, a, r, w0⟩, ?_⟩
  rintro m σ H ⟨S, env, a2, r2, h2⟩
  refine qc _ S H σ env _ _ _ a2.g r2 (l.xl a2) (turn m env h2) fun b H1 S1 s1 g1 h1 => ?_
  cases b with
  | true =>
    rw [if_pos rfl]
    obtain ⟨N, hN⟩ : ∃ N : L2.St → Hp → Prop, N = fun σ' H' => ∃ m', m' < m ∧ ∃ S env, At B S H' ∧ Rel B.H0 S H' σ' env ∧ W m' env := ⟨_, rfl⟩
    refine ⟨N, fun σ' H' h => by rw [hN] at h; exact h, ?_⟩
    refine qb B { De with nx := fun env' => ∃ m', m' < m ∧ W m' env', ct := fun env' => ∃ m', m' < m ∧ W m' env', bk := De.nx } { Dn with nx := N, ct := N, bk := Dn.nx } ⟨fun S σ env H a r h => ?_, fun S σ env H a r h => l.nx S σ env H a r h, fun S σ env H a r h => ?_, l.rt, l.ex⟩ S1 σ env H1 (a2.step s1 g1) (r2.step s1) h1
    · obtain ⟨m', hm, h⟩ := h
      show N σ H
      rw [hN]; exact ⟨m', hm, S, env, a, r, h⟩
    · obtain ⟨m', hm, h⟩ := h
      show N σ H
      rw [hN]; exact ⟨m', hm, S, env, a, r, h⟩
  | false =>
    rw [if_neg Bool.false_ne_true]
    exact l.nx S1 σ env H1 (a2.step s1 g1) (r2.step s1) h1
end Dl

set_option Elab.async false
set_option linter.all false
set_option maxRecDepth 100000
set_option maxHeartbeats 4000000
/-! Dl7: comprehensions, lists of one's own, the contract of a def. -/
namespace Dl
open PySem PySem.Spec PyProof.Rows L2

theorem xl0 {mg : Str → Option Value} {S : Sta} {H : Hp} : XLink mg S H (fun _ => False) E0 := fun _ _ _ _ _ _ _ _ h => h.elim
/-- what a reading of a new list means -/
def NSem (mg : Str → Option Value) (E : XK) (t : TE) (d : DN_) : Prop := ∀ Z S H σ env Q (Qd : List D → Prop) Ed, Good S H → Rel Z S H σ env → XLink mg S H Ed E → d env Qd Ed →
    (∀ p H' S' vs xs, Stp S H S' H' → Good S' H' → H p = none → H' p = some (.lst vs) → S'.F p = none → ¬ InB S'.bx p → RpL S'.bx S'.F vs xs → Qd xs → Q (.ref p) H') → t σ H Q
/-! ### comprehensions -/
def wipeD (env : Env') : List Nat → Env'
  | [] => env
  | v :: vs => (wipeD env vs).set v .no
theorem rel_wipe {Z : Hp} {S : Sta} {H : Hp} {σ : L2.St} {env : Env'} (r : Rel Z S H σ env) : ∀ vs : List Nat, Rel Z S H (wipe σ vs) (wipeD env vs)
  | [] => r
  | v :: vs => (rel_wipe r vs).drop_ v none
structure DTs (X : Cx) (E : XK) (ifs : List Expr) (d : DB_) : Prop where
  run : ∃ t, PTs X ifs t ∧ ∀ Z S H σ env Q Qd Ed, Good S H → Rel Z S H σ env → XLink X.mg S H Ed E → d env Qd Ed → ContB S H Qd Q → t σ H Q
def dYes : DB_ := fun _ Q _ => Q true
theorem dts_nil {X : Cx} {E : XK} : DTs X E [] dYes := ⟨_, pts_nil, fun _ S H _ _ _ _ _ g _ _ h k => k true H S (.refl S H) g h⟩
theorem dts_one {X : Cx} {E : XK} {c : Expr} {d : DB_} (h : DB X E c d) : DTs X E [c] d := let ⟨t, p, q⟩ := h.run; ⟨t, pts_one p, q⟩
def lcD (dg : DG_) (tt : DB_) (te : DT_) (env : Env') (E : EK) (Q : List D → Prop) : List D → List D → Prop
  | [], acc => Q acc
  | x :: xs, acc => dg x env fun env1 => tt env1 (fun b => match b with | true => te env1 (fun y => acc.length < sizeLine ∧ lcD dg tt te env E Q xs (acc ++ [y])) E | false => lcD dg tt te env E Q xs acc) E
def dLc (di : DI_) (dg : DG_) (tt : DB_) (te : DT_) (vs : List Nat) : DN_ := fun env Q E => di env (fun xs => lcD dg tt te (wipeD env vs) (fun _ => False) Q xs []) E
section
variable {X : Cx} {E : XK} {elt tg iter : Expr} {ifs : List Expr} {scope : Scope} {own : List (Str × Nat)} {pos : Pos} {vsg : List Nat} {di : DI_} {dg : DG_} {tt : DB_} {te : DT_}
abbrev BCx (X : Cx) (scope : Scope) (s : Shared) (H : Hp) (C : Addr) (cl : List (Str × Addr)) (fp : List Addr) : Cx := X.blk s H scope (compEnvC scope cl C X.env) fp
/-- one reading for every block -/
theorem allE (he : ∀ s H C cl fp, DE (BCx X scope s H C cl fp) E0 elt te) : ∃ t, (∀ s H C cl fp, PE (BCx X scope s H C cl fp) elt t) ∧
    ∀ Z S H σ env Q Qd Ed, Good S H → Rel Z S H σ env → XLink X.mg S H Ed E0 → te env Qd Ed → Cont S H Qd Q → t σ H Q := by
  have ch := fun s H C cl fp => (he s H C cl fp).run
  refine ⟨fun σ H Q => ∀ s H0 C cl fp, (ch s H0 C cl fp).choose σ H Q, fun s H0 C cl fp => ⟨fun pins s1 σ H Q I h => ?_⟩, fun Z S H σ env Q Qd Ed g r l h k s H0 C cl fp => ?_⟩
  · exact (ch s H0 C cl fp).choose_spec.1.run pins s1 σ H Q I (h s H0 C cl fp)
  · exact (ch s H0 C cl fp).choose_spec.2 Z S H σ env Q Qd Ed g r l h k
theorem allT (he : ∀ s H C cl fp, DTs (BCx X scope s H C cl fp) E0 ifs tt) : ∃ t, (∀ s H C cl fp, PTs (BCx X scope s H C cl fp) ifs t) ∧
    ∀ Z S H σ env Q Qd Ed, Good S H → Rel Z S H σ env → XLink X.mg S H Ed E0 → tt env Qd Ed → ContB S H Qd Q → t σ H Q := by
  have ch := fun s H C cl fp => (he s H C cl fp).run
  refine ⟨fun σ H Q => ∀ s H0 C cl fp, (ch s H0 C cl fp).choose σ H Q, fun s H0 C cl fp => ⟨fun pins s1 σ H Q I h => ?_⟩, fun Z S H σ env Q Qd Ed g r l h k s H0 C cl fp => ?_⟩
  · exact (ch s H0 C cl fp).choose_spec.1.run pins s1 σ H Q I (h s H0 C cl fp)
  · exact (ch s H0 C cl fp).choose_spec.2 Z S H σ env Q Qd Ed g r l h k
theorem allG (he : ∀ s H C cl fp, DG (BCx X scope s H C cl fp) tg vsg dg) : ∃ t, (∀ s H C cl fp, PG (BCx X scope s H C cl fp) tg t) ∧
    ∀ Z S H σ env x dx Q Qd, Rel Z S H σ env → Good S H → Rp S.bx S.F x dx → dg dx env Qd → (∀ σ2 env2, Rel Z S H σ2 env2 → Qd env2 → (∀ ws : List Nat, (∀ i ∈ vsg, i ∈ ws) → wipe σ2 ws = wipe σ ws) → Q σ2 H) → t x σ H Q := by
  have ch := fun s H C cl fp => (he s H C cl fp).run
  refine ⟨fun x σ H Q => ∀ s H0 C cl fp, (ch s H0 C cl fp).choose x σ H Q, fun s H0 C cl fp => ⟨fun pins s1 σ H v u Q I rv h => ?_⟩, fun Z S H σ env x dx Q Qd r g rp h k s H0 C cl fp => ?_⟩
  · exact (ch s H0 C cl fp).choose_spec.1.run pins s1 σ H v u Q I rv (h s H0 C cl fp)
  · exact (ch s H0 C cl fp).choose_spec.2 Z S H σ env x dx Q Qd r g rp h k
theorem wipe_idem : ∀ (σ : L2.St) (vs : List Nat), wipe (wipe σ vs) vs = wipe σ vs := by
  intro σ vs
  have key : ∀ (ws us : List Nat) (τ : L2.St), (∀ v ∈ us, v ∈ ws) → wipe (wipe τ us) ws = wipe τ ws := by
    intro ws us
    induction us with
    | nil => intro τ _; rfl
    | cons u r ih =>
      intro τ h
      show wipe ((wipe τ r).set u none) ws = _
      rw [wipe_set (h u List.mem_cons_self)]
      exact ih τ fun v hv => h v (List.mem_cons_of_mem _ hv)
  exact key vs vs σ fun v h => h
theorem lc_at {wi : TI} {g : TG} {t1 : TT} {t2 : TE} {vs : List Nat} (hv : ∀ i ∈ vsg, i ∈ vs) {Z : Hp} {S : Sta} {H : Hp} {σ : L2.St} {env : Env'} {Q : VK} {Qd : List D → Prop} (gd : Good S H) (r : Rel Z S H σ env)
    (si : ∀ R : It → Hp → Prop, (∀ J H' S' xs, Stp S H S' H' → Good S' H' → Wlk S'.bx S'.F J xs → lcD dg tt te (wipeD env vs) (fun _ => False) Qd xs [] → R J H') → wi σ H R)
    (sg : ∀ Z S H σ env x dx Q Qd, Rel Z S H σ env → Good S H → Rp S.bx S.F x dx → dg dx env Qd → (∀ σ2 env2, Rel Z S H σ2 env2 → Qd env2 → (∀ ws : List Nat, (∀ i ∈ vsg, i ∈ ws) → wipe σ2 ws = wipe σ ws) → Q σ2 H) → g x σ H Q)
    (s1 : ∀ Z S H σ env Q Qd Ed, Good S H → Rel Z S H σ env → XLink X.mg S H Ed E0 → tt env Qd Ed → ContB S H Qd Q → t1 σ H Q)
    (s2 : ∀ Z S H σ env Q Qd Ed, Good S H → Rel Z S H σ env → XLink X.mg S H Ed E0 → te env Qd Ed → Cont S H Qd Q → t2 σ H Q)
    (k : ∀ p H' S' vs xs, Stp S H S' H' → Good S' H' → H p = none → H' p = some (.lst vs) → S'.F p = none → ¬ InB S'.bx p → RpL S'.bx S'.F vs xs → Qd xs → Q (.ref p) H') : tLc wi g t1 t2 vs σ H Q := by
  refine si _ fun J H1 S1 xs st1 g1 w1 h1 => ?_
  intro p hp
  obtain ⟨q1, q2⟩ := step_own g1 (o := HO.lst []) hp
  have nb1 : ¬ InB S1.bx p := fun z => by obtain ⟨o, e⟩ := g1.box z; rw [hp] at e; cases e
  have nf1 : S1.F p = none := none_of_keep fun o e => by have := g1.fz _ _ e; rw [hp] at this; cases this
  have ap : ∀ {S' : Sta} {H' : Hp} {o : HO}, Good S' H' → Stp S1 H1 S' H' → S'.F p = none → ¬ InB S'.bx p → Good S' (upd H' p o) ∧ Stp S1 H1 S' (upd H' p o) := fun {S' H' o} g st hf hb =>
    ⟨good_mut g hf hb, st.ext, st.new, st.box, fun b u e hb' => by rw [upd_ne (ne_of_none e hp)]; exact st.keep b u e hb'⟩
  refine ⟨fun i m H => m = xs.length - i ∧ i ≤ xs.length ∧ ∃ S' vs' acc, Good S' H ∧ Stp S1 H1 S' H ∧ H p = some (.lst vs') ∧ S'.F p = none ∧ ¬ InB S'.bx p ∧ RpL S'.bx S'.F vs' acc ∧ lcD dg tt te (wipeD env vs) (fun _ => False) Qd (xs.drop i) acc,
    ⟨_, rfl, Nat.zero_le _, S1, [], [], q2, q1, upd_same, nf1, nb1, .nil, h1⟩, ?_⟩
  rintro i m H2 ⟨rfl, hle, S2, vs2, acc, g2, st2, hp2, nf2, nb2, r2, h2⟩
  have w := w1 S2 H2 st2.le g2 i
  by_cases hlt : i < xs.length
  · have ed : xs.drop i = xs[i] :: xs.drop (i + 1) := List.drop_eq_getElem_cons hlt
    rw [ed] at h2
    obtain ⟨go, yl⟩ := w.1 xs[i] (List.getElem?_eq_getElem hlt)
    obtain ⟨Nx, hN⟩ : ∃ Nx : Hp → Prop, Nx = fun H => ∃ S' vs' acc, Good S' H ∧ Stp S1 H1 S' H ∧ H p = some (.lst vs') ∧ S'.F p = none ∧ ¬ InB S'.bx p ∧ RpL S'.bx S'.F vs' acc ∧ lcD dg tt te (wipeD env vs) (fun _ => False) Qd (xs.drop (i + 1)) acc := ⟨_, rfl⟩
    refine .inr ⟨go, Nx, fun H' q => ⟨xs.length - (i + 1), by omega, rfl, hlt, by rw [hN] at q; exact q⟩, fun x H3 hy => ?_⟩
    obtain ⟨S3, st3, g3, rp⟩ := yl x H3 hy
    -- the state at p through a step
    have through : ∀ {S4 : Sta} {H4 : Hp}, Stp S2 H2 S4 H4 → Good S4 H4 → H4 p = some (.lst vs2) ∧ S4.F p = none ∧ ¬ InB S4.bx p := fun {S4 H4} st g => by
      refine ⟨st.keep _ _ hp2 nb2, none_of_keep fun o e => ?_, fun z => ?_⟩
      · rcases st.new _ _ e with z | z
        · rw [nf2] at z; cases z
        · rw [hp2] at z; cases z
      · rcases st.inB z with z | z
        · exact nb2 z
        · rw [hp2] at z; cases z
    have rw0 : Rel Z S3 H3 (wipe σ vs) (wipeD env vs) := rel_wipe ((r.step (st1.trans g1 st2)).step st3) vs
    refine sg Z S3 H3 _ _ x _ _ _ rw0 g3 rp h2 fun σ2 env2 r4 h4 hw => ⟨(hw vs hv).trans (wipe_idem σ vs), ?_⟩
    refine s1 Z S3 H3 σ2 env2 _ _ _ g3 r4 xl0 h4 fun b H5 S5 st5 g5 h5 => ?_
    cases b with
    | false =>
      rw [if_neg Bool.false_ne_true, hN]
      have st25 := st3.trans g3 st5
      obtain ⟨e1, e2, e3⟩ := through st25 g5
      exact ⟨S5, vs2, acc, g5, st2.trans g2 st25, e1, e2, e3, r2.le st25.le, h5⟩
    | true =>
      rw [if_pos rfl]
      refine s2 Z S5 H5 σ2 env2 _ _ _ g5 (r4.step st5) xl0 h5 fun y H6 S6 dy st6 g6 ry h6 => ?_
      have st26 := (st3.trans g3 st5).trans g5 st6
      obtain ⟨e1, e2, e3⟩ := through st26 g6
      refine ⟨vs2, e1, by rw [r2.length]; exact h6.1, ?_⟩
      rw [hN]
      obtain ⟨g7, st7⟩ := ap (o := .lst (vs2 ++ [y])) g6 (st2.trans g2 st26) e2 e3
      exact ⟨S6, vs2 ++ [y], acc ++ [dy], g7, st7, upd_same, e2, e3, (r2.le st26.le).app (.one ry), h6.2⟩
  · have e : i = xs.length := by omega
    subst e
    rw [List.drop_length] at h2
    refine .inl ⟨w.2 rfl, k p H2 S2 vs2 acc (st1.trans g1 st2) g2 (st1.free g1 hp) hp2 nf2 nb2 r2 h2⟩
theorem lc_sem {wi : TI} {g : TG} {t1 : TT} {t2 : TE} {vs : List Nat} (hv : ∀ i ∈ vsg, i ∈ vs)
    (si : ∀ Z S H σ env R Rd Ed, Good S H → Rel Z S H σ env → XLink X.mg S H Ed E → di env Rd Ed → (∀ J H' S' xs, Stp S H S' H' → Good S' H' → Wlk S'.bx S'.F J xs → Rd xs → R J H') → wi σ H R)
    (sg : ∀ Z S H σ env x dx Q Qd, Rel Z S H σ env → Good S H → Rp S.bx S.F x dx → dg dx env Qd → (∀ σ2 env2, Rel Z S H σ2 env2 → Qd env2 → (∀ ws : List Nat, (∀ i ∈ vsg, i ∈ ws) → wipe σ2 ws = wipe σ ws) → Q σ2 H) → g x σ H Q)
    (s1 : ∀ Z S H σ env Q Qd Ed, Good S H → Rel Z S H σ env → XLink X.mg S H Ed E0 → tt env Qd Ed → ContB S H Qd Q → t1 σ H Q)
    (s2 : ∀ Z S H σ env Q Qd Ed, Good S H → Rel Z S H σ env → XLink X.mg S H Ed E0 → te env Qd Ed → Cont S H Qd Q → t2 σ H Q) : NSem X.mg E (tLc wi g t1 t2 vs) (dLc di dg tt te vs) :=
  fun Z S H σ env Q Qd Ed gd r l h k => lc_at (X := X) hv gd r (fun R hR => si Z S H σ env R _ Ed gd r l h hR) sg s1 s2 k
theorem dn_lc (hc : X.calm = true) (hN : X.N.Nodup) (hi : DI X E tg iter di) (ok : BlkOk X.N X.env.scope scope own) (hv : ∀ i ∈ vsg, i ∈ own.map (·.2)) (hg : ∀ s H C cl fp, DG (BCx X scope s H C cl fp) tg vsg dg)
    (ht : ∀ s H C cl fp, DTs (BCx X scope s H C cl fp) E0 ifs tt) (he : ∀ s H C cl fp, DE (BCx X scope s H C cl fp) E0 elt te) (hs : ∀ x, foldedSetIterable iter X.env x = pure x := by intro _; rfl) :
    DN X E (.ListComp elt [⟨tg, iter, ifs, 0⟩] scope pos) (dLc di dg tt te (own.map (·.2))) := by
  obtain ⟨wi, pi, si⟩ := hi.run
  obtain ⟨g, pg, sg⟩ := allG hg
  obtain ⟨t1, p1, s1⟩ := allT ht
  obtain ⟨t2, p2, s2⟩ := allE he
  exact ⟨_, pe_lc hc hN pi ok pg p1 p2 hs, lc_sem hv si sg s1 s2⟩
/-! ### a new list given to a name: frozen, or one's own -/
def dSetN (i : Nat) (d : DN_) : DS_ := fun De env => d env (fun xs => De.nx (env.set i (.v (.ls xs)))) De.ex
def dSetO (i : Nat) (d : DN_) : DS_ := fun De env => d env (fun xs => De.nx (env.set i (.own xs))) De.ex
theorem set_frz {t : TE} {d : DN_} (s : NSem X.mg E t d) (i : Nat) {B : Base} {De : DEnds} {Dn : Ends} (l : Lnk X.mg E B De Dn) {S : Sta} {σ : L2.St} {env : Env'} {H : Hp} (a : At B S H) (r : Rel B.H0 S H σ env) (h : dSetN i d De env) :
    tAsg t (gName i) Dn σ H := by
  refine s _ S H σ env _ _ _ a.g r (l.xl a) h fun p H' S' vs xs s' g' h0 h1 h2 h3 r' h' => ?_
  have le : Le S'.bx S'.F S'.bx (upd S'.F p (.lst vs)) := ⟨fun b o e => by
    have : b ≠ p := fun z => by rw [z, h2] at e; cases e
    rw [upd_ne this]; exact e, fun x e => e⟩
  have st : Stp S H ⟨S'.bx, upd S'.F p (.lst vs)⟩ H' := ⟨fun b o e => le.f b o (s'.ext b o e), fun b o e => by
    by_cases z : b = p
    · rw [z]; exact .inr h0
    · have e' : upd S'.F p (.lst vs) b = some o := e
      rw [upd_ne z] at e'
      exact s'.new b o e', s'.box, s'.keep⟩
  have g2 := good_frz g' h1 h3
  exact l.nx _ _ _ H' (a.step st g2) ((r.step st).put (.ls (by show upd S'.F p (.lst vs) p = _; exact upd_same) (r'.le le))) h'
theorem set_own {t : TE} {d : DN_} (s : NSem X.mg E t d) (i : Nat) {B : Base} {De : DEnds} {Dn : Ends} (l : Lnk X.mg E B De Dn) {S : Sta} {σ : L2.St} {env : Env'} {H : Hp} (a : At B S H) (r : Rel B.H0 S H σ env) (h : dSetO i d De env) :
    tAsg t (gName i) Dn σ H := by
  refine s _ S H σ env _ _ _ a.g r (l.xl a) h fun p H' S' vs xs s' g' h0 h1 h2 h3 r' h' => ?_
  refine l.nx _ _ _ H' (a.step s' g') ((r.step s').putOwn (a.p.free a.g h0) h1 h2 h3 (fun j ys ej ez => ?_) r') h'
  obtain ⟨b, ws, q1, q2, _⟩ := r.at_ j _ ej
  rw [ez] at q1; cases q1
  rw [h0] at q2; cases q2
theorem DN.sem {e : Expr} {d : DN_} (h : DN X E e d) : ∃ t, PE X e t ∧ NSem X.mg E t d := h.run
theorem ds_setN (i : Nat) {x : Str} {p' : Pos} {e : Expr} {d : DN_} (he : DN X E e d) (hN : X.N.Nodup) (hi : X.N[i]? = some x := by rfl) (hx : Loc X.env.scope x := by first | exact Or.inl rfl | exact Or.inr rfl) (hs : swapsWith e (some (.Name x p')) pos.line X.env = pure false := by rfl)
    (hf : X.fn x = true ∨ X.env.scope.names.lookup x = some .local := by first | exact .inl rfl | exact .inr rfl | assumption) : DS X E (.Assign [.Name x p'] e pos) (dSetN i d) := by
  obtain ⟨t, p, q⟩ := he.sem
  exact ⟨_, ps_set hN hi hx p hs hf, fun B De Dn l S σ env H a r h => set_frz q i l a r h⟩
theorem ds_setO (i : Nat) {x : Str} {p' : Pos} {e : Expr} {d : DN_} (he : DN X E e d) (hN : X.N.Nodup) (hi : X.N[i]? = some x := by rfl) (hx : Loc X.env.scope x := by first | exact Or.inl rfl | exact Or.inr rfl) (hs : swapsWith e (some (.Name x p')) pos.line X.env = pure false := by rfl)
    (hf : X.fn x = true ∨ X.env.scope.names.lookup x = some .local := by first | exact .inl rfl | exact .inr rfl | assumption) : DS X E (.Assign [.Name x p'] e pos) (dSetO i d) := by
  obtain ⟨t, p, q⟩ := he.sem
  exact ⟨_, ps_set hN hi hx p hs hf, fun B De Dn l S σ env H a r h => set_own q i l a r h⟩
/-- y = [..] on one line -/
theorem ds_setLcN (i : Nat) {y : Str} {py spos : Pos} (hc : X.calm = true) (hN : X.N.Nodup) (hi : DI X E tg iter di) (ok : BlkOk X.N X.env.scope scope own) (hv : ∀ i ∈ vsg, i ∈ own.map (·.2)) (hg : ∀ s H C cl fp, DG (BCx X scope s H C cl fp) tg vsg dg)
    (ht : ∀ s H C cl fp, DTs (BCx X scope s H C cl fp) E0 ifs tt) (he : ∀ s H C cl fp, DE (BCx X scope s H C cl fp) E0 elt te)
    (hsw : swapsWith (.ListComp elt [⟨tg, iter, ifs, 0⟩] scope pos) (some (.Name y py)) spos.line X.env = pure true) (hy : X.N[i]? = some y := by rfl) (hyl : X.env.scope.names.lookup y = some .local := by rfl) (hs : ∀ x, foldedSetIterable iter X.env x = pure x := by intro _; rfl) :
    DS X E (.Assign [.Name y py] (.ListComp elt [⟨tg, iter, ifs, 0⟩] scope pos) spos) (dSetN i (dLc di dg tt te (own.map (·.2)))) := by
  obtain ⟨wi, pi, si⟩ := hi.run
  obtain ⟨g, pg, sg⟩ := allG hg
  obtain ⟨t1, p1, s1⟩ := allT ht
  obtain ⟨t2, p2, s2⟩ := allE he
  exact ⟨_, ps_setLc hc hN hy hyl hsw pi ok pg p1 p2 hs, fun B De Dn l S σ env H a r h => set_frz (lc_sem hv si sg s1 s2) i l a r h⟩
theorem ds_setLcO (i : Nat) {y : Str} {py spos : Pos} (hc : X.calm = true) (hN : X.N.Nodup) (hi : DI X E tg iter di) (ok : BlkOk X.N X.env.scope scope own) (hv : ∀ i ∈ vsg, i ∈ own.map (·.2)) (hg : ∀ s H C cl fp, DG (BCx X scope s H C cl fp) tg vsg dg)
    (ht : ∀ s H C cl fp, DTs (BCx X scope s H C cl fp) E0 ifs tt) (he : ∀ s H C cl fp, DE (BCx X scope s H C cl fp) E0 elt te)
    (hsw : swapsWith (.ListComp elt [⟨tg, iter, ifs, 0⟩] scope pos) (some (.Name y py)) spos.line X.env = pure true) (hy : X.N[i]? = some y := by rfl) (hyl : X.env.scope.names.lookup y = some .local := by rfl) (hs : ∀ x, foldedSetIterable iter X.env x = pure x := by intro _; rfl) :
    DS X E (.Assign [.Name y py] (.ListComp elt [⟨tg, iter, ifs, 0⟩] scope pos) spos) (dSetO i (dLc di dg tt te (own.map (·.2)))) := by
  obtain ⟨wi, pi, si⟩ := hi.run
  obtain ⟨g, pg, sg⟩ := allG hg
  obtain ⟨t1, p1, s1⟩ := allT ht
  obtain ⟨t2, p2, s2⟩ := allE he
  exact ⟨_, ps_setLc hc hN hy hyl hsw pi ok pg p1 p2 hs, fun B De Dn l S σ env H a r h => set_own (lc_sem hv si sg s1 s2) i l a r h⟩
/-- [a, b, ..] -/
def dLstN (u : DA_) : DN_ := fun env Q E => u env (fun xs => szOk xs.length ∧ Q xs) E
theorem own_new {S S1 : Sta} {H H1 : Hp} (s1 : Stp S H S1 H1) (g1 : Good S1 H1) {p : Addr} {vs : List V} (hp : H1 p = none) :
    Stp S H S1 (upd H1 p (.lst vs)) ∧ Good S1 (upd H1 p (.lst vs)) ∧ H p = none ∧ S1.F p = none ∧ ¬ InB S1.bx p := by
  obtain ⟨a, b⟩ := step_own g1 (o := HO.lst vs) hp
  refine ⟨s1.trans g1 a, b, s1.free g1 hp, none_of_keep fun o e => (by have := g1.fz _ _ e; rw [hp] at this; cases this), fun z => (by obtain ⟨o, e⟩ := g1.box z; rw [hp] at e; cases e)⟩
theorem dn_lst {es : List Expr} {u : DA_} (h : DA X E es u) : DN X E (.List es pos) (dLstN u) := by
  obtain ⟨t, p, q⟩ := h.run
  refine ⟨_, pe_lst p, fun Z S H σ env Q Qd Ed g r l h k => ?_⟩
  refine q Z S H σ env _ _ Ed g r l h fun vs H1 S1 xs s1 g1 r1 h1 => ⟨by rw [r1.length]; exact h1.1, fun p hp => ?_⟩
  obtain ⟨a1, a2, a3, a4, a5⟩ := own_new (vs := vs) s1 g1 hp
  exact k p _ S1 vs xs a1 a2 a3 upd_same a4 a5 r1 h1.2
/-- xs + ys, two lists -/
def dCatN (da db : DT_) : DN_ := fun env Q E => da env (fun x => db env (fun y => match x, y with | .ls xs, .ls ys => szOk (xs.length + ys.length) ∧ Q (xs ++ ys) | _, _ => False) E) E
theorem dn_cat {a b : Expr} {da db : DT_} (ha : DE X E a da) (hb : DE X E b db) : DN X E (.BinOp a .Add b pos) (dCatN da db) := by
  obtain ⟨ta, pa, ra⟩ := ha.run
  obtain ⟨tb, pb, rb⟩ := hb.run
  refine ⟨_, pe_op op_cat pa pb, fun Z S H σ env Q Qd Ed g r l h k => ?_⟩
  refine ra Z S H σ env _ _ Ed g r l h fun x H1 S1 dx s1 g1 r1 h1 => ?_
  refine rb Z S1 H1 σ env _ _ Ed g1 (r.step s1) (l.step s1 g1) h1 fun y H2 S2 dy s2 g2 r2 h2 => ?_
  have r1 := r1.le s2.le
  split at h2
  · cases r1 with
    | ls e1 q1 =>
      cases r2 with
      | ls e2 q2 =>
        refine ⟨_, _, _, _, rfl, rfl, g2.fz _ _ e1, g2.fz _ _ e2, by rw [q1.length, q2.length]; exact h2.1, fun p hp => ?_⟩
        obtain ⟨a1, a2, a3, a4, a5⟩ := own_new (s1.trans g1 s2) g2 hp
        exact k p _ S2 _ _ a1 a2 a3 upd_same a4 a5 (q1.app q2) h2.2
  · exact h2.elim
/-- xs * n, a list -/
def dRepN (da db : DT_) : DN_ := fun env Q E => da env (fun x => db env (fun y => match x, y with | .ls xs, .it n => -(2 ^ 63) ≤ n ∧ n < 2 ^ 63 ∧ szOk (xs.length * n.toNat) ∧ Q (List.replicate n.toNat xs).flatten | _, _ => False) E) E
theorem dn_rep {a b : Expr} {da db : DT_} (ha : DE X E a da) (hb : DE X E b db) : DN X E (.BinOp a .Mult b pos) (dRepN da db) := by
  obtain ⟨ta, pa, ra⟩ := ha.run
  obtain ⟨tb, pb, rb⟩ := hb.run
  refine ⟨_, pe_op op_rep pa pb, fun Z S H σ env Q Qd Ed g r l h k => ?_⟩
  refine ra Z S H σ env _ _ Ed g r l h fun x H1 S1 dx s1 g1 r1 h1 => ?_
  refine rb Z S1 H1 σ env _ _ Ed g1 (r.step s1) (l.step s1 g1) h1 fun y H2 S2 dy s2 g2 r2 h2 => ?_
  have r1 := r1.le s2.le
  split at h2
  · cases r2
    cases r1 with
    | ls e1 q1 =>
      refine ⟨_, _, _, rfl, rfl, g2.fz _ _ e1, h2.1, h2.2.1, by rw [q1.length]; exact h2.2.2.1, fun p hp => ?_⟩
      obtain ⟨a1, a2, a3, a4, a5⟩ := own_new (s1.trans g1 s2) g2 hp
      exact k p _ S2 _ _ a1 a2 a3 upd_same a4 a5 (q1.rep _) h2.2.2.2
  · exact h2.elim
/-- list(x) -/
def dListN (u : DA_) : DN_ := fun env Q E => u env (fun xs => match xs with | [.tp ys] => Q ys | [.ls ys] => Q ys | _ => False) E
theorem dn_list {u : DA_} {e : Expr} {p : Pos} (hg : Gl X "list") (hm : X.mg "list" = none) (ha : DA X E [e] u) (he : starEach [e] X.env = (false, eval e X.env) :: starEach [] X.env := by rfl) : DN X E (.Call (.Name "list" p) [e] [] pos) (dListN u) := by
  obtain ⟨t, p, q⟩ := ha.run
  refine ⟨_, pe_callTy call_list_of hg hm (by decide +kernel) p (by decide) (by decide) he rfl, fun Z S H σ env Q Qd Ed g r l h k => ?_⟩
  refine q Z S H σ env _ _ Ed g r l h fun vs H1 S1 xs s1 g1 r1 h1 => ?_
  split at h1
  · cases r1 with
    | cons r1 r2 =>
      cases r2
      cases r1 with
      | tp e rr =>
        refine ⟨_, _, rfl, .inr (SqT.of (g1.fz _ _ e)), fun p hp => ?_⟩
        obtain ⟨a1, a2, a3, a4, a5⟩ := own_new s1 g1 hp
        exact k p _ S1 _ _ a1 a2 a3 upd_same a4 a5 rr h1
  · cases r1 with
    | cons r1 r2 =>
      cases r2
      cases r1 with
      | ls e rr =>
        refine ⟨_, _, rfl, .inl (SqL.of (g1.fz _ _ e)), fun p hp => ?_⟩
        obtain ⟨a1, a2, a3, a4, a5⟩ := own_new s1 g1 hp
        exact k p _ S1 _ _ a1 a2 a3 upd_same a4 a5 rr h1
  · exact h1.elim

/-! ### changes -/
def dApp (i : Nat) (de : DT_) : DS_ := fun De env => match env[i]? with | some (.own xs) => de env (fun y => xs.length < sizeLine ∧ De.nx (env.set i (.own (xs ++ [y])))) De.ex | _ => False
theorem ds_append (i : Nat) {x : Str} {e : Expr} {de : DT_} {p1 p2 p3 : Pos} (he : DE X E e de) (hN : X.N[i]? = some x := by rfl) (hv : Vis X.env.scope x := by first | exact Or.inl rfl | exact Or.inr (Or.inl rfl) | exact Or.inr (Or.inr rfl)) (hd : (x == ("__debug__" : Str)) = false := by decide)
    (hcd : (x == ("__classdict__" : Str)) = false := by decide) (hb : attributeBase (.Name x p1) "append" X.env (eval (.Name x p1) X.env) = eval (.Name x p1) X.env := by rfl)
    (hs : starEach [e] X.env = (false, eval e X.env) :: starEach [] X.env := by rfl) (hsw : swapsWith (.Call (.Attribute (.Name x p1) "append" p2) [e] [] p3) none pos.line X.env = pure false := by rfl)
    (hfew : (((backTo p3 (starEach [e] X.env)).all (!·.1) && (backToKw p3 (keywordEach [] X.env)).all (·.1.isSome)) && decide (([e] : List Expr).length + ([] : List Keyword).length + (if ([] : List Keyword).isEmpty then 0 else 1) < 30)) = true := by rfl)
    (hline : (p2.endLine == p3.line) = true := by rfl) :
    DS X E (.Expr (.Call (.Attribute (.Name x p1) "append" p2) [e] [] p3) pos) (dApp i de) := by
  obtain ⟨t, p, q⟩ := he.run
  refine ⟨_, ps_expr (pe_bm PySem.F.plainAttrs_list PySem.F.slot_list_append PySem.F.type_list_append mt_append (pe_var hN hv hd hcd) (pa_cons p pa_nil hs) hb hfew hline hs rfl) hsw, fun B De Dn l S σ env H a r h => ?_⟩
  unfold dApp at h
  split at h
  · next xs ei =>
    obtain ⟨b, vs, e1, e2, e3, e4, e5, e6⟩ := r.at_ i _ ei
    refine ⟨_, e1, .inl ⟨rfl, _, SqL.of e2⟩, ?_⟩
    refine q _ S H σ env _ _ _ a.g r (l.xl a) h fun v H1 S1 y s1 g1 r1 h1 => ?_
    have r' := r.step s1
    obtain ⟨b', vs', q1, q2, q3, q4, q5, q6⟩ := r'.at_ i _ ei
    rw [e1] at q1; cases q1
    refine ⟨b, vs', v, rfl, rfl, q2, by rw [q6.length]; exact h1.1, ?_⟩
    have a1 := a.step s1 g1
    refine l.nx S1 σ _ _ ⟨good_mut g1 q3 q4, ⟨a1.p.ext, a1.p.new, a1.p.box, fun c o ec hc => ?_⟩, a1.f⟩ (r'.mut ei e1 (q6.app (.one r1))) h1.2
    rw [upd_ne (ne_of_none ec q5)]; exact a1.p.keep c o ec hc
  · exact h.elim
end
end Dl

set_option Elab.async false
set_option linter.all false
set_option maxRecDepth 100000
set_option maxHeartbeats 4000000
/-! Dl8: contracts of defs, calls of them. -/
namespace Dl
open PySem PySem.Spec PyProof.Rows L2

abbrev SpD := List D → DK → EK → Prop
/-- a def's promise over data; no repr runs around the call -/
structure GFn (P : Program) (w : World) (K : PySem.W.Frag) (mg : Str → Option Value) (base : Heap) (k : Nat) (f : Addr) (fd : FuncData) (ps : List Str) (sp : SpD) : Prop where
  len : ∀ ds Q E, sp ds Q E → ds.length = ps.length
  run : ∀ (A : Around) (outer : List Env) (s : Shared) (H : Hp) (args : Args) (us : List Value) (vs : List V) (Q : VK) (E : XK) (S : Sta) (ds : List D) (Qd : DK) (Ed : EK), Room k A → A.guards = some [] → Env0 P w K mg base A outer s H → BindsTo s fd args (ps.zip us) → Vals vs us →
    Good S H → RpL S.bx S.F vs ds → sp ds Qd Ed → Cont S H Qd Q → XLink mg S H Ed E → codeAny (model P w) A (.call (.ref f) args) (CR (L2.CX P w) outer P w H s Q E) s
theorem GFn.mono {P : Program} {w : World} {K : PySem.W.Frag} {mg : Str → Option Value} {base : Heap} {j k : Nat} {f : Addr} {fd : FuncData} {ps : List Str} {sp : SpD} (F : GFn P w K mg base j f fd ps sp) (h : j ≤ k) :
    GFn P w K mg base k f fd ps sp := ⟨F.len, fun A outer s H args us vs Q E S ds Qd Ed hr => F.run A outer s H args us vs Q E S ds Qd Ed (hr.mono h)⟩
theorem GFn.imp {P : Program} {w : World} {K : PySem.W.Frag} {mg : Str → Option Value} {base : Heap} {k : Nat} {f : Addr} {fd : FuncData} {ps : List Str} {sp sp' : SpD} (F : GFn P w K mg base k f fd ps sp)
    (h : ∀ ds Q E, sp' ds Q E → sp ds Q E) : GFn P w K mg base k f fd ps sp' :=
  ⟨fun ds Q E q => F.len ds Q E (h _ _ _ q), fun A outer s H args us vs Q E S ds Qd Ed hr hg e0 hb hv g rp hs => F.run A outer s H args us vs Q E S ds Qd Ed hr hg e0 hb hv g rp (h _ _ _ hs)⟩
/-- the slots at the entry -/
def dstart (n : Nat) (ds : List D) : Env' := ds.map Sl.v ++ List.replicate (n - ds.length) Sl.no
theorem rel_start {S : Sta} {H : Hp} {N : List Str} {vs : List V} {ds : List D} (r : RpL S.bx S.F vs ds) : Rel H S H (L2.start N vs) (dstart N.length ds) where
  len := by
    unfold L2.start dstart
    rw [List.length_append, List.length_append, List.length_map, List.length_map, List.length_replicate, List.length_replicate, r.length]
  at_ := fun i s e => by
    unfold dstart at e
    by_cases hi : i < ds.length
    · rw [List.getElem?_append_left (by simpa using hi), List.getElem?_map] at e
      cases e1 : ds[i]? with
      | none => rw [e1] at e; cases e
      | some d =>
        rw [e1] at e
        cases e
        obtain ⟨v, h1, h2⟩ := r.getD e1
        refine ⟨v, ?_, h2⟩
        unfold L2.start
        rw [List.getElem?_append_left (by rw [List.length_map, r.length]; exact hi), List.getElem?_map, h1]; rfl
    · rw [List.getElem?_append_right (by simpa using hi), List.getElem?_replicate] at e
      split at e
      · cases e; trivial
      · cases e
  sep := fun i j xs ys a _ e1 _ _ => by
    exfalso
    unfold dstart at e1
    by_cases hi : i < ds.length
    · rw [List.getElem?_append_left (by simpa using hi), List.getElem?_map] at e1
      cases e2 : ds[i]? with
      | none => rw [e2] at e1; cases e1
      | some d => rw [e2] at e1; cases e1
    · rw [List.getElem?_append_right (by simpa using hi), List.getElem?_replicate] at e1
      split at e1 <;> cases e1
abbrev cxD (P : Program) (w : World) (K : PySem.W.Frag) (mg : Str → Option Value) (base : Heap) (N : List Str) (qual : Str) (scope : Scope) (f : Addr) (cd : Value) (A : Around) (outer : List Env) (s : Shared) (H : Hp) (E : XK) : Cx :=
  cxOf (L2.CX P w) P w K mg base N qual scope f cd A outer s H E
section
variable {P : Program} {w : World} {K : PySem.W.Frag} {mg : Str → Option Value} {base : Heap}
/-- the same over the heap -/
structure HFn (P : Program) (w : World) (K : PySem.W.Frag) (mg : Str → Option Value) (base : Heap) (k : Nat) (f : Addr) (fd : FuncData) (ps : List Str) (sp : Sp) : Prop where
  len : ∀ vs H Q E, sp vs H Q E → vs.length = ps.length
  run : ∀ (A : Around) (outer : List Env) (s : Shared) (H : Hp) (args : Args) (us : List Value) (vs : List V) (Q : VK) (E : XK), Room k A → A.guards = some [] → Env0 P w K mg base A outer s H → BindsTo s fd args (ps.zip us) → Vals vs us →
    sp vs H Q E → codeAny (model P w) A (.call (.ref f) args) (CR (L2.CX P w) outer P w H s Q E) s
theorem hfn_mk {x qual : Str} {st : Stmt} {f : Addr} {fd : FuncData} {N ps : List Str} {k : Nat} {sp : Sp} (F : Fun K x qual st f fd) (S : FnScope N ps (defScope st)) (len : ∀ vs H Q E, sp vs H Q E → vs.length = ps.length)
    (hbody : ∀ (cdv : Value) (A : Around) (outer : List Env) (s : Shared) (H : Hp) (vs : List V) (Q : VK) (E : XK), Room k (A.deeper (envOfC qual (defScope st) s.heap.objs.size f cdv)) → A.guards = some [] → sp vs H Q E →
      ∃ t, PSs (cxD P w K mg base N qual (defScope st) f cdv A outer s H E) (defBody st) t ∧ t { nx := fun _ H' => Q .non H', rt := Q } (start N vs) H) : HFn P w K mg base (k + 1) f fd ps sp := by
  obtain ⟨oc, od, kV, doc, pm, an, cdv, ct, osl, rfl, lk, hcd⟩ := F.ex
  refine ⟨len, fun A outer s H args us vs Q E hr hgd e0 hb r hsp => ?_⟩
  have hl : vs.length = ps.length := len _ _ _ _ hsp
  have KX : K.In s.heap := e0.mod.kin.keeps fun b o e => (e0.bs b o e).1
  have lim : s.heap.NoLimit := e0.mod.nolimit.keeps fun b o e => (e0.bs b o e).1
  have hkind : ∀ y ∈ ps.zip us, (defScope st).names.lookup y.1 = some .local ∨ ((defScope st).names.lookup y.1 = some .cell ∧ ((cellsFrom (s.heap.objs.size + 1) (defScope st).names []).lookup y.1).isSome = true) := fun ⟨n, v⟩ hy => by
    rcases S.par n (List.of_mem_zip hy).1 with q | q
    · exact .inl q
    · exact .inr ⟨q, PySem.W.cellsFrom_some _ _ _ (.inl q)⟩
  refine codeAny_call_function hr.depth (KX _ _ lk) rfl S.co S.gen rfl (PySem.W.codeRec_of KX hcd) (hb _ _ _ _ ?_)
  refine wpAny_newFunctionEnv_cells S.kind hkind fun env he s1 x => ?_
  subst he
  refine ⟨lim.keeps x.toInCall.keep, codeAny_func ?_⟩
  obtain ⟨t, ht, hrun⟩ := hbody cdv A outer s H vs Q E (hr.deeper _) hgd hsp
  have I : Inv (cxD P w K mg base N qual (defScope st) f cdv A outer s H E) [] (start N vs) H s1 := inv_start S hr.hd e0 hl r x
  refine wpAny_mono (ht.run [] s1 (start N vs) H _ I hrun) (fun fl s' hs => ?_) fun e s' hs => hs
  have fin : ∀ {σ' : L2.St} {H' : Hp} {v : V} {u : Value}, Inv (cxD P w K mg base N qual (defScope st) f cdv A outer s H E) [] σ' H' s' → RelV v u → Q v H' → CE outer P w H s Q u s' :=
    fun {σ' H' v u} J rv q => ⟨v, H', J.os, J.bare, J.base, J.hok, rv, q⟩
  cases fl with
  | ret u =>
    obtain ⟨v, σ', H', J, rv, q⟩ := hs
    exact fin J rv q
  | next =>
    obtain ⟨σ', H', J, q⟩ := hs
    exact fin (v := V.non) (u := Value.none) J rfl q
  | brk =>
    obtain ⟨_, _, _, q⟩ := hs
    exact False.elim q
  | cont =>
    obtain ⟨_, _, _, q⟩ := hs
    exact False.elim q
/-- a promise over data, over the heap -/
def liftSp (mg : Str → Option Value) (sp : SpD) : Sp := fun vs H Q E => ∃ (S : Sta) (ds : List D) (Qd : DK) (Ed : EK), Good S H ∧ RpL S.bx S.F vs ds ∧ sp ds Qd Ed ∧ Cont S H Qd Q ∧ XLink mg S H Ed E
theorem GFn.of {k : Nat} {f : Addr} {fd : FuncData} {ps : List Str} {sp : SpD} (h : HFn P w K mg base k f fd ps (liftSp mg sp)) (len : ∀ ds Q E, sp ds Q E → ds.length = ps.length) : GFn P w K mg base k f fd ps sp :=
  ⟨len, fun A outer s H args us vs Q E S ds Qd Ed hr hg e0 hb rv g rp hs k0 l0 => h.run A outer s H args us vs Q E hr hg e0 hb rv ⟨S, ds, Qd, Ed, g, rp, hs, k0, l0⟩⟩
/-- THE RULE for a def -/
theorem gfn_mk {x qual : Str} {st : Stmt} {f : Addr} {fd : FuncData} {N ps : List Str} {k : Nat} {sp : SpD} {d : DS_} (F : Fun K x qual st f fd) (S : FnScope N ps (defScope st)) (len : ∀ ds Q E, sp ds Q E → ds.length = ps.length)
    (hbody : ∀ (cdv : Value) (A : Around) (outer : List Env) (s : Shared) (H : Hp) (E : XK), Room k (A.deeper (envOfC qual (defScope st) s.heap.objs.size f cdv)) → A.guards = some [] →
      DSs (cxD P w K mg base N qual (defScope st) f cdv A outer s H E) E (defBody st) d)
    (law : ∀ ds Q E, sp ds Q E → d { nx := fun _ => Q .non, rt := Q, ex := E } (dstart N.length ds)) : GFn P w K mg base (k + 1) f fd ps sp := by
  refine GFn.of (hfn_mk F S (fun vs H Q E h => ?_) fun cdv A outer s H vs Q E hr hgd hsp => ?_) len
  · obtain ⟨S0, ds, Qd, Ed, g, rp, hsp, _⟩ := h
    rw [rp.length]; exact len _ _ _ hsp
  · obtain ⟨S0, ds, Qd, Ed, g, rp, hsp, k0, l0⟩ := hsp
    obtain ⟨t, ht, hq⟩ := (hbody cdv A outer s H E hr hgd).run
    refine ⟨t, ht, ?_⟩
    refine hq ⟨S0, H, S0.F, S0.bx⟩ { nx := fun _ => Qd .non, rt := Qd, ex := Ed } _ ⟨fun S σ env H1 a _ h => ?_, fun _ _ _ _ _ _ h => h.elim, fun _ _ _ _ _ _ h => h.elim, fun S v dv H1 a rv h => ?_, l0⟩ S0 (start N vs) (dstart N.length ds) H ⟨g, .refl _ _, .refl _ _⟩ (rel_start rp) (law ds Qd Ed hsp)
    · exact k0 .non H1 S .non a.p a.g .non h
    · exact k0 v H1 S dv a.p a.g rv h
/-- a def that may be called -/
structure Cal (P : Program) (w : World) (K : PySem.W.Frag) (mg : Str → Option Value) (base : Heap) (k : Nat) (x : Str) (ps : List Str) (sp : SpD) : Prop where
  ex : ∃ f fd, GFn P w K mg base k f fd ps sp ∧ mg x = some (.ref f) ∧ PySem.W.keepIn K (.ref f) = true ∧ Binds K fd ps []
theorem Cal.mono {j k : Nat} {x : Str} {ps : List Str} {sp : SpD} (c : Cal P w K mg base j x ps sp) (h : j ≤ k) : Cal P w K mg base k x ps sp :=
  let ⟨f, fd, a, b⟩ := c.ex; ⟨f, fd, a.mono h, b⟩
theorem Cal.imp {k : Nat} {x : Str} {ps : List Str} {sp sp' : SpD} (c : Cal P w K mg base k x ps sp) (h : ∀ ds Q E, sp' ds Q E → sp ds Q E) : Cal P w K mg base k x ps sp' :=
  let ⟨f, fd, a, b⟩ := c.ex; ⟨f, fd, a.imp h, b⟩
end
/-! ### calls -/
def dCall (sp : SpD) (u : DA_) : DT_ := fun env Q E => u env (fun xs => sp xs Q E) E
section
variable {X : Cx} {E : XK} {k : Nat} {x : Str} {ps : List Str} {sp : SpD} {p pos : Pos} {e : Expr} {es : List Expr} {u : DA_}
theorem run_g {f : Addr} {fd : FuncData} {pins : List (Addr × Obj)} {σ : L2.St} {H : Hp} {s : Shared} {Q : VK} {us : List Value} {vs : List V} {S : Sta} {ds : List D} {Qd : DK} {Ed : EK} (F : GFn X.prog X.w X.K X.mg X.base k f fd ps sp) (hr : Room k X.A) (hgd : X.A.guards = some []) (hb : Binds X.K fd ps []) (hx : Passes (L2.CX X.prog X.w) X E)
    (I : Inv X pins σ H s) (r : Vals vs us) (g : Good S H) (rp : RpL S.bx S.F vs ds) (h : sp ds Qd Ed) (k0 : Cont S H Qd Q) (l : XLink X.mg S H Ed E) : wpAny (model X.prog X.w) X.A (call (.ref f) us) (EP X pins σ Q) X.xe s := by
  have hl : us.length = ps.length := by rw [← r.length, rp.length]; exact F.len _ _ _ h
  have b := hb s us I.kIn (by rw [List.append_nil]; exact hl)
  rw [List.append_nil] at b
  refine wpAny_call (codeAny_mono (F.run X.A X.stack s H ⟨us, []⟩ us vs Q E S ds Qd Ed hr hgd I.env0 b r g rp h k0 l) fun r s' hq => ?_)
  cases r with
  | error e => exact hx pins σ H s e s' I hq
  | ok fl =>
    cases fl with
    | ret u => exact I.after hq
    | next => exact False.elim hq
    | brk => exact False.elim hq
    | cont => exact False.elim hq
/-- the callee's reading -/
def tG (mg : Str → Option Value) (sp : SpD) (E : XK) (t : TA) : TE := fun σ H Q => t σ H fun vs H1 => ∃ S ds Qd Ed, Good S H1 ∧ RpL S.bx S.F vs ds ∧ sp ds Qd Ed ∧ Cont S H1 Qd Q ∧ XLink mg S H1 Ed E
theorem de_call (c : Cal X.prog X.w X.K X.mg X.base k x ps sp) (hr : Room k X.A) (hgd : X.A.guards = some []) (hx : Passes (L2.CX X.prog X.w) X E) (hg : Gl X x) (ha : DA X E (e :: es) u)
    (hdb : (x == ("__debug__" : Str)) = false := by decide) (he : starEach (e :: es) X.env = (false, eval e X.env) :: starEach es X.env := by rfl) (hpl : (backTo pos (starEach es X.env)).any (·.1) = false := by rfl) :
    DE X E (.Call (.Name x p) (e :: es) [] pos) (dCall sp u) := by
  obtain ⟨f, fd, F, hm, hk, hb⟩ := c.ex
  obtain ⟨t, pa, q⟩ := ha.run
  refine ⟨tG X.mg sp E t, ⟨fun pins s σ H Q I h => ?_⟩, fun Z S H σ env Q Qd Ed g r l h k0 => ?_⟩
  · refine wpAny_Call_Name_kw (ld_glob I hg hm ?_ hdb)
    refine PySem.W.callWith_K (h₀ := X.base) I.ok.mod.kin hk (thn (pa.run pos pins s σ H _ I h) fun us s1 ⟨vs, H1, I1, r, S, ds, Qd, Ed, g, rp, h, k0, l⟩ => ⟨I1.kIn, ?_⟩) he hpl
    exact run_g F hr hgd hb hx I1 r g rp h k0 l
  · exact q Z S H σ env _ _ Ed g r l h fun vs H1 S1 xs s1 g1 r1 h1 => ⟨S1, xs, Qd, Ed, g1, r1, h1, k0.step s1 g1, l.step s1 g1⟩
theorem de_call0 (c : Cal X.prog X.w X.K X.mg X.base k x ps sp) (hr : Room k X.A) (hgd : X.A.guards = some []) (hx : Passes (L2.CX X.prog X.w) X E) (hg : Gl X x)
    (hdb : (x == ("__debug__" : Str)) = false := by decide) : DE X E (.Call (.Name x p) [] [] pos) (dCall sp dNil) := by
  obtain ⟨f, fd, F, hm, hk, hb⟩ := c.ex
  refine ⟨tG X.mg sp E tNil, ⟨fun pins s σ H Q I h => ?_⟩, fun Z S H σ env Q Qd Ed g r l h k0 => ⟨S, [], Qd, Ed, g, .nil, h, k0, l⟩⟩
  obtain ⟨S, ds, Qd, Ed, g, rp, h, k0, l⟩ := h
  refine wpAny_Call_Name_kw (ld_glob I hg hm ?_ hdb)
  exact PySem.W.callWith_K0 I.kIn hk (run_g (us := []) F hr hgd hb hx I .nil g rp h k0 l)
end
/-- what a def's context gives -/
theorem passD {P : Program} {w : World} {K : PySem.W.Frag} {mg : Str → Option Value} {base : Heap} {N : List Str} {qual : Str} {scope : Scope} {f : Addr} {cd : Value} {A : Around} {outer : List Env} {s : Shared} {H : Hp} {E : XK} :
    Passes (L2.CX P w) (cxD P w K mg base N qual scope f cd A outer s H E) E :=
  passes_call (X := cxD P w K mg base N qual scope f cd A outer s H E) (takes_of rfl rfl rfl rfl) fun _ _ _ _ h => h
end Dl

set_option Elab.async false
set_option linter.all false
set_option maxRecDepth 100000
set_option maxHeartbeats 4000000
/-! Dl9: repr, ==, in over data. -/
namespace Dl
open PySem PySem.Spec PyProof.Rows L2

/-! ### data as the library has it -/
def keyPy : Key → PyData
  | .inl i => .int i
  | .inr s => .str s
mutual
def D.py : D → PyData
  | .non => .none
  | .bl b => .bool b
  | .it i => .int i
  | .st s => .str s
  | .tp xs => .tuple (pyL xs)
  | .ls xs => .list (pyL xs)
  | .dc kvs => .dict (pyK kvs)
  | .bx _ _ => .none
def pyL : List D → List PyData
  | [] => []
  | x :: r => x.py :: pyL r
def pyK : List (Key × D) → List (PyData × PyData)
  | [] => []
  | (k, v) :: r => (keyPy k, v.py) :: pyK r
end
/-- small numbers, texts of signs, no box within -/
def okStr (s : Str) : Prop := ∀ c ∈ s.cps.toList, c < 16 ^ 8
def okInt (i : Int) : Prop := -(2 ^ 256) < i ∧ i < 2 ^ 256
def okKey : Key → Prop
  | .inl i => okInt i
  | .inr s => okStr s
mutual
def okD : D → Prop
  | .non => True
  | .bl _ => True
  | .it i => okInt i
  | .st s => okStr s
  | .tp xs => okL xs
  | .ls xs => okL xs
  | .dc kvs => okK kvs
  | .bx _ _ => False
def okL : List D → Prop
  | [] => True
  | x :: r => okD x ∧ okL r
def okK : List (Key × D) → Prop
  | [] => True
  | (k, v) :: r => okKey k ∧ okD v ∧ okK r
end
def massKey : Key → Nat
  | .inl _ => 1
  | .inr s => 1 + s.length
mutual
def mass : D → Nat
  | .non => 1
  | .bl _ => 1
  | .it _ => 1
  | .st s => 1 + s.length
  | .tp xs => 1 + massL xs
  | .ls xs => 1 + massL xs
  | .dc kvs => 1 + massK kvs
  | .bx _ _ => 1
def massL : List D → Nat
  | [] => 0
  | x :: r => mass x + massL r
def massK : List (Key × D) → Nat
  | [] => 0
  | (k, v) :: r => massKey k + mass v + massK r
end
mutual
def deep : D → Nat
  | .tp xs => deepL xs + 1
  | .ls xs => deepL xs + 1
  | .dc kvs => deepK kvs + 1
  | .non => 0
  | .bl _ => 0
  | .it _ => 0
  | .st _ => 0
  | .bx _ _ => 0
def deepL : List D → Nat
  | [] => 0
  | x :: r => max (deep x) (deepL r)
def deepK : List (Key × D) → Nat
  | [] => 0
  | (_, v) :: r => max (deep v) (deepK r)
end
mutual
theorem deep_py : ∀ d : D, d.py.depth = deep d
  | .non => by simp only [D.py, PyData.depth, deep]
  | .bl _ => by simp only [D.py, PyData.depth, deep]
  | .it _ => by simp only [D.py, PyData.depth, deep]
  | .st _ => by simp only [D.py, PyData.depth, deep]
  | .tp xs => by simp only [D.py, PyData.depth, deep, deepL_py xs]
  | .ls xs => by simp only [D.py, PyData.depth, deep, deepL_py xs]
  | .dc kvs => by simp only [D.py, PyData.depth, deep, deepK_py kvs]
  | .bx _ _ => by simp only [D.py, PyData.depth, deep]
theorem deepL_py : ∀ d : List D, PyData.depthAll (pyL d) = deepL d
  | [] => by simp only [pyL, PyData.depthAll, deepL]
  | x :: r => by simp only [pyL, PyData.depthAll, deepL, deep_py x, deepL_py r]
theorem deepK_py : ∀ d : List (Key × D), PyData.depthKv (pyK d) = deepK d
  | [] => by simp only [pyK, PyData.depthKv, deepK]
  | (k, v) :: r => by
    have : (keyPy k).depth = 0 := by cases k <;> simp only [keyPy, PyData.depth]
    simp only [pyK, PyData.depthKv, deepK, deep_py v, deepK_py r, this, Nat.zero_max]
end
theorem log_of {i : Int} (h : okInt i) : i.natAbs.log2 < 256 := by
  by_cases z : i.natAbs = 0
  · rw [z]; decide
  · rw [Nat.log2_lt z]
    have := h.1
    have := h.2
    omega
theorem log19 {i : Int} (h : okInt i) : i.natAbs.log2 < 1920 := Nat.lt_trans (log_of h) (by decide)
theorem len_int {i : Int} (h : okInt i) : (PyData.shown (.int i)).length ≤ 257 := by
  simp only [PyData.shown]
  rw [PySem.ofString_length]
  exact int_text_length_le (k := 256) (by decide) (log_of h)
theorem show_key {k : Key} (h : okKey k) : (keyPy k).showable = true ∧ (keyPy k).shown.length + 4 ≤ 300 * massKey k := by
  cases k with
  | inl i =>
    refine ⟨by simp only [keyPy, PyData.showable, decide_eq_true_eq]; exact log19 h, ?_⟩
    have := len_int (i := i) h
    show (PyData.shown (.int i)).length + 4 ≤ 300 * 1
    omega
  | inr s =>
    refine ⟨by simp only [keyPy, PyData.showable], ?_⟩
    have := PySem.StrLaws.reprText_len s h
    show (PyData.shown (.str s)).length + 4 ≤ 300 * (1 + s.length)
    simp only [PyData.shown]
    omega
mutual
theorem show_ok : ∀ d : D, okD d → d.py.showable = true ∧ d.py.shown.length + 2 ≤ 300 * mass d
  | .non, _ => ⟨by simp only [D.py, PyData.showable], by show 4 + 2 ≤ 300 * 1; decide⟩
  | .bl b, _ => ⟨by simp only [D.py, PyData.showable], by cases b <;> decide⟩
  | .it i, h => ⟨by simp only [D.py, PyData.showable, decide_eq_true_eq]; exact log19 (by simpa only [okD] using h), by
      have := len_int (i := i) (by simpa only [okD] using h)
      show (PyData.shown (.int i)).length + 2 ≤ 300 * 1
      omega⟩
  | .st s, h => ⟨by simp only [D.py, PyData.showable], by
      have := PySem.StrLaws.reprText_len s (by simp only [okD] at h; exact h)
      show (PyData.shown (.str s)).length + 2 ≤ 300 * (1 + s.length)
      simp only [PyData.shown]
      omega⟩
  | .tp xs, h => by
    obtain ⟨a, b⟩ := show_okL xs (by simpa only [okD] using h)
    refine ⟨by simp only [D.py, PyData.showable]; exact a, ?_⟩
    have h2 := tupleText_len_le (PyData.shownAll (pyL xs))
    simp only [D.py, PyData.shown, mass]
    omega
  | .ls xs, h => by
    obtain ⟨a, b⟩ := show_okL xs (by simpa only [okD] using h)
    refine ⟨by simp only [D.py, PyData.showable]; exact a, ?_⟩
    have h2 := listText_len_le (PyData.shownAll (pyL xs))
    simp only [D.py, PyData.shown, mass]
    omega
  | .dc kvs, h => by
    obtain ⟨a, b⟩ := show_okK kvs (by simpa only [okD] using h)
    refine ⟨by simp only [D.py, PyData.showable]; exact a, ?_⟩
    have h2 := dictText_len_le (PyData.shownKv (pyK kvs))
    simp only [D.py, PyData.shown, mass]
    omega
  | .bx _ _, h => by simp only [okD] at h
theorem show_okL : ∀ xs : List D, okL xs → PyData.showableAll (pyL xs) = true ∧ ((PyData.shownAll (pyL xs)).map (·.length)).sum + 2 * (PyData.shownAll (pyL xs)).length ≤ 300 * massL xs
  | [], _ => ⟨by simp only [pyL, PyData.showableAll], by simp only [pyL, PyData.shownAll, List.map_nil, List.sum_nil, List.length_nil, massL]; decide⟩
  | x :: r, h => by
    simp only [okL] at h
    obtain ⟨a, b⟩ := show_ok x h.1
    obtain ⟨c, d⟩ := show_okL r h.2
    refine ⟨by simp only [pyL, PyData.showableAll, a, c, Bool.and_self], ?_⟩
    simp only [pyL, PyData.shownAll, List.map_cons, List.sum_cons, List.length_cons, massL]
    omega
theorem show_okK : ∀ xs : List (Key × D), okK xs → PyData.showableKv (pyK xs) = true ∧ ((PyData.shownKv (pyK xs)).map (·.length)).sum + 2 * (PyData.shownKv (pyK xs)).length ≤ 300 * massK xs
  | [], _ => ⟨by simp only [pyK, PyData.showableKv], by simp only [pyK, PyData.shownKv, List.map_nil, List.sum_nil, List.length_nil, massK]; decide⟩
  | (k, v) :: r, h => by
    simp only [okK] at h
    obtain ⟨a0, b0⟩ := show_key h.1
    obtain ⟨a, b⟩ := show_ok v h.2.1
    obtain ⟨c, d⟩ := show_okK r h.2.2
    refine ⟨by simp only [pyK, PyData.showableKv, a0, a, c, Bool.and_self], ?_⟩
    have e2 : ((keyPy k).shown ++ ": " ++ v.py.shown).length = (keyPy k).shown.length + 2 + v.py.shown.length := by
      rw [strLen_append, strLen_append]; rfl
    simp only [pyK, PyData.shownKv, List.map_cons, List.sum_cons, List.length_cons, massK]
    omega
end
/-- may be shown -/
structure Fit (d : D) : Prop where
  ok : okD d
  m : mass d ≤ 50000
  h : deep d ≤ 150
theorem Fit.size {d : D} (f : Fit d) : d.py.shown.length ≤ sizeLine := by
  have := (show_ok d f.ok).2
  have := f.m
  rw [sizeLine_eq]
  omega

/-! ### reading -/
theorem RpK.keys {t : Option Bx} {F : Hp} : ∀ {vs : List (Key × V)} {ds : List (Key × D)}, RpK t F vs ds → vs.map (·.1) = ds.map (·.1)
  | _, _, .nil => rfl
  | _, _, .cons _ s => by rw [List.map_cons, List.map_cons, s.keys]
theorem keys_reads {P : Program} {w : World} {h : Heap} : ∀ {kvs : List (Key × V)} {ds : List (Key × D)} {vs : List (Key × Value)} {es : List DictEntry}, KV kvs vs → Pairs (mixKind P w) es vs → (kvs.map (·.1)) = ds.map (·.1) → ReadsAll h (es.map (·.key)) ((pyK ds).map (·.1)) []
  | [], [], _, _, .nil, .nil, _ => .nil
  | [], _ :: _, _, _, _, _, e => by simp at e
  | _ :: _, [], _, _, _, _, e => by simp at e
  | (k, v) :: r, (k', d) :: ds, _, _, .cons e1 t, .cons (e := en) q1 q2 q3, e => by
    simp only [List.map_cons, List.cons.injEq] at e
    obtain ⟨rfl, e⟩ := e
    have h1 := keys_reads (h := h) (ds := ds) t q3 e
    have q1' : keyIs k en.key = true := by
      have := e1.1
      have e2 : k = _ := e1.1
      rw [e2]; exact q1
    simp only [pyK, List.map_cons]
    rcases keyIs_shape q1' with ⟨i, t, rfl, ek⟩ | ⟨x, t, rfl, ek⟩
    · exact ReadsAll.cons (as := []) (by rw [ek]; exact Reads.int i t) h1
    · exact ReadsAll.cons (as := []) (by rw [ek]; exact Reads.str x t) h1
mutual
/-- data that stand in the heap read as data; sysModules is none of them -/
theorem Rp.reads {P : Program} {w : World} {S : Sta} {H : Hp} {h : Heap} (ok : HOk P w H h) (g : Good S H) (hm : H sysModules = none) : ∀ (d : D) (v : V) (u : Value), okD d → Rp S.bx S.F v d → RelV v u → ∃ as, Reads h u d.py as ∧ sysModules ∉ as
  | .non, _, _, _, r, e => by cases r; cases e; exact ⟨_, by simp only [D.py]; exact Reads.none, by simp⟩
  | .bl b, _, _, _, r, e => by cases r; cases e; exact ⟨_, by simp only [D.py]; exact Reads.bool b, by simp⟩
  | .it i, _, _, _, r, e => by cases r; obtain ⟨t, rfl⟩ := e; exact ⟨_, by simp only [D.py]; exact Reads.int i t, by simp⟩
  | .st s, _, _, _, r, e => by cases r; obtain ⟨t, rfl⟩ := e; exact ⟨_, by simp only [D.py]; exact Reads.str s t, by simp⟩
  | .tp xs, _, _, k, r, e => by
    cases r with
    | @tp a vs _ e1 rr =>
      cases e
      have q := g.fz _ _ e1
      obtain ⟨_, its, rv, o, ho, hc, n, hd⟩ : ObjOk P w H h a (.tup vs) := ok _ _ q
      obtain ⟨as, h1, h2⟩ := Rp.readsL ok g hm xs vs its (by simpa only [okD] using k) rr rv
      exact ⟨_, by simp only [D.py]; exact Reads.tuple ho hc hd h1, h2⟩
  | .ls xs, _, _, k, r, e => by
    cases r with
    | @ls a vs _ e1 rr =>
      cases e
      have q := g.fz _ _ e1
      obtain ⟨_, its, n, rv, ho⟩ : ObjOk P w H h a (.lst vs) := ok _ _ q
      obtain ⟨as, h1, h2⟩ := Rp.readsL ok g hm xs vs its (by simpa only [okD] using k) rr rv
      refine ⟨_, by simp only [D.py]; exact Reads.list ho rfl rfl (by simpa using h1), ?_⟩
      intro z
      rcases List.mem_cons.mp z with z | z
      · rw [z, q] at hm; cases hm
      · exact h2 z
  | .dc kvs, _, _, k, r, e => by
    cases r with
    | @dc a vs _ e1 rr =>
      cases e
      have q := g.fz _ _ e1
      obtain ⟨_, _, us, rv, o, es, ep, ho, hx, hd, _, hp, _⟩ : ObjOk P w H h a (.dK vs) := ok _ _ q
      obtain ⟨as, h1, h2⟩ := Rp.readsK ok g hm kvs vs us es.toList (by simpa only [okD] using k) rr rv hp
      have h3 := keys_reads (h := h) (ds := kvs) rv hp rr.keys
      refine ⟨_, by simp only [D.py]; exact Reads.dict ho hx.1 hd h3 h1, ?_⟩
      intro z
      rcases List.mem_cons.mp (by simpa using z) with z | z
      · rw [z, q] at hm; cases hm
      · exact h2 z
  | .bx _ _, _, _, k, _, _ => by simp only [okD] at k
theorem Rp.readsL {P : Program} {w : World} {S : Sta} {H : Hp} {h : Heap} (ok : HOk P w H h) (g : Good S H) (hm : H sysModules = none) : ∀ (d : List D) (v : List V) (u : List Value), okL d → RpL S.bx S.F v d → Vals v u → ∃ as, ReadsAll h u (pyL d) as ∧ sysModules ∉ as
  | [], _, _, _, r, e => by cases r; cases e; exact ⟨_, by simp only [pyL]; exact .nil, by simp⟩
  | x :: xs, _, _, k, r, e => by
    simp only [okL] at k
    cases r with
    | cons r1 r2 =>
      cases e with
      | cons e1 e2 =>
        obtain ⟨as, h1, h2⟩ := Rp.reads ok g hm x _ _ k.1 r1 e1
        obtain ⟨bs, h3, h4⟩ := Rp.readsL ok g hm xs _ _ k.2 r2 e2
        refine ⟨_, by simp only [pyL]; exact .cons h1 h3, ?_⟩
        intro z
        rcases List.mem_append.mp z with z | z
        · exact h2 z
        · exact h4 z
theorem Rp.readsK {P : Program} {w : World} {S : Sta} {H : Hp} {h : Heap} (ok : HOk P w H h) (g : Good S H) (hm : H sysModules = none) : ∀ (d : List (Key × D)) (v : List (Key × V)) (u : List (Key × Value)) (es : List DictEntry), okK d → RpK S.bx S.F v d → KV v u → Pairs (mixKind P w) es u →
    ∃ as, ReadsAll h (es.map (·.val)) ((pyK d).map (·.2)) as ∧ sysModules ∉ as
  | [], _, _, _, _, r, e, p => by cases r; cases e; cases p; exact ⟨_, by simp only [pyK, List.map_nil]; exact .nil, by simp⟩
  | (k0, x) :: xs, _, _, _, k, r, e, p => by
    simp only [okK] at k
    cases r with
    | cons r1 r2 =>
      cases e with
      | cons e1 e2 =>
        cases p with
        | cons p1 p2 p3 =>
          obtain ⟨as, h1, h2⟩ := Rp.reads ok g hm x _ _ k.2.1 r1 e1.2
          obtain ⟨bs, h3, h4⟩ := Rp.readsK ok g hm xs _ _ _ k.2.2 r2 e2 p3
          refine ⟨_, by simp only [pyK, List.map_cons]; exact .cons (by rw [p2]; exact h1) h3, ?_⟩
          intro z
          rcases List.mem_append.mp z with z | z
          · exact h2 z
          · exact h4 z
end
end Dl

set_option Elab.async false
set_option linter.all false
set_option maxRecDepth 100000
set_option maxHeartbeats 4000000
/-! Dl10: the rules of repr, ==, !=, in, not in. -/
namespace PySem.SeqAt
open MeetsSeq AutoSeq1
theorem dict_declines_int (l : Addr) (es : Array DictEntry) (n : Nat) (dd : Option Addr) (sl : Array (Option Value)) (b : Int) (u : Tok) :
    Meets (Builtin.«dict.__eq__» ⟨[.ref l, .int b u], []⟩) (fun _ R s => s.heap.get? l = some { cls := .type "dict", dict := dd, data := .dict es n, slots := sl } ∧ R (.ok (.ret .notImplemented)) s) :=
  .of_wp fun prog w A R s h => by obtain ⟨hp, g, d, tk, os⟩ := s; obtain ⟨hl, h⟩ := h; have f1 := F.sub_int_dict; wp_walk using wpAny_loadPart' hl, wpAny_load hl; exact ⟨_, rfl, h⟩
theorem int_declines_dict (b : Int) (u : Tok) (l : Addr) (es : Array DictEntry) (n : Nat) (dd : Option Addr) (sl : Array (Option Value)) :
    Meets (Builtin.«int.__eq__» ⟨[.int b u, .ref l], []⟩) (fun _ R s => s.heap.get? l = some { cls := .type "dict", dict := dd, data := .dict es n, slots := sl } ∧ R (.ok (.ret .notImplemented)) s) :=
  .of_wp fun prog w A R s h => by obtain ⟨hp, g, d, tk, os⟩ := s; obtain ⟨hl, h⟩ := h; wp_walk using wpAny_loadPart' hl, wpAny_load hl; exact ⟨_, rfl, h⟩
theorem rcAt_dict_int {A : Around} {s : Shared} {l : Addr} {o : Obj} {es : Array DictEntry} {n : Nat} (b : Int) (u : Tok) (ho : s.heap.get? l = some o) (hc : o.cls = .type "dict") (hd : o.data = .dict es n) (hu : A.units < cLine) : RcAt A s (.ref l) (.int b u) false := fun prog w E Q h => by
  obtain ⟨cls, dd, data, sl⟩ := o
  simp only at hc hd
  subst hc hd
  exact rc_eq_decline_or (k := false) ⟨_, ho, rfl⟩ (typeIs_int s b u) (by decide) F.sub_int_dict F.slot_dict_eq F.slot_int_eq_refl
    (fun _ hq => call_meets F.slot_dict_eq ⟨_, ho, rfl⟩ F.entry_dict_eq (F.args_dict_eq_2 _ _) (dict_declines_int l es n dd sl b u) ⟨ho, hq⟩)
    (fun _ hq => call_meets F.slot_int_eq_refl (typeIs_int s b u) F.entry_int_eq (F.args_int_eq_2 _ _) (int_declines_dict b u l es n dd sl) ⟨ho, hq⟩)
    (fun _ hq => wpAny_of_eq (rfl : isSame (.ref l) (.int b u) = pure false) hq) (.inr hu) h
end PySem.SeqAt
namespace Dl
open PySem PySem.Spec PyProof.Rows L2

/-! ### repr -/
def rReprD : List V → Hp → VK → Prop := fun xs H Q => ∃ x S d, xs = [x] ∧ Good S H ∧ Rp S.bx S.F x d ∧ Fit d ∧ Q (.str d.py.shown) H
theorem sys_none {X : Cx} {pins : List (Addr × Obj)} {σ : L2.St} {H : Hp} {s : Shared} (I : Inv X pins σ H s) (hs : ∃ o, X.base.get? sysModules = some o) : H sysModules = none :=
  let ⟨o, e⟩ := hs; (I.bs _ o e).2
theorem call_reprD {X : Cx} {k : Nat} (hr : Room k X.A) (hgd : X.A.guards = some []) (hs : ∃ o, X.base.get? sysModules = some o) : CallR X (.builtin "repr") rReprD := by
  intro pins s σ H xs us Q I r h
  obtain ⟨x, S, d, rfl, g, rp, f, q⟩ := h
  obtain ⟨u, rfl, ru⟩ := vals1 r
  obtain ⟨as, h1, h2⟩ := Rp.reads I.hok g (sys_none I hs) d x u f.ok rp ru
  have hz := f.size
  have hsh := (show_ok d f.ok).1
  have kk : ∀ h' tk, (∀ b o, s.heap.get? b = some o → h'.get? b = some o) → ∀ u, EP X pins σ Q (.str d.py.shown u) { s with heap := h', toks := tk } := fun h' tk k u => ⟨.str _, H, I.kept k, ⟨_, rfl⟩, q⟩
  have tk : ∀ t u, EP X pins σ Q (.str d.py.shown u) { s with toks := t } := fun t u => ⟨.str _, H, I.tok t, ⟨_, rfl⟩, q⟩
  have big : ∀ a, Reads s.heap (.ref a) d.py as → wpAny (model X.prog X.w) X.A (call (.builtin "repr") [.ref a]) (EP X pins σ Q) X.xe s := fun a h1 =>
    PySem.repr_of_reads' h1 hsh (fun _ => h2) hgd (by have := hr.un; have := f.h; rw [deep_py]; omega) (fun _ _ e => e) (fun h' u t k => kk h' t k u) hz
  cases d with
  | non => cases rp; cases ru; exact PySem.P.repr_of_none (tk _ _)
  | bl b => cases rp; cases ru; exact PySem.P.repr_of_bool (by have := tk (s.toks + 1) s.toks; simpa only [D.py, PyData.shown] using this)
  | it i => cases rp; obtain ⟨t, rfl⟩ := ru; exact PySem.P.repr_of_int (log19 (by have := f.ok; simpa only [okD] using this)) (by have := tk (s.toks + 1) s.toks; simpa only [D.py, PyData.shown] using this)
  | st z => cases rp; obtain ⟨t, rfl⟩ := ru; exact PySem.P.repr_of_str (by have := tk (s.toks + 1) s.toks; simpa only [D.py, PyData.shown] using this) (by simpa only [D.py, PyData.shown] using hz)
  | tp ys => cases rp; cases ru; exact big _ h1
  | ls ys => cases rp; cases ru; exact big _ h1
  | dc ys => cases rp; cases ru; exact big _ h1
  | bx _ _ => have := f.ok; simp only [okD] at this
def oRepr (xs : List D) (Q : DK) : Prop := match xs with | [d] => Fit d ∧ Q (.st d.py.shown) | _ => False
section
variable {X : Cx} {E : XK} {pos : Pos} {a b : Expr} {da db : DT_} {k : Nat}
theorem de_repr {u : DA_} {e : Expr} {p : Pos} (hr : Room k X.A) (hgd : X.A.guards = some []) (hsys : ∃ o, X.base.get? sysModules = some o) (hg : Gl X "repr") (hm : X.mg "repr" = none) (ha : DA X E [e] u)
    (he : starEach [e] X.env = (false, eval e X.env) :: starEach [] X.env := by rfl) : DE X E (.Call (.Name "repr" p) [e] [] pos) (dCB oRepr u) := by
  refine de_callB (call_reprD hr hgd hsys) (fun S => ?_) hg hm (by decide +kernel) ha (by decide) (by decide) he rfl
  intro H vs ds Q Qd g r h k
  unfold oRepr at h
  split at h
  · cases r with
    | cons r1 r2 =>
      cases r2
      exact ⟨_, S, _, rfl, g, r1, h.1, k.now g (.st _) h.2⟩
  · exact h.elim

/-! ### ==, != -/
mutual
def plainD : D → Bool
  | .tp xs => plainDL xs
  | .ls xs => plainDL xs
  | .dc _ => false
  | .bx _ _ => false
  | .non => true
  | .bl _ => true
  | .it _ => true
  | .st _ => true
def plainDL : List D → Bool
  | [] => true
  | x :: r => plainD x && plainDL r
end
mutual
theorem plain_py : ∀ d : D, plainD d = true → d.py.plain = true
  | .non, _ => rfl
  | .bl _, _ => rfl
  | .it _, _ => rfl
  | .st _, _ => rfl
  | .tp xs, h => by simp only [plainD] at h; simp only [D.py, PyData.plain]; exact plainL_py xs h
  | .ls xs, h => by simp only [plainD] at h; simp only [D.py, PyData.plain]; exact plainL_py xs h
  | .dc _, h => by simp only [plainD] at h; cases h
  | .bx _ _, h => by simp only [plainD] at h; cases h
theorem plainL_py : ∀ d : List D, plainDL d = true → PyData.plainAll (pyL d) = true
  | [], _ => rfl
  | x :: r, h => by
    simp only [plainDL, Bool.and_eq_true] at h
    simp only [pyL, PyData.plainAll, plain_py x h.1, plainL_py r h.2, Bool.and_self]
end
mutual
/-- plain data read as data, whatever their numbers -/
theorem Rp.readsP {P : Program} {w : World} {S : Sta} {H : Hp} {h : Heap} (ok : HOk P w H h) (g : Good S H) : ∀ (d : D) (v : V) (u : Value), plainD d = true → Rp S.bx S.F v d → RelV v u → ∃ as, Reads h u d.py as
  | .non, _, _, _, r, e => by cases r; cases e; exact ⟨_, by simp only [D.py]; exact Reads.none⟩
  | .bl b, _, _, _, r, e => by cases r; cases e; exact ⟨_, by simp only [D.py]; exact Reads.bool b⟩
  | .it i, _, _, _, r, e => by cases r; obtain ⟨t, rfl⟩ := e; exact ⟨_, by simp only [D.py]; exact Reads.int i t⟩
  | .st s, _, _, _, r, e => by cases r; obtain ⟨t, rfl⟩ := e; exact ⟨_, by simp only [D.py]; exact Reads.str s t⟩
  | .tp xs, _, _, k, r, e => by
    cases r with
    | @tp a vs _ e1 rr =>
      cases e
      obtain ⟨_, its, rv, o, ho, hc, n, hd⟩ : ObjOk P w H h a (.tup vs) := ok _ _ (g.fz _ _ e1)
      obtain ⟨as, h1⟩ := Rp.readsPL ok g xs vs its (by simpa only [plainD] using k) rr rv
      exact ⟨_, by simp only [D.py]; exact Reads.tuple ho hc hd h1⟩
  | .ls xs, _, _, k, r, e => by
    cases r with
    | @ls a vs _ e1 rr =>
      cases e
      obtain ⟨_, its, n, rv, ho⟩ : ObjOk P w H h a (.lst vs) := ok _ _ (g.fz _ _ e1)
      obtain ⟨as, h1⟩ := Rp.readsPL ok g xs vs its (by simpa only [plainD] using k) rr rv
      exact ⟨_, by simp only [D.py]; exact Reads.list ho rfl rfl (by simpa using h1)⟩
  | .dc kvs, _, _, k, _, _ => by simp only [plainD] at k; cases k
  | .bx _ _, _, _, k, _, _ => by simp only [plainD] at k; cases k
theorem Rp.readsPL {P : Program} {w : World} {S : Sta} {H : Hp} {h : Heap} (ok : HOk P w H h) (g : Good S H) : ∀ (d : List D) (v : List V) (u : List Value), plainDL d = true → RpL S.bx S.F v d → Vals v u → ∃ as, ReadsAll h u (pyL d) as
  | [], _, _, _, r, e => by cases r; cases e; exact ⟨_, by simp only [pyL]; exact .nil⟩
  | x :: xs, _, _, k, r, e => by
    simp only [plainDL, Bool.and_eq_true] at k
    cases r with
    | cons r1 r2 =>
      cases e with
      | cons e1 e2 =>
        obtain ⟨as, h1⟩ := Rp.readsP ok g x _ _ k.1 r1 e1
        obtain ⟨bs, h3⟩ := Rp.readsPL ok g xs _ _ k.2 r2 e2
        exact ⟨_, by simp only [pyL]; exact .cons h1 h3⟩
end
def eqD (x y : D) : Bool := PyData.eqv x.py y.py
/-- may be compared -/
def cmpOk (x y : D) : Prop := plainD x = true ∧ plainD y = true ∧ min (deep x) (deep y) ≤ 150
def rEqD (neg : Bool) : R2 := fun x y H Q => (∃ S dx dy, Good S H ∧ Rp S.bx S.F x dx ∧ Rp S.bx S.F y dy ∧ cmpOk dx dy ∧ Q (.bl (neg ^^ eqD dx dy)) H)
/-- anything against a number -/
def eqIt : D → Int → Bool
  | .it i, j => i == j
  | .bl b, j => (if b then 1 else 0) == j
  | _, _ => false
def isBx : D → Bool
  | .bx _ _ => true
  | _ => false
def rEqIt (neg : Bool) : R2 := fun x y H Q => ∃ S d i, Good S H ∧ Rp S.bx S.F x d ∧ isBx d = false ∧ y = .int i ∧ Q (.bl (neg ^^ eqIt d i)) H
theorem op_eqD (hr : Room k X.A) : OpR X (compareOp .Eq) (rEqD false) := by
  intro pins s σ H x y v u Q I rx ry h
  obtain ⟨S, dx, dy, g, r1, r2, ⟨p1, p2, p3⟩, q⟩ := h
  obtain ⟨as, h1⟩ := Rp.readsP I.hok g dx x v p1 r1 rx
  obtain ⟨bs, h2⟩ := Rp.readsP I.hok g dy y u p2 r2 ry
  rw [Bool.false_xor] at q
  exact SeqAt.eq_plain h1 h2 (plain_py _ p1) (plain_py _ p2) (by rw [deep_py, deep_py]; have := hr.un; omega) ⟨.bl _, H, I, rfl, q⟩
theorem op_neD (hr : Room k X.A) : OpR X (compareOp .NotEq) (rEqD true) := by
  intro pins s σ H x y v u Q I rx ry h
  obtain ⟨S, dx, dy, g, r1, r2, ⟨p1, p2, p3⟩, q⟩ := h
  obtain ⟨as, h1⟩ := Rp.readsP I.hok g dx x v p1 r1 rx
  obtain ⟨bs, h2⟩ := Rp.readsP I.hok g dy y u p2 r2 ry
  rw [Bool.true_xor] at q
  exact SeqAt.ne_plain h1 h2 (plain_py _ p1) (plain_py _ p2) (by rw [deep_py, deep_py]; have := hr.un; omega) ⟨.bl _, H, I, rfl, q⟩
theorem rcAt_it {P : Program} {w : World} {S : Sta} {H : Hp} {s : Shared} {A : Around} (ok : HOk P w H s.heap) (g : Good S H) {d : D} {v : V} {u : Value} (hb : isBx d = false) (r : Rp S.bx S.F v d) (ru : RelV v u) (j : Int) (t : Tok) (hu : A.units < cLine) : SeqAt.RcAt A s u (.int j t) (eqIt d j) := by
  cases r with
  | non => cases ru; exact SeqAt.RcAt.none_int j t
  | bl b => cases ru; exact SeqAt.RcAt.bool_int b j t
  | it i => obtain ⟨t', rfl⟩ := ru; exact SeqAt.RcAt.int_int i t' j t
  | st x => obtain ⟨t', rfl⟩ := ru; exact SeqAt.RcAt.str_int x t' j t
  | @tp a vs _ e rr =>
    cases ru
    obtain ⟨_, its, rv, o, ho, hc, n, hd⟩ : ObjOk P w H s.heap a (.tup vs) := ok _ _ (g.fz _ _ e)
    exact SeqAt.RcAt.tuple_int j t ⟨_, ho, hc, _, hd⟩ hu
  | @ls a vs _ e rr =>
    cases ru
    obtain ⟨_, its, n, rv, ho⟩ : ObjOk P w H s.heap a (.lst vs) := ok _ _ (g.fz _ _ e)
    exact SeqAt.RcAt.list_int j t ⟨_, ho, rfl, _, rfl⟩ hu
  | @dc a vs _ e rr =>
    cases ru
    obtain ⟨_, _, us, rv, o, es, ep, ho, hx, hd, _⟩ : ObjOk P w H s.heap a (.dK vs) := ok _ _ (g.fz _ _ e)
    exact SeqAt.rcAt_dict_int j t ho hx.1 hd hu
  | bx => simp only [isBx, reduceCtorEq] at hb
theorem op_eqIt (hr : Room k X.A) : OpR X (compareOp .Eq) (rEqIt false) := by
  intro pins s σ H x y v u Q I rx ry h
  obtain ⟨S, d, i, g, r1, hb, rfl, q⟩ := h
  obtain ⟨t, rfl⟩ := ry
  rw [Bool.false_xor] at q
  exact rcAt_it I.hok g hb r1 rx i t (by have := hr.un; omega) X.prog X.w X.xe _ ⟨.bl _, H, I, rfl, q⟩
def oEq (x y : D) (Q : DK) : Prop := match y with
  | .it j => isBx x = false ∧ Q (.bl (eqIt x j))
  | y => cmpOk x y ∧ Q (.bl (eqD x y))
/-- neither the box nor a dict -/
def isBxDc : D → Bool
  | .bx _ _ => true
  | .dc _ => true
  | _ => false
def rNeIt : R2 := fun x y H Q => ∃ S d i, Good S H ∧ Rp S.bx S.F x d ∧ isBxDc d = false ∧ y = .int i ∧ Q (.bl (!eqIt d i)) H
theorem rcNe_it {P : Program} {w : World} {S : Sta} {H : Hp} {s : Shared} {A : Around} (ok : HOk P w H s.heap) (g : Good S H) {d : D} {v : V} {u : Value} (hb : isBxDc d = false) (r : Rp S.bx S.F v d) (ru : RelV v u) (j : Int) (t : Tok) (hu : A.units < cLine) : SeqAt.RcNeAt A s u (.int j t) (!eqIt d j) := by
  cases r with
  | non => cases ru; exact SeqAt.RcNeAt.none_int j t
  | bl b => cases ru; exact SeqAt.RcNeAt.bool_int b j t
  | it i => obtain ⟨t', rfl⟩ := ru; exact SeqAt.RcNeAt.int_int i t' j t
  | st x => obtain ⟨t', rfl⟩ := ru; exact SeqAt.RcNeAt.str_int x t' j t
  | @tp a vs _ e rr =>
    cases ru
    obtain ⟨_, its, rv, o, ho, hc, n, hd⟩ : ObjOk P w H s.heap a (.tup vs) := ok _ _ (g.fz _ _ e)
    exact SeqAt.RcNeAt.tuple_int j t ⟨_, ho, hc, _, hd⟩ hu
  | @ls a vs _ e rr =>
    cases ru
    obtain ⟨_, its, n, rv, ho⟩ : ObjOk P w H s.heap a (.lst vs) := ok _ _ (g.fz _ _ e)
    exact SeqAt.RcNeAt.list_int j t ⟨_, ho, rfl, _, rfl⟩ hu
  | dc => simp only [isBxDc, reduceCtorEq] at hb
  | bx => simp only [isBxDc, reduceCtorEq] at hb
theorem op_neIt (hr : Room k X.A) : OpR X (compareOp .NotEq) rNeIt := by
  intro pins s σ H x y v u Q I rx ry h
  obtain ⟨S, d, i, g, r1, hb, rfl, q⟩ := h
  obtain ⟨t, rfl⟩ := ry
  exact rcNe_it I.hok g hb r1 rx i t (by have := hr.un; omega) X.prog X.w X.xe _ ⟨.bl _, H, I, rfl, q⟩
def oNe (x y : D) (Q : DK) : Prop := match y with
  | .it j => isBxDc x = false ∧ Q (.bl (!eqIt x j))
  | y => cmpOk x y ∧ Q (.bl (!eqD x y))
theorem od_eq (S : Sta) : OpD S (fun x y H Q => rEqD false x y H Q ∨ rEqIt false x y H Q) oEq := by
  intro H x y dx dy Q Qd g rx ry h k
  unfold oEq at h
  split at h
  · cases ry
    exact .inr ⟨S, _, _, g, rx, h.1, rfl, by rw [Bool.false_xor]; exact k.now g (.bl _) h.2⟩
  · exact .inl ⟨S, _, _, g, rx, ry, h.1, by rw [Bool.false_xor]; exact k.now g (.bl _) h.2⟩
theorem od_ne (S : Sta) : OpD S (fun x y H Q => rEqD true x y H Q ∨ rNeIt x y H Q) oNe := by
  intro H x y dx dy Q Qd g rx ry h k
  unfold oNe at h
  split at h
  · cases ry
    exact .inr ⟨S, _, _, g, rx, h.1, rfl, k.now g (.bl _) h.2⟩
  · exact .inl ⟨S, _, _, g, rx, ry, h.1, by rw [Bool.true_xor]; exact k.now g (.bl _) h.2⟩
theorem de_eq (hr : Room k X.A) (ha : DE X E a da) (hb : DE X E b db) (hm : behindInMarks .Eq b = false := by first | exact nobehind _ (by decide) (by decide) | rfl) : DE X E (.Compare a [.Eq] [b] pos) (dOp oEq da db) := de_cmp ((op_eqD hr).or (op_eqIt hr)) od_eq ha hb hm
theorem de_ne (hr : Room k X.A) (ha : DE X E a da) (hb : DE X E b db) (hm : behindInMarks .NotEq b = false := by first | exact nobehind _ (by decide) (by decide) | rfl) : DE X E (.Compare a [.NotEq] [b] pos) (dOp oNe da db) := de_cmp ((op_neD hr).or (op_neIt hr)) od_ne ha hb hm
theorem db_eq (hr : Room k X.A) (ha : DE X E a da) (hb : DE X E b db) (hm : behindInMarks .Eq b = false := by first | exact nobehind _ (by decide) (by decide) | rfl) : DB X E (.Compare a [.Eq] [b] pos) (dTst (dOp oEq da db)) := db_cmp ((op_eqD hr).or (op_eqIt hr)) od_eq ha hb hm
theorem db_ne (hr : Room k X.A) (ha : DE X E a da) (hb : DE X E b db) (hm : behindInMarks .NotEq b = false := by first | exact nobehind _ (by decide) (by decide) | rfl) : DB X E (.Compare a [.NotEq] [b] pos) (dTst (dOp oNe da db)) := db_cmp ((op_neD hr).or (op_neIt hr)) od_ne ha hb hm
/-! ### in -/
def rInD2 (neg : Bool) : R2 := fun x y H Q => ∃ S dx ys, Good S H ∧ Rp S.bx S.F x dx ∧ (Rp S.bx S.F y (.tp ys) ∨ Rp S.bx S.F y (.ls ys)) ∧ plainD dx = true ∧ plainDL ys = true ∧ deep dx ≤ 150 ∧ Q (.bl (neg ^^ ys.any fun z => eqD z dx)) H
theorem any_py (d : D) : ∀ ys : List D, (pyL ys).any (fun z => PyData.eqv z d.py) = ys.any fun z => eqD z d
  | [] => rfl
  | y :: r => by simp only [pyL, List.any_cons, any_py d r, eqD]
theorem op_inD2 (hr : Room k X.A) : OpR X (compareOp .In) (rInD2 false) := by
  intro pins s σ H x y v u Q I rx ry h
  obtain ⟨S, dx, ys, g, r1, r2, p1, p2, p3, q⟩ := h
  obtain ⟨as, h1⟩ := Rp.readsP I.hok g dx x v p1 r1 rx
  rw [Bool.false_xor, ← any_py] at q
  rcases r2 with r2 | r2
  · obtain ⟨bs, h2⟩ := Rp.readsP I.hok g _ y u (by simp only [plainD]; exact p2) r2 ry
    simp only [D.py] at h2
    exact SeqAt.in_tuple_data h2 h1 (plainL_py _ p2) (plain_py _ p1) (by rw [deep_py]; have := hr.un; omega) ⟨.bl _, H, I, rfl, q⟩
  · obtain ⟨bs, h2⟩ := Rp.readsP I.hok g _ y u (by simp only [plainD]; exact p2) r2 ry
    simp only [D.py] at h2
    exact SeqAt.in_list_data h2 h1 (plainL_py _ p2) (plain_py _ p1) (by rw [deep_py]; have := hr.un; omega) ⟨.bl _, H, I, rfl, q⟩
theorem op_notInD2 (hr : Room k X.A) : OpR X (compareOp .NotIn) (rInD2 true) := by
  intro pins s σ H x y v u Q I rx ry h
  obtain ⟨S, dx, ys, g, r1, r2, p1, p2, p3, q⟩ := h
  obtain ⟨as, h1⟩ := Rp.readsP I.hok g dx x v p1 r1 rx
  rw [Bool.true_xor, ← any_py] at q
  rcases r2 with r2 | r2
  · obtain ⟨bs, h2⟩ := Rp.readsP I.hok g _ y u (by simp only [plainD]; exact p2) r2 ry
    simp only [D.py] at h2
    exact SeqAt.notIn_tuple_data h2 h1 (plainL_py _ p2) (plain_py _ p1) (by rw [deep_py]; have := hr.un; omega) ⟨.bl _, H, I, rfl, q⟩
  · obtain ⟨bs, h2⟩ := Rp.readsP I.hok g _ y u (by simp only [plainD]; exact p2) r2 ry
    simp only [D.py] at h2
    exact SeqAt.notIn_list_data h2 h1 (plainL_py _ p2) (plain_py _ p1) (by rw [deep_py]; have := hr.un; omega) ⟨.bl _, H, I, rfl, q⟩
def seqOf : D → Option (List D) | .tp xs => some xs | .ls xs => some xs | _ => none
def oIn (x y : D) (Q : DK) : Prop := match seqOf y with | some ys => plainD x = true ∧ plainDL ys = true ∧ deep x ≤ 150 ∧ Q (.bl (ys.any fun z => eqD z x)) | none => False
def oNotIn (x y : D) (Q : DK) : Prop := match seqOf y with | some ys => plainD x = true ∧ plainDL ys = true ∧ deep x ≤ 150 ∧ Q (.bl (!ys.any fun z => eqD z x)) | none => False
theorem seqOf_rp {t : Option Bx} {F : Hp} {y : V} {d : D} {ys : List D} (h : seqOf d = some ys) (r : Rp t F y d) : Rp t F y (.tp ys) ∨ Rp t F y (.ls ys) := by
  cases d <;> simp only [seqOf, Option.some.injEq, reduceCtorEq] at h
  · subst h; exact .inl r
  · subst h; exact .inr r
theorem od_in (S : Sta) : OpD S (rInD2 false) oIn := by
  intro H x y dx dy Q Qd g rx ry h k
  unfold oIn at h
  split at h
  · next ys e => exact ⟨S, _, ys, g, rx, seqOf_rp e ry, h.1, h.2.1, h.2.2.1, by rw [Bool.false_xor]; exact k.now g (.bl _) h.2.2.2⟩
  · exact h.elim
theorem od_notIn (S : Sta) : OpD S (rInD2 true) oNotIn := by
  intro H x y dx dy Q Qd g rx ry h k
  unfold oNotIn at h
  split at h
  · next ys e => exact ⟨S, _, ys, g, rx, seqOf_rp e ry, h.1, h.2.1, h.2.2.1, by rw [Bool.true_xor]; exact k.now g (.bl _) h.2.2.2⟩
  · exact h.elim
theorem de_in (hr : Room k X.A) (ha : DE X E a da) (hb : DE X E b db) (hm : behindInMarks .In b = false := by first | exact nobehind _ (by decide) (by decide) | rfl) : DE X E (.Compare a [.In] [b] pos) (dOp oIn da db) := de_cmp (op_inD2 hr) od_in ha hb hm
theorem de_notIn (hr : Room k X.A) (ha : DE X E a da) (hb : DE X E b db) (hm : behindInMarks .NotIn b = false := by first | exact nobehind _ (by decide) (by decide) | rfl) : DE X E (.Compare a [.NotIn] [b] pos) (dOp oNotIn da db) := de_cmp (op_notInD2 hr) od_notIn ha hb hm
theorem db_in (hr : Room k X.A) (ha : DE X E a da) (hb : DE X E b db) (hm : behindInMarks .In b = false := by first | exact nobehind _ (by decide) (by decide) | rfl) : DB X E (.Compare a [.In] [b] pos) (dTst (dOp oIn da db)) := db_cmp (op_inD2 hr) od_in ha hb hm
theorem db_notIn (hr : Room k X.A) (ha : DE X E a da) (hb : DE X E b db) (hm : behindInMarks .NotIn b = false := by first | exact nobehind _ (by decide) (by decide) | rfl) : DB X E (.Compare a [.NotIn] [b] pos) (dTst (dOp oNotIn da db)) := db_cmp (op_notInD2 hr) od_notIn ha hb hm
end
end Dl

set_option Elab.async false
set_option linter.all false
set_option maxRecDepth 100000
set_option maxHeartbeats 4000000
/-! Dl11: tuples times numbers, turned sequences, dict displays, int(), abs(), sum .. over data; lists lent, frozen, written. -/
namespace Dl
open PySem PySem.Spec PyProof.Rows L2

/-! ### tuple * int: what HandS.TupMul leaves out -/
theorem tuple_mul_same (l : Addr) (items : Array Value) (n : Nat) (dd : Option Addr) (sl : Array (Option Value)) (x : Int) (u : Tok) (c0 : (decide (x < -(2 ^ 63)) || decide (x ≥ 2 ^ 63)) = false) (c1 : (items.isEmpty || x == 1) = true) :
    Meets (Builtin.«tuple.__mul__» ⟨[.ref l, .int x u], []⟩) (fun _ R s => s.heap.get? l = some { cls := .type "tuple", dict := dd, data := .seq items n, slots := sl } ∧ R (.ok (.ret (Value.ref l))) s) :=
  .of_wp fun prog w A R s h => by
    obtain ⟨hp, g, d, tk, os⟩ := s
    obtain ⟨hl, h⟩ := h
    have f1 := AutoSeq1.idx_int
    wp_walk using wpAny_loadPart' hl
    repeat (first
      | (refine wpAny_ite_false (decide_eq_false (by rw [c0]; exact Bool.false_ne_true)) ?_; wp_walk using wpAny_loadPart' hl)
      | (refine wpAny_ite_true (decide_eq_true (by rw [c1])) ?_; wp_walk using wpAny_loadPart' hl))
    exact ⟨_, rfl, h⟩
theorem tuple_mul_none (l : Addr) (items : Array Value) (n : Nat) (dd : Option Addr) (sl : Array (Option Value)) (x : Int) (u : Tok) (c0 : (decide (x < -(2 ^ 63)) || decide (x ≥ 2 ^ 63)) = false) (c1 : (items.isEmpty || x == 1) = false) (c2 : (decide (x ≤ 0) || items.isEmpty) = true) :
    Meets (Builtin.«tuple.__mul__» ⟨[.ref l, .int x u], []⟩) (fun _ R s => s.heap.get? l = some { cls := .type "tuple", dict := dd, data := .seq items n, slots := sl } ∧
      R (.ok (.ret (Value.ref s.heap.objs.size))) { s with heap := s.heap.push { cls := Value.type "tuple", data := Data.seq #[] }, toks := s.toks }) :=
  .of_wp fun prog w A R s h => by
    obtain ⟨hp, g, d, tk, os⟩ := s
    obtain ⟨hl, h⟩ := h
    have f1 := AutoSeq1.idx_int
    wp_walk using wpAny_loadPart' hl
    repeat (first
      | (refine wpAny_ite_false (decide_eq_false (by rw [c0]; exact Bool.false_ne_true)) ?_; wp_walk using wpAny_loadPart' hl)
      | (refine wpAny_ite_false (decide_eq_false (by rw [c1]; exact Bool.false_ne_true)) ?_; wp_walk using wpAny_loadPart' hl)
      | (refine wpAny_ite_true (decide_eq_true (by rw [c2])) ?_; wp_walk using wpAny_loadPart' hl))
    exact ⟨_, rfl, h⟩
def rRepT1 : R2 := fun x y H Q => ∃ l k xs, x = .ref l ∧ y = .int k ∧ H l = some (.tup xs) ∧ -(2 ^ 63) ≤ k ∧ k < 2 ^ 63 ∧ ((xs = [] ∨ k = 1) → Q (.ref l) H) ∧ (xs ≠ [] → k ≤ 0 → ∀ p, H p = none → Q (.ref p) (upd H p (.tup []))) ∧ (xs = [] ∨ k = 1 ∨ k ≤ 0)
theorem op_repT1 {X : Cx} : OpR X (binaryOp .Mult) rRepT1 := by
  intro pins s σ H x y v u Q I rx ry h
  obtain ⟨l, k, xs, rfl, rfl, hT, h1, h2, q1, q2, q3⟩ := h
  cases rx
  obtain ⟨t, rfl⟩ := ry
  obtain ⟨hs, its, r, ⟨cls, dd, data, sl⟩, ho, hc, n, hd⟩ : ObjOk X.prog X.w H s.heap l (.tup xs) := I.hok _ _ hT
  simp only at hc hd
  subst hc hd
  have hle : its.length = xs.length := r.length.symm
  have c0 : (decide (k < -(2 ^ 63)) || decide (k ≥ 2 ^ 63)) = false := by
    rw [decide_eq_false (by omega), decide_eq_false (by omega)] <;> rfl
  refine wpAny_binaryOp_repeat_ref (T := "tuple") (U := "int") (by decide) ⟨_, ho, rfl⟩ (fun s' => typeIs_int s' k t) noFill_tuple_mul F.fills_int_mul F.slot_int_rmul repeat_tuple F.slot_int_index.lookup
    (call_meets F.slot_int_rmul (typeIs_int s k t) F.entry_int_rmul (F.args_int_rmul_2 _ _) (int_rmul_tuple k t l its.toArray n dd sl)
      ⟨ho, rfl, ⟨_, ho, rfl⟩, ?_⟩)
  by_cases he : xs = [] ∨ k = 1
  · have c1 : (its.toArray.isEmpty || k == 1) = true := by
      rcases he with he | he
      · subst he
        have : its = [] := List.eq_nil_of_length_eq_zero hle
        subst this; rfl
      · subst he; simp
    exact call_meets F.slot_tuple_mul ⟨_, ho, rfl⟩ F.entry_tuple_mul (F.args_tuple_mul_2 _ _) (tuple_mul_same l its.toArray n dd sl k t c0 c1) ⟨ho, ⟨.ref l, H, I, rfl, q1 he⟩⟩
  · have hx : xs ≠ [] := fun z => he (.inl z)
    have hk : k ≤ 0 := by
      rcases q3 with z | z | z
      · exact absurd z hx
      · exact absurd z fun z => he (.inr z)
      · exact z
    have hn : its ≠ [] := fun e => hx (by rw [e] at hle; exact List.eq_nil_of_length_eq_zero hle.symm)
    have hi : its.toArray.isEmpty = false := by
      cases its with
      | nil => exact absurd rfl hn
      | cons a b => rfl
    have c1 : (its.toArray.isEmpty || k == 1) = false := by
      rw [hi, Bool.false_or]
      exact beq_eq_false_iff_ne.mpr (by omega)
    have c2 : (decide (k ≤ 0) || its.toArray.isEmpty) = true := by rw [decide_eq_true hk]; rfl
    refine call_meets F.slot_tuple_mul ⟨_, ho, rfl⟩ F.entry_tuple_mul (F.args_tuple_mul_2 _ _) (tuple_mul_none l its.toArray n dd sl k t c0 c1 c2) ⟨ho, ?_⟩
    refine ⟨.ref s.heap.objs.size, _, I.laid (t' := s.toks) (o := .tup []) (fun b ob q => Heap.get?_push_of_some _ q) (Nat.le_refl _) ?_, rfl, q2 hx hk _ (I.hok.fresh (Nat.le_refl _))⟩
    exact ⟨Nat.zero_le _, _, .nil, IsTup.new _ _⟩
/-- *: any tuple -/
def oMulT (x y : D) (Q : DK) : Prop := match x, y with
  | .tp i, .it j => -(2 ^ 63) ≤ j ∧ j ≤ 1000 ∧ i.length ≤ 1000 ∧ Q (.tp (List.replicate j.toNat i).flatten)
  | _, _ => False
theorem rep_nil {α : Type} : ∀ n : Nat, (List.replicate n ([] : List α)).flatten = []
  | 0 => rfl
  | n + 1 => by rw [List.replicate_succ, List.flatten_cons, rep_nil n]; rfl
theorem od_mulT {K : PySem.W.Frag} (S : Sta) : OpD S (fun x y H Q => rRepT1 x y H Q ∨ rRepT K x y H Q) oMulT := by
  intro H x y dx dy Q Qd g rx ry h k
  unfold oMulT at h
  split at h
  · next i j =>
    cases ry
    cases rx with
    | @tp a vs _ e1 r1 =>
      obtain ⟨h1, h2, h3, h4⟩ := h
      have hl := r1.length
      by_cases hz : vs = [] ∨ j = 1 ∨ j ≤ 0
      · refine .inl ⟨_, _, _, rfl, rfl, g.fz _ _ e1, h1, by omega, fun z => ?_, fun zx zk => ?_, hz⟩
        · refine k.now g (.tp e1 r1) ?_
          rcases z with z | z
          · subst z; cases r1; rw [rep_nil] at h4; exact h4
          · subst z
            have e : (List.replicate (1 : Int).toNat i).flatten = i := by
              show (List.replicate 1 i).flatten = i
              rw [List.replicate_succ, List.flatten_cons]; simp
            rw [e] at h4; exact h4
        · refine k.tup g .nil ?_
          have e : j.toNat = 0 := by omega
          rw [e] at h4; exact h4
      · have hv : vs ≠ [] := fun z => hz (.inl z)
        refine .inr ⟨_, _, _, rfl, rfl, SqT.of (g.fz _ _ e1), hv, by omega, h2, by rw [hl]; exact h3, k.tup g (r1.rep _) h4⟩
  · exact h.elim
/-- *: ints (one of them small), a tuple or a list so many times -/
def oMulA (x y : D) (Q : DK) : Prop := match x, y with
  | .it i, .it j => CMul i j ∧ Q (.it (i * j))
  | .tp i, .it j => -(2 ^ 63) ≤ j ∧ j ≤ 1000 ∧ i.length ≤ 1000 ∧ Q (.tp (List.replicate j.toNat i).flatten)
  | .ls i, .it j => -(2 ^ 63) ≤ j ∧ j < 2 ^ 63 ∧ szOk (i.length * j.toNat) ∧ Q (.ls (List.replicate j.toNat i).flatten)
  | _, _ => False
theorem od_mulA {K : PySem.W.Frag} (S : Sta) : OpD S (fun x y H Q => (rRepT1 x y H Q ∨ rRepT K x y H Q) ∨ rMulA K x y H Q) oMulA := by
  intro H x y dx dy Q Qd g rx ry h k
  unfold oMulA at h
  split at h
  · exact .inr (od_mul S H _ _ _ _ Q Qd g rx ry (by unfold oMul; exact h) k)
  · exact .inl (od_mulT S H _ _ _ _ Q Qd g rx ry (by unfold oMulT; exact h) k)
  · exact .inr (od_mul S H _ _ _ _ Q Qd g rx ry (by unfold oMul; exact h) k)
  · exact h.elim
/-! ### [::-1] -/
theorem sliceApplied_rev {prog : Program} {w : World} {A : Around} {E : Value → Shared → Prop} {s : Shared} {sl : Addr} {vl vu vs : Value} {n : Nat} {Q : Int × Int × Nat → Shared → Prop} (hs : s.heap.IsSliceOf sl vl vu vs) (pl : IsPart vl none) (pu : IsPart vu none) (ps : IsPart vs (some (-1)))
    (h : Q (((n : Nat) : Int) - 1, -1, n) s) : wpAny (model prog w) A (Builtin.Slice.sliceApplied (.ref sl) (pure (n : Int))) Q E s := by
  obtain ⟨os, hos, hcs, hds⟩ := id hs
  unfold Builtin.Slice.sliceApplied Builtin.Slice.sliceFields
  refine wpAny_bind (wpAny_bind (wpAny_field hos hds (x := vl) rfl (wpAny_bind (wpAny_field hos hds (x := vu) rfl (wpAny_bind (wpAny_field hos hds (x := vs) rfl (wpAny_pure ?_)))))))
  refine wpAny_bind (HT.slicePart_ ps ?_)
  show wpAny _ _ (if ((-1 : Int) == 0) = true then _ else _) _ _ s
  rw [if_neg (by decide)]
  refine wpAny_bind (HT.slicePart_ pl (wpAny_bind (HT.slicePart_ pu (wpAny_bind (wpAny_pure ?_)))))
  have e : Builtin.Slice.sliceAdjust none none (-1) (n : Int) = ((n : Int) - 1, -1) := rfl
  have e2 : Builtin.Slice.slicePlaces ((n : Int) - 1) (-1) (-1) = n := by
    unfold Builtin.Slice.slicePlaces
    have h1 : ¬ ((-1 : Int) > 0) := by decide
    simp only [h1, if_false, Int.neg_neg, Int.ediv_one]
    split <;> omega
  show wpAny _ _ (match Builtin.Slice.sliceAdjust none none (-1) (n : Int) with | (lo, hi) => pure (lo, (-1 : Int), Builtin.Slice.slicePlaces lo hi (-1))) _ _ s
  rw [e]
  show wpAny _ _ (pure ((n : Int) - 1, (-1 : Int), Builtin.Slice.slicePlaces ((n : Int) - 1) (-1) (-1))) _ _ s
  rw [e2]
  exact wpAny_pure h
theorem rev_pick (items : Array Value) : ((List.range items.size).filterMap fun (k : Nat) => items[(((items.size : Nat) : Int) - 1 + (k : Int) * (-1)).toNat]?).toArray = items.toList.reverse.toArray := by
  have e : (fun (k : Nat) => items[(((items.size : Nat) : Int) - 1 + (k : Int) * (-1)).toNat]?) = fun k => items[items.size - 1 - k]? := by
    funext k
    have : (((items.size : Nat) : Int) - 1 + (k : Int) * (-1)).toNat = items.size - 1 - k := by omega
    rw [this]
  rw [e]
  have := PySem.W.krv_range items.size
  have e2 : (List.range items.size).filterMap (fun k => items[items.size - 1 - k]?) = ((List.range items.size).map fun k => items.size - 1 - k).filterMap (items[·]?) := by
    rw [List.filterMap_map]; rfl
  rw [e2, this, List.filterMap_reverse, PySem.W.krv_all]
theorem getItem_tuple_rev {prog : Program} {w : World} {A : Around} {E : Value → Shared → Prop} {s : Shared} {t sl : Addr} {items : Array Value} {vl vu vs : Value} {Q : Value → Shared → Prop} (ht : IsTup s.heap t items) (hs : s.heap.IsSliceOf sl vl vu vs) (pl : IsPart vl none) (pu : IsPart vu none) (ps : IsPart vs (some (-1)))
    (h : Q (.ref s.heap.objs.size) { s with heap := s.heap.push { cls := .type "tuple", data := .seq items.toList.reverse.toArray } }) (hsz : items.size ≤ sizeLine) : wpAny (model prog w) A (getItem (.ref t) (.ref sl)) Q E s := by
  have htake : sizeOk (.seq items.toList.reverse.toArray) := by
    show items.toList.reverse.toArray.size ≤ sizeLine
    rw [List.size_toArray, List.length_reverse, Array.length_toList]
    exact hsz
  obtain ⟨os, hos, hcs, hds⟩ := id hs
  have hTs : s.TypeIs (.ref sl) "slice" := ⟨os, hos, hcs⟩
  unfold getItem
  try with_reducible refine wpAny_holding ?_
  first | refine wpAny_bind (wpAny_pure ?_) | skip
  refine wpAny_bind (wpAny_sequenceKey ht.typeIs (by decide) ?_)
  refine wpAny_bind (wpAny_callSpecial?_slot (name := Str.ofString "__getitem__") ht.typeIs PyProof.Rows.slot_tuple_getitem
    (wpAny_call_entry PyProof.Rows.slot_tuple_getitem ht.typeIs entry_tuple_getitem ?_ (args_tuple_getitem _ _)))
  show wpAny _ _ (Builtin.Tuple.tupleItemsOf (.ref t) >>= _) _ _ s
  refine wpAny_bind (tupleItemsOf_ ht ?_)
  refine wpAny_bind (wpAny_typeOf hTs ?_)
  rw [if_pos (by decide)]
  refine wpAny_bind (sliceApplied_rev hs pl pu ps ?_)
  have hno : ¬ (((((items.size : Nat) : Int) - 1) == 0 && (-1 : Int) == 1 && items.size == items.size) = true) := by
    intro q
    rw [Bool.and_eq_true, Bool.and_eq_true] at q
    exact absurd (eq_of_beq q.1.2) (by decide)
  show wpAny _ _ (if ((((items.size : Nat) : Int) - 1) == 0 && (-1 : Int) == 1 && items.size == items.size) = true then _ else _) _ _ s
  rw [if_neg hno, rev_pick]
  first
    | exact wpAny_bind (m := Builtin.Tuple.tupleExact _) (wpAny_newObj_type (wpAny_pure ⟨_, rfl, wpAny_pure h⟩) htake)
    | exact wpAny_bind (m := Builtin.Tuple.tupleExact _) (wpAny_newObj_type (wpAny_bind (wpAny_pure (wpAny_pure ⟨_, rfl, wpAny_pure h⟩))) htake)
    | exact wpAny_bind (wpAny_bind (m := Builtin.Tuple.tupleExact _) (wpAny_newObj_type (wpAny_pure (wpAny_pure ⟨_, rfl, wpAny_pure h⟩)) htake))
    | exact wpAny_bind (wpAny_bind (m := Builtin.Tuple.tupleExact _) (wpAny_newObj_type (wpAny_pure ⟨_, rfl, wpAny_pure h⟩) htake))
def tRevTL (te : TE) : TE := fun σ H Q => te σ H fun x H1 => ∃ a xs, x = .ref a ∧ ((H1 a = some (.lst xs) ∧ ∀ p, H1 p = none → Q (.ref p) (upd H1 p (.lst xs.reverse))) ∨ (H1 a = some (.tup xs) ∧ ∀ p, H1 p = none → Q (.ref p) (upd H1 p (.tup xs.reverse))))
theorem pe_revTL {X : Cx} {e : Expr} {te : TE} {k : Nat} {p1 p2 p3 pos : Pos} (he : PE X e te) : PE X (.Subscript e (.Slice none none (some (.UnaryOp .USub (.Constant (.int 1) k p1) p2)) p3) pos) (tRevTL te) := by
  refine ⟨fun pins s σ H Q I h => ?_⟩
  refine Subscript_ (thn (he.run pins s σ H _ I h) fun v s1 ⟨x, H1, I1, r1, q1⟩ => ?_)
  obtain ⟨a, xs, ex, q⟩ := q1
  subst ex
  cases r1
  have hst : PO X (some (.UnaryOp .USub (.Constant (.int 1) k p1) p2)) (tPart (tUn (rU fun i => .int (-i)) (tC (.int 1)))) := po_some (pe_un un_neg pe_int)
  refine wpAny_Slice (thn (po_none.run pins s1 σ H1 (fun o H2 => o = none ∧ H2 = H1) I1 ⟨rfl, rfl⟩) fun vl s2 ⟨l, H2, I2, pl, el, e2⟩ => ?_)
  subst el e2
  refine thn (po_none.run pins s2 σ H2 (fun o H3 => o = none ∧ H3 = H2) I2 ⟨rfl, rfl⟩) fun vu s3 ⟨u, H3, I3, pu, eu, e3⟩ => ?_
  subst eu e3
  refine thn (hst.run pins s3 σ H3 (fun o H4 => o = some (-1) ∧ H4 = H3) I3 ⟨1, rfl, -1, rfl, rfl, rfl⟩) fun vs s4 ⟨o, H4, I4, ps, eo, e4⟩ => ?_
  subst eo e4
  have I5 : Inv X pins σ H4 { s4 with heap := s4.heap.push { cls := .type "slice", data := .fields #[vl, vu, vs] } } := I4.kept (t' := s4.toks) fun b ob q => Heap.get?_push_of_some _ q
  show wpAny (model X.prog X.w) X.A (subscriptTail e (.Slice none none (some (.UnaryOp .USub (.Constant (.int 1) k p1) p2)) p3) (.ref a) (.ref s4.heap.objs.size)) (EP X pins σ Q) X.xe { s4 with heap := s4.heap.push { cls := .type "slice", data := .fields #[vl, vu, vs] } }
  rcases q with ⟨hx, q⟩ | ⟨hx, q⟩
  · obtain ⟨its, r, ht, hz⟩ := I5.list (SqL.of hx)
    have hlen := r.length
    refine tail_any (ops := [.ref a, .ref s4.heap.objs.size]) ht.isList.typeIs (PySem.slot_list_getitem.lookup) ?_ (by with_unfolding_all rfl)
    refine wpAny_getItem_list_slice ht.isList (Heap.IsSliceOf.new _ vl vu vs) pl pu ps (by decide) ?_ (by rw [List.size_toArray]; omega)
    rw [PySem.W.krv_pick]
    refine ⟨.ref _, _, I5.laid (t' := s4.toks) (o := .lst xs.reverse) (fun b ob q => Heap.get?_push_of_some _ q) (Nat.le_refl _) ?_, rfl, q _ (I5.hok.fresh (Nat.le_refl _))⟩
    exact ⟨by rw [List.length_reverse]; exact hz, _, 0, r.reverse, Heap.get?_push_size _ rfl⟩
  · obtain ⟨its, r, ht, hz⟩ := I5.tuple (SqT.of hx)
    have hlen := r.length
    refine tail_any (ops := [.ref a, .ref s4.heap.objs.size]) ht.typeIs (PyProof.Rows.slot_tuple_getitem.lookup) ?_ (by with_unfolding_all rfl)
    refine getItem_tuple_rev ht (Heap.IsSliceOf.new _ vl vu vs) pl pu ps ?_ (by rw [List.size_toArray]; omega)
    refine ⟨.ref _, _, I5.laid (t' := s4.toks) (o := .tup xs.reverse) (fun b ob q => Heap.get?_push_of_some _ q) (Nat.le_refl _) ?_, rfl, q _ (I5.hok.fresh (Nat.le_refl _))⟩
    exact ⟨by rw [List.length_reverse]; exact hz, _, r.reverse, IsTup.new _ _⟩
theorem RpL.rev {t : Option Bx} {F : Hp} : ∀ {vs : List V} {ds : List D}, RpL t F vs ds → RpL t F vs.reverse ds.reverse
  | _, _, .nil => .nil
  | _, _, .cons r s => by rw [List.reverse_cons, List.reverse_cons]; exact (RpL.rev s).app (.one r)
section
variable {X : Cx} {E : XK} {pos : Pos} {a b : Expr} {da db : DT_} {k : Nat}
theorem de_mulT (ha : DE X E a da) (hb : DE X E b db) : DE X E (.BinOp a .Mult b pos) (dOp oMulT da db) := de_bin (op_repT1.or op_repT) od_mulT ha hb
theorem de_mulA (ha : DE X E a da) (hb : DE X E b db) : DE X E (.BinOp a .Mult b pos) (dOp oMulA da db) := de_bin ((op_repT1.or op_repT).or or_mulA) od_mulA ha hb
def dRev (da : DT_) : DT_ := fun env Q E => da env (fun x => match x with | .tp xs => Q (.tp xs.reverse) | .ls xs => Q (.ls xs.reverse) | _ => False) E
theorem de_rev {kk : Nat} {p1 p2 p3 : Pos} (ha : DE X E a da) : DE X E (.Subscript a (.Slice none none (some (.UnaryOp .USub (.Constant (.int 1) kk p1) p2)) p3) pos) (dRev da) := by
  obtain ⟨t, p, q⟩ := ha.run
  refine ⟨_, pe_revTL p, fun Z S H σ env Q Qd Ed g r l h k => ?_⟩
  refine q Z S H σ env _ _ Ed g r l h fun v H1 S1 x s1 g1 r1 h1 => ?_
  split at h1
  · cases r1 with
    | tp e rr => exact ⟨_, _, rfl, .inr ⟨g1.fz _ _ e, (k.step s1 g1).tup g1 rr.rev h1⟩⟩
  · cases r1 with
    | ls e rr => exact ⟨_, _, rfl, .inl ⟨g1.fz _ _ e, (k.step s1 g1).lst g1 rr.rev h1⟩⟩
  · exact h1.elim
/-! ### dict displays -/
def dDic0 : DT_ := fun _ Q _ => Q (.dc [])
theorem de_dic0 : DE X E (.Dict [] [] pos) dDic0 := by
  refine ⟨_, pe_dnewK, fun Z S H σ env Q Qd Ed g r l h k p hp => ?_⟩
  obtain ⟨s, g'⟩ := step_new g (o := .dK []) hp
  exact k _ _ _ _ s g' (.dc (by show upd S.F p (.dK []) p = _; exact upd_same) .nil) h
def dDic1 (x : Str) (da : DT_) : DT_ := fun env Q E => da env (fun y => Q (.dc [(.inr x, y)])) E
theorem de_dic1 {x : Str} {j p1} (ha : DE X E a da) : DE X E (.Dict [some (.Constant (.str x) j p1)] [a] pos) (dDic1 x da) := by
  obtain ⟨t, pa, q⟩ := ha.run
  refine ⟨_, pe_disp (pps_cons pe_str pa pps_nil) rfl rfl (by simp) (by show 1 ≤ 15; decide), fun Z S H σ env Q Qd Ed g r l h k p hp => ?_⟩
  obtain ⟨s0, g0⟩ := step_own g (o := .dK []) hp
  have nb : ¬ InB S.bx p := fun z => (by obtain ⟨o, e⟩ := g.box z; rw [hp] at e; cases e)
  have nf : S.F p = none := none_of_keep fun o e => (by have := g.fz _ _ e; rw [hp] at this; cases this)
  refine q Z S (upd H p (.dK [])) σ env _ _ Ed g0 (r.step s0) (l.step s0 g0) h fun v H1 S1 y s1 g1 r1 h1 => ?_
  have e1 : H1 p = some (.dK []) := s1.keep _ _ upd_same nb
  have nf1 : S1.F p = none := none_of_keep fun o e => (by
    rcases s1.new _ _ e with z | z
    · rw [nf] at z; cases z
    · rw [upd_same] at z; cases z)
  have nb1 : ¬ InB S1.bx p := fun z => (by
    rcases s1.inB z with z | z
    · exact nb z
    · rw [upd_same] at z; cases z)
  refine ⟨e1, [(.inr x, v)], rfl, by show 1 ≤ 15; decide, ?_⟩
  have em : mergeK [] [((.inr x : Key), v)] = [((.inr x : Key), v)] := rfl
  rw [em]
  have g2 := good_mut (o := .dK [((.inr x : Key), v)]) g1 nf1 nb1
  have g3 := good_frz g2 upd_same nb1
  have s2 : Stp S H ⟨S1.bx, upd S1.F p (.dK [((.inr x : Key), v)])⟩ (upd H1 p (.dK [((.inr x : Key), v)])) := by
    have s01 := s0.trans g0 s1
    refine ⟨fun b o e => ?_, fun b o e => ?_, s01.box, fun b o e hb => ?_⟩
    · have : b ≠ p := fun z => by rw [z, nf] at e; cases e
      show upd S1.F p _ b = _
      rw [upd_ne this]; exact s01.ext b o e
    · by_cases z : b = p
      · rw [z]; exact .inr hp
      · have e' : upd S1.F p (.dK [((.inr x : Key), v)]) b = some o := e
        rw [upd_ne z] at e'
        exact s01.new b o e'
    · rw [upd_ne (ne_of_none e hp)]; exact s01.keep b o e hb
  have le : Le S1.bx S1.F S1.bx (upd S1.F p (.dK [((.inr x : Key), v)])) := ⟨fun b o e => by
    have : b ≠ p := fun z => by rw [z, nf1] at e; cases e
    rw [upd_ne this]; exact e, fun _ e => e⟩
  exact k _ _ _ _ s2 g3 (.dc (by show upd S1.F p _ p = _; exact upd_same) (.cons (r1.le le) .nil)) h1
/-! ### int(), abs(), sum(), any(), all(), max(), min() -/
def oInt (xs : List D) (Q : DK) : Prop := match xs with | [.it i] => Q (.it i) | [.bl b] => Q (.it (if b then 1 else 0)) | _ => False
def oAbs (xs : List D) (Q : DK) : Prop := match xs with | [.it i] => Q (.it (if i < 0 then -i else i)) | _ => False
theorem de_int1 {u : DA_} {e : Expr} {p : Pos} (hg : Gl X "int") (hm : X.mg "int" = none) (ha : DA X E [e] u) (he : starEach [e] X.env = (false, eval e X.env) :: starEach [] X.env := by rfl) : DE X E (.Call (.Name "int" p) [e] [] pos) (dCB oInt u) := by
  refine de_callTy call_int1 (fun S => ?_) hg hm (by decide +kernel) ha (by decide) (by decide) he rfl
  intro H vs ds Q Qd g r h k
  unfold oInt at h
  split at h
  · cases r with
    | cons r1 r2 => cases r2; cases r1; exact .inl ⟨_, rfl, k.now g (.it _) h⟩
  · cases r with
    | cons r1 r2 => cases r2; cases r1; exact .inr ⟨_, rfl, k.now g (.it _) h⟩
  · exact h.elim
theorem de_abs {u : DA_} {e : Expr} {p : Pos} (hg : Gl X "abs") (hm : X.mg "abs" = none) (ha : DA X E [e] u) (he : starEach [e] X.env = (false, eval e X.env) :: starEach [] X.env := by rfl) : DE X E (.Call (.Name "abs" p) [e] [] pos) (dCB oAbs u) := by
  refine de_callB call_abs (fun S => ?_) hg hm (by decide +kernel) ha (by decide) (by decide) he rfl
  intro H vs ds Q Qd g r h k
  unfold oAbs at h
  split at h
  · cases r with
    | cons r1 r2 => cases r2; cases r1; exact ⟨_, rfl, k.now g (.it _) h⟩
  · exact h.elim
/-- the numbers of a list -/
def intsD : List D → Option (List Int)
  | [] => some []
  | .it i :: r => (intsD r).map (i :: ·)
  | _ => none
theorem intsD_eq : ∀ {xs : List D} {ns : List Int}, intsD xs = some ns → xs = ns.map D.it
  | [], ns, h => by simp [intsD] at h; subst h; rfl
  | .it i :: r, ns, h => by
    simp only [intsD, Option.map_eq_some_iff] at h
    obtain ⟨ms, h1, rfl⟩ := h
    rw [intsD_eq h1]; rfl
  | .non :: _, _, h => by simp [intsD] at h
  | .bl _ :: _, _, h => by simp [intsD] at h
  | .st _ :: _, _, h => by simp [intsD] at h
  | .tp _ :: _, _, h => by simp [intsD] at h
  | .ls _ :: _, _, h => by simp [intsD] at h
  | .dc _ :: _, _, h => by simp [intsD] at h
  | .bx _ _ :: _, _, h => by simp [intsD] at h
theorem intsD_map : ∀ ns : List Int, intsD (ns.map D.it) = some ns
  | [] => rfl
  | n :: r => by simp only [List.map_cons, intsD, intsD_map r, Option.map_some]
theorem rpl_ints {t : Option Bx} {F : Hp} : ∀ {ns : List Int} {vs : List V}, RpL t F vs (ns.map D.it) → vs = ns.map V.int
  | [], _, .nil => rfl
  | n :: r, _, .cons h1 h2 => by cases h1; rw [rpl_ints h2]; rfl
def boolsD : List D → Option (List Bool)
  | [] => some []
  | .bl i :: r => (boolsD r).map (i :: ·)
  | _ => none
theorem boolsD_eq : ∀ {xs : List D} {ns : List Bool}, boolsD xs = some ns → xs = ns.map D.bl
  | [], ns, h => by simp [boolsD] at h; subst h; rfl
  | .bl i :: r, ns, h => by
    simp only [boolsD, Option.map_eq_some_iff] at h
    obtain ⟨ms, h1, rfl⟩ := h
    rw [boolsD_eq h1]; rfl
  | .non :: _, _, h => by simp [boolsD] at h
  | .it _ :: _, _, h => by simp [boolsD] at h
  | .st _ :: _, _, h => by simp [boolsD] at h
  | .tp _ :: _, _, h => by simp [boolsD] at h
  | .ls _ :: _, _, h => by simp [boolsD] at h
  | .dc _ :: _, _, h => by simp [boolsD] at h
  | .bx _ _ :: _, _, h => by simp [boolsD] at h
theorem boolsD_map : ∀ ns : List Bool, boolsD (ns.map D.bl) = some ns
  | [] => rfl
  | n :: r => by simp only [List.map_cons, boolsD, boolsD_map r, Option.map_some]
theorem rpl_bools {t : Option Bx} {F : Hp} : ∀ {ns : List Bool} {vs : List V}, RpL t F vs (ns.map D.bl) → vs = ns.map V.bl
  | [], _, .nil => rfl
  | n :: r, _, .cons h1 h2 => by cases h1; rw [rpl_bools h2]; rfl
def oSum (xs : List D) (Q : DK) : Prop := match xs with | [.ls ys] => ∃ ns, intsD ys = some ns ∧ Q (.it ns.sum) | _ => False
def oMaxL (xs : List D) (Q : DK) : Prop := match xs with
  | [.ls ys] => ∃ ns, intsD ys = some ns ∧ ns ≠ [] ∧ ∀ m, m ∈ ns → (∀ y ∈ ns, y ≤ m) → Q (.it m)
  | [.it i, .it j] => Q (.it (if j > i then j else i))
  | _ => False
def oMinL (xs : List D) (Q : DK) : Prop := match xs with
  | [.ls ys] => ∃ ns, intsD ys = some ns ∧ ns ≠ [] ∧ ∀ m, m ∈ ns → (∀ y ∈ ns, m ≤ y) → Q (.it m)
  | [.it i, .it j] => Q (.it (if j < i then j else i))
  | _ => False
def oAny (xs : List D) (Q : DK) : Prop := match xs with | [.ls ys] => ∃ ns, boolsD ys = some ns ∧ Q (.bl (ns.any id)) | _ => False
def oAll (xs : List D) (Q : DK) : Prop := match xs with | [.ls ys] => ∃ ns, boolsD ys = some ns ∧ Q (.bl (ns.all id)) | _ => False
theorem de_sum {u : DA_} {e : Expr} {p : Pos} (hc : X.calm = true) (hg : Gl X "sum") (hm : X.mg "sum" = none) (ha : DA X E [e] u) (he : starEach [e] X.env = (false, eval e X.env) :: starEach [] X.env := by rfl) : DE X E (.Call (.Name "sum" p) [e] [] pos) (dCB oSum u) := by
  refine de_callB (cr_sum hc) (fun S => ?_) hg hm (by decide +kernel) ha (by decide) (by decide) he rfl
  intro H vs ds Q Qd g r h k
  unfold oSum at h
  split at h
  · obtain ⟨ns, en, h⟩ := h
    have := intsD_eq en
    subst this
    cases r with
    | cons r1 r2 =>
      cases r2
      cases r1 with
      | ls e rr =>
        have := rpl_ints rr
        subst this
        exact ⟨_, ns, rfl, SqL.of (g.fz _ _ e), k.now g (.it _) h⟩
  · exact h.elim
theorem de_any {u : DA_} {e : Expr} {p : Pos} (hc : X.calm = true) (hg : Gl X "any") (hm : X.mg "any" = none) (ha : DA X E [e] u) (he : starEach [e] X.env = (false, eval e X.env) :: starEach [] X.env := by rfl) : DE X E (.Call (.Name "any" p) [e] [] pos) (dCB oAny u) := by
  refine de_callB (cr_any hc) (fun S => ?_) hg hm (by decide +kernel) ha (by decide) (by decide) he rfl
  intro H vs ds Q Qd g r h k
  unfold oAny at h
  split at h
  · obtain ⟨ns, en, h⟩ := h
    have := boolsD_eq en
    subst this
    cases r with
    | cons r1 r2 =>
      cases r2
      cases r1 with
      | ls e rr =>
        have := rpl_bools rr
        subst this
        exact ⟨_, ns, rfl, SqL.of (g.fz _ _ e), k.now g (.bl _) h⟩
  · exact h.elim
theorem de_all {u : DA_} {e : Expr} {p : Pos} (hc : X.calm = true) (hg : Gl X "all") (hm : X.mg "all" = none) (ha : DA X E [e] u) (he : starEach [e] X.env = (false, eval e X.env) :: starEach [] X.env := by rfl) : DE X E (.Call (.Name "all" p) [e] [] pos) (dCB oAll u) := by
  refine de_callB (cr_all hc) (fun S => ?_) hg hm (by decide +kernel) ha (by decide) (by decide) he rfl
  intro H vs ds Q Qd g r h k
  unfold oAll at h
  split at h
  · obtain ⟨ns, en, h⟩ := h
    have := boolsD_eq en
    subst this
    cases r with
    | cons r1 r2 =>
      cases r2
      cases r1 with
      | ls e rr =>
        have := rpl_bools rr
        subst this
        exact ⟨_, ns, rfl, SqL.of (g.fz _ _ e), k.now g (.bl _) h⟩
  · exact h.elim
theorem cr_or {X : Cx} {f : Value} {r r' : List V → Hp → VK → Prop} (h : CallR X f r) (h' : CallR X f r') : CallR X f (fun xs H Q => r xs H Q ∨ r' xs H Q) := by
  intro pins s σ H xs us Q I rv q
  rcases q with q | q
  · exact h pins s σ H xs us Q I rv q
  · exact h' pins s σ H xs us Q I rv q
theorem de_max {u : DA_} {e : Expr} {es : List Expr} {p : Pos} (hc : X.calm = true) (hg : Gl X "max") (hm : X.mg "max" = none) (ha : DA X E (e :: es) u) (he : starEach (e :: es) X.env = (false, eval e X.env) :: starEach es X.env := by rfl) (hpl : (backTo pos (starEach es X.env)).any (·.1) = false := by rfl) : DE X E (.Call (.Name "max" p) (e :: es) [] pos) (dCB oMaxL u) := by
  refine de_callB (cr_or (cr_max hc) (call_max2 hc)) (fun S => ?_) hg hm (by decide +kernel) ha (by decide) (by decide) he hpl
  intro H vs ds Q Qd g r h k
  unfold oMaxL at h
  split at h
  · obtain ⟨ns, en, h0, h⟩ := h
    have := intsD_eq en
    subst this
    cases r with
    | cons r1 r2 =>
      cases r2
      cases r1 with
      | ls e rr =>
        have := rpl_ints rr
        subst this
        exact .inl ⟨_, ns, rfl, SqL.of (g.fz _ _ e), List.length_pos_iff.mpr h0, fun m h1 h2 => k.now g (.it _) (h m h1 h2)⟩
  · cases r with
    | cons r1 r2 =>
      cases r2 with
      | cons r2 r3 => cases r3; cases r1; cases r2; exact .inr ⟨_, _, rfl, k.now g (.it _) h⟩
  · exact h.elim
theorem de_min {u : DA_} {e : Expr} {es : List Expr} {p : Pos} (hc : X.calm = true) (hg : Gl X "min") (hm : X.mg "min" = none) (ha : DA X E (e :: es) u) (he : starEach (e :: es) X.env = (false, eval e X.env) :: starEach es X.env := by rfl) (hpl : (backTo pos (starEach es X.env)).any (·.1) = false := by rfl) : DE X E (.Call (.Name "min" p) (e :: es) [] pos) (dCB oMinL u) := by
  refine de_callB (cr_or (cr_min hc) (call_min2 hc)) (fun S => ?_) hg hm (by decide +kernel) ha (by decide) (by decide) he hpl
  intro H vs ds Q Qd g r h k
  unfold oMinL at h
  split at h
  · obtain ⟨ns, en, h0, h⟩ := h
    have := intsD_eq en
    subst this
    cases r with
    | cons r1 r2 =>
      cases r2
      cases r1 with
      | ls e rr =>
        have := rpl_ints rr
        subst this
        exact .inl ⟨_, ns, rfl, SqL.of (g.fz _ _ e), List.length_pos_iff.mpr h0, fun m h1 h2 => k.now g (.it _) (h m h1 h2)⟩
  · cases r with
    | cons r1 r2 =>
      cases r2 with
      | cons r2 r3 => cases r3; cases r1; cases r2; exact .inr ⟨_, _, rfl, k.now g (.it _) h⟩
  · exact h.elim
end
end Dl

set_option Elab.async false
set_option linter.all false
set_option maxRecDepth 100000
set_option maxHeartbeats 4000000
/-! Dl12: lists of one's own: lent, frozen, written by place. -/
namespace Dl
open PySem PySem.Spec PyProof.Rows L2

/-! ### no list within -/
mutual
def lfD : D → Bool
  | .tp xs => lfL xs
  | .ls _ => false
  | .dc kvs => lfK kvs
  | .bx _ _ => true
  | .non => true
  | .bl _ => true
  | .it _ => true
  | .st _ => true
def lfL : List D → Bool
  | [] => true
  | x :: r => lfD x && lfL r
def lfK : List (Key × D) → Bool
  | [] => true
  | (_, x) :: r => lfD x && lfK r
end
/-- without p -/
def cut (F : Hp) (p : Addr) : Hp := fun a => if a = p then none else F a
theorem cut_ne {F : Hp} {p a : Addr} (h : a ≠ p) : cut F p a = F a := by unfold cut; rw [if_neg h]
theorem cut_some {F : Hp} {p a : Addr} {o : HO} (h : cut F p a = some o) : a ≠ p ∧ F a = some o := by
  unfold cut at h
  split at h
  · cases h
  · next n => exact ⟨n, h⟩
mutual
theorem Rp.lf {t : Option Bx} {F : Hp} {p : Addr} {ws : List V} (hp : F p = some (.lst ws)) : ∀ {v : V} {d : D}, Rp t F v d → lfD d = true → Rp t (cut F p) v d
  | _, _, .non, _ => .non
  | _, _, .bl b, _ => .bl b
  | _, _, .it i, _ => .it i
  | _, _, .st s, _ => .st s
  | _, _, .tp e r, h => .tp (by rw [cut_ne fun z => by rw [z, hp] at e; cases e]; exact e) (RpL.lf hp r (by simpa only [lfD] using h))
  | _, _, .ls e r, h => by simp only [lfD] at h; cases h
  | _, _, .dc e r, h => .dc (by rw [cut_ne fun z => by rw [z, hp] at e; cases e]; exact e) (RpK.lf hp r (by simpa only [lfD] using h))
  | _, _, .bx e p, _ => .bx e p
theorem RpL.lf {t : Option Bx} {F : Hp} {p : Addr} {ws : List V} (hp : F p = some (.lst ws)) : ∀ {v : List V} {d : List D}, RpL t F v d → lfL d = true → RpL t (cut F p) v d
  | _, _, .nil, _ => .nil
  | _, _, .cons r s, h => by
    simp only [lfL, Bool.and_eq_true] at h
    exact .cons (Rp.lf hp r h.1) (RpL.lf hp s h.2)
theorem RpK.lf {t : Option Bx} {F : Hp} {p : Addr} {ws : List V} (hp : F p = some (.lst ws)) : ∀ {v : List (Key × V)} {d : List (Key × D)}, RpK t F v d → lfK d = true → RpK t (cut F p) v d
  | _, _, .nil, _ => .nil
  | _, _, .cons r s, h => by
    simp only [lfK, Bool.and_eq_true] at h
    exact .cons (Rp.lf hp r h.1) (RpK.lf hp s h.2)
end
/-- frozen for a while -/
def Sta.with (S : Sta) (p : Addr) (vs : List V) : Sta := ⟨S.bx, upd S.F p (.lst vs)⟩
theorem frz_step {S : Sta} {H : Hp} {p : Addr} {vs : List V} (g : Good S H) (hp : H p = some (.lst vs)) (hf : S.F p = none) (hb : ¬ InB S.bx p) : Good (S.with p vs) H := good_frz g hp hb
theorem frz_le {S : Sta} {p : Addr} {vs : List V} (hf : S.F p = none) : Le S.bx S.F (S.with p vs).bx (S.with p vs).F := ⟨fun b o e => by
    have : b ≠ p := fun z => by rw [z, hf] at e; cases e
    show upd S.F p (.lst vs) b = _
    rw [upd_ne this]; exact e, fun _ e => e⟩
/-- from S (p one's own) by S with p frozen to S2: back to p one's own -/
theorem thaw {S S2 : Sta} {H H2 : Hp} {p : Addr} {vs : List V} (g : Good S H) (hp : H p = some (.lst vs)) (hf : S.F p = none) (hb : ¬ InB S.bx p) (s : Stp (S.with p vs) H S2 H2) (g2 : Good S2 H2) :
    Stp S H ⟨S2.bx, cut S2.F p⟩ H2 ∧ Good ⟨S2.bx, cut S2.F p⟩ H2 ∧ S2.F p = some (.lst vs) := by
  have ep : S2.F p = some (.lst vs) := s.ext _ _ (by show upd S.F p (.lst vs) p = _; exact upd_same)
  refine ⟨⟨fun b o e => ?_, fun b o e => ?_, s.box, s.keep⟩, ⟨fun b o e => g2.fz b o (cut_some e).2, g2.bx, fun b hb => ?_⟩, ep⟩
  · have n : b ≠ p := fun z => by rw [z, hf] at e; cases e
    show cut S2.F p b = _
    rw [cut_ne n]
    exact s.ext b o ((frz_le hf).f b o e)
  · obtain ⟨n, e⟩ := cut_some e
    rcases s.new b o e with z | z
    · have z' : upd S.F p (.lst vs) b = some o := z
      rw [upd_ne n] at z'
      exact .inl z'
    · exact .inr z
  · show cut S2.F p b = none
    unfold cut
    split
    · rfl
    · exact g2.nb b hb
theorem Rel.lend {Z : Hp} {S : Sta} {H : Hp} {σ : L2.St} {env : Env'} (r : Rel Z S H σ env) {i : Nat} {xs : List D} (e : env[i]? = some (.own xs)) :
    ∃ p vs, σ[i]? = some (some (.ref p)) ∧ H p = some (.lst vs) ∧ S.F p = none ∧ ¬ InB S.bx p ∧ Z p = none ∧ RpL S.bx S.F vs xs ∧ (∀ j ys, j ≠ i → env[j]? = some (.own ys) → ∀ a, σ[j]? = some (some (.ref a)) → a ≠ p) ∧
      Rel Z (S.with p vs) H σ (env.set i (.v (.ls xs))) := by
  obtain ⟨p, vs, e1, e2, e3, e4, e5, e6⟩ := r.at_ i _ e
  have other : ∀ j ys, j ≠ i → env[j]? = some (.own ys) → ∀ a, σ[j]? = some (some (.ref a)) → a ≠ p := fun j ys hj ej a ea z => by
    subst z
    exact r.sep i j xs ys a (Ne.symm hj) e ej e1 ea
  refine ⟨p, vs, e1, e2, e3, e4, e5, e6, other, ⟨?_, fun j s ej => ?_, fun j k ys zs a hjk e7 e8 h1 => ?_⟩⟩
  · rw [List.length_set]; exact r.len
  · by_cases hj : j = i
    · subst hj
      have hl : j < env.length := (List.getElem?_eq_some_iff.mp e).1
      rw [List.getElem?_set_self hl] at ej
      cases ej
      exact ⟨_, e1, .ls (by show upd S.F p (.lst vs) p = _; exact upd_same) (e6.le (frz_le e3))⟩
    · rw [List.getElem?_set_ne (Ne.symm hj)] at ej
      have q := r.at_ j s ej
      cases s with
      | no => trivial
      | v d => obtain ⟨x, q1, q2⟩ := q; exact ⟨x, q1, q2.le (frz_le e3)⟩
      | own ds =>
        obtain ⟨a, us, q1, q2, q3, q4, q5, q6⟩ := q
        have n : a ≠ p := other j ds hj ej a q1
        exact ⟨a, us, q1, q2, by show upd S.F p (.lst vs) a = none; rw [upd_ne n]; exact q3, q4, q5, q6.le (frz_le e3)⟩
  · have n1 : j ≠ i := fun z => by
      subst z
      have hl : j < env.length := (List.getElem?_eq_some_iff.mp e).1
      rw [List.getElem?_set_self hl] at e7; cases e7
    have n2 : k ≠ i := fun z => by
      subst z
      have hl : k < env.length := (List.getElem?_eq_some_iff.mp e).1
      rw [List.getElem?_set_self hl] at e8; cases e8
    rw [List.getElem?_set_ne (Ne.symm n1)] at e7
    rw [List.getElem?_set_ne (Ne.symm n2)] at e8
    exact r.sep j k ys zs a hjk e7 e8 h1
/-- nothing in an error but what has no list within -/
def lfX (x : Exn) : Prop := ∀ f ∈ x.fs, lfD f.2 = true
theorem XRep.lf {mg : Str → Option Value} {S : Sta} {H : Hp} {C : Value} {dx : Option Addr} {x : Exn} {p : Addr} {ws : List V} (hp : S.F p = some (.lst ws)) (h : XRep mg S H C dx x) (l : lfX x) : XRep mg ⟨S.bx, cut S.F p⟩ H C dx x := by
  obtain ⟨h1, h2⟩ := h
  refine ⟨h1, ?_⟩
  rcases h2 with h2 | ⟨d, fs, e1, e2, e3⟩
  · exact .inl h2
  · refine .inr ⟨d, fs, e1, e2, ?_⟩
    obtain ⟨c, xs⟩ := x
    have l' : ∀ f ∈ xs, lfD f.2 = true := l
    have e3' : Paired (fun (p : Str × V) (q : Str × D) => p.1 = q.1 ∧ Rp S.bx S.F p.2 q.2) fs xs := e3
    clear e1 e2 h1 e3 l
    show Paired _ fs xs
    induction e3' with
    | nil => exact .nil
    | cons h t ih => exact .cons ⟨h.1, Rp.lf hp h.2 (l' _ (by simp))⟩ (ih fun f hf => l' f (List.mem_cons_of_mem _ hf))
theorem XLink.lend {mg : Str → Option Value} {S : Sta} {H : Hp} {Ed : EK} {E : XK} {p : Addr} {vs : List V} (l : XLink mg S H Ed E) (g : Good S H) (hp : H p = some (.lst vs)) (hf : S.F p = none) (hb : ¬ InB S.bx p) :
    XLink mg (S.with p vs) H (fun x => lfX x ∧ Ed x) E := fun C dx H' S' x s g' r h => by
  obtain ⟨a, b, c⟩ := thaw g hp hf hb s g'
  exact l C dx H' _ x a b (r.lf c h.1) h.2
section
variable {X : Cx} {E : XK} {pos : Pos} {e : Expr} {de : DT_} {db : DB_} {d : DS_} {k : Nat}
/-- e reads the list in slot i; its value has no list within -/
def dLend (i : Nat) (de : DT_) : DT_ := fun env Q E => match env[i]? with
  | some (.own xs) => de (env.set i (.v (.ls xs))) (fun y => lfD y = true ∧ Q y) (fun x => lfX x ∧ E x)
  | _ => de env Q E
theorem de_lend (i : Nat) (he : DE X E e de) : DE X E e (dLend i de) := by
  obtain ⟨t, p, q⟩ := he.run
  refine ⟨t, p, fun Z S H σ env Q Qd Ed g r l h k => ?_⟩
  unfold dLend at h
  split at h
  · next xs ei =>
    obtain ⟨a, vs, e1, e2, e3, e4, e5, e6, _, r'⟩ := r.lend ei
    refine q Z (S.with a vs) H σ _ Q _ _ (frz_step g e2 e3 e4) r' (l.lend g e2 e3 e4) h fun v H' S' x s' g' rp hx => ?_
    obtain ⟨s2, g2, ep⟩ := thaw g e2 e3 e4 s' g'
    exact k v H' _ x s2 g2 (Rp.lf ep rp hx.1) hx.2
  · exact q Z S H σ env Q Qd Ed g r l h k
def dbLend (i : Nat) (de : DB_) : DB_ := fun env Q E => match env[i]? with
  | some (.own xs) => de (env.set i (.v (.ls xs))) Q (fun x => lfX x ∧ E x)
  | _ => de env Q E
theorem db_lend (i : Nat) (he : DB X E e db) : DB X E e (dbLend i db) := by
  obtain ⟨t, p, q⟩ := he.run
  refine ⟨t, p, fun Z S H σ env Q Qd Ed g r l h k => ?_⟩
  unfold dbLend at h
  split at h
  · next xs ei =>
    obtain ⟨a, vs, e1, e2, e3, e4, e5, e6, _, r'⟩ := r.lend ei
    refine q Z (S.with a vs) H σ _ Q _ _ (frz_step g e2 e3 e4) r' (l.lend g e2 e3 e4) h fun b H' S' s' g' hx => ?_
    obtain ⟨s2, g2, ep⟩ := thaw g e2 e3 e4 s' g'
    exact k b H' _ s2 g2 hx
  · exact q Z S H σ env Q Qd Ed g r l h k
/-- the list in slot i is written no more -/
def dFrzS (i : Nat) (d : DS_) : DS_ := fun De env => match env[i]? with
  | some (.own xs) => d De (env.set i (.v (.ls xs)))
  | _ => d De env
theorem frz_at {B : Base} {S : Sta} {H : Hp} {a : Addr} {vs : List V} (at_ : At B S H) (e : H a = some (.lst vs)) (z : B.H0 a = none) (f : S.F a = none) (b : ¬ InB S.bx a) : At B ⟨S.bx, upd S.F a (.lst vs)⟩ H := by
  have le := frz_le (vs := vs) f
  refine ⟨good_frz at_.g e b, ⟨fun c o ec => le.f c o (at_.p.ext c o ec), fun c o ec => ?_, at_.p.box, at_.p.keep⟩, at_.f.trans le⟩
  by_cases hz : c = a
  · rw [hz]; exact .inr z
  · have e' : upd S.F a (.lst vs) c = some o := ec
    rw [upd_ne hz] at e'
    exact at_.p.new c o e'
theorem ds_frz (i : Nat) {st : Stmt} (h : DS X E st d) : DS X E st (dFrzS i d) := by
  obtain ⟨t, p, q⟩ := h.run
  refine ⟨t, p, fun B De Dn l S σ env H a r h => ?_⟩
  unfold dFrzS at h
  split at h
  · next xs ei =>
    obtain ⟨b, vs, e1, e2, e3, e4, e5, e6, _, r'⟩ := r.lend ei
    exact q B De Dn l _ σ _ H (frz_at a e2 e5 e3 e4) r' h
  · exact q B De Dn l S σ env H a r h
theorem dss_frz (i : Nat) {st : List Stmt} (h : DSs X E st d) : DSs X E st (dFrzS i d) := by
  obtain ⟨t, p, q⟩ := h.run
  refine ⟨t, p, fun B De Dn l S σ env H a r h => ?_⟩
  unfold dFrzS at h
  split at h
  · next xs ei =>
    obtain ⟨b, vs, e1, e2, e3, e4, e5, e6, _, r'⟩ := r.lend ei
    exact q B De Dn l _ σ _ H (frz_at a e2 e5 e3 e4) r' h
  · exact q B De Dn l S σ env H a r h
/-! ### xs[k] = e -/
theorem at_mut {B : Base} {S : Sta} {H : Hp} {b : Addr} {us : List V} (a : At B S H) (z : B.H0 b = none) (f : S.F b = none) (nb : ¬ InB S.bx b) : At B S (upd H b (.lst us)) :=
  ⟨good_mut a.g f nb, ⟨a.p.ext, a.p.new, a.p.box, fun c o ec hc => by rw [upd_ne (ne_of_none ec z)]; exact a.p.keep c o ec hc⟩, a.f⟩
def dSetIx (i : Nat) (di de : DT_) : DS_ := fun De env => match env[i]? with
  | some (.own xs) => de env (fun y => di env (fun z => match z with
    | .it k => (match ixN xs.length k with | some j => De.nx (env.set i (.own (xs.set j y))) | none => False)
    | _ => False) De.ex) De.ex
  | _ => False
theorem ds_setix (i : Nat) {x : Str} {ix : Expr} {di : DT_} {p1 p2 : Pos} (he : DE X E e de) (hi : DE X E ix di) (hN : X.N[i]? = some x := by rfl) (hv : Vis X.env.scope x := by first | exact Or.inl rfl | exact Or.inr (Or.inl rfl) | exact Or.inr (Or.inr rfl)) (hd : (x == ("__debug__" : Str)) = false := by decide)
    (hcd : (x == ("__classdict__" : Str)) = false := by decide) (hs : swapsWithSole [.Subscript (.Name x p1) ix p2] e pos.line X.env = pure false := by rfl) (hw : swappedStores [.Subscript (.Name x p1) ix p2] e X.env = pure none := by rfl)
    (h1 : (assignEach [.Subscript (.Name x p1) ix p2] X.env).map (·.2) = [assign (.Subscript (.Name x p1) ix p2) X.env] := by rfl)
    (ha : ∀ v, assign (.Subscript (.Name x p1) ix p2) X.env v = (do
      let ov ← holding [v] (eval (.Name x p1) X.env)
      let iv ← holding [v, ov] (eval ix X.env)
      standAt p2
      holding [v, ov, iv] (setItem ov iv v)
      release [v, ov, iv] []) := by intro _; rfl) :
    DS X E (.Assign [.Subscript (.Name x p1) ix p2] e pos) (dSetIx i di de) := by
  obtain ⟨t, p, q⟩ := he.run
  obtain ⟨ti, pi, qi⟩ := hi.run
  refine ⟨_, ps_asg p (pg_sub (pe_var hN hv hd hcd) pi set_list ha) hs hw h1, fun B De Dn l S σ env H a r h => ?_⟩
  unfold dSetIx at h
  split at h
  · next xs ei =>
    refine q _ S H σ env _ _ _ a.g r (l.xl a) h fun v H1 S1 y s1 g1 r1 h1 => ?_
    have rr := r.step s1
    have aa := a.step s1 g1
    obtain ⟨b, vs, e1, e2, e3, e4, e5, e6⟩ := rr.at_ i _ ei
    refine ⟨_, e1, qi _ S1 H1 σ env _ _ _ g1 rr (l.xl aa) h1 fun z H2 S2 dz s2 g2 r2 h2 => ?_⟩
    have r3 := rr.step s2
    have a3 := aa.step s2 g2
    obtain ⟨b', vs', q1, q2, q3, q4, q5, q6⟩ := r3.at_ i _ ei
    rw [e1] at q1; cases q1
    split at h2
    · split at h2
      · next j ej =>
        cases r2
        refine ⟨b, vs', _, j, rfl, rfl, q2, by rw [q6.length]; exact ej, ?_⟩
        exact l.nx S2 σ _ _ (at_mut a3 q5 q3 q4) (r3.mut ei e1 (RpL.set (r1.le s2.le) j q6)) h2
      · exact h2.elim
    · exact h2.elim
  · exact h.elim
/-! ### xs[k] op= e -/
theorem get_list {X : Cx} : PGet X (rIxL X.K) := by
  intro pins s σ H o i ov iv Q I ro ri h
  obtain ⟨p, xs, k, z, rfl, rfl, hq, he, q⟩ := h
  cases ro
  obtain ⟨t, rfl⟩ := ri
  obtain ⟨its, r, pl, hz⟩ := I.list hq
  obtain ⟨j, h1, h2, h3, h4, h5⟩ := atI_get he
  obtain ⟨w, ew, rw'⟩ := r.get h2
  have hl := r.length
  have hn := line63
  have fin : EP X pins σ Q w s := ⟨z, H, I, rw', q⟩
  by_cases h0 : 0 ≤ k
  · have hj : k.toNat = j := by
      rw [seqIndex_of h0 h5] at h1
      exact Option.some.inj h1
    exact wpAny_getItem_list pl.isList h0 (by omega) (by rw [hj]; simpa using ew) fin
  · have hj : (k + (its.toArray.size : Int)).toNat = j := by
      rw [seqIndex_neg (by omega) h4] at h1
      rw [List.size_toArray, ← hl]
      exact Option.some.inj h1
    exact wpAny_getItem_list_neg pl.isList (by omega) (by rw [List.size_toArray] <;> omega) (by omega) (by rw [hj]; simpa using ew) fin
def dAugIx (i : Nat) (f : Int → Int → Int) (di de : DT_) : DS_ := fun De env => match env[i]? with
  | some (.own xs) => di env (fun z => match z with
    | .it k => (match ixN xs.length k with
      | some j => (match xs[j]? with
        | some (.it n) => de env (fun y => match y with | .it m => De.nx (env.set i (.own (xs.set j (.it (f n m))))) | _ => False) De.ex
        | _ => False)
      | none => False)
    | _ => False) De.ex
  | _ => False
theorem ds_augix (i : Nat) {x : Str} {ix : Expr} {di : DT_} {p1 p2 : Pos} {op : Operator} {f : Int → Int → Int} (ho : PIp X op (ipI f)) (he : DE X E e de) (hi : DE X E ix di) (hN : X.N[i]? = some x := by rfl) (hv : Vis X.env.scope x := by first | exact Or.inl rfl | exact Or.inr (Or.inl rfl) | exact Or.inr (Or.inr rfl)) (hd : (x == ("__debug__" : Str)) = false := by decide)
    (hcd : (x == ("__classdict__" : Str)) = false := by decide) (ha : ∀ ov iv new, augStore ix ov iv new = (do holding [new, ov, iv] (setItem ov iv new); release [new, ov, iv] []; pure .next) := by intros; rfl) : DS X E (.AugAssign (.Subscript (.Name x p1) ix p2) op e pos) (dAugIx i f di de) := by
  obtain ⟨t, p, q⟩ := he.run
  obtain ⟨ti, pi, qi⟩ := hi.run
  refine ⟨_, ps_augS (pe_var hN hv hd hcd) pi get_list p ho set_list ha, fun B De Dn l S σ env H a r h => ?_⟩
  unfold dAugIx at h
  split at h
  · next xs ei =>
    obtain ⟨b, vs, e1, e2, e3, e4, e5, e6⟩ := r.at_ i _ ei
    refine ⟨_, e1, qi _ S H σ env _ _ _ a.g r (l.xl a) h fun z H1 S1 dz s1 g1 r1 h1 => ?_⟩
    have rr := r.step s1
    have aa := a.step s1 g1
    obtain ⟨b', vs', q1, q2, q3, q4, q5, q6⟩ := rr.at_ i _ ei
    rw [e1] at q1; cases q1
    split at h1
    · split at h1
      · next j ej =>
        split at h1
        · next n en =>
          cases r1
          obtain ⟨v, hv1, hv2⟩ := q6.getD en
          cases hv2
          refine ⟨b, vs', _, .int n, rfl, rfl, SqL.of q2, (by unfold atI; rw [q6.length, ej]; exact hv1), ?_⟩
          refine q _ S1 H1 σ env _ _ _ g1 rr (l.xl aa) h1 fun y H2 S2 dy s2 g2 r2 h2 => ?_
          have r3 := rr.step s2
          have a3 := aa.step s2 g2
          obtain ⟨b', vs2, t1, t2, t3, t4, t5, t6⟩ := r3.at_ i _ ei
          rw [e1] at t1; cases t1
          split at h2
          · cases r2
            refine ⟨n, _, rfl, rfl, b, vs2, _, j, rfl, rfl, t2, by rw [t6.length]; exact ej, ?_⟩
            exact l.nx S2 σ _ _ (at_mut a3 t5 t3 t4) (r3.mut ei e1 (RpL.set (.it _) j t6)) h2
          · exact h2.elim
        · exact h1.elim
      · exact h1.elim
    · exact h1.elim
  · exact h.elim
/-! ### a, b = [..], y: the first one a list of one's own -/
def dParO (i j : Nat) (dn : DN_) (da : DT_) : DS_ := fun De env => dn env (fun xs => da env (fun y => De.nx ((env.set i (.own xs)).set j (.v y))) De.ex) De.ex
theorem ds_parO {i j : Nat} {x y : Str} {a b : Expr} {dn : DN_} {db : DT_} {px py pt : Pos} {kt k2 pt2} (hc : X.calm = true) (hN : X.N.Nodup) (ha : DN X E a dn) (hb : DE X E b db)
    (hw : swappedStores [.Tuple [.Name x px, .Name y py] kt pt] (.Tuple [a, b] k2 pt2) X.env = pure (some [x, y])) (hi : X.N[i]? = some x := by rfl) (hj : X.N[j]? = some y := by rfl) (hij : i ≠ j := by decide)
    (hx : X.env.scope.names.lookup x = some .local := by rfl) (hy : X.env.scope.names.lookup y = some .local := by rfl) (sa : starEach [a, b] X.env = (false, eval a X.env) :: starEach [b] X.env := by rfl) (sb : starEach [b] X.env = (false, eval b X.env) :: starEach [] X.env := by rfl)
    (hs : swapsWithSole [.Tuple [.Name x px, .Name y py] kt pt] (.Tuple [a, b] k2 pt2) pos.line X.env = pure false := by rfl) :
    DS X E (.Assign [.Tuple [.Name x px, .Name y py] kt pt] (.Tuple [a, b] k2 pt2) pos) (dParO i j dn db) := by
  obtain ⟨t1, p1, q1⟩ := ha.sem
  obtain ⟨t2, p2, q2⟩ := hb.run
  refine ⟨_, ps_par hc hN hi hj hij hx hy (pa_cons p1 (pa_cons p2 pa_nil sb) sa) hw hs, fun B De Dn l S σ env H at_ r h => ?_⟩
  refine q1 _ S H σ env _ _ _ at_.g r (l.xl at_) h fun p H1 S1 vs xs s1 g1 n0 n1 n2 n3 rr h1 => ?_
  have a1 := at_.step s1 g1
  refine q2 _ S1 H1 σ env _ _ _ g1 (r.step s1) (l.xl a1) h1 fun v H2 S2 dy s2 g2 rv h2 => ?_
  have f2 : S2.F p = none := none_of_keep fun o e => by
    rcases s2.new p o e with z | z
    · rw [n2] at z; cases z
    · rw [n1] at z; cases z
  have b2 : ¬ InB S2.bx p := fun z => by
    rcases s2.inB z with z | z
    · exact n3 z
    · rw [n1] at z; cases z
  have e2 : H2 p = some (.lst vs) := s2.keep p _ n1 n3
  refine ⟨.ref p, v, rfl, l.nx S2 _ _ H2 (a1.step s2 g2) ((((r.step s1).step s2).putOwn (at_.p.free at_.g n0) e2 f2 b2 (fun k ys ek ez => ?_) (rr.le s2.le)).put rv) h2⟩
  obtain ⟨c, ws, u1, u2, _⟩ := r.at_ k _ ek
  rw [ez] at u1; cases u1
  rw [n0] at u2; cases u2
end
end Dl

set_option Elab.async false
set_option linter.all false
set_option maxRecDepth 100000
set_option maxHeartbeats 4000000
/-! Dl13: plain laws of comprehensions and loops over data. -/
namespace Dl
open PySem PySem.Spec PyProof.Rows L2

section
variable {dg : DG_} {tt : DB_} {te : DT_} {env : Env'} {Q : List D → Prop}
/-- a comprehension whose items are a function's values -/
theorem lcD_of (f : D → Option D) : ∀ (xs acc : List D),
    (∀ x ∈ xs, ∀ (Y : D → Prop) (N : Prop), (∀ y, f x = some y → Y y) → (f x = none → N) → dg x env fun env1 => tt env1 (fun b => match b with | true => te env1 Y (fun _ => False) | false => N) (fun _ => False)) →
    acc.length + xs.length ≤ sizeLine → Q (acc ++ xs.filterMap f) → lcD dg tt te env (fun _ => False) Q xs acc
  | [], acc, _, _, h => by rw [List.filterMap_nil, List.append_nil] at h; exact h
  | x :: xs, acc, hs, hl, h => by
    show dg x env fun env1 => tt env1 (fun b => match b with | true => te env1 (fun y => acc.length < sizeLine ∧ lcD dg tt te env (fun _ => False) Q xs (acc ++ [y])) (fun _ => False) | false => lcD dg tt te env (fun _ => False) Q xs acc) (fun _ => False)
    have hl' : acc.length + (xs.length + 1) ≤ sizeLine := by simpa using hl
    refine hs x (by simp) _ _ (fun y ey => ⟨by omega, ?_⟩) (fun en => ?_)
    · refine lcD_of f xs (acc ++ [y]) (fun z hz => hs z (List.mem_cons_of_mem _ hz)) (by simp; omega) ?_
      rw [List.filterMap_cons, ey] at h
      simpa using h
    · refine lcD_of f xs acc (fun z hz => hs z (List.mem_cons_of_mem _ hz)) (by omega) ?_
      rw [List.filterMap_cons, en] at h
      simpa using h
/-- item by item, as related -/
inductive All2 (R : Nat → D → D → Prop) : Nat → List D → List D → Prop where
  | nil {i : Nat} : All2 R i [] []
  | cons {i : Nat} {x y : D} {xs ys : List D} : R i x y → All2 R (i + 1) xs ys → All2 R i (x :: xs) (y :: ys)
theorem All2.length {R : Nat → D → D → Prop} : ∀ {i : Nat} {xs ys : List D}, All2 R i xs ys → ys.length = xs.length
  | _, _, _, .nil => rfl
  | _, _, _, .cons _ t => by rw [List.length_cons, List.length_cons, t.length]
theorem All2.mem {R : Nat → D → D → Prop} : ∀ {i : Nat} {xs ys : List D}, All2 R i xs ys → ∀ y ∈ ys, ∃ j x, R j x y
  | _, _, _, .nil, y, h => by cases h
  | _, _, _, .cons r t, y, h => by
    rcases List.mem_cons.mp h with rfl | h
    · exact ⟨_, _, r⟩
    · exact t.mem y h
/-- a comprehension without a test whose items are related to what is walked -/
theorem lcD_rel (R : Nat → D → D → Prop) : ∀ (i : Nat) (xs acc : List D),
    (∀ (j : Nat) (x : D), xs[j]? = some x → ∀ (Y : D → Prop), (∀ y, R (i + j) x y → Y y) → dg x env fun env1 => te env1 Y (fun _ => False)) →
    acc.length + xs.length ≤ sizeLine → (∀ ys, All2 R i xs ys → Q (acc ++ ys)) → lcD dg dYes te env (fun _ => False) Q xs acc
  | i, [], acc, _, _, h => by have := h [] .nil; rw [List.append_nil] at this; exact this
  | i, x :: xs, acc, hs, hl, h => by
    show dg x env fun env1 => te env1 (fun y => acc.length < sizeLine ∧ lcD dg dYes te env (fun _ => False) Q xs (acc ++ [y])) (fun _ => False)
    have hl' : acc.length + (xs.length + 1) ≤ sizeLine := by simpa using hl
    refine hs 0 x rfl _ fun y r => ⟨by omega, ?_⟩
    refine lcD_rel R (i + 1) xs (acc ++ [y]) (fun j z hz Y hY => hs (j + 1) z hz Y fun w hw => hY w (by rw [Nat.add_right_comm, Nat.add_assoc]; exact hw)) (by simp; omega) fun ys hys => ?_
    have := h (y :: ys) (.cons r hys)
    simpa using this
/-- a comprehension without a test whose items are a function's values -/
theorem lcD_map (f : D → D) (xs : List D) (hs : ∀ x ∈ xs, ∀ (Y : D → Prop), Y (f x) → dg x env fun env1 => te env1 Y (fun _ => False)) (hl : xs.length ≤ sizeLine) (h : Q (xs.map f)) : lcD dg dYes te env (fun _ => False) Q xs [] := by
  refine lcD_rel (fun _ x y => y = f x) 0 xs [] (fun j x hx Y hY => hs x (List.mem_of_getElem? hx) Y (hY _ rfl)) (by simpa using hl) fun ys hys => ?_
  have key : ∀ {i : Nat} {xs ys : List D}, All2 (fun _ x y => y = f x) i xs ys → ys = xs.map f := fun {i xs ys} h => by
    induction h with
    | nil => rfl
    | cons r _ ih => rw [List.map_cons, r, ih]
  rw [List.nil_append, key hys]
  exact h
end
section
variable {dg : DG_} {db : DS_} {De : DEnds}
/-- a loop, by what holds ahead of the rest of it -/
theorem for_ind (I : List D → Env' → Prop) (hn : ∀ env, I [] env → De.nx env)
    (hs : ∀ x r env (N : Env' → Prop), (∀ env', I r env' → N env') → I (x :: r) env → dg x env fun env1 => db { De with nx := N, ct := N, bk := De.nx } env1) : ∀ xs env, I xs env → forD dg db De xs env
  | [], env, h => hn env h
  | x :: r, env, h => hs x r env _ (fun env' h' => for_ind I hn hs r env' h') h
end
/-! ### a comprehension over what is no data (the script) -/
section
variable {X : Cx} {E : XK} {elt tg iter : Expr} {ifs : List Expr} {scope : Scope} {own : List (Str × Nat)} {pos : Pos} {vsg : List Nat} {dg : DG_} {tt : DB_} {te : DT_} {wi : TI}
theorem frz_new {S S' : Sta} {H H' : Hp} {p : Addr} {vs : List V} (s' : Stp S H S' H') (g' : Good S' H') (h0 : H p = none) (h1 : H' p = some (.lst vs)) (h2 : S'.F p = none) (h3 : ¬ InB S'.bx p) :
    Stp S H ⟨S'.bx, upd S'.F p (.lst vs)⟩ H' ∧ Good ⟨S'.bx, upd S'.F p (.lst vs)⟩ H' ∧ Le S'.bx S'.F S'.bx (upd S'.F p (.lst vs)) := by
  have le : Le S'.bx S'.F S'.bx (upd S'.F p (.lst vs)) := ⟨fun b o e => by
    have : b ≠ p := fun z => by rw [z, h2] at e; cases e
    rw [upd_ne this]; exact e, fun x e => e⟩
  refine ⟨⟨fun b o e => le.f b o (s'.ext b o e), fun b o e => ?_, s'.box, s'.keep⟩, good_frz g' h1 h3, le⟩
  by_cases z : b = p
  · rw [z]; exact .inr h0
  · have e' : upd S'.F p (.lst vs) b = some o := e
    rw [upd_ne z] at e'
    exact s'.new b o e'
def LcRaw (X : Cx) (st : Stmt) (i : Nat) (wi : TI) (dg : DG_) (tt : DB_) (te : DT_) (vs : List Nat) : Prop :=
    ∃ t, PS X st t ∧ ∀ (Dn : Ends) (Z : Hp) (S : Sta) (H : Hp) (σ : L2.St) (env : Env') (Qd : List D → Prop), Good S H → Rel Z S H σ env →
      (∀ R : It → Hp → Prop, (∀ J H' S' xs, Stp S H S' H' → Good S' H' → Wlk S'.bx S'.F J xs → lcD dg tt te (wipeD env vs) (fun _ => False) Qd xs [] → R J H') → wi σ H R) →
      (∀ p H' S' xs, Stp S H S' H' → Good S' H' → Rp S'.bx S'.F (.ref p) (.ls xs) → Qd xs → Dn.nx (σ.set i (some (.ref p))) H') → t Dn σ H
theorem lcN_raw (i : Nat) {y : Str} {py spos : Pos} (hc : X.calm = true) (hN : X.N.Nodup) (hi : PI X tg iter wi) (ok : BlkOk X.N X.env.scope scope own) (hv : ∀ i ∈ vsg, i ∈ own.map (·.2)) (hg : ∀ s H C cl fp, DG (BCx X scope s H C cl fp) tg vsg dg)
    (ht : ∀ s H C cl fp, DTs (BCx X scope s H C cl fp) E0 ifs tt) (he : ∀ s H C cl fp, DE (BCx X scope s H C cl fp) E0 elt te)
    (hsw : swapsWith (.ListComp elt [⟨tg, iter, ifs, 0⟩] scope pos) (some (.Name y py)) spos.line X.env = pure true) (hy : X.N[i]? = some y := by rfl) (hyl : X.env.scope.names.lookup y = some .local := by rfl) (hs : ∀ x, foldedSetIterable iter X.env x = pure x := by intro _; rfl) :
    LcRaw X (.Assign [.Name y py] (.ListComp elt [⟨tg, iter, ifs, 0⟩] scope pos) spos) i wi dg tt te (own.map (·.2)) := by
  obtain ⟨g, pg, sg⟩ := allG hg
  obtain ⟨t1, p1, s1⟩ := allT ht
  obtain ⟨t2, p2, s2⟩ := allE he
  refine ⟨_, ps_setLc hc hN hy hyl hsw hi ok pg p1 p2 hs, fun Dn Z S H σ env Qd gd r si k => ?_⟩
  refine lc_at (X := X) hv gd r si sg s1 s2 fun p H' S' vs xs st g' h0 h1 h2 h3 rr hq => ?_
  obtain ⟨a, b, c⟩ := frz_new st g' h0 h1 h2 h3
  exact k p H' _ xs a b (.ls (by show upd S'.F p (.lst vs) p = _; exact upd_same) (rr.le c)) hq
end
/-- the script, or its beginning, is walked -/
theorem wlk_scr {K : PySem.W.Frag} {H : Hp} {a : Addr} {ns : List Int} (h : SqL K H a (ns.map V.int)) {S : Sta} (hS : S.F = fun _ => none) (st : ∀ S' H', Le S.bx S.F S'.bx S'.F → Good S' H' → SqL K H' a (ns.map V.int)) : Wlk S.bx S.F (Itl K a) (ns.map D.it) := by
  intro S' H' le g i
  have hp := st S' H' le g
  refine ⟨fun d hd => ?_, fun hi => ⟨_, hp, by rw [List.length_map] at hi ⊢; omega⟩⟩
  rw [List.getElem?_map] at hd
  cases e : ns[i]? with
  | none => rw [e] at hd; cases hd
  | some n =>
    rw [e] at hd
    cases hd
    refine ⟨⟨_, .int n, hp, by rw [List.getElem?_map, e]; rfl⟩, fun v' H2 hy => ?_⟩
    obtain ⟨rfl, hy⟩ := hy
    have := hy _ hp
    rw [List.getElem?_map, e] at this
    cases this
    exact ⟨S', .refl _ _, g, .it n⟩
/-! ### lists of numbers -/
theorem plain_ints : ∀ ns : List Int, plainDL (ns.map D.it) = true
  | [] => rfl
  | n :: r => by simp only [List.map_cons, plainDL, plainD, plain_ints r, Bool.and_self]
theorem deep_ints : ∀ ns : List Int, deepL (ns.map D.it) = 0
  | [] => rfl
  | n :: r => by simp only [List.map_cons, deepL, deep, deep_ints r, Nat.max_self]
theorem eq_ints_nil (ns : List Int) : eqD (.ls (ns.map D.it)) (.ls []) = decide (ns = []) := by
  cases ns with
  | nil => rfl
  | cons n r => rfl
theorem cmp_ints_nil (ns : List Int) : cmpOk (.ls (ns.map D.it)) (.ls []) := by
  refine ⟨?_, rfl, ?_⟩
  · simp only [plainD]; exact plain_ints ns
  · simp only [deep, deepL]
    omega
/-- [x for x in numbers if ..] -/
theorem lc_filt {dg : DG_} {tt : DB_} {te : DT_} {env : Env'} {Q : List D → Prop} (p : Int → Bool) (ns : List Int)
    (h : ∀ n ∈ ns, ∀ (Y : D → Prop) (N : Prop), (p n = true → Y (.it n)) → (p n = false → N) → dg (.it n) env fun env1 => tt env1 (fun b => match b with | true => te env1 Y (fun _ => False) | false => N) (fun _ => False))
    (hl : ns.length ≤ sizeLine) (k : Q ((ns.filter p).map D.it)) : lcD dg tt te env (fun _ => False) Q (ns.map D.it) [] := by
  have e : ∀ ns : List Int, (ns.map D.it).filterMap (fun x => match x with | .it n => if p n = true then some x else none | _ => none) = (ns.filter p).map D.it := by
    intro ns
    induction ns with
    | nil => rfl
    | cons n r ih =>
      rw [List.map_cons, List.filterMap_cons]
      by_cases hp : p n = true
      · rw [List.filter_cons_of_pos hp]
        simp only [hp, if_true, List.map_cons]
        exact congrArg _ ih
      · rw [List.filter_cons_of_neg hp]
        simp only [hp, if_false]
        exact ih
  refine lcD_of (fun x => match x with | .it n => if p n = true then some x else none | _ => none) _ [] (fun x hx Y N h1 h2 => ?_) (by simpa using hl) ?_
  · obtain ⟨n, hn, rfl⟩ := List.mem_map.mp hx
    refine h n hn Y N (fun hp => h1 _ ?_) (fun hp => h2 ?_)
    · simp only [hp, if_true]
    · simp only [hp, Bool.false_eq_true, if_false]
  · rw [List.nil_append, e]; exact k
/-- a comprehension over the data of a list -/
theorem lcD_on {α : Type} {dg : DG_} {te : DT_} {env : Env'} {Q : List D → Prop} (g f : α → D) : ∀ (l : List α) (acc : List D),
    (∀ a ∈ l, ∀ (Y : D → Prop), Y (f a) → dg (g a) env fun env1 => te env1 Y (fun _ => False)) → acc.length + l.length ≤ sizeLine → Q (acc ++ l.map f) → lcD dg dYes te env (fun _ => False) Q (l.map g) acc
  | [], acc, _, _, h => by rw [List.map_nil, List.append_nil] at h; exact h
  | a :: l, acc, hs, hl, h => by
    rw [List.map_cons]
    show dg (g a) env fun env1 => te env1 (fun y => acc.length < sizeLine ∧ lcD dg dYes te env (fun _ => False) Q (l.map g) (acc ++ [y])) (fun _ => False)
    have hl' : acc.length + (l.length + 1) ≤ sizeLine := by simpa using hl
    refine hs a (by simp) _ ⟨by omega, lcD_on g f l (acc ++ [f a]) (fun b hb => hs b (List.mem_cons_of_mem _ hb)) (by simp; omega) ?_⟩
    rw [List.map_cons] at h
    simpa using h
theorem zpD_map {α β : Type} (g : α → D) (h : β → D) : ∀ (l : List α) (m : List β), zpD (l.map g) (m.map h) = (l.zip m).map fun p => D.tp [g p.1, h p.2]
  | [], _ => by simp [zpD]
  | _ :: _, [] => by simp [zpD]
  | a :: l, b :: m => by simp only [List.map_cons, zpD, List.zip_cons_cons, zpD_map g h l m]
end Dl

set_option Elab.async false
set_option linter.all false
set_option maxRecDepth 100000
set_option maxHeartbeats 4000000
/-! Dl14: sizes of data. -/
namespace Dl
open PySem PySem.Spec PyProof.Rows L2

theorem okL_iff : ∀ {xs : List D}, okL xs ↔ ∀ x ∈ xs, okD x
  | [] => by simp [okL]
  | x :: r => by
    simp only [okL, List.mem_cons, forall_eq_or_imp]
    rw [okL_iff]
theorem massL_append : ∀ xs ys : List D, massL (xs ++ ys) = massL xs + massL ys
  | [], _ => by simp [massL]
  | x :: r, ys => by simp only [List.cons_append, massL, massL_append r ys]; omega
theorem deepL_append : ∀ xs ys : List D, deepL (xs ++ ys) = max (deepL xs) (deepL ys)
  | [], _ => by simp [deepL]
  | x :: r, ys => by simp only [List.cons_append, deepL, deepL_append r ys]; omega
theorem massL_take : ∀ (n : Nat) (xs : List D), massL (xs.take n) ≤ massL xs
  | 0, _ => by simp [massL]
  | _ + 1, [] => by simp [massL]
  | n + 1, x :: r => by simp only [List.take_succ_cons, massL]; have := massL_take n r; omega
theorem massL_drop : ∀ (n : Nat) (xs : List D), massL (xs.drop n) ≤ massL xs
  | 0, _ => by simp
  | _ + 1, [] => by simp [massL]
  | n + 1, x :: r => by simp only [List.drop_succ_cons, massL]; have := massL_drop n r; omega
theorem massL_split (n : Nat) (xs : List D) : massL (xs.take n) + massL (xs.drop n) = massL xs := by rw [← massL_append, List.take_append_drop]
theorem deepL_take : ∀ (n : Nat) (xs : List D), deepL (xs.take n) ≤ deepL xs
  | 0, _ => by simp [deepL]
  | _ + 1, [] => by simp [deepL]
  | n + 1, x :: r => by simp only [List.take_succ_cons, deepL]; have := deepL_take n r; omega
theorem deepL_drop : ∀ (n : Nat) (xs : List D), deepL (xs.drop n) ≤ deepL xs
  | 0, _ => by simp
  | _ + 1, [] => by simp [deepL]
  | n + 1, x :: r => by simp only [List.drop_succ_cons, deepL]; have := deepL_drop n r; omega
theorem massL_rev : ∀ xs : List D, massL xs.reverse = massL xs
  | [] => rfl
  | x :: r => by rw [List.reverse_cons, massL_append, massL_rev r]; simp only [massL]; omega
theorem deepL_rev : ∀ xs : List D, deepL xs.reverse = deepL xs
  | [] => rfl
  | x :: r => by rw [List.reverse_cons, deepL_append, deepL_rev r]; simp only [deepL]; omega
theorem massL_rep (xs : List D) : ∀ n : Nat, massL (List.replicate n xs).flatten = n * massL xs
  | 0 => by simp [massL]
  | n + 1 => by rw [List.replicate_succ, List.flatten_cons, massL_append, massL_rep xs n, Nat.succ_mul]; omega
theorem deepL_rep (xs : List D) : ∀ n : Nat, deepL (List.replicate n xs).flatten ≤ deepL xs
  | 0 => by simp [deepL]
  | n + 1 => by rw [List.replicate_succ, List.flatten_cons, deepL_append]; have := deepL_rep xs n; omega
theorem mass_mem : ∀ {xs : List D} {x : D}, x ∈ xs → mass x ≤ massL xs
  | y :: r, x, h => by
    simp only [massL]
    rcases List.mem_cons.mp h with rfl | h
    · omega
    · have := mass_mem h; omega
theorem deep_mem : ∀ {xs : List D} {x : D}, x ∈ xs → deep x ≤ deepL xs
  | y :: r, x, h => by
    simp only [deepL]
    rcases List.mem_cons.mp h with rfl | h
    · omega
    · have := deep_mem h; omega
theorem massL_le {c : Nat} : ∀ {xs : List D}, (∀ x ∈ xs, mass x ≤ c) → massL xs ≤ xs.length * c
  | [], _ => by simp [massL]
  | x :: r, h => by
    simp only [massL, List.length_cons, Nat.succ_mul]
    have := h x (by simp)
    have := massL_le (xs := r) fun y hy => h y (List.mem_cons_of_mem _ hy)
    omega
theorem deepL_le {c : Nat} : ∀ {xs : List D}, (∀ x ∈ xs, deep x ≤ c) → deepL xs ≤ c
  | [], _ => by simp [deepL]
  | x :: r, h => by
    simp only [deepL]
    have := h x (by simp)
    have := deepL_le (xs := r) fun y hy => h y (List.mem_cons_of_mem _ hy)
    omega
/-- lists of a size -/
structure SmL (m h : Nat) (xs : List D) : Prop where
  ok : okL xs
  m : massL xs ≤ m
  h : deepL xs ≤ h
structure Sm (m h : Nat) (d : D) : Prop where
  ok : okD d
  m : mass d ≤ m
  h : deep d ≤ h
section
variable {m m' h h' : Nat} {xs ys : List D} {x : D}
theorem SmL.nil : SmL m h [] := ⟨by simp [okL], by simp [massL], by simp [deepL]⟩
theorem SmL.cons (a : Sm m h x) (b : SmL m' h xs) : SmL (m + m') h (x :: xs) := ⟨by simp only [okL]; exact ⟨a.ok, b.ok⟩, by simp only [massL]; have := a.m; have := b.m; omega, by simp only [deepL]; have := a.h; have := b.h; omega⟩
theorem SmL.one (a : Sm m h x) : SmL m h [x] := (SmL.cons a (SmL.nil (m := 0)))
theorem SmL.app (a : SmL m h xs) (b : SmL m' h ys) : SmL (m + m') h (xs ++ ys) :=
  ⟨okL_iff.mpr fun x hx => (List.mem_append.mp hx).elim (okL_iff.mp a.ok x) (okL_iff.mp b.ok x), by rw [massL_append]; have := a.m; have := b.m; omega, by rw [deepL_append]; have := a.h; have := b.h; omega⟩
theorem SmL.le (a : SmL m h xs) (e1 : m ≤ m') (e2 : h ≤ h') : SmL m' h' xs := ⟨a.ok, Nat.le_trans a.m e1, Nat.le_trans a.h e2⟩
theorem Sm.le (a : Sm m h x) (e1 : m ≤ m') (e2 : h ≤ h') : Sm m' h' x := ⟨a.ok, Nat.le_trans a.m e1, Nat.le_trans a.h e2⟩
theorem SmL.take (n : Nat) (a : SmL m h xs) : SmL m h (xs.take n) := ⟨okL_iff.mpr fun x hx => okL_iff.mp a.ok x (List.mem_of_mem_take hx), Nat.le_trans (massL_take n xs) a.m, Nat.le_trans (deepL_take n xs) a.h⟩
theorem SmL.drop (n : Nat) (a : SmL m h xs) : SmL m h (xs.drop n) := ⟨okL_iff.mpr fun x hx => okL_iff.mp a.ok x (List.mem_of_mem_drop hx), Nat.le_trans (massL_drop n xs) a.m, Nat.le_trans (deepL_drop n xs) a.h⟩
theorem SmL.rev (a : SmL m h xs) : SmL m h xs.reverse := ⟨okL_iff.mpr fun x hx => okL_iff.mp a.ok x (List.mem_reverse.mp hx), by rw [massL_rev]; exact a.m, by rw [deepL_rev]; exact a.h⟩
theorem SmL.rep (n : Nat) (a : SmL m h xs) : SmL (n * m) h (List.replicate n xs).flatten := ⟨okL_iff.mpr fun x hx => by
    obtain ⟨l, hl, hx⟩ := List.mem_flatten.mp hx
    rw [(List.mem_replicate.mp hl).2] at hx
    exact okL_iff.mp a.ok x hx, by rw [massL_rep]; exact Nat.mul_le_mul_left _ a.m, Nat.le_trans (deepL_rep xs n) a.h⟩
theorem SmL.cut (lo hi : Option Int) (a : SmL m h xs) : SmL m h (cutD xs lo hi) := (a.drop _).take _
theorem SmL.mem (a : SmL m h xs) (hx : x ∈ xs) : Sm m h x := ⟨okL_iff.mp a.ok x hx, Nat.le_trans (mass_mem hx) a.m, Nat.le_trans (deep_mem hx) a.h⟩
theorem SmL.tp (a : SmL m h xs) : Sm (1 + m) (h + 1) (.tp xs) := ⟨by simp only [okD]; exact a.ok, by simp only [mass]; have := a.m; omega, by simp only [deep]; have := a.h; omega⟩
theorem SmL.ls (a : SmL m h xs) : Sm (1 + m) (h + 1) (.ls xs) := ⟨by simp only [okD]; exact a.ok, by simp only [mass]; have := a.m; omega, by simp only [deep]; have := a.h; omega⟩
theorem Sm.tpL (a : Sm m (h + 1) (.tp xs)) : SmL m h xs := ⟨by have := a.ok; simpa only [okD] using this, by have := a.m; simp only [mass] at this; omega, by have := a.h; simp only [deep] at this; omega⟩
theorem Sm.lsL (a : Sm m (h + 1) (.ls xs)) : SmL m h xs := ⟨by have := a.ok; simpa only [okD] using this, by have := a.m; simp only [mass] at this; omega, by have := a.h; simp only [deep] at this; omega⟩
theorem SmL.of (n : Nat) (hl : xs.length ≤ n) (a : ∀ x ∈ xs, Sm m h x) : SmL (n * m) h xs := ⟨okL_iff.mpr fun x hx => (a x hx).ok, Nat.le_trans (massL_le fun x hx => (a x hx).m) (Nat.mul_le_mul_right _ hl), deepL_le fun x hx => (a x hx).h⟩
theorem Sm.it {i : Int} (h1 : -(2 ^ 256) < i) (h2 : i < 2 ^ 256) : Sm 1 h (.it i) := ⟨by simp only [okD]; exact ⟨h1, h2⟩, by simp [mass], by simp [deep]⟩
theorem Sm.bl {b : Bool} : Sm 1 h (.bl b) := ⟨by simp only [okD], by simp [mass], by simp [deep]⟩
theorem Sm.non : Sm 1 h .non := ⟨by simp only [okD], by simp [mass], by simp [deep]⟩
theorem Sm.fit (a : Sm m h x) (h1 : m ≤ 50000) (h2 : h ≤ 150) : Fit x := ⟨a.ok, Nat.le_trans a.m h1, Nat.le_trans a.h h2⟩
end
/-- small data that stand in the text: decided -/
def okIntB (i : Int) : Bool := decide (-(2 ^ 256) < i) && decide (i < 2 ^ 256)
def okStrB (s : Str) : Bool := s.cps.toList.all fun c => decide (c < 16 ^ 8)
def okKeyB : Key → Bool | .inl i => okIntB i | .inr s => okStrB s
mutual
def okB : D → Bool
  | .non => true
  | .bl _ => true
  | .it i => okIntB i
  | .st s => okStrB s
  | .tp xs => okBL xs
  | .ls xs => okBL xs
  | .dc kvs => okBK kvs
  | .bx _ _ => false
def okBL : List D → Bool
  | [] => true
  | x :: r => okB x && okBL r
def okBK : List (Key × D) → Bool
  | [] => true
  | (k, v) :: r => okKeyB k && (okB v && okBK r)
end
theorem okIntB_ok {i : Int} (h : okIntB i = true) : okInt i := by
  simp only [okIntB, Bool.and_eq_true, decide_eq_true_eq] at h
  exact h
theorem okStrB_ok {s : Str} (h : okStrB s = true) : okStr s := by
  simp only [okStrB, List.all_eq_true, decide_eq_true_eq] at h
  exact h
theorem okKeyB_ok {k : Key} (h : okKeyB k = true) : okKey k := by
  cases k with
  | inl i => exact okIntB_ok h
  | inr s => exact okStrB_ok h
mutual
theorem okB_ok : ∀ {d : D}, okB d = true → okD d
  | .non, _ => by simp only [okD]
  | .bl _, _ => by simp only [okD]
  | .it i, h => by simp only [okD]; simp only [okB] at h; exact okIntB_ok h
  | .st s, h => by simp only [okD]; simp only [okB] at h; exact okStrB_ok h
  | .tp xs, h => by simp only [okD]; simp only [okB] at h; exact okBL_ok h
  | .ls xs, h => by simp only [okD]; simp only [okB] at h; exact okBL_ok h
  | .dc kvs, h => by simp only [okD]; simp only [okB] at h; exact okBK_ok h
  | .bx _ _, h => by simp only [okB] at h; cases h
theorem okBL_ok : ∀ {xs : List D}, okBL xs = true → okL xs
  | [], _ => by simp only [okL]
  | x :: r, h => by
    simp only [okBL, Bool.and_eq_true] at h
    simp only [okL]; exact ⟨okB_ok h.1, okBL_ok h.2⟩
theorem okBK_ok : ∀ {xs : List (Key × D)}, okBK xs = true → okK xs
  | [], _ => by simp only [okK]
  | (k, v) :: r, h => by
    simp only [okBK, Bool.and_eq_true] at h
    simp only [okK]; exact ⟨okKeyB_ok h.1, okB_ok h.2.1, okBK_ok h.2.2⟩
end
theorem sm_dec {m h : Nat} {d : D} (e : (okB d && decide (mass d ≤ m) && decide (deep d ≤ h)) = true) : Sm m h d := by
  simp only [Bool.and_eq_true, decide_eq_true_eq] at e
  exact ⟨okB_ok e.1.1, e.1.2, e.2⟩
theorem sml_dec {m h : Nat} {d : List D} (e : (okBL d && decide (massL d ≤ m) && decide (deepL d ≤ h)) = true) : SmL m h d := by
  simp only [Bool.and_eq_true, decide_eq_true_eq] at e
  exact ⟨okBL_ok e.1.1, e.1.2, e.2⟩
theorem szl0 : szOk ([] : List D).length := by show 0 ≤ sizeLine; decide
theorem szl1 {a : D} : szOk ([a] : List D).length := by show 1 ≤ sizeLine; decide
theorem szl2 {a b : D} : szOk ([a, b] : List D).length := by show 2 ≤ sizeLine; decide
theorem szl3 {a b c : D} : szOk ([a, b, c] : List D).length := by show 3 ≤ sizeLine; decide
theorem szl4 {a b c d : D} : szOk ([a, b, c, d] : List D).length := by show 4 ≤ sizeLine; decide
theorem szl5 {a b c d e : D} : szOk ([a, b, c, d, e] : List D).length := by show 5 ≤ sizeLine; decide
theorem szl6 {a b c d e f : D} : szOk ([a, b, c, d, e, f] : List D).length := by show 6 ≤ sizeLine; decide
theorem szl7 {a b c d e f g : D} : szOk ([a, b, c, d, e, f, g] : List D).length := by show 7 ≤ sizeLine; decide
theorem szl8 {a b c d e f g h : D} : szOk ([a, b, c, d, e, f, g, h] : List D).length := by show 8 ≤ sizeLine; decide
end Dl

set_option Elab.async false
set_option linter.all false
set_option maxRecDepth 100000
set_option maxHeartbeats 4000000
/-! Dl15: from the law's promise to the row's statement. -/
namespace Dl
open PySem PySem.Spec PyProof.Rows L2

theorem cx_no {P : Program} {w : World} {o : List Env} {H : Hp} {s s' : Shared} {e : Value} (h : L2.CX P w o H s (fun _ _ _ => False) e s') : False := by
  obtain ⟨_, _, _, _, _, _, _, _, _, _, _, _, z⟩ := h
  exact z
theorem ends_call {P : Program} {w : World} {K : PySem.W.Frag} {mg mb : Str → Option Value} {k : Nat} {fa a : Addr} {fd : FuncData} {x : Str} {sp : Sp} {t : Shared} {vs : List Value} {ns : List Int}
    (KX : K.In t.heap) (nm : t.heap.Ns mainGlobals mg) (nb : t.heap.Ns builtinsNs mb) (bb : ∀ y : Str, y ≠ "__name__" → mb y = bootBuiltins y) (lim : t.heap.NoLimit) (sys : ∃ mm, t.heap.Ns sysModules mm) (gn : t.gens = #[])
    (ga : t.heap.get? a = some { cls := .type "list", data := .seq vs.toArray }) (hi : IntsAre vs ns) (hz : ns.length ≤ sizeLine) (hr : Room k callerA)
    (F : ∀ base : Heap, K.In base → base.Ns mainGlobals mg → (∃ o, base.get? sysModules = some o) → HFn P w K mg base k fa fd [x] sp) (bind : ∀ (s : Shared) (u : Value), BindsTo s fd ⟨[u], []⟩ [(x, u)])
    (law : ∀ H : Hp, SqL K H a (ns.map V.int) → sp [.ref a] H (fun v _ => v = .bl true) fun _ _ _ => False) :
    codeAny (model P w) callerA (.call (.ref fa) ⟨[.ref a], []⟩) (fun r s' => r = .ok (.ret (.bool true)) ∧ OldK t.heap s'.heap ∧ s'.os = t.os ∧ AllBare s'.gens) t := by
  have rv : Vals (ns.map V.int) vs := vals_ints hi
  -- H tracks the script or nothing
  have main : ∀ H : Hp, SqL K H a (ns.map V.int) → HOk P w H t.heap → (∀ b u, H b = some u → b = a ∧ ∃ o ys, u = .frz o (.lst ys)) → (∀ u, H a = some u → K.lookup a = none) →
      codeAny (model P w) callerA (.call (.ref fa) ⟨[.ref a], []⟩) (fun r s' => r = .ok (.ret (.bool true)) ∧ OldK t.heap s'.heap ∧ s'.os = t.os ∧ AllBare s'.gens) t := by
    intro H hS hok only noK
    have seen : ∀ {b : Addr} {o : Obj}, t.heap.get? b = some o → H b = none → (hidT t.heap H).get? b = some o := fun {b o} e n => hidT_get e n
    have isDict : ∀ {b : Addr} {o : Obj} {es : Array DictEntry} {ep : Nat}, t.heap.get? b = some o → o.data = .dict es ep → H b = none := fun {b o es ep} e d => none_of_keep fun u hu => by
      obtain ⟨rfl, _⟩ := only b u hu
      rw [ga] at e; cases e
      simp only [reduceCtorEq] at d
    have ns' : ∀ {b : Addr} {m : Str → Option Value}, t.heap.Ns b m → (hidT t.heap H).Ns b m := fun {b m} ⟨o, es, ep, e, d, r⟩ => ⟨o, es, ep, seen e (isDict e d), d, r⟩
    have kb : K.In (hidT t.heap H) := fun b o e => seen (KX b o e) (none_of_keep fun u hu => by
      obtain ⟨rfl, _⟩ := only b u hu
      rw [noK u hu] at e; cases e)
    have md : Mod K mg (hidT t.heap H) := ⟨kb, ns' nm, ⟨mb, ns' nb, bb⟩, by obtain ⟨mc, l1, l2⟩ := lim; exact ⟨mc, ns' l1, l2⟩⟩
    have sy : ∃ o, (hidT t.heap H).get? sysModules = some o := by
      obtain ⟨mm, q⟩ := sys
      obtain ⟨o, _, _, e, _⟩ := ns' q
      exact ⟨o, e⟩
    have en : Env0 P w K mg (hidT t.heap H) callerA [] t H := ⟨rfl, md, fun b o e => of_hidT e, Nat.le_of_eq (hidT_size _ _), trivial, fun b hb => (by simp [frs] at hb), hok, .of_eq gn⟩
    refine codeAny_mono ((F _ kb (ns' nm) sy).run callerA [] t H ⟨[.ref a], []⟩ [.ref a] [.ref a] _ _ hr rfl en (bind t (.ref a)) (.cons rfl .nil) (law H hS)) fun r s' h => ?_
    match r, h with
    | .error e, h => exact (cx_no h).elim
    | .ok .next, h => exact False.elim h
    | .ok .brk, h => exact False.elim h
    | .ok .cont, h => exact False.elim h
    | .ok (.ret u), h =>
      obtain ⟨v, H', os, bare, un, hok', ru, ev⟩ := h
      have ev' : v = .bl true := ev
      subst ev'
      have eu : u = Value.bool true := ru
      subst eu
      refine ⟨rfl, OldK.of_keep fun b o e => ?_, os, bare⟩
      cases hb : H b with
      | none => exact un.keep b o e hb (by simp [frs]) (by simp)
      | some u =>
        obtain ⟨rfl, ob, ys, rfl⟩ := only b u hb
        have z2 := un.frzs _ ob _ hb
        obtain ⟨p1, _⟩ := hok _ _ hb
        obtain ⟨p2, _⟩ := hok' _ _ z2
        rw [e] at p1; cases p1
        exact p2
  cases hk : K.lookup a with
  | some o =>
    have e := KX a o hk
    rw [ga] at e; cases e
    exact main (fun _ => none) (.inr ⟨_, vs.toArray, _, hk, rfl, rfl, rfl, by rw [List.size_toArray, hi.length]; exact hz, by simpa using rv⟩) (fun b u z => (by cases (show (none : Option HO) = some u from z))) (fun b u z => (by cases (show (none : Option HO) = some u from z))) fun u z => (by cases (show (none : Option HO) = some u from z))
  | none =>
    have at_ : ∀ b u, (fun b => if b = a then some (HO.frz { cls := .type "list", data := .seq vs.toArray } (.lst (ns.map V.int))) else none) b = some u → b = a ∧ u = .frz { cls := .type "list", data := .seq vs.toArray } (.lst (ns.map V.int)) := fun b u z => by
      by_cases hb : b = a
      · simp only [hb, if_true, Option.some.injEq] at z; exact ⟨hb, z.symm⟩
      · simp only [hb, if_false, reduceCtorEq] at z
    refine main (fun b => if b = a then some (.frz { cls := .type "list", data := .seq vs.toArray } (.lst (ns.map V.int))) else none) (.inl (.inr ⟨{ cls := .type "list", data := .seq vs.toArray }, if_pos rfl⟩)) (fun b u z => ?_) (fun b u z => ?_) fun u _ => hk
    · obtain ⟨rfl, rfl⟩ := at_ b u z
      exact ⟨ga, by rw [List.length_map]; exact hz, vs, _, rv, ga⟩
    · obtain ⟨rfl, rfl⟩ := at_ b u z
      exact ⟨rfl, _, _, rfl⟩
/-- the goal that k_head leaves -/
theorem walkD {l : PySem.W.OpenLaw} {n k : Nat} {q : Program} {loose : List Str} {XP : (Str → Option Value) → Heap → Prop} {YP : World → Heap → Prop} {d : DefRec} {K : Params → PySem.W.Frag} {sp : World → Sp} {x : Str}
    (hn : l.most = some n) (hz : n ≤ sizeLine) (hd : d.params.defaults = []) (hr : Room k callerA) (hY : ∀ (w : World) (h : Heap), YP w h → (K w.params).In h) (hq : importsNone q = true)
    (F : ∀ (w : World) (mg : Str → Option Value) (fa : Addr) (h : Heap), (K w.params).In h → h.Ns mainGlobals mg → mg d.name = some (.ref fa) →
      ∃ fd : FuncData, (∀ (s : Shared) (u : Value), BindsTo s fd ⟨[u], []⟩ [(x, u)]) ∧ ∀ base : Heap, (K w.params).In base → base.Ns mainGlobals mg → (∃ o, base.get? sysModules = some o) → HFn l.prog w (K w.params) mg base k fa fd [x] (sp w))
    (law : ∀ (w : World) (H : Hp) (a : Addr) (ns : List Int), ns.length ≤ n → SqL (K w.params) H a (ns.map V.int) → sp w [.ref a] H (fun v _ => v = .bl true) fun _ _ _ => False) :
    PySem.W.WalkO q loose XP YP l.row.toRowW d [] (fun f vs => PySem.call f vs) := by
  refine Att.attach_call hn hd fun w s₀ t mg mb fa o pm cd doc a vs ns G Y ho hd' hcd hmg hobj hints hlen hg => ?_
  obtain ⟨fd, hb, hF⟩ := F w mg fa _ (hY w _ Y) G.T.g hmg
  obtain ⟨mm, h1, _⟩ := (G.T.seer hq).mods
  exact ends_call (hY w _ Y) G.T.g G.T.b G.T.builtins G.T.nolimit ⟨mm, h1⟩ hg hobj hints (Nat.le_trans hlen hz) hr hF hb fun H hS => law w H a ns hlen hS
end Dl

set_option Elab.async false
set_option linter.all false
set_option maxRecDepth 100000
set_option maxHeartbeats 4000000
/-! Dl16: zip of three. -/
namespace Dl
open PySem PySem.Spec PyProof.Rows L2
def zp3Its (xs ys zs : List V) (i : Nat) : List V := [xs.getD i .non, ys.getD i .non, zs.getD i .non]
def iZipB3 (K : PySem.W.Frag) (ta : TA) : TI := fun σ H R => ta σ H fun vs H1 => ∃ a b c xs ys zs k l m, vs = [.ref a, .ref b, .ref c] ∧ SqB k K H1 a xs ∧ SqB l K H1 b ys ∧ SqB m K H1 c zs ∧ R (Itg (fun H => SqB k K H a xs ∧ SqB l K H b ys ∧ SqB m K H c zs) (min (min xs.length ys.length) zs.length) (zp3Its xs ys zs)) H1
theorem pi_zipB3 {X : Cx} {e e2 e3 : Expr} {ta : TA} {p pos tpos : Pos} {elts : List Expr} {kk : Nat} (hg : Gl X "zip") (hm : X.mg "zip" = none) (ha : PA X [e, e2, e3] ta)
    (hs : starEach [e, e2, e3] X.env = (false, eval e X.env) :: starEach [e2, e3] X.env := by rfl) (hpl : (backTo pos (starEach [e2, e3] X.env)).any (·.1) = false := by rfl) :
    PI X (.Tuple elts kk tpos) (.Call (.Name "zip" p) [e, e2, e3] [] pos) (iZipB3 X.K ta) := by
  refine ⟨fun pins s σ H R I h => ?_⟩
  refine Call_ (ld_blt I hg hm PyProof.Rows.boot_zip (PyProof.Rows.callWith_type1 (thn (ha.run pos pins s σ H _ I h) fun us s1 ⟨vs, H1, I1, r1, q1⟩ => ?_) hs hpl))
  obtain ⟨a, b, d, xs, ys, zs, k, l, o, ex, hqx, hqy, hqz, q⟩ := q1
  subst ex
  cases r1 with
  | cons r rr =>
    cases rr with
    | cons r' rr =>
     cases rr with
     | cons r'' rr =>
      cases rr
      cases r
      cases r'
      cases r''
      have src1 := sq_src I1 hqx
      have src2 := sq_src I1 hqy
      have src3 := sq_src I1 hqz
      have la : a < s1.heap.objs.size := let ⟨_, _, z⟩ := src1; sq_lt z
      have lb : b < s1.heap.objs.size := let ⟨_, _, z⟩ := src2; sq_lt z
      have ld : d < s1.heap.objs.size := let ⟨_, _, z⟩ := src3; sq_lt z
      refine zip_begins3 (begins_s k a xs) (begins_s l b ys) (begins_s o d zs) src1 src2 src3 fun h' hz hTI hTO h1 h2 h3 hsz hk => wpAny_pyIter_zip hz ?_
      have I2 : Inv X pins σ H1 { s1 with heap := h' } := I1.kept (t' := s1.toks) hk
      generalize hN : s1.heap.objs.size = N at *
      have sep : ZipSep3 (N + 5) (N + 3) (N + 4) N (N + 1) (N + 2) [N, a] [N + 1, b] [N + 2, d] := zip_sep3 (fun c hc => by rw [List.mem_singleton.mp hc]; exact la) (fun c hc => by rw [List.mem_singleton.mp hc]; exact lb) (fun c hc => by rw [List.mem_singleton.mp hc]; exact ld)
      have tu : Turn X.prog X.w X.K (.Tuple elts kk tpos) (Itg (fun H => SqB k X.K H a xs ∧ SqB l X.K H b ys ∧ SqB o X.K H d zs) (min (min xs.length ys.length) zs.length) (zp3Its xs ys zs)) [N + 5, N + 3, N + 4, N, N + 1, N + 2] (N + 5)
          (fun i h => IsZip h (N + 5) (N + 3) (N + 4) .none ∧ IsTupOf3 h (N + 3) (.ref N) (.ref (N + 1)) (.ref (N + 2)) ∧ (∃ a1 a2 a3, IsTupOf3 h (N + 4) a1 a2 a3) ∧ ItIs k h N a i ∧ ItIs l h (N + 1) b i ∧ ItIs o h (N + 2) d i) := by
        refine turn_g (wr := [N + 5, N + 4, N, N + 1, N + 2]) (sp := [a, b, d]) (Src := fun h => (∃ us, Vals xs us ∧ SqIs k h a us.toArray) ∧ (∃ us, Vals ys us ∧ SqIs l h b us.toArray) ∧ ∃ us, Vals zs us ∧ SqIs o h d us.toArray) (by simp) (fun c hc => ?_) (fun i _ => by show 3 ≤ sizeLine; decide) (fun i h st c hc => ?_) (fun i h h' st kp => ?_)
          (fun Y e1 e2 e3 pins s σ H J hsrc => by rw [← e3] at hsrc; exact ⟨sq_src J hsrc.1, sq_src J hsrc.2.1, sq_src J hsrc.2.2⟩) (fun A i s Q E st hQ => wpAny_pyIter_zip st.1 hQ) (fun A hh => ?_)
        · have e' : c = N + 5 ∨ c = N + 4 ∨ c = N ∨ c = N + 1 ∨ c = N + 2 := by simpa using hc
          rcases e' with z | z | z | z | z <;> (rw [z]; simp)
        · obtain ⟨s1, s2, ⟨x1, x2, x3, s3⟩, s4, s5, s6⟩ := st
          have e' : c = N + 5 ∨ c = N + 3 ∨ c = N + 4 ∨ c = N ∨ c = N + 1 ∨ c = N + 2 := by simpa using hc
          rcases e' with z | z | z | z | z | z
          · rw [z]; exact ⟨_, s1, fun v q => nomatch q⟩
          · rw [z]; exact ⟨_, s2, fun v q => nomatch q⟩
          · rw [z]; exact ⟨_, s3, fun v q => nomatch q⟩
          · rw [z]; exact itIs_obj s4
          · rw [z]; exact itIs_obj s5
          · rw [z]; exact itIs_obj s6
        · obtain ⟨s1, s2, ⟨x1, x2, x3, s3⟩, s4, s5, s6⟩ := st
          exact ⟨kp _ (by simp) _ s1, kp _ (by simp) _ s2, ⟨x1, x2, x3, kp _ (by simp) _ s3⟩, itIs_keep s4 fun o z => kp _ (by simp) o z, itIs_keep s5 fun o z => kp _ (by simp) o z, itIs_keep s6 fun o z => kp _ (by simp) o z⟩
        · have G := GoesN.zip3 (prog := X.prog) (w := X.w) (A := A) (elts := elts) (x1 := kk) (pos := tpos) sep (draws_s (prog := X.prog) (w := X.w) (A := A.in1) hh k N a (Nat.ne_of_lt la) xs) (draws_s (prog := X.prog) (w := X.w) (A := A.in1) hh l (N + 1) b (Nat.ne_of_lt (Nat.lt_succ_of_lt lb)) ys) (draws_s (prog := X.prog) (w := X.w) (A := A.in1) hh o (N + 2) d (Nat.ne_of_lt (Nat.lt_of_lt_of_le ld (Nat.le_add_right _ _))) zs)
          refine ⟨fun c hc => List.mem_append_left _ ?_, fun i h h' st kp => ?_, fun i s Q E hi st hQ => ?_, fun s Q E st hQ => ?_, fun i s Q E st hQ => G.self i s Q E ⟨st.1.1, st.1.2.1, st.1.2.2.1, ⟨st.1.2.2.2.1, st.2.1⟩, ⟨st.1.2.2.2.2.1, st.2.2.1⟩, st.1.2.2.2.2.2, st.2.2.2⟩ hQ⟩
          · have e' : c = N + 5 ∨ c = N + 4 ∨ c = N ∨ c = N + 1 ∨ c = N + 2 := by simpa using hc
            rcases e' with z | z | z | z | z <;> (rw [z]; simp)
          · have z := G.frame i h h' ⟨st.1.1, st.1.2.1, st.1.2.2.1, ⟨st.1.2.2.2.1, st.2.1⟩, ⟨st.1.2.2.2.2.1, st.2.2.1⟩, st.1.2.2.2.2.2, st.2.2.2⟩ fun c hc => kp c (by
              simp only [List.mem_cons, List.mem_append, List.not_mem_nil, or_false] at hc ⊢
              rcases hc with z | z | z | ((z | z) | (z | z)) | (z | z) <;> simp [z])
            exact ⟨⟨z.1, z.2.1, z.2.2.1, z.2.2.2.1.1, z.2.2.2.2.1.1, z.2.2.2.2.2.1⟩, z.2.2.2.1.2, z.2.2.2.2.1.2, z.2.2.2.2.2.2⟩
          · refine G.goes i s Q E hi ⟨st.1.1, st.1.2.1, st.1.2.2.1, ⟨st.1.2.2.2.1, st.2.1⟩, ⟨st.1.2.2.2.2.1, st.2.2.1⟩, st.1.2.2.2.2.2, st.2.2.2⟩ fun v h' tk hY z hk htk => hQ v h' tk ?_ ⟨⟨z.1, z.2.1, z.2.2.1, z.2.2.2.1.1, z.2.2.2.2.1.1, z.2.2.2.2.2.1⟩, z.2.2.2.1.2, z.2.2.2.2.1.2, z.2.2.2.2.2.2⟩ hk htk
            obtain ⟨T, x, y, u, ev, hT, ⟨x', hx, rx⟩, ⟨y', hy, ry⟩, ⟨u', hu, ru⟩, hTup⟩ := hY
            refine ⟨T, [x, y, u], ev, hT, ?_, hTup⟩
            unfold zp3Its
            rw [getD_of hx, getD_of hy, getD_of hu]
            exact .cons rx (.cons ry (.cons ru .nil))
          · exact G.stops s Q E ⟨st.1.1, st.1.2.1, st.1.2.2.1, ⟨st.1.2.2.2.1, st.2.1⟩, ⟨st.1.2.2.2.2.1, st.2.2.1⟩, st.1.2.2.2.2.2, st.2.2.2⟩ hQ
      refine ⟨N + 5, [N + 5, N + 3, N + 4, N, N + 1, N + 2], _, _, H1, rfl, I2, tu, ⟨hz, hTI, ⟨_, _, _, hTO⟩, itIs_new h1, itIs_new h2, itIs_new h3⟩, fun c hc => ?_, q⟩
      have e' : c = N + 5 ∨ c = N + 3 ∨ c = N + 4 ∨ c = N ∨ c = N + 1 ∨ c = N + 2 := by simpa using hc
      have hle : s1.heap.objs.size ≤ c := by
        rw [hN]
        rcases e' with z | z | z | z | z | z <;> (rw [z]; first | exact Nat.le_add_right _ _ | exact Nat.le_refl _)
      exact I1.fpOk hle (I1.hok.fresh hle)
def zp3D : List D → List D → List D → List D
  | x :: xs, y :: ys, z :: zs => .tp [x, y, z] :: zp3D xs ys zs
  | _, _, _ => []
theorem zp3D_get : ∀ {xs ys zs : List D} {i : Nat} {d : D}, (zp3D xs ys zs)[i]? = some d → ∃ x y z, xs[i]? = some x ∧ ys[i]? = some y ∧ zs[i]? = some z ∧ d = .tp [x, y, z]
  | [], _, _, _, _, h => by simp [zp3D] at h
  | _ :: _, [], _, _, _, h => by simp [zp3D] at h
  | _ :: _, _ :: _, [], _, _, h => by simp [zp3D] at h
  | x :: xs, y :: ys, z :: zs, 0, d, h => by simp [zp3D] at h; exact ⟨x, y, z, rfl, rfl, rfl, h.symm⟩
  | x :: xs, y :: ys, z :: zs, i + 1, d, h => by simp [zp3D] at h; simpa using zp3D_get h
theorem zp3D_len : ∀ xs ys zs : List D, (zp3D xs ys zs).length = min (min xs.length ys.length) zs.length
  | [], _, _ => by simp [zp3D]
  | _ :: _, [], _ => by simp [zp3D]
  | _ :: _, _ :: _, [] => by simp [zp3D]
  | x :: xs, y :: ys, z :: zs => by simp only [zp3D, List.length_cons, zp3D_len xs ys zs]; omega
def dZip3 (u : DA_) : DI_ := fun env R E => u env (fun zs => match zs with | [x, y, z] => (match sqD x, sqD y, sqD z with | some (_, xs), some (_, ys), some (_, zs) => R (zp3D xs ys zs) | _, _, _ => False) | _ => False) E
section
variable {X : Cx} {E : XK} {a b c : Expr}
theorem di_zip3 {u : DA_} {p pos tpos : Pos} {elts : List Expr} {kk : Nat} (hg : Gl X "zip") (hm : X.mg "zip" = none) (ha : DA X E [a, b, c] u)
    (hs : starEach [a, b, c] X.env = (false, eval a X.env) :: starEach [b, c] X.env := by rfl) (hpl : (backTo pos (starEach [b, c] X.env)).any (·.1) = false := by rfl) : DI X E (.Tuple elts kk tpos) (.Call (.Name "zip" p) [a, b, c] [] pos) (dZip3 u) := by
  obtain ⟨t, p, q⟩ := ha.run
  refine ⟨_, pi_zipB3 hg hm p hs hpl, fun Z S H σ env R Rd Ed g r l h k => ?_⟩
  refine q Z S H σ env _ _ Ed g r l h fun vs H1 S1 zs s1 g1 r1 h1 => ?_
  split at h1
  · next x y w =>
    split at h1
    · next k1 xs k2 ys k3 ws e1 e2 e3 =>
      cases r1 with
      | cons r1 r2 =>
        cases r2 with
        | cons r2 r3 =>
         cases r3 with
         | cons r3 r4 =>
          cases r4
          obtain ⟨a1, vs1, rfl, rr1, q1⟩ := sqD_rp (K := X.K) (H := H1) e1 r1
          obtain ⟨a2, vs2, rfl, rr2, q2⟩ := sqD_rp (K := X.K) (H := H1) e2 r2
          obtain ⟨a3, vs3, rfl, rr3, q3⟩ := sqD_rp (K := X.K) (H := H1) e3 r3
          refine ⟨a1, a2, a3, vs1, vs2, vs3, k1, k2, k3, rfl, q1 S1 H1 (.refl _ _) g1, q2 S1 H1 (.refl _ _) g1, q3 S1 H1 (.refl _ _) g1, k _ H1 S1 _ s1 g1 ?_ h1⟩
          intro S H le g i
          refine ⟨fun d hd => ?_, fun hi => ⟨by rw [hi, zp3D_len, rr1.length, rr2.length, rr3.length], q1 S H le g, q2 S H le g, q3 S H le g⟩⟩
          obtain ⟨x, y, w, hx, hy, hw, rfl⟩ := zp3D_get hd
          obtain ⟨v, h1, h2⟩ := rr1.getD hx
          obtain ⟨w1, h3, h4⟩ := rr2.getD hy
          obtain ⟨w2, h5, h6⟩ := rr3.getD hw
          have l1 := (List.getElem?_eq_some_iff.mp h1).1
          have l2 := (List.getElem?_eq_some_iff.mp h3).1
          have l3 := (List.getElem?_eq_some_iff.mp h5).1
          refine ⟨⟨by omega, q1 S H le g, q2 S H le g, q3 S H le g⟩, fun v' H2 hy => ?_⟩
          obtain ⟨T, rfl, hT, rfl⟩ := hy
          obtain ⟨st, g2⟩ := step_new g (o := .tup (zp3Its vs1 vs2 vs3 i)) hT
          refine ⟨_, st, g2, .tp (by show upd S.F T _ T = _; exact upd_same) ?_⟩
          have q : RpL S.bx (upd S.F T (.tup (zp3Its vs1 vs2 vs3 i))) [v, w1, w2] [x, y, w] := .cons ((h2.le le).le st.le) (.cons ((h4.le le).le st.le) (.cons ((h6.le le).le st.le) .nil))
          have e : zp3Its vs1 vs2 vs3 i = [v, w1, w2] := by unfold zp3Its; rw [getD_of h1, getD_of h3, getD_of h5]
          exact Eq.mpr (congrArg (fun z => RpL S.bx (upd S.F T (.tup (zp3Its vs1 vs2 vs3 i))) z [x, y, w]) e) q
    · exact h1.elim
  · exact h1.elim
end
end Dl

set_option Elab.async false
set_option linter.all false
set_option maxRecDepth 100000
set_option maxHeartbeats 4000000
/-! Dl17: extend, pop, index, remove; str of an int; list(range); sorted of ints; what is never reached. -/
namespace Dl
open PySem PySem.Spec PyProof.Rows L2
section
variable {X : Cx} {E : XK} {k : Nat} {pos : Pos}
/-! ### never reached -/
def dDead : DS_ := fun _ _ => False
theorem ds_dead {st : Stmt} : DS X E st dDead := ⟨fun _ _ _ => False, ⟨fun _ _ _ _ _ _ h => h.elim⟩, fun _ _ _ _ _ _ _ _ _ _ h => h.elim⟩
def dDeadE : DT_ := fun _ _ _ => False
theorem de_dead {e : Expr} : DE X E e dDeadE := ⟨fun _ _ _ => False, ⟨fun _ _ _ _ _ _ h => h.elim⟩, fun _ _ _ _ _ _ _ _ _ _ _ h _ => h.elim⟩
/-! ### extend -/
def dExt (i : Nat) (de : DT_) : DS_ := fun De env => match env[i]? with
  | some (.own xs) => de env (fun y => match y with | .ls ys => szOk (xs.length + ys.length) ∧ De.nx (env.set i (.own (xs ++ ys))) | _ => False) De.ex
  | _ => False
theorem ds_extend (i : Nat) {x : Str} {e : Expr} {de : DT_} {p1 p2 p3 : Pos} (he : DE X E e de) (hN : X.N[i]? = some x := by rfl) (hv : Vis X.env.scope x := by first | exact Or.inl rfl | exact Or.inr (Or.inl rfl) | exact Or.inr (Or.inr rfl)) (hd : (x == ("__debug__" : Str)) = false := by decide)
    (hcd : (x == ("__classdict__" : Str)) = false := by decide) (hb : attributeBase (.Name x p1) "extend" X.env (eval (.Name x p1) X.env) = eval (.Name x p1) X.env := by rfl)
    (hs : starEach [e] X.env = (false, eval e X.env) :: starEach [] X.env := by rfl) (hsw : swapsWith (.Call (.Attribute (.Name x p1) "extend" p2) [e] [] p3) none pos.line X.env = pure false := by rfl)
    (hfew : (((backTo p3 (starEach [e] X.env)).all (!·.1) && (backToKw p3 (keywordEach [] X.env)).all (·.1.isSome)) && decide (([e] : List Expr).length + ([] : List Keyword).length + (if ([] : List Keyword).isEmpty then 0 else 1) < 30)) = true := by rfl)
    (hline : (p2.endLine == p3.line) = true := by rfl) :
    DS X E (.Expr (.Call (.Attribute (.Name x p1) "extend" p2) [e] [] p3) pos) (dExt i de) := by
  obtain ⟨t, p, q⟩ := he.run
  refine ⟨_, ps_expr (pe_bm PySem.F.plainAttrs_list PySem.F.slot_list_extend PySem.F.type_list_extend mt_extend (pe_var hN hv hd hcd) (pa_cons p pa_nil hs) hb hfew hline hs rfl) hsw, fun B De Dn l S σ env H a r h => ?_⟩
  unfold dExt at h
  split at h
  · next xs ei =>
    obtain ⟨b, vs, e1, e2, e3, e4, e5, e6⟩ := r.at_ i _ ei
    refine ⟨_, e1, .inl ⟨rfl, _, SqL.of e2⟩, ?_⟩
    refine q _ S H σ env _ _ _ a.g r (l.xl a) h fun v H1 S1 y s1 g1 r1 h1 => ?_
    split at h1
    · next ys =>
      cases r1 with
      | ls ey ry =>
      have r' := r.step s1
      obtain ⟨b', vs', q1, q2, q3, q4, q5, q6⟩ := r'.at_ i _ ei
      rw [e1] at q1; cases q1
      refine ⟨b, _, vs', _, rfl, rfl, q2, g1.fz _ _ ey, by rw [q6.length, ry.length]; exact h1.1, ?_⟩
      have a1 := a.step s1 g1
      refine l.nx S1 σ _ _ ⟨good_mut g1 q3 q4, ⟨a1.p.ext, a1.p.new, a1.p.box, fun c o ec hc => ?_⟩, a1.f⟩ (r'.mut ei e1 (q6.app ry)) h1.2
      rw [upd_ne (ne_of_none ec q5)]; exact a1.p.keep c o ec hc
    · exact h1.elim
  · exact h.elim
theorem ints_rp {t : Option Bx} {F : Hp} : ∀ {vs : List V} {ns : List Int}, RpL t F vs (ns.map D.it) → vs = ns.map V.int
  | _, [], h => by cases h; rfl
  | _, n :: r, h => by
    cases h with
    | cons h1 h2 => cases h1; rw [ints_rp h2]; rfl
/-! ### index of an int -/
def dIndex (da db : DT_) : DT_ := fun env Q E => da env (fun x => match x with
  | .ls xs => db env (fun y => match y with | .it v => ∃ ns j, intsD xs = some ns ∧ ns[j]? = some v ∧ (∀ m, m < j → ns[m]? ≠ some v) ∧ Q (.it ((j : Nat) : Int)) | _ => False) E
  | _ => False) E
theorem de_index {o e : Expr} {da db : DT_} {p2 p3 : Pos} (ha : DE X E o da) (he : DE X E e db) (hb : attributeBase o "index" X.env (eval o X.env) = eval o X.env := by rfl)
    (hs : starEach [e] X.env = (false, eval e X.env) :: starEach [] X.env := by rfl)
    (hfew : (((backTo p3 (starEach [e] X.env)).all (!·.1) && (backToKw p3 (keywordEach [] X.env)).all (·.1.isSome)) && decide (([e] : List Expr).length + ([] : List Keyword).length + (if ([] : List Keyword).isEmpty then 0 else 1) < 30)) = true := by rfl)
    (hline : (p2.endLine == p3.line) = true := by rfl) : DE X E (.Call (.Attribute o "index" p2) [e] [] p3) (dIndex da db) := by
  obtain ⟨ta, pa, qa⟩ := ha.run
  obtain ⟨t, p, q⟩ := he.run
  refine ⟨_, pe_bm PySem.F.plainAttrs_list PySem.F.slot_list_index PySem.F.type_list_index mt_index pa (pa_cons p pa_nil hs) hb hfew hline hs rfl, fun Z S H σ env Q Qd Ed g r l h k => ?_⟩
  refine qa Z S H σ env _ _ Ed g r l h fun x H1 S1 dx s1 g1 r1 h1 => ?_
  split at h1
  · next xs =>
    cases r1 with
    | ls ea rr =>
    next a vs =>
    refine ⟨.inl ⟨rfl, _, SqL.of (g1.fz _ _ ea)⟩, ?_⟩
    refine q Z S1 H1 σ env _ _ Ed g1 (r.step s1) (l.step s1 g1) h1 fun y H2 S2 dy s2 g2 r2 h2 => ?_
    split at h2
    · next v =>
      obtain ⟨ns, j, e1, e2, e3, e4⟩ := h2
      have ex := intsD_eq e1
      subst ex
      have hv := ints_rp rr
      subst hv
      cases r2
      refine ⟨a, ns.map V.int, .int v, j, .int v, rfl, rfl, SqL.of (g2.fz _ _ (s2.ext _ _ ea)), rfl, ?_, by rw [List.getElem?_map, e2]; rfl, by show (v == v) = true; exact beq_self_eq_true v, fun m z' hm hz => ?_, ?_⟩
      · rw [List.all_eq_true]; intro z hz; obtain ⟨n, _, rfl⟩ := List.mem_map.mp hz; rfl
      · rw [List.getElem?_map] at hz
        cases en : ns[m]? with
        | none => rw [en] at hz; cases hz
        | some n =>
          rw [en] at hz; cases hz
          have := e3 m hm
          rw [en] at this
          show (n == v) = false
          exact beq_eq_false_iff_ne.mpr fun z => this (by rw [z])
      · exact ((k.step s1 g1).step s2 g2).now g2 (.it _) e4
    · exact h2.elim
  · exact h1.elim
/-! ### str of an int -/
def oStr (xs : List D) (Q : DK) : Prop := match xs with | [.it i] => i.natAbs.log2 < 1920 ∧ Q (.st (toString i)) | _ => False
theorem od_str (S : Sta) : CallD S (fun xs H Q => ∃ i, xs = [.int i] ∧ i.natAbs.log2 < 1920 ∧ Q (.str (toString i)) H) oStr := fun H vs ds Q Qd g r h k => by
  unfold oStr at h
  split at h
  · cases r with
    | cons r1 r2 =>
      cases r1; cases r2
      exact ⟨_, rfl, h.1, k.now g (.st _) h.2⟩
  · exact h.elim
theorem boot_str : bootBuiltins "str" = some (.type "str") := by decide +kernel
theorem de_str1 {u : DA_} {e : Expr} {p : Pos} (hg : Gl X "str") (hm : X.mg "str" = none) (ha : DA X E [e] u) (he : starEach [e] X.env = (false, eval e X.env) :: starEach [] X.env := by rfl) : DE X E (.Call (.Name "str" p) [e] [] pos) (dCB oStr u) :=
  de_callTy call_str_int od_str hg hm boot_str ha (by decide) (by decide) he rfl
/-! ### list(range) -/
def dRngN1 (da : DT_) : DN_ := fun env Q E => da env (fun x => match x with | .it j => (0 ≤ j ∧ j ≤ 16777216) ∧ Q (rgD 0 j.toNat) | _ => False) E
theorem rg_rp {t : Option Bx} {F : Hp} (a : Int) (n : Nat) : RpL t F ((List.range n).map fun i => V.int (a + (i : Nat))) (rgD a n) := by
  unfold rgD
  generalize List.range n = l
  induction l with
  | nil => exact .nil
  | cons i r ih => exact .cons (.it _) ih
theorem dn_rng1 {a : Expr} {da : DT_} {p p2 pos2 : Pos} (hc : X.calm = true) (hg : Gl X "list") (hm : X.mg "list" = none) (hg2 : Gl X "range") (hm2 : X.mg "range" = none) (ha : DE X E a da)
    (na : starEach [a] X.env = (false, eval a X.env) :: starEach [] X.env := by rfl) (na2 : starEach [.Call (.Name "range" p2) [a] [] pos2] X.env = (false, eval (.Call (.Name "range" p2) [a] [] pos2) X.env) :: starEach [] X.env := by rfl) :
    DN X E (.Call (.Name "list" p) [.Call (.Name "range" p2) [a] [] pos2] [] pos) (dRngN1 da) := by
  obtain ⟨t, pa, q⟩ := ha.run
  refine ⟨_, pe_listRg hc hg hm (prg_1 hg2 hm2 pa na) na2, fun Z S H σ env Q Qd Ed g r l h k => ?_⟩
  refine q Z S H σ env _ _ Ed g r l h fun v H1 S1 x s1 g1 r1 h1 => ?_
  split at h1
  · next j =>
    cases r1
    refine ⟨_, rfl, RgOk.of_le (Int.le_refl _) h1.1.2 (by omega) h1.1.1, fun p hp => ?_⟩
    obtain ⟨a1, a2, a3, a4, a5⟩ := own_new s1 g1 hp
    refine k p _ S1 _ (rgD 0 (j - 0).toNat) a1 a2 a3 upd_same a4 a5 (rg_rp 0 _) ?_
    rw [Int.sub_zero]; exact h1.2
  · exact h1.elim
/-! ### sorted of ints -/
def dSortN (da : DT_) : DN_ := fun env Q E => da env (fun y => match y with | .ls ys => ∃ ns, intsD ys = some ns ∧ ∀ ms : List Int, ms.Perm ns → ms.Pairwise (· ≤ ·) → Q (ms.map D.it) | _ => False) E
theorem boot_sorted : bootBuiltins "sorted" = some (.builtin "sorted") := by decide +kernel
theorem dn_sort {a : Expr} {da : DT_} {p : Pos} (hg : Gl X "sorted") (hm : X.mg "sorted" = none) (ha : DE X E a da) (he : starEach [a] X.env = (false, eval a X.env) :: starEach [] X.env := by rfl) : DN X E (.Call (.Name "sorted" p) [a] [] pos) (dSortN da) := by
  obtain ⟨t, pa, q⟩ := ha.run
  refine ⟨_, pe_callB cr_sortedI hg hm boot_sorted (pa_cons pa pa_nil he) (by decide) (by decide) he rfl, fun Z S H σ env Q Qd Ed g r l h k => ?_⟩
  refine q Z S H σ env _ _ Ed g r l h fun v H1 S1 x s1 g1 r1 h1 => ?_
  split at h1
  · next ys =>
    obtain ⟨ns, en, h1⟩ := h1
    have ex := intsD_eq en
    subst ex
    cases r1 with
    | ls ea rr =>
    have hv := ints_rp rr
    subst hv
    refine ⟨_, ns, rfl, SqL.of (g1.fz _ _ ea), fun ms p hperm hpw hp => ?_⟩
    obtain ⟨a1, a2, a3, a4, a5⟩ := own_new s1 g1 hp
    exact k p _ S1 _ _ a1 a2 a3 upd_same a4 a5 (RpL.ints ms) (h1 ms hperm hpw)
  · exact h1.elim
/-! ### pop -/
theorem seqIx {n : Nat} {i : Int} {j : Nat} (h : ixN n i = some j) : seqIndex? i n = some j ∧ j < n := by
  unfold ixN at h
  unfold seqIndex?
  split at h
  · next h0 =>
    split at h
    · next h1 => cases h; refine ⟨?_, by omega⟩; simp only [if_neg (show ¬ i < 0 by omega)]; rw [if_pos (by simp; omega)]
    · cases h
  · next h0 =>
    split at h
    · next h1 => cases h; refine ⟨?_, by omega⟩; simp only [if_pos (show i < 0 by omega)]; rw [if_pos (by simp; omega)]
    · cases h
theorem RpL.erase {t : Option Bx} {F : Hp} : ∀ {vs : List V} {ds : List D} (i : Nat), RpL t F vs ds → RpL t F (vs.eraseIdx i) (ds.eraseIdx i)
  | _, _, _, .nil => .nil
  | _, _, 0, .cons _ s => s
  | _, _, i + 1, .cons q s => .cons q (RpL.erase i s)
/-- x = xs.pop(e) -/
def dSetPop (i j : Nat) (de : DT_) : DS_ := fun De env => match env[j]? with
  | some (.own xs) => de env (fun y => match y with
    | .it k => (-(2 ^ 63) ≤ k ∧ k < 2 ^ 63) ∧ (match ixN xs.length k with | some m => (match xs[m]? with | some v => De.nx ((env.set j (.own (xs.eraseIdx m))).set i (.v v)) | none => False) | none => False)
    | _ => False) De.ex
  | _ => False
theorem ds_setPop (i j : Nat) {x z : Str} {e : Expr} {de : DT_} {p0 p1 p2 p3 : Pos} (he : DE X E e de) (hNd : X.N.Nodup) (hi : X.N[i]? = some z := by rfl) (hz : Loc X.env.scope z := by first | exact Or.inl rfl | exact Or.inr rfl)
    (hN : X.N[j]? = some x := by rfl) (hv : Vis X.env.scope x := by first | exact Or.inl rfl | exact Or.inr (Or.inl rfl) | exact Or.inr (Or.inr rfl)) (hd : (x == ("__debug__" : Str)) = false := by decide)
    (hcd : (x == ("__classdict__" : Str)) = false := by decide) (hb : attributeBase (.Name x p1) "pop" X.env (eval (.Name x p1) X.env) = eval (.Name x p1) X.env := by rfl)
    (hs : starEach [e] X.env = (false, eval e X.env) :: starEach [] X.env := by rfl) (hsw : swapsWith (.Call (.Attribute (.Name x p1) "pop" p2) [e] [] p3) (some (.Name z p0)) pos.line X.env = pure false := by rfl)
    (hfew : (((backTo p3 (starEach [e] X.env)).all (!·.1) && (backToKw p3 (keywordEach [] X.env)).all (·.1.isSome)) && decide (([e] : List Expr).length + ([] : List Keyword).length + (if ([] : List Keyword).isEmpty then 0 else 1) < 30)) = true := by rfl)
    (hline : (p2.endLine == p3.line) = true := by rfl) (hf : X.fn z = true ∨ X.env.scope.names.lookup z = some .local := by first | exact .inl rfl | exact .inr rfl | assumption) :
    DS X E (.Assign [.Name z p0] (.Call (.Attribute (.Name x p1) "pop" p2) [e] [] p3) pos) (dSetPop i j de) := by
  obtain ⟨t, p, q⟩ := he.run
  refine ⟨_, ps_set hNd hi hz (pe_bm PySem.F.plainAttrs_list PySem.F.slot_list_pop PySem.F.type_list_pop mt_popAt (pe_var hN hv hd hcd) (pa_cons p pa_nil hs) hb hfew hline hs rfl) hsw hf, fun B De Dn l S σ env H a r h => ?_⟩
  unfold dSetPop at h
  split at h
  · next xs ej =>
    obtain ⟨b, vs, e1, e2, e3, e4, e5, e6⟩ := r.at_ j _ ej
    refine ⟨_, e1, .inl ⟨rfl, _, SqL.of e2⟩, ?_⟩
    refine q _ S H σ env _ _ _ a.g r (l.xl a) h fun v H1 S1 y s1 g1 r1 h1 => ?_
    split at h1
    · next k =>
      cases r1
      obtain ⟨hk, h1⟩ := h1
      split at h1
      · next m em =>
        split at h1
        · next dv ev =>
          have r' := r.step s1
          obtain ⟨b', vs', q1, q2, q3, q4, q5, q6⟩ := r'.at_ j _ ej
          rw [e1] at q1; cases q1
          obtain ⟨w, hw, rw⟩ := q6.getD ev
          obtain ⟨i1, i2⟩ := seqIx em
          refine ⟨b, vs', k, m, w, rfl, rfl, q2, hk.1, hk.2, by rw [q6.length]; exact i1, hw, ?_⟩
          have a1 := a.step s1 g1
          refine l.nx S1 _ _ _ ⟨good_mut g1 q3 q4, ⟨a1.p.ext, a1.p.new, a1.p.box, fun c o ec hc => ?_⟩, a1.f⟩ ((r'.mut ej e1 (q6.erase m)).put rw) h1
          rw [upd_ne (ne_of_none ec q5)]; exact a1.p.keep c o ec hc
        · exact h1.elim
      · exact h1.elim
    · exact h1.elim
  · exact h.elim
/-- ys.append(xs.pop(e)) -/
def dAppPop (i j : Nat) (de : DT_) : DS_ := fun De env => match env[i]?, env[j]? with
  | some (.own ys), some (.own xs) => de env (fun y => match y with
    | .it k => (i ≠ j ∧ ys.length < sizeLine ∧ -(2 ^ 63) ≤ k ∧ k < 2 ^ 63) ∧ (match ixN xs.length k with | some m => (match xs[m]? with | some v => De.nx ((env.set j (.own (xs.eraseIdx m))).set i (.own (ys ++ [v]))) | none => False) | none => False)
    | _ => False) De.ex
  | _, _ => False
end
end Dl

set_option Elab.async false
set_option linter.all false
set_option maxRecDepth 100000
set_option maxHeartbeats 4000000
/-! Dl18: sum of a tuple of ints. -/
namespace Dl
open PySem PySem.Spec PyProof.Rows L2
section
variable {prog : Program} {w : World} {A : Around} {E : Value → Shared → Prop} {s : Shared} {l : Addr} {its : List Value} {ns : List Int} {Q : Value → Shared → Prop}
theorem sumT_raw (hh : A.handled = none) (hl : s.heap.IsTuple l its.toArray) (hi : IntsAre its ns)
    (h : ∀ h' tk t', (∀ b o, s.heap.get? b = some o → h'.get? b = some o) → Q (.int ns.sum t') { s with heap := h', toks := tk }) : wpAny (model prog w) A (call (.builtin "sum") [.ref l]) Q E s := by
  obtain ⟨xs, e⟩ := hi.allInts.items
  have hn : numsOf (intItems xs).toList = ns := by rw [← e]; exact hi.numsOf
  rw [nums_intItems] at hn
  rw [e] at hl
  have hlt : l < s.heap.objs.size := by obtain ⟨_, e, _⟩ := hl; exact Heap.lt_size e
  refine call_sum_walkG (wpAny_pyIter_tuple hl ?_)
  refine ⟨_, _, _, _, _, _, numAt xs, rfl, Walks.tuple (A := A.in1) hh _ l (Nat.ne_of_lt hlt) (intItems xs), ⟨⟨_, Heap.get?_push_size _ rfl, rfl, rfl⟩, hl.push _⟩, fun b hb => ?_, (fun _ _ => intItems_at), fun h' tk t' hk => ?_⟩
  · show b < (s.heap.push _).objs.size
    rw [Heap.size_push]
    rcases List.mem_cons.mp hb with rfl | hb
    · exact Nat.lt_succ_self _
    · rcases List.mem_cons.mp hb with rfl | hb
      · exact Nat.lt_succ_of_lt hlt
      · cases hb
  · have := h h' tk t' fun b o eb => hk b o (fun hb => by
      rw [List.mem_singleton] at hb
      subst hb
      exact absurd (Heap.lt_size eb) (Nat.lt_irrefl _)) (Heap.get?_push_of_some _ eb)
    have ep : preSum (numAt xs) (intItems xs).size = ns.sum := by
      rw [show (intItems xs).size = xs.size by simp [intItems], preSum_eq, List.take_of_length_le (by simp), hn]
    rw [ep]; exact this
end
section
variable {X : Cx} {E : XK} {pos : Pos}
def rSumT (K : PySem.W.Frag) : List V → Hp → VK → Prop := fun vs H Q => ∃ (a : Addr) (ns : List Int), vs = [V.ref a] ∧ SqT K H a (ns.map V.int) ∧ Q (.int ns.sum) H
theorem cr_sumT (hc : X.calm = true) : CallR X (.builtin "sum") (rSumT X.K) := by
  intro pins s σ H vs us Q I r h
  obtain ⟨a, ns, rfl, hs, q⟩ := h
  obtain ⟨its, rv, hl, _⟩ := I.tuple hs
  rw [Vals.ref1 r]
  exact sumT_raw (I.ok.hd hc) hl rv.ints fun h' tk t' hk => ⟨.int _, H, I.kept hk, ⟨_, rfl⟩, q⟩
theorem cr_sumA (hc : X.calm = true) : CallR X (.builtin "sum") (fun vs H Q => rSum X.K vs H Q ∨ rSumT X.K vs H Q) := by
  intro pins s σ H vs us Q I r h
  rcases h with h | h
  · exact cr_sum hc pins s σ H vs us Q I r h
  · exact cr_sumT hc pins s σ H vs us Q I r h
def oSumA (xs : List D) (Q : DK) : Prop := match xs with | [.tp ys] => ∃ ns, intsD ys = some ns ∧ Q (.it ns.sum) | [.ls ys] => ∃ ns, intsD ys = some ns ∧ Q (.it ns.sum) | _ => False
theorem de_sumA {u : DA_} {e : Expr} {p : Pos} (hc : X.calm = true) (hg : Gl X "sum") (hm : X.mg "sum" = none) (ha : DA X E [e] u) (he : starEach [e] X.env = (false, eval e X.env) :: starEach [] X.env := by rfl) : DE X E (.Call (.Name "sum" p) [e] [] pos) (dCB oSumA u) := by
  refine de_callB (cr_sumA hc) (fun S => ?_) hg hm (by decide +kernel) ha (by decide) (by decide) he rfl
  intro H vs ds Q Qd g r h k
  unfold oSumA at h
  split at h
  · obtain ⟨ns, en, h⟩ := h
    have := intsD_eq en
    subst this
    cases r with
    | cons r1 r2 =>
      cases r2
      cases r1 with
      | tp e rr =>
        have := ints_rp rr
        subst this
        exact .inr ⟨_, ns, rfl, SqT.of (g.fz _ _ e), k.now g (.it _) h⟩
  · obtain ⟨ns, en, h⟩ := h
    have := intsD_eq en
    subst this
    cases r with
    | cons r1 r2 =>
      cases r2
      cases r1 with
      | ls e rr =>
        have := ints_rp rr
        subst this
        exact .inl ⟨_, ns, rfl, SqL.of (g.fz _ _ e), k.now g (.it _) h⟩
  · exact h.elim
end
end Dl

set_option Elab.async false
set_option linter.all false
set_option maxRecDepth 100000
set_option maxHeartbeats 4000000
namespace Dl
open PySem PySem.Spec PyProof.Rows L2
def top (i : Nat) : Stmt := PySem.Challenge.pw_slipturns_k04_received_and_held.main.body.getD i (.Pass ⟨0, 0, 0, 0⟩)
abbrev s_parts_of : Stmt := top 1
abbrev s_slips_paid : Stmt := top 2
abbrev s_received : Stmt := top 3
abbrev s_held : Stmt := top 4
abbrev s_next_slip : Stmt := top 5
abbrev s_next_slips : Stmt := top 6
abbrev s__law_opened : Stmt := top 8
abbrev s__law_draw : Stmt := top 9
abbrev s__law_one : Stmt := top 10
abbrev s__law_pile : Stmt := top 11
abbrev s__law_book : Stmt := top 12
abbrev s__law_debts : Stmt := top 13
abbrev s__law_parts : Stmt := top 14
abbrev s__law_held : Stmt := top 15
abbrev s__law_payments : Stmt := top 16
abbrev s__law_by_coins : Stmt := top 17
abbrev s__law_coin_right : Stmt := top 18
abbrev s_law : Stmt := top 19
end Dl

set_option Elab.async false
set_option linter.all false
set_option maxRecDepth 100000
set_option maxHeartbeats 4000000
/-! Bx1: the box of cells of the laws that open, draw. -/
namespace Dl
open PySem PySem.Spec PyProof.Rows L2
abbrev kGreat : Key := .inr "great"
abbrev kSmall : Key := .inr "small"
abbrev kTurn : Key := .inr "turn"
def B1 (b g s : Addr) (H : Hp) (gs ss : List Int) (t : Int) : Prop := H b = some (.dK [(kGreat, .ref g), (kSmall, .ref s), (kTurn, .int t)]) ∧ H g = some (.lst (gs.map V.int)) ∧ H s = some (.lst (ss.map V.int)) ∧ g ≠ s ∧
  (∀ n ∈ gs, 0 ≤ n) ∧ ss ≠ [] ∧ gs.length ≤ 100 ∧ ss.length ≤ 200
def b1 (b g s : Addr) : Bx where
  b := b
  k := false
  own := [b, g, s]
  inv := fun H => ∃ gs ss t, B1 b g s H gs ss t
  mem := List.mem_cons_self
  loc := fun H H' e ⟨gs, ss, t, h1, h2, h3, h4⟩ => ⟨gs, ss, t, by rw [e b (by simp)]; exact h1, by rw [e g (by simp)]; exact h2, by rw [e s (by simp)]; exact h3, h4⟩
  has := fun H ⟨gs, ss, t, h1, h2, h3, _⟩ a ha => by
    simp only [List.mem_cons, List.not_mem_nil, or_false] at ha
    rcases ha with rfl | rfl | rfl
    · exact ⟨_, h1⟩
    · exact ⟨_, h2⟩
    · exact ⟨_, h3⟩
  ty := fun H ⟨gs, ss, t, h1, _⟩ => by rw [if_neg Bool.false_ne_true]; exact ⟨_, h1⟩
theorem inv_bx {t : Option Bx} {F : Hp} {v : V} {k : Bool} {P : Bx → Prop} (r : Rp t F v (.bx k P)) : ∃ x, t = some x ∧ P x ∧ v = .ref x.b := by
  generalize e : D.bx k P = d at r
  cases r with
  | bx h p => cases e; exact ⟨_, h, p, rfl⟩
  | _ => cases e
theorem box_step {S : Sta} {H H' : Hp} {x : Bx} (g : Good S H) (e : S.bx = some x) (off : ∀ a o, H a = some o → a ∉ x.own → H' a = some o) (inv : x.inv H') : Stp S H S H' ∧ Good S H' := by
  refine ⟨⟨fun _ _ h => h, fun _ _ h => .inl h, rfl, fun a o h hb => off a o h fun ha => hb ⟨x, e, ha⟩⟩, ⟨fun a o h => off a o (g.fz a o h) fun ha => ?_, fun y ey => ?_, g.nb⟩⟩
  · have := g.nb a ⟨x, e, ha⟩
    rw [h] at this; cases this
  · rw [e] at ey; cases ey; exact inv
theorem atI_last {α : Type} (xs : List α) (x : α) : atI (xs ++ [x]) (-1) = some x := by
  unfold atI ixN
  have h0 : ¬ ((0 : Int) ≤ -1) := by decide
  rw [if_neg h0, if_pos (by rw [List.length_append]; simp; omega)]
  have e : ((-1 : Int) + ((xs ++ [x]).length : Nat)).toNat = xs.length := by rw [List.length_append]; simp; omega
  simp only [Option.bind_some, e]
  simp
theorem ixN_last (n : Nat) : ixN (n + 1) (-1) = some n := by
  unfold ixN
  have h0 : ¬ ((0 : Int) ≤ -1) := by decide
  rw [if_neg h0, if_pos (by omega)]
  congr 1
  omega
theorem list_last {α : Type} : ∀ xs : List α, xs ≠ [] → ∃ ys y, xs = ys ++ [y] := fun xs h => ⟨xs.dropLast, xs.getLast h, (List.dropLast_concat_getLast h).symm⟩
theorem dp_ints {K : PySem.W.Frag} {H : Hp} : ∀ ns : List Int, DpAll K H (ns.map V.int) (ns.map PyData.int)
  | [] => .nil
  | n :: r => .cons (.int n) (dp_ints r)
theorem lay_ints : ∀ ns : List Int, PyData.canLayAll0 (ns.map PyData.int) = true ∧ PyData.depthAll (ns.map PyData.int) = 0
  | [] => ⟨rfl, rfl⟩
  | n :: r => by
    obtain ⟨h1, h2⟩ := lay_ints r
    refine ⟨?_, ?_⟩
    · rw [List.map_cons]; simp only [PyData.canLayAll0, PyData.canLay0, h1, Bool.and_self]
    · rw [List.map_cons]; simp only [PyData.depthAll, PyData.depth, h2, Nat.max_self]
theorem shaped_ints (ns : List Int) : SeqAt.shaped (.list (ns.map PyData.int)) = true := by
  obtain ⟨h1, h2⟩ := lay_ints ns
  unfold SeqAt.shaped
  simp only [PyData.canLay0, PyData.depth, h1, h2, Bool.true_and, decide_eq_true_eq]
  omega
theorem eqv_nil (ns : List Int) : PyData.eqv (.list (ns.map PyData.int)) (.list []) = decide (ns = []) := by
  cases ns with
  | nil => rfl
  | cons n r => rfl
theorem B1.fresh {b g s p : Addr} {H : Hp} {gs ss : List Int} {t : Int} {o : HO} (h : B1 b g s H gs ss t) (hp : H p = none) : B1 b g s (upd H p o) gs ss t :=
  ⟨by rw [upd_ne (ne_of_none h.1 hp)]; exact h.1, by rw [upd_ne (ne_of_none h.2.1 hp)]; exact h.2.1, by rw [upd_ne (ne_of_none h.2.2.1 hp)]; exact h.2.2.1, h.2.2.2⟩
theorem B1.bg {b g s : Addr} {H : Hp} {gs ss : List Int} {t : Int} (h : B1 b g s H gs ss t) : b ≠ g := ne_of h.1 h.2.1 (by intro z; cases z)
theorem B1.bs {b g s : Addr} {H : Hp} {gs ss : List Int} {t : Int} (h : B1 b g s H gs ss t) : b ≠ s := ne_of h.1 h.2.2.1 (by intro z; cases z)
theorem B1.great {b g s : Addr} {H : Hp} {gs ss : List Int} {t : Int} (h : B1 b g s H gs ss t) {gs' : List Int} (h1 : ∀ n ∈ gs', 0 ≤ n) (h2 : gs'.length ≤ 100) : B1 b g s (upd H g (.lst (gs'.map V.int))) gs' ss t :=
  ⟨by rw [upd_ne h.bg]; exact h.1, upd_same, by rw [upd_ne (Ne.symm h.2.2.2.1)]; exact h.2.2.1, h.2.2.2.1, h1, h.2.2.2.2.2.1, h2, h.2.2.2.2.2.2.2⟩
theorem B1.turn {b g s : Addr} {H : Hp} {gs ss : List Int} {t : Int} (h : B1 b g s H gs ss t) (t' : Int) : B1 b g s (upd H b (.dK [(kGreat, .ref g), (kSmall, .ref s), (kTurn, .int t')])) gs ss t' :=
  ⟨upd_same, by rw [upd_ne (Ne.symm h.bg)]; exact h.2.1, by rw [upd_ne (Ne.symm h.bs)]; exact h.2.2.1, h.2.2.2⟩
theorem dget1 {H : Hp} {b : Addr} {kvs : List (Key × V)} {x : Str} {v : V} (e : H b = some (.dK kvs)) (h : valV kvs (.inr x) = some v) : DGet H b (.str x) (some v) := by
  have := DGet.k (k := .inr x) e
  rw [h] at this; exact this
theorem kgs : ¬ (kGreat = kSmall) := by decide +kernel
theorem kgt : ¬ (kGreat = kTurn) := by decide +kernel
theorem kst : ¬ (kSmall = kTurn) := by decide +kernel
theorem B1.getG {b g s : Addr} {H : Hp} {gs ss : List Int} {t : Int} (h : B1 b g s H gs ss t) : DGet H b (.str "great") (some (.ref g)) := dget1 h.1 (valV_pos rfl)
theorem B1.getS {b g s : Addr} {H : Hp} {gs ss : List Int} {t : Int} (h : B1 b g s H gs ss t) : DGet H b (.str "small") (some (.ref s)) := dget1 h.1 (by rw [valV_neg kgs]; exact valV_pos rfl)
theorem B1.getT {b g s : Addr} {H : Hp} {gs ss : List Int} {t : Int} (h : B1 b g s H gs ss t) : DGet H b (.str "turn") (some (.int t)) := dget1 h.1 (by rw [valV_neg kgt, valV_neg kst]; exact valV_pos rfl)
theorem B1.putT {b g s : Addr} {H : Hp} {gs ss : List Int} {t : Int} (h : B1 b g s H gs ss t) (t' : Int) : DPut H b (.str "turn") (.int t') (upd H b (.dK [(kGreat, .ref g), (kSmall, .ref s), (kTurn, .int t')])) := by
  have q := DPut.k (k := kTurn) (v := .int t') h.1 (by show 3 < sizeLine; decide)
  have e : putK [(kGreat, V.ref g), (kSmall, V.ref s), (kTurn, V.int t)] kTurn (.int t') = [(kGreat, .ref g), (kSmall, .ref s), (kTurn, .int t')] := by
    have h1 : ¬ (Str.ofString "great" = Str.ofString "turn") := by decide +kernel
    have h2 : ¬ (Str.ofString "small" = Str.ofString "turn") := by decide +kernel
    unfold putK
    simp [h1, h2]
  rw [e] at q
  exact q
theorem ix_last {K : PySem.W.Frag} {σ : L2.St} {H : Hp} {Q : VK} {g : Addr} {ys : List Int} {y : Int} {i : Nat} (e : σ[i]? = some (some (.ref g))) (h : H g = some (.lst ((ys ++ [y]).map V.int))) (q : Q (.int y) H) :
    tOp (rIxL K) (tVar i) (tUn (rU fun i => .int (-i)) (tC (.int 1))) σ H Q := ⟨_, e, 1, rfl, g, _, -1, _, rfl, rfl, SqL.of h, by rw [List.map_append]; exact atI_last _ _, q⟩
def IsB1 (x : Bx) : Prop := ∃ b g s, x = b1 b g s
abbrev dBox : D := .bx false IsB1
def spDraw : SpD := fun ds Q _ => ∃ many, ds = [dBox, .it many] ∧ 0 < many ∧ many < 2 ^ 200 ∧ ∀ r, 0 ≤ r → r < many → Q (.it r)
abbrev N_draw : List Str := ["_law_box", "_law_many", "_law_great", "_law_digit", "_law_cell", "_law_mixed"]
section
variable {P : Program} {w : World} {K : PySem.W.Frag} {mg : Str → Option Value} {base : Heap}
theorem sc_draw : FnScope N_draw ["_law_box", "_law_many"] (defScope s__law_draw) := ⟨rfl, rfl, rfl, by decide +kernel, rfl, by decide +kernel, by decide +kernel⟩
/-- behind the loop: the great cells are gone -/
theorem g_draw {f : Addr} {fd : FuncData} (F : Fun K "_law_draw" "_law_draw" s__law_draw f fd) (hl : mg "len" = none) : HFn P w K mg base 1 f fd ["_law_box", "_law_many"]
    (fun vs H Q _ => ∃ b g s gs ss t many, vs = [.ref b, .int many] ∧ B1 b g s H gs ss t ∧ 0 < many ∧ many < 2 ^ 200 ∧ ∀ H' r gs' t', B1 b g s H' gs' ss t' → (∀ a o, H a = some o → a ∉ [b, g, s] → H' a = some o) → 0 ≤ r → r < many → Q (.int r) H') := by
  refine hfn_mk F sc_draw (fun vs H Q E ⟨_, _, _, _, _, _, _, e, _⟩ => by rw [e]; rfl) fun cdv A outer s0 H vs Q E hr hgd h => ?_
  obtain ⟨b, g, s, gs, ss, t, many, rfl, hB, hm, hm2, k⟩ := h
  have hu := hu_of hr
  have hu2 : (cxD P w K mg base N_draw "_law_draw" (defScope s__law_draw) f cdv A outer s0 H E).A.units + 64 < cLine := hr.units
  refine ⟨_, pss_cons (ps_set (i := 2) sc_draw.nd rfl (Or.inl rfl) (pe_dget hu (pv 0) pe_str (fun _ _ => rfl)))
    (pss_cons (ps_while (passes_of rfl) (pt_cmpR (L2.op_neD hu2) (pv 2) (pe_lst pa_nil) rfl)
      (pss_cons (ps_if (pt_cmpR op_gt (pe_ix ix_list (pv 2) (pe_un un_neg pe_int) (fun _ _ => rfl)) pe_int (nomark _))
        (pss_cons (ps_set (i := 3) sc_draw.nd rfl (Or.inl rfl) (pe_op op_mod (pe_ix ix_list (pv 2) (pe_un un_neg pe_int) (fun _ _ => rfl)) (pv 1)))
          (pss_cons (ps_asg (pe_op op_fdivW (pe_ix ix_list (pv 2) (pe_un un_neg pe_int) (fun _ _ => rfl)) (pv 1)) (pg_sub (pv 2) (pe_un un_neg pe_int) set_list))
            (pss_one (ps_ret (pv 3))))) pss_nil)
        (pss_one (ps_expr (pe_bm0 PySem.F.plainAttrs_list PySem.F.slot_list_pop PySem.F.type_list_pop mt_pop (pv 2))))))
    (pss_cons (ps_asg (pe_op op_add (pe_dget hu (pv 0) pe_str (fun _ _ => rfl)) pe_int) (pg_sub (pv 0) pe_str (set_dict hu)))
    (pss_cons (ps_set (i := 4) sc_draw.nd rfl (Or.inl rfl) (pe_ix ix_list (pe_dget hu (pv 0) pe_str (fun _ _ => rfl)) (pe_op op_mod (pe_dget hu (pv 0) pe_str (fun _ _ => rfl)) (pe_callB call_len (by rfl) hl PySem.boot_len (pa_cons (pe_dget hu (pv 0) pe_str (fun _ _ => rfl)) pa_nil))) (fun _ _ => rfl)))
    (pss_cons (ps_set (i := 5) sc_draw.nd rfl (Or.inl rfl) (pe_op op_mod (pe_op op_add (pe_op op_mul (pv 4) pe_int) (pe_op op_mul (pe_dget hu (pv 0) pe_str (fun _ _ => rfl)) pe_int)) pe_int))
    (pss_cons (ps_set (i := 5) sc_draw.nd rfl (Or.inl rfl) (pe_op op_mod (pe_op op_mul (pv 5) (pe_op op_add (pe_op op_fdivW (pv 5) pe_int) pe_int)) pe_int))
    (pss_one (ps_ret (pe_op op_mod (pe_op op_fdivW (pv 5) pe_int) (pv 1))))))))), ?_⟩
  -- the walk: slots box, many, great, digit, cell, mixed
  have hlog : many.natAbs.log2 < 9000 := by
    by_cases z : many.natAbs = 0
    · rw [z]; decide
    · have h1 : many.natAbs < 2 ^ 200 := by omega
      exact Nat.lt_of_lt_of_le ((Nat.log2_lt z).mpr h1) (by decide)
  have hd : ∀ i, CDivW i many := fun _ => ⟨hm, hlog⟩
  refine ⟨_, rfl, b, _, rfl, hB.getG, ?_⟩
  refine ⟨fun m σ H' => ∃ gs' d c x, m = gs'.length ∧ σ = [some (.ref b), some (.int many), some (.ref g), d, c, x] ∧ B1 b g s H' gs' ss t ∧ ∀ a o, H a = some o → a ∉ [b, g, s] → H' a = some o,
    ⟨_, gs, none, none, none, rfl, rfl, hB, fun _ _ h _ => h⟩, ?_⟩
  rintro m σ H1 ⟨gs1, d, c, x, rfl, rfl, hB1, off⟩
  refine ⟨_, rfl, Nat.zero_le _, fun p hp => ?_⟩
  have hB2 := hB1.fresh (o := .lst []) hp
  have off2 : ∀ a o, H a = some o → a ∉ [b, g, s] → upd H1 p (.lst []) a = some o := fun a o h n => by
    have := off a o h n
    rw [upd_ne (ne_of_none this hp)]; exact this
  have hp2 : upd H1 p (.lst []) p = some (.lst []) := upd_same
  generalize upd H1 p (.lst []) = H2 at hB2 off2 hp2
  refine ⟨.list (gs1.map PyData.int), .list [], .lst (SqL.of hB2.2.1) (dp_ints gs1), ?_, shaped_ints gs1, rfl, _, rfl, ?_⟩
  · exact .lst (SqL.of hp2) .nil
  rw [eqv_nil]
  by_cases hz : gs1 = []
  · subst hz
    show if (!decide (([] : List Int) = [])) = true then _ else _
    rw [if_neg (by simp)]
    -- box['turn'] = box['turn'] + 1
    refine ⟨_, rfl, b, _, rfl, hB2.getT, t, 1, rfl, rfl, ?_⟩
    refine ⟨_, rfl, b, _, rfl, hB2.putT (t + 1), ?_⟩
    have hB3 := hB2.turn (t + 1)
    have off3 : ∀ a o, H a = some o → a ∉ [b, g, s] → upd H2 b (.dK [(kGreat, .ref g), (kSmall, .ref s), (kTurn, .int (t + 1))]) a = some o := fun a o h n => by
      rw [upd_ne fun z => n (by rw [z]; simp)]; exact off2 a o h n
    generalize upd H2 b (.dK [(kGreat, .ref g), (kSmall, .ref s), (kTurn, .int (t + 1))]) = H3 at hB3 off3
    have hs0 : 0 < ss.length := List.length_pos_iff.mpr hB3.2.2.2.2.2.1
    -- the cell
    have hsl : (((ss.map V.int).length : Nat) : Int) = (ss.length : Int) := by rw [List.length_map]
    have hpos : (0 : Int) < ((ss.map V.int).length : Nat) := by rw [hsl]; omega
    have hmod : 0 ≤ (t + 1) % (((ss.map V.int).length : Nat) : Int) ∧ (t + 1) % (((ss.map V.int).length : Nat) : Int) < (((ss.map V.int).length : Nat) : Int) := ⟨Int.emod_nonneg _ (by omega), Int.emod_lt_of_pos _ hpos⟩
    obtain ⟨j, ej⟩ : ∃ j : Nat, (t + 1) % (((ss.map V.int).length : Nat) : Int) = (j : Nat) := ⟨((t + 1) % (((ss.map V.int).length : Nat) : Int)).toNat, by omega⟩
    have hj : j < ss.length := by rw [ej, hsl] at hmod; omega
    refine ⟨_, rfl, b, _, rfl, hB3.getS, _, rfl, b, _, rfl, hB3.getT, _, rfl, b, _, rfl, hB3.getS, _, _, rfl, .inl ⟨_, SqL.of hB3.2.2.1, rfl⟩, t + 1, _, rfl, rfl, hpos, ?_⟩
    refine ⟨s, _, _, .int ss[j], rfl, rfl, SqL.of hB3.2.2.1, by rw [ej]; exact atI_nat (by rw [List.getElem?_map, List.getElem?_eq_getElem hj]; rfl), ?_⟩
    generalize ss[j] = cell
    refine ⟨_, rfl, cell, 6364136223846793005, rfl, rfl, .inr (by decide), _, rfl, b, _, rfl, hB3.getT, t + 1, 1442695040888963407, rfl, rfl, .inr (by decide), _, _, rfl, rfl, _, 18446744073709551557, rfl, rfl, (by show (0 : Int) < 18446744073709551557; decide), ?_⟩
    have hx : ∀ z : Int, 0 ≤ z % 18446744073709551557 ∧ z % 18446744073709551557 < 18446744073709551557 := fun z => ⟨Int.emod_nonneg _ (by decide), Int.emod_lt_of_pos _ (by decide)⟩
    have h1 := hx (cell * 6364136223846793005 + (t + 1) * 1442695040888963407)
    obtain ⟨m1, em1⟩ : ∃ m1, (cell * 6364136223846793005 + (t + 1) * 1442695040888963407) % 18446744073709551557 = m1 := ⟨_, rfl⟩
    rw [em1] at h1
    refine ⟨_, rfl, _, rfl, m1, 4294967296, congrArg V.int em1, rfl, ⟨by decide, by decide +kernel⟩, _, 17, rfl, rfl, m1, _, congrArg V.int em1, rfl, .inl ⟨by omega, by omega⟩, _, 18446744073709551557, rfl, rfl, (by show (0 : Int) < 18446744073709551557; decide), ?_⟩
    refine ⟨_, rfl, _, 65536, rfl, rfl, ⟨by decide, by decide +kernel⟩, _, rfl, _, many, rfl, rfl, hm, ?_⟩
    exact k H3 _ [] (t + 1) hB3 off3 (Int.emod_nonneg _ (by omega)) (Int.emod_lt_of_pos _ hm)
  · show if (!decide (gs1 = [])) = true then _ else _
    rw [if_pos (by simp [hz])]
    obtain ⟨ys, y, rfl⟩ := list_last gs1 hz
    have hlen : ys.length + 1 ≤ 100 := by have := hB2.2.2.2.2.2.2.1; rw [List.length_append] at this; simpa using this
    have hy : 0 ≤ y := hB2.2.2.2.2.1 y (by simp)
    have hys : ∀ n ∈ ys, 0 ≤ n := fun n hn => hB2.2.2.2.2.1 n (List.mem_append_left _ hn)
    refine ⟨fun σ' H' => ∃ gs' d c x, gs'.length < (ys ++ [y]).length ∧ σ' = [some (.ref b), some (.int many), some (.ref g), d, c, x] ∧ B1 b g s H' gs' ss t ∧ ∀ a o, H a = some o → a ∉ [b, g, s] → H' a = some o,
      fun σ' H' ⟨gs', d, c, x, h1, h2, h3, h4⟩ => ⟨_, h1, gs', d, c, x, rfl, h2, h3, h4⟩, ?_⟩
    -- if great[-1] > 0
    refine ix_last rfl hB2.2.1 ⟨y, 0, rfl, rfl, decide (0 < y), rfl, ?_⟩
    by_cases hy0 : 0 < y
    · rw [decide_eq_true hy0]
      refine L2.iteT ?_
      refine ix_last rfl hB2.2.1 ⟨_, rfl, y, many, rfl, rfl, hm, ?_⟩
      refine ix_last rfl hB2.2.1 ⟨_, rfl, y, many, rfl, rfl, hd y, ?_⟩
      refine ⟨_, rfl, 1, rfl, g, _, -1, ys.length, rfl, rfl, hB2.2.1, by rw [List.length_map, List.length_append]; exact ixN_last _, ?_⟩
      have e : ((ys ++ [y]).map V.int).set ys.length (.int (y / many)) = (ys ++ [y / many]).map V.int := by
        rw [List.map_append, List.map_append, List.set_append_right _ _ (by simp)]; simp
      refine ⟨_, rfl, ?_⟩
      have hB3 := hB2.great (gs' := ys ++ [y / many]) (fun n hn => by
        rcases List.mem_append.mp hn with z | z
        · exact hys n z
        · have : n = y / many := by simpa using z
          rw [this]; exact Int.ediv_nonneg hy (by omega)) (by rw [List.length_append]; simpa using hlen)
      have off3 : ∀ a o, H a = some o → a ∉ [b, g, s] → upd H2 g (.lst ((ys ++ [y / many]).map V.int)) a = some o := fun a o h n => by
        rw [upd_ne fun z => n (by rw [z]; simp)]; exact off2 a o h n
      show Q (.int (y % many)) (upd H2 g (.lst (((ys ++ [y]).map V.int).set ys.length (.int (y / many)))))
      rw [e]
      exact k _ _ _ _ hB3 off3 (Int.emod_nonneg _ (by omega)) (Int.emod_lt_of_pos _ hm)
    · rw [decide_eq_false hy0]
      refine L2.iteF ?_
      refine ⟨_, rfl, .inl ⟨rfl, _, SqL.of hB2.2.1⟩, g, _, .int y, rfl, rfl, hB2.2.1, ?_, ?_⟩
      · rw [List.map_append]; simp
      · have e : ((ys ++ [y]).map V.int).dropLast = ys.map V.int := by rw [List.map_append]; simp
        rw [e]
        refine ⟨ys, _, _, _, by simp, rfl, hB2.great hys (by omega), fun a o h n => ?_⟩
        rw [upd_ne fun z => n (by rw [z]; simp)]; exact off2 a o h n
/-- .. over data -/
theorem d_draw {f : Addr} {fd : FuncData} (F : Fun K "_law_draw" "_law_draw" s__law_draw f fd) (hl : mg "len" = none) : GFn P w K mg base 1 f fd ["_law_box", "_law_many"] spDraw := by
  refine GFn.of ⟨fun vs H Q E ⟨S, ds, Qd, Ed, g, rp, ⟨many, e, _⟩, _⟩ => by rw [rp.length, e]; rfl, fun A outer s H args us vs Q E hr hgd e0 hb rv h => ?_⟩ fun ds Q E ⟨many, e, _⟩ => by rw [e]; rfl
  obtain ⟨S, ds, Qd, Ed, g, rp, ⟨many, rfl, hm, hm2, k⟩, k0, l0⟩ := h
  refine (g_draw F hl).run A outer s H args us vs Q E hr hgd e0 hb rv ?_
  cases rp with
  | cons r1 r2 =>
    cases r2 with
    | cons r2 r3 =>
      cases r3
      cases r2
      obtain ⟨x, ex, ⟨b, g0, s0, rfl⟩, rfl⟩ := inv_bx r1
      obtain ⟨gs, ss, t, hB⟩ := g.bx _ ex
      refine ⟨b, g0, s0, gs, ss, t, many, rfl, hB, hm, hm2, fun H' r gs' t' hB' off h1 h2 => ?_⟩
      obtain ⟨st, g'⟩ := box_step g ex off ⟨gs', ss, t', hB'⟩
      exact k0 _ H' S _ st g' (.it r) (k r h1 h2)
/-! ### the box is opened -/
theorem xl_none {mg : Str → Option Value} {S : Sta} {H : Hp} {E : XK} : XLink mg S H (fun _ => False) E := fun _ _ _ _ _ _ _ _ h => h.elim
def sNone : Sta := ⟨none, fun _ => none⟩
theorem good_none (H : Hp) : Good sNone H := ⟨fun _ _ e => (by have e' : (none : Option HO) = some _ := e; cases e'), fun _ e => (by have e' : (none : Option Bx) = some _ := e; cases e'), fun _ _ => rfl⟩
abbrev retVals : Stmt → List Expr | .Return (some (.Dict _ vs _)) _ => vs | _ => []
theorem rel_no {Z : Hp} {S : Sta} {H : Hp} (σ : L2.St) : Rel Z S H σ (List.replicate σ.length Sl.no) where
  len := by rw [List.length_replicate]
  at_ := fun i s e => by
    rw [List.getElem?_replicate] at e
    split at e
    · cases e; trivial
    · cases e
  sep := fun i j xs ys a _ e _ _ => by
    rw [List.getElem?_replicate] at e
    split at e <;> cases e
theorem cut_ints (ns : List Int) (lo hi : Option Int) : ∃ ms : List Int, cutV (ns.map V.int) lo hi = ms.map V.int ∧ ms = (ns.drop (HT.sIx ns.length 0 lo)).take (HT.sIx ns.length ns.length hi - HT.sIx ns.length 0 lo) :=
  ⟨_, by unfold cutV; rw [List.length_map, List.map_take, List.map_drop], rfl⟩
theorem ints_filter (f : D → Option D) (hf : ∀ d y, f d = some y → y = d) : ∀ ns : List Int, ∃ ms : List Int, (ns.map D.it).filterMap f = ms.map D.it ∧ ms.length ≤ ns.length ∧ ∀ m ∈ ms, m ∈ ns
  | [] => ⟨[], rfl, Nat.le_refl _, by simp⟩
  | n :: r => by
    obtain ⟨ms, h1, h2, h3⟩ := ints_filter f hf r
    cases e : f (.it n) with
    | none => exact ⟨ms, by rw [List.map_cons, List.filterMap_cons, e]; exact h1, by simp; omega, fun m hm => List.mem_cons_of_mem _ (h3 m hm)⟩
    | some y =>
      have := hf _ _ e
      subst this
      exact ⟨n :: ms, by rw [List.map_cons, List.filterMap_cons, e, h1]; rfl, by simp; omega, fun m hm => by
        rcases List.mem_cons.mp hm with rfl | hm
        · simp
        · exact List.mem_cons_of_mem _ (h3 m hm)⟩
abbrev N_opened : List Str := ["_law_script", "_law_cells", "_law_small", "_law_great", "_law_cell"]
theorem sc_opened : FnScope N_opened ["_law_script"] (defScope s__law_opened) := ⟨rfl, rfl, rfl, by decide +kernel, rfl, by decide +kernel, by decide +kernel⟩
abbrev lcScope (e : Expr) : Scope := match e with | .ListComp _ _ sc _ => sc | _ => { kind := .function, names := [], isGenerator := false, isCoroutine := false }
theorem g_opened {f : Addr} {fd : FuncData} (F : Fun K "_law_opened" "_law_opened" s__law_opened f fd) (hl : mg "abs" = none) (hi : mg "int" = none) : HFn P w K mg base 1 f fd ["_law_script"]
    (fun vs H Q _ => ∃ (a : Addr) (ns : List Int), vs = [.ref a] ∧ SqL K H a (ns.map V.int) ∧ ∀ H' b g s gs ss t, B1 b g s H' gs ss t → (∀ a o, H a = some o → H' a = some o) → H b = none → H g = none → H s = none → Q (.ref b) H') := by
  refine hfn_mk F sc_opened (fun vs H Q E ⟨_, _, e, _⟩ => by rw [e]; rfl) fun cdv A outer s0 H vs Q E hr hgd h => ?_
  obtain ⟨a, ns, rfl, hS, k⟩ := h
  have hu := hu_of hr
  have q2 : DS (cxD P w K mg base N_opened "_law_opened" (defScope s__law_opened) f cdv A outer s0 H E) E ((defBody s__law_opened).getD 1 (.Pass ⟨0, 0, 0, 0⟩)) _ :=
    ds_setLcN 2 rfl sc_opened.nd (di_seq (de_var 1)) (own := [("_law_cell", 4)]) (blkOk_by (by show blkC N_opened (defScope s__law_opened) _ _ = true; decide +kernel)) (vsg := [4]) (by decide) (fun s H C cl fp => dg_name 4 sc_opened.nd) (fun s H C cl fp => dts_one (db_lt (de_var 4) (de_pow de_int de_int))) (fun s H C cl fp => de_var 4) rfl
  have q3 : DS (cxD P w K mg base N_opened "_law_opened" (defScope s__law_opened) f cdv A outer s0 H E) E ((defBody s__law_opened).getD 2 (.Pass ⟨0, 0, 0, 0⟩)) _ :=
    ds_setLcO 3 rfl sc_opened.nd (di_seq (de_var 1)) (own := [("_law_cell", 4)]) (blkOk_by (by show blkC N_opened (defScope s__law_opened) _ _ = true; decide +kernel)) (vsg := [4]) (by decide) (fun s H C cl fp => dg_name 4 sc_opened.nd) (fun s H C cl fp => dts_one (db_ge (de_var 4) (de_pow de_int de_int))) (fun s H C cl fp => de_var 4) rfl
  -- the cells
  have hlc : LcRaw (cxD P w K mg base N_opened "_law_opened" (defScope s__law_opened) f cdv A outer s0 H E) ((defBody s__law_opened).getD 0 (.Pass ⟨0, 0, 0, 0⟩)) 1 _ _ _ _ _ :=
    lcN_raw 1 rfl sc_opened.nd (pi_seq (pe_slice sl_list (pv 0) po_none (po_some pe_int))) (own := [("_law_cell", 4)]) (blkOk_by (by show blkC N_opened (defScope s__law_opened) _ _ = true; decide +kernel)) (vsg := [4]) (by decide) (fun s H C cl fp => dg_name 4 sc_opened.nd) (fun s H C cl fp => dts_nil) (fun s H C cl fp => de_abs rfl hl (da_cons (de_var 4) da_nil)) rfl
  have q1 : ∃ t, PS (cxD P w K mg base N_opened "_law_opened" (defScope s__law_opened) f cdv A outer s0 H E) ((defBody s__law_opened).getD 0 (.Pass ⟨0, 0, 0, 0⟩)) t ∧
      ∀ (Dn : Ends), (∀ S1 H1 p (cells : List Int), Stp sNone H S1 H1 → Good S1 H1 → Rp S1.bx S1.F (.ref p) (.ls (cells.map D.it)) → (∀ n ∈ cells, 0 ≤ n) → cells.length ≤ 61 → Dn.nx [some (.ref a), some (.ref p), none, none, none] H1) → t Dn (L2.start N_opened [.ref a]) H := by
    obtain ⟨t, p, q⟩ := hlc
    refine ⟨t, p, fun Dn kk => ?_⟩
    refine q Dn H sNone H (L2.start N_opened [.ref a]) (List.replicate 5 Sl.no) (fun xs => ∃ cells : List Int, xs = cells.map D.it ∧ (∀ n ∈ cells, 0 ≤ n) ∧ cells.length ≤ 61) (good_none H) (rel_no _) (fun R hR => ?_) fun p' H' S' xs st g' rp ⟨cells, e, hp, hl⟩ => ?_
    · obtain ⟨ms, e1, e2⟩ := cut_ints ns none (some 61)
      have hms : ms.length ≤ 61 := by
        rw [e2, List.length_take]
        refine Nat.le_trans (Nat.min_le_left _ _) ?_
        have e3 : HT.sIx ns.length ns.length (some 61) = min 61 ns.length := by
          show (if (61 : Int) < 0 then ((61 : Int) + (ns.length : Int)).toNat else min (61 : Int).toNat ns.length) = _
          rw [if_neg (by decide)]; rfl
        rw [e3]
        have : min 61 ns.length ≤ 61 := Nat.min_le_left _ _
        omega
      refine ⟨_, rfl, 61, rfl, a, _, rfl, hS, fun r hr0 => ⟨r, rfl, .inl ⟨⟨_, SqL.of upd_same⟩, ?_⟩⟩⟩
      obtain ⟨st, g'⟩ := step_new (good_none H) (o := .lst (cutV (ns.map V.int) none (some 61))) hr0
      refine hR _ _ _ (ms.map D.it) st g' (wlk_l (vs := cutV (ns.map V.int) none (some 61)) (by show upd _ r _ r = _; exact upd_same) (by rw [e1]; exact RpL.ints ms)) ?_
      refine lcD_map (fun x => match x with | .it n => .it (if n < 0 then -n else n) | d => d) _ (fun x hx Y hY => ?_) (by rw [List.length_map, sizeLine_eq]; omega) ⟨ms.map fun n => if n < 0 then -n else n, ?_, ?_, ?_⟩
      · obtain ⟨n, _, rfl⟩ := List.mem_map.mp hx
        exact hY
      · rw [List.map_map, List.map_map]; rfl
      · intro n hn
        obtain ⟨m, _, rfl⟩ := List.mem_map.mp hn
        split <;> omega
      · rw [List.length_map]; exact hms
    · subst e
      exact kk S' H' p' cells st g' rp hp hl
  obtain ⟨t1, p1, r1⟩ := q1
  obtain ⟨t2, p2, r2⟩ := q2.run
  obtain ⟨t3, p3, r3⟩ := q3.run
  have q4 : DN (cxD P w K mg base N_opened "_law_opened" (defScope s__law_opened) f cdv A outer s0 H E) E ((retVals ((defBody s__law_opened).getD 3 (.Pass ⟨0, 0, 0, 0⟩))).getD 1 (.Constant .none 0 ⟨0, 0, 0, 0⟩)) _ :=
    dn_cat (de_var 2) (de_mul (de_lst (da_cons de_int da_nil)) (de_int1 rfl hi (da_cons (de_eq hr (de_var 2) (de_lst da_nil)) da_nil)))
  obtain ⟨t4, p4, r4⟩ := q4.sem
  refine ⟨_, pss_cons p1 (pss_cons p2 (pss_cons p3 (pss_one (ps_ret (pe_disp (pps_cons pe_str (pv 3) (pps_cons pe_str p4 (pps_cons pe_str pe_int pps_nil))) rfl rfl (by simp) (by show 3 ≤ 15; decide)))))), ?_⟩
  refine r1 _ fun S1 H1 p cells st1 g1 rp hpos hlen => ?_
  have rel1 : Rel H1 S1 H1 [some (.ref a), some (.ref p), none, none, none] [.no, .v (.ls (cells.map D.it)), .no, .no, .no] := (rel_no [some (.ref a), none, none, none, none]).put (i := 1) (x := .ref p) rp
  -- the small ones
  refine r2 ⟨S1, H1, S1.F, S1.bx⟩ { nx := fun env => ∃ sm : List Int, env = [.no, .v (.ls (cells.map D.it)), .v (.ls (sm.map D.it)), .no, .no] ∧ sm.length ≤ 61, rt := fun _ => False, ex := fun _ => False } _
    ⟨fun S2 σ2 env2 H2 a2 rel2 ⟨sm, e2, hsm⟩ => ?_, fun _ _ _ _ _ _ h => h.elim, fun _ _ _ _ _ _ h => h.elim, fun _ _ _ _ _ _ h => h.elim, xl_none⟩ S1 _ _ H1 ⟨g1, .refl _ _, .refl _ _⟩ rel1 ?_
  · subst e2
    -- the great ones
    refine r3 ⟨S1, H1, S1.F, S1.bx⟩ { nx := fun env => ∃ gr : List Int, env = [.no, .v (.ls (cells.map D.it)), .v (.ls (sm.map D.it)), .own (gr.map D.it), .no] ∧ (∀ n ∈ gr, 0 ≤ n) ∧ gr.length ≤ 61, rt := fun _ => False, ex := fun _ => False } _
      ⟨fun S3 σ3 env3 H3 a3 rel3 ⟨gr, e3, hg0, hgr⟩ => ?_, fun _ _ _ _ _ _ h => h.elim, fun _ _ _ _ _ _ h => h.elim, fun _ _ _ _ _ _ h => h.elim, xl_none⟩ S2 _ _ H2 a2 rel2 ?_
    · subst e3
      -- the dict
      intro d hd
      obtain ⟨s0', g0⟩ := step_own a3.g (o := HO.dK []) hd
      have nbx : S3.bx = none := a3.p.box.trans st1.box
      have rel4 := rel3.step s0'
      obtain ⟨gg, us, u1, u2, u3, u4, u5, u6⟩ := rel4.at_ 3 _ rfl
      have := rpl_ints u6
      subst this
      refine ⟨_, u1, ?_⟩
      refine r4 H1 S3 _ σ3 _ _ (fun xs => ∃ ks : List Int, xs = ks.map D.it ∧ ks ≠ [] ∧ ks.length ≤ 200) (fun _ => False) g0 rel4 xl_none ?_ fun q H4 S4 vs xs st4 g4 q1 q2 q3 q4 q5 ⟨ks, ek, hk0, hk⟩ => ?_
      · -- small + [83] * int(small == [])
        simp only [dCatN, dVar, dOp, dLst, dCons, dNil, dC, dCB, oEq, oInt, oMul, List.getElem?_cons_succ, List.getElem?_cons_zero]
        refine ⟨by show 1 ≤ sizeLine; decide, by show 0 ≤ sizeLine; decide, cmp_ints_nil sm, ?_⟩
        rw [eq_ints_nil]
        by_cases hz : sm = []
        · subst hz
          rw [decide_eq_true rfl]
          refine ⟨by decide, by decide, by show 1 ≤ sizeLine; decide, by show 0 + 1 ≤ sizeLine; decide, [83], rfl, by simp, by show 1 ≤ 200; decide⟩
        · rw [decide_eq_false hz]
          refine ⟨by decide, by decide, by show 0 ≤ sizeLine; decide, by show (sm.map D.it).length + 0 ≤ sizeLine; rw [List.length_map, sizeLine_eq]; omega, sm, ?_, hz, by omega⟩
          show sm.map D.it ++ [] = _
          rw [List.append_nil]
      · subst ek
        have := rpl_ints q5
        subst this
        have hd4 : H4 d = some (.dK []) := st4.keep _ _ upd_same (fun z => by obtain ⟨x, ex, _⟩ := z; rw [nbx] at ex; cases ex)
        have hg4 : H4 gg = some (.lst (gr.map V.int)) := st4.keep _ _ u2 (fun z => by obtain ⟨x, ex, _⟩ := z; rw [nbx] at ex; cases ex)
        have hgd3 : gg ≠ d := fun z => by subst z; rw [upd_same] at u2; cases u2
        have hgq : gg ≠ q := fun z => by subst z; rw [u2] at q1; cases q1
        have hdq : d ≠ q := fun z => by subst z; rw [upd_same] at q1; cases q1
        refine ⟨hd4, [(kGreat, .ref gg), (kSmall, .ref q), (kTurn, .int 0)], rfl, by show 3 ≤ 15; decide, ?_⟩
        have em : mergeK [] [(kGreat, V.ref gg), (kSmall, V.ref q), (kTurn, V.int 0)] = [(kGreat, V.ref gg), (kSmall, V.ref q), (kTurn, V.int 0)] := by
          have h1 : ¬ (Str.ofString "great" = Str.ofString "turn") := by decide +kernel
          have h2 : ¬ (Str.ofString "small" = Str.ofString "turn") := by decide +kernel
          have h3 : ¬ (Str.ofString "great" = Str.ofString "small") := by decide +kernel
          simp [mergeK, putK, h1, h2, h3]
        rw [em]
        -- what was there is there
        have all : ∀ b o, H b = some o → H3 b = some o := fun b o e => (st1.trans g1 a3.p).keep b o e (fun z => by obtain ⟨x, ex, _⟩ := z; cases ex)
        have free3 : ∀ b, H3 b = none → H b = none := fun b e => (st1.trans g1 a3.p).free a3.g e
        have hq3 : H3 q = none := s0'.free g0 q1
        refine k _ d gg q gr ks 0 ⟨upd_same, by rw [upd_ne hgd3]; exact hg4, by rw [upd_ne (Ne.symm hdq)]; exact q2, hgq, hg0, hk0, by omega, hk⟩ (fun b o e => ?_) (free3 d hd) (st1.free g1 u5) (free3 q hq3)
        have e3 := all b o e
        rw [upd_ne (ne_of_none e3 hd)]
        refine st4.keep _ _ (by rw [upd_ne (ne_of_none e3 hd)]; exact e3) (fun z => by obtain ⟨x, ex, _⟩ := z; rw [nbx] at ex; cases ex)
    · refine lc_filt (fun n => decide (10 ^ 18 ≤ n)) cells (fun n hn Y N h1 h2 => ?_) (by rw [sizeLine_eq]; omega) ⟨_, rfl, fun n hn => hpos n (List.mem_filter.mp hn).1, Nat.le_trans (List.length_filter_le _ _) hlen⟩
      refine ⟨⟨by decide, by decide, by decide⟩, ?_⟩
      show (match D.bl (decide ((10 : Int) ^ (18 : Int).toNat ≤ n)) with | .bl b => (match b with | true => Y (.it n) | false => N) | _ => False)
      by_cases hc : (10 : Int) ^ (18 : Int).toNat ≤ n
      · rw [decide_eq_true hc]; exact h1 (decide_eq_true hc)
      · rw [decide_eq_false hc]; exact h2 (decide_eq_false hc)
  · refine lc_filt (fun n => decide (n < 10 ^ 18)) cells (fun n hn Y N h1 h2 => ?_) (by rw [sizeLine_eq]; omega) ⟨_, rfl, Nat.le_trans (List.length_filter_le _ _) hlen⟩
    refine ⟨⟨by decide, by decide, by decide⟩, ?_⟩
    show (match D.bl (decide (n < (10 : Int) ^ (18 : Int).toNat)) with | .bl b => (match b with | true => Y (.it n) | false => N) | _ => False)
    by_cases hc : n < (10 : Int) ^ (18 : Int).toNat
    · rw [decide_eq_true hc]; exact h1 (decide_eq_true hc)
    · rw [decide_eq_false hc]; exact h2 (decide_eq_false hc)
end
end Dl

set_option Elab.async false
set_option linter.all false
set_option maxRecDepth 100000
set_option maxHeartbeats 4000000
/-! Bk: books, piles, slips as data; what the laws k02 .. k10 draw. -/
namespace Dl
open PySem PySem.Spec PyProof.Rows L2
abbrev Slip := Int × Int
abbrev House := Int × List Slip
def slipP (s : Slip) : D := .tp [.it s.1, .it s.2]
def pileP (ss : List Slip) : D := .tp (ss.map slipP)
def houseP (h : House) : D := .tp [.it h.1, pileP h.2]
def bookP (b : List House) : D := .tp (b.map houseP)
def intsP (xs : List Int) : D := .tp (xs.map D.it)
/-- the slips of a house in a book of so many -/
structure OkPile (many : Int) (ss : List Slip) : Prop where
  len : ss.length ≤ 6
  to : ∀ s ∈ ss, 0 ≤ s.1 ∧ s.1 < many
  am : ∀ s ∈ ss, 1 ≤ s.2 ∧ s.2 ≤ 1000000000
structure OkBook (b : List House) : Prop where
  pos : 1 ≤ b.length
  len : b.length ≤ 6
  purse : ∀ h ∈ b, 0 ≤ h.1 ∧ h.1 ≤ 1000000000000
  pile : ∀ h ∈ b, OkPile b.length h.2
def sumA (ss : List Slip) : Int := (ss.map (·.2)).sum
theorem sumA_nil : sumA [] = 0 := rfl
theorem sumA_cons (s : Slip) (r : List Slip) : sumA (s :: r) = s.2 + sumA r := by simp [sumA]
theorem sumA_append (a b : List Slip) : sumA (a ++ b) = sumA a + sumA b := by simp [sumA]
theorem sumA_nonneg : ∀ {ss : List Slip}, (∀ s ∈ ss, 1 ≤ s.2 ∧ s.2 ≤ 1000000000) → 0 ≤ sumA ss ∧ sumA ss ≤ 1000000000 * ss.length
  | [], _ => by simp [sumA]
  | s :: r, h => by
    have h1 := h s (by simp)
    have h2 := sumA_nonneg (ss := r) fun x hx => h x (List.mem_cons_of_mem _ hx)
    rw [sumA_cons, List.length_cons]
    constructor
    · omega
    · have : (1000000000 : Int) * ((r.length + 1 : Nat) : Int) = 1000000000 * r.length + 1000000000 := by rw [Int.natCast_add]; omega
      omega
theorem sm_slipP {many : Int} (hm : many ≤ 1000) {s : Slip} (h1 : 0 ≤ s.1 ∧ s.1 < many) (h2 : 1 ≤ s.2 ∧ s.2 ≤ 1000000000) : Sm 3 1 (slipP s) :=
  SmL.tp (m := 2) (h := 0) (SmL.cons (m := 1) (m' := 1) (.it (by omega) (by omega)) (.one (.it (by omega) (by omega))))
theorem sm_pileP {many : Int} (hm : many ≤ 1000) {ss : List Slip} (h : OkPile many ss) : Sm 19 2 (pileP ss) := by
  refine (SmL.tp (m := 18) (h := 1) (SmL.le (SmL.of (m := 3) 6 (by rw [List.length_map]; exact h.len) fun x hx => ?_) (by omega) (Nat.le_refl _))).le (by omega) (by omega)
  obtain ⟨s, hs, rfl⟩ := List.mem_map.mp hx
  exact sm_slipP hm (h.to s hs) (h.am s hs)
theorem sm_houseP {many : Int} (hm : many ≤ 1000) {h : House} (hp : 0 ≤ h.1 ∧ h.1 ≤ 1000000000000) (ho : OkPile many h.2) : Sm 21 3 (houseP h) :=
  SmL.tp (m := 20) (h := 2) (SmL.cons (m := 1) (m' := 19) (.it (by omega) (by omega)) (.one (sm_pileP hm ho)))
theorem sm_bookL {b : List House} (h : OkBook b) : SmL 126 3 (b.map houseP) := by
  have hl := h.len
  refine SmL.le (SmL.of (m := 21) 6 (by rw [List.length_map]; exact hl) fun x hx => ?_) (by omega) (Nat.le_refl _)
  obtain ⟨y, hy, rfl⟩ := List.mem_map.mp hx
  exact sm_houseP (by omega) (h.purse y hy) (h.pile y hy)
theorem sm_bookP {b : List House} (h : OkBook b) : Sm 127 4 (bookP b) := (sm_bookL h).tp
theorem sm_ints {n : Nat} {xs : List Int} (hl : xs.length ≤ n) (h : ∀ x ∈ xs, -(2 ^ 200) < x ∧ x < 2 ^ 200) : SmL n 0 (xs.map D.it) := by
  refine SmL.le (SmL.of (m := 1) n (by rw [List.length_map]; exact hl) fun x hx => ?_) (by omega) (Nat.le_refl _)
  obtain ⟨y, hy, rfl⟩ := List.mem_map.mp hx
  have := h y hy
  exact .it (by omega) (by omega)
/-- what is paid on each slip -/
def partsF : List Slip → Int → List Int
  | [], _ => []
  | s :: r, left => (if left < s.2 then left else s.2) :: partsF r (left - (if left < s.2 then left else s.2))
/-- the next slip -/
def nextF : Nat → List Slip → Int → D
  | _, [], _ => .non
  | i, s :: r, left => if left < s.2 then .it (i : Nat) else nextF (i + 1) r (left - s.2)
theorem partsF_length : ∀ (ss : List Slip) (p : Int), (partsF ss p).length = ss.length
  | [], _ => rfl
  | s :: r, p => by simp only [partsF, List.length_cons, partsF_length r]
/-- payments of a book -/
def PayOf : List House → List Int → Prop
  | [], [] => True
  | h :: b, p :: ps => 0 ≤ p ∧ p ≤ sumA h.2 ∧ PayOf b ps
  | _, _ => False
theorem PayOf.length : ∀ {b : List House} {ps : List Int}, PayOf b ps → ps.length = b.length
  | [], [], _ => rfl
  | _ :: b, _ :: ps, h => by rw [List.length_cons, List.length_cons, PayOf.length h.2.2]
  | [], _ :: _, h => h.elim
  | _ :: _, [], h => h.elim
end Dl

set_option Elab.async false
set_option linter.all false
set_option maxRecDepth 100000
set_option maxHeartbeats 4000000
/-! Tl1: typed reading of the transformers. Values of Lean's types behind embeddings into data; W: a typed predicate transformer; SPat: what is known of the slots. -/
namespace Dl
open PySem PySem.Spec PyProof.Rows L2

abbrev W (α : Type) := (α → Prop) → EK → Prop
def pureW {α : Type} (x : α) : W α := fun Q _ => Q x
def bindW {α β : Type} (m : W α) (f : α → W β) : W β := fun Q E => m (fun x => f x Q E) E
def ifW {α : Type} (c : Bool) (a b : W α) : W α := fun Q E => if c = true then a Q E else b Q E
def failW {α : Type} : W α := fun _ _ => False

/-! ### embeddings -/
abbrev eI : Int → D := D.it
abbrev eB : Bool → D := D.bl
abbrev eS : Str → D := D.st
abbrev eA : D → D := fun d => d
abbrev eN : Unit → D := fun _ => D.non
def eT {α : Type} (e : α → D) (xs : List α) : D := .tp (xs.map e)
def eL {α : Type} (e : α → D) (xs : List α) : D := .ls (xs.map e)
def eP {α β : Type} (e : α → D) (f : β → D) (p : α × β) : D := .tp [e p.1, f p.2]
def e3 {α β γ : Type} (e : α → D) (f : β → D) (g : γ → D) (p : α × β × γ) : D := .tp [e p.1, f p.2.1, g p.2.2]
def e4 {α β γ δ : Type} (e : α → D) (f : β → D) (g : γ → D) (h : δ → D) (p : α × β × γ × δ) : D := .tp [e p.1, f p.2.1, g p.2.2.1, h p.2.2.2]
/-- lists of two, three things of different kinds -/
def eQ {α β : Type} (e : α → D) (f : β → D) (p : α × β) : D := .ls [e p.1, f p.2]
def eQ3 {α β γ : Type} (e : α → D) (f : β → D) (g : γ → D) (p : α × β × γ) : D := .ls [e p.1, f p.2.1, g p.2.2]
def eO {α : Type} (e : α → D) : Option α → D | none => .non | some x => e x

/-! ### slots -/
abbrev SPat := List (Option Sl)
structure Me (ps : SPat) (env : Env') : Prop where
  len : env.length = ps.length
  at_ : ∀ (i : Nat) (s : Sl), ps[i]? = some (some s) → env[i]? = some s
theorem Me.set {ps : SPat} {env : Env'} (m : Me ps env) (i : Nat) (s : Sl) : Me (ps.set i (some s)) (env.set i s) where
  len := by rw [List.length_set, List.length_set]; exact m.len
  at_ := fun j t h => by
    by_cases hj : j = i
    · subst hj
      have hl : j < ps.length := by
        have := (List.getElem?_eq_some_iff.mp h).1
        rwa [List.length_set] at this
      rw [List.getElem?_set_self hl] at h
      rw [List.getElem?_set_self (by rw [m.len]; exact hl)]
      cases h; rfl
    · rw [List.getElem?_set_ne (Ne.symm hj)] at h ⊢
      exact m.at_ j t h
theorem Me.hide {ps : SPat} {env : Env'} (m : Me ps env) (i : Nat) (s : Sl) : Me (ps.set i none) (env.set i s) where
  len := by rw [List.length_set, List.length_set]; exact m.len
  at_ := fun j t h => by
    by_cases hj : j = i
    · subst hj
      have hl : j < ps.length := by
        have := (List.getElem?_eq_some_iff.mp h).1
        rwa [List.length_set] at this
      rw [List.getElem?_set_self hl] at h
      cases h
    · rw [List.getElem?_set_ne (Ne.symm hj)] at h ⊢
      exact m.at_ j t h
/-- the second knows no more than the first -/
def PSub : SPat → SPat → Prop
  | [], [] => True
  | none :: qs, _ :: ps => PSub qs ps
  | some s :: qs, p :: ps => p = some s ∧ PSub qs ps
  | _, _ => False
theorem Me.sub : ∀ {qs ps : SPat} {env : Env'}, PSub qs ps → Me ps env → Me qs env
  | [], [], _, _, m => m
  | none :: qs, p :: ps, [], _, m => by have := m.len; simp at this
  | none :: qs, p :: ps, e :: env, h, m => by
    have m' : Me ps env := ⟨by have := m.len; simpa using this, fun i s q => by have := m.at_ (i + 1) s (by simpa using q); simpa using this⟩
    have k := Me.sub (qs := qs) h m'
    refine ⟨by simp [k.len], fun i s q => ?_⟩
    cases i with
    | zero => simp at q
    | succ i => simpa using k.at_ i s (by simpa using q)
  | some t :: qs, p :: ps, [], h, m => by have := m.len; simp at this
  | some t :: qs, p :: ps, e :: env, h, m => by
    have m' : Me ps env := ⟨by have := m.len; simpa using this, fun i s q => by have := m.at_ (i + 1) s (by simpa using q); simpa using this⟩
    have k := Me.sub (qs := qs) h.2 m'
    refine ⟨by simp [k.len], fun i s q => ?_⟩
    cases i with
    | zero =>
      have e1 := m.at_ 0 t (by simp [h.1])
      simp at q; subst q; exact e1
    | succ i => simpa using k.at_ i s (by simpa using q)
def patOf (env : Env') : SPat := env.map some
theorem me_of (env : Env') : Me (patOf env) env := ⟨by simp [patOf], fun i s h => by
  unfold patOf at h
  rw [List.getElem?_map] at h
  cases e : env[i]? with
  | none => rw [e] at h; cases h
  | some t => rw [e] at h; simp at h; rw [h]⟩
def wipeP (ps : SPat) : List Nat → SPat
  | [] => ps
  | v :: vs => (wipeP ps vs).set v none
theorem Me.wipe {ps : SPat} {env : Env'} (m : Me ps env) : ∀ vs, Me (wipeP ps vs) (wipeD env vs)
  | [] => m
  | v :: vs => (Me.wipe m vs).hide v .no

/-! ### judgements: the value's own continuation R is stronger than that of the data -/
def TE {α : Type} (ps : SPat) (d : DT_) (e : α → D) (w : W α) : Prop := ∀ env, Me ps env → ∀ (Q : DK) (E : EK) (R : α → Prop), (∀ r, R r → Q (e r)) → w R E → d env Q E
def TB (ps : SPat) (t : DB_) (w : W Bool) : Prop := ∀ env, Me ps env → ∀ (Q : Bool → Prop) (E : EK) (R : Bool → Prop), (∀ r, R r → Q r) → w R E → t env Q E
def TL {α : Type} (ps : SPat) (u : DA_) (e : α → D) (w : W (List α)) : Prop := ∀ env, Me ps env → ∀ (Q : List D → Prop) (E : EK) (R : List α → Prop), (∀ xs, R xs → Q (xs.map e)) → w R E → u env Q E
def TI {α : Type} (ps : SPat) (d : DI_) (e : α → D) (w : W (List α)) : Prop := ∀ env, Me ps env → ∀ (Q : List D → Prop) (E : EK) (R : List α → Prop), (∀ xs, R xs → Q (xs.map e)) → w R E → d env Q E
def TN {α : Type} (ps : SPat) (d : DN_) (e : α → D) (w : W (List α)) : Prop := ∀ env, Me ps env → ∀ (Q : List D → Prop) (E : EK) (R : List α → Prop), (∀ xs, R xs → Q (xs.map e)) → w R E → d env Q E
def TG (ps : SPat) (dg : DG_) (x : D) (ps1 : SPat) : Prop := ∀ env Q, Me ps env → (∀ env', Me ps1 env' → Q env') → dg x env Q
def TGs (ps : SPat) (dg : List D → Env' → (Env' → Prop) → Prop) (xs : List D) (ps1 : SPat) : Prop := ∀ env Q, Me ps env → (∀ env', Me ps1 env' → Q env') → dg xs env Q
def TP (ps : SPat) (d : DO_) (w : W (Option Int)) : Prop := ∀ env, Me ps env → ∀ (Q : Option Int → Prop) (E : EK) (R : Option Int → Prop), (∀ r, R r → Q r) → w R E → d env Q E

section
variable {α β γ δ : Type} {ps : SPat} {da db dc : DT_} {e : α → D} {f : β → D} {g : γ → D} {wa : W α} {wb : W β} {wc : W γ} {ta tb : DB_} {wt wu : W Bool} {u : DA_}
theorem te_var (i : Nat) {x : α} (h : ps[i]? = some (some (.v (e x)))) : TE ps (dVar i) e (pureW x) := fun env m Q E R hr q => by
  unfold dVar; rw [m.at_ i _ h]; exact hr _ q
theorem te_int (n : Int) : TE ps (dC (.it n)) eI (pureW n) := fun env m Q E R hr q => hr _ q
theorem te_bl (n : Bool) : TE ps (dC (.bl n)) eB (pureW n) := fun env m Q E R hr q => hr _ q
theorem te_str (n : Str) : TE ps (dC (.st n)) eS (pureW n) := fun env m Q E R hr q => hr _ q
theorem te_non : TE ps (dC .non) eN (pureW ()) := fun env m Q E R hr q => hr _ q
/-- another embedding of the same -/
theorem te_co {e' : β → D} (c : α → β) (h : ∀ x, e x = e' (c x)) (ha : TE ps da e wa) : TE ps da e' (bindW wa fun x => pureW (c x)) := fun env m Q E R hr q =>
  ha env m Q E _ (fun r k => by rw [h r]; exact hr _ k) q
def getW (o : Option α) : W α := fun Q _ => ∃ x, o = some x ∧ Q x
theorem te_get {w : W (Option α)} (ha : TE ps da (eO e) w) : TE ps da e (bindW w getW) := fun env m Q E R hr q =>
  ha env m Q E _ (fun r k => by obtain ⟨x, rfl, h⟩ := k; exact hr _ h) q
/-- data that are of a kind -/
def asW (e : α → D) (x : D) : W α := fun Q _ => ∃ y, x = e y ∧ Q y
theorem te_as {w : W D} (ha : TE ps da eA w) : TE ps da e (bindW w (asW e)) := fun env m Q E R hr q =>
  ha env m Q E _ (fun r k => by obtain ⟨x, rfl, h⟩ := k; exact hr _ h) q
/-! operators -/
def Op2 (o : D → D → DK → Prop) (e : α → D) (f : β → D) (g : γ → D) (op : α → β → W γ) : Prop := ∀ x y (Q : DK) E (R : γ → Prop), (∀ r, R r → Q (g r)) → op x y R E → o (e x) (f y) Q
theorem te_op {o : D → D → DK → Prop} {op : α → β → W γ} (h : Op2 o e f g op) (ha : TE ps da e wa) (hb : TE ps db f wb) : TE ps (dOp o da db) g (bindW wa fun x => bindW wb fun y => op x y) := fun env m Q E R hr q =>
  ha env m _ E _ (fun x q => hb env m _ E _ (fun y q => h x y Q E R hr q) q) q
def addI (x y : Int) : W Int := pureW (x + y)
def subI (x y : Int) : W Int := pureW (x - y)
def mulI (x y : Int) : W Int := fun Q _ => CMul x y ∧ Q (x * y)
def fdivI (x y : Int) : W Int := fun Q _ => CDivW x y ∧ Q (x / y)
def modI (x y : Int) : W Int := fun Q _ => 0 < y ∧ Q (x % y)
def powI (x y : Int) : W Int := fun Q _ => CPow x y ∧ Q (x ^ y.toNat)
def ltI (x y : Int) : W Bool := pureW (decide (x < y))
def leI (x y : Int) : W Bool := pureW (decide (x ≤ y))
def gtI (x y : Int) : W Bool := pureW (decide (y < x))
def geI (x y : Int) : W Bool := pureW (decide (y ≤ x))
def eqI (x y : Int) : W Bool := pureW (decide (x = y))
def neI (x y : Int) : W Bool := pureW (!decide (x = y))
def catW (x y : List α) : W (List α) := fun Q _ => szOk (x.length + y.length) ∧ Q (x ++ y)
def catS (x y : Str) : W Str := fun Q _ => szOk (x.length + y.length) ∧ Q (x ++ y)
def repT (x : List α) (j : Int) : W (List α) := fun Q _ => (-(2 ^ 63) ≤ j ∧ j ≤ 1000 ∧ x.length ≤ 1000) ∧ Q (List.replicate j.toNat x).flatten
def repL (x : List α) (j : Int) : W (List α) := fun Q _ => (-(2 ^ 63) ≤ j ∧ j < 2 ^ 63 ∧ szOk (x.length * j.toNat)) ∧ Q (List.replicate j.toNat x).flatten
theorem o_add : Op2 oAdd eI eI eI addI := fun x y Q E R hr q => hr _ q
theorem o_sub : Op2 oSub eI eI eI subI := fun x y Q E R hr q => hr _ q
theorem o_mul : Op2 oMulA eI eI eI mulI := fun x y Q E R hr q => ⟨q.1, hr _ q.2⟩
theorem o_fdiv : Op2 oFdiv eI eI eI fdivI := fun x y Q E R hr q => ⟨q.1, hr _ q.2⟩
theorem o_mod : Op2 oMod eI eI eI modI := fun x y Q E R hr q => ⟨q.1, hr _ q.2⟩
theorem o_pow : Op2 oPow eI eI eI powI := fun x y Q E R hr q => ⟨q.1, hr _ q.2⟩
theorem o_lt : Op2 oLt eI eI eB ltI := fun x y Q E R hr q => hr _ q
theorem o_le : Op2 oLe eI eI eB leI := fun x y Q E R hr q => hr _ q
theorem o_gt : Op2 oGt eI eI eB gtI := fun x y Q E R hr q => hr _ q
theorem o_ge : Op2 oGe eI eI eB geI := fun x y Q E R hr q => hr _ q
theorem beq_dec (x y : Int) : (x == y) = decide (x = y) := by
  by_cases h : x = y
  · subst h; simp
  · simp [h]
theorem o_eqI : Op2 oEq eI eI eB eqI := fun x y Q E R hr q => ⟨rfl, by show Q (.bl (x == y)); rw [beq_dec]; exact hr _ q⟩
theorem o_neI : Op2 oNe eI eI eB neI := fun x y Q E R hr q => ⟨rfl, by show Q (.bl (!(x == y))); rw [beq_dec]; exact hr _ q⟩
theorem o_catT : Op2 oAdd (eT e) (eT e) (eT e) catW := fun x y Q E R hr q => ⟨by simpa using q.1, by have := hr _ q.2; unfold eT at this; rw [List.map_append] at this; exact this⟩
theorem o_catL : Op2 oAdd (eL e) (eL e) (eL e) catW := fun x y Q E R hr q => ⟨by simpa using q.1, by have := hr _ q.2; unfold eL at this; rw [List.map_append] at this; exact this⟩
theorem o_catS : Op2 oAdd eS eS eS catS := fun x y Q E R hr q => ⟨q.1, hr _ q.2⟩
theorem map_rep (e : α → D) (x : List α) (n : Nat) : (List.replicate n x).flatten.map e = (List.replicate n (x.map e)).flatten := by
  induction n with
  | zero => simp
  | succ n ih => rw [List.replicate_succ, List.flatten_cons, List.map_append, ih, List.replicate_succ, List.flatten_cons]
theorem o_repT : Op2 oMulA (eT e) eI (eT e) repT := fun x y Q E R hr q => ⟨q.1.1, q.1.2.1, by simpa using q.1.2.2, by have := hr _ q.2; unfold eT at this; rw [map_rep] at this; exact this⟩
theorem o_repL : Op2 oMulA (eL e) eI (eL e) repL := fun x y Q E R hr q => ⟨q.1.1, q.1.2.1, by simpa using q.1.2.2, by have := hr _ q.2; unfold eL at this; rw [map_rep] at this; exact this⟩
/-! items -/
def ixW (xs : List α) (i : Int) : W α := fun Q _ => ∃ x, atI xs i = some x ∧ Q x
theorem atI_map (e : α → D) (xs : List α) (i : Int) : atI (xs.map e) i = (atI xs i).map e := by
  unfold atI
  rw [List.length_map]
  cases ixN xs.length i with
  | none => rfl
  | some j => simp
theorem o_ixT : Op2 oIx (eT e) eI e ixW := fun x y Q E R hr q => by
  obtain ⟨z, h, k⟩ := q
  show match atI (x.map e) y with | some d => Q d | none => False
  rw [atI_map, h]; exact hr _ k
theorem o_ixL : Op2 oIx (eL e) eI e ixW := fun x y Q E R hr q => by
  obtain ⟨z, h, k⟩ := q
  show match atI (x.map e) y with | some d => Q d | none => False
  rw [atI_map, h]; exact hr _ k
end
end Dl

set_option Elab.async false
set_option linter.all false
set_option maxRecDepth 100000
set_option maxHeartbeats 4000000
/-! Tl2: typed reading: displays, parts, built-ins, comparisons, calls. -/
namespace Dl
open PySem PySem.Spec PyProof.Rows L2

section
variable {α β γ δ ε ζ η : Type} {ps : SPat} {da db dc dd d5 d6 : DT_} {e : α → D} {f : β → D} {g : γ → D} {h : δ → D} {wa : W α} {wb : W β} {wc : W γ} {wd : W δ} {ta tb : DB_} {wt wu : W Bool} {u : DA_}
/-- a part of a tuple -/
theorem te_prj {e' : β → D} {k : Int} (c : α → β) (hc : ∀ x (Q : DK), Q (e' (c x)) → oIx (e x) (.it k) Q) (ha : TE ps da e wa) : TE ps (dOp oIx da (dC (.it k))) e' (bindW wa fun x => pureW (c x)) := fun env m Q E R hr q =>
  ha env m _ E _ (fun x q => hc x Q (hr _ q)) q
/-! argument lists of one kind -/
theorem tl_nil : TL ps dNil e (pureW []) := fun env m Q E R hr q => hr [] q
theorem tl_cons {wu : W (List α)} (ha : TE ps da e wa) (hu : TL ps u e wu) : TL ps (dCons da u) e (bindW wa fun x => bindW wu fun xs => pureW (x :: xs)) := fun env m Q E R hr q =>
  ha env m _ E _ (fun x q => hu env m _ E _ (fun xs q => hr (x :: xs) q) q) q
theorem tl_starT {ws wu : W (List α)} (ha : TE ps da (eT e) ws) (hu : TL ps u e wu) : TL ps (dStar da u) e (bindW ws fun ys => bindW wu fun xs => pureW (ys ++ xs)) := fun env m Q E R hr q =>
  ha env m _ E _ (fun ys q => hu env m _ E _ (fun xs q => by have := hr (ys ++ xs) q; rw [List.map_append] at this; exact this) q) q
theorem tl_starL {ws wu : W (List α)} (ha : TE ps da (eL e) ws) (hu : TL ps u e wu) : TL ps (dStar da u) e (bindW ws fun ys => bindW wu fun xs => pureW (ys ++ xs)) := fun env m Q E R hr q =>
  ha env m _ E _ (fun ys q => hu env m _ E _ (fun xs q => by have := hr (ys ++ xs) q; rw [List.map_append] at this; exact this) q) q
def szW (xs : List α) : W (List α) := fun Q _ => szOk xs.length ∧ Q xs
theorem te_tupL {wu : W (List α)} (hu : TL ps u e wu) : TE ps (dTup u) (eT e) (bindW wu szW) := fun env m Q E R hr q =>
  hu env m _ E _ (fun xs q => ⟨by rw [List.length_map]; exact q.1, hr xs q.2⟩) q
theorem te_lstL {wu : W (List α)} (hu : TL ps u e wu) : TE ps (dLst u) (eL e) (bindW wu szW) := fun env m Q E R hr q =>
  hu env m _ E _ (fun xs q => ⟨by rw [List.length_map]; exact q.1, hr xs q.2⟩) q
/-! tuples of parts -/
theorem te_tup2 (ha : TE ps da e wa) (hb : TE ps db f wb) : TE ps (dTup (dCons da (dCons db dNil))) (eP e f) (bindW wa fun x => bindW wb fun y => pureW (x, y)) := fun env m Q E R hr q =>
  ha env m _ E _ (fun x q => hb env m _ E _ (fun y q => ⟨szl2, hr (x, y) q⟩) q) q
theorem te_tup3 (ha : TE ps da e wa) (hb : TE ps db f wb) (hc : TE ps dc g wc) : TE ps (dTup (dCons da (dCons db (dCons dc dNil)))) (e3 e f g) (bindW wa fun x => bindW wb fun y => bindW wc fun z => pureW (x, y, z)) := fun env m Q E R hr q =>
  ha env m _ E _ (fun x q => hb env m _ E _ (fun y q => hc env m _ E _ (fun z q => ⟨szl3, hr (x, y, z) q⟩) q) q) q
theorem te_tup4 (ha : TE ps da e wa) (hb : TE ps db f wb) (hc : TE ps dc g wc) (hd : TE ps dd h wd) : TE ps (dTup (dCons da (dCons db (dCons dc (dCons dd dNil))))) (e4 e f g h) (bindW wa fun x => bindW wb fun y => bindW wc fun z => bindW wd fun t => pureW (x, y, z, t)) := fun env m Q E R hr q =>
  ha env m _ E _ (fun x q => hb env m _ E _ (fun y q => hc env m _ E _ (fun z q => hd env m _ E _ (fun t q => ⟨szl4, hr (x, y, z, t) q⟩) q) q) q) q
theorem te_lst2 (ha : TE ps da e wa) (hb : TE ps db f wb) : TE ps (dLst (dCons da (dCons db dNil))) (eQ e f) (bindW wa fun x => bindW wb fun y => pureW (x, y)) := fun env m Q E R hr q =>
  ha env m _ E _ (fun x q => hb env m _ E _ (fun y q => ⟨szl2, hr (x, y) q⟩) q) q
theorem te_lst3 (ha : TE ps da e wa) (hb : TE ps db f wb) (hc : TE ps dc g wc) : TE ps (dLst (dCons da (dCons db (dCons dc dNil)))) (eQ3 e f g) (bindW wa fun x => bindW wb fun y => bindW wc fun z => pureW (x, y, z)) := fun env m Q E R hr q =>
  ha env m _ E _ (fun x q => hb env m _ E _ (fun y q => hc env m _ E _ (fun z q => ⟨szl3, hr (x, y, z) q⟩) q) q) q
/-! built-ins -/
def Op1 (o : List D → DK → Prop) (e : α → D) (g : γ → D) (op : α → W γ) : Prop := ∀ x (Q : DK) E (R : γ → Prop), (∀ r, R r → Q (g r)) → op x R E → o [e x] Q
def Op2B (o : List D → DK → Prop) (e : α → D) (f : β → D) (g : γ → D) (op : α → β → W γ) : Prop := ∀ x y (Q : DK) E (R : γ → Prop), (∀ r, R r → Q (g r)) → op x y R E → o [e x, f y] Q
theorem te_cb1 {o} {op : α → W γ} (ho : Op1 o e g op) (ha : TE ps da e wa) : TE ps (dCB o (dCons da dNil)) g (bindW wa op) := fun env m Q E R hr q =>
  ha env m _ E _ (fun x q => ho x Q E R hr q) q
theorem te_cb2 {o} {op : α → β → W γ} (ho : Op2B o e f g op) (ha : TE ps da e wa) (hb : TE ps db f wb) : TE ps (dCB o (dCons da (dCons db dNil))) g (bindW wa fun x => bindW wb fun y => op x y) := fun env m Q E R hr q =>
  ha env m _ E _ (fun x q => hb env m _ E _ (fun y q => ho x y Q E R hr q) q) q
def lenW (xs : List α) : W Int := pureW (xs.length : Int)
def lenA (d : D) : W Int := fun Q _ => match d with | .tp ys => Q ys.length | .ls ys => Q ys.length | .st z => szOk z.length ∧ Q z.length | _ => False
theorem o_lenT : Op1 oLen (eT e) eI lenW := fun x Q E R hr q => by
  show Q (.it ((x.map e).length : Nat)); rw [List.length_map]; exact hr _ q
theorem o_lenL : Op1 oLen (eL e) eI lenW := fun x Q E R hr q => by
  show Q (.it ((x.map e).length : Nat)); rw [List.length_map]; exact hr _ q
theorem o_lenA : Op1 oLen eA eI lenA := fun x Q E R hr q => by
  cases x with
  | tp ys => exact hr _ q
  | ls ys => exact hr _ q
  | st z => exact ⟨q.1, hr _ q.2⟩
  | _ => exact q.elim
def lenS (z : Str) : W Int := fun Q _ => szOk z.length ∧ Q z.length
theorem o_lenS : Op1 oLen eS eI lenS := fun x Q E R hr q => ⟨q.1, hr _ q.2⟩
def sameW (x : α) : W α := pureW x
theorem o_listT : Op1 oList (eT e) (eL e) sameW := fun x Q E R hr q => hr _ q
theorem o_listL : Op1 oList (eL e) (eL e) sameW := fun x Q E R hr q => hr _ q
theorem o_tupleT : Op1 oTuple (eT e) (eT e) sameW := fun x Q E R hr q => hr _ q
theorem o_tupleL : Op1 oTuple (eL e) (eT e) sameW := fun x Q E R hr q => hr _ q
def intB (b : Bool) : W Int := pureW (if b = true then 1 else 0)
theorem o_intB : Op1 oInt eB eI intB := fun x Q E R hr q => hr _ q
theorem o_intI : Op1 oInt eI eI sameW := fun x Q E R hr q => hr _ q
def absI (i : Int) : W Int := pureW (if i < 0 then -i else i)
theorem o_abs : Op1 oAbs eI eI absI := fun x Q E R hr q => hr _ q
def sumW (xs : List Int) : W Int := pureW xs.sum
theorem o_sum : Op1 oSum (eL eI) eI sumW := fun x Q E R hr q => ⟨x, intsD_map x, hr _ q⟩
def maxL (xs : List Int) : W Int := fun Q _ => xs ≠ [] ∧ ∀ m, m ∈ xs → (∀ y ∈ xs, y ≤ m) → Q m
def minL (xs : List Int) : W Int := fun Q _ => xs ≠ [] ∧ ∀ m, m ∈ xs → (∀ y ∈ xs, m ≤ y) → Q m
theorem o_maxL : Op1 oMaxL (eL eI) eI maxL := fun x Q E R hr q => ⟨x, intsD_map x, q.1, fun m h1 h2 => hr _ (q.2 m h1 h2)⟩
theorem o_minL : Op1 oMinL (eL eI) eI minL := fun x Q E R hr q => ⟨x, intsD_map x, q.1, fun m h1 h2 => hr _ (q.2 m h1 h2)⟩
def max2 (x y : Int) : W Int := pureW (max x y)
def min2 (x y : Int) : W Int := pureW (min x y)
theorem o_max2 : Op2B oMaxL eI eI eI max2 := fun x y Q E R hr q => by
  show Q (.it (if y > x then y else x))
  have : (if y > x then y else x) = max x y := by split <;> omega
  rw [this]; exact hr _ q
theorem o_min2 : Op2B oMinL eI eI eI min2 := fun x y Q E R hr q => by
  show Q (.it (if y < x then y else x))
  have : (if y < x then y else x) = min x y := by split <;> omega
  rw [this]; exact hr _ q
def anyW (xs : List Bool) : W Bool := pureW (xs.any id)
def allW (xs : List Bool) : W Bool := pureW (xs.all id)
theorem o_any : Op1 oAny (eL eB) eB anyW := fun x Q E R hr q => ⟨x, boolsD_map x, hr _ q⟩
theorem o_all : Op1 oAll (eL eB) eB allW := fun x Q E R hr q => ⟨x, boolsD_map x, hr _ q⟩
/-- of any display -/
def reprW (d : D) : W Str := fun Q _ => Fit d ∧ Q d.py.shown
theorem o_repr : Op1 oRepr e eS (fun x => reprW (e x)) := fun x Q E R hr q => ⟨q.1, hr _ q.2⟩
/-! kinds, None -/
theorem te_isi {T : String} (ha : TE ps da e wa) : TE ps (dIsi T da) eB (bindW wa fun x => pureW (isT T (e x))) := fun env m Q E R hr q =>
  ha env m _ E _ (fun x q => hr _ q) q
theorem te_isN (ha : TE ps da e wa) : TE ps (dIsN da) eB (bindW wa fun x => pureW (isNon (e x))) := fun env m Q E R hr q =>
  ha env m _ E _ (fun x q => hr _ q) q
theorem te_notN (ha : TE ps da e wa) : TE ps (dNotN da) eB (bindW wa fun x => pureW (!isNon (e x))) := fun env m Q E R hr q =>
  ha env m _ E _ (fun x q => hr _ q) q
theorem te_isNO {w : W (Option α)} (hn : ∀ x, isNon (e x) = false) (ha : TE ps da (eO e) w) : TE ps (dIsN da) eB (bindW w fun x => pureW x.isNone) := fun env m Q E R hr q =>
  ha env m _ E _ (fun x q => by
    have : isNon (eO e x) = x.isNone := by cases x with | none => rfl | some y => exact hn y
    show Q (.bl (isNon (eO e x))); rw [this]; exact hr _ q) q
theorem te_notNO {w : W (Option α)} (hn : ∀ x, isNon (e x) = false) (ha : TE ps da (eO e) w) : TE ps (dNotN da) eB (bindW w fun x => pureW x.isSome) := fun env m Q E R hr q =>
  ha env m _ E _ (fun x q => by
    have : isNon (eO e x) = !x.isSome := by cases x with | none => rfl | some y => exact hn y
    show Q (.bl (!isNon (eO e x))); rw [this, Bool.not_not]; exact hr _ q) q
theorem nn_T (x : List α) : isNon (eT e x) = false := rfl
theorem nn_L (x : List α) : isNon (eL e x) = false := rfl
theorem nn_P (x : α × β) : isNon (eP e f x) = false := rfl
theorem nn_3 (x : α × β × γ) : isNon (e3 e f g x) = false := rfl
theorem nn_4 (x : α × β × γ × δ) : isNon (e4 e f g h x) = false := rfl
theorem nn_I (x : Int) : isNon (eI x) = false := rfl
theorem nn_B (x : Bool) : isNon (eB x) = false := rfl
theorem nn_S (x : Str) : isNon (eS x) = false := rfl
/-! logic -/
theorem te_and {wa wb : W Bool} (ha : TE ps da eB wa) (hb : TE ps db eB wb) : TE ps (dAndV da db) eB (bindW wa fun c => ifW c wb (pureW false)) := fun env m Q E R hr q =>
  ha env m _ E _ (fun c q => by
    cases c with
    | true => exact hb env m Q E R hr (by simpa [ifW] using q)
    | false => exact hr false (by simpa [ifW, pureW] using q)) q
theorem te_or {wa wb : W Bool} (ha : TE ps da eB wa) (hb : TE ps db eB wb) : TE ps (dOrV da db) eB (bindW wa fun c => ifW c (pureW true) wb) := fun env m Q E R hr q =>
  ha env m _ E _ (fun c q => by
    cases c with
    | false => exact hb env m Q E R hr (by simpa [ifW] using q)
    | true => exact hr true (by simpa [ifW, pureW] using q)) q
theorem te_not {wa : W Bool} (ha : TE ps da eB wa) : TE ps (dNotV da) eB (bindW wa fun c => pureW (!c)) := fun env m Q E R hr q =>
  ha env m _ E _ (fun c q => hr _ q) q
theorem te_if {wa' : W α} (ht : TB ps ta wt) (ha : TE ps da e wa) (hb : TE ps db e wa') : TE ps (dIf ta da db) e (bindW wt fun c => ifW c wa wa') := fun env m Q E R hr q =>
  ht env m _ E _ (fun c q => by
    cases c with
    | true => exact ha env m Q E R hr (by simpa [ifW] using q)
    | false => exact hb env m Q E R hr (by simpa [ifW] using q)) q
theorem te_neg {wa : W Int} (ha : TE ps da eI wa) : TE ps (dNeg da) eI (bindW wa fun i => pureW (-i)) := fun env m Q E R hr q =>
  ha env m _ E _ (fun c q => hr _ q) q
theorem te_chain {o o' : D → D → DK → Prop} {op : α → β → W Bool} {op' : β → γ → W Bool} (h : Op2 o e f eB op) (h' : Op2 o' f g eB op') (ha : TE ps da e wa) (hb : TE ps db f wb) (hc : TE ps dc g wc) :
    TE ps (dChain o o' da db dc) eB (bindW wa fun x => bindW wb fun y => bindW (op x y) fun c => ifW c (bindW wc fun z => op' y z) (pureW false)) := fun env m Q E R hr q =>
  ha env m _ E _ (fun x q => hb env m _ E _ (fun y q => h x y _ E _ (fun c q => by
    cases c with
    | true => exact hc env m _ E _ (fun z q => h' y z Q E R hr q) q
    | false => exact hr false (by simpa [ifW, pureW] using q)) q) q) q
/-! tests -/
theorem tb_tst {wa : W Bool} (ha : TE ps da eB wa) : TB ps (dTst da) wa := fun env m Q E R hr q => ha env m _ E _ (fun c q => hr c q) q
theorem tb_and (ha : TB ps ta wt) (hb : TB ps tb wu) : TB ps (dAnd ta tb) (bindW wt fun c => ifW c wu (pureW false)) := fun env m Q E R hr q =>
  ha env m _ E _ (fun c q => by
    cases c with
    | true => exact hb env m Q E R hr (by simpa [ifW] using q)
    | false => exact hr false (by simpa [ifW, pureW] using q)) q
theorem tb_or (ha : TB ps ta wt) (hb : TB ps tb wu) : TB ps (dOr ta tb) (bindW wt fun c => ifW c (pureW true) wu) := fun env m Q E R hr q =>
  ha env m _ E _ (fun c q => by
    cases c with
    | false => exact hb env m Q E R hr (by simpa [ifW] using q)
    | true => exact hr true (by simpa [ifW, pureW] using q)) q
theorem tb_not (ha : TB ps ta wt) : TB ps (dNot ta) (bindW wt fun c => pureW (!c)) := fun env m Q E R hr q => ha env m _ E _ (fun c q => hr _ q) q
theorem tb_yes : TB ps dYes (pureW true) := fun env m Q E R hr q => hr _ q
/-! slices -/
def cutT (xs : List α) (lo hi : Option Int) : List α := (xs.drop (HT.sIx xs.length 0 lo)).take (HT.sIx xs.length xs.length hi - HT.sIx xs.length 0 lo)
theorem cutT_map (xs : List α) (lo hi : Option Int) : cutD (xs.map e) lo hi = (cutT xs lo hi).map e := by
  unfold cutD cutT
  rw [List.length_map, List.map_take, List.map_drop]
theorem tp_none : TP ps dNoPart (pureW none) := fun env m Q E R hr q => hr _ q
theorem tp_some {w : W Int} (ha : TE ps da eI w) : TP ps (dPart da) (bindW w fun i => pureW (some i)) := fun env m Q E R hr q => ha env m _ E _ (fun i q => hr _ q) q
variable {dl dh : DO_} {wl wh : W (Option Int)}
theorem te_slT {w : W (List α)} (ha : TE ps da (eT e) w) (hl : TP ps dl wl) (hh : TP ps dh wh) : TE ps (dSl da dl dh) (eT e) (bindW w fun xs => bindW wl fun l => bindW wh fun h => pureW (cutT xs l h)) := fun env m Q E R hr q =>
  ha env m _ E _ (fun xs q => hl env m _ E _ (fun l q => hh env m _ E _ (fun h q => by
    have := hr _ q
    show Q (.tp (cutD (xs.map e) l h)); rw [cutT_map]; exact this) q) q) q
theorem te_slL {w : W (List α)} (ha : TE ps da (eL e) w) (hl : TP ps dl wl) (hh : TP ps dh wh) : TE ps (dSl da dl dh) (eL e) (bindW w fun xs => bindW wl fun l => bindW wh fun h => pureW (cutT xs l h)) := fun env m Q E R hr q =>
  ha env m _ E _ (fun xs q => hl env m _ E _ (fun l q => hh env m _ E _ (fun h q => by
    have := hr _ q
    show Q (.ls (cutD (xs.map e) l h)); rw [cutT_map]; exact this) q) q) q
theorem te_revT {w : W (List α)} (ha : TE ps da (eT e) w) : TE ps (dRev da) (eT e) (bindW w fun xs => pureW xs.reverse) := fun env m Q E R hr q =>
  ha env m _ E _ (fun xs q => by have := hr _ q; unfold eT at this; rw [List.map_reverse] at this; exact this) q
theorem te_revL {w : W (List α)} (ha : TE ps da (eL e) w) : TE ps (dRev da) (eL e) (bindW w fun xs => pureW xs.reverse) := fun env m Q E R hr q =>
  ha env m _ E _ (fun xs q => by have := hr _ q; unfold eL at this; rw [List.map_reverse] at this; exact this) q
/-! data of any kind -/
def op2A (o : D → D → DK → Prop) (x y : D) : W D := fun Q _ => o x y Q
theorem o_any2 {o : D → D → DK → Prop} (hm : ∀ x y (Q Q' : DK), (∀ r, Q r → Q' r) → o x y Q → o x y Q') : Op2 o eA eA eA (op2A o) := fun x y Q E R hr q => hm x y R Q hr q
theorem oIx_mono (x y : D) (Q Q' : DK) (h : ∀ r, Q r → Q' r) (q : oIx x y Q) : oIx x y Q' := by
  unfold oIx at q ⊢
  split at q
  · split at q
    · exact h _ q
    · exact q.elim
  · split at q
    · exact h _ q
    · exact q.elim
  · refine ⟨q.1, ?_⟩
    have := q.2
    split at this
    · exact h _ this
    · exact this.elim
  · exact q.elim
def ixA (x : D) (k : Int) : W D := fun Q _ => oIx x (.it k) Q
theorem o_ixA : Op2 oIx eA eI eA ixA := fun x y Q E R hr q => oIx_mono _ _ _ _ hr q
end
/-! ### equality -/
structure EqE {α : Type} (e : α → D) : Prop where
  plain : ∀ x, plainD (e x) = true
  deep : ∃ n, n ≤ 20 ∧ ∀ x, deep (e x) ≤ n
  inj : ∀ x y, eqD (e x) (e y) = true ↔ x = y
/-- .. with room for so many more levels -/
structure EqN {α : Type} (n : Nat) (e : α → D) : Prop where
  plain : ∀ x, plainD (e x) = true
  deep : ∀ x, deep (e x) ≤ n
  inj : ∀ x y, eqD (e x) (e y) = true ↔ x = y
section
variable {α β γ δ : Type} {e : α → D} {f : β → D} {g : γ → D} {h : δ → D} {n m k l : Nat}
theorem eq_I : EqN 0 eI := ⟨fun _ => rfl, fun _ => by simp [deep], fun x y => by show (x == y) = true ↔ _; exact beq_iff_eq⟩
theorem eq_B : EqN 0 eB := ⟨fun _ => rfl, fun _ => by simp [deep], fun x y => by show (x == y) = true ↔ _; exact beq_iff_eq⟩
theorem eq_S : EqN 0 eS := ⟨fun _ => rfl, fun _ => by simp [deep], fun x y => by show (x == y) = true ↔ _; exact beq_iff_eq⟩
theorem plain_map (h : ∀ x, plainD (e x) = true) : ∀ xs : List α, plainDL (xs.map e) = true
  | [] => rfl
  | x :: r => by simp only [List.map_cons, plainDL, h x, plain_map h r, Bool.and_self]
theorem deep_map (h : ∀ x, deep (e x) ≤ n) : ∀ xs : List α, deepL (xs.map e) ≤ n
  | [] => by simp [deepL]
  | x :: r => by simp only [List.map_cons, deepL]; have := h x; have := deep_map h r; omega
theorem eqv_map (h : ∀ x y, eqD (e x) (e y) = true ↔ x = y) : ∀ xs ys : List α, PyData.eqvAll (pyL (xs.map e)) (pyL (ys.map e)) = true ↔ xs = ys
  | [], [] => by simp [pyL, PyData.eqvAll]
  | [], _ :: _ => by simp [pyL, PyData.eqvAll]
  | _ :: _, [] => by simp [pyL, PyData.eqvAll]
  | x :: xs, y :: ys => by
    have ih := eqv_map h xs ys
    have hx := h x y
    unfold eqD at hx
    simp only [List.map_cons, pyL, PyData.eqvAll, Bool.and_eq_true, hx, ih, List.cons.injEq]
theorem eq_T (h : EqN n e) : EqN (n + 1) (eT e) := ⟨fun xs => by simp only [eT, plainD]; exact plain_map h.plain xs, fun xs => by simp only [eT, deep]; have := deep_map h.deep xs; omega, fun xs ys => by
  show PyData.eqv (.tuple (pyL (xs.map e))) (.tuple (pyL (ys.map e))) = true ↔ _
  rw [PyData.eqv]; exact eqv_map h.inj xs ys⟩
theorem eq_L (h : EqN n e) : EqN (n + 1) (eL e) := ⟨fun xs => by simp only [eL, plainD]; exact plain_map h.plain xs, fun xs => by simp only [eL, deep]; have := deep_map h.deep xs; omega, fun xs ys => by
  show PyData.eqv (.list (pyL (xs.map e))) (.list (pyL (ys.map e))) = true ↔ _
  rw [PyData.eqv]; exact eqv_map h.inj xs ys⟩
theorem eq_P (h1 : EqN n e) (h2 : EqN m f) : EqN (max n m + 1) (eP e f) := ⟨fun p => by simp only [eP, plainD, plainDL, h1.plain, h2.plain, Bool.and_self], fun p => by simp only [eP, deep, deepL]; have := h1.deep p.1; have := h2.deep p.2; omega, fun p q => by
  show PyData.eqv (.tuple (pyL [e p.1, f p.2])) (.tuple (pyL [e q.1, f q.2])) = true ↔ _
  have a := h1.inj p.1 q.1; have b := h2.inj p.2 q.2
  unfold eqD at a b
  simp only [pyL, PyData.eqv, PyData.eqvAll, Bool.and_eq_true, a, b, Bool.and_true, Prod.ext_iff]⟩
theorem eq_3 (h1 : EqN n e) (h2 : EqN m f) (h3 : EqN k g) : EqN (max n (max m k) + 1) (e3 e f g) := ⟨fun p => by simp only [e3, plainD, plainDL, h1.plain, h2.plain, h3.plain, Bool.and_self], fun p => by simp only [e3, deep, deepL]; have := h1.deep p.1; have := h2.deep p.2.1; have := h3.deep p.2.2; omega, fun p q => by
  show PyData.eqv (.tuple (pyL [e p.1, f p.2.1, g p.2.2])) (.tuple (pyL [e q.1, f q.2.1, g q.2.2])) = true ↔ _
  have a := h1.inj p.1 q.1; have b := h2.inj p.2.1 q.2.1; have c := h3.inj p.2.2 q.2.2
  unfold eqD at a b c
  simp only [pyL, PyData.eqv, PyData.eqvAll, Bool.and_eq_true, a, b, c, Bool.and_true, Prod.ext_iff]⟩
theorem eqv_non_l {d : D} (h : isNon d = false) (hb : isBx d = false) : PyData.eqv .none d.py = false := by cases d <;> simp_all [isNon, isBx, D.py, PyData.eqv]
theorem eqv_non_r {d : D} (h : isNon d = false) (hb : isBx d = false) : PyData.eqv d.py .none = false := by cases d <;> simp_all [isNon, isBx, D.py, PyData.eqv]
theorem bx_plain {d : D} (h : plainD d = true) : isBx d = false := by cases d <;> simp_all [plainD, isBx]
theorem eq_O (hn : ∀ x, isNon (e x) = false) (h : EqN n e) : EqN n (eO e) := ⟨fun p => by cases p with | none => rfl | some x => exact h.plain x, fun p => by cases p with | none => simp [eO, deep] | some x => exact h.deep x, fun p q => by
  cases p with
  | none => cases q with
    | none => simp [eO, eqD, D.py, PyData.eqv]
    | some y => simp [eO, eqD, D.py, eqv_non_l (hn y) (bx_plain (h.plain y))]
  | some x => cases q with
    | none => simp [eO, eqD, D.py, eqv_non_r (hn x) (bx_plain (h.plain x))]
    | some y => simp [eO, h.inj]⟩
def eqW [DecidableEq α] (x y : α) : W Bool := pureW (decide (x = y))
def neW [DecidableEq α] (x y : α) : W Bool := pureW (!decide (x = y))
theorem EqN.dec [DecidableEq α] (h : EqN n e) (x y : α) : eqD (e x) (e y) = decide (x = y) := by
  have := h.inj x y
  cases q : eqD (e x) (e y) with
  | true => rw [q] at this; exact (decide_eq_true (this.mp rfl)).symm
  | false => rw [q] at this; exact (decide_eq_false fun z => by have := this.mpr z; cases this).symm
theorem EqN.cmp (h : EqN n e) (hn : n ≤ 20) (x y : α) : cmpOk (e x) (e y) := ⟨h.plain x, h.plain y, by have := h.deep x; omega⟩
theorem o_eq [DecidableEq α] (h : EqN n e) (hn : n ≤ 20) (hi : ∀ x j, e x ≠ .it j) : Op2 oEq e e eB eqW := fun x y Q E R hr q => by
  have k := hr _ q
  unfold oEq
  split
  · next j ej => exact (hi _ _ ej).elim
  · exact ⟨h.cmp hn x y, by rw [h.dec]; exact k⟩
theorem o_ne [DecidableEq α] (h : EqN n e) (hn : n ≤ 20) (hi : ∀ x j, e x ≠ .it j) : Op2 oNe e e eB neW := fun x y Q E R hr q => by
  have k := hr _ q
  unfold oNe
  split
  · next j ej => exact (hi _ _ ej).elim
  · exact ⟨h.cmp hn x y, by rw [h.dec]; exact k⟩
/-- data of any kind against data of any kind -/
def eqA (x y : D) : W Bool := fun Q _ => match y with | .it j => isBx x = false ∧ Q (eqIt x j) | y => cmpOk x y ∧ Q (eqD x y)
def neA (x y : D) : W Bool := fun Q _ => match y with | .it j => isBxDc x = false ∧ Q (!eqIt x j) | y => cmpOk x y ∧ Q (!eqD x y)
theorem o_eqA : Op2 oEq eA eA eB eqA := fun x y Q E R hr q => by
  cases y <;> exact ⟨q.1, hr _ q.2⟩
theorem o_neA : Op2 oNe eA eA eB neA := fun x y Q E R hr q => by
  cases y <;> exact ⟨q.1, hr _ q.2⟩
def inW [DecidableEq α] (x : α) (xs : List α) : W Bool := pureW (decide (x ∈ xs))
def niW [DecidableEq α] (x : α) (xs : List α) : W Bool := pureW (!decide (x ∈ xs))
theorem any_map [DecidableEq α] (h : EqN n e) (x : α) : ∀ xs : List α, ((xs.map e).any fun z => eqD z (e x)) = decide (x ∈ xs)
  | [] => by simp
  | y :: r => by
    rw [List.map_cons, List.any_cons, any_map h x r, h.dec]
    by_cases h1 : y = x
    · subst h1; simp
    · have : ¬ x = y := fun z => h1 z.symm
      simp [h1, this]
theorem o_inT [DecidableEq α] (h : EqN n e) (hn : n ≤ 20) : Op2 oIn e (eT e) eB inW := fun x xs Q E R hr q =>
  ⟨h.plain x, plain_map h.plain xs, by have := h.deep x; omega, by rw [any_map h]; exact hr _ q⟩
theorem o_inL [DecidableEq α] (h : EqN n e) (hn : n ≤ 20) : Op2 oIn e (eL e) eB inW := fun x xs Q E R hr q =>
  ⟨h.plain x, plain_map h.plain xs, by have := h.deep x; omega, by rw [any_map h]; exact hr _ q⟩
theorem o_niT [DecidableEq α] (h : EqN n e) (hn : n ≤ 20) : Op2 oNotIn e (eT e) eB niW := fun x xs Q E R hr q =>
  ⟨h.plain x, plain_map h.plain xs, by have := h.deep x; omega, by rw [any_map h]; exact hr _ q⟩
theorem o_niL [DecidableEq α] (h : EqN n e) (hn : n ≤ 20) : Op2 oNotIn e (eL e) eB niW := fun x xs Q E R hr q =>
  ⟨h.plain x, plain_map h.plain xs, by have := h.deep x; omega, by rw [any_map h]; exact hr _ q⟩
/-- any value in data of one kind -/
def inA (x : D) (ys : List D) : W Bool := fun Q _ => (plainD x = true ∧ plainDL ys = true ∧ deep x ≤ 150) ∧ Q (ys.any fun z => eqD z x)
theorem o_inAT : Op2 oIn eA (eT e) eB (fun x xs => inA x (xs.map e)) := fun x xs Q E R hr q => ⟨q.1.1, q.1.2.1, q.1.2.2, hr _ q.2⟩
theorem o_inAL : Op2 oIn eA (eL e) eB (fun x xs => inA x (xs.map e)) := fun x xs Q E R hr q => ⟨q.1.1, q.1.2.1, q.1.2.2, hr _ q.2⟩
end
end Dl

set_option Elab.async false
set_option linter.all false
set_option maxRecDepth 100000
set_option maxHeartbeats 4000000
/-! Tl3: typed reading: iterables, comprehensions, calls, statements. -/
namespace Dl
open PySem PySem.Spec PyProof.Rows L2

section
variable {α β γ : Type} {ps : SPat} {da db : DT_} {e : α → D} {f : β → D} {g : γ → D} {u : DA_}
/-! ### iterables -/
theorem ti_T {w : W (List α)} (ha : TE ps da (eT e) w) : TI ps (dSeqI da) e w := fun env m Q E R hr q => ha env m _ E _ (fun xs q => hr xs q) q
theorem ti_L {w : W (List α)} (ha : TE ps da (eL e) w) : TI ps (dSeqI da) e w := fun env m Q E R hr q => ha env m _ E _ (fun xs q => hr xs q) q
def rgI (lo : Int) (n : Nat) : List Int := (List.range n).map fun (j : Nat) => lo + (j : Int)
theorem rgD_map (lo : Int) (n : Nat) : rgD lo n = (rgI lo n).map eI := by unfold rgD rgI; rw [List.map_map]; rfl
def rng1W (j : Int) : W (List Int) := fun Q _ => in62 j ∧ Q (rgI 0 j.toNat)
def rng2W (i j : Int) : W (List Int) := fun Q _ => (in62 i ∧ in62 j) ∧ Q (rgI i (j - i).toNat)
theorem ti_rng1 {w : W Int} (ha : TE ps da eI w) : TI ps (dRng1 (dCons da dNil)) eI (bindW w rng1W) := fun env m Q E R hr q =>
  ha env m _ E _ (fun j q => ⟨q.1, by have := hr _ q.2; rw [← rgD_map] at this; exact this⟩) q
theorem ti_rng2 {w w' : W Int} (ha : TE ps da eI w) (hb : TE ps db eI w') : TI ps (dRng2 (dCons da (dCons db dNil))) eI (bindW w fun i => bindW w' fun j => rng2W i j) := fun env m Q E R hr q =>
  ha env m _ E _ (fun i q => hb env m _ E _ (fun j q => ⟨q.1.1, q.1.2, by have := hr _ q.2; rw [← rgD_map] at this; exact this⟩) q) q
def enI (xs : List α) : List (Int × α) := xs.zipIdx.map fun p => ((p.2 : Int), p.1)
theorem enD_map (xs : List α) : enD (xs.map e) = (enI xs).map (eP eI e) := by
  unfold enD enI
  rw [List.map_map]
  apply List.ext_getElem?
  intro i
  rw [List.getElem?_map, List.getElem?_map, List.getElem?_zipIdx, List.length_map]
  by_cases h : i < xs.length
  · rw [List.getElem?_range h, List.getElem?_eq_getElem h]
    simp [eP, h]
  · rw [List.getElem?_eq_none_iff.mpr (by simpa using h), List.getElem?_eq_none_iff.mpr (by simpa using h)]; rfl
theorem ti_enT {w : W (List α)} (ha : TE ps da (eT e) w) : TI ps (dEnum (dCons da dNil)) (eP eI e) (bindW w fun xs => pureW (enI xs)) := fun env m Q E R hr q =>
  ha env m _ E _ (fun xs q => by have := hr _ q; rw [← enD_map] at this; exact this) q
theorem ti_enL {w : W (List α)} (ha : TE ps da (eL e) w) : TI ps (dEnum (dCons da dNil)) (eP eI e) (bindW w fun xs => pureW (enI xs)) := fun env m Q E R hr q =>
  ha env m _ E _ (fun xs q => by have := hr _ q; rw [← enD_map] at this; exact this) q
theorem zpD_zip : ∀ (l : List α) (m : List β), zpD (l.map e) (m.map f) = (l.zip m).map (eP e f)
  | [], _ => by simp [zpD]
  | _ :: _, [] => by simp [zpD]
  | a :: l, b :: m => by simp only [List.map_cons, zpD, List.zip_cons_cons, zpD_zip l m, eP]
/-- a sequence as data -/
def SqE (s : List α → D) (e : α → D) : Prop := ∀ xs, ∃ b, sqD (s xs) = some (b, xs.map e)
theorem sq_T : SqE (eT e) e := fun xs => ⟨false, rfl⟩
theorem sq_L : SqE (eL e) e := fun xs => ⟨true, rfl⟩
theorem ti_zip {s : List α → D} {t : List β → D} {w : W (List α)} {w' : W (List β)} (hs : SqE s e) (ht : SqE t f) (ha : TE ps da s w) (hb : TE ps db t w') : TI ps (dZip (dCons da (dCons db dNil))) (eP e f) (bindW w fun xs => bindW w' fun ys => pureW (xs.zip ys)) := fun env m Q E R hr q =>
  ha env m _ E _ (fun xs q => hb env m _ E _ (fun ys q => by
    obtain ⟨b, h1⟩ := hs xs
    obtain ⟨c, h2⟩ := ht ys
    have := hr _ q
    rw [← zpD_zip] at this
    show match sqD (s xs), sqD (t ys) with | some (_, xs), some (_, ys) => Q (zpD xs ys) | _, _ => False
    rw [h1, h2]; exact this) q) q
/-! ### targets -/
theorem tg_name (i : Nat) {d : D} : TG ps (dgName i) d (ps.set i (some (.v d))) := fun env Q m k => k _ (m.set i (.v d))
theorem tgs_nil : TGs ps dgNil [] ps := fun env Q m k => k _ m
theorem tgs_cons {dg : DG_} {us : List D → Env' → (Env' → Prop) → Prop} {x : D} {xs : List D} {ps1 ps2 : SPat} (h1 : TG ps dg x ps1) (h2 : TGs ps1 us xs ps2) : TGs ps (dgCons dg us) (x :: xs) ps2 := fun env Q m k =>
  h1 env _ m fun env1 m1 => h2 env1 Q m1 k
theorem tg_tup {n : Nat} {us : List D → Env' → (Env' → Prop) → Prop} {xs : List D} {ps1 : SPat} (hn : xs.length = n) (h : TGs ps us xs ps1) : TG ps (dgTup n us) (.tp xs) ps1 := fun env Q m k => ⟨hn, h env Q m k⟩
theorem tg_lst {n : Nat} {us : List D → Env' → (Env' → Prop) → Prop} {xs : List D} {ps1 : SPat} (hn : xs.length = n) (h : TGs ps us xs ps1) : TG ps (dgLst n us) (.ls xs) ps1 := fun env Q m k => ⟨hn, h env Q m k⟩
/-! ### comprehensions -/
def lcP (t : α → W Bool) (h : α → W β) (E : EK) : List α → List β → (List β → Prop) → Prop
  | [], acc, Q => Q acc
  | x :: xs, acc, Q => t x (fun b => if b = true then h x (fun y => lcP t h E xs (acc ++ [y]) Q) E else lcP t h E xs acc Q) E
def lcW (t : α → W Bool) (h : α → W β) (xs : List α) : W (List β) := fun Q _ => xs.length ≤ sizeLine ∧ lcP t h (fun _ => False) xs [] Q
theorem lcD_P {dg : DG_} {tt : DB_} {te : DT_} {env : Env'} {Q : List D → Prop} {R : List β → Prop} {t : α → W Bool} {h : α → W β} {ps : SPat} {ps1 : α → SPat} (hg : ∀ x, TG ps dg (e x) (ps1 x)) (ht : ∀ x, TB (ps1 x) tt (t x)) (hh : ∀ x, TE (ps1 x) te f (h x)) (m : Me ps env)
    (hr : ∀ ys, R ys → Q (ys.map f)) : ∀ (xs : List α) (acc : List β), acc.length + xs.length ≤ sizeLine → lcP t h (fun _ => False) xs acc R → lcD dg tt te env (fun _ => False) Q (xs.map e) (acc.map f)
  | [], acc, _, q => hr acc q
  | x :: xs, acc, hl, q => by
    have hl' : acc.length + (xs.length + 1) ≤ sizeLine := by simpa using hl
    rw [List.map_cons]
    show dg (e x) env fun env1 => tt env1 (fun b => match b with | true => te env1 (fun y => (acc.map f).length < sizeLine ∧ lcD dg tt te env (fun _ => False) Q (xs.map e) (acc.map f ++ [y])) (fun _ => False) | false => lcD dg tt te env (fun _ => False) Q (xs.map e) (acc.map f)) (fun _ => False)
    refine hg x env _ m fun env1 m1 => ht x env1 m1 _ _ _ (fun b qb => ?_) q
    cases b with
    | true =>
      refine hh x env1 m1 _ _ (fun y => lcP t h (fun _ => False) xs (acc ++ [y]) R) (fun y qy => ⟨by rw [List.length_map]; omega, ?_⟩) (by simpa using qb)
      have := lcD_P hg ht hh m hr xs (acc ++ [y]) (by simp; omega) qy
      rw [List.map_append] at this
      exact this
    | false => exact lcD_P hg ht hh m hr xs acc (by omega) (by simpa using qb)
theorem tn_lc {di : DI_} {dg : DG_} {tt : DB_} {te : DT_} {vs : List Nat} {w : W (List α)} {t : α → W Bool} {h : α → W β} {ps1 : α → SPat} (hi : TI ps di e w) (hg : ∀ x, TG (wipeP ps vs) dg (e x) (ps1 x)) (ht : ∀ x, TB (ps1 x) tt (t x)) (hh : ∀ x, TE (ps1 x) te f (h x)) :
    TN ps (dLc di dg tt te vs) f (bindW w fun xs => lcW t h xs) := fun env m Q E R hr q =>
  hi env m _ E _ (fun xs q => lcD_P hg ht hh (m.wipe vs) hr xs [] (by simpa using q.1) q.2) q
theorem co_mapL (x : List α) : eL e x = eL eA (x.map e) := by unfold eL; rw [List.map_map]; rfl
theorem co_mapT (x : List α) : eT e x = eT eA (x.map e) := by unfold eT; rw [List.map_map]; rfl
theorem te_dic0 : TE ps dDic0 eA (pureW (D.dc [])) := fun env m Q E R hr q => hr _ q
theorem te_dic1 (k : Str) {w : W D} (ha : TE ps da eA w) : TE ps (dDic1 k da) eA (bindW w fun x => pureW (D.dc [(.inr k, x)])) := fun env m Q E R hr q => ha env m _ E _ (fun x q => hr _ q) q
theorem ni_T (x : List α) (j : Int) : eT e x ≠ .it j := fun h => by unfold eT at h; cases h
theorem ni_L (x : List α) (j : Int) : eL e x ≠ .it j := fun h => by unfold eL at h; cases h
theorem ni_P (x : α × β) (j : Int) : eP e f x ≠ .it j := fun h => by unfold eP at h; cases h
theorem ni_3 (x : α × β × γ) (j : Int) : e3 e f g x ≠ .it j := fun h => by unfold e3 at h; cases h
theorem ni_B (x : Bool) (j : Int) : eB x ≠ .it j := fun h => by cases h
theorem ni_S (x : Str) (j : Int) : eS x ≠ .it j := fun h => by cases h
theorem ni_O (h : ∀ x j, e x ≠ .it j) (x : Option α) (j : Int) : eO e x ≠ .it j := fun k => by
  cases x with
  | none => cases k
  | some y => exact h y j k
theorem lf_I (x : Int) : lfD (eI x) = true := rfl
theorem lf_B (x : Bool) : lfD (eB x) = true := rfl
theorem lf_S (x : Str) : lfD (eS x) = true := rfl
theorem lf_N (x : Unit) : lfD (eN x) = true := rfl
theorem lf_L_map (h : ∀ x, lfD (e x) = true) : ∀ xs : List α, lfL (xs.map e) = true
  | [] => rfl
  | x :: r => by simp only [List.map_cons, lfL, h x, lf_L_map h r, Bool.and_self]
theorem lf_T (h : ∀ x, lfD (e x) = true) (x : List α) : lfD (eT e x) = true := by simp only [eT, lfD]; exact lf_L_map h x
theorem lf_O (h : ∀ x, lfD (e x) = true) (x : Option α) : lfD (eO e x) = true := by cases x with | none => rfl | some y => exact h y
theorem lf_P (h : ∀ x, lfD (e x) = true) (k : ∀ x, lfD (f x) = true) (x : α × β) : lfD (eP e f x) = true := by simp only [eP, lfD, lfL, h, k, Bool.and_self]
theorem lf_3 (h : ∀ x, lfD (e x) = true) (k : ∀ x, lfD (f x) = true) (l : ∀ x, lfD (g x) = true) (x : α × β × γ) : lfD (e3 e f g x) = true := by simp only [e3, lfD, lfL, h, k, l, Bool.and_self]
theorem te_frz {dn : DN_} {w : W (List α)} (h : TN ps dn e w) : TE ps (dFrz dn) (eL e) w := fun env m Q E R hr q => h env m _ E R (fun xs q => hr xs q) q
theorem tn_lst {w : W (List α)} (h : TL ps u e w) : TN ps (dLstN u) e (bindW w szW) := fun env m Q E R hr q => h env m _ E _ (fun xs q => ⟨by rw [List.length_map]; exact q.1, hr xs q.2⟩) q
theorem tn_cat {w w' : W (List α)} (ha : TE ps da (eL e) w) (hb : TE ps db (eL e) w') : TN ps (dCatN da db) e (bindW w fun x => bindW w' fun y => catW x y) := fun env m Q E R hr q =>
  ha env m _ E _ (fun x q => hb env m _ E _ (fun y q => ⟨by simpa using q.1, by have := hr _ q.2; rw [List.map_append] at this; exact this⟩) q) q
theorem tn_rep {w : W (List α)} {w' : W Int} (ha : TE ps da (eL e) w) (hb : TE ps db eI w') : TN ps (dRepN da db) e (bindW w fun x => bindW w' fun y => repL x y) := fun env m Q E R hr q =>
  ha env m _ E _ (fun x q => hb env m _ E _ (fun y q => ⟨q.1.1, q.1.2.1, by simpa using q.1.2.2, by have := hr _ q.2; rw [map_rep] at this; exact this⟩) q) q
theorem tn_listT {w : W (List α)} (ha : TE ps da (eT e) w) : TN ps (dListN (dCons da dNil)) e w := fun env m Q E R hr q => ha env m _ E R (fun xs q => hr xs q) q
theorem tn_listL {w : W (List α)} (ha : TE ps da (eL e) w) : TN ps (dListN (dCons da dNil)) e w := fun env m Q E R hr q => ha env m _ E R (fun xs q => hr xs q) q
/-! ### lists of one's own that are lent -/
/-- errors are not told -/
def NoE (w : W α) : Prop := ∀ Q E E', w Q E → w Q E'
theorem te_lend (i : Nat) {xs : List β} {w : W α} (h : ps[i]? = some (some (.own (xs.map f)))) (hl : ∀ x, lfD (e x) = true) (hw : NoE w) (ha : TE (ps.set i (some (.v (eL f xs)))) da e w) : TE ps (dLend i da) e w := fun env m Q E R hr q => by
  unfold dLend
  rw [m.at_ i _ h]
  exact ha _ (m.set i _) _ _ R (fun r q => ⟨hl r, hr r q⟩) (hw _ _ _ q)
theorem tb_lend (i : Nat) {xs : List β} {t : DB_} {w : W Bool} (h : ps[i]? = some (some (.own (xs.map f)))) (hw : NoE w) (ha : TB (ps.set i (some (.v (eL f xs)))) t w) : TB ps (dbLend i t) w := fun env m Q E R hr q => by
  unfold dbLend
  rw [m.at_ i _ h]
  exact ha _ (m.set i _) _ _ R hr (hw _ _ _ q)
theorem te_call0 {ρ : Type} {er : ρ → D} {sp : SpD} {t : W ρ} (h : ∀ (Q : DK) E (R : ρ → Prop), (∀ r, R r → Q (er r)) → t R E → sp [] Q E) : TE ps (dCall sp dNil) er t := fun env m Q E R hr q => h Q E R hr q
theorem te_call1 {ρ : Type} {er : ρ → D} {sp : SpD} {α0 : Type} {e0 : α0 → D} {d0 : DT_} {w0 : W α0} {t : α0 → W ρ} (h : ∀ x0 (Q : DK) E (R : ρ → Prop), (∀ r, R r → Q (er r)) → t x0 R E → sp [e0 x0] Q E)
    (a0 : TE ps d0 e0 w0) : TE ps (dCall sp (dCons d0 dNil)) er (bindW w0 fun x0 => t x0) := fun env m Q E R hr q => a0 env m _ E _ (fun x0 q => h x0 Q E R hr q) q
theorem te_call2 {ρ : Type} {er : ρ → D} {sp : SpD} {α0 : Type} {e0 : α0 → D} {d0 : DT_} {w0 : W α0} {α1 : Type} {e1 : α1 → D} {d1 : DT_} {w1 : W α1} {t : α0 → α1 → W ρ} (h : ∀ x0 x1 (Q : DK) E (R : ρ → Prop), (∀ r, R r → Q (er r)) → t x0 x1 R E → sp [e0 x0, e1 x1] Q E)
    (a0 : TE ps d0 e0 w0) (a1 : TE ps d1 e1 w1) : TE ps (dCall sp (dCons d0 (dCons d1 dNil))) er (bindW w0 fun x0 => bindW w1 fun x1 => t x0 x1) := fun env m Q E R hr q => a0 env m _ E _ (fun x0 q => a1 env m _ E _ (fun x1 q => h x0 x1 Q E R hr q) q) q
theorem te_call3 {ρ : Type} {er : ρ → D} {sp : SpD} {α0 : Type} {e0 : α0 → D} {d0 : DT_} {w0 : W α0} {α1 : Type} {e1 : α1 → D} {d1 : DT_} {w1 : W α1} {α2 : Type} {e2 : α2 → D} {d2 : DT_} {w2 : W α2} {t : α0 → α1 → α2 → W ρ} (h : ∀ x0 x1 x2 (Q : DK) E (R : ρ → Prop), (∀ r, R r → Q (er r)) → t x0 x1 x2 R E → sp [e0 x0, e1 x1, e2 x2] Q E)
    (a0 : TE ps d0 e0 w0) (a1 : TE ps d1 e1 w1) (a2 : TE ps d2 e2 w2) : TE ps (dCall sp (dCons d0 (dCons d1 (dCons d2 dNil)))) er (bindW w0 fun x0 => bindW w1 fun x1 => bindW w2 fun x2 => t x0 x1 x2) := fun env m Q E R hr q => a0 env m _ E _ (fun x0 q => a1 env m _ E _ (fun x1 q => a2 env m _ E _ (fun x2 q => h x0 x1 x2 Q E R hr q) q) q) q
theorem te_call4 {ρ : Type} {er : ρ → D} {sp : SpD} {α0 : Type} {e0 : α0 → D} {d0 : DT_} {w0 : W α0} {α1 : Type} {e1 : α1 → D} {d1 : DT_} {w1 : W α1} {α2 : Type} {e2 : α2 → D} {d2 : DT_} {w2 : W α2} {α3 : Type} {e3 : α3 → D} {d3 : DT_} {w3 : W α3} {t : α0 → α1 → α2 → α3 → W ρ} (h : ∀ x0 x1 x2 x3 (Q : DK) E (R : ρ → Prop), (∀ r, R r → Q (er r)) → t x0 x1 x2 x3 R E → sp [e0 x0, e1 x1, e2 x2, e3 x3] Q E)
    (a0 : TE ps d0 e0 w0) (a1 : TE ps d1 e1 w1) (a2 : TE ps d2 e2 w2) (a3 : TE ps d3 e3 w3) : TE ps (dCall sp (dCons d0 (dCons d1 (dCons d2 (dCons d3 dNil))))) er (bindW w0 fun x0 => bindW w1 fun x1 => bindW w2 fun x2 => bindW w3 fun x3 => t x0 x1 x2 x3) := fun env m Q E R hr q => a0 env m _ E _ (fun x0 q => a1 env m _ E _ (fun x1 q => a2 env m _ E _ (fun x2 q => a3 env m _ E _ (fun x3 q => h x0 x1 x2 x3 Q E R hr q) q) q) q) q
theorem te_call5 {ρ : Type} {er : ρ → D} {sp : SpD} {α0 : Type} {e0 : α0 → D} {d0 : DT_} {w0 : W α0} {α1 : Type} {e1 : α1 → D} {d1 : DT_} {w1 : W α1} {α2 : Type} {e2 : α2 → D} {d2 : DT_} {w2 : W α2} {α3 : Type} {e3 : α3 → D} {d3 : DT_} {w3 : W α3} {α4 : Type} {e4 : α4 → D} {d4 : DT_} {w4 : W α4} {t : α0 → α1 → α2 → α3 → α4 → W ρ} (h : ∀ x0 x1 x2 x3 x4 (Q : DK) E (R : ρ → Prop), (∀ r, R r → Q (er r)) → t x0 x1 x2 x3 x4 R E → sp [e0 x0, e1 x1, e2 x2, e3 x3, e4 x4] Q E)
    (a0 : TE ps d0 e0 w0) (a1 : TE ps d1 e1 w1) (a2 : TE ps d2 e2 w2) (a3 : TE ps d3 e3 w3) (a4 : TE ps d4 e4 w4) : TE ps (dCall sp (dCons d0 (dCons d1 (dCons d2 (dCons d3 (dCons d4 dNil)))))) er (bindW w0 fun x0 => bindW w1 fun x1 => bindW w2 fun x2 => bindW w3 fun x3 => bindW w4 fun x4 => t x0 x1 x2 x3 x4) := fun env m Q E R hr q => a0 env m _ E _ (fun x0 q => a1 env m _ E _ (fun x1 q => a2 env m _ E _ (fun x2 q => a3 env m _ E _ (fun x3 q => a4 env m _ E _ (fun x4 q => h x0 x1 x2 x3 x4 Q E R hr q) q) q) q) q) q
theorem te_call6 {ρ : Type} {er : ρ → D} {sp : SpD} {α0 : Type} {e0 : α0 → D} {d0 : DT_} {w0 : W α0} {α1 : Type} {e1 : α1 → D} {d1 : DT_} {w1 : W α1} {α2 : Type} {e2 : α2 → D} {d2 : DT_} {w2 : W α2} {α3 : Type} {e3 : α3 → D} {d3 : DT_} {w3 : W α3} {α4 : Type} {e4 : α4 → D} {d4 : DT_} {w4 : W α4} {α5 : Type} {e5 : α5 → D} {d5 : DT_} {w5 : W α5} {t : α0 → α1 → α2 → α3 → α4 → α5 → W ρ} (h : ∀ x0 x1 x2 x3 x4 x5 (Q : DK) E (R : ρ → Prop), (∀ r, R r → Q (er r)) → t x0 x1 x2 x3 x4 x5 R E → sp [e0 x0, e1 x1, e2 x2, e3 x3, e4 x4, e5 x5] Q E)
    (a0 : TE ps d0 e0 w0) (a1 : TE ps d1 e1 w1) (a2 : TE ps d2 e2 w2) (a3 : TE ps d3 e3 w3) (a4 : TE ps d4 e4 w4) (a5 : TE ps d5 e5 w5) : TE ps (dCall sp (dCons d0 (dCons d1 (dCons d2 (dCons d3 (dCons d4 (dCons d5 dNil))))))) er (bindW w0 fun x0 => bindW w1 fun x1 => bindW w2 fun x2 => bindW w3 fun x3 => bindW w4 fun x4 => bindW w5 fun x5 => t x0 x1 x2 x3 x4 x5) := fun env m Q E R hr q => a0 env m _ E _ (fun x0 q => a1 env m _ E _ (fun x1 q => a2 env m _ E _ (fun x2 q => a3 env m _ E _ (fun x3 q => a4 env m _ E _ (fun x4 q => a5 env m _ E _ (fun x5 q => h x0 x1 x2 x3 x4 x5 Q E R hr q) q) q) q) q) q) q
theorem te_call7 {ρ : Type} {er : ρ → D} {sp : SpD} {α0 : Type} {e0 : α0 → D} {d0 : DT_} {w0 : W α0} {α1 : Type} {e1 : α1 → D} {d1 : DT_} {w1 : W α1} {α2 : Type} {e2 : α2 → D} {d2 : DT_} {w2 : W α2} {α3 : Type} {e3 : α3 → D} {d3 : DT_} {w3 : W α3} {α4 : Type} {e4 : α4 → D} {d4 : DT_} {w4 : W α4} {α5 : Type} {e5 : α5 → D} {d5 : DT_} {w5 : W α5} {α6 : Type} {e6 : α6 → D} {d6 : DT_} {w6 : W α6} {t : α0 → α1 → α2 → α3 → α4 → α5 → α6 → W ρ} (h : ∀ x0 x1 x2 x3 x4 x5 x6 (Q : DK) E (R : ρ → Prop), (∀ r, R r → Q (er r)) → t x0 x1 x2 x3 x4 x5 x6 R E → sp [e0 x0, e1 x1, e2 x2, e3 x3, e4 x4, e5 x5, e6 x6] Q E)
    (a0 : TE ps d0 e0 w0) (a1 : TE ps d1 e1 w1) (a2 : TE ps d2 e2 w2) (a3 : TE ps d3 e3 w3) (a4 : TE ps d4 e4 w4) (a5 : TE ps d5 e5 w5) (a6 : TE ps d6 e6 w6) : TE ps (dCall sp (dCons d0 (dCons d1 (dCons d2 (dCons d3 (dCons d4 (dCons d5 (dCons d6 dNil)))))))) er (bindW w0 fun x0 => bindW w1 fun x1 => bindW w2 fun x2 => bindW w3 fun x3 => bindW w4 fun x4 => bindW w5 fun x5 => bindW w6 fun x6 => t x0 x1 x2 x3 x4 x5 x6) := fun env m Q E R hr q => a0 env m _ E _ (fun x0 q => a1 env m _ E _ (fun x1 q => a2 env m _ E _ (fun x2 q => a3 env m _ E _ (fun x3 q => a4 env m _ E _ (fun x4 q => a5 env m _ E _ (fun x5 q => a6 env m _ E _ (fun x6 q => h x0 x1 x2 x3 x4 x5 x6 Q E R hr q) q) q) q) q) q) q) q
end
/-! ### statements -/
/-- P: what is wanted, in words of the values; De: the ends over data -/
def TS (ps : SPat) (d : DS_) (De : DEnds) (P : Prop) : Prop := ∀ env, Me ps env → P → d De env
def NX {σ : Type} (nx : Env' → Prop) (psJ : σ → SPat) (K : σ → Prop) : Prop := ∀ s env, Me (psJ s) env → K s → nx env
section
variable {α β γ σ τ : Type} {ps : SPat} {de di : DT_} {d u d1 d2 : DS_} {De : DEnds} {e : α → D} {f : β → D} {w : W α} {w' : W β} {P : Prop} {psJ psL : σ → SPat} {K : σ → Prop}
def bindP (w : W α) (k : α → Prop) (E : EK) : Prop := w k E
def ifP (b : Bool) (P Q : Prop) : Prop := if b = true then P else Q
def joinP (f : (σ → Prop) → Prop) (k : σ → Prop) : Prop := f k
theorem ts_fall (h : NX De.nx psJ K) (s : σ) (hs : PSub (psJ s) ps) : TS ps dNext De (K s) := fun env m p => h s env (m.sub hs) p
theorem ts_brk (h : NX De.bk psJ K) (s : σ) (hs : PSub (psJ s) ps) : TS ps dBreak De (K s) := fun env m p => h s env (m.sub hs) p
theorem ts_cnt (h : NX De.ct psJ K) (s : σ) (hs : PSub (psJ s) ps) : TS ps dContinue De (K s) := fun env m p => h s env (m.sub hs) p
/-- the def's end without return -/
theorem ts_end (h : P → ∀ env, De.nx env) : TS ps dNext De P := fun env m p => h p env
theorem ts_last (h : TS ps (dSeq d dNext) De P) : TS ps d De P := fun env m p => h env m p
theorem ts_nx (h : TS ps u De P) : TS ps (dSeq dNext u) De P := fun env m p => h env m p
/-- what comes behind is never reached by falling through -/
theorem ts_seq0 (h : TS ps d { De with nx := u De } P) : TS ps (dSeq d u) De P := fun env m p => h env m p
theorem ts_ret {R : α → Prop} (hr : ∀ r, R r → De.rt (e r)) (h : TE ps de e w) : TS ps (dRet de) De (w R De.ex) := fun env m p => h env m _ _ _ hr p
theorem ts_via (h : TS ps u De P) : TS ps dNext { De with nx := u De } P := fun env m p => h env m p
theorem ts_retN : TS ps dRetN De (De.rt .non) := fun env m p => p
theorem ts_set (i : Nat) {k : α → Prop} (h : TE ps de e w) (hk : ∀ x, TS (ps.set i (some (.v (e x)))) u De (k x)) : TS ps (dSeq (dSet i de) u) De (bindP w k De.ex) := fun env m p =>
  h env m _ _ _ (fun x q => hk x _ (m.set i _) q) p
theorem ts_setN (i : Nat) {k : List α → Prop} {dn : DN_} {w : W (List α)} (h : TN ps dn e w) (hk : ∀ x, TS (ps.set i (some (.v (eL e x)))) u De (k x)) : TS ps (dSeq (dSetN i dn) u) De (bindP w k De.ex) := fun env m p =>
  h env m _ _ _ (fun x q => hk x _ (m.set i (.v (.ls (x.map e)))) q) p
theorem ts_setO (i : Nat) {k : List α → Prop} {dn : DN_} {w : W (List α)} (h : TN ps dn e w) (hk : ∀ x, TS (ps.set i (some (.own (x.map e)))) u De (k x)) : TS ps (dSeq (dSetO i dn) u) De (bindP w k De.ex) := fun env m p =>
  h env m _ _ _ (fun x q => hk x _ (m.set i _) q) p
theorem ts_drop {k : α → Prop} (h : TE ps de e w) (hk : ∀ x, TS ps u De (k x)) : TS ps (dSeq (dDrop de) u) De (bindP w k De.ex) := fun env m p =>
  h env m _ _ _ (fun x q => hk x _ m q) p
theorem ts_asg {k : α → Prop} {dg : DG_} {ps1 : α → SPat} (h : TE ps de e w) (hg : ∀ x, TG ps dg (e x) (ps1 x)) (hk : ∀ x, TS (ps1 x) u De (k x)) : TS ps (dSeq (dAsg de dg) u) De (bindP w k De.ex) := fun env m p =>
  h env m _ _ _ (fun x q => hg x _ _ m fun env1 m1 => hk x env1 m1 q) p
theorem ts_par (i j : Nat) {d1 d2 : DT_} {k : α → β → Prop} (h : TE ps d1 e w) (h' : TE ps d2 f w') (hk : ∀ x y, TS ((ps.set i (some (.v (e x)))).set j (some (.v (f y)))) u De (k x y)) :
    TS ps (dSeq (dPar i j (dCons d1 (dCons d2 dNil))) u) De (bindP w (fun x => bindP w' (fun y => k x y) De.ex) De.ex) := fun env m p =>
  h env m _ _ _ (fun x q => h' env m _ _ _ (fun y q => hk x y _ ((m.set i _).set j _) q) q) p
theorem ts_parO (i j : Nat) {dn : DN_} {d2 : DT_} {w : W (List α)} {k : List α → β → Prop} (h : TN ps dn e w) (h' : TE ps d2 f w') (hk : ∀ x y, TS ((ps.set i (some (.own (x.map e)))).set j (some (.v (f y)))) u De (k x y)) :
    TS ps (dSeq (dParO i j dn d2) u) De (bindP w (fun x => bindP w' (fun y => k x y) De.ex) De.ex) := fun env m p =>
  h env m _ _ _ (fun x q => h' env m _ _ _ (fun y q => hk x y _ ((m.set i _).set j _) q) q) p
def appP (xs : List α) (P : Prop) : Prop := xs.length < sizeLine ∧ P
theorem ts_app (i : Nat) {xs : List α} {k : α → Prop} (hp : ps[i]? = some (some (.own (xs.map e)))) (h : TE ps de e w) (hk : ∀ x, TS (ps.set i (some (.own ((xs ++ [x]).map e)))) u De (k x)) : TS ps (dSeq (dApp i de) u) De (bindP w (fun x => appP xs (k x)) De.ex) := fun env m p => by
  show dApp i de _ env
  unfold dApp
  rw [m.at_ i _ hp]
  exact h env m _ _ _ (fun x q => ⟨by rw [List.length_map]; exact q.1, by
    have := hk x _ (m.set i _) q.2
    rw [List.map_append] at this; exact this⟩) p
def setixP (xs : List α) (k : Int) (y : α) (P : List α → Prop) : Prop := ∃ j, ixN xs.length k = some j ∧ P (xs.set j y)
theorem ts_setix (i : Nat) {xs : List α} {wi : W Int} {k : List α → Prop} (hp : ps[i]? = some (some (.own (xs.map e)))) (h : TE ps de e w) (h' : TE ps di eI wi) (hk : ∀ ys : List α, TS (ps.set i (some (.own (ys.map e)))) u De (k ys)) :
    TS ps (dSeq (dSetIx i di de) u) De (bindP w (fun y => bindP wi (fun j => setixP xs j y k) De.ex) De.ex) := fun env m p => by
  show dSetIx i di de _ env
  unfold dSetIx
  rw [m.at_ i _ hp]
  refine h env m _ _ _ (fun y q => h' env m _ _ _ (fun j q => ?_) q) p
  obtain ⟨n, h1, h2⟩ := q
  show match ixN (xs.map e).length j with | some j => _ | none => False
  rw [List.length_map, h1]
  have := hk _ _ (m.set i _) h2
  rw [List.map_set] at this
  exact this
def augixP (xs : List Int) (k : Int) (P : Nat → Int → Prop) : Prop := ∃ j n, ixN xs.length k = some j ∧ xs[j]? = some n ∧ P j n
theorem ts_augix (i : Nat) {op : Int → Int → Int} {xs : List Int} {w wi : W Int} {k : List Int → Prop} (hp : ps[i]? = some (some (.own (xs.map eI)))) (h' : TE ps di eI wi) (h : TE ps de eI w) (hk : ∀ ys : List Int, TS (ps.set i (some (.own (ys.map eI)))) u De (k ys)) :
    TS ps (dSeq (dAugIx i op di de) u) De (bindP wi (fun j => augixP xs j fun t n => bindP w (fun y => k (xs.set t (op n y))) De.ex) De.ex) := fun env m p => by
  show dAugIx i op di de _ env
  unfold dAugIx
  rw [m.at_ i _ hp]
  refine h' env m _ _ _ (fun j q => ?_) p
  obtain ⟨t, n, h1, h2, h3⟩ := q
  show match ixN (xs.map eI).length j with | some j => _ | none => False
  rw [List.length_map, h1]
  show match (xs.map eI)[t]? with | some (.it n) => _ | _ => False
  rw [List.getElem?_map, h2]
  refine h env m _ _ _ (fun y q => ?_) h3
  have := hk _ _ (m.set i _) q
  rw [List.map_set] at this
  exact this
theorem ts_aug (i : Nat) {op : Int → Int → Int} {n : Int} {w : W Int} {k : Int → Prop} (hp : ps[i]? = some (some (.v (.it n)))) (h : TE ps de eI w) (hk : ∀ x, TS (ps.set i (some (.v (.it (op n x))))) u De (k x)) : TS ps (dSeq (dAug i op de) u) De (bindP w k De.ex) := fun env m p => by
  show dAug i op de _ env
  unfold dAug
  rw [m.at_ i _ hp]
  exact h env m _ _ _ (fun x q => hk x _ (m.set i _) q) p
theorem ts_frz (i : Nat) {xs : List α} (hp : ps[i]? = some (some (.own (xs.map e)))) (h : TS (ps.set i (some (.v (eL e xs)))) (dSeq d u) De P) : TS ps (dSeq (dFrzS i d) u) De P := fun env m p => by
  show dFrzS i d _ env
  unfold dFrzS
  rw [m.at_ i _ hp]
  exact h _ (m.set i _) p
theorem ts_frz1 (i : Nat) {xs : List α} (hp : ps[i]? = some (some (.own (xs.map e)))) (h : TS (ps.set i (some (.v (eL e xs)))) d De P) : TS ps (dFrzS i d) De P := fun env m p => by
  unfold dFrzS
  rw [m.at_ i _ hp]
  exact h _ (m.set i _) p
theorem ts_if {t : DB_} {wt : W Bool} {P Q : Prop} (ht : TB ps t wt) (h1 : TS ps d1 De P) (h2 : TS ps d2 De Q) : TS ps (dIfS t d1 d2) De (bindP wt (fun b => ifP b P Q) De.ex) := fun env m p =>
  ht env m _ _ _ (fun b q => by
    cases b with
    | true => exact h1 env m (by simpa [ifP] using q)
    | false => exact h2 env m (by simpa [ifP] using q)) p
/-- ways that come together again -/
theorem ts_join (F : (σ → Prop) → Prop) {k : σ → Prop} (psJ : σ → SPat) (hr : ∀ s, TS (psJ s) u De (k s)) (h : NX (u De) psJ k → TS ps d { De with nx := u De } (F k)) : TS ps (dSeq d u) De (joinP F k) := fun env m p =>
  h (fun s env m q => hr s env m q) env m p
def forP (body : α → σ → (σ → Prop) → (σ → Prop) → Prop) (K : σ → Prop) : List α → σ → Prop
  | [], s => K s
  | x :: xs, s => body x s (forP body K xs) K
theorem forD_P {dg : DG_} {db : DS_} {body : α → σ → (σ → Prop) → (σ → Prop) → Prop} {ps1 : α → σ → SPat} (hg : ∀ x s, TG (psL s) dg (e x) (ps1 x s))
    (hb : ∀ x s (N : σ → Prop) (nx : Env' → Prop), NX nx psL N → TS (ps1 x s) db { De with nx := nx, ct := nx, bk := De.nx } (body x s N K)) (hk : NX De.nx psL K) : ∀ (xs : List α) (s : σ) (env : Env'), Me (psL s) env → forP body K xs s → forD dg db De (xs.map e) env
  | [], s, env, m, p => hk s env m p
  | x :: xs, s, env, m, p => by
    rw [List.map_cons]
    show dg (e x) env fun env1 => db { De with nx := forD dg db De (xs.map e), ct := forD dg db De (xs.map e), bk := De.nx } env1
    exact hg x s env _ m fun env1 m1 => hb x s _ _ (fun s' env' m' q => forD_P hg hb hk xs s' env' m' q) env1 m1 p
theorem ts_for {dI : DI_} {dg : DG_} {db : DS_} {wi : W (List α)} {body : α → σ → (σ → Prop) → (σ → Prop) → Prop} {ps1 : α → σ → SPat} (psL : σ → SPat) (s0 : σ) (hi : TI ps dI e wi) (hs : PSub (psL s0) ps) (hg : ∀ x s, TG (psL s) dg (e x) (ps1 x s))
    (hb : ∀ x s (N : σ → Prop) (nx : Env' → Prop), NX nx psL N → TS (ps1 x s) db { De with nx := nx, ct := nx, bk := u De } (body x s N K)) (hr : ∀ s, TS (psL s) u De (K s)) :
    TS ps (dSeq (dFor dI dg db) u) De (bindP wi (fun xs => forP body K xs s0) De.ex) := fun env m p =>
  hi env m _ _ _ (fun xs q => forD_P (De := { De with nx := u De }) hg hb (fun s env m q => hr s env m q) xs s0 env (m.sub hs) q) p
def whileP (c : σ → W Bool) (body : σ → (σ → Prop) → (σ → Prop) → Prop) (K : σ → Prop) (E : EK) (s0 : σ) : Prop :=
  ∃ M : Nat → σ → Prop, (∃ m, M m s0) ∧ ∀ m s, M m s → c s (fun b => if b = true then body s (fun s' => ∃ m', m' < m ∧ M m' s') K else K s) E
theorem ts_while {t : DB_} {db : DS_} {c : σ → W Bool} {body : σ → (σ → Prop) → (σ → Prop) → Prop} (psL : σ → SPat) (s0 : σ) (hs : PSub (psL s0) ps) (ht : ∀ s, TB (psL s) t (c s))
    (hb : ∀ s (N : σ → Prop) (nx : Env' → Prop), NX nx psL N → TS (psL s) db { De with nx := nx, ct := nx, bk := u De } (body s N K)) (hr : ∀ s, TS (psL s) u De (K s)) :
    TS ps (dSeq (dWhile t db) u) De (whileP c body K De.ex s0) := fun env m p => by
  obtain ⟨M, ⟨n, h0⟩, hM⟩ := p
  refine ⟨fun n env => ∃ s, Me (psL s) env ∧ M n s, ⟨n, s0, m.sub hs, h0⟩, fun n env h => ?_⟩
  obtain ⟨s, ms, h⟩ := h
  refine ht s env ms _ _ _ (fun b q => ?_) (hM n s h)
  cases b with
  | true => exact hb s (fun s' => ∃ m', m' < n ∧ M m' s') _ (fun s' env' m' q => by
      obtain ⟨n', lt, q⟩ := q
      exact ⟨n', lt, s', m', q⟩) env ms (by simpa using q)
  | false => exact hr s env ms (by simpa using q)
end
end Dl

set_option Elab.async false
set_option linter.all false
set_option maxRecDepth 100000
set_option maxHeartbeats 4000000
/-! Tl4: typed reading of zip of three, extend, index, str, list(range), sorted, pop. -/
namespace Dl
open PySem PySem.Spec PyProof.Rows L2
section
variable {α β γ : Type} {ps : SPat} {da db dc : DT_} {e : α → D} {f : β → D} {g : γ → D} {u : DA_}
def zip3 (xs : List α) (ys : List β) (zs : List γ) : List (α × β × γ) := xs.zip (ys.zip zs)
theorem zp3_zip : ∀ (l : List α) (m : List β) (n : List γ), zp3D (l.map e) (m.map f) (n.map g) = (zip3 l m n).map (e3 e f g)
  | [], _, _ => by simp [zp3D, zip3]
  | _ :: _, [], _ => by simp [zp3D, zip3]
  | _ :: _, _ :: _, [] => by simp [zp3D, zip3]
  | a :: l, b :: m, c :: n => by
    have ih := zp3_zip l m n
    unfold zip3 at ih ⊢
    simp only [List.map_cons, zp3D, List.zip_cons_cons, ih, e3]
theorem ti_zip3 {s : List α → D} {t : List β → D} {r : List γ → D} {w : W (List α)} {w' : W (List β)} {w'' : W (List γ)} (hs : SqE s e) (ht : SqE t f) (hr' : SqE r g) (ha : TE ps da s w) (hb : TE ps db t w') (hc : TE ps dc r w'') :
    TI ps (dZip3 (dCons da (dCons db (dCons dc dNil)))) (e3 e f g) (bindW w fun xs => bindW w' fun ys => bindW w'' fun zs => pureW (zip3 xs ys zs)) := fun env m Q E R hr q =>
  ha env m _ E _ (fun xs q => hb env m _ E _ (fun ys q => hc env m _ E _ (fun zs q => by
    obtain ⟨b, h1⟩ := hs xs
    obtain ⟨c, h2⟩ := ht ys
    obtain ⟨d, h3⟩ := hr' zs
    have := hr _ q
    rw [← zp3_zip] at this
    show match sqD (s xs), sqD (t ys), sqD (r zs) with | some (_, xs), some (_, ys), some (_, zs) => Q (zp3D xs ys zs) | _, _, _ => False
    rw [h1, h2, h3]; exact this) q) q) q
def idxW (xs : List Int) (v : Int) : W Int := fun Q _ => ∃ j : Nat, (xs[j]? = some v ∧ ∀ m, m < j → xs[m]? ≠ some v) ∧ Q (j : Int)
theorem te_index {w : W (List Int)} {w' : W Int} (ha : TE ps da (eL eI) w) (hb : TE ps db eI w') : TE ps (dIndex da db) eI (bindW w fun xs => bindW w' fun v => idxW xs v) := fun env m Q E R hr q =>
  ha env m _ E _ (fun xs q => hb env m _ E _ (fun v q => by
    obtain ⟨j, ⟨h1, h2⟩, h3⟩ := q
    exact ⟨xs, j, intsD_map xs, h1, h2, hr _ h3⟩) q) q
def strI (i : Int) : Str := toString i
def strW (i : Int) : W Str := fun Q _ => i.natAbs.log2 < 1920 ∧ Q (strI i)
theorem o_str : Op1 oStr eI eS strW := fun x Q E R hr q => ⟨q.1, hr _ q.2⟩
theorem o_sumAL : Op1 oSumA (eL eI) eI sumW := fun x Q E R hr q => ⟨x, intsD_map x, hr _ q⟩
theorem o_sumAT : Op1 oSumA (eT eI) eI sumW := fun x Q E R hr q => ⟨x, intsD_map x, hr _ q⟩
def lrgW (j : Int) : W (List Int) := fun Q _ => (0 ≤ j ∧ j ≤ 16777216) ∧ Q (rgI 0 j.toNat)
theorem tn_rng1 {w : W Int} (ha : TE ps da eI w) : TN ps (dRngN1 da) eI (bindW w lrgW) := fun env m Q E R hr q =>
  ha env m _ E _ (fun j q => ⟨q.1, by have := hr _ q.2; rw [← rgD_map] at this; exact this⟩) q
def sortW (xs : List Int) : W (List Int) := fun Q _ => ∀ ms : List Int, ms.Perm xs → ms.Pairwise (· ≤ ·) → Q ms
theorem tn_sort {w : W (List Int)} (ha : TE ps da (eL eI) w) : TN ps (dSortN da) eI (bindW w sortW) := fun env m Q E R hr q =>
  ha env m _ E _ (fun xs q => ⟨xs, intsD_map xs, fun ms h1 h2 => hr ms (q ms h1 h2)⟩) q
end
section
variable {α β γ σ τ : Type} {ps : SPat} {de di : DT_} {d u d1 d2 : DS_} {De : DEnds} {e : α → D} {f : β → D} {w : W α} {w' : W β} {P : Prop}
theorem ts_dead : TS ps (dSeq dDead u) De False := fun env m p => p.elim
theorem ts_dead1 : TS ps dDead De False := fun env m p => p.elim
def extP (xs ys : List α) (P : Prop) : Prop := szOk (xs.length + ys.length) ∧ P
theorem ts_ext (i : Nat) {xs : List α} {w : W (List α)} {k : List α → Prop} (hp : ps[i]? = some (some (.own (xs.map e)))) (h : TE ps de (eL e) w) (hk : ∀ ys, TS (ps.set i (some (.own ((xs ++ ys).map e)))) u De (k ys)) : TS ps (dSeq (dExt i de) u) De (bindP w (fun ys => extP xs ys (k ys)) De.ex) := fun env m p => by
  show dExt i de _ env
  unfold dExt
  rw [m.at_ i _ hp]
  exact h env m _ _ _ (fun ys q => ⟨by rw [List.length_map, List.length_map]; exact q.1, by
    have := hk ys _ (m.set i _) q.2
    rw [List.map_append] at this; exact this⟩) p
def popP (xs : List α) (k : Int) (P : List α → α → Prop) : Prop := (-(2 ^ 63) ≤ k ∧ k < 2 ^ 63) ∧ ∃ m v, ixN xs.length k = some m ∧ xs[m]? = some v ∧ P (xs.eraseIdx m) v
theorem map_erase (e : α → D) : ∀ (xs : List α) (m : Nat), (xs.eraseIdx m).map e = (xs.map e).eraseIdx m
  | [], _ => rfl
  | _ :: _, 0 => rfl
  | x :: r, m + 1 => by simp [map_erase e r m]
theorem ts_setPop (i j : Nat) {xs : List α} {wi : W Int} {k : List α → α → Prop} (hp : ps[j]? = some (some (.own (xs.map e)))) (h : TE ps de eI wi)
    (hk : ∀ (ys : List α) (v : α), TS ((ps.set j (some (.own (ys.map e)))).set i (some (.v (e v)))) u De (k ys v)) : TS ps (dSeq (dSetPop i j de) u) De (bindP wi (fun q => popP xs q k) De.ex) := fun env m p => by
  show dSetPop i j de _ env
  unfold dSetPop
  rw [m.at_ j _ hp]
  refine h env m _ _ _ (fun q r => ?_) p
  obtain ⟨h0, t, v, h1, h2, h3⟩ := r
  refine ⟨h0, ?_⟩
  show match ixN (xs.map e).length q with | some m => _ | none => False
  rw [List.length_map, h1]
  show match (xs.map e)[t]? with | some v => _ | none => False
  rw [List.getElem?_map, h2]
  have := hk _ v _ ((m.set j _).set i _) h3
  rw [map_erase] at this
  exact this
end
end Dl

set_option Elab.async false
set_option linter.all false
set_option maxRecDepth 100000
set_option maxHeartbeats 4000000
/-! Mn: contracts by hand: draws from the box of cells; one of several; odd values; bent values. -/
namespace Dl
open PySem PySem.Spec PyProof.Rows L2
abbrev eBx : Unit → D := fun _ => dBox
abbrev sp__law_draw : SpD := spDraw
def t__law_draw (_ : Unit) (many : Int) : W Int := fun Q _ => (0 < many ∧ many < 2 ^ 200) ∧ ∀ r, 0 ≤ r → r < many → Q r
theorem c__law_draw (u : Unit) (many : Int) (Qd : DK) (E : EK) (R : Int → Prop) (hr : ∀ r, R r → Qd (eI r)) (q : t__law_draw u many R E) : sp__law_draw [eBx u, eI many] Qd E := ⟨many, rfl, q.1.1, q.1.2, fun r a b => hr r (q.2 r a b)⟩
def sp__law_one : SpD := fun ds Q _ => match ds with | [.bx false P, x] => P = IsB1 ∧ (match seqOf x with | some ys => ys ≠ [] ∧ ys.length ≤ 1000 ∧ ∀ y ∈ ys, Q y | none => False) | _ => False
def t__law_one {α : Type} (_ : Unit) (xs : List α) : W α := fun Q _ => (xs ≠ [] ∧ xs.length ≤ 1000) ∧ ∀ y ∈ xs, Q y
theorem c__law_one {α : Type} {e : α → D} (u : Unit) (xs : List α) (Qd : DK) (E : EK) (R : α → Prop) (hr : ∀ r, R r → Qd (e r)) (q : t__law_one u xs R E) : sp__law_one [eBx u, eL e xs] Qd E := ⟨rfl, fun z => q.1.1 (List.map_eq_nil_iff.mp z), by rw [List.length_map]; exact q.1.2, fun y hy => by
  obtain ⟨x, hx, rfl⟩ := List.mem_map.mp hy
  exact hr x (q.2 x hx)⟩
def sp__law_odd : SpD := fun ds Q _ => ds = [dBox] ∧ ∀ d, Sm 14 3 d → Q d
def t__law_odd (_ : Unit) : W D := fun Q _ => ∀ d, Sm 14 3 d → Q d
theorem c__law_odd (u : Unit) (Qd : DK) (E : EK) (R : D → Prop) (hr : ∀ r, R r → Qd (eA r)) (q : t__law_odd u R E) : sp__law_odd [eBx u] Qd E := ⟨rfl, fun d h => hr d (q d h)⟩
def sp__law_bent (n : Nat) : SpD := fun ds Q _ => ∃ xs m h, ds = [dBox, .tp xs] ∧ Sm m (h + 1) (.tp xs) ∧ h + 1 ≤ n ∧ m ≤ 1000 ∧ ∀ d, Sm (3 * m + 20) (h + 5) d → Q d
abbrev top__law_bent : Nat := 12
def t__law_bent (_ : Unit) (v : D) : W D := fun Q _ => ∃ xs m h, (v = .tp xs ∧ Sm m (h + 1) (.tp xs) ∧ h + 1 ≤ 12 ∧ m ≤ 1000) ∧ ∀ d, Sm (3 * m + 20) (h + 5) d → Q d
theorem c__law_bent (u : Unit) (v : D) (Qd : DK) (E : EK) (R : D → Prop) (hr : ∀ r, R r → Qd (eA r)) (q : t__law_bent u v R E) : sp__law_bent top__law_bent [eBx u, eA v] Qd E := by
  obtain ⟨xs, m, h, ⟨rfl, h1, h2, h3⟩, h4⟩ := q
  exact ⟨xs, m, h, rfl, h1, h2, h3, fun d hd => hr d (h4 d hd)⟩
end Dl

set_option Elab.async false
set_option linter.all false
set_option maxRecDepth 100000
set_option maxHeartbeats 4000000
namespace Dl
open PySem PySem.Spec PyProof.Rows L2
/-! parts_of -/
def t_parts_of (pile_1 : (List (Int × Int))) (paid_2 : Int) : W (List Int) := fun Q E => bindP (bindW (pureW []) szW) (fun found_3 => bindP (pureW paid_2) (fun left_4 => bindP (pureW pile_1) (fun xs => forP (fun x_10 (s_9 : (List Int) × Int) N_11 B_12 => bindP (bindW (pureW x_10.2) fun x => bindW (pureW s_9.2) fun y => min2 x y) (fun z_16 => appP s_9.1 (bindP (bindW (pureW s_9.2) fun x => bindW (bindW (pureW (s_9.1 ++ [z_16])) fun x => bindW (bindW (pureW (1 : Int)) fun i => pureW (-i)) fun y => ixW x y) fun y => subI x y) (fun left_17 => N_11 ((s_9.1 ++ [z_16]), left_17)) E)) E) (fun (s_9 : (List Int) × Int) => ((bindW (pureW s_9.1) sameW) Q E)) xs (found_3, left_4)) E) E) E
def sp_parts_of : SpD := fun ds Qd E => ∃ (pile_1 : (List (Int × Int))) (paid_2 : Int) (R : (List Int) → Prop), ds = [(eT (eP eI eI)) pile_1, eI paid_2] ∧ (∀ r, R r → Qd ((eT eI) r)) ∧ t_parts_of pile_1 paid_2 R E
theorem c_parts_of (pile_1 : (List (Int × Int))) (paid_2 : Int) (Qd : DK) (E : EK) (R : (List Int) → Prop) (hr : ∀ r, R r → Qd ((eT eI) r)) (q : t_parts_of pile_1 paid_2 R E) : sp_parts_of [(eT (eP eI eI)) pile_1, eI paid_2] Qd E := ⟨pile_1, paid_2, R, rfl, hr, q⟩
theorem len_parts_of : ∀ ds Q E, sp_parts_of ds Q E → ds.length = 2 := by rintro ds Q E ⟨_, _, _, rfl, _⟩; rfl
/-! slips_paid -/
def t_slips_paid (book_18 : (List (Int × (List (Int × Int))))) (payments_19 : (List Int)) : W (List (List Int)) := fun Q E => ((bindW (bindW (bindW (pureW book_18) fun xs => bindW (pureW payments_19) fun ys => pureW (xs.zip ys)) fun xs => lcW (fun a_20 => (pureW true)) (fun a_20 => (bindW (pureW a_20.1.2) fun x0 => bindW (pureW a_20.2) fun x1 => t_parts_of x0 x1)) xs) sameW) Q E)
def sp_slips_paid : SpD := fun ds Qd E => ∃ (book_18 : (List (Int × (List (Int × Int))))) (payments_19 : (List Int)) (R : (List (List Int)) → Prop), ds = [(eT (eP eI (eT (eP eI eI)))) book_18, (eT eI) payments_19] ∧ (∀ r, R r → Qd ((eT (eT eI)) r)) ∧ t_slips_paid book_18 payments_19 R E
theorem c_slips_paid (book_18 : (List (Int × (List (Int × Int))))) (payments_19 : (List Int)) (Qd : DK) (E : EK) (R : (List (List Int)) → Prop) (hr : ∀ r, R r → Qd ((eT (eT eI)) r)) (q : t_slips_paid book_18 payments_19 R E) : sp_slips_paid [(eT (eP eI (eT (eP eI eI)))) book_18, (eT eI) payments_19] Qd E := ⟨book_18, payments_19, R, rfl, hr, q⟩
theorem len_slips_paid : ∀ ds Q E, sp_slips_paid ds Q E → ds.length = 2 := by rintro ds Q E ⟨_, _, _, rfl, _⟩; rfl
/-! received -/
def t_received (book_21 : (List (Int × (List (Int × Int))))) (payments_22 : (List Int)) : W (List Int) := fun Q E => bindP (bindW (pureW book_21) fun xs => lcW (fun a_24 => (pureW true)) (fun a_24 => (pureW (0 : Int))) xs) (fun found_23 => bindP (bindW (pureW book_21) fun xs => bindW (bindW (pureW book_21) fun x0 => bindW (pureW payments_22) fun x1 => t_slips_paid x0 x1) fun ys => pureW (xs.zip ys)) (fun xs => forP (fun x_43 (s_42 : (List Int)) N_44 B_45 => bindP (bindW (pureW x_43.1.2) fun xs => bindW (pureW x_43.2) fun ys => pureW (xs.zip ys)) (fun xs => forP (fun x_55 (s_54 : (List Int)) N_56 B_57 => bindP (bindW (bindW (pureW s_54) fun x => bindW (pureW x_55.1.1) fun y => ixW x y) fun x => bindW (pureW x_55.2) fun y => addI x y) (fun y_62 => bindP (pureW x_55.1.1) (fun j_63 => setixP s_54 j_63 y_62 (fun found_61 => N_56 found_61)) E) E) (fun (s_54 : (List Int)) => N_44 s_54) xs s_42) E) (fun (s_42 : (List Int)) => ((bindW (pureW s_42) sameW) Q E)) xs found_23) E) E
def sp_received : SpD := fun ds Qd E => ∃ (book_21 : (List (Int × (List (Int × Int))))) (payments_22 : (List Int)) (R : (List Int) → Prop), ds = [(eT (eP eI (eT (eP eI eI)))) book_21, (eT eI) payments_22] ∧ (∀ r, R r → Qd ((eT eI) r)) ∧ t_received book_21 payments_22 R E
theorem c_received (book_21 : (List (Int × (List (Int × Int))))) (payments_22 : (List Int)) (Qd : DK) (E : EK) (R : (List Int) → Prop) (hr : ∀ r, R r → Qd ((eT eI) r)) (q : t_received book_21 payments_22 R E) : sp_received [(eT (eP eI (eT (eP eI eI)))) book_21, (eT eI) payments_22] Qd E := ⟨book_21, payments_22, R, rfl, hr, q⟩
theorem len_received : ∀ ds Q E, sp_received ds Q E → ds.length = 2 := by rintro ds Q E ⟨_, _, _, rfl, _⟩; rfl
/-! held -/
def t_held (book_64 : (List (Int × (List (Int × Int))))) (payments_65 : (List Int)) : W (List Int) := fun Q E => bindP (bindW (pureW book_64) fun x0 => bindW (pureW payments_65) fun x1 => t_received x0 x1) (fun more_66 => ((bindW (bindW (bindW (pureW book_64) fun xs => bindW (pureW more_66) fun ys => bindW (pureW payments_65) fun zs => pureW (zip3 xs ys zs)) fun xs => lcW (fun a_67 => (pureW true)) (fun a_67 => (bindW (bindW (pureW a_67.1.1) fun x => bindW (pureW a_67.2.1) fun y => addI x y) fun x => bindW (pureW a_67.2.2) fun y => subI x y)) xs) sameW) Q E)) E
def sp_held : SpD := fun ds Qd E => ∃ (book_64 : (List (Int × (List (Int × Int))))) (payments_65 : (List Int)) (R : (List Int) → Prop), ds = [(eT (eP eI (eT (eP eI eI)))) book_64, (eT eI) payments_65] ∧ (∀ r, R r → Qd ((eT eI) r)) ∧ t_held book_64 payments_65 R E
theorem c_held (book_64 : (List (Int × (List (Int × Int))))) (payments_65 : (List Int)) (Qd : DK) (E : EK) (R : (List Int) → Prop) (hr : ∀ r, R r → Qd ((eT eI) r)) (q : t_held book_64 payments_65 R E) : sp_held [(eT (eP eI (eT (eP eI eI)))) book_64, (eT eI) payments_65] Qd E := ⟨book_64, payments_65, R, rfl, hr, q⟩
theorem len_held : ∀ ds Q E, sp_held ds Q E → ds.length = 2 := by rintro ds Q E ⟨_, _, _, rfl, _⟩; rfl
/-! next_slip -/
def t_next_slip (pile_68 : (List (Int × Int))) (paid_69 : Int) : W (Option Int) := fun Q E => bindP (pureW paid_69) (fun left_70 => bindP (bindW (pureW pile_68) fun xs => pureW (enI xs)) (fun xs => forP (fun x_75 (s_74 : Int) N_76 B_77 => bindP (bindW (pureW s_74) fun x => bindW (pureW x_75.2.2) fun y => ltI x y) (fun b => ifP b (((bindW (pureW x_75.1) fun x => pureW (some x)) Q E)) (bindP (bindW (pureW s_74) fun x => bindW (pureW x_75.2.2) fun y => subI x y) (fun left_81 => N_76 left_81) E)) E) (fun (s_74 : Int) => ((bindW (pureW ()) fun _ => pureW (none : (Option Int))) Q E)) xs left_70) E) E
def sp_next_slip : SpD := fun ds Qd E => ∃ (pile_68 : (List (Int × Int))) (paid_69 : Int) (R : (Option Int) → Prop), ds = [(eT (eP eI eI)) pile_68, eI paid_69] ∧ (∀ r, R r → Qd ((eO eI) r)) ∧ t_next_slip pile_68 paid_69 R E
theorem c_next_slip (pile_68 : (List (Int × Int))) (paid_69 : Int) (Qd : DK) (E : EK) (R : (Option Int) → Prop) (hr : ∀ r, R r → Qd ((eO eI) r)) (q : t_next_slip pile_68 paid_69 R E) : sp_next_slip [(eT (eP eI eI)) pile_68, eI paid_69] Qd E := ⟨pile_68, paid_69, R, rfl, hr, q⟩
theorem len_next_slip : ∀ ds Q E, sp_next_slip ds Q E → ds.length = 2 := by rintro ds Q E ⟨_, _, _, rfl, _⟩; rfl
/-! next_slips -/
def t_next_slips (book_82 : (List (Int × (List (Int × Int))))) (payments_83 : (List Int)) : W (List (Option Int)) := fun Q E => ((bindW (bindW (bindW (pureW book_82) fun xs => bindW (pureW payments_83) fun ys => pureW (xs.zip ys)) fun xs => lcW (fun a_84 => (pureW true)) (fun a_84 => (bindW (pureW a_84.1.2) fun x0 => bindW (pureW a_84.2) fun x1 => t_next_slip x0 x1)) xs) sameW) Q E)
def sp_next_slips : SpD := fun ds Qd E => ∃ (book_82 : (List (Int × (List (Int × Int))))) (payments_83 : (List Int)) (R : (List (Option Int)) → Prop), ds = [(eT (eP eI (eT (eP eI eI)))) book_82, (eT eI) payments_83] ∧ (∀ r, R r → Qd ((eT (eO eI)) r)) ∧ t_next_slips book_82 payments_83 R E
theorem c_next_slips (book_82 : (List (Int × (List (Int × Int))))) (payments_83 : (List Int)) (Qd : DK) (E : EK) (R : (List (Option Int)) → Prop) (hr : ∀ r, R r → Qd ((eT (eO eI)) r)) (q : t_next_slips book_82 payments_83 R E) : sp_next_slips [(eT (eP eI (eT (eP eI eI)))) book_82, (eT eI) payments_83] Qd E := ⟨book_82, payments_83, R, rfl, hr, q⟩
theorem len_next_slips : ∀ ds Q E, sp_next_slips ds Q E → ds.length = 2 := by rintro ds Q E ⟨_, _, _, rfl, _⟩; rfl
/-! _law_pile -/
def t__law_pile (box_85 : Unit) (own_86 : Int) (many_87 : Int) (size_88 : Int) (wide_89 : Int) : W (List (Int × Int)) := fun Q E => bindP (bindW (pureW []) szW) (fun found_90 => bindP (bindW (bindW (bindW (pureW box_85) fun x0 => bindW (bindW (pureW size_88) fun x => bindW (pureW (1 : Int)) fun y => addI x y) fun x1 => t__law_draw x0 x1) fun x => bindW (bindW (bindW (pureW many_87) fun x => bindW (pureW (1 : Int)) fun y => gtI x y) intB) fun y => mulI x y) rng1W) (fun xs => forP (fun x_96 (s_95 : (List (Int × Int))) N_97 B_98 => bindP (bindW (bindW (bindW (pureW own_86) fun x => bindW (pureW (1 : Int)) fun y => addI x y) fun x => bindW (bindW (pureW box_85) fun x0 => bindW (bindW (bindW (pureW (0 : Int)) fun x => bindW (bindW (bindW (pureW box_85) fun x0 => bindW (bindW (pureW many_87) fun x => bindW (pureW (1 : Int)) fun y => subI x y) fun x1 => t__law_draw x0 x1) fun x => bindW (pureW []) fun xs => pureW (x :: xs)) fun xs => pureW (x :: xs)) szW) fun x1 => t__law_one x0 x1) fun y => addI x y) fun x => bindW (pureW many_87) fun y => modI x y) (fun to_102 => bindP (bindW (pureW to_102) fun x => bindW (bindW (pureW (1 : Int)) fun x => bindW (bindW (pureW box_85) fun x0 => bindW (pureW wide_89) fun x1 => t__law_draw x0 x1) fun y => addI x y) fun y => pureW (x, y)) (fun z_103 => appP s_95 (N_97 (s_95 ++ [z_103]))) E) E) (fun (s_95 : (List (Int × Int))) => ((bindW (pureW s_95) sameW) Q E)) xs found_90) E) E
def sp__law_pile : SpD := fun ds Qd E => ∃ (box_85 : Unit) (own_86 : Int) (many_87 : Int) (size_88 : Int) (wide_89 : Int) (R : (List (Int × Int)) → Prop), ds = [eBx box_85, eI own_86, eI many_87, eI size_88, eI wide_89] ∧ (∀ r, R r → Qd ((eT (eP eI eI)) r)) ∧ t__law_pile box_85 own_86 many_87 size_88 wide_89 R E
theorem c__law_pile (box_85 : Unit) (own_86 : Int) (many_87 : Int) (size_88 : Int) (wide_89 : Int) (Qd : DK) (E : EK) (R : (List (Int × Int)) → Prop) (hr : ∀ r, R r → Qd ((eT (eP eI eI)) r)) (q : t__law_pile box_85 own_86 many_87 size_88 wide_89 R E) : sp__law_pile [eBx box_85, eI own_86, eI many_87, eI size_88, eI wide_89] Qd E := ⟨box_85, own_86, many_87, size_88, wide_89, R, rfl, hr, q⟩
theorem len__law_pile : ∀ ds Q E, sp__law_pile ds Q E → ds.length = 5 := by rintro ds Q E ⟨_, _, _, _, _, _, rfl, _⟩; rfl
/-! _law_book -/
def t__law_book (box_104 : Unit) (most_105 : Int) (size_106 : Int) (wide_107 : Int) : W (List (Int × (List (Int × Int)))) := fun Q E => bindP (bindW (pureW (1 : Int)) fun x => bindW (bindW (pureW box_104) fun x0 => bindW (pureW most_105) fun x1 => t__law_draw x0 x1) fun y => addI x y) (fun many_108 => bindP (bindW (bindW (pureW many_108) rng1W) fun xs => lcW (fun a_110 => (pureW true)) (fun a_110 => (bindW (pureW box_104) fun x0 => bindW (bindW (bindW (pureW (0 : Int)) fun x => bindW (bindW (pureW (0 : Int)) fun x => bindW (bindW (bindW (pureW box_104) fun x0 => bindW (bindW (pureW wide_107) fun x => bindW (pureW (1 : Int)) fun y => addI x y) fun x1 => t__law_draw x0 x1) fun x => bindW (pureW []) fun xs => pureW (x :: xs)) fun xs => pureW (x :: xs)) fun xs => pureW (x :: xs)) szW) fun x1 => t__law_one x0 x1)) xs) (fun purses_109 => ((bindW (bindW (bindW (pureW many_108) rng1W) fun xs => lcW (fun a_111 => (pureW true)) (fun a_111 => (bindW (bindW (pureW purses_109) fun x => bindW (pureW a_111) fun y => ixW x y) fun x => bindW (bindW (pureW box_104) fun x0 => bindW (pureW a_111) fun x1 => bindW (pureW many_108) fun x2 => bindW (pureW size_106) fun x3 => bindW (pureW wide_107) fun x4 => t__law_pile x0 x1 x2 x3 x4) fun y => pureW (x, y))) xs) sameW) Q E)) E) E
def sp__law_book : SpD := fun ds Qd E => ∃ (box_104 : Unit) (most_105 : Int) (size_106 : Int) (wide_107 : Int) (R : (List (Int × (List (Int × Int)))) → Prop), ds = [eBx box_104, eI most_105, eI size_106, eI wide_107] ∧ (∀ r, R r → Qd ((eT (eP eI (eT (eP eI eI)))) r)) ∧ t__law_book box_104 most_105 size_106 wide_107 R E
theorem c__law_book (box_104 : Unit) (most_105 : Int) (size_106 : Int) (wide_107 : Int) (Qd : DK) (E : EK) (R : (List (Int × (List (Int × Int)))) → Prop) (hr : ∀ r, R r → Qd ((eT (eP eI (eT (eP eI eI)))) r)) (q : t__law_book box_104 most_105 size_106 wide_107 R E) : sp__law_book [eBx box_104, eI most_105, eI size_106, eI wide_107] Qd E := ⟨box_104, most_105, size_106, wide_107, R, rfl, hr, q⟩
theorem len__law_book : ∀ ds Q E, sp__law_book ds Q E → ds.length = 4 := by rintro ds Q E ⟨_, _, _, _, _, rfl, _⟩; rfl
/-! _law_debts -/
def t__law_debts (book_here_112 : (List (Int × (List (Int × Int))))) : W (List Int) := fun Q E => ((bindW (pureW book_here_112) fun xs => lcW (fun a_113 => (pureW true)) (fun a_113 => (bindW (bindW (pureW a_113.2) fun xs => lcW (fun a_114 => (pureW true)) (fun a_114 => (pureW a_114.2)) xs) sumW)) xs) Q E)
def sp__law_debts : SpD := fun ds Qd E => ∃ (book_here_112 : (List (Int × (List (Int × Int))))) (R : (List Int) → Prop), ds = [(eT (eP eI (eT (eP eI eI)))) book_here_112] ∧ (∀ r, R r → Qd ((eL eI) r)) ∧ t__law_debts book_here_112 R E
theorem c__law_debts (book_here_112 : (List (Int × (List (Int × Int))))) (Qd : DK) (E : EK) (R : (List Int) → Prop) (hr : ∀ r, R r → Qd ((eL eI) r)) (q : t__law_debts book_here_112 R E) : sp__law_debts [(eT (eP eI (eT (eP eI eI)))) book_here_112] Qd E := ⟨book_here_112, R, rfl, hr, q⟩
theorem len__law_debts : ∀ ds Q E, sp__law_debts ds Q E → ds.length = 1 := by rintro ds Q E ⟨_, _, rfl, _⟩; rfl
/-! _law_parts -/
def t__law_parts (pile_here_115 : (List (Int × Int))) (paid_116 : Int) : W (List Int) := fun Q E => bindP (bindW (pureW []) szW) (fun found_117 => bindP (pureW pile_here_115) (fun xs => forP (fun x_124 (s_123 : (List Int) × Int) N_125 B_126 => bindP (bindW (bindW (pureW s_123.2) fun x => bindW (pureW x_124.2) fun y => geI x y) fun c => ifW c (pureW x_124.2) (pureW s_123.2)) (fun part_130 => bindP (pureW part_130) (fun z_131 => appP s_123.1 (bindP (bindW (pureW s_123.2) fun x => bindW (pureW part_130) fun y => subI x y) (fun paid_132 => N_125 ((s_123.1 ++ [z_131]), paid_132)) E)) E) E) (fun (s_123 : (List Int) × Int) => ((pureW s_123.1) Q E)) xs (found_117, paid_116)) E) E
def sp__law_parts : SpD := fun ds Qd E => ∃ (pile_here_115 : (List (Int × Int))) (paid_116 : Int) (R : (List Int) → Prop), ds = [(eT (eP eI eI)) pile_here_115, eI paid_116] ∧ (∀ r, R r → Qd ((eL eI) r)) ∧ t__law_parts pile_here_115 paid_116 R E
theorem c__law_parts (pile_here_115 : (List (Int × Int))) (paid_116 : Int) (Qd : DK) (E : EK) (R : (List Int) → Prop) (hr : ∀ r, R r → Qd ((eL eI) r)) (q : t__law_parts pile_here_115 paid_116 R E) : sp__law_parts [(eT (eP eI eI)) pile_here_115, eI paid_116] Qd E := ⟨pile_here_115, paid_116, R, rfl, hr, q⟩
theorem len__law_parts : ∀ ds Q E, sp__law_parts ds Q E → ds.length = 2 := by rintro ds Q E ⟨_, _, _, rfl, _⟩; rfl
/-! _law_held -/
def t__law_held (book_here_133 : (List (Int × (List (Int × Int))))) (payments_here_134 : (List Int)) : W (List Int) := fun Q E => bindP (bindW (bindW (pureW book_here_133) fun xs => bindW (pureW payments_here_134) fun ys => pureW (xs.zip ys)) fun xs => lcW (fun a_136 => (pureW true)) (fun a_136 => (bindW (pureW a_136.1.1) fun x => bindW (pureW a_136.2) fun y => subI x y)) xs) (fun found_135 => bindP (bindW (pureW book_here_133) fun xs => bindW (pureW payments_here_134) fun ys => pureW (xs.zip ys)) (fun xs => forP (fun x_155 (s_154 : (List Int)) N_156 B_157 => bindP (bindW (pureW x_155.1.2) fun xs => bindW (bindW (pureW x_155.1.2) fun x0 => bindW (pureW x_155.2) fun x1 => t__law_parts x0 x1) fun ys => pureW (xs.zip ys)) (fun xs => forP (fun x_167 (s_166 : (List Int)) N_168 B_169 => bindP (bindW (bindW (pureW s_166) fun x => bindW (pureW x_167.1.1) fun y => ixW x y) fun x => bindW (pureW x_167.2) fun y => addI x y) (fun y_174 => bindP (pureW x_167.1.1) (fun j_175 => setixP s_166 j_175 y_174 (fun found_173 => N_168 found_173)) E) E) (fun (s_166 : (List Int)) => N_156 s_166) xs s_154) E) (fun (s_154 : (List Int)) => ((pureW s_154) Q E)) xs found_135) E) E
def sp__law_held : SpD := fun ds Qd E => ∃ (book_here_133 : (List (Int × (List (Int × Int))))) (payments_here_134 : (List Int)) (R : (List Int) → Prop), ds = [(eT (eP eI (eT (eP eI eI)))) book_here_133, (eT eI) payments_here_134] ∧ (∀ r, R r → Qd ((eL eI) r)) ∧ t__law_held book_here_133 payments_here_134 R E
theorem c__law_held (book_here_133 : (List (Int × (List (Int × Int))))) (payments_here_134 : (List Int)) (Qd : DK) (E : EK) (R : (List Int) → Prop) (hr : ∀ r, R r → Qd ((eL eI) r)) (q : t__law_held book_here_133 payments_here_134 R E) : sp__law_held [(eT (eP eI (eT (eP eI eI)))) book_here_133, (eT eI) payments_here_134] Qd E := ⟨book_here_133, payments_here_134, R, rfl, hr, q⟩
theorem len__law_held : ∀ ds Q E, sp__law_held ds Q E → ds.length = 2 := by rintro ds Q E ⟨_, _, _, rfl, _⟩; rfl
/-! _law_payments -/
def t__law_payments (box_176 : Unit) (book_here_177 : (List (Int × (List (Int × Int))))) : W (List Int) := fun Q E => bindP (bindW (pureW []) szW) (fun found_178 => bindP (pureW book_here_177) (fun xs => forP (fun x_187 (s_186 : (List Int)) N_188 B_189 => bindP (bindW (bindW (bindW (pureW (0 : Int)) fun x => bindW (pureW []) fun xs => pureW (x :: xs)) szW) fun x => bindW (bindW (bindW (bindW (pureW x_187.2) lenW) rng1W) fun xs => lcW (fun a_194 => (pureW true)) (fun a_194 => (bindW (bindW (bindW (pureW x_187.2) fun xs => bindW (pureW none) fun l => bindW (bindW (bindW (pureW a_194) fun x => bindW (pureW (1 : Int)) fun y => addI x y) fun i => pureW (some i)) fun h => pureW (cutT xs l h)) fun xs => lcW (fun a_195 => (pureW true)) (fun a_195 => (pureW a_195.2)) xs) sumW)) xs) fun y => catW x y) (fun ends_193 => bindP (bindW (bindW (bindW (pureW box_176) fun x0 => bindW (pureW ends_193) fun x1 => t__law_one x0 x1) fun x => bindW (bindW (bindW (bindW (pureW box_176) fun x0 => bindW (pureW ends_193) fun x1 => t__law_one x0 x1) fun x => bindW (pureW (1 : Int)) fun y => addI x y) fun x => bindW (bindW (bindW (bindW (pureW box_176) fun x0 => bindW (pureW ends_193) fun x1 => t__law_one x0 x1) fun x => bindW (pureW (1 : Int)) fun y => subI x y) fun x => bindW (bindW (bindW (pureW box_176) fun x0 => bindW (bindW (bindW (pureW ends_193) fun x => bindW (bindW (pureW (1 : Int)) fun i => pureW (-i)) fun y => ixW x y) fun x => bindW (pureW (1 : Int)) fun y => addI x y) fun x1 => t__law_draw x0 x1) fun x => bindW (pureW []) fun xs => pureW (x :: xs)) fun xs => pureW (x :: xs)) fun xs => pureW (x :: xs)) fun xs => pureW (x :: xs)) szW) (fun some_196 => bindP (bindW (bindW (pureW (0 : Int)) fun x => bindW (bindW (pureW box_176) fun x0 => bindW (pureW some_196) fun x1 => t__law_one x0 x1) fun y => max2 x y) fun x => bindW (bindW (pureW ends_193) fun x => bindW (bindW (pureW (1 : Int)) fun i => pureW (-i)) fun y => ixW x y) fun y => min2 x y) (fun z_197 => appP s_186 (N_188 (s_186 ++ [z_197]))) E) E) E) (fun (s_186 : (List Int)) => ((bindW (pureW s_186) sameW) Q E)) xs found_178) E) E
def sp__law_payments : SpD := fun ds Qd E => ∃ (box_176 : Unit) (book_here_177 : (List (Int × (List (Int × Int))))) (R : (List Int) → Prop), ds = [eBx box_176, (eT (eP eI (eT (eP eI eI)))) book_here_177] ∧ (∀ r, R r → Qd ((eT eI) r)) ∧ t__law_payments box_176 book_here_177 R E
theorem c__law_payments (box_176 : Unit) (book_here_177 : (List (Int × (List (Int × Int))))) (Qd : DK) (E : EK) (R : (List Int) → Prop) (hr : ∀ r, R r → Qd ((eT eI) r)) (q : t__law_payments box_176 book_here_177 R E) : sp__law_payments [eBx box_176, (eT (eP eI (eT (eP eI eI)))) book_here_177] Qd E := ⟨box_176, book_here_177, R, rfl, hr, q⟩
theorem len__law_payments : ∀ ds Q E, sp__law_payments ds Q E → ds.length = 2 := by rintro ds Q E ⟨_, _, _, rfl, _⟩; rfl
/-! _law_by_coins -/
def t__law_by_coins (book_here_198 : (List (Int × (List (Int × Int))))) (some_199 : (List Int)) : W (List Int) := fun Q E => bindP (bindW (bindW (bindW (pureW (0 : Int)) fun x => bindW (pureW []) fun xs => pureW (x :: xs)) szW) fun x => bindW (bindW (pureW book_here_198) lenW) fun y => repL x y) (fun found_200 => bindP (bindW (pureW book_here_198) fun xs => bindW (pureW some_199) fun ys => pureW (xs.zip ys)) (fun xs => forP (fun x_231 (s_230 : (List Int)) N_232 B_233 => bindP (bindW (pureW []) szW) (fun coins_237 => bindP (pureW x_231.1.2) (fun xs => forP (fun x_242 (s_241 : (List Int)) N_243 B_244 => bindP (bindW (bindW (bindW (pureW x_242.1) fun x => bindW (pureW []) fun xs => pureW (x :: xs)) szW) fun x => bindW (pureW x_242.2) fun y => repL x y) (fun z_248 => extP s_241 z_248 (N_243 (s_241 ++ z_248))) E) (fun (s_241 : (List Int)) => bindP (bindW (pureW s_241) fun xs => bindW (pureW none) fun l => bindW (bindW (pureW x_231.2) fun i => pureW (some i)) fun h => pureW (cutT xs l h)) (fun xs => forP (fun x_255 (s_254 : (List Int)) N_256 B_257 => bindP (bindW (bindW (pureW s_254) fun x => bindW (pureW x_255) fun y => ixW x y) fun x => bindW (pureW (1 : Int)) fun y => addI x y) (fun y_262 => bindP (pureW x_255) (fun j_263 => setixP s_254 j_263 y_262 (fun found_261 => N_256 found_261)) E) E) (fun (s_254 : (List Int)) => N_232 s_254) xs s_230) E) xs coins_237) E) E) (fun (s_230 : (List Int)) => ((pureW s_230) Q E)) xs found_200) E) E
def sp__law_by_coins : SpD := fun ds Qd E => ∃ (book_here_198 : (List (Int × (List (Int × Int))))) (some_199 : (List Int)) (R : (List Int) → Prop), ds = [(eT (eP eI (eT (eP eI eI)))) book_here_198, (eT eI) some_199] ∧ (∀ r, R r → Qd ((eL eI) r)) ∧ t__law_by_coins book_here_198 some_199 R E
theorem c__law_by_coins (book_here_198 : (List (Int × (List (Int × Int))))) (some_199 : (List Int)) (Qd : DK) (E : EK) (R : (List Int) → Prop) (hr : ∀ r, R r → Qd ((eL eI) r)) (q : t__law_by_coins book_here_198 some_199 R E) : sp__law_by_coins [(eT (eP eI (eT (eP eI eI)))) book_here_198, (eT eI) some_199] Qd E := ⟨book_here_198, some_199, R, rfl, hr, q⟩
theorem len__law_by_coins : ∀ ds Q E, sp__law_by_coins ds Q E → ds.length = 2 := by rintro ds Q E ⟨_, _, _, rfl, _⟩; rfl
/-! _law_coin_right -/
def t__law_coin_right (box_264 : Unit) (book_here_265 : (List (Int × (List (Int × Int))))) (some_266 : (List Int)) : W Bool := fun Q E => bindP (bindW (bindW (pureW box_264) fun x0 => bindW (bindW (pureW book_here_265) lenW) fun x1 => t__law_draw x0 x1) fun x => bindW (bindW (pureW book_here_265) fun x0 => bindW (pureW some_266) fun x1 => t_next_slips x0 x1) fun y => pureW (x, y)) (fun z_267 => bindP (bindW (bindW (pureW z_267.2) fun x => bindW (pureW z_267.1) fun y => ixW x y) fun x => pureW x.isNone) (fun b => ifP b (((bindW (bindW (pureW some_266) fun x => bindW (pureW z_267.1) fun y => ixW x y) fun x => bindW (bindW (bindW (pureW book_here_265) fun x0 => t__law_debts x0) fun x => bindW (pureW z_267.1) fun y => ixW x y) fun y => eqI x y) Q E)) (bindP (bindW (bindW (bindW (pureW some_266) fun xs => bindW (pureW none) fun l => bindW (bindW (pureW z_267.1) fun i => pureW (some i)) fun h => pureW (cutT xs l h)) fun x => bindW (bindW (bindW (bindW (bindW (pureW some_266) fun x => bindW (pureW z_267.1) fun y => ixW x y) fun x => bindW (pureW (1 : Int)) fun y => addI x y) fun x => bindW (pureW []) fun xs => pureW (x :: xs)) szW) fun y => catW x y) fun x => bindW (bindW (pureW some_266) fun xs => bindW (bindW (bindW (pureW z_267.1) fun x => bindW (pureW (1 : Int)) fun y => addI x y) fun i => pureW (some i)) fun l => bindW (pureW none) fun h => pureW (cutT xs l h)) fun y => catW x y) (fun more_268 => bindP (bindW (bindW (bindW (bindW (pureW book_here_265) fun x => bindW (pureW z_267.1) fun y => ixW x y) fun p => pureW p.2) fun x => bindW (bindW (bindW (pureW z_267.2) fun x => bindW (pureW z_267.1) fun y => ixW x y) getW) fun y => ixW x y) fun p => pureW p.1) (fun to_269 => bindP (bindW (pureW book_here_265) fun x0 => bindW (pureW some_266) fun x1 => t_held x0 x1) (fun before_270 => bindP (bindW (pureW book_here_265) fun x0 => bindW (pureW more_268) fun x1 => t_held x0 x1) (fun after_271 => bindP (bindW (bindW (pureW before_270) fun xs => pureW (enI xs)) fun xs => lcW (fun a_273 => (pureW true)) (fun a_273 => (bindW (bindW (pureW a_273.2) fun x => bindW (bindW (bindW (pureW a_273.1) fun x => bindW (pureW to_269) fun y => eqI x y) intB) fun y => addI x y) fun x => bindW (bindW (bindW (pureW a_273.1) fun x => bindW (pureW z_267.1) fun y => eqI x y) intB) fun y => subI x y)) xs) (fun due_272 => ((bindW (bindW (pureW after_271) sameW) fun x => bindW (pureW due_272) fun y => eqW x y) Q E)) E) E) E) E) E)) E) E
def sp__law_coin_right : SpD := fun ds Qd E => ∃ (box_264 : Unit) (book_here_265 : (List (Int × (List (Int × Int))))) (some_266 : (List Int)) (R : Bool → Prop), ds = [eBx box_264, (eT (eP eI (eT (eP eI eI)))) book_here_265, (eT eI) some_266] ∧ (∀ r, R r → Qd (eB r)) ∧ t__law_coin_right box_264 book_here_265 some_266 R E
theorem c__law_coin_right (box_264 : Unit) (book_here_265 : (List (Int × (List (Int × Int))))) (some_266 : (List Int)) (Qd : DK) (E : EK) (R : Bool → Prop) (hr : ∀ r, R r → Qd (eB r)) (q : t__law_coin_right box_264 book_here_265 some_266 R E) : sp__law_coin_right [eBx box_264, (eT (eP eI (eT (eP eI eI)))) book_here_265, (eT eI) some_266] Qd E := ⟨box_264, book_here_265, some_266, R, rfl, hr, q⟩
theorem len__law_coin_right : ∀ ds Q E, sp__law_coin_right ds Q E → ds.length = 3 := by rintro ds Q E ⟨_, _, _, _, rfl, _⟩; rfl
/-! the law -/
def t_law : W Bool := fun Q E => bindP (bindW (pureW (16 : Int)) rng1W) (fun xs => forP (fun x_294 (s_293 : Unit) N_295 B_296 => bindP (bindW (bindW (pureW x_294) fun x => bindW (pureW (2 : Int)) fun y => modI x y) fun x => bindW (pureW (0 : Int)) fun y => eqI x y) (fun is_small_300 => bindP (bindW (pureW ()) fun x0 => bindW (pureW (6 : Int)) fun x1 => bindW (pureW (6 : Int)) fun x2 => bindW (bindW (pureW is_small_300) fun c => ifW c (pureW (12 : Int)) (bindW (pureW (10 : Int)) fun x => bindW (pureW (9 : Int)) fun y => powI x y)) fun x3 => t__law_book x0 x1 x2 x3) (fun book_here_301 => bindP (bindW (pureW ()) fun x0 => bindW (pureW book_here_301) fun x1 => t__law_payments x0 x1) (fun some_302 => bindP (bindW (bindW (bindW (bindW (pureW book_here_301) fun x => pureW ((eT (eP eI (eT (eP eI eI)))) x)) fun x => bindW (bindW (bindW (pureW some_302) fun x => pureW ((eT eI) x)) fun x => bindW (pureW []) fun xs => pureW (x :: xs)) fun xs => pureW (x :: xs)) szW) (fun x => reprW ((eL eA) x))) (fun shown_303 => bindP (bindW (pureW book_here_301) fun x0 => bindW (pureW some_302) fun x1 => t__law_held x0 x1) (fun due_304 => bindP (bindW (bindW (bindW (pureW due_304) fun xs => bindW (pureW some_302) fun ys => bindW (pureW book_here_301) fun zs => pureW (zip3 xs ys zs)) fun xs => lcW (fun a_306 => (pureW true)) (fun a_306 => (bindW (bindW (pureW a_306.1) fun x => bindW (pureW a_306.2.1) fun y => addI x y) fun x => bindW (bindW (pureW a_306.2.2) fun p => pureW p.1) fun y => subI x y)) xs) sameW) (fun got_305 => bindP (bindW (pureW (2 : Int)) rng1W) (fun xs => forP (fun x_310 (s_309 : Unit) N_311 B_312 => bindP (bindW (bindW (bindW (bindW (bindW (pureW book_here_301) fun x0 => bindW (pureW some_302) fun x1 => t_received x0 x1) fun x => bindW (bindW (bindW (pureW book_here_301) fun x0 => bindW (pureW some_302) fun x1 => t_held x0 x1) fun x => bindW (pureW []) fun xs => pureW (x :: xs)) fun xs => pureW (x :: xs)) szW) (fun x => reprW ((eL (eT eI)) x))) fun x => bindW (bindW (bindW (bindW (pureW got_305) fun x => bindW (bindW (bindW (pureW due_304) sameW) fun x => bindW (pureW []) fun xs => pureW (x :: xs)) fun xs => pureW (x :: xs)) szW) (fun x => reprW ((eL (eT eI)) x))) fun y => neW x y) (fun b => ifP b (((pureW false) Q E)) (N_311 ())) E) (fun (s_309 : Unit) => bindP (bindW (pureW is_small_300) fun c => ifW c (bindW (bindW (bindW (pureW book_here_301) fun x0 => bindW (pureW some_302) fun x1 => t_received x0 x1) sameW) fun x => bindW (bindW (pureW book_here_301) fun x0 => bindW (pureW some_302) fun x1 => t__law_by_coins x0 x1) fun y => neW x y) (pureW false)) (fun b => ifP b (((pureW false) Q E)) (bindP (bindW (bindW (bindW (pureW book_here_301) fun x0 => bindW (pureW some_302) fun x1 => t_held x0 x1) sumW) fun x => bindW (bindW (bindW (pureW book_here_301) fun xs => lcW (fun a_316 => (pureW true)) (fun a_316 => (pureW a_316.1)) xs) sumW) fun y => neI x y) (fun b => ifP b (((pureW false) Q E)) (bindP (bindW (bindW (pureW ()) fun x0 => bindW (pureW book_here_301) fun x1 => bindW (pureW some_302) fun x2 => t__law_coin_right x0 x1 x2) fun c => pureW (!c)) (fun b => ifP b (((pureW false) Q E)) (bindP (bindW (bindW (bindW (bindW (bindW (pureW book_here_301) fun x => pureW ((eT (eP eI (eT (eP eI eI)))) x)) fun x => bindW (bindW (bindW (pureW some_302) fun x => pureW ((eT eI) x)) fun x => bindW (pureW []) fun xs => pureW (x :: xs)) fun xs => pureW (x :: xs)) szW) (fun x => reprW ((eL eA) x))) fun x => bindW (pureW shown_303) fun y => neW x y) (fun b => ifP b (((pureW false) Q E)) (N_295 ())) E)) E)) E)) E) xs ()) E) E) E) E) E) E) E) (fun (s_293 : Unit) => ((pureW true) Q E)) xs ()) E
end Dl

set_option Elab.async false
set_option linter.all false
set_option maxRecDepth 100000
set_option maxHeartbeats 4000000
namespace Dl
open PySem PySem.Spec PyProof.Rows L2
structure Gs (mg : Str → Option Value) : Prop where
  g_enumerate : mg "enumerate" = none
  g_int : mg "int" = none
  g_len : mg "len" = none
  g_list : mg "list" = none
  g_max : mg "max" = none
  g_min : mg "min" = none
  g_range : mg "range" = none
  g_repr : mg "repr" = none
  g_sum : mg "sum" = none
  g_tuple : mg "tuple" = none
  g_zip : mg "zip" = none
section
variable {P : Program} {w : World} {K : PySem.W.Frag} {mg : Str → Option Value} {base : Heap}
/-! parts_of -/
abbrev N_parts_of : List Str := ["pile", "paid", "found", "left", "to", "amount"]
theorem sc_parts_of : FnScope N_parts_of ["pile", "paid"] (defScope s_parts_of) := ⟨rfl, rfl, rfl, by decide +kernel, rfl, by decide +kernel, by decide +kernel⟩
def d_parts_of_2b_1 : DS_ := (dSet 3 (dOp oSub (dVar 3) (dLend 2 (dOp oIx (dVar 2) (dNeg (dC (.it 1)))))))
def r_parts_of_2b_1 : DS_ := d_parts_of_2b_1
def d_parts_of_2b_0 : DS_ := (dApp 2 (dCB oMinL (dCons (dVar 5) (dCons (dVar 3) dNil))))
def r_parts_of_2b_0 : DS_ := dSeq d_parts_of_2b_0 r_parts_of_2b_1
def d_parts_of_3 : DS_ := (dFrzS 2 (dRet (dCB oTuple (dCons (dVar 2) dNil))))
def r_parts_of_3 : DS_ := d_parts_of_3
def d_parts_of_2 : DS_ := (dFor (dSeqI (dVar 0)) (dgTup 2 (dgCons (dgName 4) (dgCons (dgName 5) dgNil))) r_parts_of_2b_0)
def r_parts_of_2 : DS_ := dSeq d_parts_of_2 r_parts_of_3
def d_parts_of_1 : DS_ := (dSet 3 (dVar 1))
def r_parts_of_1 : DS_ := dSeq d_parts_of_1 r_parts_of_2
def d_parts_of_0 : DS_ := (dSetO 2 (dLstN dNil))
def r_parts_of_0 : DS_ := dSeq d_parts_of_0 r_parts_of_1
def d_parts_of : DS_ := r_parts_of_0
theorem w_parts_of {f : Addr} {fd : FuncData} {k : Nat} (F : Fun K "parts_of" "parts_of" s_parts_of f fd) (G : Gs mg) (hsys : ∃ o, base.get? sysModules = some o)
    (len : ∀ ds Q E, sp_parts_of ds Q E → ds.length = 2) (law : ∀ ds Q E, sp_parts_of ds Q E → d_parts_of { nx := fun _ => Q .non, rt := Q, ex := E } (dstart 6 ds)) : GFn P w K mg base (k + 1) f fd ["pile", "paid"] sp_parts_of := by
  exact gfn_mk F sc_parts_of len (fun cdv A outer s H E hr hgd => (ds_cons (ds_setO 2 (dn_lst da_nil) sc_parts_of.nd) (ds_cons (ds_set 3 (de_var 1) sc_parts_of.nd) (ds_cons (ds_for (passes_of rfl) rfl (di_seq (de_var 0)) (dg_tup (n := 2) rfl (dgs_cons (dg_name 4 sc_parts_of.nd) (dgs_cons (dg_name 5 sc_parts_of.nd) dgs_nil))) (ds_cons (ds_append 2 (de_min rfl rfl G.g_min (da_cons (de_var 5) (da_cons (de_var 3) da_nil)))) (ds_one (ds_set 3 (de_sub (de_var 3) (de_lend 2 (de_ix (de_var 2) (de_neg de_int)))) sc_parts_of.nd)))) (ds_one (ds_frz 2 (ds_ret (de_tuple rfl G.g_tuple (da_cons (de_var 2) da_nil))))))))) law
/-! slips_paid -/
abbrev N_slips_paid : List Str := ["book", "payments", "purse", "pile", "paid"]
theorem sc_slips_paid : FnScope N_slips_paid ["book", "payments"] (defScope s_slips_paid) := ⟨rfl, rfl, rfl, by decide +kernel, rfl, by decide +kernel, by decide +kernel⟩
def d_slips_paid_0 : DS_ := (dRet (dCB oTuple (dCons (dFrz (dLc (dZip (dCons (dVar 0) (dCons (dVar 1) dNil))) (dgTup 2 (dgCons (dgTup 2 (dgCons (dgName 2) (dgCons (dgName 3) dgNil))) (dgCons (dgName 4) dgNil))) dYes (dCall sp_parts_of (dCons (dVar 3) (dCons (dVar 4) dNil))) [2, 3, 4])) dNil)))
def r_slips_paid_0 : DS_ := d_slips_paid_0
def d_slips_paid : DS_ := r_slips_paid_0
theorem w_slips_paid {f : Addr} {fd : FuncData} {k : Nat} (F : Fun K "slips_paid" "slips_paid" s_slips_paid f fd) (G : Gs mg) (hsys : ∃ o, base.get? sysModules = some o) (C_parts_of : Cal P w K mg base k "parts_of" ["pile", "paid"] sp_parts_of)
    (len : ∀ ds Q E, sp_slips_paid ds Q E → ds.length = 2) (law : ∀ ds Q E, sp_slips_paid ds Q E → d_slips_paid { nx := fun _ => Q .non, rt := Q, ex := E } (dstart 5 ds)) : GFn P w K mg base (k + 1) f fd ["book", "payments"] sp_slips_paid := by
  exact gfn_mk F sc_slips_paid len (fun cdv A outer s H E hr hgd => (ds_one (ds_ret (de_tuple rfl G.g_tuple (da_cons (DN.toDE (dn_lc rfl sc_slips_paid.nd (di_zip rfl G.g_zip (da_cons (de_var 0) (da_cons (de_var 1) da_nil))) (own := [("purse", 2), ("pile", 3), ("paid", 4)]) (blkOk_by (by show blkC N_slips_paid (defScope s_slips_paid) _ _ = true; decide +kernel)) (vsg := [2, 3, 4]) (by decide) (fun s H C cl fp => (dg_tup (n := 2) rfl (dgs_cons (dg_tup (n := 2) rfl (dgs_cons (dg_name 2 sc_slips_paid.nd) (dgs_cons (dg_name 3 sc_slips_paid.nd) dgs_nil))) (dgs_cons (dg_name 4 sc_slips_paid.nd) dgs_nil)))) (fun s H C cl fp => dts_nil) (fun s H C cl fp => (de_call C_parts_of hr hgd passL rfl (da_cons (de_var 3) (da_cons (de_var 4) da_nil)))))) da_nil))))) law
/-! received -/
abbrev N_received : List Str := ["book", "payments", "found", "purse", "pile", "parts", "to", "amount", "part", "house"]
theorem sc_received : FnScope N_received ["book", "payments"] (defScope s_received) := ⟨rfl, rfl, rfl, by decide +kernel, rfl, by decide +kernel, by decide +kernel⟩
def d_received_2 : DS_ := (dFrzS 2 (dRet (dCB oTuple (dCons (dVar 2) dNil))))
def r_received_2 : DS_ := d_received_2
def d_received_1 : DS_ := (dFor (dZip (dCons (dVar 0) (dCons (dCall sp_slips_paid (dCons (dVar 0) (dCons (dVar 1) dNil))) dNil))) (dgTup 2 (dgCons (dgTup 2 (dgCons (dgName 3) (dgCons (dgName 4) dgNil))) (dgCons (dgName 5) dgNil))) (dFor (dZip (dCons (dVar 4) (dCons (dVar 5) dNil))) (dgTup 2 (dgCons (dgTup 2 (dgCons (dgName 6) (dgCons (dgName 7) dgNil))) (dgCons (dgName 8) dgNil))) (dSetIx 2 (dVar 6) (dOp oAdd (dLend 2 (dOp oIx (dVar 2) (dVar 6))) (dVar 8)))))
def r_received_1 : DS_ := dSeq d_received_1 r_received_2
def d_received_0 : DS_ := (dSetO 2 (dLc (dSeqI (dVar 0)) (dgName 9) dYes (dC (.it 0)) [9]))
def r_received_0 : DS_ := dSeq d_received_0 r_received_1
def d_received : DS_ := r_received_0
theorem w_received {f : Addr} {fd : FuncData} {k : Nat} (F : Fun K "received" "received" s_received f fd) (G : Gs mg) (hsys : ∃ o, base.get? sysModules = some o) (C_slips_paid : Cal P w K mg base k "slips_paid" ["book", "payments"] sp_slips_paid)
    (len : ∀ ds Q E, sp_received ds Q E → ds.length = 2) (law : ∀ ds Q E, sp_received ds Q E → d_received { nx := fun _ => Q .non, rt := Q, ex := E } (dstart 10 ds)) : GFn P w K mg base (k + 1) f fd ["book", "payments"] sp_received := by
  exact gfn_mk F sc_received len (fun cdv A outer s H E hr hgd => (ds_cons (ds_setLcO 2 rfl sc_received.nd (di_seq (de_var 0)) (own := [("house", 9)]) (blkOk_by (by show blkC N_received (defScope s_received) _ _ = true; decide +kernel)) (vsg := [9]) (by decide) (fun s H C cl fp => (dg_name 9 sc_received.nd)) (fun s H C cl fp => dts_nil) (fun s H C cl fp => de_int) rfl) (ds_cons (ds_for (passes_of rfl) rfl (di_zip rfl G.g_zip (da_cons (de_var 0) (da_cons (de_call C_slips_paid hr hgd passD rfl (da_cons (de_var 0) (da_cons (de_var 1) da_nil))) da_nil))) (dg_tup (n := 2) rfl (dgs_cons (dg_tup (n := 2) rfl (dgs_cons (dg_name 3 sc_received.nd) (dgs_cons (dg_name 4 sc_received.nd) dgs_nil))) (dgs_cons (dg_name 5 sc_received.nd) dgs_nil))) (ds_one (ds_for (passes_of rfl) rfl (di_zip rfl G.g_zip (da_cons (de_var 4) (da_cons (de_var 5) da_nil))) (dg_tup (n := 2) rfl (dgs_cons (dg_tup (n := 2) rfl (dgs_cons (dg_name 6 sc_received.nd) (dgs_cons (dg_name 7 sc_received.nd) dgs_nil))) (dgs_cons (dg_name 8 sc_received.nd) dgs_nil))) (ds_one (ds_setix 2 (de_add (de_lend 2 (de_ix (de_var 2) (de_var 6))) (de_var 8)) (de_var 6)))))) (ds_one (ds_frz 2 (ds_ret (de_tuple rfl G.g_tuple (da_cons (de_var 2) da_nil)))))))) law
/-! held -/
abbrev N_held : List Str := ["book", "payments", "more", "purse", "pile", "got", "paid"]
theorem sc_held : FnScope N_held ["book", "payments"] (defScope s_held) := ⟨rfl, rfl, rfl, by decide +kernel, rfl, by decide +kernel, by decide +kernel⟩
def d_held_1 : DS_ := (dRet (dCB oTuple (dCons (dFrz (dLc (dZip3 (dCons (dVar 0) (dCons (dVar 2) (dCons (dVar 1) dNil)))) (dgTup 3 (dgCons (dgTup 2 (dgCons (dgName 3) (dgCons (dgName 4) dgNil))) (dgCons (dgName 5) (dgCons (dgName 6) dgNil)))) dYes (dOp oSub (dOp oAdd (dVar 3) (dVar 5)) (dVar 6)) [3, 4, 5, 6])) dNil)))
def r_held_1 : DS_ := d_held_1
def d_held_0 : DS_ := (dSet 2 (dCall sp_received (dCons (dVar 0) (dCons (dVar 1) dNil))))
def r_held_0 : DS_ := dSeq d_held_0 r_held_1
def d_held : DS_ := r_held_0
theorem w_held {f : Addr} {fd : FuncData} {k : Nat} (F : Fun K "held" "held" s_held f fd) (G : Gs mg) (hsys : ∃ o, base.get? sysModules = some o) (C_received : Cal P w K mg base k "received" ["book", "payments"] sp_received)
    (len : ∀ ds Q E, sp_held ds Q E → ds.length = 2) (law : ∀ ds Q E, sp_held ds Q E → d_held { nx := fun _ => Q .non, rt := Q, ex := E } (dstart 7 ds)) : GFn P w K mg base (k + 1) f fd ["book", "payments"] sp_held := by
  exact gfn_mk F sc_held len (fun cdv A outer s H E hr hgd => (ds_cons (ds_set 2 (de_call C_received hr hgd passD rfl (da_cons (de_var 0) (da_cons (de_var 1) da_nil))) sc_held.nd) (ds_one (ds_ret (de_tuple rfl G.g_tuple (da_cons (DN.toDE (dn_lc rfl sc_held.nd (di_zip3 rfl G.g_zip (da_cons (de_var 0) (da_cons (de_var 2) (da_cons (de_var 1) da_nil)))) (own := [("purse", 3), ("pile", 4), ("got", 5), ("paid", 6)]) (blkOk_by (by show blkC N_held (defScope s_held) _ _ = true; decide +kernel)) (vsg := [3, 4, 5, 6]) (by decide) (fun s H C cl fp => (dg_tup (n := 3) rfl (dgs_cons (dg_tup (n := 2) rfl (dgs_cons (dg_name 3 sc_held.nd) (dgs_cons (dg_name 4 sc_held.nd) dgs_nil))) (dgs_cons (dg_name 5 sc_held.nd) (dgs_cons (dg_name 6 sc_held.nd) dgs_nil))))) (fun s H C cl fp => dts_nil) (fun s H C cl fp => (de_sub (de_add (de_var 3) (de_var 5)) (de_var 6))))) da_nil)))))) law
/-! next_slip -/
abbrev N_next_slip : List Str := ["pile", "paid", "left", "index", "to", "amount"]
theorem sc_next_slip : FnScope N_next_slip ["pile", "paid"] (defScope s_next_slip) := ⟨rfl, rfl, rfl, by decide +kernel, rfl, by decide +kernel, by decide +kernel⟩
def d_next_slip_1b_1 : DS_ := (dSet 2 (dOp oSub (dVar 2) (dVar 5)))
def r_next_slip_1b_1 : DS_ := d_next_slip_1b_1
def d_next_slip_1b_0 : DS_ := (dIfS (dTst (dOp oLt (dVar 2) (dVar 5))) (dRet (dVar 3)) dNext)
def r_next_slip_1b_0 : DS_ := dSeq d_next_slip_1b_0 r_next_slip_1b_1
def d_next_slip_2 : DS_ := (dRet (dC .non))
def r_next_slip_2 : DS_ := d_next_slip_2
def d_next_slip_1 : DS_ := (dFor (dEnum (dCons (dVar 0) dNil)) (dgTup 2 (dgCons (dgName 3) (dgCons (dgTup 2 (dgCons (dgName 4) (dgCons (dgName 5) dgNil))) dgNil))) r_next_slip_1b_0)
def r_next_slip_1 : DS_ := dSeq d_next_slip_1 r_next_slip_2
def d_next_slip_0 : DS_ := (dSet 2 (dVar 1))
def r_next_slip_0 : DS_ := dSeq d_next_slip_0 r_next_slip_1
def d_next_slip : DS_ := r_next_slip_0
theorem w_next_slip {f : Addr} {fd : FuncData} {k : Nat} (F : Fun K "next_slip" "next_slip" s_next_slip f fd) (G : Gs mg) (hsys : ∃ o, base.get? sysModules = some o)
    (len : ∀ ds Q E, sp_next_slip ds Q E → ds.length = 2) (law : ∀ ds Q E, sp_next_slip ds Q E → d_next_slip { nx := fun _ => Q .non, rt := Q, ex := E } (dstart 6 ds)) : GFn P w K mg base (k + 1) f fd ["pile", "paid"] sp_next_slip := by
  exact gfn_mk F sc_next_slip len (fun cdv A outer s H E hr hgd => (ds_cons (ds_set 2 (de_var 1) sc_next_slip.nd) (ds_cons (ds_for (passes_of rfl) rfl (di_enum rfl G.g_enumerate (da_cons (de_var 0) da_nil)) (dg_tup (n := 2) rfl (dgs_cons (dg_name 3 sc_next_slip.nd) (dgs_cons (dg_tup (n := 2) rfl (dgs_cons (dg_name 4 sc_next_slip.nd) (dgs_cons (dg_name 5 sc_next_slip.nd) dgs_nil))) dgs_nil))) (ds_cons (ds_if (db_lt (de_var 2) (de_var 5)) (ds_one (ds_ret (de_var 3))) ds_nil) (ds_one (ds_set 2 (de_sub (de_var 2) (de_var 5)) sc_next_slip.nd)))) (ds_one (ds_ret de_non))))) law
/-! next_slips -/
abbrev N_next_slips : List Str := ["book", "payments", "purse", "pile", "paid"]
theorem sc_next_slips : FnScope N_next_slips ["book", "payments"] (defScope s_next_slips) := ⟨rfl, rfl, rfl, by decide +kernel, rfl, by decide +kernel, by decide +kernel⟩
def d_next_slips_0 : DS_ := (dRet (dCB oTuple (dCons (dFrz (dLc (dZip (dCons (dVar 0) (dCons (dVar 1) dNil))) (dgTup 2 (dgCons (dgTup 2 (dgCons (dgName 2) (dgCons (dgName 3) dgNil))) (dgCons (dgName 4) dgNil))) dYes (dCall sp_next_slip (dCons (dVar 3) (dCons (dVar 4) dNil))) [2, 3, 4])) dNil)))
def r_next_slips_0 : DS_ := d_next_slips_0
def d_next_slips : DS_ := r_next_slips_0
theorem w_next_slips {f : Addr} {fd : FuncData} {k : Nat} (F : Fun K "next_slips" "next_slips" s_next_slips f fd) (G : Gs mg) (hsys : ∃ o, base.get? sysModules = some o) (C_next_slip : Cal P w K mg base k "next_slip" ["pile", "paid"] sp_next_slip)
    (len : ∀ ds Q E, sp_next_slips ds Q E → ds.length = 2) (law : ∀ ds Q E, sp_next_slips ds Q E → d_next_slips { nx := fun _ => Q .non, rt := Q, ex := E } (dstart 5 ds)) : GFn P w K mg base (k + 1) f fd ["book", "payments"] sp_next_slips := by
  exact gfn_mk F sc_next_slips len (fun cdv A outer s H E hr hgd => (ds_one (ds_ret (de_tuple rfl G.g_tuple (da_cons (DN.toDE (dn_lc rfl sc_next_slips.nd (di_zip rfl G.g_zip (da_cons (de_var 0) (da_cons (de_var 1) da_nil))) (own := [("purse", 2), ("pile", 3), ("paid", 4)]) (blkOk_by (by show blkC N_next_slips (defScope s_next_slips) _ _ = true; decide +kernel)) (vsg := [2, 3, 4]) (by decide) (fun s H C cl fp => (dg_tup (n := 2) rfl (dgs_cons (dg_tup (n := 2) rfl (dgs_cons (dg_name 2 sc_next_slips.nd) (dgs_cons (dg_name 3 sc_next_slips.nd) dgs_nil))) (dgs_cons (dg_name 4 sc_next_slips.nd) dgs_nil)))) (fun s H C cl fp => dts_nil) (fun s H C cl fp => (de_call C_next_slip hr hgd passL rfl (da_cons (de_var 3) (da_cons (de_var 4) da_nil)))))) da_nil))))) law
/-! _law_one -/
abbrev N__law_one : List Str := ["_law_box", "_law_items"]
theorem sc__law_one : FnScope N__law_one ["_law_box", "_law_items"] (defScope s__law_one) := ⟨rfl, rfl, rfl, by decide +kernel, rfl, by decide +kernel, by decide +kernel⟩
def d__law_one_0 : DS_ := (dRet (dOp oIx (dVar 1) (dCall sp__law_draw (dCons (dVar 0) (dCons (dCB oLen (dCons (dVar 1) dNil)) dNil)))))
def r__law_one_0 : DS_ := d__law_one_0
def d__law_one : DS_ := r__law_one_0
theorem w__law_one {f : Addr} {fd : FuncData} {k : Nat} (F : Fun K "_law_one" "_law_one" s__law_one f fd) (G : Gs mg) (hsys : ∃ o, base.get? sysModules = some o) (C__law_draw : Cal P w K mg base k "_law_draw" ["_law_box", "_law_many"] sp__law_draw)
    (len : ∀ ds Q E, sp__law_one ds Q E → ds.length = 2) (law : ∀ ds Q E, sp__law_one ds Q E → d__law_one { nx := fun _ => Q .non, rt := Q, ex := E } (dstart 2 ds)) : GFn P w K mg base (k + 1) f fd ["_law_box", "_law_items"] sp__law_one := by
  exact gfn_mk F sc__law_one len (fun cdv A outer s H E hr hgd => (ds_one (ds_ret (de_ix (de_var 1) (de_call C__law_draw hr hgd passD rfl (da_cons (de_var 0) (da_cons (de_len rfl G.g_len (da_cons (de_var 1) da_nil)) da_nil))))))) law
/-! _law_pile -/
abbrev N__law_pile : List Str := ["_law_box", "_law_own", "_law_many", "_law_size", "_law_wide", "_law_found", "_law_k", "_law_to"]
theorem sc__law_pile : FnScope N__law_pile ["_law_box", "_law_own", "_law_many", "_law_size", "_law_wide"] (defScope s__law_pile) := ⟨rfl, rfl, rfl, by decide +kernel, rfl, by decide +kernel, by decide +kernel⟩
def d__law_pile_1b_1 : DS_ := (dApp 5 (dTup (dCons (dVar 7) (dCons (dOp oAdd (dC (.it 1)) (dCall sp__law_draw (dCons (dVar 0) (dCons (dVar 4) dNil)))) dNil))))
def r__law_pile_1b_1 : DS_ := d__law_pile_1b_1
def d__law_pile_1b_0 : DS_ := (dSet 7 (dOp oMod (dOp oAdd (dOp oAdd (dVar 1) (dC (.it 1))) (dCall sp__law_one (dCons (dVar 0) (dCons (dLst (dCons (dC (.it 0)) (dCons (dCall sp__law_draw (dCons (dVar 0) (dCons (dOp oSub (dVar 2) (dC (.it 1))) dNil))) dNil))) dNil)))) (dVar 2)))
def r__law_pile_1b_0 : DS_ := dSeq d__law_pile_1b_0 r__law_pile_1b_1
def d__law_pile_2 : DS_ := (dFrzS 5 (dRet (dCB oTuple (dCons (dVar 5) dNil))))
def r__law_pile_2 : DS_ := d__law_pile_2
def d__law_pile_1 : DS_ := (dFor (dRng1 (dCons (dOp oMulA (dCall sp__law_draw (dCons (dVar 0) (dCons (dOp oAdd (dVar 3) (dC (.it 1))) dNil))) (dCB oInt (dCons (dOp oGt (dVar 2) (dC (.it 1))) dNil))) dNil)) (dgName 6) r__law_pile_1b_0)
def r__law_pile_1 : DS_ := dSeq d__law_pile_1 r__law_pile_2
def d__law_pile_0 : DS_ := (dSetO 5 (dLstN dNil))
def r__law_pile_0 : DS_ := dSeq d__law_pile_0 r__law_pile_1
def d__law_pile : DS_ := r__law_pile_0
theorem w__law_pile {f : Addr} {fd : FuncData} {k : Nat} (F : Fun K "_law_pile" "_law_pile" s__law_pile f fd) (G : Gs mg) (hsys : ∃ o, base.get? sysModules = some o) (C__law_draw : Cal P w K mg base k "_law_draw" ["_law_box", "_law_many"] sp__law_draw) (C__law_one : Cal P w K mg base k "_law_one" ["_law_box", "_law_items"] sp__law_one)
    (len : ∀ ds Q E, sp__law_pile ds Q E → ds.length = 5) (law : ∀ ds Q E, sp__law_pile ds Q E → d__law_pile { nx := fun _ => Q .non, rt := Q, ex := E } (dstart 8 ds)) : GFn P w K mg base (k + 1) f fd ["_law_box", "_law_own", "_law_many", "_law_size", "_law_wide"] sp__law_pile := by
  exact gfn_mk F sc__law_pile len (fun cdv A outer s H E hr hgd => (ds_cons (ds_setO 5 (dn_lst da_nil) sc__law_pile.nd) (ds_cons (ds_for (passes_of rfl) rfl (di_range1 rfl G.g_range (da_cons (de_mulA (de_call C__law_draw hr hgd passD rfl (da_cons (de_var 0) (da_cons (de_add (de_var 3) de_int) da_nil))) (de_int1 rfl G.g_int (da_cons (de_gt (de_var 2) de_int) da_nil))) da_nil)) (dg_name 6 sc__law_pile.nd) (ds_cons (ds_set 7 (de_mod (de_add (de_add (de_var 1) de_int) (de_call C__law_one hr hgd passD rfl (da_cons (de_var 0) (da_cons (de_lst (da_cons de_int (da_cons (de_call C__law_draw hr hgd passD rfl (da_cons (de_var 0) (da_cons (de_sub (de_var 2) de_int) da_nil))) da_nil))) da_nil)))) (de_var 2)) sc__law_pile.nd) (ds_one (ds_append 5 (de_tup (da_cons (de_var 7) (da_cons (de_add de_int (de_call C__law_draw hr hgd passD rfl (da_cons (de_var 0) (da_cons (de_var 4) da_nil)))) da_nil))))))) (ds_one (ds_frz 5 (ds_ret (de_tuple rfl G.g_tuple (da_cons (de_var 5) da_nil)))))))) law
/-! _law_book -/
abbrev N__law_book : List Str := ["_law_box", "_law_most", "_law_size", "_law_wide", "_law_many", "_law_purses", "_law_k"]
theorem sc__law_book : FnScope N__law_book ["_law_box", "_law_most", "_law_size", "_law_wide"] (defScope s__law_book) := ⟨rfl, rfl, rfl, by decide +kernel, rfl, by decide +kernel, by decide +kernel⟩
def d__law_book_2 : DS_ := (dRet (dCB oTuple (dCons (dFrz (dLc (dRng1 (dCons (dVar 4) dNil)) (dgName 6) dYes (dTup (dCons (dOp oIx (dVar 5) (dVar 6)) (dCons (dCall sp__law_pile (dCons (dVar 0) (dCons (dVar 6) (dCons (dVar 4) (dCons (dVar 2) (dCons (dVar 3) dNil)))))) dNil))) [6])) dNil)))
def r__law_book_2 : DS_ := d__law_book_2
def d__law_book_1 : DS_ := (dSetN 5 (dLc (dRng1 (dCons (dVar 4) dNil)) (dgName 6) dYes (dCall sp__law_one (dCons (dVar 0) (dCons (dLst (dCons (dC (.it 0)) (dCons (dC (.it 0)) (dCons (dCall sp__law_draw (dCons (dVar 0) (dCons (dOp oAdd (dVar 3) (dC (.it 1))) dNil))) dNil)))) dNil))) [6]))
def r__law_book_1 : DS_ := dSeq d__law_book_1 r__law_book_2
def d__law_book_0 : DS_ := (dSet 4 (dOp oAdd (dC (.it 1)) (dCall sp__law_draw (dCons (dVar 0) (dCons (dVar 1) dNil)))))
def r__law_book_0 : DS_ := dSeq d__law_book_0 r__law_book_1
def d__law_book : DS_ := r__law_book_0
theorem w__law_book {f : Addr} {fd : FuncData} {k : Nat} (F : Fun K "_law_book" "_law_book" s__law_book f fd) (G : Gs mg) (hsys : ∃ o, base.get? sysModules = some o) (C__law_draw : Cal P w K mg base k "_law_draw" ["_law_box", "_law_many"] sp__law_draw) (C__law_one : Cal P w K mg base k "_law_one" ["_law_box", "_law_items"] sp__law_one) (C__law_pile : Cal P w K mg base k "_law_pile" ["_law_box", "_law_own", "_law_many", "_law_size", "_law_wide"] sp__law_pile)
    (len : ∀ ds Q E, sp__law_book ds Q E → ds.length = 4) (law : ∀ ds Q E, sp__law_book ds Q E → d__law_book { nx := fun _ => Q .non, rt := Q, ex := E } (dstart 7 ds)) : GFn P w K mg base (k + 1) f fd ["_law_box", "_law_most", "_law_size", "_law_wide"] sp__law_book := by
  exact gfn_mk F sc__law_book len (fun cdv A outer s H E hr hgd => (ds_cons (ds_set 4 (de_add de_int (de_call C__law_draw hr hgd passD rfl (da_cons (de_var 0) (da_cons (de_var 1) da_nil)))) sc__law_book.nd) (ds_cons (ds_setN 5 (dn_lc rfl sc__law_book.nd (di_range1 rfl G.g_range (da_cons (de_var 4) da_nil)) (own := [("_law_k", 6)]) (blkOk_by (by show blkC N__law_book (defScope s__law_book) _ _ = true; decide +kernel)) (vsg := [6]) (by decide) (fun s H C cl fp => (dg_name 6 sc__law_book.nd)) (fun s H C cl fp => dts_nil) (fun s H C cl fp => (de_call C__law_one hr hgd passL rfl (da_cons (de_var 0) (da_cons (de_lst (da_cons de_int (da_cons de_int (da_cons (de_call C__law_draw hr hgd passL rfl (da_cons (de_var 0) (da_cons (de_add (de_var 3) de_int) da_nil))) da_nil)))) da_nil))))) sc__law_book.nd) (ds_one (ds_ret (de_tuple rfl G.g_tuple (da_cons (DN.toDE (dn_lc rfl sc__law_book.nd (di_range1 rfl G.g_range (da_cons (de_var 4) da_nil)) (own := [("_law_k", 6)]) (blkOk_by (by show blkC N__law_book (defScope s__law_book) _ _ = true; decide +kernel)) (vsg := [6]) (by decide) (fun s H C cl fp => (dg_name 6 sc__law_book.nd)) (fun s H C cl fp => dts_nil) (fun s H C cl fp => (de_tup (da_cons (de_ix (de_var 5) (de_var 6)) (da_cons (de_call C__law_pile hr hgd passL rfl (da_cons (de_var 0) (da_cons (de_var 6) (da_cons (de_var 4) (da_cons (de_var 2) (da_cons (de_var 3) da_nil)))))) da_nil)))))) da_nil))))))) law
/-! _law_debts -/
abbrev N__law_debts : List Str := ["_law_book_here", "_law_purse", "_law_pile_here", "_law_to", "_law_amount"]
theorem sc__law_debts : FnScope N__law_debts ["_law_book_here"] (defScope s__law_debts) := ⟨rfl, rfl, rfl, by decide +kernel, rfl, by decide +kernel, by decide +kernel⟩
def d__law_debts_0 : DS_ := (dRet (dFrz (dLc (dSeqI (dVar 0)) (dgTup 2 (dgCons (dgName 1) (dgCons (dgName 2) dgNil))) dYes (dCB oSumA (dCons (dFrz (dLc (dSeqI (dVar 2)) (dgTup 2 (dgCons (dgName 3) (dgCons (dgName 4) dgNil))) dYes (dVar 4) [3, 4])) dNil)) [1, 2])))
def r__law_debts_0 : DS_ := d__law_debts_0
def d__law_debts : DS_ := r__law_debts_0
theorem w__law_debts {f : Addr} {fd : FuncData} {k : Nat} (F : Fun K "_law_debts" "_law_debts" s__law_debts f fd) (G : Gs mg) (hsys : ∃ o, base.get? sysModules = some o)
    (len : ∀ ds Q E, sp__law_debts ds Q E → ds.length = 1) (law : ∀ ds Q E, sp__law_debts ds Q E → d__law_debts { nx := fun _ => Q .non, rt := Q, ex := E } (dstart 5 ds)) : GFn P w K mg base (k + 1) f fd ["_law_book_here"] sp__law_debts := by
  exact gfn_mk F sc__law_debts len (fun cdv A outer s H E hr hgd => (ds_one (ds_ret (DN.toDE (dn_lc rfl sc__law_debts.nd (di_seq (de_var 0)) (own := [("_law_purse", 1), ("_law_pile_here", 2)]) (blkOk_by (by show blkC N__law_debts (defScope s__law_debts) _ _ = true; decide +kernel)) (vsg := [1, 2]) (by decide) (fun s H C cl fp => (dg_tup (n := 2) rfl (dgs_cons (dg_name 1 sc__law_debts.nd) (dgs_cons (dg_name 2 sc__law_debts.nd) dgs_nil)))) (fun s H C cl fp => dts_nil) (fun s H C cl fp => (de_sumA rfl rfl G.g_sum (da_cons (DN.toDE (dn_lc rfl sc__law_debts.nd (di_seq (de_var 2)) (own := [("_law_to", 3), ("_law_amount", 4)]) (blkOk_by (by with_unfolding_all rfl)) (vsg := [3, 4]) (by decide) (fun s H C cl fp => (dg_tup (n := 2) rfl (dgs_cons (dg_name 3 sc__law_debts.nd) (dgs_cons (dg_name 4 sc__law_debts.nd) dgs_nil)))) (fun s H C cl fp => dts_nil) (fun s H C cl fp => (de_var 4)))) da_nil)))))))) law
/-! _law_parts -/
abbrev N__law_parts : List Str := ["_law_pile_here", "_law_paid", "_law_found", "_law_to", "_law_amount", "_law_part"]
theorem sc__law_parts : FnScope N__law_parts ["_law_pile_here", "_law_paid"] (defScope s__law_parts) := ⟨rfl, rfl, rfl, by decide +kernel, rfl, by decide +kernel, by decide +kernel⟩
def d__law_parts_1b_2 : DS_ := (dSet 1 (dOp oSub (dVar 1) (dVar 5)))
def r__law_parts_1b_2 : DS_ := d__law_parts_1b_2
def d__law_parts_1b_1 : DS_ := (dApp 2 (dVar 5))
def r__law_parts_1b_1 : DS_ := dSeq d__law_parts_1b_1 r__law_parts_1b_2
def d__law_parts_1b_0 : DS_ := (dSet 5 (dIf (dTst (dOp oGe (dVar 1) (dVar 4))) (dVar 4) (dVar 1)))
def r__law_parts_1b_0 : DS_ := dSeq d__law_parts_1b_0 r__law_parts_1b_1
def d__law_parts_2 : DS_ := (dFrzS 2 (dRet (dVar 2)))
def r__law_parts_2 : DS_ := d__law_parts_2
def d__law_parts_1 : DS_ := (dFor (dSeqI (dVar 0)) (dgTup 2 (dgCons (dgName 3) (dgCons (dgName 4) dgNil))) r__law_parts_1b_0)
def r__law_parts_1 : DS_ := dSeq d__law_parts_1 r__law_parts_2
def d__law_parts_0 : DS_ := (dSetO 2 (dLstN dNil))
def r__law_parts_0 : DS_ := dSeq d__law_parts_0 r__law_parts_1
def d__law_parts : DS_ := r__law_parts_0
theorem w__law_parts {f : Addr} {fd : FuncData} {k : Nat} (F : Fun K "_law_parts" "_law_parts" s__law_parts f fd) (G : Gs mg) (hsys : ∃ o, base.get? sysModules = some o)
    (len : ∀ ds Q E, sp__law_parts ds Q E → ds.length = 2) (law : ∀ ds Q E, sp__law_parts ds Q E → d__law_parts { nx := fun _ => Q .non, rt := Q, ex := E } (dstart 6 ds)) : GFn P w K mg base (k + 1) f fd ["_law_pile_here", "_law_paid"] sp__law_parts := by
  exact gfn_mk F sc__law_parts len (fun cdv A outer s H E hr hgd => (ds_cons (ds_setO 2 (dn_lst da_nil) sc__law_parts.nd) (ds_cons (ds_for (passes_of rfl) rfl (di_seq (de_var 0)) (dg_tup (n := 2) rfl (dgs_cons (dg_name 3 sc__law_parts.nd) (dgs_cons (dg_name 4 sc__law_parts.nd) dgs_nil))) (ds_cons (ds_set 5 (de_ifExp (db_ge (de_var 1) (de_var 4)) (de_var 4) (de_var 1)) sc__law_parts.nd) (ds_cons (ds_append 2 (de_var 5)) (ds_one (ds_set 1 (de_sub (de_var 1) (de_var 5)) sc__law_parts.nd))))) (ds_one (ds_frz 2 (ds_ret (de_var 2))))))) law
/-! _law_held -/
abbrev N__law_held : List Str := ["_law_book_here", "_law_payments_here", "_law_found", "_law_purse", "_law_pile_here", "_law_paid", "_law_to", "_law_amount", "_law_part"]
theorem sc__law_held : FnScope N__law_held ["_law_book_here", "_law_payments_here"] (defScope s__law_held) := ⟨rfl, rfl, rfl, by decide +kernel, rfl, by decide +kernel, by decide +kernel⟩
def d__law_held_2 : DS_ := (dFrzS 2 (dRet (dVar 2)))
def r__law_held_2 : DS_ := d__law_held_2
def d__law_held_1 : DS_ := (dFor (dZip (dCons (dVar 0) (dCons (dVar 1) dNil))) (dgTup 2 (dgCons (dgTup 2 (dgCons (dgName 3) (dgCons (dgName 4) dgNil))) (dgCons (dgName 5) dgNil))) (dFor (dZip (dCons (dVar 4) (dCons (dCall sp__law_parts (dCons (dVar 4) (dCons (dVar 5) dNil))) dNil))) (dgTup 2 (dgCons (dgTup 2 (dgCons (dgName 6) (dgCons (dgName 7) dgNil))) (dgCons (dgName 8) dgNil))) (dSetIx 2 (dVar 6) (dOp oAdd (dLend 2 (dOp oIx (dVar 2) (dVar 6))) (dVar 8)))))
def r__law_held_1 : DS_ := dSeq d__law_held_1 r__law_held_2
def d__law_held_0 : DS_ := (dSetO 2 (dLc (dZip (dCons (dVar 0) (dCons (dVar 1) dNil))) (dgTup 2 (dgCons (dgTup 2 (dgCons (dgName 3) (dgCons (dgName 4) dgNil))) (dgCons (dgName 5) dgNil))) dYes (dOp oSub (dVar 3) (dVar 5)) [3, 4, 5]))
def r__law_held_0 : DS_ := dSeq d__law_held_0 r__law_held_1
def d__law_held : DS_ := r__law_held_0
theorem w__law_held {f : Addr} {fd : FuncData} {k : Nat} (F : Fun K "_law_held" "_law_held" s__law_held f fd) (G : Gs mg) (hsys : ∃ o, base.get? sysModules = some o) (C__law_parts : Cal P w K mg base k "_law_parts" ["_law_pile_here", "_law_paid"] sp__law_parts)
    (len : ∀ ds Q E, sp__law_held ds Q E → ds.length = 2) (law : ∀ ds Q E, sp__law_held ds Q E → d__law_held { nx := fun _ => Q .non, rt := Q, ex := E } (dstart 9 ds)) : GFn P w K mg base (k + 1) f fd ["_law_book_here", "_law_payments_here"] sp__law_held := by
  exact gfn_mk F sc__law_held len (fun cdv A outer s H E hr hgd => (ds_cons (ds_setLcO 2 rfl sc__law_held.nd (di_zip rfl G.g_zip (da_cons (de_var 0) (da_cons (de_var 1) da_nil))) (own := [("_law_purse", 3), ("_law_pile_here", 4), ("_law_paid", 5)]) (blkOk_by (by show blkC N__law_held (defScope s__law_held) _ _ = true; decide +kernel)) (vsg := [3, 4, 5]) (by decide) (fun s H C cl fp => (dg_tup (n := 2) rfl (dgs_cons (dg_tup (n := 2) rfl (dgs_cons (dg_name 3 sc__law_held.nd) (dgs_cons (dg_name 4 sc__law_held.nd) dgs_nil))) (dgs_cons (dg_name 5 sc__law_held.nd) dgs_nil)))) (fun s H C cl fp => dts_nil) (fun s H C cl fp => (de_sub (de_var 3) (de_var 5))) rfl) (ds_cons (ds_for (passes_of rfl) rfl (di_zip rfl G.g_zip (da_cons (de_var 0) (da_cons (de_var 1) da_nil))) (dg_tup (n := 2) rfl (dgs_cons (dg_tup (n := 2) rfl (dgs_cons (dg_name 3 sc__law_held.nd) (dgs_cons (dg_name 4 sc__law_held.nd) dgs_nil))) (dgs_cons (dg_name 5 sc__law_held.nd) dgs_nil))) (ds_one (ds_for (passes_of rfl) rfl (di_zip rfl G.g_zip (da_cons (de_var 4) (da_cons (de_call C__law_parts hr hgd passD rfl (da_cons (de_var 4) (da_cons (de_var 5) da_nil))) da_nil))) (dg_tup (n := 2) rfl (dgs_cons (dg_tup (n := 2) rfl (dgs_cons (dg_name 6 sc__law_held.nd) (dgs_cons (dg_name 7 sc__law_held.nd) dgs_nil))) (dgs_cons (dg_name 8 sc__law_held.nd) dgs_nil))) (ds_one (ds_setix 2 (de_add (de_lend 2 (de_ix (de_var 2) (de_var 6))) (de_var 8)) (de_var 6)))))) (ds_one (ds_frz 2 (ds_ret (de_var 2))))))) law
/-! _law_payments -/
abbrev N__law_payments : List Str := ["_law_box", "_law_book_here", "_law_found", "_law_purse", "_law_pile_here", "_law_ends", "_law_some", "_law_k", "_law_to", "_law_amount"]
theorem sc__law_payments : FnScope N__law_payments ["_law_box", "_law_book_here"] (defScope s__law_payments) := ⟨rfl, rfl, rfl, by decide +kernel, rfl, by decide +kernel, by decide +kernel⟩
def d__law_payments_1b_2 : DS_ := (dApp 2 (dCB oMinL (dCons (dCB oMaxL (dCons (dC (.it 0)) (dCons (dCall sp__law_one (dCons (dVar 0) (dCons (dVar 6) dNil))) dNil))) (dCons (dOp oIx (dVar 5) (dNeg (dC (.it 1)))) dNil))))
def r__law_payments_1b_2 : DS_ := d__law_payments_1b_2
def d__law_payments_1b_1 : DS_ := (dSet 6 (dLst (dCons (dCall sp__law_one (dCons (dVar 0) (dCons (dVar 5) dNil))) (dCons (dOp oAdd (dCall sp__law_one (dCons (dVar 0) (dCons (dVar 5) dNil))) (dC (.it 1))) (dCons (dOp oSub (dCall sp__law_one (dCons (dVar 0) (dCons (dVar 5) dNil))) (dC (.it 1))) (dCons (dCall sp__law_draw (dCons (dVar 0) (dCons (dOp oAdd (dOp oIx (dVar 5) (dNeg (dC (.it 1)))) (dC (.it 1))) dNil))) dNil))))))
def r__law_payments_1b_1 : DS_ := dSeq d__law_payments_1b_1 r__law_payments_1b_2
def d__law_payments_1b_0 : DS_ := (dSet 5 (dOp oAdd (dLst (dCons (dC (.it 0)) dNil)) (dFrz (dLc (dRng1 (dCons (dCB oLen (dCons (dVar 4) dNil)) dNil)) (dgName 7) dYes (dCB oSumA (dCons (dFrz (dLc (dSeqI (dSl (dVar 4) dNoPart (dPart (dOp oAdd (dVar 7) (dC (.it 1)))))) (dgTup 2 (dgCons (dgName 8) (dgCons (dgName 9) dgNil))) dYes (dVar 9) [8, 9])) dNil)) [7]))))
def r__law_payments_1b_0 : DS_ := dSeq d__law_payments_1b_0 r__law_payments_1b_1
def d__law_payments_2 : DS_ := (dFrzS 2 (dRet (dCB oTuple (dCons (dVar 2) dNil))))
def r__law_payments_2 : DS_ := d__law_payments_2
def d__law_payments_1 : DS_ := (dFor (dSeqI (dVar 1)) (dgTup 2 (dgCons (dgName 3) (dgCons (dgName 4) dgNil))) r__law_payments_1b_0)
def r__law_payments_1 : DS_ := dSeq d__law_payments_1 r__law_payments_2
def d__law_payments_0 : DS_ := (dSetO 2 (dLstN dNil))
def r__law_payments_0 : DS_ := dSeq d__law_payments_0 r__law_payments_1
def d__law_payments : DS_ := r__law_payments_0
theorem w__law_payments {f : Addr} {fd : FuncData} {k : Nat} (F : Fun K "_law_payments" "_law_payments" s__law_payments f fd) (G : Gs mg) (hsys : ∃ o, base.get? sysModules = some o) (C__law_draw : Cal P w K mg base k "_law_draw" ["_law_box", "_law_many"] sp__law_draw) (C__law_one : Cal P w K mg base k "_law_one" ["_law_box", "_law_items"] sp__law_one)
    (len : ∀ ds Q E, sp__law_payments ds Q E → ds.length = 2) (law : ∀ ds Q E, sp__law_payments ds Q E → d__law_payments { nx := fun _ => Q .non, rt := Q, ex := E } (dstart 10 ds)) : GFn P w K mg base (k + 1) f fd ["_law_box", "_law_book_here"] sp__law_payments := by
  exact gfn_mk F sc__law_payments len (fun cdv A outer s H E hr hgd => (ds_cons (ds_setO 2 (dn_lst da_nil) sc__law_payments.nd) (ds_cons (ds_for (passes_of rfl) rfl (di_seq (de_var 1)) (dg_tup (n := 2) rfl (dgs_cons (dg_name 3 sc__law_payments.nd) (dgs_cons (dg_name 4 sc__law_payments.nd) dgs_nil))) (ds_cons (ds_set 5 (de_add (de_lst (da_cons de_int da_nil)) (DN.toDE (dn_lc rfl sc__law_payments.nd (di_range1 rfl G.g_range (da_cons (de_len rfl G.g_len (da_cons (de_var 4) da_nil)) da_nil)) (own := [("_law_k", 7)]) (blkOk_by (by show blkC N__law_payments (defScope s__law_payments) _ _ = true; decide +kernel)) (vsg := [7]) (by decide) (fun s H C cl fp => (dg_name 7 sc__law_payments.nd)) (fun s H C cl fp => dts_nil) (fun s H C cl fp => (de_sumA rfl rfl G.g_sum (da_cons (DN.toDE (dn_lc rfl sc__law_payments.nd (di_seq (de_slice (de_var 4) do_none (do_some (de_add (de_var 7) de_int)))) (own := [("_law_to", 8), ("_law_amount", 9)]) (blkOk_by (by with_unfolding_all rfl)) (vsg := [8, 9]) (by decide) (fun s H C cl fp => (dg_tup (n := 2) rfl (dgs_cons (dg_name 8 sc__law_payments.nd) (dgs_cons (dg_name 9 sc__law_payments.nd) dgs_nil)))) (fun s H C cl fp => dts_nil) (fun s H C cl fp => (de_var 9)))) da_nil)))))) sc__law_payments.nd) (ds_cons (ds_set 6 (de_lst (da_cons (de_call C__law_one hr hgd passD rfl (da_cons (de_var 0) (da_cons (de_var 5) da_nil))) (da_cons (de_add (de_call C__law_one hr hgd passD rfl (da_cons (de_var 0) (da_cons (de_var 5) da_nil))) de_int) (da_cons (de_sub (de_call C__law_one hr hgd passD rfl (da_cons (de_var 0) (da_cons (de_var 5) da_nil))) de_int) (da_cons (de_call C__law_draw hr hgd passD rfl (da_cons (de_var 0) (da_cons (de_add (de_ix (de_var 5) (de_neg de_int)) de_int) da_nil))) da_nil))))) sc__law_payments.nd) (ds_one (ds_append 2 (de_min rfl rfl G.g_min (da_cons (de_max rfl rfl G.g_max (da_cons de_int (da_cons (de_call C__law_one hr hgd passD rfl (da_cons (de_var 0) (da_cons (de_var 6) da_nil))) da_nil))) (da_cons (de_ix (de_var 5) (de_neg de_int)) da_nil)))))))) (ds_one (ds_frz 2 (ds_ret (de_tuple rfl G.g_tuple (da_cons (de_var 2) da_nil)))))))) law
/-! _law_by_coins -/
abbrev N__law_by_coins : List Str := ["_law_book_here", "_law_some", "_law_found", "_law_purse", "_law_pile_here", "_law_paid", "_law_coins", "_law_to", "_law_amount"]
theorem sc__law_by_coins : FnScope N__law_by_coins ["_law_book_here", "_law_some"] (defScope s__law_by_coins) := ⟨rfl, rfl, rfl, by decide +kernel, rfl, by decide +kernel, by decide +kernel⟩
def d__law_by_coins_1b_2 : DS_ := (dFrzS 6 (dFor (dSeqI (dSl (dVar 6) dNoPart (dPart (dVar 5)))) (dgName 7) (dSetIx 2 (dVar 7) (dOp oAdd (dLend 2 (dOp oIx (dVar 2) (dVar 7))) (dC (.it 1))))))
def r__law_by_coins_1b_2 : DS_ := d__law_by_coins_1b_2
def d__law_by_coins_1b_1 : DS_ := (dFor (dSeqI (dVar 4)) (dgTup 2 (dgCons (dgName 7) (dgCons (dgName 8) dgNil))) (dExt 6 (dOp oMulA (dLst (dCons (dVar 7) dNil)) (dVar 8))))
def r__law_by_coins_1b_1 : DS_ := dSeq d__law_by_coins_1b_1 r__law_by_coins_1b_2
def d__law_by_coins_1b_0 : DS_ := (dSetO 6 (dLstN dNil))
def r__law_by_coins_1b_0 : DS_ := dSeq d__law_by_coins_1b_0 r__law_by_coins_1b_1
def d__law_by_coins_2 : DS_ := (dFrzS 2 (dRet (dVar 2)))
def r__law_by_coins_2 : DS_ := d__law_by_coins_2
def d__law_by_coins_1 : DS_ := (dFor (dZip (dCons (dVar 0) (dCons (dVar 1) dNil))) (dgTup 2 (dgCons (dgTup 2 (dgCons (dgName 3) (dgCons (dgName 4) dgNil))) (dgCons (dgName 5) dgNil))) r__law_by_coins_1b_0)
def r__law_by_coins_1 : DS_ := dSeq d__law_by_coins_1 r__law_by_coins_2
def d__law_by_coins_0 : DS_ := (dSetO 2 (dRepN (dLst (dCons (dC (.it 0)) dNil)) (dCB oLen (dCons (dVar 0) dNil))))
def r__law_by_coins_0 : DS_ := dSeq d__law_by_coins_0 r__law_by_coins_1
def d__law_by_coins : DS_ := r__law_by_coins_0
theorem w__law_by_coins {f : Addr} {fd : FuncData} {k : Nat} (F : Fun K "_law_by_coins" "_law_by_coins" s__law_by_coins f fd) (G : Gs mg) (hsys : ∃ o, base.get? sysModules = some o)
    (len : ∀ ds Q E, sp__law_by_coins ds Q E → ds.length = 2) (law : ∀ ds Q E, sp__law_by_coins ds Q E → d__law_by_coins { nx := fun _ => Q .non, rt := Q, ex := E } (dstart 9 ds)) : GFn P w K mg base (k + 1) f fd ["_law_book_here", "_law_some"] sp__law_by_coins := by
  exact gfn_mk F sc__law_by_coins len (fun cdv A outer s H E hr hgd => (ds_cons (ds_setO 2 (dn_rep (de_lst (da_cons de_int da_nil)) (de_len rfl G.g_len (da_cons (de_var 0) da_nil))) sc__law_by_coins.nd) (ds_cons (ds_for (passes_of rfl) rfl (di_zip rfl G.g_zip (da_cons (de_var 0) (da_cons (de_var 1) da_nil))) (dg_tup (n := 2) rfl (dgs_cons (dg_tup (n := 2) rfl (dgs_cons (dg_name 3 sc__law_by_coins.nd) (dgs_cons (dg_name 4 sc__law_by_coins.nd) dgs_nil))) (dgs_cons (dg_name 5 sc__law_by_coins.nd) dgs_nil))) (ds_cons (ds_setO 6 (dn_lst da_nil) sc__law_by_coins.nd) (ds_cons (ds_for (passes_of rfl) rfl (di_seq (de_var 4)) (dg_tup (n := 2) rfl (dgs_cons (dg_name 7 sc__law_by_coins.nd) (dgs_cons (dg_name 8 sc__law_by_coins.nd) dgs_nil))) (ds_one (ds_extend 6 (de_mulA (de_lst (da_cons (de_var 7) da_nil)) (de_var 8))))) (ds_one (ds_frz 6 (ds_for (passes_of rfl) rfl (di_seq (de_slice (de_var 6) do_none (do_some (de_var 5)))) (dg_name 7 sc__law_by_coins.nd) (ds_one (ds_setix 2 (de_add (de_lend 2 (de_ix (de_var 2) (de_var 7))) de_int) (de_var 7))))))))) (ds_one (ds_frz 2 (ds_ret (de_var 2))))))) law
/-! _law_coin_right -/
abbrev N__law_coin_right : List Str := ["_law_box", "_law_book_here", "_law_some", "_law_own", "_law_nexts", "_law_more", "_law_to", "_law_before", "_law_after", "_law_due", "_law_k", "_law_left"]
theorem sc__law_coin_right : FnScope N__law_coin_right ["_law_box", "_law_book_here", "_law_some"] (defScope s__law_coin_right) := ⟨rfl, rfl, rfl, by decide +kernel, rfl, by decide +kernel, by decide +kernel⟩
def d__law_coin_right_6 : DS_ := (dRet (dOp oEq (dCB oList (dCons (dVar 8) dNil)) (dVar 9)))
def r__law_coin_right_6 : DS_ := d__law_coin_right_6
def d__law_coin_right_5 : DS_ := (dSetN 9 (dLc (dEnum (dCons (dVar 7) dNil)) (dgTup 2 (dgCons (dgName 10) (dgCons (dgName 11) dgNil))) dYes (dOp oSub (dOp oAdd (dVar 11) (dCB oInt (dCons (dOp oEq (dVar 10) (dVar 6)) dNil))) (dCB oInt (dCons (dOp oEq (dVar 10) (dVar 3)) dNil))) [10, 11]))
def r__law_coin_right_5 : DS_ := dSeq d__law_coin_right_5 r__law_coin_right_6
def d__law_coin_right_4 : DS_ := (dPar 7 8 (dCons (dCall sp_held (dCons (dVar 1) (dCons (dVar 2) dNil))) (dCons (dCall sp_held (dCons (dVar 1) (dCons (dVar 5) dNil))) dNil)))
def r__law_coin_right_4 : DS_ := dSeq d__law_coin_right_4 r__law_coin_right_5
def d__law_coin_right_3 : DS_ := (dSet 6 (dOp oIx (dOp oIx (dOp oIx (dOp oIx (dVar 1) (dVar 3)) (dC (.it 1))) (dOp oIx (dVar 4) (dVar 3))) (dC (.it 0))))
def r__law_coin_right_3 : DS_ := dSeq d__law_coin_right_3 r__law_coin_right_4
def d__law_coin_right_2 : DS_ := (dSet 5 (dOp oAdd (dOp oAdd (dSl (dVar 2) dNoPart (dPart (dVar 3))) (dTup (dCons (dOp oAdd (dOp oIx (dVar 2) (dVar 3)) (dC (.it 1))) dNil))) (dSl (dVar 2) (dPart (dOp oAdd (dVar 3) (dC (.it 1)))) dNoPart)))
def r__law_coin_right_2 : DS_ := dSeq d__law_coin_right_2 r__law_coin_right_3
def d__law_coin_right_1 : DS_ := (dIfS (dTst (dIsN (dOp oIx (dVar 4) (dVar 3)))) (dRet (dOp oEq (dOp oIx (dVar 2) (dVar 3)) (dOp oIx (dCall sp__law_debts (dCons (dVar 1) dNil)) (dVar 3)))) dNext)
def r__law_coin_right_1 : DS_ := dSeq d__law_coin_right_1 r__law_coin_right_2
def d__law_coin_right_0 : DS_ := (dAsg (dTup (dCons (dCall sp__law_draw (dCons (dVar 0) (dCons (dCB oLen (dCons (dVar 1) dNil)) dNil))) (dCons (dCall sp_next_slips (dCons (dVar 1) (dCons (dVar 2) dNil))) dNil))) (dgTup 2 (dgCons (dgName 3) (dgCons (dgName 4) dgNil))))
def r__law_coin_right_0 : DS_ := dSeq d__law_coin_right_0 r__law_coin_right_1
def d__law_coin_right : DS_ := r__law_coin_right_0
theorem w__law_coin_right {f : Addr} {fd : FuncData} {k : Nat} (F : Fun K "_law_coin_right" "_law_coin_right" s__law_coin_right f fd) (G : Gs mg) (hsys : ∃ o, base.get? sysModules = some o) (C__law_debts : Cal P w K mg base k "_law_debts" ["_law_book_here"] sp__law_debts) (C__law_draw : Cal P w K mg base k "_law_draw" ["_law_box", "_law_many"] sp__law_draw) (C_held : Cal P w K mg base k "held" ["book", "payments"] sp_held) (C_next_slips : Cal P w K mg base k "next_slips" ["book", "payments"] sp_next_slips)
    (len : ∀ ds Q E, sp__law_coin_right ds Q E → ds.length = 3) (law : ∀ ds Q E, sp__law_coin_right ds Q E → d__law_coin_right { nx := fun _ => Q .non, rt := Q, ex := E } (dstart 12 ds)) : GFn P w K mg base (k + 1) f fd ["_law_box", "_law_book_here", "_law_some"] sp__law_coin_right := by
  exact gfn_mk F sc__law_coin_right len (fun cdv A outer s H E hr hgd => (ds_cons (ds_asg (de_tup (da_cons (de_call C__law_draw hr hgd passD rfl (da_cons (de_var 0) (da_cons (de_len rfl G.g_len (da_cons (de_var 1) da_nil)) da_nil))) (da_cons (de_call C_next_slips hr hgd passD rfl (da_cons (de_var 1) (da_cons (de_var 2) da_nil))) da_nil))) (dg_tup (n := 2) rfl (dgs_cons (dg_name 3 sc__law_coin_right.nd) (dgs_cons (dg_name 4 sc__law_coin_right.nd) dgs_nil)))) (ds_cons (ds_if (db_isN (de_ix (de_var 4) (de_var 3))) (ds_one (ds_ret (de_eq hr (de_ix (de_var 2) (de_var 3)) (de_ix (de_call C__law_debts hr hgd passD rfl (da_cons (de_var 1) da_nil)) (de_var 3))))) ds_nil) (ds_cons (ds_set 5 (de_add (de_add (de_slice (de_var 2) do_none (do_some (de_var 3))) (de_tup (da_cons (de_add (de_ix (de_var 2) (de_var 3)) de_int) da_nil))) (de_slice (de_var 2) (do_some (de_add (de_var 3) de_int)) do_none)) sc__law_coin_right.nd) (ds_cons (ds_set 6 (de_ix (de_ix (de_ix (de_ix (de_var 1) (de_var 3)) de_int) (de_ix (de_var 4) (de_var 3))) de_int) sc__law_coin_right.nd) (ds_cons (ds_par (i := 7) (j := 8) rfl sc__law_coin_right.nd (da_cons (de_call C_held hr hgd passD rfl (da_cons (de_var 1) (da_cons (de_var 2) da_nil))) (da_cons (de_call C_held hr hgd passD rfl (da_cons (de_var 1) (da_cons (de_var 5) da_nil))) da_nil)) rfl) (ds_cons (ds_setLcN 9 rfl sc__law_coin_right.nd (di_enum rfl G.g_enumerate (da_cons (de_var 7) da_nil)) (own := [("_law_k", 10), ("_law_left", 11)]) (blkOk_by (by show blkC N__law_coin_right (defScope s__law_coin_right) _ _ = true; decide +kernel)) (vsg := [10, 11]) (by decide) (fun s H C cl fp => (dg_tup (n := 2) rfl (dgs_cons (dg_name 10 sc__law_coin_right.nd) (dgs_cons (dg_name 11 sc__law_coin_right.nd) dgs_nil)))) (fun s H C cl fp => dts_nil) (fun s H C cl fp => (de_sub (de_add (de_var 11) (de_int1 rfl G.g_int (da_cons (de_eq hr (de_var 10) (de_var 6)) da_nil))) (de_int1 rfl G.g_int (da_cons (de_eq hr (de_var 10) (de_var 3)) da_nil)))) rfl) (ds_one (ds_ret (de_eq hr (de_list rfl G.g_list (da_cons (de_var 8) da_nil)) (de_var 9))))))))))) law
/-! the law, behind its first row -/
abbrev N_law : List Str := ["_law_script", "_law_box", "_law_turn", "_law_is_small", "_law_book_here", "_law_some", "_law_shown", "_law_due", "_law_got", "_law_again", "_law_left", "_law_paid", "_law_house", "_law_purse", "_law_pile_here"]
theorem sc_law : FnScope N_law ["_law_script"] (defScope s_law) := ⟨rfl, rfl, rfl, by decide +kernel, rfl, by decide +kernel, by decide +kernel⟩
def d_law_0b_9 : DS_ := (dIfS (dTst (dOp oNe (dCB oRepr (dCons (dLst (dCons (dVar 4) (dCons (dVar 5) dNil))) dNil)) (dVar 6))) (dRet (dC (.bl false))) dNext)
def r_law_0b_9 : DS_ := d_law_0b_9
def d_law_0b_8 : DS_ := (dIfS (dNot (dTst (dCall sp__law_coin_right (dCons (dVar 1) (dCons (dVar 4) (dCons (dVar 5) dNil)))))) (dRet (dC (.bl false))) dNext)
def r_law_0b_8 : DS_ := dSeq d_law_0b_8 r_law_0b_9
def d_law_0b_7 : DS_ := (dIfS (dTst (dOp oNe (dCB oSumA (dCons (dCall sp_held (dCons (dVar 4) (dCons (dVar 5) dNil))) dNil)) (dCB oSumA (dCons (dFrz (dLc (dSeqI (dVar 4)) (dgTup 2 (dgCons (dgName 13) (dgCons (dgName 14) dgNil))) dYes (dVar 13) [13, 14])) dNil)))) (dRet (dC (.bl false))) dNext)
def r_law_0b_7 : DS_ := dSeq d_law_0b_7 r_law_0b_8
def d_law_0b_6 : DS_ := (dIfS (dAnd (dTst (dVar 3)) (dTst (dOp oNe (dCB oList (dCons (dCall sp_received (dCons (dVar 4) (dCons (dVar 5) dNil))) dNil)) (dCall sp__law_by_coins (dCons (dVar 4) (dCons (dVar 5) dNil)))))) (dRet (dC (.bl false))) dNext)
def r_law_0b_6 : DS_ := dSeq d_law_0b_6 r_law_0b_7
def d_law_0b_5 : DS_ := (dFor (dRng1 (dCons (dC (.it 2)) dNil)) (dgName 9) (dIfS (dTst (dOp oNe (dCB oRepr (dCons (dLst (dCons (dCall sp_received (dCons (dVar 4) (dCons (dVar 5) dNil))) (dCons (dCall sp_held (dCons (dVar 4) (dCons (dVar 5) dNil))) dNil))) dNil)) (dCB oRepr (dCons (dLst (dCons (dVar 8) (dCons (dCB oTuple (dCons (dVar 7) dNil)) dNil))) dNil)))) (dRet (dC (.bl false))) dNext))
def r_law_0b_5 : DS_ := dSeq d_law_0b_5 r_law_0b_6
def d_law_0b_4 : DS_ := (dSet 8 (dCB oTuple (dCons (dFrz (dLc (dZip3 (dCons (dVar 7) (dCons (dVar 5) (dCons (dVar 4) dNil)))) (dgTup 3 (dgCons (dgName 10) (dgCons (dgName 11) (dgCons (dgName 12) dgNil)))) dYes (dOp oSub (dOp oAdd (dVar 10) (dVar 11)) (dOp oIx (dVar 12) (dC (.it 0)))) [10, 11, 12])) dNil)))
def r_law_0b_4 : DS_ := dSeq d_law_0b_4 r_law_0b_5
def d_law_0b_3 : DS_ := (dPar 6 7 (dCons (dCB oRepr (dCons (dLst (dCons (dVar 4) (dCons (dVar 5) dNil))) dNil)) (dCons (dCall sp__law_held (dCons (dVar 4) (dCons (dVar 5) dNil))) dNil)))
def r_law_0b_3 : DS_ := dSeq d_law_0b_3 r_law_0b_4
def d_law_0b_2 : DS_ := (dSet 5 (dCall sp__law_payments (dCons (dVar 1) (dCons (dVar 4) dNil))))
def r_law_0b_2 : DS_ := dSeq d_law_0b_2 r_law_0b_3
def d_law_0b_1 : DS_ := (dSet 4 (dCall sp__law_book (dCons (dVar 1) (dCons (dC (.it 6)) (dCons (dC (.it 6)) (dCons (dIf (dTst (dVar 3)) (dC (.it 12)) (dOp oPow (dC (.it 10)) (dC (.it 9)))) dNil))))))
def r_law_0b_1 : DS_ := dSeq d_law_0b_1 r_law_0b_2
def d_law_0b_0 : DS_ := (dSet 3 (dOp oEq (dOp oMod (dVar 2) (dC (.it 2))) (dC (.it 0))))
def r_law_0b_0 : DS_ := dSeq d_law_0b_0 r_law_0b_1
def d_law_1 : DS_ := (dRet (dC (.bl true)))
def r_law_1 : DS_ := d_law_1
def d_law_0 : DS_ := (dFor (dRng1 (dCons (dC (.it 16)) dNil)) (dgName 2) r_law_0b_0)
def r_law_0 : DS_ := dSeq d_law_0 r_law_1
def d_law : DS_ := r_law_0
theorem w_law {f : Addr} {k : Nat} (G : Gs mg) (hsys : ∃ o, base.get? sysModules = some o) (C__law_book : Cal P w K mg base k "_law_book" ["_law_box", "_law_most", "_law_size", "_law_wide"] sp__law_book) (C__law_by_coins : Cal P w K mg base k "_law_by_coins" ["_law_book_here", "_law_some"] sp__law_by_coins) (C__law_coin_right : Cal P w K mg base k "_law_coin_right" ["_law_box", "_law_book_here", "_law_some"] sp__law_coin_right) (C__law_held : Cal P w K mg base k "_law_held" ["_law_book_here", "_law_payments_here"] sp__law_held) (C__law_payments : Cal P w K mg base k "_law_payments" ["_law_box", "_law_book_here"] sp__law_payments) (C_held : Cal P w K mg base k "held" ["book", "payments"] sp_held) (C_received : Cal P w K mg base k "received" ["book", "payments"] sp_received) (cdv : Value) (A : Around) (outer : List Env) (s : Shared) (H : Hp) (E : XK) (hr : Room k (A.deeper (envOfC "law" (defScope s_law) s.heap.objs.size f cdv))) (hgd : A.guards = some []) :
    DSs (cxD P w K mg base N_law "law" (defScope s_law) f cdv A outer s H E) E ((defBody s_law).drop 1) d_law := by
  have h : DSs (cxD P w K mg base N_law "law" (defScope s_law) f cdv A outer s H E) E ((defBody s_law).drop 1) _ := (ds_cons (ds_for (passes_of rfl) rfl (di_range1 rfl G.g_range (da_cons de_int da_nil)) (dg_name 2 sc_law.nd) (ds_cons (ds_set 3 (de_eq hr (de_mod (de_var 2) de_int) de_int) sc_law.nd) (ds_cons (ds_set 4 (de_call C__law_book hr hgd passD rfl (da_cons (de_var 1) (da_cons de_int (da_cons de_int (da_cons (de_ifExp (db_val (de_var 3)) de_int (de_pow de_int de_int)) da_nil))))) sc_law.nd) (ds_cons (ds_set 5 (de_call C__law_payments hr hgd passD rfl (da_cons (de_var 1) (da_cons (de_var 4) da_nil))) sc_law.nd) (ds_cons (ds_par (i := 6) (j := 7) rfl sc_law.nd (da_cons (de_repr hr hgd hsys rfl G.g_repr (da_cons (de_lst (da_cons (de_var 4) (da_cons (de_var 5) da_nil))) da_nil)) (da_cons (de_call C__law_held hr hgd passD rfl (da_cons (de_var 4) (da_cons (de_var 5) da_nil))) da_nil)) rfl) (ds_cons (ds_set 8 (de_tuple rfl G.g_tuple (da_cons (DN.toDE (dn_lc rfl sc_law.nd (di_zip3 rfl G.g_zip (da_cons (de_var 7) (da_cons (de_var 5) (da_cons (de_var 4) da_nil)))) (own := [("_law_left", 10), ("_law_paid", 11), ("_law_house", 12)]) (blkOk_by (by show blkC N_law (defScope s_law) _ _ = true; decide +kernel)) (vsg := [10, 11, 12]) (by decide) (fun s H C cl fp => (dg_tup (n := 3) rfl (dgs_cons (dg_name 10 sc_law.nd) (dgs_cons (dg_name 11 sc_law.nd) (dgs_cons (dg_name 12 sc_law.nd) dgs_nil))))) (fun s H C cl fp => dts_nil) (fun s H C cl fp => (de_sub (de_add (de_var 10) (de_var 11)) (de_ix (de_var 12) de_int))))) da_nil)) sc_law.nd) (ds_cons (ds_for (passes_of rfl) rfl (di_range1 rfl G.g_range (da_cons de_int da_nil)) (dg_name 9 sc_law.nd) (ds_one (ds_if (db_ne hr (de_repr hr hgd hsys rfl G.g_repr (da_cons (de_lst (da_cons (de_call C_received hr hgd passD rfl (da_cons (de_var 4) (da_cons (de_var 5) da_nil))) (da_cons (de_call C_held hr hgd passD rfl (da_cons (de_var 4) (da_cons (de_var 5) da_nil))) da_nil))) da_nil)) (de_repr hr hgd hsys rfl G.g_repr (da_cons (de_lst (da_cons (de_var 8) (da_cons (de_tuple rfl G.g_tuple (da_cons (de_var 7) da_nil)) da_nil))) da_nil))) (ds_one (ds_ret de_bl)) ds_nil))) (ds_cons (ds_if (DW.toDB (dw_and (db_val (de_var 3)) (dw_and1 (db_ne hr (de_list rfl G.g_list (da_cons (de_call C_received hr hgd passD rfl (da_cons (de_var 4) (da_cons (de_var 5) da_nil))) da_nil)) (de_call C__law_by_coins hr hgd passD rfl (da_cons (de_var 4) (da_cons (de_var 5) da_nil))))))) (ds_one (ds_ret de_bl)) ds_nil) (ds_cons (ds_if (db_ne hr (de_sumA rfl rfl G.g_sum (da_cons (de_call C_held hr hgd passD rfl (da_cons (de_var 4) (da_cons (de_var 5) da_nil))) da_nil)) (de_sumA rfl rfl G.g_sum (da_cons (DN.toDE (dn_lc rfl sc_law.nd (di_seq (de_var 4)) (own := [("_law_purse", 13), ("_law_pile_here", 14)]) (blkOk_by (by show blkC N_law (defScope s_law) _ _ = true; decide +kernel)) (vsg := [13, 14]) (by decide) (fun s H C cl fp => (dg_tup (n := 2) rfl (dgs_cons (dg_name 13 sc_law.nd) (dgs_cons (dg_name 14 sc_law.nd) dgs_nil)))) (fun s H C cl fp => dts_nil) (fun s H C cl fp => (de_var 13)))) da_nil))) (ds_one (ds_ret de_bl)) ds_nil) (ds_cons (ds_if (db_not (db_val (de_call C__law_coin_right hr hgd passD rfl (da_cons (de_var 1) (da_cons (de_var 4) (da_cons (de_var 5) da_nil)))))) (ds_one (ds_ret de_bl)) ds_nil) (ds_one (ds_if (db_ne hr (de_repr hr hgd hsys rfl G.g_repr (da_cons (de_lst (da_cons (de_var 4) (da_cons (de_var 5) da_nil))) da_nil)) (de_var 6)) (ds_one (ds_ret de_bl)) ds_nil)))))))))))) (ds_one (ds_ret de_bl)))
  exact h
end
end Dl

set_option Elab.async false
set_option linter.all false
set_option maxRecDepth 100000
set_option maxHeartbeats 4000000
namespace Dl
open PySem PySem.Spec PyProof.Rows L2
theorem law_parts_of : ∀ ds Q E, sp_parts_of ds Q E → d_parts_of { nx := fun _ => Q .non, rt := Q, ex := E } (dstart 6 ds) := by
  rintro ds Qd E ⟨pile_1, paid_2, Q, rfl, hr, q⟩
  have m : Me [some (.v ((eT (eP eI eI)) pile_1)), some (.v (eI paid_2)), none, none, none, none] [.v ((eT (eP eI eI)) pile_1), .v (eI paid_2), .no, .no, .no, .no] := (me_of [.v ((eT (eP eI eI)) pile_1), .v (eI paid_2), .no, .no, .no, .no]).sub (by repeat (first | exact True.intro | refine And.intro rfl ?_))
  have h : TS [some (.v ((eT (eP eI eI)) pile_1)), some (.v (eI paid_2)), none, none, none, none] d_parts_of { nx := fun _ => Qd .non, rt := Qd, ex := E } (bindP (bindW (pureW []) szW) (fun found_3 => bindP (pureW paid_2) (fun left_4 => bindP (pureW pile_1) (fun xs => forP (fun x_10 (s_9 : (List Int) × Int) N_11 B_12 => bindP (bindW (pureW x_10.2) fun x => bindW (pureW s_9.2) fun y => min2 x y) (fun z_16 => appP s_9.1 (bindP (bindW (pureW s_9.2) fun x => bindW (bindW (pureW (s_9.1 ++ [z_16])) fun x => bindW (bindW (pureW (1 : Int)) fun i => pureW (-i)) fun y => ixW x y) fun y => subI x y) (fun left_17 => N_11 ((s_9.1 ++ [z_16]), left_17)) E)) E) (fun (s_9 : (List Int) × Int) => ((bindW (pureW s_9.1) sameW) Q E)) xs (found_3, left_4)) E) E) E) := by
    simp only [d_parts_of, d_parts_of_2b_1, r_parts_of_2b_1, d_parts_of_2b_0, r_parts_of_2b_0, d_parts_of_3, r_parts_of_3, d_parts_of_2, r_parts_of_2, d_parts_of_1, r_parts_of_1, d_parts_of_0, r_parts_of_0]
    exact (ts_setO 2 (tn_lst (tl_nil : TL _ _ eI _)) (fun found_3 => (ts_set 3 (te_var 1 (x := paid_2) (e := eI) rfl) (fun left_4 => (ts_for (fun (s_9 : (List Int) × Int) => [some (.v ((eT (eP eI eI)) pile_1)), some (.v (eI paid_2)), some (.own ((s_9.1 : (List Int)).map eI)), some (.v (eI s_9.2)), none, none]) (found_3, left_4) (ps1 := fun x_10 s_9 => [some (.v ((eT (eP eI eI)) pile_1)), some (.v (eI paid_2)), some (.own ((s_9.1 : (List Int)).map eI)), some (.v (eI s_9.2)), some (.v (eI x_10.1)), some (.v (eI x_10.2))]) (ti_T (te_var 0 (x := pile_1) (e := (eT (eP eI eI))) rfl)) (by repeat (first | exact True.intro | refine And.intro rfl ?_)) (fun x_10 s_9 => (tg_tup rfl (tgs_cons (tg_name 4) (tgs_cons (tg_name 5) tgs_nil)))) (fun x_10 s_9 N_11 nx_14 hN_13 => (ts_app 2 (xs := s_9.1) rfl (te_cb2 o_min2 (te_var 5 (x := x_10.2) (e := eI) rfl) (te_var 3 (x := s_9.2) (e := eI) rfl)) (fun z_16 => (ts_last (ts_set 3 (te_op o_sub (te_var 3 (x := s_9.2) (e := eI) rfl) (te_lend 2 (xs := (s_9.1 ++ [z_16])) rfl lf_I (fun _ _ _ h => h) (te_op o_ixL (te_var 2 (x := (s_9.1 ++ [z_16])) (e := (eL eI)) rfl) (te_neg (te_int 1))))) (fun left_17 => (ts_fall hN_13 ((s_9.1 ++ [z_16]), left_17) (by repeat (first | exact True.intro | refine And.intro rfl ?_))))))))) (fun s_9 => (ts_frz1 2 (xs := s_9.1) rfl (ts_ret hr (te_cb1 o_tupleL (te_var 2 (x := s_9.1) (e := (eL eI)) rfl))))))))))
  exact h _ m q
theorem law_slips_paid : ∀ ds Q E, sp_slips_paid ds Q E → d_slips_paid { nx := fun _ => Q .non, rt := Q, ex := E } (dstart 5 ds) := by
  rintro ds Qd E ⟨book_18, payments_19, Q, rfl, hr, q⟩
  have m : Me [some (.v ((eT (eP eI (eT (eP eI eI)))) book_18)), some (.v ((eT eI) payments_19)), none, none, none] [.v ((eT (eP eI (eT (eP eI eI)))) book_18), .v ((eT eI) payments_19), .no, .no, .no] := (me_of [.v ((eT (eP eI (eT (eP eI eI)))) book_18), .v ((eT eI) payments_19), .no, .no, .no]).sub (by repeat (first | exact True.intro | refine And.intro rfl ?_))
  have h : TS [some (.v ((eT (eP eI (eT (eP eI eI)))) book_18)), some (.v ((eT eI) payments_19)), none, none, none] d_slips_paid { nx := fun _ => Qd .non, rt := Qd, ex := E } (((bindW (bindW (bindW (pureW book_18) fun xs => bindW (pureW payments_19) fun ys => pureW (xs.zip ys)) fun xs => lcW (fun a_20 => (pureW true)) (fun a_20 => (bindW (pureW a_20.1.2) fun x0 => bindW (pureW a_20.2) fun x1 => t_parts_of x0 x1)) xs) sameW) Q E)) := by
    simp only [d_slips_paid, d_slips_paid_0, r_slips_paid_0]
    exact (ts_ret hr (te_cb1 o_tupleL (te_frz (tn_lc (ps1 := fun a_20 => [some (.v ((eT (eP eI (eT (eP eI eI)))) book_18)), some (.v ((eT eI) payments_19)), some (.v (eI a_20.1.1)), some (.v ((eT (eP eI eI)) a_20.1.2)), some (.v (eI a_20.2))]) (ti_zip sq_T sq_T (te_var 0 (x := book_18) (e := (eT (eP eI (eT (eP eI eI))))) rfl) (te_var 1 (x := payments_19) (e := (eT eI)) rfl)) (fun a_20 => (tg_tup rfl (tgs_cons (tg_tup rfl (tgs_cons (tg_name 2) (tgs_cons (tg_name 3) tgs_nil))) (tgs_cons (tg_name 4) tgs_nil)))) (fun a_20 => tb_yes) (fun a_20 => (te_call2 c_parts_of (te_var 3 (x := a_20.1.2) (e := (eT (eP eI eI))) rfl) (te_var 4 (x := a_20.2) (e := eI) rfl)))))))
  exact h _ m q
theorem law_received : ∀ ds Q E, sp_received ds Q E → d_received { nx := fun _ => Q .non, rt := Q, ex := E } (dstart 10 ds) := by
  rintro ds Qd E ⟨book_21, payments_22, Q, rfl, hr, q⟩
  have m : Me [some (.v ((eT (eP eI (eT (eP eI eI)))) book_21)), some (.v ((eT eI) payments_22)), none, none, none, none, none, none, none, none] [.v ((eT (eP eI (eT (eP eI eI)))) book_21), .v ((eT eI) payments_22), .no, .no, .no, .no, .no, .no, .no, .no] := (me_of [.v ((eT (eP eI (eT (eP eI eI)))) book_21), .v ((eT eI) payments_22), .no, .no, .no, .no, .no, .no, .no, .no]).sub (by repeat (first | exact True.intro | refine And.intro rfl ?_))
  have h : TS [some (.v ((eT (eP eI (eT (eP eI eI)))) book_21)), some (.v ((eT eI) payments_22)), none, none, none, none, none, none, none, none] d_received { nx := fun _ => Qd .non, rt := Qd, ex := E } (bindP (bindW (pureW book_21) fun xs => lcW (fun a_24 => (pureW true)) (fun a_24 => (pureW (0 : Int))) xs) (fun found_23 => bindP (bindW (pureW book_21) fun xs => bindW (bindW (pureW book_21) fun x0 => bindW (pureW payments_22) fun x1 => t_slips_paid x0 x1) fun ys => pureW (xs.zip ys)) (fun xs => forP (fun x_43 (s_42 : (List Int)) N_44 B_45 => bindP (bindW (pureW x_43.1.2) fun xs => bindW (pureW x_43.2) fun ys => pureW (xs.zip ys)) (fun xs => forP (fun x_55 (s_54 : (List Int)) N_56 B_57 => bindP (bindW (bindW (pureW s_54) fun x => bindW (pureW x_55.1.1) fun y => ixW x y) fun x => bindW (pureW x_55.2) fun y => addI x y) (fun y_62 => bindP (pureW x_55.1.1) (fun j_63 => setixP s_54 j_63 y_62 (fun found_61 => N_56 found_61)) E) E) (fun (s_54 : (List Int)) => N_44 s_54) xs s_42) E) (fun (s_42 : (List Int)) => ((bindW (pureW s_42) sameW) Q E)) xs found_23) E) E) := by
    simp only [d_received, d_received_2, r_received_2, d_received_1, r_received_1, d_received_0, r_received_0]
    exact (ts_setO 2 (tn_lc (ps1 := fun a_24 => [some (.v ((eT (eP eI (eT (eP eI eI)))) book_21)), some (.v ((eT eI) payments_22)), none, none, none, none, none, none, none, some (.v ((eP eI (eT (eP eI eI))) a_24))]) (ti_T (te_var 0 (x := book_21) (e := (eT (eP eI (eT (eP eI eI))))) rfl)) (fun a_24 => (tg_name 9)) (fun a_24 => tb_yes) (fun a_24 => (te_int 0))) (fun found_23 => (ts_for (fun (s_42 : (List Int)) => [some (.v ((eT (eP eI (eT (eP eI eI)))) book_21)), some (.v ((eT eI) payments_22)), some (.own ((s_42 : (List Int)).map eI)), none, none, none, none, none, none, none]) found_23 (ps1 := fun x_43 s_42 => [some (.v ((eT (eP eI (eT (eP eI eI)))) book_21)), some (.v ((eT eI) payments_22)), some (.own ((s_42 : (List Int)).map eI)), some (.v (eI x_43.1.1)), some (.v ((eT (eP eI eI)) x_43.1.2)), some (.v ((eT eI) x_43.2)), none, none, none, none]) (ti_zip sq_T sq_T (te_var 0 (x := book_21) (e := (eT (eP eI (eT (eP eI eI))))) rfl) (te_call2 c_slips_paid (te_var 0 (x := book_21) (e := (eT (eP eI (eT (eP eI eI))))) rfl) (te_var 1 (x := payments_22) (e := (eT eI)) rfl))) (by repeat (first | exact True.intro | refine And.intro rfl ?_)) (fun x_43 s_42 => (tg_tup rfl (tgs_cons (tg_tup rfl (tgs_cons (tg_name 3) (tgs_cons (tg_name 4) tgs_nil))) (tgs_cons (tg_name 5) tgs_nil)))) (fun x_43 s_42 N_44 nx_47 hN_46 => (ts_last (ts_for (fun (s_54 : (List Int)) => [some (.v ((eT (eP eI (eT (eP eI eI)))) book_21)), some (.v ((eT eI) payments_22)), some (.own ((s_54 : (List Int)).map eI)), some (.v (eI x_43.1.1)), some (.v ((eT (eP eI eI)) x_43.1.2)), some (.v ((eT eI) x_43.2)), none, none, none, none]) s_42 (ps1 := fun x_55 s_54 => [some (.v ((eT (eP eI (eT (eP eI eI)))) book_21)), some (.v ((eT eI) payments_22)), some (.own ((s_54 : (List Int)).map eI)), some (.v (eI x_43.1.1)), some (.v ((eT (eP eI eI)) x_43.1.2)), some (.v ((eT eI) x_43.2)), some (.v (eI x_55.1.1)), some (.v (eI x_55.1.2)), some (.v (eI x_55.2)), none]) (ti_zip sq_T sq_T (te_var 4 (x := x_43.1.2) (e := (eT (eP eI eI))) rfl) (te_var 5 (x := x_43.2) (e := (eT eI)) rfl)) (by repeat (first | exact True.intro | refine And.intro rfl ?_)) (fun x_55 s_54 => (tg_tup rfl (tgs_cons (tg_tup rfl (tgs_cons (tg_name 6) (tgs_cons (tg_name 7) tgs_nil))) (tgs_cons (tg_name 8) tgs_nil)))) (fun x_55 s_54 N_56 nx_59 hN_58 => (ts_last (ts_setix 2 (xs := s_54) rfl (te_op o_add (te_lend 2 (xs := s_54) rfl lf_I (fun _ _ _ h => h) (te_op o_ixL (te_var 2 (x := s_54) (e := (eL eI)) rfl) (te_var 6 (x := x_55.1.1) (e := eI) rfl))) (te_var 8 (x := x_55.2) (e := eI) rfl)) (te_var 6 (x := x_55.1.1) (e := eI) rfl) (fun found_61 => (ts_fall hN_58 found_61 (by repeat (first | exact True.intro | refine And.intro rfl ?_))))))) (fun s_54 => (ts_fall hN_46 s_54 (by repeat (first | exact True.intro | refine And.intro rfl ?_))))))) (fun s_42 => (ts_frz1 2 (xs := s_42) rfl (ts_ret hr (te_cb1 o_tupleL (te_var 2 (x := s_42) (e := (eL eI)) rfl))))))))
  exact h _ m q
theorem law_held : ∀ ds Q E, sp_held ds Q E → d_held { nx := fun _ => Q .non, rt := Q, ex := E } (dstart 7 ds) := by
  rintro ds Qd E ⟨book_64, payments_65, Q, rfl, hr, q⟩
  have m : Me [some (.v ((eT (eP eI (eT (eP eI eI)))) book_64)), some (.v ((eT eI) payments_65)), none, none, none, none, none] [.v ((eT (eP eI (eT (eP eI eI)))) book_64), .v ((eT eI) payments_65), .no, .no, .no, .no, .no] := (me_of [.v ((eT (eP eI (eT (eP eI eI)))) book_64), .v ((eT eI) payments_65), .no, .no, .no, .no, .no]).sub (by repeat (first | exact True.intro | refine And.intro rfl ?_))
  have h : TS [some (.v ((eT (eP eI (eT (eP eI eI)))) book_64)), some (.v ((eT eI) payments_65)), none, none, none, none, none] d_held { nx := fun _ => Qd .non, rt := Qd, ex := E } (bindP (bindW (pureW book_64) fun x0 => bindW (pureW payments_65) fun x1 => t_received x0 x1) (fun more_66 => ((bindW (bindW (bindW (pureW book_64) fun xs => bindW (pureW more_66) fun ys => bindW (pureW payments_65) fun zs => pureW (zip3 xs ys zs)) fun xs => lcW (fun a_67 => (pureW true)) (fun a_67 => (bindW (bindW (pureW a_67.1.1) fun x => bindW (pureW a_67.2.1) fun y => addI x y) fun x => bindW (pureW a_67.2.2) fun y => subI x y)) xs) sameW) Q E)) E) := by
    simp only [d_held, d_held_1, r_held_1, d_held_0, r_held_0]
    exact (ts_set 2 (te_call2 c_received (te_var 0 (x := book_64) (e := (eT (eP eI (eT (eP eI eI))))) rfl) (te_var 1 (x := payments_65) (e := (eT eI)) rfl)) (fun more_66 => (ts_ret hr (te_cb1 o_tupleL (te_frz (tn_lc (ps1 := fun a_67 => [some (.v ((eT (eP eI (eT (eP eI eI)))) book_64)), some (.v ((eT eI) payments_65)), some (.v ((eT eI) more_66)), some (.v (eI a_67.1.1)), some (.v ((eT (eP eI eI)) a_67.1.2)), some (.v (eI a_67.2.1)), some (.v (eI a_67.2.2))]) (ti_zip3 sq_T sq_T sq_T (te_var 0 (x := book_64) (e := (eT (eP eI (eT (eP eI eI))))) rfl) (te_var 2 (x := more_66) (e := (eT eI)) rfl) (te_var 1 (x := payments_65) (e := (eT eI)) rfl)) (fun a_67 => (tg_tup rfl (tgs_cons (tg_tup rfl (tgs_cons (tg_name 3) (tgs_cons (tg_name 4) tgs_nil))) (tgs_cons (tg_name 5) (tgs_cons (tg_name 6) tgs_nil))))) (fun a_67 => tb_yes) (fun a_67 => (te_op o_sub (te_op o_add (te_var 3 (x := a_67.1.1) (e := eI) rfl) (te_var 5 (x := a_67.2.1) (e := eI) rfl)) (te_var 6 (x := a_67.2.2) (e := eI) rfl)))))))))
  exact h _ m q
theorem law_next_slip : ∀ ds Q E, sp_next_slip ds Q E → d_next_slip { nx := fun _ => Q .non, rt := Q, ex := E } (dstart 6 ds) := by
  rintro ds Qd E ⟨pile_68, paid_69, Q, rfl, hr, q⟩
  have m : Me [some (.v ((eT (eP eI eI)) pile_68)), some (.v (eI paid_69)), none, none, none, none] [.v ((eT (eP eI eI)) pile_68), .v (eI paid_69), .no, .no, .no, .no] := (me_of [.v ((eT (eP eI eI)) pile_68), .v (eI paid_69), .no, .no, .no, .no]).sub (by repeat (first | exact True.intro | refine And.intro rfl ?_))
  have h : TS [some (.v ((eT (eP eI eI)) pile_68)), some (.v (eI paid_69)), none, none, none, none] d_next_slip { nx := fun _ => Qd .non, rt := Qd, ex := E } (bindP (pureW paid_69) (fun left_70 => bindP (bindW (pureW pile_68) fun xs => pureW (enI xs)) (fun xs => forP (fun x_75 (s_74 : Int) N_76 B_77 => bindP (bindW (pureW s_74) fun x => bindW (pureW x_75.2.2) fun y => ltI x y) (fun b => ifP b (((bindW (pureW x_75.1) fun x => pureW (some x)) Q E)) (bindP (bindW (pureW s_74) fun x => bindW (pureW x_75.2.2) fun y => subI x y) (fun left_81 => N_76 left_81) E)) E) (fun (s_74 : Int) => ((bindW (pureW ()) fun _ => pureW (none : (Option Int))) Q E)) xs left_70) E) E) := by
    simp only [d_next_slip, d_next_slip_1b_1, r_next_slip_1b_1, d_next_slip_1b_0, r_next_slip_1b_0, d_next_slip_2, r_next_slip_2, d_next_slip_1, r_next_slip_1, d_next_slip_0, r_next_slip_0]
    exact (ts_set 2 (te_var 1 (x := paid_69) (e := eI) rfl) (fun left_70 => (ts_for (fun (s_74 : Int) => [some (.v ((eT (eP eI eI)) pile_68)), some (.v (eI paid_69)), some (.v (eI s_74)), none, none, none]) left_70 (ps1 := fun x_75 s_74 => [some (.v ((eT (eP eI eI)) pile_68)), some (.v (eI paid_69)), some (.v (eI s_74)), some (.v (eI x_75.1)), some (.v (eI x_75.2.1)), some (.v (eI x_75.2.2))]) (ti_enT (te_var 0 (x := pile_68) (e := (eT (eP eI eI))) rfl)) (by repeat (first | exact True.intro | refine And.intro rfl ?_)) (fun x_75 s_74 => (tg_tup rfl (tgs_cons (tg_name 3) (tgs_cons (tg_tup rfl (tgs_cons (tg_name 4) (tgs_cons (tg_name 5) tgs_nil))) tgs_nil)))) (fun x_75 s_74 N_76 nx_79 hN_78 => (ts_seq0 (ts_if (tb_tst (te_op o_lt (te_var 2 (x := s_74) (e := eI) rfl) (te_var 5 (x := x_75.2.2) (e := eI) rfl))) (ts_ret hr (te_co (e' := (eO eI)) (fun x => some x) (fun _ => rfl) (te_var 3 (x := x_75.1) (e := eI) rfl))) (ts_via (ts_last (ts_set 2 (te_op o_sub (te_var 2 (x := s_74) (e := eI) rfl) (te_var 5 (x := x_75.2.2) (e := eI) rfl)) (fun left_81 => (ts_fall hN_78 left_81 (by repeat (first | exact True.intro | refine And.intro rfl ?_)))))))))) (fun s_74 => (ts_ret hr (te_co (e' := (eO eI)) (fun _ => none) (fun _ => rfl) te_non))))))
  exact h _ m q
theorem law_next_slips : ∀ ds Q E, sp_next_slips ds Q E → d_next_slips { nx := fun _ => Q .non, rt := Q, ex := E } (dstart 5 ds) := by
  rintro ds Qd E ⟨book_82, payments_83, Q, rfl, hr, q⟩
  have m : Me [some (.v ((eT (eP eI (eT (eP eI eI)))) book_82)), some (.v ((eT eI) payments_83)), none, none, none] [.v ((eT (eP eI (eT (eP eI eI)))) book_82), .v ((eT eI) payments_83), .no, .no, .no] := (me_of [.v ((eT (eP eI (eT (eP eI eI)))) book_82), .v ((eT eI) payments_83), .no, .no, .no]).sub (by repeat (first | exact True.intro | refine And.intro rfl ?_))
  have h : TS [some (.v ((eT (eP eI (eT (eP eI eI)))) book_82)), some (.v ((eT eI) payments_83)), none, none, none] d_next_slips { nx := fun _ => Qd .non, rt := Qd, ex := E } (((bindW (bindW (bindW (pureW book_82) fun xs => bindW (pureW payments_83) fun ys => pureW (xs.zip ys)) fun xs => lcW (fun a_84 => (pureW true)) (fun a_84 => (bindW (pureW a_84.1.2) fun x0 => bindW (pureW a_84.2) fun x1 => t_next_slip x0 x1)) xs) sameW) Q E)) := by
    simp only [d_next_slips, d_next_slips_0, r_next_slips_0]
    exact (ts_ret hr (te_cb1 o_tupleL (te_frz (tn_lc (ps1 := fun a_84 => [some (.v ((eT (eP eI (eT (eP eI eI)))) book_82)), some (.v ((eT eI) payments_83)), some (.v (eI a_84.1.1)), some (.v ((eT (eP eI eI)) a_84.1.2)), some (.v (eI a_84.2))]) (ti_zip sq_T sq_T (te_var 0 (x := book_82) (e := (eT (eP eI (eT (eP eI eI))))) rfl) (te_var 1 (x := payments_83) (e := (eT eI)) rfl)) (fun a_84 => (tg_tup rfl (tgs_cons (tg_tup rfl (tgs_cons (tg_name 2) (tgs_cons (tg_name 3) tgs_nil))) (tgs_cons (tg_name 4) tgs_nil)))) (fun a_84 => tb_yes) (fun a_84 => (te_call2 c_next_slip (te_var 3 (x := a_84.1.2) (e := (eT (eP eI eI))) rfl) (te_var 4 (x := a_84.2) (e := eI) rfl)))))))
  exact h _ m q
theorem law__law_pile : ∀ ds Q E, sp__law_pile ds Q E → d__law_pile { nx := fun _ => Q .non, rt := Q, ex := E } (dstart 8 ds) := by
  rintro ds Qd E ⟨box_85, own_86, many_87, size_88, wide_89, Q, rfl, hr, q⟩
  have m : Me [some (.v (eBx box_85)), some (.v (eI own_86)), some (.v (eI many_87)), some (.v (eI size_88)), some (.v (eI wide_89)), none, none, none] [.v (eBx box_85), .v (eI own_86), .v (eI many_87), .v (eI size_88), .v (eI wide_89), .no, .no, .no] := (me_of [.v (eBx box_85), .v (eI own_86), .v (eI many_87), .v (eI size_88), .v (eI wide_89), .no, .no, .no]).sub (by repeat (first | exact True.intro | refine And.intro rfl ?_))
  have h : TS [some (.v (eBx box_85)), some (.v (eI own_86)), some (.v (eI many_87)), some (.v (eI size_88)), some (.v (eI wide_89)), none, none, none] d__law_pile { nx := fun _ => Qd .non, rt := Qd, ex := E } (bindP (bindW (pureW []) szW) (fun found_90 => bindP (bindW (bindW (bindW (pureW box_85) fun x0 => bindW (bindW (pureW size_88) fun x => bindW (pureW (1 : Int)) fun y => addI x y) fun x1 => t__law_draw x0 x1) fun x => bindW (bindW (bindW (pureW many_87) fun x => bindW (pureW (1 : Int)) fun y => gtI x y) intB) fun y => mulI x y) rng1W) (fun xs => forP (fun x_96 (s_95 : (List (Int × Int))) N_97 B_98 => bindP (bindW (bindW (bindW (pureW own_86) fun x => bindW (pureW (1 : Int)) fun y => addI x y) fun x => bindW (bindW (pureW box_85) fun x0 => bindW (bindW (bindW (pureW (0 : Int)) fun x => bindW (bindW (bindW (pureW box_85) fun x0 => bindW (bindW (pureW many_87) fun x => bindW (pureW (1 : Int)) fun y => subI x y) fun x1 => t__law_draw x0 x1) fun x => bindW (pureW []) fun xs => pureW (x :: xs)) fun xs => pureW (x :: xs)) szW) fun x1 => t__law_one x0 x1) fun y => addI x y) fun x => bindW (pureW many_87) fun y => modI x y) (fun to_102 => bindP (bindW (pureW to_102) fun x => bindW (bindW (pureW (1 : Int)) fun x => bindW (bindW (pureW box_85) fun x0 => bindW (pureW wide_89) fun x1 => t__law_draw x0 x1) fun y => addI x y) fun y => pureW (x, y)) (fun z_103 => appP s_95 (N_97 (s_95 ++ [z_103]))) E) E) (fun (s_95 : (List (Int × Int))) => ((bindW (pureW s_95) sameW) Q E)) xs found_90) E) E) := by
    simp only [d__law_pile, d__law_pile_1b_1, r__law_pile_1b_1, d__law_pile_1b_0, r__law_pile_1b_0, d__law_pile_2, r__law_pile_2, d__law_pile_1, r__law_pile_1, d__law_pile_0, r__law_pile_0]
    exact (ts_setO 5 (tn_lst (tl_nil : TL _ _ (eP eI eI) _)) (fun found_90 => (ts_for (fun (s_95 : (List (Int × Int))) => [some (.v (eBx box_85)), some (.v (eI own_86)), some (.v (eI many_87)), some (.v (eI size_88)), some (.v (eI wide_89)), some (.own ((s_95 : (List (Int × Int))).map (eP eI eI))), none, none]) found_90 (ps1 := fun x_96 s_95 => [some (.v (eBx box_85)), some (.v (eI own_86)), some (.v (eI many_87)), some (.v (eI size_88)), some (.v (eI wide_89)), some (.own ((s_95 : (List (Int × Int))).map (eP eI eI))), some (.v (eI x_96)), none]) (ti_rng1 (te_op o_mul (te_call2 c__law_draw (te_var 0 (x := box_85) (e := eBx) rfl) (te_op o_add (te_var 3 (x := size_88) (e := eI) rfl) (te_int 1))) (te_cb1 o_intB (te_op o_gt (te_var 2 (x := many_87) (e := eI) rfl) (te_int 1))))) (by repeat (first | exact True.intro | refine And.intro rfl ?_)) (fun x_96 s_95 => (tg_name 6)) (fun x_96 s_95 N_97 nx_100 hN_99 => (ts_set 7 (te_op o_mod (te_op o_add (te_op o_add (te_var 1 (x := own_86) (e := eI) rfl) (te_int 1)) (te_call2 c__law_one (te_var 0 (x := box_85) (e := eBx) rfl) (te_lstL (tl_cons (te_int 0) (tl_cons (te_call2 c__law_draw (te_var 0 (x := box_85) (e := eBx) rfl) (te_op o_sub (te_var 2 (x := many_87) (e := eI) rfl) (te_int 1))) tl_nil))))) (te_var 2 (x := many_87) (e := eI) rfl)) (fun to_102 => (ts_last (ts_app 5 (xs := s_95) rfl (te_tup2 (te_var 7 (x := to_102) (e := eI) rfl) (te_op o_add (te_int 1) (te_call2 c__law_draw (te_var 0 (x := box_85) (e := eBx) rfl) (te_var 4 (x := wide_89) (e := eI) rfl)))) (fun z_103 => (ts_fall hN_99 (s_95 ++ [z_103]) (by repeat (first | exact True.intro | refine And.intro rfl ?_))))))))) (fun s_95 => (ts_frz1 5 (xs := s_95) rfl (ts_ret hr (te_cb1 o_tupleL (te_var 5 (x := s_95) (e := (eL (eP eI eI))) rfl))))))))
  exact h _ m q
theorem law__law_book : ∀ ds Q E, sp__law_book ds Q E → d__law_book { nx := fun _ => Q .non, rt := Q, ex := E } (dstart 7 ds) := by
  rintro ds Qd E ⟨box_104, most_105, size_106, wide_107, Q, rfl, hr, q⟩
  have m : Me [some (.v (eBx box_104)), some (.v (eI most_105)), some (.v (eI size_106)), some (.v (eI wide_107)), none, none, none] [.v (eBx box_104), .v (eI most_105), .v (eI size_106), .v (eI wide_107), .no, .no, .no] := (me_of [.v (eBx box_104), .v (eI most_105), .v (eI size_106), .v (eI wide_107), .no, .no, .no]).sub (by repeat (first | exact True.intro | refine And.intro rfl ?_))
  have h : TS [some (.v (eBx box_104)), some (.v (eI most_105)), some (.v (eI size_106)), some (.v (eI wide_107)), none, none, none] d__law_book { nx := fun _ => Qd .non, rt := Qd, ex := E } (bindP (bindW (pureW (1 : Int)) fun x => bindW (bindW (pureW box_104) fun x0 => bindW (pureW most_105) fun x1 => t__law_draw x0 x1) fun y => addI x y) (fun many_108 => bindP (bindW (bindW (pureW many_108) rng1W) fun xs => lcW (fun a_110 => (pureW true)) (fun a_110 => (bindW (pureW box_104) fun x0 => bindW (bindW (bindW (pureW (0 : Int)) fun x => bindW (bindW (pureW (0 : Int)) fun x => bindW (bindW (bindW (pureW box_104) fun x0 => bindW (bindW (pureW wide_107) fun x => bindW (pureW (1 : Int)) fun y => addI x y) fun x1 => t__law_draw x0 x1) fun x => bindW (pureW []) fun xs => pureW (x :: xs)) fun xs => pureW (x :: xs)) fun xs => pureW (x :: xs)) szW) fun x1 => t__law_one x0 x1)) xs) (fun purses_109 => ((bindW (bindW (bindW (pureW many_108) rng1W) fun xs => lcW (fun a_111 => (pureW true)) (fun a_111 => (bindW (bindW (pureW purses_109) fun x => bindW (pureW a_111) fun y => ixW x y) fun x => bindW (bindW (pureW box_104) fun x0 => bindW (pureW a_111) fun x1 => bindW (pureW many_108) fun x2 => bindW (pureW size_106) fun x3 => bindW (pureW wide_107) fun x4 => t__law_pile x0 x1 x2 x3 x4) fun y => pureW (x, y))) xs) sameW) Q E)) E) E) := by
    simp only [d__law_book, d__law_book_2, r__law_book_2, d__law_book_1, r__law_book_1, d__law_book_0, r__law_book_0]
    exact (ts_set 4 (te_op o_add (te_int 1) (te_call2 c__law_draw (te_var 0 (x := box_104) (e := eBx) rfl) (te_var 1 (x := most_105) (e := eI) rfl))) (fun many_108 => (ts_setN 5 (tn_lc (ps1 := fun a_110 => [some (.v (eBx box_104)), some (.v (eI most_105)), some (.v (eI size_106)), some (.v (eI wide_107)), some (.v (eI many_108)), none, some (.v (eI a_110))]) (ti_rng1 (te_var 4 (x := many_108) (e := eI) rfl)) (fun a_110 => (tg_name 6)) (fun a_110 => tb_yes) (fun a_110 => (te_call2 c__law_one (te_var 0 (x := box_104) (e := eBx) rfl) (te_lstL (tl_cons (te_int 0) (tl_cons (te_int 0) (tl_cons (te_call2 c__law_draw (te_var 0 (x := box_104) (e := eBx) rfl) (te_op o_add (te_var 3 (x := wide_107) (e := eI) rfl) (te_int 1))) tl_nil))))))) (fun purses_109 => (ts_ret hr (te_cb1 o_tupleL (te_frz (tn_lc (ps1 := fun a_111 => [some (.v (eBx box_104)), some (.v (eI most_105)), some (.v (eI size_106)), some (.v (eI wide_107)), some (.v (eI many_108)), some (.v ((eL eI) purses_109)), some (.v (eI a_111))]) (ti_rng1 (te_var 4 (x := many_108) (e := eI) rfl)) (fun a_111 => (tg_name 6)) (fun a_111 => tb_yes) (fun a_111 => (te_tup2 (te_op o_ixL (te_var 5 (x := purses_109) (e := (eL eI)) rfl) (te_var 6 (x := a_111) (e := eI) rfl)) (te_call5 c__law_pile (te_var 0 (x := box_104) (e := eBx) rfl) (te_var 6 (x := a_111) (e := eI) rfl) (te_var 4 (x := many_108) (e := eI) rfl) (te_var 2 (x := size_106) (e := eI) rfl) (te_var 3 (x := wide_107) (e := eI) rfl))))))))))))
  exact h _ m q
theorem law__law_debts : ∀ ds Q E, sp__law_debts ds Q E → d__law_debts { nx := fun _ => Q .non, rt := Q, ex := E } (dstart 5 ds) := by
  rintro ds Qd E ⟨book_here_112, Q, rfl, hr, q⟩
  have m : Me [some (.v ((eT (eP eI (eT (eP eI eI)))) book_here_112)), none, none, none, none] [.v ((eT (eP eI (eT (eP eI eI)))) book_here_112), .no, .no, .no, .no] := (me_of [.v ((eT (eP eI (eT (eP eI eI)))) book_here_112), .no, .no, .no, .no]).sub (by repeat (first | exact True.intro | refine And.intro rfl ?_))
  have h : TS [some (.v ((eT (eP eI (eT (eP eI eI)))) book_here_112)), none, none, none, none] d__law_debts { nx := fun _ => Qd .non, rt := Qd, ex := E } (((bindW (pureW book_here_112) fun xs => lcW (fun a_113 => (pureW true)) (fun a_113 => (bindW (bindW (pureW a_113.2) fun xs => lcW (fun a_114 => (pureW true)) (fun a_114 => (pureW a_114.2)) xs) sumW)) xs) Q E)) := by
    simp only [d__law_debts, d__law_debts_0, r__law_debts_0]
    exact (ts_ret hr (te_frz (tn_lc (ps1 := fun a_113 => [some (.v ((eT (eP eI (eT (eP eI eI)))) book_here_112)), some (.v (eI a_113.1)), some (.v ((eT (eP eI eI)) a_113.2)), none, none]) (ti_T (te_var 0 (x := book_here_112) (e := (eT (eP eI (eT (eP eI eI))))) rfl)) (fun a_113 => (tg_tup rfl (tgs_cons (tg_name 1) (tgs_cons (tg_name 2) tgs_nil)))) (fun a_113 => tb_yes) (fun a_113 => (te_cb1 o_sumAL (te_frz (tn_lc (ps1 := fun a_114 => [some (.v ((eT (eP eI (eT (eP eI eI)))) book_here_112)), some (.v (eI a_113.1)), some (.v ((eT (eP eI eI)) a_113.2)), some (.v (eI a_114.1)), some (.v (eI a_114.2))]) (ti_T (te_var 2 (x := a_113.2) (e := (eT (eP eI eI))) rfl)) (fun a_114 => (tg_tup rfl (tgs_cons (tg_name 3) (tgs_cons (tg_name 4) tgs_nil)))) (fun a_114 => tb_yes) (fun a_114 => (te_var 4 (x := a_114.2) (e := eI) rfl)))))))))
  exact h _ m q
theorem law__law_parts : ∀ ds Q E, sp__law_parts ds Q E → d__law_parts { nx := fun _ => Q .non, rt := Q, ex := E } (dstart 6 ds) := by
  rintro ds Qd E ⟨pile_here_115, paid_116, Q, rfl, hr, q⟩
  have m : Me [some (.v ((eT (eP eI eI)) pile_here_115)), some (.v (eI paid_116)), none, none, none, none] [.v ((eT (eP eI eI)) pile_here_115), .v (eI paid_116), .no, .no, .no, .no] := (me_of [.v ((eT (eP eI eI)) pile_here_115), .v (eI paid_116), .no, .no, .no, .no]).sub (by repeat (first | exact True.intro | refine And.intro rfl ?_))
  have h : TS [some (.v ((eT (eP eI eI)) pile_here_115)), some (.v (eI paid_116)), none, none, none, none] d__law_parts { nx := fun _ => Qd .non, rt := Qd, ex := E } (bindP (bindW (pureW []) szW) (fun found_117 => bindP (pureW pile_here_115) (fun xs => forP (fun x_124 (s_123 : (List Int) × Int) N_125 B_126 => bindP (bindW (bindW (pureW s_123.2) fun x => bindW (pureW x_124.2) fun y => geI x y) fun c => ifW c (pureW x_124.2) (pureW s_123.2)) (fun part_130 => bindP (pureW part_130) (fun z_131 => appP s_123.1 (bindP (bindW (pureW s_123.2) fun x => bindW (pureW part_130) fun y => subI x y) (fun paid_132 => N_125 ((s_123.1 ++ [z_131]), paid_132)) E)) E) E) (fun (s_123 : (List Int) × Int) => ((pureW s_123.1) Q E)) xs (found_117, paid_116)) E) E) := by
    simp only [d__law_parts, d__law_parts_1b_2, r__law_parts_1b_2, d__law_parts_1b_1, r__law_parts_1b_1, d__law_parts_1b_0, r__law_parts_1b_0, d__law_parts_2, r__law_parts_2, d__law_parts_1, r__law_parts_1, d__law_parts_0, r__law_parts_0]
    exact (ts_setO 2 (tn_lst (tl_nil : TL _ _ eI _)) (fun found_117 => (ts_for (fun (s_123 : (List Int) × Int) => [some (.v ((eT (eP eI eI)) pile_here_115)), some (.v (eI s_123.2)), some (.own ((s_123.1 : (List Int)).map eI)), none, none, none]) (found_117, paid_116) (ps1 := fun x_124 s_123 => [some (.v ((eT (eP eI eI)) pile_here_115)), some (.v (eI s_123.2)), some (.own ((s_123.1 : (List Int)).map eI)), some (.v (eI x_124.1)), some (.v (eI x_124.2)), none]) (ti_T (te_var 0 (x := pile_here_115) (e := (eT (eP eI eI))) rfl)) (by repeat (first | exact True.intro | refine And.intro rfl ?_)) (fun x_124 s_123 => (tg_tup rfl (tgs_cons (tg_name 3) (tgs_cons (tg_name 4) tgs_nil)))) (fun x_124 s_123 N_125 nx_128 hN_127 => (ts_set 5 (te_if (tb_tst (te_op o_ge (te_var 1 (x := s_123.2) (e := eI) rfl) (te_var 4 (x := x_124.2) (e := eI) rfl))) (te_var 4 (x := x_124.2) (e := eI) rfl) (te_var 1 (x := s_123.2) (e := eI) rfl)) (fun part_130 => (ts_app 2 (xs := s_123.1) rfl (te_var 5 (x := part_130) (e := eI) rfl) (fun z_131 => (ts_last (ts_set 1 (te_op o_sub (te_var 1 (x := s_123.2) (e := eI) rfl) (te_var 5 (x := part_130) (e := eI) rfl)) (fun paid_132 => (ts_fall hN_127 ((s_123.1 ++ [z_131]), paid_132) (by repeat (first | exact True.intro | refine And.intro rfl ?_))))))))))) (fun s_123 => (ts_frz1 2 (xs := s_123.1) rfl (ts_ret hr (te_var 2 (x := s_123.1) (e := (eL eI)) rfl)))))))
  exact h _ m q
theorem law__law_held : ∀ ds Q E, sp__law_held ds Q E → d__law_held { nx := fun _ => Q .non, rt := Q, ex := E } (dstart 9 ds) := by
  rintro ds Qd E ⟨book_here_133, payments_here_134, Q, rfl, hr, q⟩
  have m : Me [some (.v ((eT (eP eI (eT (eP eI eI)))) book_here_133)), some (.v ((eT eI) payments_here_134)), none, none, none, none, none, none, none] [.v ((eT (eP eI (eT (eP eI eI)))) book_here_133), .v ((eT eI) payments_here_134), .no, .no, .no, .no, .no, .no, .no] := (me_of [.v ((eT (eP eI (eT (eP eI eI)))) book_here_133), .v ((eT eI) payments_here_134), .no, .no, .no, .no, .no, .no, .no]).sub (by repeat (first | exact True.intro | refine And.intro rfl ?_))
  have h : TS [some (.v ((eT (eP eI (eT (eP eI eI)))) book_here_133)), some (.v ((eT eI) payments_here_134)), none, none, none, none, none, none, none] d__law_held { nx := fun _ => Qd .non, rt := Qd, ex := E } (bindP (bindW (bindW (pureW book_here_133) fun xs => bindW (pureW payments_here_134) fun ys => pureW (xs.zip ys)) fun xs => lcW (fun a_136 => (pureW true)) (fun a_136 => (bindW (pureW a_136.1.1) fun x => bindW (pureW a_136.2) fun y => subI x y)) xs) (fun found_135 => bindP (bindW (pureW book_here_133) fun xs => bindW (pureW payments_here_134) fun ys => pureW (xs.zip ys)) (fun xs => forP (fun x_155 (s_154 : (List Int)) N_156 B_157 => bindP (bindW (pureW x_155.1.2) fun xs => bindW (bindW (pureW x_155.1.2) fun x0 => bindW (pureW x_155.2) fun x1 => t__law_parts x0 x1) fun ys => pureW (xs.zip ys)) (fun xs => forP (fun x_167 (s_166 : (List Int)) N_168 B_169 => bindP (bindW (bindW (pureW s_166) fun x => bindW (pureW x_167.1.1) fun y => ixW x y) fun x => bindW (pureW x_167.2) fun y => addI x y) (fun y_174 => bindP (pureW x_167.1.1) (fun j_175 => setixP s_166 j_175 y_174 (fun found_173 => N_168 found_173)) E) E) (fun (s_166 : (List Int)) => N_156 s_166) xs s_154) E) (fun (s_154 : (List Int)) => ((pureW s_154) Q E)) xs found_135) E) E) := by
    simp only [d__law_held, d__law_held_2, r__law_held_2, d__law_held_1, r__law_held_1, d__law_held_0, r__law_held_0]
    exact (ts_setO 2 (tn_lc (ps1 := fun a_136 => [some (.v ((eT (eP eI (eT (eP eI eI)))) book_here_133)), some (.v ((eT eI) payments_here_134)), none, some (.v (eI a_136.1.1)), some (.v ((eT (eP eI eI)) a_136.1.2)), some (.v (eI a_136.2)), none, none, none]) (ti_zip sq_T sq_T (te_var 0 (x := book_here_133) (e := (eT (eP eI (eT (eP eI eI))))) rfl) (te_var 1 (x := payments_here_134) (e := (eT eI)) rfl)) (fun a_136 => (tg_tup rfl (tgs_cons (tg_tup rfl (tgs_cons (tg_name 3) (tgs_cons (tg_name 4) tgs_nil))) (tgs_cons (tg_name 5) tgs_nil)))) (fun a_136 => tb_yes) (fun a_136 => (te_op o_sub (te_var 3 (x := a_136.1.1) (e := eI) rfl) (te_var 5 (x := a_136.2) (e := eI) rfl)))) (fun found_135 => (ts_for (fun (s_154 : (List Int)) => [some (.v ((eT (eP eI (eT (eP eI eI)))) book_here_133)), some (.v ((eT eI) payments_here_134)), some (.own ((s_154 : (List Int)).map eI)), none, none, none, none, none, none]) found_135 (ps1 := fun x_155 s_154 => [some (.v ((eT (eP eI (eT (eP eI eI)))) book_here_133)), some (.v ((eT eI) payments_here_134)), some (.own ((s_154 : (List Int)).map eI)), some (.v (eI x_155.1.1)), some (.v ((eT (eP eI eI)) x_155.1.2)), some (.v (eI x_155.2)), none, none, none]) (ti_zip sq_T sq_T (te_var 0 (x := book_here_133) (e := (eT (eP eI (eT (eP eI eI))))) rfl) (te_var 1 (x := payments_here_134) (e := (eT eI)) rfl)) (by repeat (first | exact True.intro | refine And.intro rfl ?_)) (fun x_155 s_154 => (tg_tup rfl (tgs_cons (tg_tup rfl (tgs_cons (tg_name 3) (tgs_cons (tg_name 4) tgs_nil))) (tgs_cons (tg_name 5) tgs_nil)))) (fun x_155 s_154 N_156 nx_159 hN_158 => (ts_last (ts_for (fun (s_166 : (List Int)) => [some (.v ((eT (eP eI (eT (eP eI eI)))) book_here_133)), some (.v ((eT eI) payments_here_134)), some (.own ((s_166 : (List Int)).map eI)), some (.v (eI x_155.1.1)), some (.v ((eT (eP eI eI)) x_155.1.2)), some (.v (eI x_155.2)), none, none, none]) s_154 (ps1 := fun x_167 s_166 => [some (.v ((eT (eP eI (eT (eP eI eI)))) book_here_133)), some (.v ((eT eI) payments_here_134)), some (.own ((s_166 : (List Int)).map eI)), some (.v (eI x_155.1.1)), some (.v ((eT (eP eI eI)) x_155.1.2)), some (.v (eI x_155.2)), some (.v (eI x_167.1.1)), some (.v (eI x_167.1.2)), some (.v (eI x_167.2))]) (ti_zip sq_T sq_L (te_var 4 (x := x_155.1.2) (e := (eT (eP eI eI))) rfl) (te_call2 c__law_parts (te_var 4 (x := x_155.1.2) (e := (eT (eP eI eI))) rfl) (te_var 5 (x := x_155.2) (e := eI) rfl))) (by repeat (first | exact True.intro | refine And.intro rfl ?_)) (fun x_167 s_166 => (tg_tup rfl (tgs_cons (tg_tup rfl (tgs_cons (tg_name 6) (tgs_cons (tg_name 7) tgs_nil))) (tgs_cons (tg_name 8) tgs_nil)))) (fun x_167 s_166 N_168 nx_171 hN_170 => (ts_last (ts_setix 2 (xs := s_166) rfl (te_op o_add (te_lend 2 (xs := s_166) rfl lf_I (fun _ _ _ h => h) (te_op o_ixL (te_var 2 (x := s_166) (e := (eL eI)) rfl) (te_var 6 (x := x_167.1.1) (e := eI) rfl))) (te_var 8 (x := x_167.2) (e := eI) rfl)) (te_var 6 (x := x_167.1.1) (e := eI) rfl) (fun found_173 => (ts_fall hN_170 found_173 (by repeat (first | exact True.intro | refine And.intro rfl ?_))))))) (fun s_166 => (ts_fall hN_158 s_166 (by repeat (first | exact True.intro | refine And.intro rfl ?_))))))) (fun s_154 => (ts_frz1 2 (xs := s_154) rfl (ts_ret hr (te_var 2 (x := s_154) (e := (eL eI)) rfl)))))))
  exact h _ m q
theorem law__law_payments : ∀ ds Q E, sp__law_payments ds Q E → d__law_payments { nx := fun _ => Q .non, rt := Q, ex := E } (dstart 10 ds) := by
  rintro ds Qd E ⟨box_176, book_here_177, Q, rfl, hr, q⟩
  have m : Me [some (.v (eBx box_176)), some (.v ((eT (eP eI (eT (eP eI eI)))) book_here_177)), none, none, none, none, none, none, none, none] [.v (eBx box_176), .v ((eT (eP eI (eT (eP eI eI)))) book_here_177), .no, .no, .no, .no, .no, .no, .no, .no] := (me_of [.v (eBx box_176), .v ((eT (eP eI (eT (eP eI eI)))) book_here_177), .no, .no, .no, .no, .no, .no, .no, .no]).sub (by repeat (first | exact True.intro | refine And.intro rfl ?_))
  have h : TS [some (.v (eBx box_176)), some (.v ((eT (eP eI (eT (eP eI eI)))) book_here_177)), none, none, none, none, none, none, none, none] d__law_payments { nx := fun _ => Qd .non, rt := Qd, ex := E } (bindP (bindW (pureW []) szW) (fun found_178 => bindP (pureW book_here_177) (fun xs => forP (fun x_187 (s_186 : (List Int)) N_188 B_189 => bindP (bindW (bindW (bindW (pureW (0 : Int)) fun x => bindW (pureW []) fun xs => pureW (x :: xs)) szW) fun x => bindW (bindW (bindW (bindW (pureW x_187.2) lenW) rng1W) fun xs => lcW (fun a_194 => (pureW true)) (fun a_194 => (bindW (bindW (bindW (pureW x_187.2) fun xs => bindW (pureW none) fun l => bindW (bindW (bindW (pureW a_194) fun x => bindW (pureW (1 : Int)) fun y => addI x y) fun i => pureW (some i)) fun h => pureW (cutT xs l h)) fun xs => lcW (fun a_195 => (pureW true)) (fun a_195 => (pureW a_195.2)) xs) sumW)) xs) fun y => catW x y) (fun ends_193 => bindP (bindW (bindW (bindW (pureW box_176) fun x0 => bindW (pureW ends_193) fun x1 => t__law_one x0 x1) fun x => bindW (bindW (bindW (bindW (pureW box_176) fun x0 => bindW (pureW ends_193) fun x1 => t__law_one x0 x1) fun x => bindW (pureW (1 : Int)) fun y => addI x y) fun x => bindW (bindW (bindW (bindW (pureW box_176) fun x0 => bindW (pureW ends_193) fun x1 => t__law_one x0 x1) fun x => bindW (pureW (1 : Int)) fun y => subI x y) fun x => bindW (bindW (bindW (pureW box_176) fun x0 => bindW (bindW (bindW (pureW ends_193) fun x => bindW (bindW (pureW (1 : Int)) fun i => pureW (-i)) fun y => ixW x y) fun x => bindW (pureW (1 : Int)) fun y => addI x y) fun x1 => t__law_draw x0 x1) fun x => bindW (pureW []) fun xs => pureW (x :: xs)) fun xs => pureW (x :: xs)) fun xs => pureW (x :: xs)) fun xs => pureW (x :: xs)) szW) (fun some_196 => bindP (bindW (bindW (pureW (0 : Int)) fun x => bindW (bindW (pureW box_176) fun x0 => bindW (pureW some_196) fun x1 => t__law_one x0 x1) fun y => max2 x y) fun x => bindW (bindW (pureW ends_193) fun x => bindW (bindW (pureW (1 : Int)) fun i => pureW (-i)) fun y => ixW x y) fun y => min2 x y) (fun z_197 => appP s_186 (N_188 (s_186 ++ [z_197]))) E) E) E) (fun (s_186 : (List Int)) => ((bindW (pureW s_186) sameW) Q E)) xs found_178) E) E) := by
    simp only [d__law_payments, d__law_payments_1b_2, r__law_payments_1b_2, d__law_payments_1b_1, r__law_payments_1b_1, d__law_payments_1b_0, r__law_payments_1b_0, d__law_payments_2, r__law_payments_2, d__law_payments_1, r__law_payments_1, d__law_payments_0, r__law_payments_0]
    exact (ts_setO 2 (tn_lst (tl_nil : TL _ _ eI _)) (fun found_178 => (ts_for (fun (s_186 : (List Int)) => [some (.v (eBx box_176)), some (.v ((eT (eP eI (eT (eP eI eI)))) book_here_177)), some (.own ((s_186 : (List Int)).map eI)), none, none, none, none, none, none, none]) found_178 (ps1 := fun x_187 s_186 => [some (.v (eBx box_176)), some (.v ((eT (eP eI (eT (eP eI eI)))) book_here_177)), some (.own ((s_186 : (List Int)).map eI)), some (.v (eI x_187.1)), some (.v ((eT (eP eI eI)) x_187.2)), none, none, none, none, none]) (ti_T (te_var 1 (x := book_here_177) (e := (eT (eP eI (eT (eP eI eI))))) rfl)) (by repeat (first | exact True.intro | refine And.intro rfl ?_)) (fun x_187 s_186 => (tg_tup rfl (tgs_cons (tg_name 3) (tgs_cons (tg_name 4) tgs_nil)))) (fun x_187 s_186 N_188 nx_191 hN_190 => (ts_set 5 (te_op o_catL (te_lstL (tl_cons (te_int 0) tl_nil)) (te_frz (tn_lc (ps1 := fun a_194 => [some (.v (eBx box_176)), some (.v ((eT (eP eI (eT (eP eI eI)))) book_here_177)), some (.own ((s_186 : (List Int)).map eI)), some (.v (eI x_187.1)), some (.v ((eT (eP eI eI)) x_187.2)), none, none, some (.v (eI a_194)), none, none]) (ti_rng1 (te_cb1 o_lenT (te_var 4 (x := x_187.2) (e := (eT (eP eI eI))) rfl))) (fun a_194 => (tg_name 7)) (fun a_194 => tb_yes) (fun a_194 => (te_cb1 o_sumAL (te_frz (tn_lc (ps1 := fun a_195 => [some (.v (eBx box_176)), some (.v ((eT (eP eI (eT (eP eI eI)))) book_here_177)), some (.own ((s_186 : (List Int)).map eI)), some (.v (eI x_187.1)), some (.v ((eT (eP eI eI)) x_187.2)), none, none, some (.v (eI a_194)), some (.v (eI a_195.1)), some (.v (eI a_195.2))]) (ti_T (te_slT (te_var 4 (x := x_187.2) (e := (eT (eP eI eI))) rfl) tp_none (tp_some (te_op o_add (te_var 7 (x := a_194) (e := eI) rfl) (te_int 1))))) (fun a_195 => (tg_tup rfl (tgs_cons (tg_name 8) (tgs_cons (tg_name 9) tgs_nil)))) (fun a_195 => tb_yes) (fun a_195 => (te_var 9 (x := a_195.2) (e := eI) rfl))))))))) (fun ends_193 => (ts_set 6 (te_lstL (tl_cons (te_call2 c__law_one (te_var 0 (x := box_176) (e := eBx) rfl) (te_var 5 (x := ends_193) (e := (eL eI)) rfl)) (tl_cons (te_op o_add (te_call2 c__law_one (te_var 0 (x := box_176) (e := eBx) rfl) (te_var 5 (x := ends_193) (e := (eL eI)) rfl)) (te_int 1)) (tl_cons (te_op o_sub (te_call2 c__law_one (te_var 0 (x := box_176) (e := eBx) rfl) (te_var 5 (x := ends_193) (e := (eL eI)) rfl)) (te_int 1)) (tl_cons (te_call2 c__law_draw (te_var 0 (x := box_176) (e := eBx) rfl) (te_op o_add (te_op o_ixL (te_var 5 (x := ends_193) (e := (eL eI)) rfl) (te_neg (te_int 1))) (te_int 1))) tl_nil))))) (fun some_196 => (ts_last (ts_app 2 (xs := s_186) rfl (te_cb2 o_min2 (te_cb2 o_max2 (te_int 0) (te_call2 c__law_one (te_var 0 (x := box_176) (e := eBx) rfl) (te_var 6 (x := some_196) (e := (eL eI)) rfl))) (te_op o_ixL (te_var 5 (x := ends_193) (e := (eL eI)) rfl) (te_neg (te_int 1)))) (fun z_197 => (ts_fall hN_190 (s_186 ++ [z_197]) (by repeat (first | exact True.intro | refine And.intro rfl ?_))))))))))) (fun s_186 => (ts_frz1 2 (xs := s_186) rfl (ts_ret hr (te_cb1 o_tupleL (te_var 2 (x := s_186) (e := (eL eI)) rfl))))))))
  exact h _ m q
theorem law__law_by_coins : ∀ ds Q E, sp__law_by_coins ds Q E → d__law_by_coins { nx := fun _ => Q .non, rt := Q, ex := E } (dstart 9 ds) := by
  rintro ds Qd E ⟨book_here_198, some_199, Q, rfl, hr, q⟩
  have m : Me [some (.v ((eT (eP eI (eT (eP eI eI)))) book_here_198)), some (.v ((eT eI) some_199)), none, none, none, none, none, none, none] [.v ((eT (eP eI (eT (eP eI eI)))) book_here_198), .v ((eT eI) some_199), .no, .no, .no, .no, .no, .no, .no] := (me_of [.v ((eT (eP eI (eT (eP eI eI)))) book_here_198), .v ((eT eI) some_199), .no, .no, .no, .no, .no, .no, .no]).sub (by repeat (first | exact True.intro | refine And.intro rfl ?_))
  have h : TS [some (.v ((eT (eP eI (eT (eP eI eI)))) book_here_198)), some (.v ((eT eI) some_199)), none, none, none, none, none, none, none] d__law_by_coins { nx := fun _ => Qd .non, rt := Qd, ex := E } (bindP (bindW (bindW (bindW (pureW (0 : Int)) fun x => bindW (pureW []) fun xs => pureW (x :: xs)) szW) fun x => bindW (bindW (pureW book_here_198) lenW) fun y => repL x y) (fun found_200 => bindP (bindW (pureW book_here_198) fun xs => bindW (pureW some_199) fun ys => pureW (xs.zip ys)) (fun xs => forP (fun x_231 (s_230 : (List Int)) N_232 B_233 => bindP (bindW (pureW []) szW) (fun coins_237 => bindP (pureW x_231.1.2) (fun xs => forP (fun x_242 (s_241 : (List Int)) N_243 B_244 => bindP (bindW (bindW (bindW (pureW x_242.1) fun x => bindW (pureW []) fun xs => pureW (x :: xs)) szW) fun x => bindW (pureW x_242.2) fun y => repL x y) (fun z_248 => extP s_241 z_248 (N_243 (s_241 ++ z_248))) E) (fun (s_241 : (List Int)) => bindP (bindW (pureW s_241) fun xs => bindW (pureW none) fun l => bindW (bindW (pureW x_231.2) fun i => pureW (some i)) fun h => pureW (cutT xs l h)) (fun xs => forP (fun x_255 (s_254 : (List Int)) N_256 B_257 => bindP (bindW (bindW (pureW s_254) fun x => bindW (pureW x_255) fun y => ixW x y) fun x => bindW (pureW (1 : Int)) fun y => addI x y) (fun y_262 => bindP (pureW x_255) (fun j_263 => setixP s_254 j_263 y_262 (fun found_261 => N_256 found_261)) E) E) (fun (s_254 : (List Int)) => N_232 s_254) xs s_230) E) xs coins_237) E) E) (fun (s_230 : (List Int)) => ((pureW s_230) Q E)) xs found_200) E) E) := by
    simp only [d__law_by_coins, d__law_by_coins_1b_2, r__law_by_coins_1b_2, d__law_by_coins_1b_1, r__law_by_coins_1b_1, d__law_by_coins_1b_0, r__law_by_coins_1b_0, d__law_by_coins_2, r__law_by_coins_2, d__law_by_coins_1, r__law_by_coins_1, d__law_by_coins_0, r__law_by_coins_0]
    exact (ts_setO 2 (tn_rep (te_lstL (tl_cons (te_int 0) tl_nil)) (te_cb1 o_lenT (te_var 0 (x := book_here_198) (e := (eT (eP eI (eT (eP eI eI))))) rfl))) (fun found_200 => (ts_for (fun (s_230 : (List Int)) => [some (.v ((eT (eP eI (eT (eP eI eI)))) book_here_198)), some (.v ((eT eI) some_199)), some (.own ((s_230 : (List Int)).map eI)), none, none, none, none, none, none]) found_200 (ps1 := fun x_231 s_230 => [some (.v ((eT (eP eI (eT (eP eI eI)))) book_here_198)), some (.v ((eT eI) some_199)), some (.own ((s_230 : (List Int)).map eI)), some (.v (eI x_231.1.1)), some (.v ((eT (eP eI eI)) x_231.1.2)), some (.v (eI x_231.2)), none, none, none]) (ti_zip sq_T sq_T (te_var 0 (x := book_here_198) (e := (eT (eP eI (eT (eP eI eI))))) rfl) (te_var 1 (x := some_199) (e := (eT eI)) rfl)) (by repeat (first | exact True.intro | refine And.intro rfl ?_)) (fun x_231 s_230 => (tg_tup rfl (tgs_cons (tg_tup rfl (tgs_cons (tg_name 3) (tgs_cons (tg_name 4) tgs_nil))) (tgs_cons (tg_name 5) tgs_nil)))) (fun x_231 s_230 N_232 nx_235 hN_234 => (ts_setO 6 (tn_lst (tl_nil : TL _ _ eI _)) (fun coins_237 => (ts_for (fun (s_241 : (List Int)) => [some (.v ((eT (eP eI (eT (eP eI eI)))) book_here_198)), some (.v ((eT eI) some_199)), some (.own ((s_230 : (List Int)).map eI)), some (.v (eI x_231.1.1)), some (.v ((eT (eP eI eI)) x_231.1.2)), some (.v (eI x_231.2)), some (.own ((s_241 : (List Int)).map eI)), none, none]) coins_237 (ps1 := fun x_242 s_241 => [some (.v ((eT (eP eI (eT (eP eI eI)))) book_here_198)), some (.v ((eT eI) some_199)), some (.own ((s_230 : (List Int)).map eI)), some (.v (eI x_231.1.1)), some (.v ((eT (eP eI eI)) x_231.1.2)), some (.v (eI x_231.2)), some (.own ((s_241 : (List Int)).map eI)), some (.v (eI x_242.1)), some (.v (eI x_242.2))]) (ti_T (te_var 4 (x := x_231.1.2) (e := (eT (eP eI eI))) rfl)) (by repeat (first | exact True.intro | refine And.intro rfl ?_)) (fun x_242 s_241 => (tg_tup rfl (tgs_cons (tg_name 7) (tgs_cons (tg_name 8) tgs_nil)))) (fun x_242 s_241 N_243 nx_246 hN_245 => (ts_last (ts_ext 6 (xs := s_241) rfl (te_op o_repL (te_lstL (tl_cons (te_var 7 (x := x_242.1) (e := eI) rfl) tl_nil)) (te_var 8 (x := x_242.2) (e := eI) rfl)) (fun z_248 => (ts_fall hN_245 (s_241 ++ z_248) (by repeat (first | exact True.intro | refine And.intro rfl ?_))))))) (fun s_241 => (ts_last (ts_frz 6 (xs := s_241) rfl (ts_for (fun (s_254 : (List Int)) => [some (.v ((eT (eP eI (eT (eP eI eI)))) book_here_198)), some (.v ((eT eI) some_199)), some (.own ((s_254 : (List Int)).map eI)), some (.v (eI x_231.1.1)), some (.v ((eT (eP eI eI)) x_231.1.2)), some (.v (eI x_231.2)), some (.v ((eL eI) s_241)), none, none]) s_230 (ps1 := fun x_255 s_254 => [some (.v ((eT (eP eI (eT (eP eI eI)))) book_here_198)), some (.v ((eT eI) some_199)), some (.own ((s_254 : (List Int)).map eI)), some (.v (eI x_231.1.1)), some (.v ((eT (eP eI eI)) x_231.1.2)), some (.v (eI x_231.2)), some (.v ((eL eI) s_241)), some (.v (eI x_255)), none]) (ti_L (te_slL (te_var 6 (x := s_241) (e := (eL eI)) rfl) tp_none (tp_some (te_var 5 (x := x_231.2) (e := eI) rfl)))) (by repeat (first | exact True.intro | refine And.intro rfl ?_)) (fun x_255 s_254 => (tg_name 7)) (fun x_255 s_254 N_256 nx_259 hN_258 => (ts_last (ts_setix 2 (xs := s_254) rfl (te_op o_add (te_lend 2 (xs := s_254) rfl lf_I (fun _ _ _ h => h) (te_op o_ixL (te_var 2 (x := s_254) (e := (eL eI)) rfl) (te_var 7 (x := x_255) (e := eI) rfl))) (te_int 1)) (te_var 7 (x := x_255) (e := eI) rfl) (fun found_261 => (ts_fall hN_258 found_261 (by repeat (first | exact True.intro | refine And.intro rfl ?_))))))) (fun s_254 => (ts_fall hN_234 s_254 (by repeat (first | exact True.intro | refine And.intro rfl ?_)))))))))))) (fun s_230 => (ts_frz1 2 (xs := s_230) rfl (ts_ret hr (te_var 2 (x := s_230) (e := (eL eI)) rfl)))))))
  exact h _ m q
theorem law__law_coin_right : ∀ ds Q E, sp__law_coin_right ds Q E → d__law_coin_right { nx := fun _ => Q .non, rt := Q, ex := E } (dstart 12 ds) := by
  rintro ds Qd E ⟨box_264, book_here_265, some_266, Q, rfl, hr, q⟩
  have m : Me [some (.v (eBx box_264)), some (.v ((eT (eP eI (eT (eP eI eI)))) book_here_265)), some (.v ((eT eI) some_266)), none, none, none, none, none, none, none, none, none] [.v (eBx box_264), .v ((eT (eP eI (eT (eP eI eI)))) book_here_265), .v ((eT eI) some_266), .no, .no, .no, .no, .no, .no, .no, .no, .no] := (me_of [.v (eBx box_264), .v ((eT (eP eI (eT (eP eI eI)))) book_here_265), .v ((eT eI) some_266), .no, .no, .no, .no, .no, .no, .no, .no, .no]).sub (by repeat (first | exact True.intro | refine And.intro rfl ?_))
  have h : TS [some (.v (eBx box_264)), some (.v ((eT (eP eI (eT (eP eI eI)))) book_here_265)), some (.v ((eT eI) some_266)), none, none, none, none, none, none, none, none, none] d__law_coin_right { nx := fun _ => Qd .non, rt := Qd, ex := E } (bindP (bindW (bindW (pureW box_264) fun x0 => bindW (bindW (pureW book_here_265) lenW) fun x1 => t__law_draw x0 x1) fun x => bindW (bindW (pureW book_here_265) fun x0 => bindW (pureW some_266) fun x1 => t_next_slips x0 x1) fun y => pureW (x, y)) (fun z_267 => bindP (bindW (bindW (pureW z_267.2) fun x => bindW (pureW z_267.1) fun y => ixW x y) fun x => pureW x.isNone) (fun b => ifP b (((bindW (bindW (pureW some_266) fun x => bindW (pureW z_267.1) fun y => ixW x y) fun x => bindW (bindW (bindW (pureW book_here_265) fun x0 => t__law_debts x0) fun x => bindW (pureW z_267.1) fun y => ixW x y) fun y => eqI x y) Q E)) (bindP (bindW (bindW (bindW (pureW some_266) fun xs => bindW (pureW none) fun l => bindW (bindW (pureW z_267.1) fun i => pureW (some i)) fun h => pureW (cutT xs l h)) fun x => bindW (bindW (bindW (bindW (bindW (pureW some_266) fun x => bindW (pureW z_267.1) fun y => ixW x y) fun x => bindW (pureW (1 : Int)) fun y => addI x y) fun x => bindW (pureW []) fun xs => pureW (x :: xs)) szW) fun y => catW x y) fun x => bindW (bindW (pureW some_266) fun xs => bindW (bindW (bindW (pureW z_267.1) fun x => bindW (pureW (1 : Int)) fun y => addI x y) fun i => pureW (some i)) fun l => bindW (pureW none) fun h => pureW (cutT xs l h)) fun y => catW x y) (fun more_268 => bindP (bindW (bindW (bindW (bindW (pureW book_here_265) fun x => bindW (pureW z_267.1) fun y => ixW x y) fun p => pureW p.2) fun x => bindW (bindW (bindW (pureW z_267.2) fun x => bindW (pureW z_267.1) fun y => ixW x y) getW) fun y => ixW x y) fun p => pureW p.1) (fun to_269 => bindP (bindW (pureW book_here_265) fun x0 => bindW (pureW some_266) fun x1 => t_held x0 x1) (fun before_270 => bindP (bindW (pureW book_here_265) fun x0 => bindW (pureW more_268) fun x1 => t_held x0 x1) (fun after_271 => bindP (bindW (bindW (pureW before_270) fun xs => pureW (enI xs)) fun xs => lcW (fun a_273 => (pureW true)) (fun a_273 => (bindW (bindW (pureW a_273.2) fun x => bindW (bindW (bindW (pureW a_273.1) fun x => bindW (pureW to_269) fun y => eqI x y) intB) fun y => addI x y) fun x => bindW (bindW (bindW (pureW a_273.1) fun x => bindW (pureW z_267.1) fun y => eqI x y) intB) fun y => subI x y)) xs) (fun due_272 => ((bindW (bindW (pureW after_271) sameW) fun x => bindW (pureW due_272) fun y => eqW x y) Q E)) E) E) E) E) E)) E) E) := by
    simp only [d__law_coin_right, d__law_coin_right_6, r__law_coin_right_6, d__law_coin_right_5, r__law_coin_right_5, d__law_coin_right_4, r__law_coin_right_4, d__law_coin_right_3, r__law_coin_right_3, d__law_coin_right_2, r__law_coin_right_2, d__law_coin_right_1, r__law_coin_right_1, d__law_coin_right_0, r__law_coin_right_0]
    exact (ts_asg (ps1 := fun z_267 => [some (.v (eBx box_264)), some (.v ((eT (eP eI (eT (eP eI eI)))) book_here_265)), some (.v ((eT eI) some_266)), some (.v (eI z_267.1)), some (.v ((eT (eO eI)) z_267.2)), none, none, none, none, none, none, none]) (te_tup2 (te_call2 c__law_draw (te_var 0 (x := box_264) (e := eBx) rfl) (te_cb1 o_lenT (te_var 1 (x := book_here_265) (e := (eT (eP eI (eT (eP eI eI))))) rfl))) (te_call2 c_next_slips (te_var 1 (x := book_here_265) (e := (eT (eP eI (eT (eP eI eI))))) rfl) (te_var 2 (x := some_266) (e := (eT eI)) rfl))) (fun z_267 => (tg_tup rfl (tgs_cons (tg_name 3) (tgs_cons (tg_name 4) tgs_nil)))) (fun z_267 => (ts_seq0 (ts_if (tb_tst (te_isNO nn_I (te_op o_ixT (te_var 4 (x := z_267.2) (e := (eT (eO eI))) rfl) (te_var 3 (x := z_267.1) (e := eI) rfl)))) (ts_ret hr (te_op o_eqI (te_op o_ixT (te_var 2 (x := some_266) (e := (eT eI)) rfl) (te_var 3 (x := z_267.1) (e := eI) rfl)) (te_op o_ixL (te_call1 c__law_debts (te_var 1 (x := book_here_265) (e := (eT (eP eI (eT (eP eI eI))))) rfl)) (te_var 3 (x := z_267.1) (e := eI) rfl)))) (ts_via (ts_set 5 (te_op o_catT (te_op o_catT (te_slT (te_var 2 (x := some_266) (e := (eT eI)) rfl) tp_none (tp_some (te_var 3 (x := z_267.1) (e := eI) rfl))) (te_tupL (tl_cons (te_op o_add (te_op o_ixT (te_var 2 (x := some_266) (e := (eT eI)) rfl) (te_var 3 (x := z_267.1) (e := eI) rfl)) (te_int 1)) tl_nil))) (te_slT (te_var 2 (x := some_266) (e := (eT eI)) rfl) (tp_some (te_op o_add (te_var 3 (x := z_267.1) (e := eI) rfl) (te_int 1))) tp_none)) (fun more_268 => (ts_set 6 (te_prj (e := (eP eI eI)) (k := 0) (e' := eI) (fun p => p.1) (fun _ _ q => q) (te_op o_ixT (te_prj (e := (eP eI (eT (eP eI eI)))) (k := 1) (e' := (eT (eP eI eI))) (fun p => p.2) (fun _ _ q => q) (te_op o_ixT (te_var 1 (x := book_here_265) (e := (eT (eP eI (eT (eP eI eI))))) rfl) (te_var 3 (x := z_267.1) (e := eI) rfl))) (te_get (te_op o_ixT (te_var 4 (x := z_267.2) (e := (eT (eO eI))) rfl) (te_var 3 (x := z_267.1) (e := eI) rfl))))) (fun to_269 => (ts_par 7 8 (te_call2 c_held (te_var 1 (x := book_here_265) (e := (eT (eP eI (eT (eP eI eI))))) rfl) (te_var 2 (x := some_266) (e := (eT eI)) rfl)) (te_call2 c_held (te_var 1 (x := book_here_265) (e := (eT (eP eI (eT (eP eI eI))))) rfl) (te_var 5 (x := more_268) (e := (eT eI)) rfl)) (fun before_270 after_271 => (ts_setN 9 (tn_lc (ps1 := fun a_273 => [some (.v (eBx box_264)), some (.v ((eT (eP eI (eT (eP eI eI)))) book_here_265)), some (.v ((eT eI) some_266)), some (.v (eI z_267.1)), some (.v ((eT (eO eI)) z_267.2)), some (.v ((eT eI) more_268)), some (.v (eI to_269)), some (.v ((eT eI) before_270)), some (.v ((eT eI) after_271)), none, some (.v (eI a_273.1)), some (.v (eI a_273.2))]) (ti_enT (te_var 7 (x := before_270) (e := (eT eI)) rfl)) (fun a_273 => (tg_tup rfl (tgs_cons (tg_name 10) (tgs_cons (tg_name 11) tgs_nil)))) (fun a_273 => tb_yes) (fun a_273 => (te_op o_sub (te_op o_add (te_var 11 (x := a_273.2) (e := eI) rfl) (te_cb1 o_intB (te_op o_eqI (te_var 10 (x := a_273.1) (e := eI) rfl) (te_var 6 (x := to_269) (e := eI) rfl)))) (te_cb1 o_intB (te_op o_eqI (te_var 10 (x := a_273.1) (e := eI) rfl) (te_var 3 (x := z_267.1) (e := eI) rfl)))))) (fun due_272 => (ts_ret hr (te_op (o_eq (eq_L eq_I) (by decide) ni_L) (te_cb1 o_listT (te_var 8 (x := after_271) (e := (eT eI)) rfl)) (te_var 9 (x := due_272) (e := (eL eI)) rfl))))))))))))))))
  exact h _ m q
theorem tlaw_law (q : t_law (fun b => b = true) (fun _ => False)) : ∀ s0, d_law { nx := fun _ => False, rt := fun x => x = .bl true, ex := fun _ => False } [s0, .v (dBox), .no, .no, .no, .no, .no, .no, .no, .no, .no, .no, .no, .no, .no] := by
  intro s0
  have m : Me [none, some (.v (eBx ())), none, none, none, none, none, none, none, none, none, none, none, none, none] [s0, .v (eBx ()), .no, .no, .no, .no, .no, .no, .no, .no, .no, .no, .no, .no, .no] := (me_of [s0, .v (eBx ()), .no, .no, .no, .no, .no, .no, .no, .no, .no, .no, .no, .no, .no]).sub (by repeat (first | exact True.intro | refine And.intro rfl ?_))
  let Q : Bool → Prop := fun b => b = true
  let E : EK := fun _ => False
  have hr : ∀ r, Q r → (fun x => x = D.bl true) (eB r) := fun r h => by show D.bl r = D.bl true; rw [show r = true from h]
  have h : TS [none, some (.v (eBx ())), none, none, none, none, none, none, none, none, none, none, none, none, none] d_law { nx := fun _ => False, rt := fun x => x = .bl true, ex := E } (bindP (bindW (pureW (16 : Int)) rng1W) (fun xs => forP (fun x_294 (s_293 : Unit) N_295 B_296 => bindP (bindW (bindW (pureW x_294) fun x => bindW (pureW (2 : Int)) fun y => modI x y) fun x => bindW (pureW (0 : Int)) fun y => eqI x y) (fun is_small_300 => bindP (bindW (pureW ()) fun x0 => bindW (pureW (6 : Int)) fun x1 => bindW (pureW (6 : Int)) fun x2 => bindW (bindW (pureW is_small_300) fun c => ifW c (pureW (12 : Int)) (bindW (pureW (10 : Int)) fun x => bindW (pureW (9 : Int)) fun y => powI x y)) fun x3 => t__law_book x0 x1 x2 x3) (fun book_here_301 => bindP (bindW (pureW ()) fun x0 => bindW (pureW book_here_301) fun x1 => t__law_payments x0 x1) (fun some_302 => bindP (bindW (bindW (bindW (bindW (pureW book_here_301) fun x => pureW ((eT (eP eI (eT (eP eI eI)))) x)) fun x => bindW (bindW (bindW (pureW some_302) fun x => pureW ((eT eI) x)) fun x => bindW (pureW []) fun xs => pureW (x :: xs)) fun xs => pureW (x :: xs)) szW) (fun x => reprW ((eL eA) x))) (fun shown_303 => bindP (bindW (pureW book_here_301) fun x0 => bindW (pureW some_302) fun x1 => t__law_held x0 x1) (fun due_304 => bindP (bindW (bindW (bindW (pureW due_304) fun xs => bindW (pureW some_302) fun ys => bindW (pureW book_here_301) fun zs => pureW (zip3 xs ys zs)) fun xs => lcW (fun a_306 => (pureW true)) (fun a_306 => (bindW (bindW (pureW a_306.1) fun x => bindW (pureW a_306.2.1) fun y => addI x y) fun x => bindW (bindW (pureW a_306.2.2) fun p => pureW p.1) fun y => subI x y)) xs) sameW) (fun got_305 => bindP (bindW (pureW (2 : Int)) rng1W) (fun xs => forP (fun x_310 (s_309 : Unit) N_311 B_312 => bindP (bindW (bindW (bindW (bindW (bindW (pureW book_here_301) fun x0 => bindW (pureW some_302) fun x1 => t_received x0 x1) fun x => bindW (bindW (bindW (pureW book_here_301) fun x0 => bindW (pureW some_302) fun x1 => t_held x0 x1) fun x => bindW (pureW []) fun xs => pureW (x :: xs)) fun xs => pureW (x :: xs)) szW) (fun x => reprW ((eL (eT eI)) x))) fun x => bindW (bindW (bindW (bindW (pureW got_305) fun x => bindW (bindW (bindW (pureW due_304) sameW) fun x => bindW (pureW []) fun xs => pureW (x :: xs)) fun xs => pureW (x :: xs)) szW) (fun x => reprW ((eL (eT eI)) x))) fun y => neW x y) (fun b => ifP b (((pureW false) Q E)) (N_311 ())) E) (fun (s_309 : Unit) => bindP (bindW (pureW is_small_300) fun c => ifW c (bindW (bindW (bindW (pureW book_here_301) fun x0 => bindW (pureW some_302) fun x1 => t_received x0 x1) sameW) fun x => bindW (bindW (pureW book_here_301) fun x0 => bindW (pureW some_302) fun x1 => t__law_by_coins x0 x1) fun y => neW x y) (pureW false)) (fun b => ifP b (((pureW false) Q E)) (bindP (bindW (bindW (bindW (pureW book_here_301) fun x0 => bindW (pureW some_302) fun x1 => t_held x0 x1) sumW) fun x => bindW (bindW (bindW (pureW book_here_301) fun xs => lcW (fun a_316 => (pureW true)) (fun a_316 => (pureW a_316.1)) xs) sumW) fun y => neI x y) (fun b => ifP b (((pureW false) Q E)) (bindP (bindW (bindW (pureW ()) fun x0 => bindW (pureW book_here_301) fun x1 => bindW (pureW some_302) fun x2 => t__law_coin_right x0 x1 x2) fun c => pureW (!c)) (fun b => ifP b (((pureW false) Q E)) (bindP (bindW (bindW (bindW (bindW (bindW (pureW book_here_301) fun x => pureW ((eT (eP eI (eT (eP eI eI)))) x)) fun x => bindW (bindW (bindW (pureW some_302) fun x => pureW ((eT eI) x)) fun x => bindW (pureW []) fun xs => pureW (x :: xs)) fun xs => pureW (x :: xs)) szW) (fun x => reprW ((eL eA) x))) fun x => bindW (pureW shown_303) fun y => neW x y) (fun b => ifP b (((pureW false) Q E)) (N_295 ())) E)) E)) E)) E) xs ()) E) E) E) E) E) E) E) (fun (s_293 : Unit) => ((pureW true) Q E)) xs ()) E) := by
    simp only [d_law, d_law_0b_9, r_law_0b_9, d_law_0b_8, r_law_0b_8, d_law_0b_7, r_law_0b_7, d_law_0b_6, r_law_0b_6, d_law_0b_5, r_law_0b_5, d_law_0b_4, r_law_0b_4, d_law_0b_3, r_law_0b_3, d_law_0b_2, r_law_0b_2, d_law_0b_1, r_law_0b_1, d_law_0b_0, r_law_0b_0, d_law_1, r_law_1, d_law_0, r_law_0]
    exact (ts_for (fun (s_293 : Unit) => [none, some (.v (eBx ())), none, none, none, none, none, none, none, none, none, none, none, none, none]) () (ps1 := fun x_294 s_293 => [none, some (.v (eBx ())), some (.v (eI x_294)), none, none, none, none, none, none, none, none, none, none, none, none]) (ti_rng1 (te_int 16)) (by repeat (first | exact True.intro | refine And.intro rfl ?_)) (fun x_294 s_293 => (tg_name 2)) (fun x_294 s_293 N_295 nx_298 hN_297 => (ts_set 3 (te_op o_eqI (te_op o_mod (te_var 2 (x := x_294) (e := eI) rfl) (te_int 2)) (te_int 0)) (fun is_small_300 => (ts_set 4 (te_call4 c__law_book (te_var 1 (x := ()) (e := eBx) rfl) (te_int 6) (te_int 6) (te_if (tb_tst (te_var 3 (x := is_small_300) (e := eB) rfl)) (te_int 12) (te_op o_pow (te_int 10) (te_int 9)))) (fun book_here_301 => (ts_set 5 (te_call2 c__law_payments (te_var 1 (x := ()) (e := eBx) rfl) (te_var 4 (x := book_here_301) (e := (eT (eP eI (eT (eP eI eI))))) rfl)) (fun some_302 => (ts_par 6 7 (te_cb1 o_repr (te_lstL (tl_cons (te_co (eT (eP eI (eT (eP eI eI)))) (fun _ => rfl) (te_var 4 (x := book_here_301) (e := (eT (eP eI (eT (eP eI eI))))) rfl)) (tl_cons (te_co (eT eI) (fun _ => rfl) (te_var 5 (x := some_302) (e := (eT eI)) rfl)) tl_nil)))) (te_call2 c__law_held (te_var 4 (x := book_here_301) (e := (eT (eP eI (eT (eP eI eI))))) rfl) (te_var 5 (x := some_302) (e := (eT eI)) rfl)) (fun shown_303 due_304 => (ts_set 8 (te_cb1 o_tupleL (te_frz (tn_lc (ps1 := fun a_306 => [none, some (.v (eBx ())), some (.v (eI x_294)), some (.v (eB is_small_300)), some (.v ((eT (eP eI (eT (eP eI eI)))) book_here_301)), some (.v ((eT eI) some_302)), some (.v (eS shown_303)), some (.v ((eL eI) due_304)), none, none, some (.v (eI a_306.1)), some (.v (eI a_306.2.1)), some (.v ((eP eI (eT (eP eI eI))) a_306.2.2)), none, none]) (ti_zip3 sq_L sq_T sq_T (te_var 7 (x := due_304) (e := (eL eI)) rfl) (te_var 5 (x := some_302) (e := (eT eI)) rfl) (te_var 4 (x := book_here_301) (e := (eT (eP eI (eT (eP eI eI))))) rfl)) (fun a_306 => (tg_tup rfl (tgs_cons (tg_name 10) (tgs_cons (tg_name 11) (tgs_cons (tg_name 12) tgs_nil))))) (fun a_306 => tb_yes) (fun a_306 => (te_op o_sub (te_op o_add (te_var 10 (x := a_306.1) (e := eI) rfl) (te_var 11 (x := a_306.2.1) (e := eI) rfl)) (te_prj (e := (eP eI (eT (eP eI eI)))) (k := 0) (e' := eI) (fun p => p.1) (fun _ _ q => q) (te_var 12 (x := a_306.2.2) (e := (eP eI (eT (eP eI eI)))) rfl))))))) (fun got_305 => (ts_for (fun (s_309 : Unit) => [none, some (.v (eBx ())), some (.v (eI x_294)), some (.v (eB is_small_300)), some (.v ((eT (eP eI (eT (eP eI eI)))) book_here_301)), some (.v ((eT eI) some_302)), some (.v (eS shown_303)), some (.v ((eL eI) due_304)), some (.v ((eT eI) got_305)), none, none, none, none, none, none]) () (ps1 := fun x_310 s_309 => [none, some (.v (eBx ())), some (.v (eI x_294)), some (.v (eB is_small_300)), some (.v ((eT (eP eI (eT (eP eI eI)))) book_here_301)), some (.v ((eT eI) some_302)), some (.v (eS shown_303)), some (.v ((eL eI) due_304)), some (.v ((eT eI) got_305)), some (.v (eI x_310)), none, none, none, none, none]) (ti_rng1 (te_int 2)) (by repeat (first | exact True.intro | refine And.intro rfl ?_)) (fun x_310 s_309 => (tg_name 9)) (fun x_310 s_309 N_311 nx_314 hN_313 => (ts_last (ts_seq0 (ts_if (tb_tst (te_op (o_ne eq_S (by decide) ni_S) (te_cb1 o_repr (te_lstL (tl_cons (te_call2 c_received (te_var 4 (x := book_here_301) (e := (eT (eP eI (eT (eP eI eI))))) rfl) (te_var 5 (x := some_302) (e := (eT eI)) rfl)) (tl_cons (te_call2 c_held (te_var 4 (x := book_here_301) (e := (eT (eP eI (eT (eP eI eI))))) rfl) (te_var 5 (x := some_302) (e := (eT eI)) rfl)) tl_nil)))) (te_cb1 o_repr (te_lstL (tl_cons (te_var 8 (x := got_305) (e := (eT eI)) rfl) (tl_cons (te_cb1 o_tupleL (te_var 7 (x := due_304) (e := (eL eI)) rfl)) tl_nil)))))) (ts_ret hr (te_bl false)) (ts_via (ts_fall hN_313 () (by repeat (first | exact True.intro | refine And.intro rfl ?_)))))))) (fun s_309 => (ts_seq0 (ts_if (tb_and (tb_tst (te_var 3 (x := is_small_300) (e := eB) rfl)) (tb_tst (te_op (o_ne (eq_L eq_I) (by decide) ni_L) (te_cb1 o_listT (te_call2 c_received (te_var 4 (x := book_here_301) (e := (eT (eP eI (eT (eP eI eI))))) rfl) (te_var 5 (x := some_302) (e := (eT eI)) rfl))) (te_call2 c__law_by_coins (te_var 4 (x := book_here_301) (e := (eT (eP eI (eT (eP eI eI))))) rfl) (te_var 5 (x := some_302) (e := (eT eI)) rfl))))) (ts_ret hr (te_bl false)) (ts_via (ts_seq0 (ts_if (tb_tst (te_op o_neI (te_cb1 o_sumAT (te_call2 c_held (te_var 4 (x := book_here_301) (e := (eT (eP eI (eT (eP eI eI))))) rfl) (te_var 5 (x := some_302) (e := (eT eI)) rfl))) (te_cb1 o_sumAL (te_frz (tn_lc (ps1 := fun a_316 => [none, some (.v (eBx ())), some (.v (eI x_294)), some (.v (eB is_small_300)), some (.v ((eT (eP eI (eT (eP eI eI)))) book_here_301)), some (.v ((eT eI) some_302)), some (.v (eS shown_303)), some (.v ((eL eI) due_304)), some (.v ((eT eI) got_305)), none, none, none, none, some (.v (eI a_316.1)), some (.v ((eT (eP eI eI)) a_316.2))]) (ti_T (te_var 4 (x := book_here_301) (e := (eT (eP eI (eT (eP eI eI))))) rfl)) (fun a_316 => (tg_tup rfl (tgs_cons (tg_name 13) (tgs_cons (tg_name 14) tgs_nil)))) (fun a_316 => tb_yes) (fun a_316 => (te_var 13 (x := a_316.1) (e := eI) rfl))))))) (ts_ret hr (te_bl false)) (ts_via (ts_seq0 (ts_if (tb_not (tb_tst (te_call3 c__law_coin_right (te_var 1 (x := ()) (e := eBx) rfl) (te_var 4 (x := book_here_301) (e := (eT (eP eI (eT (eP eI eI))))) rfl) (te_var 5 (x := some_302) (e := (eT eI)) rfl)))) (ts_ret hr (te_bl false)) (ts_via (ts_last (ts_seq0 (ts_if (tb_tst (te_op (o_ne eq_S (by decide) ni_S) (te_cb1 o_repr (te_lstL (tl_cons (te_co (eT (eP eI (eT (eP eI eI)))) (fun _ => rfl) (te_var 4 (x := book_here_301) (e := (eT (eP eI (eT (eP eI eI))))) rfl)) (tl_cons (te_co (eT eI) (fun _ => rfl) (te_var 5 (x := some_302) (e := (eT eI)) rfl)) tl_nil)))) (te_var 6 (x := shown_303) (e := eS) rfl))) (ts_ret hr (te_bl false)) (ts_via (ts_fall hN_297 () (by repeat (first | exact True.intro | refine And.intro rfl ?_))))))))))))))))))))))))))))) (fun s_293 => (ts_ret hr (te_bl true))))
  exact h _ m q
end Dl

set_option Elab.async false
set_option linter.all false
set_option maxRecDepth 100000
set_option maxHeartbeats 4000000
/-! Ul: plain laws of the typed combinators. -/
namespace Dl
open PySem PySem.Spec PyProof.Rows L2
section
variable {α β σ : Type}
theorem szle {n : Nat} (h : n ≤ 16000000) : szOk n := by show n ≤ sizeLine; rw [sizeLine_eq]; omega
theorem szlt {n : Nat} (h : n ≤ 16000000) : n < sizeLine := by rw [sizeLine_eq]; omega
theorem szle' {n : Nat} (h : n ≤ 16000000) : n ≤ sizeLine := by rw [sizeLine_eq]; omega
theorem szOk_small {n : Nat} (h : n ≤ 1000) : szOk n = True := eq_true (szle (by omega))
theorem pureW_d (x : α) : pureW x = fun (Q : α → Prop) (_ : EK) => Q x := rfl
theorem bindW_d (m : W α) (f : α → W β) : bindW m f = fun (Q : β → Prop) (E : EK) => m (fun x => f x Q E) E := rfl
theorem ifW_d (c : Bool) (a b : W α) : ifW c a b = fun (Q : α → Prop) (E : EK) => if c = true then a Q E else b Q E := rfl
/-! comprehensions -/
theorem lcP_pure (p : α → Bool) (g : α → β) (E : EK) : ∀ (xs : List α) (acc : List β) (Q : List β → Prop), Q (acc ++ (xs.filter p).map g) → lcP (fun x => pureW (p x)) (fun x => pureW (g x)) E xs acc Q
  | [], acc, Q, h => by simpa [lcP] using h
  | x :: xs, acc, Q, h => by
    simp only [lcP, pureW]
    by_cases hp : p x = true
    · simp only [hp, if_true]; refine lcP_pure p g E xs _ Q ?_; rw [List.filter_cons_of_pos hp] at h; simpa using h
    · simp only [hp, if_false]; refine lcP_pure p g E xs _ Q ?_; rw [List.filter_cons_of_neg hp] at h; exact h
/-- each item's value by a function -/
theorem lcP_map {h : α → W β} {E : EK} (g : α → β) : ∀ (xs : List α) (acc : List β) {Q : List β → Prop}, (∀ x ∈ xs, ∀ Y : β → Prop, Y (g x) → h x Y E) → Q (acc ++ xs.map g) → lcP (fun _ Q' _ => Q' true) h E xs acc Q
  | [], acc, Q, _, k => by simpa [lcP] using k
  | x :: xs, acc, Q, hh, k => by
    show h x _ E
    refine hh x (by simp) _ (lcP_map g xs _ (fun y hy => hh y (List.mem_cons_of_mem _ hy)) (by simpa using k))
theorem lc_map {h : α → W β} {xs : List α} {Q : List β → Prop} (g : α → β) (hl : xs.length ≤ 16000000) (hh : ∀ x ∈ xs, ∀ Y : β → Prop, Y (g x) → h x Y (fun _ => False)) (k : Q (xs.map g)) :
    xs.length ≤ sizeLine ∧ lcP (fun _ Q' _ => Q' true) h (fun _ => False) xs [] Q := ⟨szle' hl, lcP_map g xs [] hh (by simpa using k)⟩
theorem lcP_filter {t : α → W Bool} {h : α → W β} {E : EK} (g : α → Option β) : ∀ (xs : List α) (acc : List β) {Q : List β → Prop},
    (∀ x ∈ xs, ∀ (Y : β → Prop) (N : Prop), (∀ y, g x = some y → Y y) → (g x = none → N) → t x (fun b => if b = true then h x Y E else N) E) → Q (acc ++ xs.filterMap g) → lcP t h E xs acc Q
  | [], acc, Q, _, k => by simpa [lcP] using k
  | x :: xs, acc, Q, hh, k => by
    simp only [lcP]
    refine hh x (by simp) _ _ (fun y e => lcP_filter g xs _ (fun y hy => hh y (List.mem_cons_of_mem _ hy)) ?_) (fun e => lcP_filter g xs _ (fun y hy => hh y (List.mem_cons_of_mem _ hy)) ?_)
    · rw [List.filterMap_cons, e] at k; simpa using k
    · rw [List.filterMap_cons, e] at k; simpa using k
theorem lc_filter {t : α → W Bool} {h : α → W β} {xs : List α} {Q : List β → Prop} (g : α → Option β) (hl : xs.length ≤ 16000000) (hh : ∀ x ∈ xs, ∀ (Y : β → Prop) (N : Prop), (∀ y, g x = some y → Y y) → (g x = none → N) → t x (fun b => if b = true then h x Y (fun _ => False) else N) (fun _ => False))
    (k : Q (xs.filterMap g)) : xs.length ≤ sizeLine ∧ lcP t h (fun _ => False) xs [] Q := ⟨szle' hl, lcP_filter g xs [] hh (by simpa using k)⟩
theorem lc_pure {xs : List α} {Q : List β → Prop} (p : α → Bool) (g : α → β) (hl : xs.length ≤ 16000000) (k : Q ((xs.filter p).map g)) : xs.length ≤ sizeLine ∧ lcP (fun x Q' _ => Q' (p x)) (fun x Q' _ => Q' (g x)) (fun _ => False) xs [] Q :=
  ⟨szle' hl, lcP_pure p g _ xs [] Q (by simpa using k)⟩
/-- items that are only related to what is walked -/
inductive F2 (R : α → β → Prop) : List α → List β → Prop where
  | nil : F2 R [] []
  | cons {x : α} {y : β} {xs : List α} {ys : List β} : R x y → F2 R xs ys → F2 R (x :: xs) (y :: ys)
theorem F2.length {R : α → β → Prop} : ∀ {xs : List α} {ys : List β}, F2 R xs ys → ys.length = xs.length
  | _, _, .nil => rfl
  | _, _, .cons _ t => by rw [List.length_cons, List.length_cons, t.length]
theorem F2.mem {R : α → β → Prop} : ∀ {xs : List α} {ys : List β}, F2 R xs ys → ∀ y ∈ ys, ∃ x ∈ xs, R x y
  | _, _, .nil, y, h => by cases h
  | _, _, .cons (x := x) r t, y, h => by
    rcases List.mem_cons.mp h with rfl | h
    · exact ⟨x, by simp, r⟩
    · obtain ⟨z, hz, q⟩ := t.mem y h; exact ⟨z, List.mem_cons_of_mem _ hz, q⟩
theorem F2.get {R : α → β → Prop} : ∀ {xs : List α} {ys : List β}, F2 R xs ys → ∀ {i : Nat} {y : β}, ys[i]? = some y → ∃ x, xs[i]? = some x ∧ R x y
  | _, _, .nil, i, y, h => by simp at h
  | _, _, .cons (x := x) r t, 0, y, h => by simp at h; subst h; exact ⟨x, rfl, r⟩
  | _, _, .cons r t, i + 1, y, h => by simpa using t.get (i := i) (by simpa using h)
theorem lcP_rel {h : α → W β} {E : EK} (R : α → β → Prop) : ∀ (xs : List α) (acc : List β) {Q : List β → Prop}, (∀ x ∈ xs, ∀ Y : β → Prop, (∀ y, R x y → Y y) → h x Y E) → (∀ ys, F2 R xs ys → Q (acc ++ ys)) → lcP (fun _ Q' _ => Q' true) h E xs acc Q
  | [], acc, Q, _, k => by simpa [lcP] using k [] .nil
  | x :: xs, acc, Q, hh, k => by
    show h x _ E
    refine hh x (by simp) _ fun y r => lcP_rel R xs _ (fun y hy => hh y (List.mem_cons_of_mem _ hy)) fun ys q => ?_
    have := k (y :: ys) (.cons r q)
    simpa using this
theorem lc_rel {h : α → W β} {xs : List α} {Q : List β → Prop} (R : α → β → Prop) (hl : xs.length ≤ 16000000) (hh : ∀ x ∈ xs, ∀ Y : β → Prop, (∀ y, R x y → Y y) → h x Y (fun _ => False)) (k : ∀ ys, F2 R xs ys → Q ys) :
    xs.length ≤ sizeLine ∧ lcP (fun _ Q' _ => Q' true) h (fun _ => False) xs [] Q := ⟨szle' hl, lcP_rel R xs [] hh (by simpa using k)⟩
/-! loops -/
theorem forP_ind {body : α → σ → (σ → Prop) → (σ → Prop) → Prop} {K : σ → Prop} (I : List α → σ → Prop) (h0 : ∀ s, I [] s → K s) (hs : ∀ x r s, I (x :: r) s → ∀ N : σ → Prop, (∀ s', I r s' → N s') → body x s N K) : ∀ xs s, I xs s → forP body K xs s
  | [], s, h => h0 s h
  | x :: r, s, h => hs x r s h _ fun s' h' => forP_ind I h0 hs r s' h'
/-- .. that carries nothing -/
theorem forP_all {body : α → Unit → (Unit → Prop) → (Unit → Prop) → Prop} {K : Unit → Prop} (xs : List α) (hs : ∀ x ∈ xs, ∀ N : Unit → Prop, N () → body x () N K) (h0 : K ()) : forP body K xs () := by
  refine forP_ind (fun r _ => ∀ x ∈ r, x ∈ xs) (fun _ _ => h0) (fun x r s h N k => ?_) xs () (fun x h => h)
  exact hs x (h x (by simp)) N (k () fun y hy => h y (List.mem_cons_of_mem _ hy))
/-- a fold -/
theorem forP_fold {body : α → σ → (σ → Prop) → (σ → Prop) → Prop} {K : σ → Prop} (f : σ → α → σ) (I : Nat → σ → Prop) : ∀ (xs : List α) (s : σ) (n : Nat), I n s → (∀ n x s, x ∈ xs → I n s → I (n + 1) (f s x) ∧ ∀ N : σ → Prop, N (f s x) → body x s N K) → K (xs.foldl f s) → forP body K xs s
  | [], s, n, _, _, k => k
  | x :: r, s, n, h, hs, k => (hs n x s (by simp) h).2 _ (forP_fold f I r (f s x) (n + 1) (hs n x s (by simp) h).1 (fun n y s hy => hs n y s (List.mem_cons_of_mem _ hy)) k)
/-! items -/
theorem atI_app (xs : List α) (a : α) : atI (xs ++ [a]) (-1) = some a := by
  unfold atI ixN
  rw [if_neg (by omega), if_pos (by simp; omega)]
  have e : ((-1 : Int) + ((xs ++ [a]).length : Int)).toNat = xs.length := by simp; omega
  rw [e]; simp
theorem atI_int {xs : List α} {r : Int} (h0 : 0 ≤ r) (h1 : r < xs.length) : atI xs r = some (xs[r.toNat]'(by omega)) := by
  obtain ⟨j, rfl⟩ : ∃ j : Nat, r = (j : Int) := ⟨r.toNat, by omega⟩
  exact atI_nat (List.getElem?_eq_getElem (by omega))
theorem atI_mem {xs : List α} {r : Int} (h0 : 0 ≤ r) (h1 : r < xs.length) : ∃ y, atI xs r = some y ∧ y ∈ xs := ⟨_, atI_int h0 h1, List.getElem_mem _⟩
theorem atI_neg1 (xs : List α) : atI xs (-1) = xs.getLast? := by
  rcases List.eq_nil_or_concat xs with rfl | ⟨ys, a, rfl⟩
  · rfl
  · simp only [List.concat_eq_append]; rw [atI_app]; simp
theorem ixN_int {n : Nat} {r : Int} (h0 : 0 ≤ r) (h1 : r < n) : ixN n r = some r.toNat := by unfold ixN; rw [if_pos h0, if_pos h1]
theorem cutT_to (xs : List α) (j : Int) (h0 : 0 ≤ j) : cutT xs none (some j) = xs.take j.toNat := by
  unfold cutT
  show (xs.drop 0).take ((if j < 0 then (j + (xs.length : Int)).toNat else min j.toNat xs.length) - 0) = _
  rw [if_neg (by omega), List.drop_zero, Nat.sub_zero]
  by_cases h : j.toNat ≤ xs.length
  · rw [Nat.min_eq_left h]
  · rw [Nat.min_eq_right (by omega), List.take_of_length_le (Nat.le_refl _), List.take_of_length_le (by omega)]
theorem cutT_from (xs : List α) (j : Int) (h0 : 0 ≤ j) : cutT xs (some j) none = xs.drop j.toNat := by
  unfold cutT
  show (xs.drop (if j < 0 then (j + (xs.length : Int)).toNat else min j.toNat xs.length)).take (xs.length - (if j < 0 then (j + (xs.length : Int)).toNat else min j.toNat xs.length)) = _
  rw [if_neg (by omega)]
  by_cases h : j.toNat ≤ xs.length
  · rw [Nat.min_eq_left h, List.take_of_length_le (by rw [List.length_drop]; omega)]
  · rw [Nat.min_eq_right (by omega), List.drop_of_length_le (Nat.le_refl _), List.drop_of_length_le (by omega)]; simp
theorem enI_length (xs : List α) : (enI xs).length = xs.length := by simp [enI]
theorem rgI_length (lo : Int) (n : Nat) : (rgI lo n).length = n := by simp [rgI]
theorem mem_rgI {lo x : Int} {n : Nat} : x ∈ rgI lo n ↔ lo ≤ x ∧ x < lo + n := by
  unfold rgI
  rw [List.mem_map]
  constructor
  · rintro ⟨a, ha, rfl⟩; rw [List.mem_range] at ha; omega
  · rintro ⟨h1, h2⟩; exact ⟨(x - lo).toNat, by rw [List.mem_range]; omega, by omega⟩
theorem mem_enI {xs : List α} {p : Int × α} : p ∈ enI xs ↔ ∃ i : Nat, p.1 = (i : Int) ∧ xs[i]? = some p.2 := by
  unfold enI
  rw [List.mem_map]
  constructor
  · rintro ⟨⟨a, i⟩, h, rfl⟩; exact ⟨i, rfl, List.mem_zipIdx_iff_getElem?.mp h⟩
  · rintro ⟨i, h1, h2⟩; exact ⟨(p.2, i), List.mem_zipIdx_iff_getElem?.mpr h2, by rw [← h1]⟩
end
/-! sizes of values -/
theorem sm_T {α : Type} {e : α → D} {n m h : Nat} {xs : List α} (hl : xs.length ≤ n) (hx : ∀ x ∈ xs, Sm m h (e x)) : Sm (1 + n * m) (h + 1) (eT e xs) :=
  (SmL.of n (by rw [List.length_map]; exact hl) fun d hd => by obtain ⟨x, hx', rfl⟩ := List.mem_map.mp hd; exact hx x hx').tp
theorem sm_L {α : Type} {e : α → D} {n m h : Nat} {xs : List α} (hl : xs.length ≤ n) (hx : ∀ x ∈ xs, Sm m h (e x)) : Sm (1 + n * m) (h + 1) (eL e xs) :=
  (SmL.of n (by rw [List.length_map]; exact hl) fun d hd => by obtain ⟨x, hx', rfl⟩ := List.mem_map.mp hd; exact hx x hx').ls
theorem eT_A (xs : List D) : eT eA xs = .tp xs := by unfold eT; rw [show (eA : D → D) = id from rfl, List.map_id]
theorem eL_A (xs : List D) : eL eA xs = .ls xs := by unfold eL; rw [show (eA : D → D) = id from rfl, List.map_id]
theorem sm_I {i : Int} {h : Nat} (h1 : -1000000000000000 ≤ i) (h2 : i ≤ 1000000000000000) : Sm 1 h (eI i) := .it (by omega) (by omega)
theorem sm_O {α : Type} {e : α → D} {m h : Nat} {x : Option α} (h0 : 1 ≤ m) (hx : ∀ y, x = some y → Sm m h (e y)) : Sm m h (eO e x) := by
  cases x with
  | none => exact Sm.non.le h0 (Nat.le_refl _)
  | some y => exact hx y rfl
theorem sm_P {α β : Type} {e : α → D} {f : β → D} {m m' h : Nat} {p : α × β} (h1 : Sm m h (e p.1)) (h2 : Sm m' h (f p.2)) : Sm (1 + (m + m')) (h + 1) (eP e f p) := (SmL.cons h1 (.one h2)).tp
/-! small facts -/
theorem in62_of {i : Int} (h : 0 ≤ i) (h2 : i ≤ 1000000000000) : in62 i := by constructor <;> omega
theorem cpow_dec {i j : Int} (h : (decide (0 ≤ j) && decide (j ≤ 1000000) && decide (i.natAbs < 2 ^ 64)) = true) : CPow i j := by
  simp only [Bool.and_eq_true, decide_eq_true_eq] at h
  exact ⟨h.1.1, h.1.2, h.2⟩
theorem cdiv_dec {i j : Int} (h : (decide (0 < j) && decide (j.natAbs.log2 < 9000)) = true) : CDivW i j := by
  simp only [Bool.and_eq_true, decide_eq_true_eq] at h
  exact h
/-- the same shown, or not -/
theorem shown_ne {x y : D} {P Q : Prop} (h : x = y) (q : Q) : if ¬ x.py.shown = y.py.shown then P else Q := by rw [h, if_neg (fun z => z rfl)]; exact q
end Dl

set_option Elab.async false
set_option linter.all false
set_option maxRecDepth 100000
set_option maxHeartbeats 4000000
/-! Th1: what is paid on the slips of a pile, which one is next. -/
namespace Dl
open PySem PySem.Spec PyProof.Rows L2
/-- what is paid on each slip -/
def parts : List Slip → Int → List Int
  | [], _ => []
  | s :: r, p => min s.2 p :: parts r (p - min s.2 p)
/-- the first slip that is not paid in full -/
def nextI : Int → List Slip → Int → Option Int
  | _, [], _ => none
  | i, s :: r, p => if p < s.2 then some i else nextI (i + 1) r (p - s.2)
def wholeD (v : D) (lo hi : Int) : Bool := match v with | .it i => decide (lo ≤ i) && decide (i ≤ hi) | _ => false
def payAll : List House → List D → Bool
  | h :: b, x :: xs => wholeD x 0 (sumA h.2) && payAll b xs
  | _, _ => true
def isPay (b : List House) (v : D) : Bool := match v with | .tp xs => decide (xs.length = b.length) && payAll b xs | _ => false
abbrev debtsL (b : List House) : List Int := b.map fun h => sumA h.2
theorem parts_length : ∀ (ss : List Slip) (p : Int), (parts ss p).length = ss.length
  | [], _ => rfl
  | s :: r, p => by simp only [parts, List.length_cons, parts_length r]
def AmOk (ss : List Slip) : Prop := ∀ s ∈ ss, 1 ≤ s.2 ∧ s.2 ≤ 1000000000
theorem sumA_ge {ss : List Slip} (h : AmOk ss) : 0 ≤ sumA ss := (sumA_nonneg h).1
theorem parts_zero : ∀ {r : List Slip}, AmOk r → parts r 0 = r.map fun _ => 0
  | [], _ => rfl
  | s :: r, h => by
    have h1 := h s (by simp)
    have ih := parts_zero (r := r) fun x hx => h x (List.mem_cons_of_mem _ hx)
    have e : min s.2 (0 : Int) = 0 := by omega
    simp only [parts, List.map_cons, e, Int.sub_zero, ih]
theorem sumA_take (ss : List Slip) (i : Nat) (h : i < ss.length) : sumA (ss.take (i + 1)) = sumA (ss.take i) + ss[i].2 := by
  rw [List.take_succ_eq_append_getElem h, sumA_append]; simp [sumA]
theorem parts_get : ∀ {ss : List Slip} {p : Int} (i : Nat) (_ : AmOk ss) (_ : 0 ≤ p) (h : i < ss.length), (parts ss p)[i]? = some (max 0 (min ss[i].2 (p - sumA (ss.take i))))
  | s :: r, p, 0, ha, hp, _ => by
    have := ha s (by simp)
    simp only [parts, List.getElem?_cons_zero, List.take_zero, sumA_nil, List.getElem_cons_zero]
    congr 1; omega
  | s :: r, p, i + 1, ha, hp, h => by
    have h1 := ha s (by simp)
    have hr : AmOk r := fun x hx => ha x (List.mem_cons_of_mem _ hx)
    have hi : i < r.length := by simpa using h
    simp only [parts, List.getElem?_cons_succ, List.take_succ_cons, sumA_cons, List.getElem_cons_succ]
    rw [parts_get i hr (by omega) hi]
    have hs : 0 ≤ sumA (r.take i) := sumA_ge fun x hx => hr x (List.mem_of_mem_take hx)
    have h2 := hr r[i] (List.getElem_mem _)
    congr 1
    by_cases hc : s.2 ≤ p
    · rw [show min s.2 p = s.2 by omega]; congr 2; omega
    · rw [show min s.2 p = p by omega]; omega
theorem nextI_ge : ∀ {ss : List Slip} {i p : Int} {j : Int}, nextI i ss p = some j → i ≤ j ∧ j < i + ss.length
  | [], _, _, _, h => by simp [nextI] at h
  | s :: r, i, p, j, h => by
    simp only [nextI] at h
    split at h
    · cases h; simp only [List.length_cons]; omega
    · have := nextI_ge h; simp only [List.length_cons]; omega
theorem nextI_none : ∀ {ss : List Slip} {i p : Int}, nextI i ss p = none → 0 ≤ p → sumA ss ≤ p
  | [], _, _, _, hp => by simpa [sumA_nil] using hp
  | s :: r, i, p, h, hp => by
    simp only [nextI] at h
    split at h
    · cases h
    · next hc =>
      by_cases h0 : 0 ≤ p - s.2
      · have := nextI_none h h0; rw [sumA_cons]; omega
      · omega
/-- what is paid before the next slip, and with it -/
theorem nextI_some : ∀ {ss : List Slip} {i p : Int} {j : Int}, AmOk ss → 0 ≤ p → nextI i ss p = some j → sumA (ss.take (j - i).toNat) ≤ p ∧ p < sumA (ss.take ((j - i).toNat + 1))
  | [], _, _, _, _, _, h => by simp [nextI] at h
  | s :: r, i, p, j, ha, hp, h => by
    simp only [nextI] at h
    split at h
    · cases h; rw [Int.sub_self]; simp [sumA_cons, sumA_nil]; omega
    · next hc =>
      have hj := nextI_ge h
      have e : (j - i).toNat = (j - (i + 1)).toNat + 1 := by omega
      have := nextI_some (fun x hx => ha x (List.mem_cons_of_mem _ hx)) (by omega) h
      rw [e, List.take_succ_cons, List.take_succ_cons, sumA_cons, sumA_cons]; omega
end Dl

set_option Elab.async false
set_option linter.all false
set_option maxRecDepth 100000
set_option maxHeartbeats 4000000
/-! Th2: what is received and held. -/
namespace Dl
open PySem PySem.Spec PyProof.Rows L2
def slipsTo : List Slip → List Int → Int → Int
  | s :: ss, q :: qs, h => (if s.1 = h then q else 0) + slipsTo ss qs h
  | _, _, _ => 0
abbrev paidTo (ss : List Slip) (p : Int) (h : Int) : Int := slipsTo ss (parts ss p) h
def recvH : List House → List Int → Int → Int
  | x :: b, p :: ps, h => paidTo x.2 p h + recvH b ps h
  | _, _, _ => 0
def recvL (b : List House) (ps : List Int) : List Int := (rgI 0 b.length).map (recvH b ps)
def heldL (b : List House) (ps : List Int) : List Int := (zip3 b (recvL b ps) ps).map fun x => x.1.1 + x.2.1 - x.2.2
/-- a number is added at each place -/
def addF (g : Int → Int) : Int → List Int → List Int
  | _, [] => []
  | i, x :: r => (x + g i) :: addF g (i + 1) r
theorem addF_length (g : Int → Int) : ∀ (i : Int) (xs : List Int), (addF g i xs).length = xs.length
  | _, [] => rfl
  | i, x :: r => by simp [addF, addF_length g (i + 1) r]
theorem addF_addF (g k : Int → Int) : ∀ (i : Int) (xs : List Int), addF k i (addF g i xs) = addF (fun h => g h + k h) i xs
  | _, [] => rfl
  | i, x :: r => by simp [addF, addF_addF g k (i + 1) r]; omega
theorem addF_zero : ∀ (i : Int) (xs : List Int), addF (fun _ => 0) i xs = xs
  | _, [] => rfl
  | i, x :: r => by simp [addF, addF_zero (i + 1) r]
theorem addF_congr {g k : Int → Int} : ∀ {i : Int} {xs : List Int}, (∀ h, i ≤ h → h < i + xs.length → g h = k h) → addF g i xs = addF k i xs
  | _, [], _ => rfl
  | i, x :: r, h => by
    simp only [addF]
    rw [h i (by omega) (by simp; omega), addF_congr (i := i + 1) (xs := r) fun j h1 h2 => h j (by omega) (by simp at h2 ⊢; omega)]
theorem addF_below {g k : Int → Int} {i : Int} {xs : List Int} (h : ∀ j, i ≤ j → g j = k j) : addF g i xs = addF k i xs := addF_congr fun j h1 _ => h j h1
theorem addF_at (v : Int) : ∀ (xs : List Int) (i : Int) (j : Nat) (h : j < xs.length), xs.set j (xs[j] + v) = addF (fun k => if i + (j : Int) = k then v else 0) i xs
  | x :: r, i, 0, _ => by
    simp only [List.set_cons_zero, List.getElem_cons_zero, addF]
    rw [if_pos (by omega)]
    congr 1
    rw [addF_below (k := fun _ => 0) (fun k hk => if_neg (by omega)), addF_zero]
  | x :: r, i, j + 1, h => by
    simp only [List.set_cons_succ, List.getElem_cons_succ, addF]
    rw [if_neg (by omega), Int.add_zero, addF_at v r (i + 1) j (by simpa using h)]
    congr 2
    funext k
    have : (i + 1 + (j : Int) = k) = (i + ((j + 1 : Nat) : Int) = k) := by rw [show i + 1 + (j : Int) = i + ((j + 1 : Nat) : Int) by omega]
    simp only [this]
theorem addF_rep (g : Int → Int) : ∀ (n : Nat) (i : Int), addF g i (List.replicate n 0) = (List.range n).map fun (j : Nat) => g (i + (j : Int))
  | 0, _ => rfl
  | n + 1, i => by
    rw [List.replicate_succ, List.range_succ_eq_map]
    simp only [addF, List.map_cons, List.map_map, addF_rep g n (i + 1)]
    congr 1
    · simp
    · apply List.map_congr_left; intro j _; simp only [Function.comp_apply]; congr 1; omega
theorem addF_get (g : Int → Int) : ∀ (xs : List Int) (i : Int) (j : Nat), (addF g i xs)[j]? = xs[j]?.map fun x => x + g (i + (j : Int))
  | [], _, _ => by simp [addF]
  | x :: r, i, 0 => by simp [addF]
  | x :: r, i, j + 1 => by
    simp only [addF, List.getElem?_cons_succ]
    rw [addF_get g r (i + 1) j]
    congr 2
    funext y; congr 2; omega
theorem recvL_length (b : List House) (ps : List Int) : (recvL b ps).length = b.length := by unfold recvL; rw [List.length_map, rgI_length]
theorem recvL_addF (b : List House) (ps : List Int) : recvL b ps = addF (recvH b ps) 0 (List.replicate b.length 0) := by
  rw [addF_rep]; unfold recvL rgI
  rw [List.map_map]; rfl
theorem heldL_length {b : List House} {ps : List Int} (h : ps.length = b.length) : (heldL b ps).length = b.length := by
  unfold heldL zip3
  rw [List.length_map, List.length_zip, List.length_zip, recvL_length, h]; omega
theorem recvL_get {b : List House} {ps : List Int} {i : Nat} (h : i < b.length) : (recvL b ps)[i]? = some (recvH b ps i) := by
  unfold recvL rgI
  rw [List.map_map, List.getElem?_map, List.getElem?_range h]; simp
theorem heldL_get {b : List House} {ps : List Int} (hl : ps.length = b.length) {i : Nat} (h : i < b.length) : (heldL b ps)[i]? = some (b[i].1 + recvH b ps i - ps[i]'(by omega)) := by
  unfold heldL zip3
  have hr : i < (recvL b ps).length := by rw [recvL_length]; exact h
  have hz : i < (b.zip ((recvL b ps).zip ps)).length := by rw [List.length_zip, List.length_zip, recvL_length]; omega
  have e : (recvL b ps)[i] = recvH b ps i := by
    have := recvL_get (ps := ps) h
    rw [List.getElem?_eq_getElem hr] at this
    exact Option.some.inj this
  rw [List.getElem?_map, List.getElem?_eq_getElem hz, List.getElem_zip, List.getElem_zip, e]; rfl
/-! ### one pile -/
theorem paidTo_nil (p h : Int) : paidTo [] p h = 0 := rfl
theorem paidTo_cons (s : Slip) (r : List Slip) (p h : Int) : paidTo (s :: r) p h = (if s.1 = h then min s.2 p else 0) + paidTo r (p - min s.2 p) h := rfl
theorem paidTo_zero {ss : List Slip} (ha : AmOk ss) (h : Int) : paidTo ss 0 h = 0 := by
  induction ss with
  | nil => rfl
  | cons s r ih =>
    have h1 := ha s (by simp)
    rw [paidTo_cons, show min s.2 (0 : Int) = 0 by omega, Int.sub_zero, ih fun x hx => ha x (List.mem_cons_of_mem _ hx)]
    split <;> rfl
theorem paidTo_nonneg {ss : List Slip} (ha : AmOk ss) {p : Int} (hp : 0 ≤ p) (h : Int) : 0 ≤ paidTo ss p h := by
  induction ss generalizing p with
  | nil => simp [slipsTo]
  | cons s r ih =>
    have h1 := ha s (by simp)
    have := ih (fun x hx => ha x (List.mem_cons_of_mem _ hx)) (p := p - min s.2 p) (by omega)
    rw [paidTo_cons]; split <;> omega
theorem paidTo_mono {ss : List Slip} (ha : AmOk ss) {p q : Int} (hp : 0 ≤ p) (hq : p ≤ q) (h : Int) : paidTo ss p h ≤ paidTo ss q h := by
  induction ss generalizing p q with
  | nil => simp [slipsTo]
  | cons s r ih =>
    have h1 := ha s (by simp)
    have := ih (fun x hx => ha x (List.mem_cons_of_mem _ hx)) (p := p - min s.2 p) (q := q - min s.2 q) (by omega) (by omega)
    rw [paidTo_cons, paidTo_cons]; split <;> omega
/-- the next slip gets what is paid more -/
theorem paidTo_step {ss : List Slip} (ha : AmOk ss) {p a i j : Int} (hp : 0 ≤ p) (ha0 : 0 ≤ a) (hn : nextI i ss p = some j) (hr : a ≤ sumA (ss.take ((j - i).toNat + 1)) - p) (h : Int) :
    paidTo ss (p + a) h = paidTo ss p h + (if (ss.getD (j - i).toNat (0, 0)).1 = h then a else 0) := by
  induction ss generalizing p i with
  | nil => simp [nextI] at hn
  | cons s r ih =>
    have h1 := ha s (by simp)
    simp only [nextI] at hn
    split at hn
    · next hlt =>
      cases hn
      rw [Int.sub_self] at hr ⊢
      simp [sumA_cons, sumA_nil] at hr
      rw [paidTo_cons, paidTo_cons, show min s.2 (p + a) = p + a by omega, show min s.2 p = p by omega, Int.sub_self, Int.sub_self]
      simp only [Int.toNat_zero, List.getD_cons_zero]
      split <;> omega
    · next hge =>
      have hj := nextI_ge hn
      have e : (j - i).toNat = (j - (i + 1)).toNat + 1 := by omega
      rw [e] at hr ⊢
      rw [List.take_succ_cons, sumA_cons] at hr
      have := ih (fun x hx => ha x (List.mem_cons_of_mem _ hx)) (p := p - s.2) (by omega) hn (by omega)
      rw [paidTo_cons, paidTo_cons, show min s.2 (p + a) = s.2 by omega, show min s.2 p = s.2 by omega, show p + a - s.2 = p - s.2 + a by omega, this, List.getD_cons_succ]
      omega
theorem paidTo_le {ss : List Slip} (ha : AmOk ss) {p : Int} (hp : 0 ≤ p) (h : Int) : paidTo ss p h ≤ p := by
  induction ss generalizing p with
  | nil => simp [slipsTo]; omega
  | cons s r ih =>
    have h1 := ha s (by simp)
    have := ih (fun x hx => ha x (List.mem_cons_of_mem _ hx)) (p := p - min s.2 p) (by omega)
    rw [paidTo_cons]; split <;> omega
/-! sums over the houses -/
abbrev sumN (n : Nat) (f : Int → Int) : Int := ((rgI 0 n).map f).sum
theorem sumN_succ (n : Nat) (f : Int → Int) : sumN (n + 1) f = sumN n f + f n := by
  unfold sumN rgI
  rw [List.range_succ]; simp
theorem sumN_zero (f : Int → Int) : sumN 0 f = 0 := rfl
theorem sumN_add (f g : Int → Int) : ∀ n, sumN n (fun h => f h + g h) = sumN n f + sumN n g
  | 0 => rfl
  | n + 1 => by rw [sumN_succ, sumN_succ, sumN_succ, sumN_add f g n]; omega
theorem sumN_const0 : ∀ n, sumN n (fun _ => 0) = 0
  | 0 => rfl
  | n + 1 => by rw [sumN_succ, sumN_const0 n]; rfl
theorem sumN_congr {f g : Int → Int} : ∀ {n : Nat}, (∀ h, 0 ≤ h → h < n → f h = g h) → sumN n f = sumN n g
  | 0, _ => rfl
  | n + 1, k => by rw [sumN_succ, sumN_succ, sumN_congr fun h h0 h1 => k h h0 (by omega), k n (by omega) (by omega)]
theorem sumN_one (k v : Int) : ∀ (n : Nat), 0 ≤ k → k < n → sumN n (fun h => if k = h then v else 0) = v
  | 0, h0, h1 => by omega
  | n + 1, h0, h1 => by
    rw [sumN_succ]
    by_cases hk : k = n
    · rw [if_pos hk, sumN_congr (g := fun _ => 0) fun h _ hh => if_neg (by omega), sumN_const0]; omega
    · rw [if_neg hk, sumN_one k v n h0 (by omega)]; omega
theorem sumN_le {f g : Int → Int} : ∀ {n : Nat}, (∀ h, 0 ≤ h → h < n → f h ≤ g h) → sumN n f ≤ sumN n g
  | 0, _ => by rw [sumN_zero, sumN_zero]; exact Int.le_refl _
  | n + 1, k => by
    rw [sumN_succ, sumN_succ]
    have := sumN_le (n := n) fun h h0 h1 => k h h0 (by omega)
    have := k n (by omega) (by omega)
    omega
theorem paidTo_sum {n : Nat} : ∀ {ss : List Slip} {p : Int}, AmOk ss → (∀ s ∈ ss, 0 ≤ s.1 ∧ s.1 < n) → 0 ≤ p → p ≤ sumA ss → sumN n (paidTo ss p) = p
  | [], p, _, _, h0, h1 => by
    rw [sumA_nil] at h1
    have : sumN n (paidTo [] p) = 0 := sumN_const0 n
    omega
  | s :: r, p, ha, ht, h0, h1 => by
    have a := ha s (by simp)
    have t := ht s (by simp)
    rw [sumA_cons] at h1
    have ih := paidTo_sum (n := n) (ss := r) (p := p - min s.2 p) (fun x hx => ha x (List.mem_cons_of_mem _ hx)) (fun x hx => ht x (List.mem_cons_of_mem _ hx)) (by omega) (by have := sumA_ge (ss := r) fun x hx => ha x (List.mem_cons_of_mem _ hx); omega)
    have e : sumN n (paidTo (s :: r) p) = sumN n (fun h => (if s.1 = h then min s.2 p else 0) + paidTo r (p - min s.2 p) h) := rfl
    rw [e, sumN_add, sumN_one _ _ _ t.1 t.2, ih]; omega
theorem recv_total_ : ∀ {n : Nat} {b : List House} {ps : List Int}, (∀ x ∈ b, ∀ s ∈ x.2, 0 ≤ s.1 ∧ s.1 < n) → (∀ x ∈ b, AmOk x.2) → PayOf b ps → sumN n (recvH b ps) = ps.sum
  | n, [], [], _, _, _ => sumN_const0 n
  | n, x :: b, p :: ps, h1, h2, hp => by
    have e : sumN n (recvH (x :: b) (p :: ps)) = sumN n (fun h => paidTo x.2 p h + recvH b ps h) := rfl
    rw [e, sumN_add, paidTo_sum (h2 x (by simp)) (h1 x (by simp)) hp.1 hp.2.1, recv_total_ (fun y hy => h1 y (List.mem_cons_of_mem _ hy)) (fun y hy => h2 y (List.mem_cons_of_mem _ hy)) hp.2.2, List.sum_cons]
  | _, [], _ :: _, _, _, h => h.elim
  | _, _ :: _, [], _, _, h => h.elim
theorem recv_total {b : List House} {ps : List Int} (h1 : ∀ x ∈ b, ∀ s ∈ x.2, 0 ≤ s.1 ∧ s.1 < b.length) (h2 : ∀ x ∈ b, AmOk x.2) (hp : PayOf b ps) : ((rgI 0 b.length).map (recvH b ps)).sum = ps.sum := recv_total_ h1 h2 hp
end Dl

set_option Elab.async false
set_option linter.all false
set_option maxRecDepth 100000
set_option maxHeartbeats 4000000
namespace Dl
open PySem PySem.Spec PyProof.Rows L2
theorem payAll_zip : ∀ (b : List House) (xs : List D), ((List.zip xs (debtsL b)).map fun p => wholeD p.1 0 p.2).all id = payAll b xs
  | [], xs => by simp [payAll]
  | h :: b, [] => by simp [payAll]
  | h :: b, x :: xs => by
    have ih := payAll_zip b xs
    simp only [List.map_cons, List.zip_cons_cons, List.all_cons, id, payAll, ih]
theorem F_parts_of {ss : List Slip} (hl : ss.length ≤ 1000) (p : Int) {Q : List Int → Prop} {E : EK} (h : Q (parts ss p)) : t_parts_of ss p Q E := by
  simp only [t_parts_of, bindP, bindW_d, pureW_d, ifW_d, ifP, joinP, lenW, lenA, lenS, sameW, addI, subI, mulI, fdivI, modI, powI, ltI, leI, gtI, geI, eqI, neI, catW, catS, repT, repL, szW, appP, ixW, ixA, getW, asW, lcW, rng1W, rng2W, eqW, neW, eqA, neA, inW, niW, inA, min2, max2, minL, maxL, sumW, absI, intB, anyW, allW, reprW, setixP, augixP, failW, extP, popP, idxW, strW, lrgW, sortW, decide_eq_true_eq, Bool.not_eq_true', Bool.not_eq_eq_eq_not, Bool.not_true, Bool.not_false, decide_eq_false_iff_not, ite_true, ite_false, if_true, if_false, Bool.false_eq_true, true_and, and_true, reduceIte, not_true_eq_false, not_false_eq_true, szOk_small, Nat.reduceAdd, Nat.reduceLeDiff, Nat.zero_add, Int.reduceLT, Int.reduceLE, Int.reduceAdd, Int.reduceMul, Int.reduceNeg, List.length_cons, List.length_nil, List.length_append, List.length_map]
  refine forP_ind (fun r s => s.1.length + r.length ≤ 1000 ∧ Q (s.1 ++ parts r s.2)) (fun s h => by simpa [parts] using h.2) (fun x r s h N k => ?_) _ _ ⟨by simpa using hl, h⟩
  have h1 := h.1
  simp only [List.length_cons] at h1
  refine ⟨szlt (by omega), _, atI_app _ _, k _ ⟨by simp; omega, by simpa [parts] using h.2⟩⟩
theorem F_slips_paid {b : List House} (hb : OkBook b) {ps : List Int} (hl : ps.length = b.length) {Q : List (List Int) → Prop} {E : EK} (h : Q ((b.zip ps).map fun x => parts x.1.2 x.2)) : t_slips_paid b ps Q E := by
  simp only [t_slips_paid, bindP, bindW_d, pureW_d, ifW_d, ifP, joinP, lenW, lenA, lenS, sameW, addI, subI, mulI, fdivI, modI, powI, ltI, leI, gtI, geI, eqI, neI, catW, catS, repT, repL, szW, appP, ixW, ixA, getW, asW, lcW, rng1W, rng2W, eqW, neW, eqA, neA, inW, niW, inA, min2, max2, minL, maxL, sumW, absI, intB, anyW, allW, reprW, setixP, augixP, failW, extP, popP, idxW, strW, lrgW, sortW, decide_eq_true_eq, Bool.not_eq_true', Bool.not_eq_eq_eq_not, Bool.not_true, Bool.not_false, decide_eq_false_iff_not, ite_true, ite_false, if_true, if_false, Bool.false_eq_true, true_and, and_true, reduceIte, not_true_eq_false, not_false_eq_true, szOk_small, Nat.reduceAdd, Nat.reduceLeDiff, Nat.zero_add, Int.reduceLT, Int.reduceLE, Int.reduceAdd, Int.reduceMul, Int.reduceNeg, List.length_cons, List.length_nil, List.length_append, List.length_map]
  have := hb.len
  refine lc_map (fun x : House × Int => parts x.1.2 x.2) (by rw [List.length_zip]; omega) (fun x hx Y h => F_parts_of (by have := (hb.pile x.1 (List.of_mem_zip hx).1).len; omega) _ h) h
theorem enI_cons {α : Type} (i : Nat) (x : α) (r : List α) : ((x :: r).zipIdx i).map (fun p => ((p.2 : Int), p.1)) = ((i : Int), x) :: (r.zipIdx (i + 1)).map (fun p => ((p.2 : Int), p.1)) := rfl
theorem F_next_slip {ss : List Slip} (p : Int) {Q : Option Int → Prop} {E : EK} (h : Q (nextI 0 ss p)) : t_next_slip ss p Q E := by
  simp only [t_next_slip, bindP, bindW_d, pureW_d, ifW_d, ifP, joinP, lenW, lenA, lenS, sameW, addI, subI, mulI, fdivI, modI, powI, ltI, leI, gtI, geI, eqI, neI, catW, catS, repT, repL, szW, appP, ixW, ixA, getW, asW, lcW, rng1W, rng2W, eqW, neW, eqA, neA, inW, niW, inA, min2, max2, minL, maxL, sumW, absI, intB, anyW, allW, reprW, setixP, augixP, failW, extP, popP, idxW, strW, lrgW, sortW, decide_eq_true_eq, Bool.not_eq_true', Bool.not_eq_eq_eq_not, Bool.not_true, Bool.not_false, decide_eq_false_iff_not, ite_true, ite_false, if_true, if_false, Bool.false_eq_true, true_and, and_true, reduceIte, not_true_eq_false, not_false_eq_true, szOk_small, Nat.reduceAdd, Nat.reduceLeDiff, Nat.zero_add, Int.reduceLT, Int.reduceLE, Int.reduceAdd, Int.reduceMul, Int.reduceNeg, List.length_cons, List.length_nil, List.length_append, List.length_map]
  refine forP_ind (fun r s => ∃ (i : Nat) (rest : List Slip), r = (rest.zipIdx i).map (fun p => ((p.2 : Int), p.1)) ∧ Q (nextI i rest s)) ?_ ?_ _ _ ⟨0, ss, rfl, h⟩
  · rintro s ⟨i, rest, hr, hq⟩
    cases rest with
    | nil => exact hq
    | cons a b => cases hr
  · rintro x r s ⟨i, rest, hr, hq⟩ N k
    cases rest with
    | nil => cases hr
    | cons a b =>
      rw [enI_cons] at hr; cases hr
      simp only [nextI] at hq
      split
      · next h1 => rwa [if_pos h1] at hq
      · next h1 => rw [if_neg h1] at hq; exact k _ ⟨i + 1, b, rfl, by simpa using hq⟩
theorem F_next_slips {b : List House} (hb : OkBook b) {ps : List Int} (hl : ps.length = b.length) {Q : List (Option Int) → Prop} {E : EK} (h : Q ((b.zip ps).map fun x => nextI 0 x.1.2 x.2)) : t_next_slips b ps Q E := by
  simp only [t_next_slips, bindP, bindW_d, pureW_d, ifW_d, ifP, joinP, lenW, lenA, lenS, sameW, addI, subI, mulI, fdivI, modI, powI, ltI, leI, gtI, geI, eqI, neI, catW, catS, repT, repL, szW, appP, ixW, ixA, getW, asW, lcW, rng1W, rng2W, eqW, neW, eqA, neA, inW, niW, inA, min2, max2, minL, maxL, sumW, absI, intB, anyW, allW, reprW, setixP, augixP, failW, extP, popP, idxW, strW, lrgW, sortW, decide_eq_true_eq, Bool.not_eq_true', Bool.not_eq_eq_eq_not, Bool.not_true, Bool.not_false, decide_eq_false_iff_not, ite_true, ite_false, if_true, if_false, Bool.false_eq_true, true_and, and_true, reduceIte, not_true_eq_false, not_false_eq_true, szOk_small, Nat.reduceAdd, Nat.reduceLeDiff, Nat.zero_add, Int.reduceLT, Int.reduceLE, Int.reduceAdd, Int.reduceMul, Int.reduceNeg, List.length_cons, List.length_nil, List.length_append, List.length_map]
  have := hb.len
  exact lc_map (fun x : House × Int => nextI 0 x.1.2 x.2) (by rw [List.length_zip]; omega) (fun x hx Y h => F_next_slip _ h) h
/-- piles that are no longer than six, with amounts as allowed -/
def OkBookL (b : List House) : Prop := ∀ h ∈ b, h.2.length ≤ 6 ∧ AmOk h.2
theorem OkBook.l {b : List House} (h : OkBook b) : OkBookL b := fun x hx => ⟨(h.pile x hx).len, (h.pile x hx).am⟩
theorem PayOf.mem : ∀ {b : List House} {ps : List Int}, PayOf b ps → OkBookL b → ∀ p ∈ ps, 0 ≤ p ∧ p ≤ 6000000000
  | [], [], _, _, p, hp => by cases hp
  | h :: b, q :: ps, k, ho, p, hp => by
    rcases List.mem_cons.mp hp with rfl | hp
    · have := ho h (by simp)
      have s := sumA_nonneg (ss := h.2) this.2
      have := this.1
      exact ⟨k.1, by have := k.2.1; omega⟩
    · exact PayOf.mem k.2.2 (fun x hx => ho x (List.mem_cons_of_mem _ hx)) p hp
  | [], _ :: _, k, _, _, _ => k.elim
  | _ :: _, [], k, _, _, _ => k.elim
theorem sm_pay {b : List House} (hb : OkBook b) {ps : List Int} (hp : PayOf b ps) : Sm 7 1 (eT eI ps) :=
  (sm_T (n := 6) (m := 1) (h := 0) (by rw [hp.length]; exact hb.len) fun x hx => sm_I (by have := hp.mem hb.l x hx; omega) (by have := hp.mem hb.l x hx; omega)).le (by omega) (by omega)
theorem smint {xs : List Int} {n : Nat} (hl : xs.length ≤ n) (hx : ∀ x ∈ xs, -1 ≤ x ∧ x ≤ 6000000001) : SmL n 0 (xs.map eI) := sm_ints hl fun x h => by have := hx x h; omega
theorem debts_mem {b : List House} (hb : OkBook b) : ∀ x ∈ debtsL b, 0 ≤ x ∧ x ≤ 6000000000 := fun x hx => by
  obtain ⟨h, hh, rfl⟩ := List.mem_map.mp hx
  have := hb.l h hh
  have s := sumA_nonneg (ss := h.2) this.2
  have := this.1
  exact ⟨s.1, by omega⟩
theorem parts_range : ∀ {ss : List Slip} {p : Int}, AmOk ss → 0 ≤ p → ∀ x ∈ parts ss p, 0 ≤ x ∧ x ≤ 1000000000
  | [], _, _, _, x, hx => by cases hx
  | s :: r, p, ha, hp, x, hx => by
    have := ha s (by simp)
    simp only [parts] at hx
    rcases List.mem_cons.mp hx with rfl | hx
    · omega
    · exact parts_range (fun z hz => ha z (List.mem_cons_of_mem _ hz)) (by omega) x hx
theorem sm_book {b : List House} (hb : OkBook b) : Sm 127 4 (eT (eP eI (eT (eP eI eI))) b) := by
  have := sm_bookP hb
  have e : bookP b = eT (eP eI (eT (eP eI eI))) b := rfl
  rwa [e] at this
theorem F__law_pile {own many size wide : Int} (hm : 0 < many) (hm6 : many ≤ 6) (ho : 0 ≤ own ∧ own < many) (hs : 0 ≤ size ∧ size ≤ 6) (hw : 0 < wide ∧ wide ≤ 1000000000) {Q : List Slip → Prop} {E : EK} (h : ∀ ss, OkPile many ss → (∀ s ∈ ss, s.2 ≤ wide) → Q ss) : t__law_pile () own many size wide Q E := by
  simp only [t__law_pile, bindP, bindW_d, pureW_d, ifW_d, ifP, joinP, lenW, lenA, lenS, sameW, addI, subI, mulI, fdivI, modI, powI, ltI, leI, gtI, geI, eqI, neI, catW, catS, repT, repL, szW, appP, ixW, ixA, getW, asW, lcW, rng1W, rng2W, eqW, neW, eqA, neA, inW, niW, inA, min2, max2, minL, maxL, sumW, absI, intB, anyW, allW, reprW, setixP, augixP, failW, extP, popP, idxW, strW, lrgW, sortW, decide_eq_true_eq, Bool.not_eq_true', Bool.not_eq_eq_eq_not, Bool.not_true, Bool.not_false, decide_eq_false_iff_not, ite_true, ite_false, if_true, if_false, Bool.false_eq_true, true_and, and_true, reduceIte, not_true_eq_false, not_false_eq_true, szOk_small, Nat.reduceAdd, Nat.reduceLeDiff, Nat.zero_add, Int.reduceLT, Int.reduceLE, Int.reduceAdd, Int.reduceMul, Int.reduceNeg, List.length_cons, List.length_nil, List.length_append, List.length_map, t__law_draw, t__law_one, List.length_nil]
  refine ⟨⟨by omega, by omega⟩, fun r r0 r1 => ?_⟩
  have lo : ∀ n : Int, CMul n (if 1 < many then 1 else 0) := fun n => .inr (by split <;> omega)
  refine ⟨lo r, ?_⟩
  by_cases h1 : 1 < many
  · simp only [h1, if_true, Int.mul_one]
    refine ⟨in62_of r0 (by omega), ?_⟩
    refine forP_ind (fun l s => (OkPile many s ∧ ∀ z ∈ s, z.2 ≤ wide) ∧ s.length + l.length ≤ 6) (fun s k => h s k.1.1 k.1.2) (fun x l s k N kn => ?_) _ _ ⟨⟨⟨by simp, by simp, by simp⟩, by simp⟩, by rw [rgI_length]; simp; omega⟩
    have k2 := k.2
    simp only [List.length_cons] at k2
    refine ⟨⟨by omega, by omega⟩, fun d d0 d1 => ?_⟩
    refine ⟨by simp, fun y hy => ?_⟩
    have hy : 0 ≤ y ∧ y < many - 1 := by simp only [List.mem_cons, List.not_mem_nil, or_false] at hy; omega
    refine ⟨hm, ⟨by omega, by omega⟩, fun a a0 a1 => ?_⟩
    refine ⟨szlt (by omega), kn _ ⟨⟨⟨by simp; omega, ?_, ?_⟩, ?_⟩, by simp; omega⟩⟩
    · intro s hs
      rcases List.mem_append.mp hs with hs | hs
      · exact k.1.1.to s hs
      · rw [List.mem_singleton] at hs; subst hs; exact ⟨Int.emod_nonneg _ (by omega), Int.emod_lt_of_pos _ hm⟩
    · intro s hs
      rcases List.mem_append.mp hs with hs | hs
      · exact k.1.1.am s hs
      · rw [List.mem_singleton] at hs; subst hs; constructor <;> simp <;> omega
    · intro s hs
      rcases List.mem_append.mp hs with hs | hs
      · exact k.1.2 s hs
      · rw [List.mem_singleton] at hs; subst hs; simp; omega
  · simp only [h1, if_false, Int.mul_zero]
    refine ⟨in62_of (by omega) (by omega), ?_⟩
    exact h [] ⟨by simp, by simp, by simp⟩ (by simp)
theorem F__law_book {most size wide : Int} (hm : 0 < most ∧ most ≤ 6) (hs : 0 ≤ size ∧ size ≤ 6) (hw : 0 < wide ∧ wide ≤ 1000000000) {Q : List House → Prop} {E : EK} (h : ∀ b, OkBook b → (∀ x ∈ b, ∀ s ∈ x.2, s.2 ≤ wide) → Q b) : t__law_book () most size wide Q E := by
  simp only [t__law_book, bindP, bindW_d, pureW_d, ifW_d, ifP, joinP, lenW, lenA, lenS, sameW, addI, subI, mulI, fdivI, modI, powI, ltI, leI, gtI, geI, eqI, neI, catW, catS, repT, repL, szW, appP, ixW, ixA, getW, asW, lcW, rng1W, rng2W, eqW, neW, eqA, neA, inW, niW, inA, min2, max2, minL, maxL, sumW, absI, intB, anyW, allW, reprW, setixP, augixP, failW, extP, popP, idxW, strW, lrgW, sortW, decide_eq_true_eq, Bool.not_eq_true', Bool.not_eq_eq_eq_not, Bool.not_true, Bool.not_false, decide_eq_false_iff_not, ite_true, ite_false, if_true, if_false, Bool.false_eq_true, true_and, and_true, reduceIte, not_true_eq_false, not_false_eq_true, szOk_small, Nat.reduceAdd, Nat.reduceLeDiff, Nat.zero_add, Int.reduceLT, Int.reduceLE, Int.reduceAdd, Int.reduceMul, Int.reduceNeg, List.length_cons, List.length_nil, List.length_append, List.length_map, t__law_draw, t__law_one, List.length_nil]
  refine ⟨⟨by omega, by omega⟩, fun r r0 r1 => ?_⟩
  refine ⟨in62_of (by omega) (by omega), ?_⟩
  refine lc_rel (fun _ y => 0 ≤ y ∧ y ≤ 1000000000000) (by rw [rgI_length]; omega) (fun x hx Y hY => ?_) fun purses hp => ?_
  · refine ⟨⟨by omega, by omega⟩, fun d d0 d1 => ⟨by simp, fun y hy => hY y ?_⟩⟩
    simp only [List.mem_cons, List.not_mem_nil, or_false] at hy; omega
  · have hpl := hp.length
    rw [rgI_length] at hpl
    refine ⟨in62_of (by omega) (by omega), ?_⟩
    refine lc_rel (fun _ y => (0 ≤ y.1 ∧ y.1 ≤ 1000000000000) ∧ OkPile (1 + r) y.2 ∧ ∀ s ∈ y.2, s.2 ≤ wide) (by rw [rgI_length]; omega) (fun x hx Y hY => ?_) fun b hb => ?_
    · rw [mem_rgI] at hx
      obtain ⟨y, e1, e2⟩ := atI_mem (xs := purses) (r := x) (by omega) (by omega)
      obtain ⟨_, _, q⟩ := hp.mem _ e2
      refine ⟨y, e1, ?_⟩
      exact F__law_pile (by omega) (by omega) ⟨by omega, by omega⟩ hs hw fun ss ho hv => hY _ ⟨q, ho, hv⟩
    · have hbl := hb.length
      rw [rgI_length] at hbl
      have e : (b.length : Int) = 1 + r := by omega
      exact h b ⟨by omega, by omega, fun h hh => by obtain ⟨_, _, q⟩ := hb.mem h hh; exact q.1, fun h hh => by obtain ⟨_, _, q⟩ := hb.mem h hh; rw [e]; exact q.2.1⟩ fun h hh => by obtain ⟨_, _, q⟩ := hb.mem h hh; exact q.2.2
theorem F__law_debts {b : List House} (hb : OkBook b) {Q : List Int → Prop} {E : EK} (h : Q (debtsL b)) : t__law_debts b Q E := by
  simp only [t__law_debts, bindP, bindW_d, pureW_d, ifW_d, ifP, joinP, lenW, lenA, lenS, sameW, addI, subI, mulI, fdivI, modI, powI, ltI, leI, gtI, geI, eqI, neI, catW, catS, repT, repL, szW, appP, ixW, ixA, getW, asW, lcW, rng1W, rng2W, eqW, neW, eqA, neA, inW, niW, inA, min2, max2, minL, maxL, sumW, absI, intB, anyW, allW, reprW, setixP, augixP, failW, extP, popP, idxW, strW, lrgW, sortW, decide_eq_true_eq, Bool.not_eq_true', Bool.not_eq_eq_eq_not, Bool.not_true, Bool.not_false, decide_eq_false_iff_not, ite_true, ite_false, if_true, if_false, Bool.false_eq_true, true_and, and_true, reduceIte, not_true_eq_false, not_false_eq_true, szOk_small, Nat.reduceAdd, Nat.reduceLeDiff, Nat.zero_add, Int.reduceLT, Int.reduceLE, Int.reduceAdd, Int.reduceMul, Int.reduceNeg, List.length_cons, List.length_nil, List.length_append, List.length_map]
  have := hb.len
  refine lc_map (fun h : House => sumA h.2) (by omega) (fun x hx Y h => ?_) h
  exact lc_map (fun s : Slip => s.2) (by have := (hb.pile x hx).len; omega) (fun _ _ _ h => h) h
theorem F__law_payments {b : List House} (hb : OkBook b) {Q : List Int → Prop} {E : EK} (h : ∀ ps, PayOf b ps → Q ps) : t__law_payments () b Q E := by
  simp only [t__law_payments, bindP, bindW_d, pureW_d, ifW_d, ifP, joinP, lenW, lenA, lenS, sameW, addI, subI, mulI, fdivI, modI, powI, ltI, leI, gtI, geI, eqI, neI, catW, catS, repT, repL, szW, appP, ixW, ixA, getW, asW, lcW, rng1W, rng2W, eqW, neW, eqA, neA, inW, niW, inA, min2, max2, minL, maxL, sumW, absI, intB, anyW, allW, reprW, setixP, augixP, failW, extP, popP, idxW, strW, lrgW, sortW, decide_eq_true_eq, Bool.not_eq_true', Bool.not_eq_eq_eq_not, Bool.not_true, Bool.not_false, decide_eq_false_iff_not, ite_true, ite_false, if_true, if_false, Bool.false_eq_true, true_and, and_true, reduceIte, not_true_eq_false, not_false_eq_true, szOk_small, Nat.reduceAdd, Nat.reduceLeDiff, Nat.zero_add, Int.reduceLT, Int.reduceLE, Int.reduceAdd, Int.reduceMul, Int.reduceNeg, List.length_cons, List.length_nil, List.length_append, List.length_map, t__law_draw, t__law_one]
  have hbl := hb.len
  refine forP_ind (fun r s => s.length + r.length ≤ 6 ∧ (∀ x ∈ r, x ∈ b) ∧ ∀ ps, PayOf r ps → Q (s ++ ps)) (fun s k => by simpa using k.2.2 [] trivial) (fun x r s k N kn => ?_) _ _ ⟨by simpa using hbl, fun x h => h, by simpa using h⟩
  obtain ⟨k1, k2, k3⟩ := k
  simp only [List.length_cons] at k1
  have hx := k2 x (by simp)
  have hp := hb.pile x hx
  have hl := hp.len
  have hs0 := sumA_nonneg (ss := x.2) hp.am
  refine ⟨in62_of (by omega) (by omega), ?_⟩
  refine lc_map (fun k : Int => sumA (x.2.take (k + 1).toNat)) (by rw [rgI_length]; omega) (fun k hk Y hY => ?_) ?_
  · rw [mem_rgI] at hk
    rw [cutT_to _ _ (by omega)]
    exact lc_map (fun s : Slip => s.2) (by rw [List.length_take]; omega) (fun _ _ _ h => h) hY
  · generalize he : [(0 : Int)] ++ (rgI 0 ((x.2.length : Nat) : Int).toNat).map (fun k : Int => sumA (x.2.take (k + 1).toNat)) = ends
    have hlen : ends.length = 1 + x.2.length := by rw [← he]; simp [rgI_length]; omega
    have hb0 : ∀ y ∈ ends, 0 ≤ y ∧ y ≤ sumA x.2 := by
      intro y hy
      rw [← he] at hy
      rcases List.mem_append.mp hy with hy | hy
      · rw [List.mem_singleton] at hy; omega
      · obtain ⟨k, hk, rfl⟩ := List.mem_map.mp hy
        have s1 := sumA_nonneg (ss := x.2.take (k + 1).toNat) fun z hz => hp.am z (List.mem_of_mem_take hz)
        have s2 := sumA_nonneg (ss := x.2.drop (k + 1).toNat) fun z hz => hp.am z (List.mem_of_mem_drop hz)
        have s3 := sumA_append (x.2.take (k + 1).toNat) (x.2.drop (k + 1).toNat)
        rw [List.take_append_drop] at s3
        omega
    have hlast : atI ends (-1) = some (sumA x.2) := by
      rw [atI_neg1, ← he]
      cases hn : x.2.length with
      | zero => rw [List.length_eq_zero_iff.mp hn]; rfl
      | succ n =>
        have : (rgI 0 ((n + 1 : Nat) : Int).toNat) = rgI 0 n ++ [(n : Int)] := by
          unfold rgI
          rw [show ((n + 1 : Nat) : Int).toNat = n + 1 by omega, List.range_succ, List.map_append]; simp
        rw [this, List.map_append, ← List.append_assoc]
        simp only [List.map_cons, List.map_nil, List.getLast?_append, List.getLast?_singleton, Option.some_or]
        rw [show ((n : Int) + 1).toNat = n + 1 by omega, List.take_of_length_le (by omega)]
    have ne : ends ≠ [] := fun z => by rw [z, List.length_nil] at hlen; omega
    have hml : ((rgI 0 ((x.2.length : Nat) : Int).toNat).map (fun k : Int => sumA (x.2.take (k + 1).toNat))).length ≤ 6 := by rw [List.length_map, rgI_length]; omega
    refine ⟨szle (by omega), ⟨ne, by omega⟩, fun a ha => ⟨⟨ne, by omega⟩, fun c hc => ⟨⟨ne, by omega⟩, fun d hd => ⟨_, hlast, ⟨by omega, by omega⟩, fun u u0 u1 => ?_⟩⟩⟩⟩
    have a0 := hb0 a ha; have c0 := hb0 c hc; have d0 := hb0 d hd
    refine ⟨by simp, fun y hy => ⟨_, hlast, szlt (by omega), kn _ ⟨by simp; omega, fun z hz => k2 z (List.mem_cons_of_mem _ hz), fun ps hps => ?_⟩⟩⟩
    rw [List.append_assoc]
    exact k3 (_ :: ps) ⟨by omega, by omega, hps⟩
/-! received, held -/
/-- what is paid on the slips of a pile is added at their houses -/
theorem forP_slips {K : List Int → Prop} {n : Nat} : ∀ (ss : List Slip) (qs : List Int) (xs : List Int), qs.length = ss.length → (∀ s ∈ ss, 0 ≤ s.1 ∧ s.1 < n) → xs.length = n → K (addF (slipsTo ss qs) 0 xs) →
    forP (fun (x : Slip × Int) (s : List Int) N B => ∃ y, atI s x.1.1 = some y ∧ ∃ j, ixN s.length x.1.1 = some j ∧ N (s.set j (y + x.2))) (fun s => K s) (ss.zip qs) xs
  | [], _, xs, _, _, _, h => by
    show K xs
    have e : ∀ qs, addF (slipsTo [] qs) 0 xs = xs := fun qs => addF_zero 0 xs
    rw [e] at h; exact h
  | s :: ss, [], xs, hl, _, _, _ => by simp at hl
  | s :: ss, q :: qs, xs, hl, ht, hx, h => by
    have h0 := ht s (by simp)
    have hi : s.1.toNat < xs.length := by omega
    show ∃ y, atI xs s.1 = some y ∧ ∃ j, ixN xs.length s.1 = some j ∧ _
    refine ⟨xs[s.1.toNat], atI_int h0.1 (by omega), s.1.toNat, ixN_int h0.1 (by omega), ?_⟩
    rw [addF_at q xs 0 s.1.toNat hi]
    refine forP_slips ss qs _ (by simpa using hl) (fun z hz => ht z (List.mem_cons_of_mem _ hz)) (by rw [addF_length]; exact hx) ?_
    rw [addF_addF]
    have e : (fun k => (if (0 : Int) + (s.1.toNat : Int) = k then q else 0) + slipsTo ss qs k) = slipsTo (s :: ss) (q :: qs) := by
      funext k
      simp only [slipsTo]
      rw [show (0 : Int) + (s.1.toNat : Int) = s.1 by omega]
    rw [e]; exact h
def ToOk (n : Nat) (ss : List Slip) : Prop := ∀ s ∈ ss, 0 ≤ s.1 ∧ s.1 < n
theorem OkBook.to {b : List House} (hb : OkBook b) : ∀ x ∈ b, ToOk b.length x.2 := fun x hx s hs => (hb.pile x hx).to s hs
/-- .. of all houses -/
theorem forP_recv {K : List Int → Prop} {α : Type} (pp : α → List Slip × List Int) (body : α → List Int → (List Int → Prop) → (List Int → Prop) → Prop) (n : Nat) (hbody : ∀ x s N B, (pp x).2.length = (pp x).1.length → ToOk n (pp x).1 → (pp x).1.length ≤ 1000 → s.length = n → N (addF (slipsTo (pp x).1 (pp x).2) 0 s) → body x s N B) :
    ∀ (l : List α) (xs : List Int), (∀ x ∈ l, (pp x).2.length = (pp x).1.length ∧ ToOk n (pp x).1 ∧ (pp x).1.length ≤ 1000) → xs.length = n → K (addF (fun h => (l.map fun x => slipsTo (pp x).1 (pp x).2 h).sum) 0 xs) → forP body K l xs
  | [], xs, _, _, h => by
    show K xs
    have e : addF (fun h => (([] : List α).map fun x => slipsTo (pp x).1 (pp x).2 h).sum) 0 xs = xs := addF_zero 0 xs
    rw [e] at h; exact h
  | x :: l, xs, hl, hx, h => by
    have h0 := hl x (by simp)
    refine hbody x xs _ _ h0.1 h0.2.1 h0.2.2 hx ?_
    refine forP_recv pp body n hbody l _ (fun y hy => hl y (List.mem_cons_of_mem _ hy)) (by rw [addF_length]; exact hx) ?_
    rw [addF_addF]
    simpa only [List.map_cons, List.sum_cons] using h
theorem recvH_sum : ∀ (b : List House) (ps : List Int) (h : Int), ((b.zip ps).map fun x => paidTo x.1.2 x.2 h).sum = recvH b ps h
  | [], _, _ => by simp [recvH]
  | _ :: _, [], _ => by simp [recvH]
  | x :: b, p :: ps, h => by simp only [List.zip_cons_cons, List.map_cons, List.sum_cons, recvH, recvH_sum b ps h]
theorem F_received {b : List House} (hb : OkBook b) {ps : List Int} (hl : ps.length = b.length) {Q : List Int → Prop} {E : EK} (h : Q (recvL b ps)) : t_received b ps Q E := by
  simp only [t_received, bindP, bindW_d, pureW_d, ifW_d, ifP, joinP, lenW, lenA, lenS, sameW, addI, subI, mulI, fdivI, modI, powI, ltI, leI, gtI, geI, eqI, neI, catW, catS, repT, repL, szW, appP, ixW, ixA, getW, asW, lcW, rng1W, rng2W, eqW, neW, eqA, neA, inW, niW, inA, min2, max2, minL, maxL, sumW, absI, intB, anyW, allW, reprW, setixP, augixP, failW, extP, popP, idxW, strW, lrgW, sortW, decide_eq_true_eq, Bool.not_eq_true', Bool.not_eq_eq_eq_not, Bool.not_true, Bool.not_false, decide_eq_false_iff_not, ite_true, ite_false, if_true, if_false, Bool.false_eq_true, true_and, and_true, reduceIte, not_true_eq_false, not_false_eq_true, szOk_small, Nat.reduceAdd, Nat.reduceLeDiff, Nat.zero_add, Int.reduceLT, Int.reduceLE, Int.reduceAdd, Int.reduceMul, Int.reduceNeg, List.length_cons, List.length_nil, List.length_append, List.length_map]
  have hbl := hb.len
  refine lc_map (fun _ => (0 : Int)) (by omega) (fun _ _ _ h => h) ?_
  refine F_slips_paid hb hl ?_
  have e0 : b.map (fun _ => (0 : Int)) = List.replicate b.length 0 := by rw [List.map_const']
  rw [e0]
  refine forP_recv (fun x : House × List Int => (x.1.2, x.2)) _ b.length (fun x s N B h1 h2 _ h3 h4 => forP_slips _ _ _ h1 h2 h3 h4) _ _ (fun x hx => ?_) (by simp) ?_
  · obtain ⟨i, h1, h2⟩ := List.mem_iff_getElem.mp hx
    rw [List.getElem_zip, List.getElem_map, List.getElem_zip] at h2
    subst h2
    exact ⟨parts_length _ _, hb.to _ (List.getElem_mem _), by
      have hi : i < b.length := by rw [List.length_zip] at h1; omega
      have := (hb.pile _ (List.getElem_mem hi)).len
      show b[i].2.length ≤ 1000
      omega⟩
  · have e : (fun h : Int => ((b.zip ((b.zip ps).map fun x => parts x.1.2 x.2)).map fun x : House × List Int => slipsTo x.1.2 x.2 h).sum) = recvH b ps := by
      funext k
      rw [← recvH_sum]
      congr 1
      apply List.ext_getElem
      · simp
      · intro i h1 h2; simp
    rw [e, ← recvL_addF]; exact h
theorem F_held {b : List House} (hb : OkBook b) {ps : List Int} (hl : ps.length = b.length) {Q : List Int → Prop} {E : EK} (h : Q (heldL b ps)) : t_held b ps Q E := by
  have hbl := hb.len
  have e : t_held b ps Q E = t_received b ps (fun more => (zip3 b more ps).length ≤ sizeLine ∧ lcP (fun _ Q' _ => Q' true) (fun (a : House × Int × Int) Q' E => Q' (a.1.1 + a.2.1 - a.2.2)) (fun _ => False) (zip3 b more ps) [] Q) E := by
    simp only [t_held, bindP, bindW_d, pureW_d, ifW_d, ifP, joinP, lenW, lenA, lenS, sameW, addI, subI, mulI, fdivI, modI, powI, ltI, leI, gtI, geI, eqI, neI, catW, catS, repT, repL, szW, appP, ixW, ixA, getW, asW, lcW, rng1W, rng2W, eqW, neW, eqA, neA, inW, niW, inA, min2, max2, minL, maxL, sumW, absI, intB, anyW, allW, reprW, setixP, augixP, failW, extP, popP, idxW, strW, lrgW, sortW, decide_eq_true_eq, Bool.not_eq_true', Bool.not_eq_eq_eq_not, Bool.not_true, Bool.not_false, decide_eq_false_iff_not, ite_true, ite_false, if_true, if_false, Bool.false_eq_true, true_and, and_true, reduceIte, not_true_eq_false, not_false_eq_true, szOk_small, Nat.reduceAdd, Nat.reduceLeDiff, Nat.zero_add, Int.reduceLT, Int.reduceLE, Int.reduceAdd, Int.reduceMul, Int.reduceNeg, List.length_cons, List.length_nil, List.length_append, List.length_map]
  rw [e]
  refine F_received hb hl ?_
  refine lc_map (fun a : House × Int × Int => a.1.1 + a.2.1 - a.2.2) (by unfold zip3; rw [List.length_zip]; omega) (fun _ _ _ h => h) h
theorem F__law_parts {ss : List Slip} (hl : ss.length ≤ 1000) (p : Int) {Q : List Int → Prop} {E : EK} (h : Q (parts ss p)) : t__law_parts ss p Q E := by
  simp only [t__law_parts, bindP, bindW_d, pureW_d, ifW_d, ifP, joinP, lenW, lenA, lenS, sameW, addI, subI, mulI, fdivI, modI, powI, ltI, leI, gtI, geI, eqI, neI, catW, catS, repT, repL, szW, appP, ixW, ixA, getW, asW, lcW, rng1W, rng2W, eqW, neW, eqA, neA, inW, niW, inA, min2, max2, minL, maxL, sumW, absI, intB, anyW, allW, reprW, setixP, augixP, failW, extP, popP, idxW, strW, lrgW, sortW, decide_eq_true_eq, Bool.not_eq_true', Bool.not_eq_eq_eq_not, Bool.not_true, Bool.not_false, decide_eq_false_iff_not, ite_true, ite_false, if_true, if_false, Bool.false_eq_true, true_and, and_true, reduceIte, not_true_eq_false, not_false_eq_true, szOk_small, Nat.reduceAdd, Nat.reduceLeDiff, Nat.zero_add, Int.reduceLT, Int.reduceLE, Int.reduceAdd, Int.reduceMul, Int.reduceNeg, List.length_cons, List.length_nil, List.length_append, List.length_map]
  refine forP_ind (fun r s => s.1.length + r.length ≤ 1000 ∧ Q (s.1 ++ parts r s.2)) (fun s h => by simpa [parts] using h.2) (fun x r s h N k => ?_) _ _ ⟨by simpa using hl, h⟩
  have h1 := h.1
  simp only [List.length_cons] at h1
  have h2 := h.2
  simp only [parts] at h2
  have go : ∀ c, c = min x.2 s.2 → s.1.length < sizeLine ∧ N (s.1 ++ [c], s.2 - c) := fun c hc => by
    subst hc
    exact ⟨szlt (by omega), k _ ⟨by simp; omega, by simpa using h2⟩⟩
  split
  · exact go _ (by omega)
  · exact go _ (by omega)
theorem F__law_held {b : List House} (hb : OkBook b) {ps : List Int} (hl : ps.length = b.length) {Q : List Int → Prop} {E : EK} (h : Q (heldL b ps)) : t__law_held b ps Q E := by
  simp only [t__law_held, bindP, bindW_d, pureW_d, ifW_d, ifP, joinP, lenW, lenA, lenS, sameW, addI, subI, mulI, fdivI, modI, powI, ltI, leI, gtI, geI, eqI, neI, catW, catS, repT, repL, szW, appP, ixW, ixA, getW, asW, lcW, rng1W, rng2W, eqW, neW, eqA, neA, inW, niW, inA, min2, max2, minL, maxL, sumW, absI, intB, anyW, allW, reprW, setixP, augixP, failW, extP, popP, idxW, strW, lrgW, sortW, decide_eq_true_eq, Bool.not_eq_true', Bool.not_eq_eq_eq_not, Bool.not_true, Bool.not_false, decide_eq_false_iff_not, ite_true, ite_false, if_true, if_false, Bool.false_eq_true, true_and, and_true, reduceIte, not_true_eq_false, not_false_eq_true, szOk_small, Nat.reduceAdd, Nat.reduceLeDiff, Nat.zero_add, Int.reduceLT, Int.reduceLE, Int.reduceAdd, Int.reduceMul, Int.reduceNeg, List.length_cons, List.length_nil, List.length_append, List.length_map]
  have hbl := hb.len
  refine lc_map (fun x : House × Int => x.1.1 - x.2) (by rw [List.length_zip]; omega) (fun _ _ _ h => h) ?_
  have hz : (b.zip ps).length = b.length := by rw [List.length_zip]; omega
  refine forP_recv (fun x : House × Int => (x.1.2, parts x.1.2 x.2)) _ b.length (fun x s N B h1 h2 h0 h3 h4 => F__law_parts (ss := x.1.2) h0 x.2 (forP_slips x.1.2 (parts x.1.2 x.2) s h1 h2 h3 h4)) _ _ (fun x hx => ?_) (show ((b.zip ps).map fun x : House × Int => x.1.1 - x.2).length = b.length by rw [List.length_map]; exact hz) ?_
  · exact ⟨parts_length _ _, hb.to _ (List.of_mem_zip hx).1, by
      have := (hb.pile _ (List.of_mem_zip hx).1).len
      show x.1.2.length ≤ 1000
      omega⟩
  · have e : (fun h : Int => ((b.zip ps).map fun x : House × Int => slipsTo x.1.2 (parts x.1.2 x.2) h).sum) = recvH b ps := by
      funext k; exact recvH_sum b ps k
    rw [e]
    have e2 : addF (recvH b ps) 0 ((b.zip ps).map fun x : House × Int => x.1.1 - x.2) = heldL b ps := by
      apply List.ext_getElem?
      intro i
      rw [addF_get, List.getElem?_map]
      by_cases hi : i < b.length
      · rw [heldL_get hl hi, List.getElem?_eq_getElem (by rw [List.length_zip]; omega), List.getElem_zip]
        simp; omega
      · rw [List.getElem?_eq_none_iff.mpr (by rw [List.length_zip]; omega), List.getElem?_eq_none_iff.mpr (by rw [heldL_length hl]; omega)]; rfl
    rw [e2]; exact h

/-! coin by coin -/
def coinsOf (ss : List Slip) : List Int := (ss.map fun s => List.replicate s.2.toNat s.1).flatten
theorem coins_cons (s : Slip) (r : List Slip) : coinsOf (s :: r) = List.replicate s.2.toNat s.1 ++ coinsOf r := by simp [coinsOf]
theorem coins_length : ∀ {ss : List Slip}, (∀ s ∈ ss, 1 ≤ s.2 ∧ s.2 ≤ 12) → (coinsOf ss).length ≤ 12 * ss.length
  | [], _ => by simp [coinsOf]
  | s :: r, h => by
    have h1 := h s (by simp)
    have := coins_length (ss := r) fun x hx => h x (List.mem_cons_of_mem _ hx)
    rw [coins_cons, List.length_append, List.length_replicate, List.length_cons]; omega
theorem coins_count : ∀ {ss : List Slip} {p : Int}, AmOk ss → 0 ≤ p → ∀ h, (((coinsOf ss).take p.toNat).count h : Int) = paidTo ss p h
  | [], p, _, _, h => by simp [coinsOf, slipsTo]
  | s :: r, p, ha, hp, h => by
    have h1 := ha s (by simp)
    have ih := coins_count (ss := r) (p := p - min s.2 p) (fun x hx => ha x (List.mem_cons_of_mem _ hx)) (by omega) h
    rw [paidTo_cons, coins_cons, List.take_append, List.count_append, List.take_replicate, List.length_replicate, List.count_replicate]
    rw [show p.toNat - s.2.toNat = (p - min s.2 p).toNat by omega]
    have hb : (s.1 == h) = decide (s.1 = h) := beq_dec _ _
    rw [hb]
    simp only [decide_eq_true_eq]
    split
    · rw [Int.natCast_add, ih]; omega
    · rw [Int.natCast_add, ih]; simp
theorem coins_to {ss : List Slip} {n : Nat} (ht : ToOk n ss) : ∀ c ∈ coinsOf ss, 0 ≤ c ∧ c < n := fun c hc => by
  unfold coinsOf at hc
  obtain ⟨l, hl, hc⟩ := List.mem_flatten.mp hc
  obtain ⟨s, hs, rfl⟩ := List.mem_map.mp hl
  rw [List.mem_replicate] at hc
  rw [hc.2]; exact ht s hs
theorem forP_ones {K : List Int → Prop} {n : Nat} : ∀ (cs : List Int) (xs : List Int), (∀ c ∈ cs, 0 ≤ c ∧ c < n) → xs.length = n → K (addF (fun h => (cs.count h : Int)) 0 xs) →
    forP (fun (x : Int) (s : List Int) N B => ∃ y, atI s x = some y ∧ ∃ j, ixN s.length x = some j ∧ N (s.set j (y + 1))) (fun s => K s) cs xs
  | [], xs, _, _, h => by
    show K xs
    have e : addF (fun h => (([] : List Int).count h : Int)) 0 xs = xs := addF_zero 0 xs
    rw [e] at h; exact h
  | c :: cs, xs, ht, hx, h => by
    have h0 := ht c (by simp)
    have hi : c.toNat < xs.length := by omega
    show ∃ y, atI xs c = some y ∧ ∃ j, ixN xs.length c = some j ∧ _
    refine ⟨xs[c.toNat], atI_int h0.1 (by omega), c.toNat, ixN_int h0.1 (by omega), ?_⟩
    rw [addF_at 1 xs 0 c.toNat hi]
    refine forP_ones cs _ (fun z hz => ht z (List.mem_cons_of_mem _ hz)) (by rw [addF_length]; exact hx) ?_
    rw [addF_addF]
    have e : (fun k => (if (0 : Int) + (c.toNat : Int) = k then 1 else 0) + ((cs.count k : Nat) : Int)) = fun k => (((c :: cs).count k : Nat) : Int) := by
      funext k
      rw [List.count_cons, beq_dec, show (0 : Int) + (c.toNat : Int) = c by omega]
      simp only [decide_eq_true_eq]
      split <;> simp <;> omega
    rw [e]; exact h
theorem rep_flat {α : Type} (n : Nat) (x : α) : (List.replicate n [x]).flatten = List.replicate n x := by
  induction n with
  | zero => rfl
  | succ n ih => rw [List.replicate_succ, List.flatten_cons, ih, List.replicate_succ]; rfl
theorem F__law_by_coins {b : List House} (hb : OkBook b) (h12 : ∀ x ∈ b, ∀ s ∈ x.2, s.2 ≤ 12) {ps : List Int} (hp : PayOf b ps) {Q : List Int → Prop} {E : EK} (h : Q (recvL b ps)) : t__law_by_coins b ps Q E := by
  simp only [t__law_by_coins, bindP, bindW_d, pureW_d, ifW_d, ifP, joinP, lenW, lenA, lenS, sameW, addI, subI, mulI, fdivI, modI, powI, ltI, leI, gtI, geI, eqI, neI, catW, catS, repT, repL, szW, appP, ixW, ixA, getW, asW, lcW, rng1W, rng2W, eqW, neW, eqA, neA, inW, niW, inA, min2, max2, minL, maxL, sumW, absI, intB, anyW, allW, reprW, setixP, augixP, failW, extP, popP, idxW, strW, lrgW, sortW, decide_eq_true_eq, Bool.not_eq_true', Bool.not_eq_eq_eq_not, Bool.not_true, Bool.not_false, decide_eq_false_iff_not, ite_true, ite_false, if_true, if_false, Bool.false_eq_true, true_and, and_true, reduceIte, not_true_eq_false, not_false_eq_true, szOk_small, Nat.reduceAdd, Nat.reduceLeDiff, Nat.zero_add, Int.reduceLT, Int.reduceLE, Int.reduceAdd, Int.reduceMul, Int.reduceNeg, List.length_cons, List.length_nil, List.length_append, List.length_map]
  have hbl := hb.len
  have hl := hp.length
  refine ⟨⟨by omega, by omega, szle (by omega)⟩, ?_⟩
  rw [rep_flat, show ((b.length : Int)).toNat = b.length by omega]
  refine forP_ind (fun r s => (∀ x ∈ r, x ∈ b.zip ps) ∧ s.length = b.length ∧ Q (addF (fun h => (r.map fun x : House × Int => paidTo x.1.2 x.2 h).sum) 0 s)) (fun s k => ?_) (fun x r s k N kn => ?_) _ _ ⟨fun x h => h, by simp, ?_⟩
  · have e : addF (fun h => (([] : List (House × Int)).map fun x : House × Int => paidTo x.1.2 x.2 h).sum) 0 s = s := addF_zero 0 s
    rw [e] at k; exact k.2.2
  · obtain ⟨k1, k2, k3⟩ := k
    have hx := k1 x (by simp)
    have hm := (List.of_mem_zip hx).1
    have ho := hb.pile _ hm
    have h0 := (hp.mem hb.l _ (List.of_mem_zip hx).2).1
    have ha : ∀ s ∈ x.1.2, 1 ≤ s.2 ∧ s.2 ≤ 12 := fun s hs => ⟨(ho.am s hs).1, h12 _ hm s hs⟩
    have hol := ho.len
    refine forP_ind (fun l c => ∃ pre, x.1.2 = pre ++ l ∧ c = coinsOf pre) (fun c k => ?_) (fun sl l c k N2 kn2 => ?_) _ _ ⟨[], rfl, rfl⟩
    · obtain ⟨pre, e, rfl⟩ := k
      rw [List.append_nil] at e
      subst e
      rw [cutT_to _ _ h0]
      refine forP_ones (n := b.length) _ _ (fun c hc => coins_to (hb.to _ hm) c (List.mem_of_mem_take hc)) k2 ?_
      refine kn _ ⟨fun y hy => k1 y (List.mem_cons_of_mem _ hy), by rw [addF_length]; exact k2, ?_⟩
      rw [addF_addF]
      simp only [List.map_cons, List.sum_cons] at k3
      simp only [coins_count ho.am h0]
      exact k3
    · obtain ⟨pre, e, rfl⟩ := k
      have hs := ha sl (by rw [e]; simp)
      have hlen : pre.length + 1 ≤ 6 := by have := congrArg List.length e; simp at this; omega
      have hc := coins_length (ss := pre) fun z hz => ha z (by rw [e]; exact List.mem_append_left _ hz)
      rw [rep_flat]
      refine ⟨⟨by omega, by omega, szle (by omega)⟩, szle (by rw [List.length_replicate]; omega), kn2 _ ⟨pre ++ [sl], by rw [e]; simp, ?_⟩⟩
      simp [coinsOf]
  · have e : (fun h : Int => ((b.zip ps).map fun x : House × Int => paidTo x.1.2 x.2 h).sum) = recvH b ps := by
      funext k; exact recvH_sum b ps k
    rw [e, ← recvL_addF]; exact h

/-! one coin more -/
theorem nexts_get {b : List House} {ps : List Int} (hl : ps.length = b.length) {i : Nat} (hi : i < b.length) : ((b.zip ps).map fun x => nextI 0 x.1.2 x.2)[i]? = some (nextI 0 b[i].2 (ps[i]'(by omega))) := by
  rw [List.getElem?_map, List.getElem?_eq_getElem (by rw [List.length_zip]; omega), List.getElem_zip]; rfl
theorem PayOf.get : ∀ {b : List House} {ps : List Int}, PayOf b ps → ∀ (i : Nat) (h1 : i < b.length) (h2 : i < ps.length), 0 ≤ ps[i] ∧ ps[i] ≤ sumA b[i].2
  | h :: b, p :: ps, k, 0, _, _ => ⟨k.1, k.2.1⟩
  | h :: b, p :: ps, k, i + 1, h1, h2 => PayOf.get k.2.2 i (by simpa using h1) (by simpa using h2)
  | [], _, _, _, h1, _ => by simp at h1
  | _ :: _, [], k, _, _, _ => k.elim
theorem recvH_set : ∀ (b : List House) (ps : List Int) (i : Nat) (h1 : i < b.length) (h2 : i < ps.length) (v h : Int), recvH b (ps.set i v) h = recvH b ps h - paidTo b[i].2 ps[i] h + paidTo b[i].2 v h
  | x :: b, p :: ps, 0, _, _, v, h => by simp only [List.set_cons_zero, recvH, List.getElem_cons_zero]; omega
  | x :: b, p :: ps, i + 1, h1, h2, v, h => by
    simp only [List.set_cons_succ, recvH, List.getElem_cons_succ]
    rw [recvH_set b ps i (by simpa using h1) (by simpa using h2)]; omega
theorem take_set_drop (ps : List Int) (i : Nat) (h : i < ps.length) (v : Int) : ps.take i ++ [v] ++ ps.drop (i + 1) = ps.set i v := by
  rw [List.set_eq_take_append_cons_drop, if_pos h]; simp
theorem F__law_coin_right {b : List House} (hb : OkBook b) {ps : List Int} (hp : PayOf b ps) {Q : Bool → Prop} {E : EK} (h : Q true) : t__law_coin_right () b ps Q E := by
  have hbl := hb.len
  have hbp := hb.pos
  have hl := hp.length
  have e : t__law_coin_right () b ps Q E = ((0 < (b.length : Int) ∧ (b.length : Int) < 2 ^ 200) ∧ ∀ r : Int, 0 ≤ r → r < b.length → t_next_slips b ps (fun x => ∃ x1, atI x r = some x1 ∧ (if x1.isNone = true then ∃ y, atI ps r = some y ∧ t__law_debts b (fun z => ∃ w, atI z r = some w ∧ Q (decide (y = w))) E
      else ∃ y, atI ps r = some y ∧ szOk ((cutT ps none (some r)).length + 1) ∧ szOk ((cutT ps none (some r)).length + 1 + (cutT ps (some (r + 1)) none).length) ∧
        ∃ z, atI b r = some z ∧ ∃ w, atI x r = some w ∧ ∃ u, w = some u ∧ ∃ t, atI z.2 u = some t ∧ t_held b ps (fun before => t_held b (cutT ps none (some r) ++ [y + 1] ++ cutT ps (some (r + 1)) none) (fun after =>
          (enI before).length ≤ sizeLine ∧ lcP (fun _ Q' _ => Q' true) (fun (a : Int × Int) Q' E => Q' (a.2 + (if a.1 = t.1 then 1 else 0) - (if a.1 = r then 1 else 0))) (fun _ => False) (enI before) [] fun due => Q (decide (after = due))) E) E)) E) := by
    simp only [t__law_coin_right, bindP, bindW_d, pureW_d, ifW_d, ifP, joinP, lenW, lenA, lenS, sameW, addI, subI, mulI, fdivI, modI, powI, ltI, leI, gtI, geI, eqI, neI, catW, catS, repT, repL, szW, appP, ixW, ixA, getW, asW, lcW, rng1W, rng2W, eqW, neW, eqA, neA, inW, niW, inA, min2, max2, minL, maxL, sumW, absI, intB, anyW, allW, reprW, setixP, augixP, failW, extP, popP, idxW, strW, lrgW, sortW, decide_eq_true_eq, Bool.not_eq_true', Bool.not_eq_eq_eq_not, Bool.not_true, Bool.not_false, decide_eq_false_iff_not, ite_true, ite_false, if_true, if_false, Bool.false_eq_true, true_and, and_true, reduceIte, not_true_eq_false, not_false_eq_true, szOk_small, Nat.reduceAdd, Nat.reduceLeDiff, Nat.zero_add, Int.reduceLT, Int.reduceLE, Int.reduceAdd, Int.reduceMul, Int.reduceNeg, List.length_cons, List.length_nil, List.length_append, List.length_map, t__law_draw, t_held]
  rw [e]
  refine ⟨⟨by omega, by omega⟩, fun r r0 r1 => F_next_slips hb hl ?_⟩
  obtain ⟨i, rfl⟩ : ∃ i : Nat, r = (i : Int) := ⟨r.toNat, by omega⟩
  have hi : i < b.length := by omega
  have hi2 : i < ps.length := by omega
  have ho := hb.pile _ (List.getElem_mem hi)
  have hpi := hp.get i hi hi2
  have ep : atI ps (i : Int) = some ps[i] := atI_nat (List.getElem?_eq_getElem hi2)
  refine ⟨_, atI_nat (nexts_get hl hi), ?_⟩
  cases hn : nextI 0 b[i].2 ps[i] with
  | none =>
    simp only [Option.isNone_none, if_true]
    refine ⟨_, ep, F__law_debts hb ⟨sumA b[i].2, atI_nat (by rw [List.getElem?_map, List.getElem?_eq_getElem hi]; rfl), ?_⟩⟩
    have := nextI_none hn hpi.1
    rw [decide_eq_true (show ps[i] = sumA b[i].2 by omega)]; exact h
  | some j =>
    simp only [Option.isNone_some, Bool.false_eq_true, if_false]
    have hj := nextI_ge hn
    have hjl : j.toNat < b[i].2.length := by omega
    rw [cutT_to _ _ (by omega), cutT_from _ _ (by omega), show ((i : Int)).toNat = i by omega, show ((i : Int) + 1).toNat = i + 1 by omega]
    refine ⟨_, ep, szle (by rw [List.length_take]; omega), szle (by rw [List.length_take, List.length_drop]; omega), b[i], atI_nat (List.getElem?_eq_getElem hi), some j, ?_, j, rfl, b[i].2[j.toNat], atI_int (by omega) (by omega), ?_⟩
    · rw [← hn]; exact atI_nat (nexts_get hl hi)
    · rw [take_set_drop _ _ hi2]
      have hl2 : (ps.set i (ps[i] + 1)).length = b.length := by rw [List.length_set]; exact hl
      refine F_held hb hl (F_held hb hl2 ?_)
      refine lc_map (fun a : Int × Int => a.2 + (if a.1 = b[i].2[j.toNat].1 then 1 else 0) - (if a.1 = (i : Int) then 1 else 0)) (by rw [enI_length, heldL_length hl]; omega) (fun _ _ _ h => h) ?_
      have key : heldL b (ps.set i (ps[i] + 1)) = (enI (heldL b ps)).map fun a : Int × Int => a.2 + (if a.1 = b[i].2[j.toNat].1 then 1 else 0) - (if a.1 = (i : Int) then 1 else 0) := by
        apply List.ext_getElem?
        intro k
        by_cases hk : k < b.length
        · rw [heldL_get hl2 hk, List.getElem?_map]
          unfold enI
          rw [List.getElem?_map, List.getElem?_zipIdx, heldL_get hl hk]
          simp only [Option.map_some, Nat.zero_add]
          congr 1
          rw [recvH_set b ps i hi hi2, List.getElem_set]
          have hs := nextI_some ho.am hpi.1 hn
          rw [Int.sub_zero] at hs
          have hst := paidTo_step ho.am hpi.1 (show (0 : Int) ≤ 1 by omega) hn (by rw [Int.sub_zero]; omega) (k : Int)
          rw [Int.sub_zero] at hst
          have eg : b[i].2.getD j.toNat (0, 0) = b[i].2[j.toNat] := by simp [List.getD, hjl]
          rw [eg] at hst
          rw [hst]
          by_cases hik : i = k
          · subst hik
            simp only [if_true]
            split <;> split <;> omega
          · rw [if_neg hik, if_neg (show ¬ ((k : Int) = (i : Int)) by omega)]
            split <;> split <;> omega
        · rw [List.getElem?_eq_none_iff.mpr (by rw [heldL_length hl2]; omega), List.getElem?_eq_none_iff.mpr (by rw [List.length_map, enI_length, heldL_length hl]; omega)]
      rw [decide_eq_true key]; exact h

theorem got_eq {b : List House} {ps : List Int} (hl : ps.length = b.length) : (zip3 (heldL b ps) ps b).map (fun x : Int × Int × House => x.1 + x.2.1 - x.2.2.1) = recvL b ps := by
  apply List.ext_getElem?
  intro i
  unfold zip3
  rw [List.getElem?_map]
  by_cases hi : i < b.length
  · have h1 := heldL_get hl hi
    have h0 : i < (heldL b ps).length := by rw [heldL_length hl]; exact hi
    rw [List.getElem?_eq_getElem h0] at h1
    have h2 := Option.some.inj h1
    rw [List.getElem?_eq_getElem (by rw [List.length_zip, List.length_zip, heldL_length hl]; omega), List.getElem_zip, List.getElem_zip, recvL_get hi, h2]
    simp; omega
  · rw [List.getElem?_eq_none_iff.mpr (by rw [List.length_zip, List.length_zip, heldL_length hl]; omega), List.getElem?_eq_none_iff.mpr (by rw [recvL_length]; omega)]; rfl
theorem held_sum {b : List House} (hb : OkBook b) {ps : List Int} (hp : PayOf b ps) : (heldL b ps).sum = (b.map (·.1)).sum := by
  have h := recv_total hb.to (fun x hx => (hb.pile x hx).am) hp
  have hl := hp.length
  have e : ∀ (b : List House) (rs ps : List Int), rs.length = b.length → ps.length = b.length → ((zip3 b rs ps).map fun x : House × Int × Int => x.1.1 + x.2.1 - x.2.2).sum = (b.map (·.1)).sum + rs.sum - ps.sum := by
    intro b
    induction b with
    | nil => intro rs ps h1 h2; rw [List.length_eq_zero_iff.mp h1, List.length_eq_zero_iff.mp h2]; rfl
    | cons x b ih =>
      intro rs ps h1 h2
      match rs, ps, h1, h2 with
      | r :: rs, p :: ps, h1, h2 =>
        have := ih rs ps (by simpa using h1) (by simpa using h2)
        unfold zip3 at this ⊢
        simp only [List.zip_cons_cons, List.map_cons, List.sum_cons]
        rw [this]; omega
  unfold heldL
  rw [e b _ ps (recvL_length b ps) hl]
  unfold recvL
  rw [h]; omega
theorem recv_range {b : List House} (hb : OkBook b) {ps : List Int} (hp : PayOf b ps) : ∀ x ∈ recvL b ps, 0 ≤ x ∧ x ≤ 100000000000 := fun x hx => by
  unfold recvL at hx
  obtain ⟨h, _, rfl⟩ := List.mem_map.mp hx
  have : ∀ (b : List House) (ps : List Int), PayOf b ps → OkBookL b → 0 ≤ recvH b ps h ∧ recvH b ps h ≤ 6000000000 * b.length := by
    intro b
    induction b with
    | nil => intro ps hp _; simp [recvH]
    | cons x b ih =>
      intro ps hp ho
      match ps, hp with
      | p :: ps, hp =>
        have i := ih ps hp.2.2 fun y hy => ho y (List.mem_cons_of_mem _ hy)
        have o := ho x (by simp)
        have q := paidTo_nonneg o.2 hp.1 h
        have m := paidTo_le o.2 hp.1 h
        have s := sumA_nonneg (ss := x.2) o.2
        have := o.1
        have := hp.2.1
        simp only [recvH, List.length_cons]
        constructor
        · omega
        · have : (6000000000 : Int) * ((b.length + 1 : Nat) : Int) = 6000000000 * b.length + 6000000000 := by rw [Int.natCast_add]; omega
          omega
  have i := this b ps hp hb.l
  have := hb.len
  omega
theorem held_range {b : List House} (hb : OkBook b) {ps : List Int} (hp : PayOf b ps) : ∀ x ∈ heldL b ps, -100000000000 ≤ x ∧ x ≤ 2000000000000 := fun x hx => by
  obtain ⟨i, hi⟩ := List.getElem?_of_mem hx
  have hl := hp.length
  have h1 : i < b.length := by
    have := (List.getElem?_eq_some_iff.mp hi).1
    rwa [heldL_length hl] at this
  rw [heldL_get hl h1] at hi
  have hr := recv_range hb hp (recvH b ps i) (List.mem_of_getElem? (recvL_get h1))
  have h2 := hb.purse _ (List.getElem_mem h1)
  have h3 := hp.mem hb.l _ (List.getElem_mem (l := ps) (n := i) (by omega))
  have := Option.some.inj hi
  omega
theorem tl : t_law (fun b => b = true) (fun _ => False) := by
  simp only [t_law, bindP, bindW_d, pureW_d, ifW_d, ifP, joinP, lenW, lenA, lenS, sameW, addI, subI, mulI, fdivI, modI, powI, ltI, leI, gtI, geI, eqI, neI, catW, catS, repT, repL, szW, appP, ixW, ixA, getW, asW, lcW, rng1W, rng2W, eqW, neW, eqA, neA, inW, niW, inA, min2, max2, minL, maxL, sumW, absI, intB, anyW, allW, reprW, setixP, augixP, failW, extP, popP, idxW, strW, lrgW, sortW, decide_eq_true_eq, Bool.not_eq_true', Bool.not_eq_eq_eq_not, Bool.not_true, Bool.not_false, decide_eq_false_iff_not, ite_true, ite_false, if_true, if_false, Bool.false_eq_true, true_and, and_true, reduceIte, not_true_eq_false, not_false_eq_true, szOk_small, Nat.reduceAdd, Nat.reduceLeDiff, Nat.zero_add, Int.reduceLT, Int.reduceLE, Int.reduceAdd, Int.reduceMul, Int.reduceNeg, List.length_cons, List.length_nil, List.length_append, List.length_map]
  refine ⟨in62_of (by omega) (by omega), ?_⟩
  refine forP_all _ (fun x hx N hN => ?_) True.intro
  rw [mem_rgI] at hx
  have e9 : (10 : Int) ^ Int.toNat 9 = 1000000000 := by decide
  by_cases hx2 : x % 2 = 0
  · simp only [hx2, if_true]
    refine F__law_book (by omega) (by omega) (by omega) fun b hb hv => ?_
    refine F__law_payments hb fun ps hp => ?_
    have hl := hp.length
    have hbl := hb.len
    have fitK : Fit (eL eA [eT (eP eI (eT (eP eI eI))) b, eT eI ps]) := (SmL.ls (SmL.cons (m := 127) (m' := 7) (h := 4) (sm_book hb) (.one ((sm_pay hb hp).le (Nat.le_refl _) (by omega))))).fit (by omega) (by omega)
    refine ⟨fitK, F__law_held hb hl ?_⟩
    refine lc_map (fun x : Int × Int × House => x.1 + x.2.1 - x.2.2.1) (by unfold zip3; rw [List.length_zip, heldL_length hl]; omega) (fun _ _ _ h => h) ?_
    rw [got_eq hl]
    refine ⟨in62_of (by omega) (by omega), ?_⟩
    have fitD : Fit (eL (eT eI) [recvL b ps, heldL b ps]) := (sm_L (n := 2) (m := 7) (h := 1) (by simp) fun xs hxs => by
      simp only [List.mem_cons, List.not_mem_nil, or_false] at hxs
      rcases hxs with rfl | rfl
      · exact (sm_T (n := 6) (m := 1) (h := 0) (by rw [recvL_length]; exact hbl) fun z hz => sm_I (by have := recv_range hb hp z hz; omega) (by have := recv_range hb hp z hz; omega)).le (by omega) (by omega)
      · exact (sm_T (n := 6) (m := 1) (h := 0) (by rw [heldL_length hl]; exact hbl) fun z hz => sm_I (by have := held_range hb hp z hz; omega) (by have := held_range hb hp z hz; omega)).le (by omega) (by omega)).fit (by omega) (by omega)
    refine forP_all _ (fun z _ M hM => F_received hb hl (F_held hb hl ⟨fitD, fitD, ?_⟩)) ?_
    · simp only [not_true_eq_false, if_false]; exact hM
    · refine F_received hb hl (F__law_by_coins hb hv hp ?_)
      simp only [not_true_eq_false, if_false]
      refine F_held hb hl (lc_map (fun p : House => p.1) (by omega) (fun _ _ _ h => h) ?_)
      rw [if_neg (fun z => z (held_sum hb hp))]
      refine F__law_coin_right hb hp ?_
      simp only [Bool.true_eq_false, if_false]
      exact ⟨fitK, hN⟩
  · simp only [hx2, if_false]
    rw [e9]
    refine ⟨cpow_dec rfl, ?_⟩
    refine F__law_book (by omega) (by omega) (by omega) fun b hb hv => ?_
    refine F__law_payments hb fun ps hp => ?_
    have hl := hp.length
    have hbl := hb.len
    have fitK : Fit (eL eA [eT (eP eI (eT (eP eI eI))) b, eT eI ps]) := (SmL.ls (SmL.cons (m := 127) (m' := 7) (h := 4) (sm_book hb) (.one ((sm_pay hb hp).le (Nat.le_refl _) (by omega))))).fit (by omega) (by omega)
    refine ⟨fitK, F__law_held hb hl ?_⟩
    refine lc_map (fun x : Int × Int × House => x.1 + x.2.1 - x.2.2.1) (by unfold zip3; rw [List.length_zip, heldL_length hl]; omega) (fun _ _ _ h => h) ?_
    rw [got_eq hl]
    refine ⟨in62_of (by omega) (by omega), ?_⟩
    have fitD : Fit (eL (eT eI) [recvL b ps, heldL b ps]) := (sm_L (n := 2) (m := 7) (h := 1) (by simp) fun xs hxs => by
      simp only [List.mem_cons, List.not_mem_nil, or_false] at hxs
      rcases hxs with rfl | rfl
      · exact (sm_T (n := 6) (m := 1) (h := 0) (by rw [recvL_length]; exact hbl) fun z hz => sm_I (by have := recv_range hb hp z hz; omega) (by have := recv_range hb hp z hz; omega)).le (by omega) (by omega)
      · exact (sm_T (n := 6) (m := 1) (h := 0) (by rw [heldL_length hl]; exact hbl) fun z hz => sm_I (by have := held_range hb hp z hz; omega) (by have := held_range hb hp z hz; omega)).le (by omega) (by omega)).fit (by omega) (by omega)
    refine forP_all _ (fun z _ M hM => F_received hb hl (F_held hb hl ⟨fitD, fitD, ?_⟩)) ?_
    · simp only [not_true_eq_false, if_false]; exact hM
    · refine F_held hb hl (lc_map (fun p : House => p.1) (by omega) (fun _ _ _ h => h) ?_)
      rw [if_neg (fun z => z (held_sum hb hp))]
      refine F__law_coin_right hb hp ?_
      simp only [Bool.true_eq_false, if_false]
      exact ⟨fitK, hN⟩
end Dl

set_option Elab.async false
set_option linter.all false
set_option maxRecDepth 100000
set_option maxHeartbeats 4000000
namespace Dl
open PySem PySem.Spec PyProof.Rows L2
theorem isTup_iff (d : D) : isTup d = true ↔ ∃ xs, d = .tp xs := by cases d <;> simp [isTup]
theorem sz_of {n : Nat} (h : n ≤ 100000) : szOk n := by show n ≤ sizeLine; rw [sizeLine_eq]; omega
theorem cpow {i j : Int} (h : (decide (0 ≤ j) && decide (j ≤ 1000000) && decide (i.natAbs < 2 ^ 64)) = true) : CPow i j := by
  simp only [Bool.and_eq_true, decide_eq_true_eq] at h
  exact ⟨h.1.1, h.1.2, h.2⟩
theorem sm_all {m h : Nat} {xs : List D} (e : (xs.all fun d => okB d && decide (mass d ≤ m) && decide (deep d ≤ h)) = true) {d : D} (hd : d ∈ xs) : Sm m h d := sm_dec (List.all_eq_true.mp e d hd)
theorem atI20 {a b : D} : atI [a, b] 0 = some a := rfl
theorem atI21 {a b : D} : atI [a, b] 1 = some b := rfl
theorem eqIt_it (i j : Int) : eqIt (.it i) j = (i == j) := rfl
theorem two_of {xs : List D} (h : ((xs.length : Int) == 2) = true) : ∃ a b, xs = [a, b] := by
  match xs, h with
  | [], h => simp at h
  | [_], h => simp at h
  | [a, b], _ => exact ⟨a, b, rfl⟩
  | _ :: _ :: _ :: r, h => simp only [List.length_cons, beq_iff_eq] at h; omega
theorem enD_drop (xs : List D) (i : Nat) (h : i < xs.length) : (enD xs).drop i = .tp [.it (i : Nat), xs[i]] :: (enD xs).drop (i + 1) := by
  have hl : i < (enD xs).length := by unfold enD; simpa using h
  rw [List.drop_eq_getElem_cons hl]
  congr 1
  obtain ⟨x, h1, h2⟩ := enD_get (xs := xs) (i := i) (List.getElem?_eq_getElem hl)
  rw [List.getElem?_eq_getElem h] at h1
  cases h1
  exact h2
theorem enD_length (xs : List D) : (enD xs).length = xs.length := by unfold enD; simp
theorem atI_some {xs : List D} {r : Int} (h0 : 0 ≤ r) (h1 : r < xs.length) : ∃ y, atI xs r = some y ∧ y ∈ xs := by
  obtain ⟨j, rfl⟩ : ∃ j : Nat, r = (j : Int) := ⟨r.toNat, by omega⟩
  have hj : j < xs.length := by omega
  exact ⟨xs[j], atI_nat (List.getElem?_eq_getElem hj), List.getElem_mem _⟩
theorem len__law_one : ∀ ds Q E, sp__law_one ds Q E → ds.length = 2 := by
  intro ds Q E h; unfold sp__law_one at h; split at h
  · rfl
  · exact h.elim
theorem law__law_one : ∀ ds Q E, sp__law_one ds Q E → d__law_one { nx := fun _ => Q .non, rt := Q, ex := E } (dstart 2 ds) := by
  intro ds Q E h
  unfold sp__law_one at h
  split at h
  · next P x =>
    obtain ⟨rfl, h⟩ := h
    split at h
    · next ys e =>
      obtain ⟨h0, h1, h2⟩ := h
      have h3 := List.length_pos_iff.mpr h0
      have key : ∀ r : Int, 0 ≤ r → r < ys.length → ∃ y, atI ys r = some y ∧ Q y := fun r a b => by
        obtain ⟨y, e1, e2⟩ := atI_some a b
        exact ⟨y, e1, h2 y e2⟩
      cases x with
      | tp zs =>
        cases e
        show d__law_one _ [.v dBox, .v (.tp ys)]
        simp only [d__law_one, d__law_one_0, r__law_one_0, dVar, dC, dOp, dTst, dAnd, dOr, dNot, dAndV, dOrV, dNotV, dIf, dNil, dCons, dStar, dTup, dLst, dCB, oAdd, oI, oI0, oSub, oFdiv, oMod, oPow, oLt, oLe, oGt, oGe, oMulA, dNeg, dChain, dIsN, dNotN, dIsi, oLen, oIx, oSl, dNoPart, dPart, dSl, oList, oTuple, dNext, dSeq, dBreak, dContinue, dRet, dRetN, dDrop, dIfS, dgName, dgNil, dgCons, dgTup, dAsg, dSet, dPar, dParO, dAug, dFrz, dSeqI, dRng1, dRng2, dEnum, dZip, dFor, dYes, dLc, dSetN, dSetO, dLstN, dCatN, dRepN, dListN, dApp, dCall, oRepr, oEq, oNe, oIn, oNotIn, dRev, dDic0, dDic1, oInt, oAbs, oSum, oMaxL, oMinL, oAny, oAll, dLend, dbLend, dFrzS, dSetIx, dAugIx, szl0, szl1, szl2, szl3, szl4, szl5, szl6, szl7, szl8, true_and, List.getElem?_cons_zero, List.getElem?_cons_succ, List.set_cons_zero, List.set_cons_succ]
        refine ⟨ys.length, rfl, by omega, by omega, fun r a b => ?_⟩
        obtain ⟨y, e1, e2⟩ := key r a b
        show (match atI ys r with | some d => Q d | none => False)
        rw [e1]; exact e2
      | ls zs =>
        cases e
        show d__law_one _ [.v dBox, .v (.ls ys)]
        simp only [d__law_one, d__law_one_0, r__law_one_0, dVar, dC, dOp, dTst, dAnd, dOr, dNot, dAndV, dOrV, dNotV, dIf, dNil, dCons, dStar, dTup, dLst, dCB, oAdd, oI, oI0, oSub, oFdiv, oMod, oPow, oLt, oLe, oGt, oGe, oMulA, dNeg, dChain, dIsN, dNotN, dIsi, oLen, oIx, oSl, dNoPart, dPart, dSl, oList, oTuple, dNext, dSeq, dBreak, dContinue, dRet, dRetN, dDrop, dIfS, dgName, dgNil, dgCons, dgTup, dAsg, dSet, dPar, dParO, dAug, dFrz, dSeqI, dRng1, dRng2, dEnum, dZip, dFor, dYes, dLc, dSetN, dSetO, dLstN, dCatN, dRepN, dListN, dApp, dCall, oRepr, oEq, oNe, oIn, oNotIn, dRev, dDic0, dDic1, oInt, oAbs, oSum, oMaxL, oMinL, oAny, oAll, dLend, dbLend, dFrzS, dSetIx, dAugIx, szl0, szl1, szl2, szl3, szl4, szl5, szl6, szl7, szl8, true_and, List.getElem?_cons_zero, List.getElem?_cons_succ, List.set_cons_zero, List.set_cons_succ]
        refine ⟨ys.length, rfl, by omega, by omega, fun r a b => ?_⟩
        obtain ⟨y, e1, e2⟩ := key r a b
        show (match atI ys r with | some d => Q d | none => False)
        rw [e1]; exact e2
      | _ => cases e
    · exact h.elim
  · exact h.elim
theorem isBx_ok {d : D} (h : okD d) : isBx d = false := by cases d <;> simp_all [isBx, okD]
theorem len__law_odd : ∀ ds Q E, sp__law_odd ds Q E → ds.length = 1 := by
  rintro ds Q E ⟨rfl, _⟩; rfl
theorem rgD_drop (lo : Int) (n i : Nat) (h : i < n) : (rgD lo n).drop i = .it (lo + (i : Nat)) :: (rgD lo n).drop (i + 1) := by
  have hl : i < (rgD lo n).length := by unfold rgD; simpa using h
  rw [List.drop_eq_getElem_cons hl]
  have e : (rgD lo n)[i]? = some (.it (lo + (i : Nat))) := by unfold rgD; rw [List.getElem?_map, List.getElem?_range h]; rfl
  exact congrArg (· :: _) (List.getElem?_eq_some_iff.mp e).2
theorem rgD_length (lo : Int) (n : Nat) : (rgD lo n).length = n := by unfold rgD; simp
def tupAt (xs : List D) : D → Option D
  | .it i => (match atI xs i with | some d => if isTup d = true then some (.it i) else none | none => none)
  | _ => none
theorem tups_ints (xs : List D) : ∀ l : List D, (∀ x ∈ l, ∃ j : Nat, x = .it (j : Int) ∧ j < xs.length) → ∃ ks : List Int, l.filterMap (tupAt xs) = ks.map D.it ∧ ks.length ≤ l.length ∧ ∀ k ∈ ks, ∃ (j : Nat) (ys : List D), k = (j : Int) ∧ j < xs.length ∧ xs[j]? = some (.tp ys)
  | [], _ => ⟨[], rfl, Nat.le_refl _, by simp⟩
  | x :: r, h => by
    obtain ⟨ks, e, el, hk⟩ := tups_ints xs r fun y hy => h y (List.mem_cons_of_mem _ hy)
    obtain ⟨j, rfl, hj⟩ := h x (by simp)
    have ea : atI xs (j : Int) = some xs[j] := atI_nat (List.getElem?_eq_getElem hj)
    rw [List.filterMap_cons]
    simp only [tupAt, ea]
    cases ht : isTup xs[j] with
    | false => simp only [Bool.false_eq_true, if_false]; exact ⟨ks, e, by simp; omega, hk⟩
    | true =>
      simp only [if_true]
      obtain ⟨ys, ey⟩ := (isTup_iff _).mp ht
      refine ⟨(j : Int) :: ks, by rw [e]; rfl, by simp; omega, fun k hk' => ?_⟩
      rcases List.mem_cons.mp hk' with rfl | hk'
      · exact ⟨j, ys, rfl, hj, by rw [List.getElem?_eq_getElem hj, ey]⟩
      · exact hk k hk'
theorem len_mass : ∀ xs : List D, xs.length ≤ massL xs
  | [] => by simp [massL]
  | x :: r => by
    have := len_mass r
    have : 1 ≤ mass x := by cases x <;> simp [mass]
    simp only [massL, List.length_cons]; omega
theorem sIx_nat (n d j : Nat) (h : j ≤ n) : HT.sIx n d (some (j : Int)) = j := by
  show (if (j : Int) < 0 then ((j : Int) + (n : Int)).toNat else min (j : Int).toNat n) = j
  rw [if_neg (by omega)]
  have : (j : Int).toNat = j := by omega
  rw [this]; exact Nat.min_eq_left h
theorem cutD_to (xs : List D) (j : Nat) (h : j ≤ xs.length) : cutD xs none (some (j : Int)) = xs.take j := by
  unfold cutD
  rw [sIx_nat _ _ _ h]
  show (xs.drop 0).take (j - 0) = _
  rw [List.drop_zero, Nat.sub_zero]
theorem cutD_from (xs : List D) (j : Nat) (h : j ≤ xs.length) : cutD xs (some (j : Int)) none = xs.drop j := by
  unfold cutD
  rw [sIx_nat _ _ _ h]
  show (xs.drop j).take (xs.length - j) = _
  rw [← List.length_drop, List.take_length]
theorem cut_len (xs : List D) (lo hi : Option Int) : (cutD xs lo hi).length ≤ xs.length := by
  unfold cutD
  rw [List.length_take, List.length_drop]; omega
theorem len__law_bent (n : Nat) : ∀ ds Q E, sp__law_bent n ds Q E → ds.length = 2 := by
  rintro ds Q E ⟨_, _, _, rfl, _⟩; rfl
theorem sp__law_bent_zero {ds : List D} {Q : DK} {E : EK} (h : sp__law_bent 0 ds Q E) : False := by
  obtain ⟨_, _, _, _, _, h, _⟩ := h
  omega
theorem eq_st (x : Str) : eqD (.st x) (.st x) = true := by
  show (x == x) = true
  exact beq_self_eq_true x
theorem cmp_st (x y : Str) : cmpOk (.st x) (.st y) := ⟨rfl, rfl, by simp [deep]⟩
end Dl

set_option Elab.async false
set_option linter.all false
set_option maxRecDepth 100000
set_option maxHeartbeats 4000000
namespace Dl
open PySem PySem.Spec PyProof.Rows L2
def spLaw (K : PySem.W.Frag) : Sp := fun vs H Q _ => ∃ (a : Addr) (ns : List Int), vs = [.ref a] ∧ SqL K H a (ns.map V.int) ∧ ∀ H', Q (.bl true) H'
def spOpen (K : PySem.W.Frag) : Sp := fun vs H Q _ => ∃ (a : Addr) (ns : List Int), vs = [.ref a] ∧ SqL K H a (ns.map V.int) ∧ ∀ H' b g s gs ss t, B1 b g s H' gs ss t → (∀ a o, H a = some o → H' a = some o) → H b = none → H g = none → H s = none → Q (.ref b) H'
section
variable {P : Program} {w : World} {K : PySem.W.Frag} {mg : Str → Option Value} {base : Heap}
def tH (sp : Sp) (E : XK) (t : TA) : L2.TE := fun σ H Q => t σ H fun vs H1 => sp vs H1 Q E
theorem pe_hcall {X : Cx} {E : XK} {k : Nat} {f : Addr} {fd : FuncData} {ps : List Str} {sp : Sp} {x : Str} {p pos : Pos} {e : Expr} {es : List Expr} {t : TA} (F : HFn X.prog X.w X.K X.mg X.base k f fd ps sp) (hr : Room k X.A) (hgd : X.A.guards = some []) (hg : Gl X x) (hm : X.mg x = some (.ref f)) (kp : PySem.W.keepIn X.K (.ref f) = true)
    (hb : Binds X.K fd ps []) (hx : Passes (L2.CX X.prog X.w) X E) (ha : PA X (e :: es) t) (hdb : (x == ("__debug__" : Str)) = false := by decide) (he : starEach (e :: es) X.env = (false, eval e X.env) :: starEach es X.env := by rfl) (hpl : (backTo pos (starEach es X.env)).any (·.1) = false := by rfl) :
    PE X (.Call (.Name x p) (e :: es) [] pos) (tH sp E t) := by
  refine ⟨fun pins s σ H Q I h => wpAny_Call_Name_kw (ld_glob I hg hm ?_ hdb)⟩
  refine PySem.W.callWith_K (h₀ := X.base) I.ok.mod.kin kp (thn (ha.run pos pins s σ H _ I h) fun us s1 ⟨vs, H1, I1, r, hs⟩ => ⟨I1.kIn, ?_⟩) he hpl
  have hl : us.length = ps.length := by rw [← r.length]; exact F.len _ _ _ _ hs
  have b := hb s1 us I1.kIn (by rw [List.append_nil]; exact hl)
  rw [List.append_nil] at b
  refine wpAny_call (codeAny_mono (F.run X.A X.stack s1 H1 ⟨us, []⟩ us vs Q E hr hgd I1.env0 b r hs) fun res s' hq => ?_)
  match res, hq with
  | .error e, hq => exact hx pins σ H1 s1 e s' I1 hq
  | .ok (.ret u), hq => exact I1.after hq
  | .ok .next, hq => exact False.elim hq
  | .ok .brk, hq => exact False.elim hq
  | .ok .cont, hq => exact False.elim hq
theorem h_law {f fo : Addr} {fd fdo : FuncData} (F : Fun K "law" "law" s_law f fd) (G : Gs mg) (hsys : ∃ o, base.get? sysModules = some o) (O : HFn P w K mg base 1 fo fdo ["_law_script"] (spOpen K)) (mo : mg "_law_opened" = some (.ref fo)) (ko : PySem.W.keepIn K (.ref fo) = true) (bo : Binds K fdo ["_law_script"] []) (C__law_book : Cal P w K mg base 5 "_law_book" ["_law_box", "_law_most", "_law_size", "_law_wide"] sp__law_book) (C__law_by_coins : Cal P w K mg base 5 "_law_by_coins" ["_law_book_here", "_law_some"] sp__law_by_coins) (C__law_coin_right : Cal P w K mg base 5 "_law_coin_right" ["_law_box", "_law_book_here", "_law_some"] sp__law_coin_right) (C__law_held : Cal P w K mg base 5 "_law_held" ["_law_book_here", "_law_payments_here"] sp__law_held) (C__law_payments : Cal P w K mg base 5 "_law_payments" ["_law_box", "_law_book_here"] sp__law_payments) (C_held : Cal P w K mg base 5 "held" ["book", "payments"] sp_held) (C_received : Cal P w K mg base 5 "received" ["book", "payments"] sp_received) :
    HFn P w K mg base 6 f fd ["_law_script"] (spLaw K) := by
  refine hfn_mk F sc_law (fun vs H Q E ⟨_, _, e, _⟩ => by rw [e]; rfl) fun cdv A outer s0 H vs Q E hr hgd h => ?_
  obtain ⟨a, ns, rfl, hS, kq⟩ := h
  obtain ⟨t, p, q⟩ := (w_law G hsys C__law_book C__law_by_coins C__law_coin_right C__law_held C__law_payments C_held C_received cdv A outer s0 H E hr hgd).run
  refine ⟨_, pss_cons (ps_set (i := 1) sc_law.nd rfl (by first | exact Or.inl rfl | exact Or.inr rfl) (pe_hcall O (hr.mono (by decide)) hgd rfl mo ko bo passD (pa_cons (pv 0) pa_nil))) p, ?_⟩
  refine ⟨_, rfl, a, ns, rfl, hS, fun H' b g s gs ss t' hB _ _ _ _ => ?_⟩
  have g1 : Good ⟨some (b1 b g s), fun _ => none⟩ H' := ⟨fun _ _ e => (by have e' : (none : Option HO) = some _ := e; cases e'), fun x e => (by cases (show some (b1 b g s) = some x from e); exact ⟨gs, ss, t', hB⟩), fun _ _ => rfl⟩
  have r1 : Rel H' ⟨some (b1 b g s), fun _ => none⟩ H' [some (.ref a), some (.ref b), none, none, none, none, none, none, none, none, none, none, none, none, none] [.no, .v dBox, .no, .no, .no, .no, .no, .no, .no, .no, .no, .no, .no, .no, .no] := (rel_no [some (.ref a), none, none, none, none, none, none, none, none, none, none, none, none, none, none]).put (i := 1) (x := .ref b) (Rp.bx (x := b1 b g s) rfl ⟨b, g, s, rfl⟩)
  refine q ⟨⟨some (b1 b g s), fun _ => none⟩, H', fun _ => none, some (b1 b g s)⟩ { nx := fun _ => False, rt := fun x => x = .bl true, ex := fun _ => False } _ ⟨fun _ _ _ _ _ _ h => h.elim, fun _ _ _ _ _ _ h => h.elim, fun _ _ _ _ _ _ h => h.elim, fun S v d H2 _ rv hd => ?_, xl_none⟩ _ _ _ H' ⟨g1, .refl _ _, .refl _ _⟩ r1 (tlaw_law tl .no)
  subst hd
  cases rv
  exact kq H2
end
theorem all_mk {P : Program} {w : World} {K : PySem.W.Frag} {h : Heap} {mg : Str → Option Value} {fa : Addr} (X : K.In h) (N : h.Ns mainGlobals mg) (hfa : mg "law" = some (.ref fa))
    {f0 : Addr} {od0 an0 : Option Addr} {sl0 : Array (Option Value)} {oc0 kV0 dc0 pm0 cd0 ct0 : Value} (a0 : PySem.W.nsIn K mainGlobals "_law_debts" = some (some (.ref f0))) (l0 : K.lookup f0 = some ⟨oc0, od0, .func (PySem.W.fnOf "_law_debts" "_law_debts" (defArgs s__law_debts) (defBody s__law_debts) (defScope s__law_debts) .none kV0 dc0 pm0 an0 cd0 ct0), sl0⟩) (c0 : PySem.W.codeIn K cd0 "_law_debts" = true) (k0 : PySem.W.keepIn K (.ref f0) = true)
    {f1 : Addr} {od1 an1 : Option Addr} {sl1 : Array (Option Value)} {oc1 kV1 dc1 pm1 cd1 ct1 : Value} (a1 : PySem.W.nsIn K mainGlobals "_law_parts" = some (some (.ref f1))) (l1 : K.lookup f1 = some ⟨oc1, od1, .func (PySem.W.fnOf "_law_parts" "_law_parts" (defArgs s__law_parts) (defBody s__law_parts) (defScope s__law_parts) .none kV1 dc1 pm1 an1 cd1 ct1), sl1⟩) (c1 : PySem.W.codeIn K cd1 "_law_parts" = true) (k1 : PySem.W.keepIn K (.ref f1) = true)
    {f2 : Addr} {od2 an2 : Option Addr} {sl2 : Array (Option Value)} {oc2 kV2 dc2 pm2 cd2 ct2 : Value} (a2 : PySem.W.nsIn K mainGlobals "next_slip" = some (some (.ref f2))) (l2 : K.lookup f2 = some ⟨oc2, od2, .func (PySem.W.fnOf "next_slip" "next_slip" (defArgs s_next_slip) (defBody s_next_slip) (defScope s_next_slip) .none kV2 dc2 pm2 an2 cd2 ct2), sl2⟩) (c2 : PySem.W.codeIn K cd2 "next_slip" = true) (k2 : PySem.W.keepIn K (.ref f2) = true)
    {f3 : Addr} {od3 an3 : Option Addr} {sl3 : Array (Option Value)} {oc3 kV3 dc3 pm3 cd3 ct3 : Value} (a3 : PySem.W.nsIn K mainGlobals "_law_draw" = some (some (.ref f3))) (l3 : K.lookup f3 = some ⟨oc3, od3, .func (PySem.W.fnOf "_law_draw" "_law_draw" (defArgs s__law_draw) (defBody s__law_draw) (defScope s__law_draw) .none kV3 dc3 pm3 an3 cd3 ct3), sl3⟩) (c3 : PySem.W.codeIn K cd3 "_law_draw" = true) (k3 : PySem.W.keepIn K (.ref f3) = true)
    {f4 : Addr} {od4 an4 : Option Addr} {sl4 : Array (Option Value)} {oc4 kV4 dc4 pm4 cd4 ct4 : Value} (a4 : PySem.W.nsIn K mainGlobals "_law_by_coins" = some (some (.ref f4))) (l4 : K.lookup f4 = some ⟨oc4, od4, .func (PySem.W.fnOf "_law_by_coins" "_law_by_coins" (defArgs s__law_by_coins) (defBody s__law_by_coins) (defScope s__law_by_coins) .none kV4 dc4 pm4 an4 cd4 ct4), sl4⟩) (c4 : PySem.W.codeIn K cd4 "_law_by_coins" = true) (k4 : PySem.W.keepIn K (.ref f4) = true)
    {f5 : Addr} {od5 an5 : Option Addr} {sl5 : Array (Option Value)} {oc5 kV5 dc5 pm5 cd5 ct5 : Value} (a5 : PySem.W.nsIn K mainGlobals "parts_of" = some (some (.ref f5))) (l5 : K.lookup f5 = some ⟨oc5, od5, .func (PySem.W.fnOf "parts_of" "parts_of" (defArgs s_parts_of) (defBody s_parts_of) (defScope s_parts_of) .none kV5 dc5 pm5 an5 cd5 ct5), sl5⟩) (c5 : PySem.W.codeIn K cd5 "parts_of" = true) (k5 : PySem.W.keepIn K (.ref f5) = true)
    {f6 : Addr} {od6 an6 : Option Addr} {sl6 : Array (Option Value)} {oc6 kV6 dc6 pm6 cd6 ct6 : Value} (a6 : PySem.W.nsIn K mainGlobals "slips_paid" = some (some (.ref f6))) (l6 : K.lookup f6 = some ⟨oc6, od6, .func (PySem.W.fnOf "slips_paid" "slips_paid" (defArgs s_slips_paid) (defBody s_slips_paid) (defScope s_slips_paid) .none kV6 dc6 pm6 an6 cd6 ct6), sl6⟩) (c6 : PySem.W.codeIn K cd6 "slips_paid" = true) (k6 : PySem.W.keepIn K (.ref f6) = true)
    {f7 : Addr} {od7 an7 : Option Addr} {sl7 : Array (Option Value)} {oc7 kV7 dc7 pm7 cd7 ct7 : Value} (a7 : PySem.W.nsIn K mainGlobals "next_slips" = some (some (.ref f7))) (l7 : K.lookup f7 = some ⟨oc7, od7, .func (PySem.W.fnOf "next_slips" "next_slips" (defArgs s_next_slips) (defBody s_next_slips) (defScope s_next_slips) .none kV7 dc7 pm7 an7 cd7 ct7), sl7⟩) (c7 : PySem.W.codeIn K cd7 "next_slips" = true) (k7 : PySem.W.keepIn K (.ref f7) = true)
    {f8 : Addr} {od8 an8 : Option Addr} {sl8 : Array (Option Value)} {oc8 kV8 dc8 pm8 cd8 ct8 : Value} (a8 : PySem.W.nsIn K mainGlobals "_law_one" = some (some (.ref f8))) (l8 : K.lookup f8 = some ⟨oc8, od8, .func (PySem.W.fnOf "_law_one" "_law_one" (defArgs s__law_one) (defBody s__law_one) (defScope s__law_one) .none kV8 dc8 pm8 an8 cd8 ct8), sl8⟩) (c8 : PySem.W.codeIn K cd8 "_law_one" = true) (k8 : PySem.W.keepIn K (.ref f8) = true)
    {f9 : Addr} {od9 an9 : Option Addr} {sl9 : Array (Option Value)} {oc9 kV9 dc9 pm9 cd9 ct9 : Value} (a9 : PySem.W.nsIn K mainGlobals "_law_held" = some (some (.ref f9))) (l9 : K.lookup f9 = some ⟨oc9, od9, .func (PySem.W.fnOf "_law_held" "_law_held" (defArgs s__law_held) (defBody s__law_held) (defScope s__law_held) .none kV9 dc9 pm9 an9 cd9 ct9), sl9⟩) (c9 : PySem.W.codeIn K cd9 "_law_held" = true) (k9 : PySem.W.keepIn K (.ref f9) = true)
    {f10 : Addr} {od10 an10 : Option Addr} {sl10 : Array (Option Value)} {oc10 kV10 dc10 pm10 cd10 ct10 : Value} (a10 : PySem.W.nsIn K mainGlobals "received" = some (some (.ref f10))) (l10 : K.lookup f10 = some ⟨oc10, od10, .func (PySem.W.fnOf "received" "received" (defArgs s_received) (defBody s_received) (defScope s_received) .none kV10 dc10 pm10 an10 cd10 ct10), sl10⟩) (c10 : PySem.W.codeIn K cd10 "received" = true) (k10 : PySem.W.keepIn K (.ref f10) = true)
    {f11 : Addr} {od11 an11 : Option Addr} {sl11 : Array (Option Value)} {oc11 kV11 dc11 pm11 cd11 ct11 : Value} (a11 : PySem.W.nsIn K mainGlobals "_law_payments" = some (some (.ref f11))) (l11 : K.lookup f11 = some ⟨oc11, od11, .func (PySem.W.fnOf "_law_payments" "_law_payments" (defArgs s__law_payments) (defBody s__law_payments) (defScope s__law_payments) .none kV11 dc11 pm11 an11 cd11 ct11), sl11⟩) (c11 : PySem.W.codeIn K cd11 "_law_payments" = true) (k11 : PySem.W.keepIn K (.ref f11) = true)
    {f12 : Addr} {od12 an12 : Option Addr} {sl12 : Array (Option Value)} {oc12 kV12 dc12 pm12 cd12 ct12 : Value} (a12 : PySem.W.nsIn K mainGlobals "_law_pile" = some (some (.ref f12))) (l12 : K.lookup f12 = some ⟨oc12, od12, .func (PySem.W.fnOf "_law_pile" "_law_pile" (defArgs s__law_pile) (defBody s__law_pile) (defScope s__law_pile) .none kV12 dc12 pm12 an12 cd12 ct12), sl12⟩) (c12 : PySem.W.codeIn K cd12 "_law_pile" = true) (k12 : PySem.W.keepIn K (.ref f12) = true)
    {f13 : Addr} {od13 an13 : Option Addr} {sl13 : Array (Option Value)} {oc13 kV13 dc13 pm13 cd13 ct13 : Value} (a13 : PySem.W.nsIn K mainGlobals "held" = some (some (.ref f13))) (l13 : K.lookup f13 = some ⟨oc13, od13, .func (PySem.W.fnOf "held" "held" (defArgs s_held) (defBody s_held) (defScope s_held) .none kV13 dc13 pm13 an13 cd13 ct13), sl13⟩) (c13 : PySem.W.codeIn K cd13 "held" = true) (k13 : PySem.W.keepIn K (.ref f13) = true)
    {f14 : Addr} {od14 an14 : Option Addr} {sl14 : Array (Option Value)} {oc14 kV14 dc14 pm14 cd14 ct14 : Value} (a14 : PySem.W.nsIn K mainGlobals "_law_book" = some (some (.ref f14))) (l14 : K.lookup f14 = some ⟨oc14, od14, .func (PySem.W.fnOf "_law_book" "_law_book" (defArgs s__law_book) (defBody s__law_book) (defScope s__law_book) .none kV14 dc14 pm14 an14 cd14 ct14), sl14⟩) (c14 : PySem.W.codeIn K cd14 "_law_book" = true) (k14 : PySem.W.keepIn K (.ref f14) = true)
    {f15 : Addr} {od15 an15 : Option Addr} {sl15 : Array (Option Value)} {oc15 kV15 dc15 pm15 cd15 ct15 : Value} (a15 : PySem.W.nsIn K mainGlobals "_law_coin_right" = some (some (.ref f15))) (l15 : K.lookup f15 = some ⟨oc15, od15, .func (PySem.W.fnOf "_law_coin_right" "_law_coin_right" (defArgs s__law_coin_right) (defBody s__law_coin_right) (defScope s__law_coin_right) .none kV15 dc15 pm15 an15 cd15 ct15), sl15⟩) (c15 : PySem.W.codeIn K cd15 "_law_coin_right" = true) (k15 : PySem.W.keepIn K (.ref f15) = true)
    {f16 : Addr} {od16 an16 : Option Addr} {sl16 : Array (Option Value)} {oc16 kV16 dc16 pm16 cd16 ct16 : Value} (a16 : PySem.W.nsIn K mainGlobals "_law_opened" = some (some (.ref f16))) (l16 : K.lookup f16 = some ⟨oc16, od16, .func (PySem.W.fnOf "_law_opened" "_law_opened" (defArgs s__law_opened) (defBody s__law_opened) (defScope s__law_opened) .none kV16 dc16 pm16 an16 cd16 ct16), sl16⟩) (c16 : PySem.W.codeIn K cd16 "_law_opened" = true) (k16 : PySem.W.keepIn K (.ref f16) = true)
    {f17 : Addr} {od17 an17 : Option Addr} {sl17 : Array (Option Value)} {oc17 kV17 dc17 pm17 cd17 ct17 : Value} (a17 : PySem.W.nsIn K mainGlobals "law" = some (some (.ref f17))) (l17 : K.lookup f17 = some ⟨oc17, od17, .func (PySem.W.fnOf "law" "law" (defArgs s_law) (defBody s_law) (defScope s_law) .none kV17 dc17 pm17 an17 cd17 ct17), sl17⟩) (c17 : PySem.W.codeIn K cd17 "law" = true) (k17 : PySem.W.keepIn K (.ref f17) = true)
    (z_abs : PySem.W.nsIn K mainGlobals "abs" = some none) (z_enumerate : PySem.W.nsIn K mainGlobals "enumerate" = some none) (z_int : PySem.W.nsIn K mainGlobals "int" = some none) (z_len : PySem.W.nsIn K mainGlobals "len" = some none) (z_list : PySem.W.nsIn K mainGlobals "list" = some none) (z_max : PySem.W.nsIn K mainGlobals "max" = some none) (z_min : PySem.W.nsIn K mainGlobals "min" = some none) (z_range : PySem.W.nsIn K mainGlobals "range" = some none) (z_repr : PySem.W.nsIn K mainGlobals "repr" = some none) (z_sum : PySem.W.nsIn K mainGlobals "sum" = some none) (z_tuple : PySem.W.nsIn K mainGlobals "tuple" = some none) (z_zip : PySem.W.nsIn K mainGlobals "zip" = some none) :
    ∃ fd : FuncData, (∀ (s : Shared) (u : Value), BindsTo s fd ⟨[u], []⟩ [("_law_script", u)]) ∧ ∀ base : Heap, K.In base → base.Ns mainGlobals mg → (∃ o, base.get? sysModules = some o) → HFn P w K mg base 6 fa fd ["_law_script"] (spLaw K) := by
  have hl := PySem.W.mg_of X N a17
  rw [hfa] at hl
  cases hl
  have G : Gs mg := { g_enumerate := PySem.W.mg_none_of X N z_enumerate, g_int := PySem.W.mg_none_of X N z_int, g_len := PySem.W.mg_none_of X N z_len, g_list := PySem.W.mg_none_of X N z_list, g_max := PySem.W.mg_none_of X N z_max, g_min := PySem.W.mg_none_of X N z_min, g_range := PySem.W.mg_none_of X N z_range, g_repr := PySem.W.mg_none_of X N z_repr, g_sum := PySem.W.mg_none_of X N z_sum, g_tuple := PySem.W.mg_none_of X N z_tuple, g_zip := PySem.W.mg_none_of X N z_zip }
  have F0 := fun_mk (st := s__law_debts) l0 c0 k0
  have b0 := F0.binds (ps := ["_law_book_here"]) fun _ _ _ _ _ _ us hl => match us, hl with | [_], _ => rfl
  have F1 := fun_mk (st := s__law_parts) l1 c1 k1
  have b1 := F1.binds (ps := ["_law_pile_here", "_law_paid"]) fun _ _ _ _ _ _ us hl => match us, hl with | [_, _], _ => rfl
  have F2 := fun_mk (st := s_next_slip) l2 c2 k2
  have b2 := F2.binds (ps := ["pile", "paid"]) fun _ _ _ _ _ _ us hl => match us, hl with | [_, _], _ => rfl
  have F3 := fun_mk (st := s__law_draw) l3 c3 k3
  have b3 := F3.binds (ps := ["_law_box", "_law_many"]) fun _ _ _ _ _ _ us hl => match us, hl with | [_, _], _ => rfl
  have F4 := fun_mk (st := s__law_by_coins) l4 c4 k4
  have b4 := F4.binds (ps := ["_law_book_here", "_law_some"]) fun _ _ _ _ _ _ us hl => match us, hl with | [_, _], _ => rfl
  have F5 := fun_mk (st := s_parts_of) l5 c5 k5
  have b5 := F5.binds (ps := ["pile", "paid"]) fun _ _ _ _ _ _ us hl => match us, hl with | [_, _], _ => rfl
  have F6 := fun_mk (st := s_slips_paid) l6 c6 k6
  have b6 := F6.binds (ps := ["book", "payments"]) fun _ _ _ _ _ _ us hl => match us, hl with | [_, _], _ => rfl
  have F7 := fun_mk (st := s_next_slips) l7 c7 k7
  have b7 := F7.binds (ps := ["book", "payments"]) fun _ _ _ _ _ _ us hl => match us, hl with | [_, _], _ => rfl
  have F8 := fun_mk (st := s__law_one) l8 c8 k8
  have b8 := F8.binds (ps := ["_law_box", "_law_items"]) fun _ _ _ _ _ _ us hl => match us, hl with | [_, _], _ => rfl
  have F9 := fun_mk (st := s__law_held) l9 c9 k9
  have b9 := F9.binds (ps := ["_law_book_here", "_law_payments_here"]) fun _ _ _ _ _ _ us hl => match us, hl with | [_, _], _ => rfl
  have F10 := fun_mk (st := s_received) l10 c10 k10
  have b10 := F10.binds (ps := ["book", "payments"]) fun _ _ _ _ _ _ us hl => match us, hl with | [_, _], _ => rfl
  have F11 := fun_mk (st := s__law_payments) l11 c11 k11
  have b11 := F11.binds (ps := ["_law_box", "_law_book_here"]) fun _ _ _ _ _ _ us hl => match us, hl with | [_, _], _ => rfl
  have F12 := fun_mk (st := s__law_pile) l12 c12 k12
  have b12 := F12.binds (ps := ["_law_box", "_law_own", "_law_many", "_law_size", "_law_wide"]) fun _ _ _ _ _ _ us hl => match us, hl with | [_, _, _, _, _], _ => rfl
  have F13 := fun_mk (st := s_held) l13 c13 k13
  have b13 := F13.binds (ps := ["book", "payments"]) fun _ _ _ _ _ _ us hl => match us, hl with | [_, _], _ => rfl
  have F14 := fun_mk (st := s__law_book) l14 c14 k14
  have b14 := F14.binds (ps := ["_law_box", "_law_most", "_law_size", "_law_wide"]) fun _ _ _ _ _ _ us hl => match us, hl with | [_, _, _, _], _ => rfl
  have F15 := fun_mk (st := s__law_coin_right) l15 c15 k15
  have b15 := F15.binds (ps := ["_law_box", "_law_book_here", "_law_some"]) fun _ _ _ _ _ _ us hl => match us, hl with | [_, _, _], _ => rfl
  have F16 := fun_mk (st := s__law_opened) l16 c16 k16
  have b16 := F16.binds (ps := ["_law_script"]) fun _ _ _ _ _ _ us hl => match us, hl with | [_], _ => rfl
  have F17 := fun_mk (st := s_law) l17 c17 k17
  have b17 := F17.binds (ps := ["_law_script"]) fun _ _ _ _ _ _ us hl => match us, hl with | [_], _ => rfl
  refine ⟨PySem.W.fnOf "law" "law" (defArgs s_law) (defBody s_law) (defScope s_law) .none kV17 dc17 pm17 an17 cd17 ct17, fun s v => .of_eq rfl, fun base kb nb hsys => ?_⟩
  have C__law_debts : Cal P w K mg base 1 "_law_debts" ["_law_book_here"] sp__law_debts := ⟨_, _, w__law_debts (k := 0) F0 G hsys  len__law_debts law__law_debts, PySem.W.mg_of X N a0, k0, b0⟩
  have C__law_parts : Cal P w K mg base 1 "_law_parts" ["_law_pile_here", "_law_paid"] sp__law_parts := ⟨_, _, w__law_parts (k := 0) F1 G hsys  len__law_parts law__law_parts, PySem.W.mg_of X N a1, k1, b1⟩
  have C_next_slip : Cal P w K mg base 1 "next_slip" ["pile", "paid"] sp_next_slip := ⟨_, _, w_next_slip (k := 0) F2 G hsys  len_next_slip law_next_slip, PySem.W.mg_of X N a2, k2, b2⟩
  have C__law_draw : Cal P w K mg base 1 "_law_draw" ["_law_box", "_law_many"] sp__law_draw := ⟨_, _, d_draw F3 (PySem.W.mg_none_of X N z_len), PySem.W.mg_of X N a3, k3, b3⟩
  have C__law_by_coins : Cal P w K mg base 1 "_law_by_coins" ["_law_book_here", "_law_some"] sp__law_by_coins := ⟨_, _, w__law_by_coins (k := 0) F4 G hsys  len__law_by_coins law__law_by_coins, PySem.W.mg_of X N a4, k4, b4⟩
  have C_parts_of : Cal P w K mg base 1 "parts_of" ["pile", "paid"] sp_parts_of := ⟨_, _, w_parts_of (k := 0) F5 G hsys  len_parts_of law_parts_of, PySem.W.mg_of X N a5, k5, b5⟩
  have C_slips_paid : Cal P w K mg base 2 "slips_paid" ["book", "payments"] sp_slips_paid := ⟨_, _, w_slips_paid (k := 1) F6 G hsys (C_parts_of.mono (by decide)) len_slips_paid law_slips_paid, PySem.W.mg_of X N a6, k6, b6⟩
  have C_next_slips : Cal P w K mg base 2 "next_slips" ["book", "payments"] sp_next_slips := ⟨_, _, w_next_slips (k := 1) F7 G hsys (C_next_slip.mono (by decide)) len_next_slips law_next_slips, PySem.W.mg_of X N a7, k7, b7⟩
  have C__law_one : Cal P w K mg base 2 "_law_one" ["_law_box", "_law_items"] sp__law_one := ⟨_, _, w__law_one (k := 1) F8 G hsys (C__law_draw.mono (by decide)) len__law_one law__law_one, PySem.W.mg_of X N a8, k8, b8⟩
  have C__law_held : Cal P w K mg base 2 "_law_held" ["_law_book_here", "_law_payments_here"] sp__law_held := ⟨_, _, w__law_held (k := 1) F9 G hsys (C__law_parts.mono (by decide)) len__law_held law__law_held, PySem.W.mg_of X N a9, k9, b9⟩
  have C_received : Cal P w K mg base 3 "received" ["book", "payments"] sp_received := ⟨_, _, w_received (k := 2) F10 G hsys (C_slips_paid.mono (by decide)) len_received law_received, PySem.W.mg_of X N a10, k10, b10⟩
  have C__law_payments : Cal P w K mg base 3 "_law_payments" ["_law_box", "_law_book_here"] sp__law_payments := ⟨_, _, w__law_payments (k := 2) F11 G hsys (C__law_draw.mono (by decide)) (C__law_one.mono (by decide)) len__law_payments law__law_payments, PySem.W.mg_of X N a11, k11, b11⟩
  have C__law_pile : Cal P w K mg base 3 "_law_pile" ["_law_box", "_law_own", "_law_many", "_law_size", "_law_wide"] sp__law_pile := ⟨_, _, w__law_pile (k := 2) F12 G hsys (C__law_draw.mono (by decide)) (C__law_one.mono (by decide)) len__law_pile law__law_pile, PySem.W.mg_of X N a12, k12, b12⟩
  have C_held : Cal P w K mg base 4 "held" ["book", "payments"] sp_held := ⟨_, _, w_held (k := 3) F13 G hsys (C_received.mono (by decide)) len_held law_held, PySem.W.mg_of X N a13, k13, b13⟩
  have C__law_book : Cal P w K mg base 4 "_law_book" ["_law_box", "_law_most", "_law_size", "_law_wide"] sp__law_book := ⟨_, _, w__law_book (k := 3) F14 G hsys (C__law_draw.mono (by decide)) (C__law_one.mono (by decide)) (C__law_pile.mono (by decide)) len__law_book law__law_book, PySem.W.mg_of X N a14, k14, b14⟩
  have C__law_coin_right : Cal P w K mg base 5 "_law_coin_right" ["_law_box", "_law_book_here", "_law_some"] sp__law_coin_right := ⟨_, _, w__law_coin_right (k := 4) F15 G hsys (C__law_debts.mono (by decide)) (C__law_draw.mono (by decide)) (C_held.mono (by decide)) (C_next_slips.mono (by decide)) len__law_coin_right law__law_coin_right, PySem.W.mg_of X N a15, k15, b15⟩
  have O : HFn P w K mg base 1 f16 _ ["_law_script"] (spOpen K) := g_opened F16 (PySem.W.mg_none_of X N z_abs) (PySem.W.mg_none_of X N z_int)
  exact h_law F17 G hsys O (PySem.W.mg_of X N a16) k16 b16 (C__law_book.mono (by decide)) (C__law_by_coins.mono (by decide)) (C__law_coin_right.mono (by decide)) (C__law_held.mono (by decide)) (C__law_payments.mono (by decide)) (C_held.mono (by decide)) (C_received.mono (by decide))
end Dl
open PySem PySem.W PyProof.Rows in
set_option maxRecDepth 100000 in
set_option maxHeartbeats 0 in
theorem PySem.Challenge.cw_slipturns_k04_received_and_held_holds : PySem.Challenge.rw_slipturns_k04_received_and_held.Holds := by
  w_on; o_law; k_head; (case hw => w_witness2)
  k_fill
  refine Dl.walkD (l := PySem.Challenge.rw_slipturns_k04_received_and_held) (n := 63) (k := 6) (x := "_law_script") (sp := fun w => Dl.spLaw _) rfl (by decide) rfl ⟨rfl, by decide, by decide⟩ (fun w h Y => PySem.W.kIn_of Y) ?Q ?F (fun w H a ns hl hS => ⟨a, ns, rfl, hS, fun _ => rfl⟩)
  case Q => decide +kernel
  case F =>
    intro w mg fa h KX N hmg
    refine' Dl.all_mk KX N hmg ?a0 ?l0 ?c0 ?k0 ?a1 ?l1 ?c1 ?k1 ?a2 ?l2 ?c2 ?k2 ?a3 ?l3 ?c3 ?k3 ?a4 ?l4 ?c4 ?k4 ?a5 ?l5 ?c5 ?k5 ?a6 ?l6 ?c6 ?k6 ?a7 ?l7 ?c7 ?k7 ?a8 ?l8 ?c8 ?k8 ?a9 ?l9 ?c9 ?k9 ?a10 ?l10 ?c10 ?k10 ?a11 ?l11 ?c11 ?k11 ?a12 ?l12 ?c12 ?k12 ?a13 ?l13 ?c13 ?k13 ?a14 ?l14 ?c14 ?k14 ?a15 ?l15 ?c15 ?k15 ?a16 ?l16 ?c16 ?k16 ?a17 ?l17 ?c17 ?k17 ?z_abs ?z_enumerate ?z_int ?z_len ?z_list ?z_max ?z_min ?z_range ?z_repr ?z_sum ?z_tuple ?z_zip
    (case a0 => k_is)
    (case l0 => k_is)
    (case c0 => k_is)
    (case k0 => k_is)
    (case a1 => k_is)
    (case l1 => k_is)
    (case c1 => k_is)
    (case k1 => k_is)
    (case a2 => k_is)
    (case l2 => k_is)
    (case c2 => k_is)
    (case k2 => k_is)
    (case a3 => k_is)
    (case l3 => k_is)
    (case c3 => k_is)
    (case k3 => k_is)
    (case a4 => k_is)
    (case l4 => k_is)
    (case c4 => k_is)
    (case k4 => k_is)
    (case a5 => k_is)
    (case l5 => k_is)
    (case c5 => k_is)
    (case k5 => k_is)
    (case a6 => k_is)
    (case l6 => k_is)
    (case c6 => k_is)
    (case k6 => k_is)
    (case a7 => k_is)
    (case l7 => k_is)
    (case c7 => k_is)
    (case k7 => k_is)
    (case a8 => k_is)
    (case l8 => k_is)
    (case c8 => k_is)
    (case k8 => k_is)
    (case a9 => k_is)
    (case l9 => k_is)
    (case c9 => k_is)
    (case k9 => k_is)
    (case a10 => k_is)
    (case l10 => k_is)
    (case c10 => k_is)
    (case k10 => k_is)
    (case a11 => k_is)
    (case l11 => k_is)
    (case c11 => k_is)
    (case k11 => k_is)
    (case a12 => k_is)
    (case l12 => k_is)
    (case c12 => k_is)
    (case k12 => k_is)
    (case a13 => k_is)
    (case l13 => k_is)
    (case c13 => k_is)
    (case k13 => k_is)
    (case a14 => k_is)
    (case l14 => k_is)
    (case c14 => k_is)
    (case k14 => k_is)
    (case a15 => k_is)
    (case l15 => k_is)
    (case c15 => k_is)
    (case k15 => k_is)
    (case a16 => k_is)
    (case l16 => k_is)
    (case c16 => k_is)
    (case k16 => k_is)
    (case a17 => k_is)
    (case l17 => k_is)
    (case c17 => k_is)
    (case k17 => k_is)
    (case z_abs => k_is)
    (case z_enumerate => k_is)
    (case z_int => k_is)
    (case z_len => k_is)
    (case z_list => k_is)
    (case z_max => k_is)
    (case z_min => k_is)
    (case z_range => k_is)
    (case z_repr => k_is)
    (case z_sum => k_is)
    (case z_tuple => k_is)
    (case z_zip => k_is)

